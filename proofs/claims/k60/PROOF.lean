import PyProof.Rows.All
import Wide.All
import OpenK.AllK
import Wide.FinOn
import HandS.ForMost
import HandS.ForExc
import HandS.Wide
import HandS.TupMul
import HandS.Flow
import HandS.Deep
import HandS.Text
import HandS.Conv
import KE.KTupSum
import PyProof.StrOps2
import KE.KIntText
import HandS.WideBits
import HandS.TupLe
import HandS.TupAny
import HandS.IsInst
import KE.KRevIter
import HandS.Rev
import HandS.RevTup
import HandS.Zip
import KE.GoesZip
import KE.GoesMore
import HandS.More
import HandS.ExcInit
import HandS.CallSlots
import HandS.Strs
import KE.KExcIs
import HandS.ExcValue
import HandS.WordsExc
import HandS.Codes
import HandS.Set
import PyProof.Rows.SetFrom
import HandS.TryOnly
import HandS.TryMany
import HandS.Small
import HandS.Words
import HandS.HeadHook3
import KE.BitLaws
import KE.KBits
import KE.OsArith
import PySem.Challenge.RW_stackwarden_k60_doors
set_option Elab.async false
set_option linter.all false
set_option autoImplicit false
set_option maxRecDepth 100000
set_option maxHeartbeats 8000000
namespace RR
open PySem L2

inductive D where
  | non | bl (b : Bool) | int (i : Int) | str (s : Str)
  | tup (xs : List D) | lst (xs : List D) | dic (kvs : List (Key × D)) | xn (c : Str) (fs : List (Str × D)) | obj (n : Nat)
/-- a thing of the heap -/
inductive Ob where
  | lst (ds : List D) | dic (kvs : List (Key × D)) | inst (c : Str) (fs : List (Str × D)) | dead
abbrev HP := List Ob
abbrev LINE : Nat := 16777216

mutual
def D.pd : D → PyData
  | .non => .none | .bl b => .bool b | .int i => .int i | .str s => .str s
  | .tup xs => .tuple (pds xs) | .lst xs => .list (pds xs) | .dic _ => .dict [] | .xn _ _ => .dict [] | .obj _ => .dict []
def pds : List D → List PyData
  | [] => []
  | x :: xs => x.pd :: pds xs
end
mutual
/-- no list, no dict, no object within -/
def D.noL : D → Bool
  | .non => true | .bl _ => true | .int _ => true | .str _ => true
  | .tup xs => noLs xs | .lst _ => false | .dic _ => false | .xn _ _ => false | .obj _ => false
def noLs : List D → Bool
  | [] => true
  | x :: xs => x.noL && noLs xs
end
mutual
/-- nothing of the heap within -/
def D.noO : D → Bool
  | .non => true | .bl _ => true | .int _ => true | .str _ => true
  | .tup xs => noOs xs | .lst xs => noOs xs | .dic kvs => noOk kvs | .xn _ _ => false | .obj _ => false
def noOs : List D → Bool
  | [] => true
  | x :: xs => x.noO && noOs xs
def noOk : List (Key × D) → Bool
  | [] => true
  | (_, x) :: xs => x.noO && noOk xs
end
def noOf : List (Str × D) → Bool
  | [] => true
  | (_, x) :: xs => x.noO && noOf xs
def noLf : List (Str × D) → Bool
  | [] => true
  | (_, x) :: xs => x.noL && noLf xs
/-- an exception whose fields hold nothing of the heap; nor lists -/
def D.xok : D → Bool
  | .xn _ fs => noOf fs | _ => false
def D.xnoL : D → Bool
  | .xn _ fs => noLf fs | _ => false
def D.flat : D → Bool
  | .non => true | .bl _ => true | .int _ => true | .str _ => true | _ => false
/-- a fresh list of such things, or such a thing -/
def D.noLq (d : D) (fr : Bool) : Bool := match d with
  | .lst xs => fr && noLs xs
  | d => d.noL
def D.isL : D → Bool
  | .lst _ => true | _ => false
def D.isC : D → Bool
  | .lst _ => true | .dic _ => true | _ => false
/-- a thing of the heap is looked at -/
def vw (h : HP) (d : D) : D := match d with
  | .obj n => match h[n]? with
    | some (.lst ds) => .lst ds
    | some (.dic kvs) => .dic kvs
    | _ => .obj n
  | d => d

/-- a name without its mark: a def may be read in two ways, f and f' -/
def bs (f : Str) : Str := if f.cps.contains 39 then ⟨(f.cps.toList.takeWhile fun c => c != 39).toArray⟩ else f
/-- a thing with all that is of the heap within, as it stands -/
def rsv : Nat → HP → D → D
  | 0, _, d => d
  | n + 1, h, .obj k => match h[k]? with
    | some (.lst ds) => .lst (ds.map (rsv n h))
    | some (.dic kvs) => .dic (kvs.map fun p => (p.1, rsv n h p.2))
    | _ => .obj k
  | n + 1, h, .tup ds => .tup (ds.map (rsv n h))
  | n + 1, h, .lst ds => .lst (ds.map (rsv n h))
  | _ + 1, _, d => d

inductive Re (ε α : Type) where
  | ok (a : α) (h : HP) | exc (x : ε) (h : HP) | stuck
def Mx (ε α : Type) := HP → Re ε α
abbrev M := Mx D
namespace Mx
variable {ε δ α β : Type}
def pure (a : α) : Mx ε α := fun h => .ok a h
def exc (x : ε) : Mx ε α := fun h => .exc x h
def st : Mx ε α := fun _ => .stuck
def bind (m : Mx ε α) (k : α → Mx ε β) : Mx ε β := fun h => match m h with
  | .ok a h' => k a h' | .exc x h' => .exc x h' | .stuck => .stuck
def lift (o : Option α) : Mx ε α := match o with
  | some a => pure a | none => st
/-- what is raised is told with f -/
def tell (f : ε → δ) (m : Mx ε α) : Mx δ α := fun h => match m h with
  | .ok a h' => .ok a h' | .exc x h' => .exc (f x) h' | .stuck => .stuck
/-- where nothing may be raised -/
def nox (m : Mx ε α) : Mx ε α := fun h => match m h with
  | .ok a h' => .ok a h' | .exc _ _ => .stuck | .stuck => .stuck
@[simp] theorem nox_pure (a : α) : (pure a : Mx ε α).nox = pure a := rfl
@[simp] theorem nox_st : (st : Mx ε α).nox = st := rfl
@[simp] theorem nox_bind (m : Mx ε α) (k : α → Mx ε β) : (m.bind k).nox = m.nox.bind fun a => (k a).nox := by
  funext h
  simp only [nox, bind]
  cases m h <;> rfl
@[simp] theorem pure_bind (a : α) (k : α → Mx ε β) : (pure a : Mx ε α).bind k = k a := by funext h; rfl
@[simp] theorem exc_bind (x : ε) (k : α → Mx ε β) : (exc x : Mx ε α).bind k = exc x := rfl
@[simp] theorem st_bind (k : α → Mx ε β) : (st : Mx ε α).bind k = st := rfl
@[simp] theorem bind_assoc {γ : Type} (m : Mx ε α) (k : α → Mx ε β) (l : β → Mx ε γ) : (m.bind k).bind l = m.bind fun a => (k a).bind l := by
  funext h
  simp only [bind]
  cases m h <;> rfl
theorem bind_pure (m : Mx ε α) : m.bind pure = m := by
  funext h
  simp only [bind]
  cases m h <;> rfl
@[simp] theorem lift_some (a : α) : (lift (some a) : Mx ε α) = pure a := by funext h; rfl
@[simp] theorem lift_none : (lift (none : Option α) : Mx ε α) = st := rfl
@[simp] theorem tell_pure (f : ε → δ) (a : α) : (pure a : Mx ε α).tell f = pure a := rfl
@[simp] theorem tell_exc (f : ε → δ) (x : ε) : (exc x : Mx ε α).tell f = exc (f x) := rfl
@[simp] theorem tell_st (f : ε → δ) : (st : Mx ε α).tell f = st := rfl
@[simp] theorem tell_bind (f : ε → δ) (m : Mx ε α) (k : α → Mx ε β) : (m.bind k).tell f = (m.tell f).bind fun a => (k a).tell f := by
  funext h
  simp only [tell, bind]
  cases m h <;> rfl
@[simp] theorem tell_tell {γ : Type} (f : ε → δ) (g : δ → γ) (m : Mx ε α) : (m.tell f).tell g = m.tell fun x => g (f x) := by
  funext h
  simp only [tell]
  cases m h <;> rfl
@[simp] theorem tell_id (m : Mx ε α) : m.tell (fun x => x) = m := by
  funext h
  simp only [tell]
  cases m h <;> rfl
end Mx
inductive Sl where
  | un | val (d : D) | own (d : D)
abbrev RS := List Sl

def mulOk (i j : Int) : Bool := decide (-(2 ^ 64) < i ∧ i < 2 ^ 64) || decide (-(2 ^ 64) < j ∧ j < 2 ^ 64) || decide (i.natAbs.log2 + j.natAbs.log2 < 1000000)
def powOk (i j : Int) : Bool := decide (0 ≤ j ∧ j ≤ 1000000 ∧ i.natAbs < 2 ^ 64)
/-- a text, some times -/
def repS (z : Str) (k : Int) : Str := ⟨((List.replicate k.toNat z.cps.toList).flatten).toArray⟩
def binD (op : Operator) (x y : D) : Option D := match op, x, y with
  | .Add, .int i, .int j => some (.int (i + j))
  | .Add, .str s, .str t => if s.length + t.length ≤ LINE then some (.str (s ++ t)) else none
  | .Add, .lst xs, .lst ys => if xs.length + ys.length ≤ LINE then some (.lst (xs ++ ys)) else none
  | .Add, .tup xs, .tup ys => if xs.length + ys.length ≤ LINE then some (.tup (xs ++ ys)) else none
  | .Sub, .int i, .int j => some (.int (i - j))
  | .Mult, .int i, .int j => if mulOk i j then some (.int (i * j)) else none
  | .Mult, .lst xs, .int k => if decide (-(2 ^ 63) ≤ k ∧ k < 2 ^ 63) && decide (xs.length * k.toNat ≤ LINE) then some (.lst (List.replicate k.toNat xs).flatten) else none
  | .Mult, .tup xs, .int k => if decide (-(2 ^ 62) ≤ k ∧ k ≤ 1000 ∧ xs.length ≤ 1000) then some (.tup (List.replicate k.toNat xs).flatten) else none
  | .Mult, .str z, .int k => if decide (-(2 ^ 62) ≤ k ∧ k ≤ 1000 ∧ z.length ≤ 1000) then some (.str (repS z k)) else none
  | .FloorDiv, .int i, .int j => if decide (0 < j ∧ j.natAbs.log2 < 9000) then some (.int (i / j)) else if decide (j ≠ 0 ∧ j.natAbs.log2 < 9000) then some (.int (i.fdiv j)) else none
  | .Mod, .int i, .int j => if 0 < j then some (.int (i % j)) else if j ≠ 0 then some (.int (i.fmod j)) else none
  | .Pow, .int i, .int j => if powOk i j then some (.int (i ^ j.toNat)) else none
  | .LShift, .int i, .int j => if powOk i j then some (.int (i * 2 ^ j.toNat)) else none
  | .RShift, .int i, .int j => if 0 ≤ j then some (.int (i / 2 ^ j.toNat)) else none
  | .BitAnd, .int i, .int j => some (.int (Builtin.bitAnd i j))
  | .BitOr, .int i, .int j => some (.int (Builtin.bitOr i j))
  | _, _, _ => none

def eqD (x y : D) : Option Bool := match x, y with
  | .non, .non => some true | .non, .int _ => some false | .int _, .non => some false | .non, .bl _ => some false | .bl _, .non => some false | .non, .str _ => some false | .str _, .non => some false
  | .int i, .int j => some (decide (i = j)) | .bl i, .bl j => some (decide (i = j)) | .str i, .str j => some (decide (i = j))
  | .int _, .str _ => some false | .str _, .int _ => some false | .bl _, .str _ => some false | .str _, .bl _ => some false
  | x, y => if SeqAt.shaped x.pd && SeqAt.shaped y.pd then some (PyData.eqv x.pd y.pd) else none
def inD (x y : D) : Option Bool := match y with
  | .lst ys => if x.flat && ys.all D.flat then some (ys.any fun z => PyData.eqv z.pd x.pd) else
      if SeqAt.shaped x.pd && SeqAt.shaped (D.lst ys).pd then some (ys.any fun z => PyData.eqv z.pd x.pd) else none
  | .tup ys => if x.flat && ys.all D.flat then some (ys.any fun z => PyData.eqv z.pd x.pd) else none
  | .str t => match x with
    | .str s => some (!(Builtin.Str.occurrences t s 0 t.length 1).isEmpty)
    | _ => none
  | _ => none
def cmpD (op : CmpOp) (x y : D) : Option Bool := match op with
  | .Eq => eqD x y
  | .NotEq => (eqD x y).map (!·)
  | .Lt => match x, y with
    | .int i, .int j => some (decide (i < j)) | .str i, .str j => some (decide (i.cps.toList < j.cps.toList)) | _, _ => none
  | .LtE => match x, y with
    | .int i, .int j => some (decide (i ≤ j)) | _, _ => none
  | .Gt => match x, y with
    | .int i, .int j => some (decide (j < i)) | _, _ => none
  | .GtE => match x, y with
    | .int i, .int j => some (decide (j ≤ i)) | _, _ => none
  | .In => inD x y
  | .NotIn => (inD x y).map (!·)
  | .Is => match y with
    | .non => match x with | .non => some true | _ => some false
    | .bl b => match x with | .bl a => some (decide (a = b)) | _ => none
    | _ => none
  | .IsNot => match y with
    | .non => match x with | .non => some false | _ => some true
    | .bl b => match x with | .bl a => some (!decide (a = b)) | _ => none
    | _ => none

def cutL {α : Type} (xs : List α) (lo hi : Option Int) : List α := (xs.drop (HT.sIx xs.length 0 lo)).take (HT.sIx xs.length xs.length hi - HT.sIx xs.length 0 lo)
def idxD (x y : D) : Option D := match x, y with
  | .lst xs, .int i => (atI xs i).map fun d => d
  | .tup xs, .int i => (atI xs i).map fun d => d
  | .str z, .int i => if z.length ≤ LINE then (atI z.cps.toList i).map fun c => .str ⟨#[c]⟩ else none
  | _, _ => none
def slcD (x : D) (lo hi : Option Int) : Option D := match x with
  | .lst xs => some (.lst (cutL xs lo hi))
  | .tup xs => some (.tup (cutL xs lo hi))
  | .str z => if z.length ≤ LINE then some (.str (cutS z lo hi)) else none
  | _ => none
def oiD : D → Option (Option Int)
  | .non => some none | .int i => some (some i) | _ => none
def tru : D → Option Bool
  | .non => some false | .bl b => some b | .int i => some (decide (i ≠ 0))
  | .str s => if s.length ≤ LINE then some (decide (s.length ≠ 0)) else none
  | .tup xs => some (!xs.isEmpty) | .lst xs => some (!xs.isEmpty) | .dic kvs => some (!kvs.isEmpty) | .obj _ => none | .xn _ _ => none
def isiD (ty : Str) (x : D) : Option Bool :=
  if ty = "int" then (match x with | .int _ => some true | .bl _ => some true | .obj _ => none | .xn _ _ => none | _ => some false)
  else if ty = "bool" then (match x with | .bl _ => some true | .obj _ => none | .xn _ _ => none | _ => some false)
  else if ty = "str" then (match x with | .str _ => some true | .obj _ => none | .xn _ _ => none | _ => some false)
  else if ty = "tuple" then (match x with | .tup _ => some true | .obj _ => none | .xn _ _ => none | _ => some false)
  else if ty = "list" then (match x with | .lst _ => some true | .obj _ => none | .xn _ _ => none | _ => some false)
  else none
def allBl : List D → Option (List Bool)
  | [] => some []
  | .bl b :: r => (allBl r).map (b :: ·)
  | _ :: _ => none
def allStr : List D → Option (List Str)
  | [] => some []
  | .str b :: r => (allStr r).map (b :: ·)
  | _ :: _ => none
def allInt : List D → Option (List Int)
  | [] => some []
  | .int b :: r => (allInt r).map (b :: ·)
  | _ :: _ => none
/-- built-ins by name -/
def biD (f : Str) (as : List D) : Option D :=
  if f = "len" then (match as with
    | [.lst xs] => some (.int xs.length) | [.tup xs] => some (.int xs.length)
    | [.str s] => if s.length ≤ LINE then some (.int s.length) else none
    | _ => none)
  else if f = "list" then (match as with
    | [.lst xs] => some (.lst xs) | [.tup xs] => some (.lst xs) | _ => none)
  else if f = "tuple" then (match as with
    | [.lst xs] => some (.tup xs) | [.tup xs] => some (.tup xs) | _ => none)
  else if f = "int" then (match as with
    | [.int i] => some (.int i) | [.bl b] => some (.int (if b then 1 else 0))
    | [.str x] => if x.length ≤ 640 then (intText? x).map .int else none
    | _ => none)
  else if f = "max" then (match as with
    | [.int i, .int j] => some (.int (if j > i then j else i))
    | [.lst xs] => (allInt xs).bind fun ns => ns.max?.map .int
    | _ => none)
  else if f = "min" then (match as with
    | [.int i, .int j] => some (.int (if j < i then j else i))
    | [.lst xs] => (allInt xs).bind fun ns => ns.min?.map .int
    | _ => none)
  else if f = "all" then (match as with
    | [.lst xs] => (allBl xs).map fun bs => .bl (bs.all id) | _ => none)
  else if f = "sum" then (match as with
    | [.lst xs] => (allInt xs).map fun bs => .int bs.sum
    | [.tup xs] => (allInt xs).map fun bs => .int bs.sum
    | _ => none)
  else if f = "divmod" then (match as with
    | [.int i, .int j] => if decide (j ≠ 0) && !Builtin.divisionGoesByPylong i j then some (.tup [.int (i.fdiv j), .int (i.fmod j)]) else none | _ => none)
  else if f = "abs" then (match as with
    | [.int i] => some (.int (if i < 0 then -i else i)) | _ => none)
  else if f = "str" then (match as with
    | [.int i] => if i.natAbs.log2 < 1920 then some (.str (toString i)) else none | _ => none)
  else if f = "bool" then (match as with
    | [.int i] => some (.bl (i != 0)) | [.bl b] => some (.bl b) | _ => none)
  else none
/-- methods that change nothing, by name -/
def mtdD (m : Str) (x : D) (as : List D) : Option D :=
  if m = "join" then (match x, as with
    | .str a, [.lst xs] => (allStr xs).bind fun ys => if (ys.map (·.length)).sum + ys.length * a.length ≤ LINE then some (.str (Txt.join a ys)) else none
    | _, _ => none)
  else if m = "split" then (match x, as with
    | .str a, [] => if a.length + 2 ≤ LINE then some (.lst ((Txt.words a).map .str)) else none
    | .str a, [.str b] => if (b.length == 0) = false ∧ a.length + 2 ≤ LINE then some (.lst ((Txt.split a b).map .str)) else none
    | _, _ => none)
  else if m = "partition" then (match x, as with
    | .str a, [.str b] => if (b.length == 0) = false ∧ a.length ≤ LINE then some (.tup [.str (Txt.partition a b).1, .str (Txt.partition a b).2.1, .str (Txt.partition a b).2.2]) else none
    | _, _ => none)
  else if m = "isdigit" then (match x, as with
    | .str a, [] => some (.bl (Txt.isdigit a)) | _, _ => none)
  else if m = "startswith" then (match x, as with
    | .str a, [.str b] => some (.bl (Txt.startswith a b)) | _, _ => none)
  else if m = "upper" then (match x, as with
    | .str a, [] => if a.length ≤ 5592405 then some (.str (Txt.upper a)) else none | _, _ => none)
  else none
/-- methods that change a list -/
def mutD (m : Str) (ds : List D) (as : List D) : Option (D × List D) :=
  if m = "append" then (match as with
    | [x] => if ds.length < LINE then some (.non, ds ++ [x]) else none | _ => none)
  else if m = "pop" then (match as with
    | [] => match ds[ds.length - 1]? with
      | some x => some (x, ds.dropLast) | none => none
    | [.int i] => if decide (-(2 ^ 63) ≤ i ∧ i < 2 ^ 63) then (match seqIndex? i ds.length with
      | some k => match ds[k]? with
        | some x => some (x, ds.eraseIdx k) | none => none
      | none => none) else none
    | _ => none)
  else if m = "clear" then (match as with
    | [] => some (.non, []) | _ => none)
  else if m = "reverse" then (match as with
    | [] => some (.non, ds.reverse) | _ => none)
  else if m = "insert" then (match as with
    | [.int i, x] => if decide (0 ≤ i ∧ i < 2 ^ 63) && decide (ds.length < LINE) then some (.non, ds.take i.toNat ++ [x] ++ ds.drop i.toNat) else none | _ => none)
  else none
def keyD : D → Option Key
  | .int i => some (.inl i) | .str s => some (.inr s) | _ => none
/-- d[k], where it is there -/
def getD_ (kvs : List (Key × D)) (k : D) : Option D := (keyD k).bind fun k => (kvs.find? fun p => decide (p.1 = k)).map (·.2)
def putD (kvs : List (Key × D)) (k : Key) (d : D) : List (Key × D) := if (kvs.any fun p => decide (p.1 = k)) = true then kvs.map (fun p => if p.1 = k then (p.1, d) else p) else kvs ++ [(k, d)]
/-- range(..) as items -/
def rngD : List D → Option (List D)
  | [.int n] => if decide (-(2 ^ 62) ≤ n ∧ n ≤ LINE) then some ((List.range n.toNat).map fun (k : Nat) => .int (0 + (k : Int))) else none
  | [.int a, .int b] => if decide (-(2 ^ 62) ≤ a ∧ a < 2 ^ 62 ∧ -(2 ^ 62) ≤ b ∧ b < 2 ^ 62 ∧ b - a ≤ LINE) then some ((List.range (b - a).toNat).map fun (k : Nat) => .int (a + (k : Int))) else none
  | [.int a, .int b, .int c] => if decide (c ≠ 0 ∧ c.natAbs < 1073741824 ∧ Builtin.Range.small a b c = true ∧ Builtin.Range.rangeSize a b c = ((Builtin.Range.rangeSize a b c).toNat : Int) ∧ (Builtin.Range.rangeSize a b c).toNat ≤ LINE) then some ((List.range (Builtin.Range.rangeSize a b c).toNat).map fun (k : Nat) => .int (a + (k : Int) * c)) else none
  | _ => none
def seqD : D → Option (List D)
  | .lst xs => some xs | .tup xs => some xs | _ => none
def enumD : Nat → List D → List D
  | _, [] => []
  | k, x :: xs => .tup [.int k, x] :: enumD (k + 1) xs
def zipD : List D → List D → List D
  | x :: xs, y :: ys => .tup [x, y] :: zipD xs ys
  | _, _ => []

def zipDD (x y : D) : Option (List D) := match x, y with
  | .lst xs, .lst ys => some (zipD xs ys) | .tup xs, .tup ys => some (zipD xs ys) | .tup xs, .lst ys => some (zipD xs ys) | _, _ => none
def enumDD : D → Option (List D)
  | .lst xs => some (enumD 0 xs) | _ => none
def revDD : D → Option (List D)
  | .lst xs => some xs.reverse | _ => none

/-- x.split(y) -/
def strD : D → Option Str
  | .str z => some z | _ => none
def splD (a : Str) (y : D) : Option (List D) := match y with
  | .str b => if (b.length == 0) = false ∧ a.length + 2 ≤ LINE then some ((Txt.split a b).map .str) else none
  | _ => none
def mapOk (o : Option D) : Bool := o.isSome

inductive Tg where
  | nm (i : Nat) | tp (ts : List Nat)
mutual
inductive C where
  | int (i : Int) | str (s : Str) | bl (b : Bool) | non
  | var (i : Nat) | pk (i : Nat) | glob (x : Str)
  | bin (op : Operator) (a b : C) | neg (a : C) | not (a : C)
  | and (as : Cs) | or (as : Cs)
  | cmp (op : CmpOp) (a b : C) | chn (op op' : CmpOp) (a b c : C)
  | ite (c a b : C)
  | tup (es : Cs) | lst (es : Cs)
  | idx (a i : C) | slc (a : C) (lo hi : Oc)
  | call (f : Str) (as : Cs) | iso (f : Str) (as : Cs)
  | bi (f : Str) (as : Cs) | isi (ty : Str) (a : C)
  | lc (elt : C) (tg : Tg) (it : It) (cd : Oc)
  | rvl (a : C) | lrg (a : C) | spl (a b : C)
  | new (c : C) | isr (f : Str) (as : Cs) | mut (m : Str) (c : C) (as : Cs) | mtd (m : Str) (c : C) (as : Cs)
  | dnew | dget (a k : C) | din (ng : Bool) (k a : C)
  | gget (x : Str) (k d : C) | ixf (t : Bool) (a b : C) | ch3 (o1 o2 o3 : CmpOp) (a b c d : C)
  | fld (c : C) (f : Str) | isx (cls : Str) (c : C) | mk (cls : Str) (as : Cs) | mth (fr : Bool) (c : C) (m : Str) (as : Cs) | ni (cls : Str) (as : Cs) | lset (a : C)
  | lco (elt : C) (tg : Tg) (c : C) (cd : Oc)
inductive Oc where
  | no | so (c : C)
inductive Cs where
  | nil | cons (c : C) (r : Cs)
inductive It where
  | seq (c : C) | rng (as : Cs) | enm (c : C) | zip (a b : C) | rev (c : C)
end
mutual
inductive S where
  | set (i : Nat) (c : C) | seto (i : Nat) (c : C) | unp (ts : List Nat) (c : C)
  | sidx (i : Nat) (ix c : C) | aug (i : Nat) (op : Operator) (c : C)
  | app (i : Nat) (c : C) | pop (i : Nat) | exl (i : Nat) (c : C)
  | frz (i : Nat) | kill (is : List Nat)
  | ex (c : C) | ret (c : C) | retf (c : C) | retv (i : Nat) | retN
  | ite (c : C) (a b : Ss)
  | for (tg : Tg) (it : It) (b : Ss) | whl (c : C) (b : Ss)
  | pas | cont | brk
  | hpi (i : Nat) | nev | spop (j i : Nat) (ix : Oc) | hset (c ix e : C) | dset (i : Nat) (k c : C)
  | fset (c : C) (f : Str) (e : C) | faug (c : C) (f : Str) (op : Operator) (i : Int) | foro (tg : Tg) (c : C) (b : Ss) | mext (c e : C) | rai (cls : Str) (as : Cs) | try (b : Ss) (hs : Hs) (el : Ss)
inductive Ss where
  | nil | cons (s : S) (r : Ss)
/-- except clauses -/
inductive Hs where
  | nil | cons (cls : Str) (i : Option Nat) (b : Ss) (r : Hs)
end
def Cs.len : Cs → Nat
  | .nil => 0 | .cons _ r => r.len + 1
def It.sz : It → Bool
  | .seq _ => true | .rng _ => true | _ => false
def C.isPk : C → Bool
  | .pk _ => true | _ => false
def Cs.hasPk : Cs → Bool
  | .nil => false
  | .cons c r => c.isPk || r.hasPk

structure Cfg where
  call : Str → List D → M D
  fresh : Str → Bool
  glob : Str → Option D
  /-- is a class under another one; an exception class's fields -/
  isa : Str → Str → Option Bool
  xfs : Str → Option (List Str)
  /-- a dict of the module, by texts -/
  dct : Str → Option (List (Str × D))
  /-- how deep calls may go -/
  lv : Nat
  /-- a class's instances: their fields; its methods; its __init__ -/
  ins : Str → Option (List Str)
  mth : Str → Str → Option Str
  mkc : Str → List D → M D
/-- is what comes of this code a list of nobody's? -/
def frC (Γ : Cfg) : C → D → Bool
  | .lst _, _ => true | .lc .., _ => true | .rvl _, _ => true | .lrg _, _ => true | .spl .., _ => true
  | .bin .., d => d.isL | .slc .., d => d.isL | .bi .., d => d.isL
  | .call f _, _ => Γ.fresh f | .iso f _, _ => Γ.fresh f | .isr f _, _ => Γ.fresh f
  | .mtd .., d => d.isL | .dnew, _ => true | .mth fr _ _ _, _ => fr | .lco .., _ => true
  | _, _ => false
def asg (tg : Tg) (d : D) (s : RS) : Option RS := match tg with
  | .nm i => some (s.set i (.val d))
  | .tp ts => match d with
    | .tup ds => if ds.length = ts.length then some ((ts.zip ds).foldl (fun sl p => sl.set p.1 (.val p.2)) s) else none
    | _ => none
def Tg.ix : Tg → List Nat
  | .nm i => [i] | .tp ts => ts
def slotV (s : RS) (i : Nat) : M D := match s[i]? with
  | some (.val d) => .pure d | _ => .st
def slotP (s : RS) (i : Nat) : M D := match s[i]? with
  | some (.val d) => .pure d | some (.own d) => .pure d | _ => .st
def binM (op : Operator) (x y : D) : M D := fun h => Mx.lift (binD op (vw h x) (vw h y)) h
def cmpM (op : CmpOp) (x y : D) : M Bool := fun h => Mx.lift (cmpD op (vw h x) (vw h y)) h
def idxM (x y : D) : M D := fun h => Mx.lift (idxD (vw h x) y) h
def slcM (x : D) (lo hi : Option Int) : M D := fun h => Mx.lift (slcD (vw h x) lo hi) h
def truM (x : D) : M Bool := fun h => Mx.lift (tru (vw h x)) h
def isiM (ty : Str) (x : D) : M Bool := fun h => Mx.lift (isiD ty (vw h x)) h
def biM (f : Str) (xs : List D) : M D := fun h => Mx.lift (biD f (xs.map (vw h))) h
def negM : D → M D
  | .int i => .pure (.int (-i)) | _ => .st
def blM : D → M Bool
  | .bl b => .pure b | _ => .st
def oiM : Oc → D → M (Option Int)
  | .no, _ => .pure none
  | .so _, .int i => .pure (some i)
  | _, _ => .st
def tupM (ds : List D) : M D := if ds.length ≤ LINE then .pure (.tup ds) else .st
def lstM (ds : List D) : M D := if ds.length ≤ LINE then .pure (.lst ds) else .st
def glM (Γ : Cfg) (x : Str) : M D := .lift (Γ.glob x)
/-- a call by itself, with an empty heap -/
def isoM (pk fr : Bool) (m : M D) : M D := fun h => match m [] with
  | .ok d _ => if d.noO && (!pk || d.noLq fr) then .ok d h else .stuck
  | .exc x _ => if x.xok && (!pk || x.xnoL) then .exc x h else .stuck
  | .stuck => .stuck
/-- the same of things resolved -/
def isrM (fr : Bool) (f : List D → M D) (ds : List D) : M D := fun h => if noOs (ds.map (rsv 9 h)) then isoM true fr (f (ds.map (rsv 9 h))) h else .stuck
/-- a fresh thing is put into the heap -/
def newM (fr : Bool) (d : D) : M D := fun h => match fr, d with
  | true, .lst ds => .ok (.obj h.length) (h ++ [.lst ds])
  | true, .dic ks => .ok (.obj h.length) (h ++ [.dic ks])
  | _, _ => .stuck
/-- a receiver is a list of the heap; a text -/
def lstM_ (x : D) : M Unit := fun h => match x with
  | .obj n => match h[n]? with
    | some (.lst _) => .ok () h | _ => .stuck
  | _ => .stuck
def strM_ : D → M Unit
  | .str _ => .pure () | _ => .st
def mutM (m : Str) (x : D) (as : List D) : M D := fun h => match x with
  | .obj n => match h[n]? with
    | some (.lst ds) => (match mutD m ds as with
      | some (r, ds') => .ok r (h.set n (.lst ds'))
      | none => .stuck)
    | _ => .stuck
  | _ => .stuck
def mtdM (m : Str) (x : D) (as : List D) : M D := fun h => Mx.lift (mtdD m (vw h x) (as.map (vw h))) h
def dgetM (x k : D) : M D := fun h => match vw h x with
  | .dic kvs => Mx.lift (getD_ kvs k) h
  | _ => .stuck
def dinM (ng : Bool) (k x : D) : M D := fun h => match vw h x, keyD k with
  | .dic kvs, some _ => .ok (.bl (ng != (getD_ kvs k).isSome)) h
  | _, _ => .stuck
def objFld (Γ : Cfg) (f : Str) (n : Nat) : M D := fun h => match h[n]? with
  | some (.inst c fs) => (match Γ.ins c with
    | some gs => if gs.contains f then Mx.lift (fs.lookup f) h else .stuck
    | none => .stuck)
  | _ => .stuck
def fldM (Γ : Cfg) (f : Str) : D → M D
  | .xn c fs => match Γ.xfs c with
    | some gs => if gs.contains f then .lift (fs.lookup f) else .st
    | none => .st
  | .obj n => objFld Γ f n
  | _ => .st
/-- a field is put -/
def putFD (f : Str) (v : D) : List (Str × D) → List (Str × D)
  | [] => [(f, v)]
  | (g, x) :: r => if g = f then (g, v) :: r else (g, x) :: putFD f v r
def fsetM (Γ : Cfg) (f : Str) (x d : D) : M Unit := fun h => match x with
  | .obj n => (match h[n]? with
    | some (.inst c fs) => (match Γ.ins c with
      | some gs => if gs.contains f && decide (fs.length < 1000) then .ok () (h.set n (.inst c (putFD f d fs))) else .stuck
      | none => .stuck)
    | _ => .stuck)
  | _ => .stuck
/-- which def a method's name means -/
def clsM (Γ : Cfg) (m : Str) (x : D) : M Str := fun h => match x with
  | .obj n => (match h[n]? with
    | some (.inst c fs) => if (fs.lookup m).isNone then Mx.lift (Γ.mth c m) h else .stuck
    | _ => .stuck)
  | _ => .stuck
def mthM (Γ : Cfg) (fr : Bool) (f : Str) (ds : List D) : M D := if Γ.fresh f = fr then Γ.call f ds else .st
/-- a new instance -/
def niM (Γ : Cfg) (cls : Str) (ds : List D) : M D := fun h => match Γ.ins cls with
  | some _ => (match Γ.mkc cls (.obj h.length :: ds) (h ++ [.inst cls []]) with
    | .ok .non h' => .ok (.obj h.length) h'
    | .ok _ _ => .stuck
    | .exc x h' => .exc x h'
    | .stuck => .stuck)
  | none => .stuck
/-- how many texts there are among some -/
def fmS (xs : List Str) : List Str := xs.foldl (fun acc x => if acc.any (fun y => decide (y = x)) then acc else acc ++ [x]) []
def lsetD (x : D) : Option D := match x with
  | .lst xs => (allStr xs).bind fun ys => if ys.length ≤ 1000 then some (.int ((fmS ys).length : Int)) else none
  | _ => none
def isxM (Γ : Cfg) (cls : Str) : D → M D
  | .xn c _ => (Mx.lift (Γ.isa c cls)).bind fun b => .pure (.bl b)
  | _ => .st
/-- how an exception class is made: not at all, without an __init__, with one -/
def mkG (Γ : Cfg) (cls : Str) : Nat := match Γ.xfs cls with
  | some [] => 1 | some (_ :: _) => if 2 ≤ Γ.lv then 2 else 0 | none => 0
/-- an exception that is made: without fields, or of a class whose __init__ puts its fields -/
def mkX (Γ : Cfg) (cls : Str) (ds : List D) : Option D := match Γ.xfs cls with
  | some fs => if (fs = [] ∧ ds.length ≤ LINE) ∨ (fs ≠ [] ∧ ds.length = fs.length ∧ ds.length ≤ 100) then some (.xn cls (fs.zip ds).reverse) else none
  | none => none
def raiG {α : Type} (k : Bool) (m : α) (z : α) : α := if k then m else z
/-- x.get(k, d), x a dict of the module -/
def ggetD (kvs : List (Str × D)) (z : Str) (d : D) : D := match kvs.lookup z with
  | some v => v | none => d
/-- a.index(b) -/
def ixrM (t : Bool) (x : D) : M Unit := match t, x with
  | true, .tup _ => .pure () | false, .lst _ => .pure () | _, _ => .st
def ixfD (x y : D) : Option D := match x, y with
  | .tup xs, .str z => (allStr xs).bind fun ys => (ys.findIdx? fun w => decide (w = z)).map fun i => .int (i : Int)
  | .lst xs, .str z => (allStr xs).bind fun ys => (ys.findIdx? fun w => decide (w = z)).map fun i => .int (i : Int)
  | _, _ => none
/-- the items of a comprehension -/
def lcL (f : D → M (Option D)) : List D → List D → M (List D)
  | [], acc => .pure acc
  | x :: xs, acc => (f x).bind fun o => match o with
    | some y => lcL f xs (acc ++ [y])
    | none => lcL f xs acc
/-- a comprehension's own slots are free -/
def freeAt (sl : RS) (is : List Nat) : Bool := is.all fun i => match sl[i]? with | some (.own _) => false | some _ => true | none => false
def wipeR (sl : RS) : List Nat → RS
  | [] => sl
  | i :: is => (wipeR sl is).set i .un
def lcStep (s : RS) (tg : Tg) (cd : RS → M Bool) (el : RS → M D) (x : D) : M (Option D) := match asg tg x s with
  | none => .st
  | some s3 => (cd s3).nox.bind fun b => match b with
    | true => (el s3).nox.bind fun d => .pure (some d)
    | false => .pure none
def lcM (s : RS) (tg : Tg) (sz : Bool) (cd : RS → M Bool) (el : RS → M D) (xs : List D) : M D :=
  if freeAt s tg.ix && (sz || decide (xs.length ≤ LINE)) then (lcL (lcStep (wipeR s tg.ix) tg cd el) xs []).bind fun ys => .pure (.lst ys) else .st
/-- a comprehension over a list of the heap -/
def lcO (f : D → M (Option D)) (n : Nat) : Nat → Nat → List D → M (List D)
  | 0, i, acc => fun h => match h[n]? with
    | some (.lst ds) => if ds.length ≤ i then .ok acc h else .stuck
    | _ => .stuck
  | k + 1, i, acc => fun h => match h[n]? with
    | some (.lst ds) => (match ds[i]? with
      | some d => ((f d).bind fun o => match o with
        | some y => lcO f n k (i + 1) (acc ++ [y])
        | none => lcO f n k (i + 1) acc) h
      | none => .ok acc h)
    | _ => .stuck
def lcoM (s : RS) (tg : Tg) (cd : RS → M Bool) (el : RS → M D) (x : D) : M D := fun h => match x with
  | .obj n => (match h[n]? with
    | some (.lst ds) => if freeAt s tg.ix && decide (ds.length ≤ LINE) then ((lcO (lcStep (wipeR s tg.ix) tg cd el) n ds.length 0 []).bind fun ys => .pure (.lst ys)) h else .stuck
    | _ => .stuck)
  | _ => .stuck
section
variable (Γ : Cfg)
mutual
def evE : C → RS → M D
  | .int i, _ => .pure (.int i)
  | .str x, _ => .pure (.str x)
  | .bl b, _ => .pure (.bl b)
  | .non, _ => .pure .non
  | .var i, s => slotV s i
  | .pk i, s => slotP s i
  | .glob x, _ => glM Γ x
  | .bin op a b, s => (evE a s).bind fun x => (evE b s).bind fun y => binM op x y
  | .neg a, s => (evE a s).bind negM
  | .not a, s => (evE a s).bind fun x => (truM x).bind fun b => .pure (.bl (!b))
  | .and as, s => evAnd as s
  | .or as, s => evOr as s
  | .cmp op a b, s => (evE a s).bind fun x => (evE b s).bind fun y => (cmpM op x y).bind fun c => .pure (.bl c)
  | .chn op op' a b c, s => (evE a s).bind fun x => (evE b s).bind fun y => (cmpM op x y).bind fun k => match k with
    | true => (evE c s).bind fun z => (cmpM op' y z).bind fun k2 => .pure (.bl k2)
    | false => .pure (.bl false)
  | .ite c a b, s => (evT c s).bind fun k => match k with | true => evE a s | false => evE b s
  | .tup es, s => (evCs es s).bind tupM
  | .lst es, s => (evCs es s).bind lstM
  | .idx a i, s => (evE a s).bind fun x => (evE i s).bind fun y => idxM x y
  | .slc a lo hi, s => (evE a s).bind fun x => (evOc lo s).bind fun l => (oiM lo l).bind fun l' => (evOc hi s).bind fun h => (oiM hi h).bind fun h' => slcM x l' h'
  | .call f as, s => (evCs as s).bind fun ds => Γ.call f ds
  | .iso f as, s => (evCs as s).bind fun ds => if noOs ds then isoM as.hasPk (Γ.fresh f) (Γ.call f ds) else .st
  | .bi f as, s => (evCs as s).bind fun ds => biM f ds
  | .isi ty a, s => (evE a s).bind fun x => (isiM ty x).bind fun b => .pure (.bl b)
  | .lc elt tg it cd, s => (evIt it s).bind fun xs => lcM s tg it.sz (evOcT cd) (evE elt) xs
  | .rvl a, s => (evE a s).bind fun x => (Mx.lift (revDD x)).bind fun ys => .pure (.lst ys)
  | .lrg a, s => (evE a s).bind fun x => (Mx.lift (rngD [x])).bind fun ys => .pure (.lst ys)
  | .spl a b, s => (evE a s).bind fun x => (Mx.lift (strD x)).bind fun z => (evE b s).bind fun y => (Mx.lift (splD z y)).bind fun ys => .pure (.lst ys)
  | .new c, s => (evE c s).bind fun d => newM (frC Γ c d) d
  | .isr f as, s => (evCs as s).bind fun ds => isrM (Γ.fresh f) (Γ.call f) ds
  | .mut m c as, s => (evE c s).bind fun x => (lstM_ x).bind fun _ => (evCs as s).bind fun ds => mutM m x ds
  | .mtd m c as, s => (evE c s).bind fun x => (strM_ x).bind fun _ => (evCs as s).bind fun ds => mtdM m x ds
  | .dnew, _ => .pure (.dic [])
  | .dget a k, s => (evE a s).bind fun x => (evE k s).bind fun y => dgetM x y
  | .din ng k a, s => (evE k s).bind fun y => (evE a s).bind fun x => dinM ng y x
  | .fld c f, s => (evE c s).bind (fldM Γ f)
  | .isx cls c, s => (evE c s).bind (isxM Γ cls)
  | .mk cls as, s => raiG (decide (mkG Γ cls = 2)) ((evCs as s).bind fun ds => .lift (mkX Γ cls ds)) .st
  | .mth fr c m as, s => (evE c s).bind fun x => (clsM Γ m x).bind fun f => (evCs as s).bind fun ds => mthM Γ fr f (x :: ds)
  | .ni cls as, s => raiG (decide ((Γ.ins cls).isSome = true ∧ Γ.lv ≠ 0)) ((evCs as s).bind fun ds => niM Γ cls ds) .st
  | .lco elt tg c cd, s => (evE c s).bind fun x => lcoM s tg (evOcT cd) (evE elt) x
  | .lset a, s => (evE a s).bind fun x => .lift (lsetD x)
  | .gget x k d, s => (Mx.lift (Γ.dct x)).bind fun kvs => (evE k s).bind fun y => (Mx.lift (strD y)).bind fun z => (evE d s).bind fun u => .pure (ggetD kvs z u)
  | .ixf t a b, s => (evE a s).bind fun x => (ixrM t x).bind fun _ => (evE b s).bind fun y => .lift (ixfD x y)
  | .ch3 o1 o2 o3 a b c d, s => (evE a s).bind fun x => (evE b s).bind fun y => (cmpM o1 x y).bind fun k => match k with
    | true => (evE c s).bind fun z => (cmpM o2 y z).bind fun k2 => match k2 with
      | true => (evE d s).bind fun u => (cmpM o3 z u).bind fun k3 => .pure (.bl k3)
      | false => .pure (.bl false)
    | false => .pure (.bl false)
/-- as a test -/
def evT : C → RS → M Bool
  | .and as, s => evTAnd as s
  | .or as, s => evTOr as s
  | .not a, s => (evT a s).bind fun b => .pure (!b)
  | .cmp op a b, s => (evE a s).bind fun x => (evE b s).bind fun y => cmpM op x y
  | .chn op op' a b c, s => (evE a s).bind fun x => (evE b s).bind fun y => (cmpM op x y).bind fun k => match k with
    | true => (evE c s).bind fun z => cmpM op' y z
    | false => .pure false
  | .ite _ _ _, _ => .st
  | .ch3 .., _ => .st
  | c, s => (evE c s).bind truM
def evAnd : Cs → RS → M D
  | .nil, _ => .st
  | .cons a .nil, s => evE a s
  | .cons a r, s => (evE a s).bind fun x => (blM x).bind fun b => match b with
    | true => evAnd r s | false => .pure (.bl false)
def evOr : Cs → RS → M D
  | .nil, _ => .st
  | .cons a .nil, s => evE a s
  | .cons a r, s => (evE a s).bind fun x => (blM x).bind fun b => match b with
    | true => .pure (.bl true) | false => evOr r s
def evTAnd : Cs → RS → M Bool
  | .nil, _ => .st
  | .cons a .nil, s => evT a s
  | .cons a r, s => (evT a s).bind fun x => match x with | true => evTAnd r s | false => .pure false
def evTOr : Cs → RS → M Bool
  | .nil, _ => .st
  | .cons a .nil, s => evT a s
  | .cons a r, s => (evT a s).bind fun x => match x with | true => .pure true | false => evTOr r s
def evOc : Oc → RS → M D
  | .no, _ => .pure .non
  | .so c, s => evE c s
def evOcT : Oc → RS → M Bool
  | .no, _ => .pure true
  | .so c, s => evT c s
def evCs : Cs → RS → M (List D)
  | .nil, _ => .pure []
  | .cons c r, s => (evE c s).bind fun x => (evCs r s).bind fun xs => .pure (x :: xs)
def evIt : It → RS → M (List D)
  | .seq c, s => (evE c s).bind fun x => .lift (seqD x)
  | .rng as, s => (evCs as s).bind fun ds => .lift (rngD ds)
  | .enm c, s => (evE c s).bind fun x => .lift (enumDD x)
  | .zip a b, s => (evE a s).bind fun x => (evE b s).bind fun y => .lift (zipDD x y)
  | .rev c, s => (evE c s).bind fun x => .lift (revDD x)
end
end

/-- how a statement ends -/
inductive Fl where
  | nx (s : RS) | rt (d : D) (fr : Bool) | bk (s : RS) | ct (s : RS)
abbrev MS := Mx (D × RS)
/-- what an expression raises, raised here -/
def at_ {α : Type} (s : RS) (m : M α) : MS α := m.tell fun x => (x, s)
def thn (m : MS Fl) (k : RS → MS Fl) : MS Fl := m.bind fun f => match f with
  | .nx s => k s | .rt d fr => .pure (.rt d fr) | .bk s => .pure (.bk s) | .ct s => .pure (.ct s)
def forL (f : D → RS → MS Fl) : List D → RS → MS Fl
  | [], s => .pure (.nx s)
  | x :: xs, s => (f x s).bind fun o => match o with
    | .nx s1 => forL f xs s1 | .ct s1 => forL f xs s1 | .bk s1 => .pure (.nx s1)
    | .rt d fr => .pure (.rt d fr)
def forStep (tg : Tg) (b : RS → MS Fl) (x : D) (s2 : RS) : MS Fl := match asg tg x s2 with
  | some s3 => b s3 | none => .st
def whlN (c : RS → M Bool) (b : RS → MS Fl) : Nat → RS → MS Fl
  | 0, _ => .st
  | n + 1, s => (at_ s (c s)).bind fun k => match k with
    | true => (b s).bind fun o => (match o with
      | .nx s2 => whlN c b n s2 | .ct s2 => whlN c b n s2 | .bk s2 => .pure (.nx s2)
      | .rt d fr => .pure (.rt d fr))
    | false => .pure (.nx s)
open Classical in
noncomputable def whl (c : RS → M Bool) (b : RS → MS Fl) (s : RS) : MS Fl := fun h => if e : ∃ n, whlN c b n s h ≠ .stuck then whlN c b (Classical.choose e) s h else .stuck
theorem bind_ok {ε α β : Type} {m : Mx ε α} {k : α → Mx ε β} {h h' : HP} {a : α} (e : m h = .ok a h') : m.bind k h = k a h' := by
  simp only [Mx.bind]; rw [e]
theorem bind_exc {ε α β : Type} {m : Mx ε α} {k : α → Mx ε β} {h h' : HP} {x : ε} (e : m h = .exc x h') : m.bind k h = .exc x h' := by
  simp only [Mx.bind]; rw [e]
theorem bind_st {ε α β : Type} {m : Mx ε α} {k : α → Mx ε β} {h : HP} (e : m h = .stuck) : m.bind k h = .stuck := by
  simp only [Mx.bind]; rw [e]
theorem whl_ex {c : RS → M Bool} {b : RS → MS Fl} {s : RS} {h : HP} (ne : whl c b s h ≠ .stuck) : ∃ n, whlN c b n s h = whl c b s h := by
  unfold whl at ne ⊢
  by_cases hx : ∃ n, whlN c b n s h ≠ .stuck
  · rw [dif_pos hx]; exact ⟨_, rfl⟩
  · rw [dif_neg hx] at ne; exact absurd rfl ne
/-- a walk over a list of the heap: its items as they stand when their turn comes -/
def forO (f : D → RS → MS Fl) (n : Nat) : Nat → Nat → RS → MS Fl
  | 0, i, s => fun h => match h[n]? with
    | some (.lst ds) => if ds.length ≤ i then .ok (.nx s) h else .stuck
    | _ => .stuck
  | k + 1, i, s => fun h => match h[n]? with
    | some (.lst ds) => (match ds[i]? with
      | some d => ((f d s).bind fun o => match o with
        | .nx s1 => forO f n k (i + 1) s1 | .ct s1 => forO f n k (i + 1) s1 | .bk s1 => .pure (.nx s1)
        | .rt d fr => .pure (.rt d fr)) h
      | none => .ok (.nx s) h)
    | _ => .stuck
def forOS (f : D → RS → MS Fl) (x : D) (s : RS) : MS Fl := fun h => match x with
  | .obj n => (match h[n]? with
    | some (.lst ds) => forO f n ds.length 0 s h
    | _ => .stuck)
  | _ => .stuck
/-- a list of the heap is lengthened by a fresh one -/
def mextM (fr : Bool) (x d : D) : M Unit := fun h => match x, d with
  | .obj n, .lst ys => (match h[n]? with
    | some (.lst ds) => if fr && decide (ds.length + ys.length ≤ LINE) then .ok () (h.set n (.lst (ds ++ ys))) else .stuck
    | _ => .stuck)
  | _, _ => .stuck
/-- a number in a field grows or falls -/
def augI : Operator → Int → Int → Option Int
  | .Add, a, i => some (a + i) | .Sub, a, i => some (a - i) | _, _, _ => none
def faugM (Γ : Cfg) (f : Str) (op : Operator) (i : Int) (x : D) : M Unit := fun h => match x with
  | .obj n => (match h[n]? with
    | some (.inst c fs) => (match Γ.ins c with
      | some gs => if gs.contains f && decide (fs.length < 1000) then (match fs.lookup f with
        | some (.int a) => (match augI op a i with
          | some b => .ok () (h.set n (.inst c (putFD f (.int b) fs)))
          | none => .stuck)
        | _ => .stuck) else .stuck
      | none => .stuck)
    | _ => .stuck)
  | _ => .stuck
def nxo (o : Option RS) : MS Fl := match o with
  | some s => .pure (.nx s) | none => .st
/-- a name that holds a list of its own; that holds a value -/
def ownAt (i : Nat) (s : RS) (r : MS Fl) : MS Fl := match s[i]? with
  | some (.own (.lst _)) => r | _ => .st
def valAt (i : Nat) (s : RS) (r : MS Fl) : MS Fl := match s[i]? with
  | some (.val _) => r | _ => .st
def setS (i : Nat) (k d : D) (s : RS) : MS Fl := match s[i]?, k with
  | some (.own (.lst xs)), .int j => (match ixN xs.length j with
    | some n => .pure (.nx (s.set i (.own (.lst (xs.set n d)))))
    | none => .st)
  | _, _ => .st
def augS (i : Nat) (op : Operator) (y : D) (s : RS) : MS Fl := match op, s[i]?, y with
  | .Add, some (.val (.int a)), .int b => .pure (.nx (s.set i (.val (.int (a + b)))))
  | .Sub, some (.val (.int a)), .int b => .pure (.nx (s.set i (.val (.int (a - b)))))
  | _, _, _ => .st
def appS (i : Nat) (d : D) (s : RS) : MS Fl := match s[i]? with
  | some (.own (.lst xs)) => if xs.length < LINE then .pure (.nx (s.set i (.own (.lst (xs ++ [d]))))) else .st
  | _ => .st
def popS (i : Nat) (s : RS) : MS Fl := match s[i]? with
  | some (.own (.lst xs)) => if xs = [] then .st else .pure (.nx (s.set i (.own (.lst xs.dropLast))))
  | _ => .st
/-- what a name owns is put into the heap -/
def hpiS (i : Nat) (s : RS) : MS Fl := fun h => match s[i]? with
  | some (.own (.lst ds)) => .ok (.nx (s.set i (.val (.obj h.length)))) (h ++ [.lst ds])
  | some (.own (.dic ks)) => .ok (.nx (s.set i (.val (.obj h.length)))) (h ++ [.dic ks])
  | _ => .stuck
/-- j = i.pop(..) -/
def popA : Option Int → List D
  | none => [] | some k => [.int k]
def spopS (j i : Nat) (o : Option Int) (s : RS) : MS Fl := match s[i]? with
  | some (.own (.lst xs)) => (match mutD "pop" xs (popA o) with
    | some (r, ys) => if decide (j ≠ i) then .pure (.nx ((s.set i (.own (.lst ys))).set j (.val r))) else .st
    | none => .st)
  | _ => .st
def hsetS (x k d : D) (s : RS) : MS Fl := fun h => match x, k with
  | .obj n, .int j => (match h[n]? with
    | some (.lst ds) => (match ixN ds.length j with
      | some m => .ok (.nx s) (h.set n (.lst (ds.set m d)))
      | none => .stuck)
    | _ => .stuck)
  | _, _ => .stuck
def dsetS (i : Nat) (k d : D) (s : RS) : MS Fl := match s[i]?, keyD k with
  | some (.own (.dic kvs)), some key => if kvs.length < LINE then .pure (.nx (s.set i (.own (.dic (putD kvs key d))))) else .st
  | _, _ => .st
/-- a name that holds a dict of its own -/
def ownDAt (i : Nat) (s : RS) (r : MS Fl) : MS Fl := match s[i]? with
  | some (.own (.dic _)) => r | _ => .st
/-- behind a suite its name is let go -/
def offI (i : Option Nat) (s : RS) : RS := match i with
  | some i => s.set i .un | none => s
def offF (i : Option Nat) (f : Fl) : MS Fl := match f with
  | .nx s => .pure (.nx (offI i s)) | .ct s => .pure (.ct (offI i s)) | .bk s => .pure (.bk (offI i s)) | .rt d fr => if fr then .st else .pure (.rt d fr)
def onI (i : Option Nat) (x : D) (s : RS) : RS := match i with
  | some i => s.set i (.val x) | none => s
def isX (Γ : Cfg) (x : D) (cls : Str) : Option Bool := match x with
  | .xn c _ => Γ.isa c cls | _ => none
/-- try: b; what is raised goes to hk; behind it el -/
def tryM (b : MS Fl) (hk : D → RS → MS Fl) (el : RS → MS Fl) : MS Fl := fun h => match b h with
  | .ok f h' => (match f with
    | .nx s => el s h' | .rt d fr => .ok (.rt d fr) h' | .bk s => .ok (.bk s) h' | .ct s => .ok (.ct s) h')
  | .exc x h' => hk x.1 x.2 h'
  | .stuck => .stuck
def raiS (Γ : Cfg) (cls : Str) (ds : List D) (s : RS) : MS Fl := match mkX Γ cls ds with
  | some x => .exc (x, s) | none => .st
def exlS (fr : Bool) (i : Nat) (d : D) (s : RS) : MS Fl := match s[i]?, d with
  | some (.own (.lst xs)), .lst ys => if fr && decide (xs.length + ys.length ≤ LINE) then .pure (.nx (s.set i (.own (.lst (xs ++ ys))))) else .st
  | _, _ => .st
def retS (i : Nat) (s : RS) : MS Fl := match s[i]? with
  | some (.own d) => .pure (.rt d true) | _ => .st
def frzS (i : Nat) (s : RS) : MS Fl := match s[i]? with
  | some (.own d) => .pure (.nx (s.set i (.val d))) | _ => .pure (.nx s)
section
variable (Γ : Cfg)
mutual
noncomputable def evS : S → RS → MS Fl
  | .set i c, s => (at_ s (evE Γ c s)).bind fun d => .pure (.nx (s.set i (.val d)))
  | .seto i c, s => (at_ s (evE Γ c s)).bind fun d => if frC Γ c d && d.isC then .pure (.nx (s.set i (.own d))) else .st
  | .unp ts c, s => (at_ s (evE Γ c s)).bind fun d => nxo (asg (.tp ts) d s)
  | .sidx i ix c, s => (at_ s (evE Γ c s)).bind fun d => ownAt i s ((at_ s (evE Γ ix s)).bind fun k => setS i k d s)
  | .aug i op c, s => valAt i s ((at_ s (evE Γ c s)).bind fun y => augS i op y s)
  | .app i c, s => ownAt i s ((at_ s (evE Γ c s)).bind fun d => appS i d s)
  | .pop i, s => popS i s
  | .frz i, s => frzS i s
  | .kill is, s => .pure (.nx (wipeR s is))
  | .ex c, s => (at_ s (evE Γ c s)).bind fun _ => .pure (.nx s)
  | .ret c, s => (at_ s (evE Γ c s)).bind fun d => .pure (.rt d false)
  | .retf c, s => (at_ s (evE Γ c s)).bind fun d => if frC Γ c d then .pure (.rt d true) else .st
  | .retv i, s => retS i s
  | .retN, _ => .pure (.rt .non false)
  | .ite c a b, s => (at_ s (evT Γ c s)).bind fun k => match k with | true => evSs a s | false => evSs b s
  | .for tg it b, s => (at_ s (evIt Γ it s)).bind fun xs => forL (forStep tg (evSs b)) xs s
  | .whl c b, s => whl (evT Γ c) (evSs b) s
  | .pas, s => .pure (.nx s)
  | .cont, s => .pure (.ct s)
  | .brk, s => .pure (.bk s)
  | .nev, _ => .st
  | .hpi i, s => hpiS i s
  | .spop j i ix, s => ownAt i s ((at_ s ((evOc Γ ix s).bind (oiM ix))).bind fun o => spopS j i o s)
  | .hset c ix e, s => (at_ s (evE Γ e s)).bind fun d => (at_ s (evE Γ c s)).bind fun x => (at_ s (evE Γ ix s)).bind fun k => hsetS x k d s
  | .dset i k c, s => (at_ s (evE Γ c s)).bind fun d => ownDAt i s ((at_ s (evE Γ k s)).bind fun y => dsetS i y d s)
  | .fset c f e, s => (at_ s (evE Γ e s)).bind fun d => (at_ s (evE Γ c s)).bind fun x => (at_ s (fsetM Γ f x d)).bind fun _ => .pure (.nx s)
  | .faug c f op i, s => (at_ s (evE Γ c s)).bind fun x => (at_ s (faugM Γ f op i x)).bind fun _ => .pure (.nx s)
  | .mext c e, s => (at_ s (evE Γ c s)).bind fun x => (at_ s (lstM_ x)).bind fun _ => (at_ s (evE Γ e s)).bind fun d => (at_ s (mextM (frC Γ e d) x d)).bind fun _ => .pure (.nx s)
  | .foro tg c b, s => (at_ s (evE Γ c s)).bind fun x => forOS (forStep tg (evSs b)) x s
  | .rai cls as, s => raiG (decide (mkG Γ cls ≠ 0)) ((at_ s (evCs Γ as s)).bind fun ds => raiS Γ cls ds s) .st
  | .exl i c, s => ownAt i s ((at_ s (evE Γ c s)).bind fun d => exlS (frC Γ c d) i d s)
  | .try b hs el, s => tryM (evSs b s) (evHs hs) (evSs el)
noncomputable def evSs : Ss → RS → MS Fl
  | .nil, s => .pure (.nx s)
  | .cons a r, s => thn (evS a s) (evSs r)
noncomputable def evHs : Hs → D → RS → MS Fl
  | .nil, x, s => .exc (x, s)
  | .cons cls i b r, x, s => match isX Γ x cls with
    | some true => (evSs b (onI i x s)).bind (offF i)
    | some false => evHs r x s
    | none => .st
end
end
structure Fn where
  ps : Nat
  fr : Bool
  N : List Str
  body : Ss
/-- how a def ends -/
def finF (fr : Bool) : Fl → MS D
  | .nx _ => if fr then .st else .pure .non
  | .rt d b => if b = fr then .pure d else .st
  | _ => .st
noncomputable def runF (Γ : Cfg) (fn : Fn) (as : List D) : M D :=
  if as.length = fn.ps then ((evSs Γ fn.body (as.map .val ++ List.replicate (fn.N.length - fn.ps) .un)).bind (finF fn.fr)).tell fun p => p.1
  else .st
structure Tb where
  fn : Str → Option Fn
  glob : Str → Option D
  isa : Str → Str → Option Bool
  xfs : Str → Option (List Str)
  dct : Str → Option (List (Str × D))
  ins : Str → Option (List Str)
  mth : Str → Str → Option Str
  ini : Str → Option Str
def Tb.fresh (T : Tb) (f : Str) : Bool := match T.fn f with
  | some fn => fn.fr | none => false
/-- a name of a method: it has a dot -/
def isMt (f : Str) : Bool := f.cps.contains 46
noncomputable def callF (T : Tb) : Nat → Str → List D → M D
  | 0, _, _ => .st
  | 1, f, as => match T.fn f with
    | some fn => runF ⟨fun _ _ => .st, T.fresh, T.glob, T.isa, T.xfs, T.dct, 0, T.ins, T.mth, fun _ _ => .st⟩ fn as
    | none => .st
  | n + 2, f, as => match T.fn f with
    | some fn => runF ⟨callF T (n + 1), T.fresh, T.glob, T.isa, T.xfs, T.dct, n + 1, T.ins, T.mth, fun c ds => match T.ini c with
      | some g => callF T n g ds
      | none => .st⟩ fn as
    | none => .st
/-- the __init__ of a class, one call less deep -/
noncomputable def mkF (T : Tb) (n : Nat) (c : Str) (ds : List D) : M D := match n with
  | 0 => .st
  | n + 1 => match T.ini c with
    | some g => callF T n g ds
    | none => .st
noncomputable abbrev Tb.cfg (T : Tb) (n : Nat) : Cfg := ⟨callF T n, T.fresh, T.glob, T.isa, T.xfs, T.dct, n, T.ins, T.mth, mkF T n⟩
theorem callF_eq (T : Tb) (n : Nat) (f : Str) (as : List D) : callF T (n + 1) f as = match T.fn f with
    | some fn => runF (T.cfg n) fn as
    | none => .st := by
  cases n with
  | zero =>
    rw [callF]
    have e : callF T 0 = fun _ _ => .st := by funext f as; rw [callF]
    have e2 : mkF T 0 = fun _ _ => .st := by funext f as; rfl
    simp only [Tb.cfg, e, e2]
  | succ n =>
    rw [callF]
    have e2 : mkF T (n + 1) = fun c ds => match T.ini c with
      | some g => callF T n g ds
      | none => .st := by funext c ds; rfl
    simp only [Tb.cfg, e2]
end RR

namespace RR
open PySem L2

/-- where the heap's things stand, and the classes -/
structure Os where
  l : List Addr
  cm : Str → Option Addr
structure Oa (a b : Os) : Prop where
  l : ∀ (n : Nat) (x : Addr), a.l[n]? = some x → b.l[n]? = some x
  cm : b.cm = a.cm
theorem Oa.refl (a : Os) : Oa a a := ⟨fun _ _ h => h, rfl⟩
theorem Oa.trans {a b c : Os} (x : Oa a b) (y : Oa b c) : Oa a c := ⟨fun n z h => y.l n z (x.l n z h), y.cm.trans x.cm⟩
theorem Oa.mem {a b : Os} (x : Oa a b) {p : Addr} (h : p ∈ a.l) : p ∈ b.l := by
  obtain ⟨n, hn⟩ := List.getElem?_of_mem h
  exact List.mem_of_getElem? (x.l n p hn)
/-- an exception of a class, with its dict, at a: held as a value -/
def ExV (cls : Value) (dd : Option Addr) (a : Addr) : HO := .ext fun h => ∃ oe, h.get? a = some oe ∧ Zc cls dd oe ∧ ∃ vs, oe.data = .fields vs
mutual
inductive Rep (K : PySem.W.Frag) (oa : Os) (G : Hp) : D → V → Prop
  | non : Rep K oa G .non .non
  | bl (b : Bool) : Rep K oa G (.bl b) (.bl b)
  | int (i : Int) : Rep K oa G (.int i) (.int i)
  | str (x : Str) : Rep K oa G (.str x) (.str x)
  | lst {p : Addr} {vs : List V} {ds : List D} : SqL K G p vs → Reps K oa G ds vs → Rep K oa G (.lst ds) (.ref p)
  | tup {p : Addr} {vs : List V} {ds : List D} : SqT K G p vs → Reps K oa G ds vs → Rep K oa G (.tup ds) (.ref p)
  | dic {p : Addr} {kvs : List (Key × V)} {kds : List (Key × D)} : G p = some (.dK kvs) → KReps K oa G kds kvs → Rep K oa G (.dic kds) (.ref p)
  | obj {n : Nat} {p : Addr} : oa.l[n]? = some p → Rep K oa G (.obj n) (.ref p)
  | xn0 {c : Str} {C a : Addr} : oa.cm c = some C → G a = some (ExV (.ref C) none a) → Rep K oa G (.xn c []) (.ref a)
  | xn1 {c : Str} {C a dx : Addr} {fs : List (Str × D)} {fv : List (Str × V)} : oa.cm c = some C → G a = some (ExV (.ref C) (some dx) a) → G dx = some (.xd fv) → FReps K oa G fs fv → Rep K oa G (.xn c fs) (.ref a)
inductive Reps (K : PySem.W.Frag) (oa : Os) (G : Hp) : List D → List V → Prop
  | nil : Reps K oa G [] []
  | cons {d : D} {v : V} {ds : List D} {vs : List V} : Rep K oa G d v → Reps K oa G ds vs → Reps K oa G (d :: ds) (v :: vs)
inductive KReps (K : PySem.W.Frag) (oa : Os) (G : Hp) : List (Key × D) → List (Key × V) → Prop
  | nil : KReps K oa G [] []
  | cons {k : Key} {d : D} {v : V} {ds : List (Key × D)} {vs : List (Key × V)} : Rep K oa G d v → KReps K oa G ds vs → KReps K oa G ((k, d) :: ds) ((k, v) :: vs)
inductive FReps (K : PySem.W.Frag) (oa : Os) (G : Hp) : List (Str × D) → List (Str × V) → Prop
  | nil : FReps K oa G [] []
  | cons {k : Str} {d : D} {v : V} {ds : List (Str × D)} {vs : List (Str × V)} : Rep K oa G d v → FReps K oa G ds vs → FReps K oa G ((k, d) :: ds) ((k, v) :: vs)
end

def Sub (G H : Hp) : Prop := ∀ b o, G b = some o → H b = some o
theorem Sub.refl (G : Hp) : Sub G G := fun _ _ h => h
theorem Sub.trans {G H J : Hp} (a : Sub G H) (b : Sub H J) : Sub G J := fun c o h => b c o (a c o h)
theorem Sub.upd {G : Hp} {p : Addr} {o : HO} (h : G p = none) : Sub G (upd G p o) := fun b u e => by rw [upd_ne (ne_of_none e h)]; exact e
theorem Sub.upd2 {G H : Hp} {p : Addr} {o : HO} (s : Sub G H) (h : G p = none) : Sub G (L2.upd H p o) := fun b u e => by rw [upd_ne (ne_of_none e h)]; exact s _ _ e
theorem Sub.none {G H : Hp} (s : Sub G H) {p : Addr} (h : H p = none) : G p = none := by
  cases q : G p with
  | none => rfl
  | some o => rw [s _ _ q] at h; cases h
theorem Sub.rd {G H : Hp} (s : Sub G H) {p : Addr} {u : HO} (h : Rd G p u) : Rd H p u := by
  rcases h with h | ⟨o, h⟩
  · exact .inl (s _ _ h)
  · exact .inr ⟨o, s _ _ h⟩
theorem Sub.sqT {K : PySem.W.Frag} {G H : Hp} (s : Sub G H) {p : Addr} {vs : List V} (h : SqT K G p vs) : SqT K H p vs := by
  rcases h with h | h
  · exact .inl (s.rd h)
  · exact .inr h
theorem Sub.sqL {K : PySem.W.Frag} {G H : Hp} (s : Sub G H) {p : Addr} {vs : List V} (h : SqL K G p vs) : SqL K H p vs := by
  rcases h with h | h
  · exact .inl (s.rd h)
  · exact .inr h
section
variable {K : PySem.W.Frag} {oa ob : Os} {G H : Hp}
mutual
theorem Rep.mono (s : Sub G H) (t : Oa oa ob) : ∀ {d : D} {v : V}, Rep K oa G d v → Rep K ob H d v
  | _, _, .non => .non
  | _, _, .bl b => .bl b
  | _, _, .int i => .int i
  | _, _, .str x => .str x
  | _, _, .lst h r => .lst (s.sqL h) (Reps.mono s t r)
  | _, _, .tup h r => .tup (s.sqT h) (Reps.mono s t r)
  | _, _, .dic h r => .dic (s _ _ h) (KReps.mono s t r)
  | _, _, .obj h => .obj (t.l _ _ h)
  | _, _, .xn0 h q => .xn0 (by rw [t.cm]; exact h) (s _ _ q)
  | _, _, .xn1 h q q2 r => .xn1 (by rw [t.cm]; exact h) (s _ _ q) (s _ _ q2) (FReps.mono s t r)
theorem Reps.mono (s : Sub G H) (t : Oa oa ob) : ∀ {d : List D} {v : List V}, Reps K oa G d v → Reps K ob H d v
  | _, _, .nil => .nil
  | _, _, .cons h r => .cons (Rep.mono s t h) (Reps.mono s t r)
theorem KReps.mono (s : Sub G H) (t : Oa oa ob) : ∀ {d : List (Key × D)} {v : List (Key × V)}, KReps K oa G d v → KReps K ob H d v
  | _, _, .nil => .nil
  | _, _, .cons h r => .cons (Rep.mono s t h) (KReps.mono s t r)
theorem FReps.mono (s : Sub G H) (t : Oa oa ob) : ∀ {d : List (Str × D)} {v : List (Str × V)}, FReps K oa G d v → FReps K ob H d v
  | _, _, .nil => .nil
  | _, _, .cons h r => .cons (Rep.mono s t h) (FReps.mono s t r)
end
theorem Rep.up (s : Sub G H) {d : D} {v : V} (h : Rep K oa G d v) : Rep K oa H d v := h.mono s (.refl _)
theorem Reps.up (s : Sub G H) {d : List D} {v : List V} (h : Reps K oa G d v) : Reps K oa H d v := h.mono s (.refl _)
theorem KReps.up (s : Sub G H) {d : List (Key × D)} {v : List (Key × V)} (h : KReps K oa G d v) : KReps K oa H d v := h.mono s (.refl _)
theorem Reps.length : ∀ {ds : List D} {vs : List V}, Reps K oa G ds vs → ds.length = vs.length
  | _, _, .nil => rfl
  | _, _, .cons _ r => by rw [List.length_cons, List.length_cons, Reps.length r]
theorem Reps.append : ∀ {ds es : List D} {vs us : List V}, Reps K oa G ds vs → Reps K oa G es us → Reps K oa G (ds ++ es) (vs ++ us)
  | _, _, _, _, .nil, s => s
  | _, _, _, _, .cons h r, s => .cons h (Reps.append r s)
theorem Reps.get : ∀ {ds : List D} {vs : List V} {i : Nat} {d : D}, Reps K oa G ds vs → ds[i]? = some d → ∃ v, vs[i]? = some v ∧ Rep K oa G d v
  | _, _, _, _, .nil, e => by simp at e
  | _, _, 0, _, .cons h _, e => by simp at e; subst e; exact ⟨_, rfl, h⟩
  | _, _, i + 1, d, .cons _ r, e => by
    obtain ⟨v, h1, h2⟩ := Reps.get (i := i) (d := d) r (by simpa using e)
    exact ⟨v, by simpa using h1, h2⟩
theorem Reps.set {d : D} {v : V} (h : Rep K oa G d v) : ∀ {ds : List D} {vs : List V} (i : Nat), Reps K oa G ds vs → Reps K oa G (ds.set i d) (vs.set i v)
  | _, _, _, .nil => .nil
  | _, _, 0, .cons _ r => .cons h r
  | _, _, i + 1, .cons q r => .cons q (Reps.set h i r)
theorem Reps.take : ∀ {ds : List D} {vs : List V} (n : Nat), Reps K oa G ds vs → Reps K oa G (ds.take n) (vs.take n)
  | _, _, 0, _ => .nil
  | _, _, _ + 1, .nil => .nil
  | _, _, n + 1, .cons h r => .cons h (Reps.take n r)
theorem Reps.drop : ∀ {ds : List D} {vs : List V} (n : Nat), Reps K oa G ds vs → Reps K oa G (ds.drop n) (vs.drop n)
  | _, _, 0, r => r
  | _, _, _ + 1, .nil => .nil
  | _, _, n + 1, .cons _ r => Reps.drop n r
theorem Reps.reverse : ∀ {ds : List D} {vs : List V}, Reps K oa G ds vs → Reps K oa G ds.reverse vs.reverse
  | _, _, .nil => .nil
  | _, _, .cons h r => by rw [List.reverse_cons, List.reverse_cons]; exact Reps.append (Reps.reverse r) (.cons h .nil)
theorem Reps.rep : ∀ {ds : List D} {vs : List V} (n : Nat), Reps K oa G ds vs → Reps K oa G (List.replicate n ds).flatten (List.replicate n vs).flatten
  | _, _, 0, _ => .nil
  | _, _, n + 1, r => by
    rw [List.replicate_succ, List.replicate_succ, List.flatten_cons, List.flatten_cons]
    exact r.append (Reps.rep n r)
theorem Reps.cut {ds : List D} {vs : List V} (r : Reps K oa G ds vs) (lo hi : Option Int) : Reps K oa G (cutL ds lo hi) (cutV vs lo hi) := by
  unfold cutL cutV
  rw [r.length]
  exact (r.drop _).take _
theorem Reps.ints : ∀ {ds : List D} {vs : List V} {is : List Int}, Reps K oa G ds vs → allInt ds = some is → vs = is.map V.int
  | _, _, is, .nil, e => by simp only [allInt, Option.some.injEq] at e; subst e; rfl
  | _, _, is, .cons (d := d) h r, e => by
    cases d with
    | int i =>
      simp only [allInt] at e
      cases q : allInt _ with
      | none => rw [q] at e; cases e
      | some js =>
        rw [q] at e
        cases e
        cases h
        rw [Reps.ints r q]
        rfl
    | _ => simp [allInt] at e
theorem Reps.bls : ∀ {ds : List D} {vs : List V} {is : List Bool}, Reps K oa G ds vs → allBl ds = some is → vs = is.map V.bl
  | _, _, is, .nil, e => by simp only [allBl, Option.some.injEq] at e; subst e; rfl
  | _, _, is, .cons (d := d) h r, e => by
    cases d with
    | bl i =>
      simp only [allBl] at e
      cases q : allBl _ with
      | none => rw [q] at e; cases e
      | some js =>
        rw [q] at e
        cases e
        cases h
        rw [Reps.bls r q]
        rfl
    | _ => simp [allBl] at e
theorem Reps.ofInts : ∀ (is : List Int), Reps K oa G (is.map D.int) (is.map V.int)
  | [] => .nil
  | i :: is => .cons (.int i) (Reps.ofInts is)
end

def Cont (K : PySem.W.Frag) (oa : Os) (G : Hp) (d : D) (o : HO) : Prop := match d with
  | .lst ds => ∃ vs, o = .lst vs ∧ Reps K oa G ds vs
  | .dic ds => ∃ vs, o = .dK vs ∧ KReps K oa G ds vs
  | _ => False
theorem Cont.mono {K : PySem.W.Frag} {oa ob : Os} {G H : Hp} (s : Sub G H) (t : Oa oa ob) {d : D} {o : HO} (h : Cont K oa G d o) : Cont K ob H d o := by
  cases d with
  | lst ds => obtain ⟨vs, e, r⟩ := h; exact ⟨vs, e, r.mono s t⟩
  | dic ds => obtain ⟨vs, e, r⟩ := h; exact ⟨vs, e, r.mono s t⟩
  | _ => exact (show False from h).elim
theorem Cont.up {K : PySem.W.Frag} {oa : Os} {G H : Hp} (s : Sub G H) {d : D} {o : HO} (h : Cont K oa G d o) : Cont K oa H d o := h.mono s (.refl _)
theorem Cont.isC {K : PySem.W.Frag} {oa : Os} {G : Hp} {d : D} {o : HO} (h : Cont K oa G d o) : d.isC = true := by
  cases d with
  | lst ds => rfl
  | dic ds => rfl
  | _ => exact (show False from h).elim
theorem Cont.rep {K : PySem.W.Frag} {oa : Os} {G : Hp} {p : Addr} {d : D} {o : HO} (h : Cont K oa G d o) (n : G p = none) : Rep K oa (upd G p o) d (.ref p) := by
  have s : Sub G (upd G p o) := Sub.upd n
  cases d with
  | lst ds => obtain ⟨vs, e, r⟩ := h; subst e; exact .lst (.inl (.inl upd_same)) (r.up s)
  | dic ds => obtain ⟨vs, e, r⟩ := h; subst e; exact .dic upd_same (r.up s)
  | _ => exact (show False from h).elim
/-- a value that is looked at: what is in it is settled -/
inductive View (K : PySem.W.Frag) (oa : Os) (G H : Hp) : D → V → Prop
  | rep {d : D} {v : V} : Rep K oa G d v → View K oa G H d v
  | lst {p : Addr} {vs : List V} {ds : List D} : SqL K H p vs → Reps K oa G ds vs → View K oa G H (.lst ds) (.ref p)
  | dic {p : Addr} {kvs : List (Key × V)} {kds : List (Key × D)} : H p = some (.dK kvs) → KReps K oa G kds kvs → View K oa G H (.dic kds) (.ref p)
theorem View.of_cont {K : PySem.W.Frag} {oa : Os} {G H : Hp} {d : D} {p : Addr} {o : HO} (e : H p = some o) (c : Cont K oa G d o) : View K oa G H d (.ref p) := by
  cases d with
  | lst ds => obtain ⟨vs, rfl, r⟩ := c; exact .lst (.inl (.of e)) r
  | dic ds => obtain ⟨vs, rfl, r⟩ := c; exact .dic e r
  | _ => exact (show False from c).elim
section
variable {K : PySem.W.Frag} {oa : Os} {G H : Hp} {v : V}
theorem View.lstE (t : Sub G H) {ds : List D} (h : View K oa G H (.lst ds) v) : ∃ p vs, v = .ref p ∧ SqL K H p vs ∧ Reps K oa G ds vs := by
  cases h with
  | rep r => cases r with | lst q r => exact ⟨_, _, rfl, t.sqL q, r⟩
  | lst q r => exact ⟨_, _, rfl, q, r⟩
theorem View.tupE (t : Sub G H) {ds : List D} (h : View K oa G H (.tup ds) v) : ∃ p vs, v = .ref p ∧ SqT K H p vs ∧ Reps K oa G ds vs := by
  cases h with
  | rep r => cases r with | tup q r => exact ⟨_, _, rfl, t.sqT q, r⟩
theorem View.intE {i : Int} (h : View K oa G H (.int i) v) : v = .int i := by cases h with | rep r => cases r; rfl
theorem View.strE {i : Str} (h : View K oa G H (.str i) v) : v = .str i := by cases h with | rep r => cases r; rfl
theorem View.blE {i : Bool} (h : View K oa G H (.bl i) v) : v = .bl i := by cases h with | rep r => cases r; rfl
theorem View.nonE (h : View K oa G H .non v) : v = .non := by cases h with | rep r => cases r; rfl
theorem Rep.intE {i : Int} (h : Rep K oa G (.int i) v) : v = .int i := by cases h; rfl
theorem Rep.blE {i : Bool} (h : Rep K oa G (.bl i) v) : v = .bl i := by cases h; rfl
theorem Rep.strE {i : Str} (h : Rep K oa G (.str i) v) : v = .str i := by cases h; rfl
theorem Rep.nonE (h : Rep K oa G .non v) : v = .non := by cases h; rfl
end

structure Gw where
  g : Hp
  oa : Os
/-- a thing of the heap, as it stands -/
def ObR (K : PySem.W.Frag) (oa : Os) (G H : Hp) (a : Addr) : Ob → Prop
  | .lst ds => ∃ vs, H a = some (.lst vs) ∧ Reps K oa G ds vs
  | .dic kds => ∃ kvs, H a = some (.dK kvs) ∧ KReps K oa G kds kvs
  | .inst c fs => ∃ C dx fv, oa.cm c = some C ∧ H a = some (.ins C dx fv) ∧ H dx = some (.own a) ∧ FReps K oa G fs fv
  | .dead => True
/-- the heap stands -/
structure Hst (K : PySem.W.Frag) (hp : HP) (w : Gw) (H : Hp) : Prop where
  gH : Sub w.g H
  oL : hp.length = w.oa.l.length
  oR : ∀ (n : Nat) (o : Ob) (a : Addr), hp[n]? = some o → w.oa.l[n]? = some a → ObR K w.oa w.g H a o
  oG : ∀ (n : Nat) (o : Ob) (a : Addr), hp[n]? = some o → o ≠ .dead → w.oa.l[n]? = some a → w.g a = none
  oN : ∀ (n m : Nat) (a : Addr), w.oa.l[n]? = some a → w.oa.l[m]? = some a → n = m
  oI : ∀ a, a ∈ w.oa.l → H a ≠ none
/-- what became of it -/
structure Grow (w : Gw) (H : Hp) (w' : Gw) (H' : Hp) : Prop where
  g : Sub w.g w'.g
  o : Oa w.oa w'.oa
  h : ∀ b o, H b = some o → ¬ b ∈ w.oa.l → H' b = some o
  i : ∀ b, H' b = none → H b = none
  gn : ∀ b o, w'.g b = some o → w.g b = some o ∨ H b = none ∨ b ∈ w.oa.l
  on : ∀ a, a ∈ w'.oa.l → a ∈ w.oa.l ∨ H a = none
theorem Grow.refl (w : Gw) (H : Hp) : Grow w H w H := ⟨.refl _, .refl _, fun _ _ h _ => h, fun _ h => h, fun _ _ h => .inl h, fun _ h => .inl h⟩
theorem Grow.trans {w w1 w2 : Gw} {H H1 H2 : Hp} (a : Grow w H w1 H1) (b : Grow w1 H1 w2 H2) : Grow w H w2 H2 where
  g := a.g.trans b.g
  o := a.o.trans b.o
  h := fun c o h n => b.h c o (a.h c o h n) fun z => (a.on c z).elim n fun q => by rw [h] at q; cases q
  i := fun c h => a.i c (b.i c h)
  gn := fun c o h => by
    rcases b.gn c o h with z | z | z
    · exact a.gn c o z
    · exact .inr (.inl (a.i c z))
    · exact (a.on c z).elim (fun q => .inr (.inr q)) fun q => .inr (.inl q)
  on := fun c h => by
    rcases b.on c h with z | z
    · exact a.on c z
    · exact .inr (a.i c z)
structure Wd extends Gw where
  ω : Addr → Option Nat
/-- a def's entry -/
structure En where
  w : Gw
  H : Hp
structure Rel (K : PySem.W.Frag) (e : En) (w : Wd) (hp : HP) (S : RS) (σ : St) (H : Hp) : Prop where
  hs : Hst K hp w.toGw H
  gr : Grow e.w e.H w.toGw H
  gω : ∀ b o, w.g b = some o → w.ω b = none
  oω : ∀ a, a ∈ w.oa.l → w.ω a = none
  len : S.length = σ.length
  val : ∀ (i : Nat) (d : D), S[i]? = some (Sl.val d) → ∃ v, σ[i]? = some (some v) ∧ Rep K w.oa w.g d v
  own : ∀ (i : Nat) (d : D), S[i]? = some (Sl.own d) → ∃ (p : Addr) (o : HO), σ[i]? = some (some (.ref p)) ∧ H p = some o ∧ Cont K w.oa w.g d o ∧ w.ω p = some i
  owned : ∀ (b : Addr) (i : Nat), w.ω b = some i → ∃ d, S[i]? = some (Sl.own d) ∧ σ[i]? = some (some (.ref b))
  eω : ∀ (b : Addr) (i : Nat), w.ω b = some i → e.H b = none
/-- an expression's step: the names stand -/
structure Ext (w : Wd) (H : Hp) (w' : Wd) (H' : Hp) : Prop where
  gr : Grow w.toGw H w'.toGw H'
  ω : w'.ω = w.ω
theorem Ext.refl (w : Wd) (H : Hp) : Ext w H w H := ⟨.refl _ _, rfl⟩
theorem Ext.trans {w w1 w2 : Wd} {H H1 H2 : Hp} (a : Ext w H w1 H1) (b : Ext w1 H1 w2 H2) : Ext w H w2 H2 := ⟨a.gr.trans b.gr, b.ω.trans a.ω⟩
theorem Ext.rep {K : PySem.W.Frag} {w w' : Wd} {H H' : Hp} (x : Ext w H w' H') {d : D} {v : V} (h : Rep K w.oa w.g d v) : Rep K w'.oa w'.g d v := h.mono x.gr.g x.gr.o
theorem Ext.reps {K : PySem.W.Frag} {w w' : Wd} {H H' : Hp} (x : Ext w H w' H') {d : List D} {v : List V} (h : Reps K w.oa w.g d v) : Reps K w'.oa w'.g d v := h.mono x.gr.g x.gr.o
theorem Ext.cont {K : PySem.W.Frag} {w w' : Wd} {H H' : Hp} (x : Ext w H w' H') {d : D} {v : HO} (h : Cont K w.oa w.g d v) : Cont K w'.oa w'.g d v := h.mono x.gr.g x.gr.o
/-- a fresh container (it was not there in Hb), of which nobody knows -/
def Fresh (K : PySem.W.Frag) (Hb : Hp) (w : Wd) (H : Hp) (d : D) (v : V) : Prop := ∃ p o, v = .ref p ∧ H p = some o ∧ Cont K w.oa w.g d o ∧ w.g p = none ∧ w.ω p = none ∧ ¬ p ∈ w.oa.l ∧ Hb p = none
def Res1 (K : PySem.W.Frag) (Hb : Hp) (w : Wd) (H : Hp) (d : D) (fr : Bool) (v : V) : Prop := if fr then Fresh K Hb w H d v else Rep K w.oa w.g d v

theorem ObR.ext {K : PySem.W.Frag} {oa ob : Os} {G G' H H' : Hp} (s : Sub G G') (t : Oa oa ob) {a : Addr} {o : Ob} (h1 : H' a = H a) (h2 : ∀ dx, H dx = some (.own a) → H' dx = some (.own a)) (h : ObR K oa G H a o) : ObR K ob G' H' a o := by
  cases o with
  | lst ds => obtain ⟨vs, e, r⟩ := h; exact ⟨vs, by rw [h1]; exact e, r.mono s t⟩
  | dic ds => obtain ⟨vs, e, r⟩ := h; exact ⟨vs, by rw [h1]; exact e, r.mono s t⟩
  | inst c fs => obtain ⟨C, dx, fv, e0, e, e2, r⟩ := h; exact ⟨C, dx, fv, by rw [t.cm]; exact e0, by rw [h1]; exact e, h2 _ e2, r.mono s t⟩
  | dead => exact True.intro
section
variable {K : PySem.W.Frag} {hp : HP} {w : Gw} {H : Hp}
/-- an object that is none of the heap's is changed or new -/
theorem Hst.upd (x : Hst K hp w H) {p : Addr} {o : HO} (g : w.g p = none) (n : ¬ p ∈ w.oa.l) (q : ∀ a, H p ≠ some (.own a)) : Hst K hp w (upd H p o) where
  gH := x.gH.upd2 g
  oL := x.oL
  oR := fun m ob a h1 h2 => (x.oR m ob a h1 h2).ext (.refl _) (.refl _) (upd_ne fun z => n (by rw [← z]; exact List.mem_of_getElem? h2)) fun dx hd => by
    rw [upd_ne (fun z => q a (by rw [← z]; exact hd))]; exact hd
  oG := x.oG
  oN := x.oN
  oI := fun a ha => by
    by_cases hp : a = p
    · subst hp; exact absurd ha n
    · rw [upd_ne hp]; exact x.oI a ha
theorem Hst.new (x : Hst K hp w H) {p : Addr} {o : HO} (n : H p = none) : Hst K hp w (L2.upd H p o) :=
  x.upd (x.gH.none n) (fun z => x.oI p z n) (fun a z => by rw [n] at z; cases z)
theorem Hst.settle (x : Hst K hp w H) {p : Addr} {o : HO} (h : H p = some o) (g : w.g p = none) (n : ¬ p ∈ w.oa.l) : Hst K hp ⟨L2.upd w.g p o, w.oa⟩ H where
  gH := fun b u q => by
    by_cases hb : b = p
    · subst hb; have q : L2.upd w.g b o b = some u := q; rw [upd_same] at q; cases q; exact h
    · have q : L2.upd w.g p o b = some u := q; rw [upd_ne hb] at q; exact x.gH _ _ q
  oL := x.oL
  oR := fun m ob a h1 h2 => (x.oR m ob a h1 h2).ext (Sub.upd g) (.refl _) rfl fun _ h => h
  oG := fun m ob a h1 h2 h3 => by
    show L2.upd w.g p o a = none
    rw [upd_ne fun z => n (by rw [← z]; exact List.mem_of_getElem? h3)]
    exact x.oG m ob a h1 h2 h3
  oN := x.oN
  oI := x.oI
theorem Grow.new {p : Addr} {o : HO} (n : H p = none) : Grow w H w (L2.upd H p o) :=
  ⟨.refl _, .refl _, fun b u h _ => by rw [upd_ne (ne_of_none h n)]; exact h, fun b h => by
    by_cases hb : b = p
    · subst hb; exact n
    · rw [upd_ne hb] at h; exact h, fun _ _ h => .inl h, fun _ h => .inl h⟩
theorem Grow.settle {Hb : Hp} {p : Addr} {o : HO} (g : w.g p = none) (n : Hb p = none) : ∀ {w0 : Gw}, Grow w0 Hb w H → Grow w0 Hb ⟨L2.upd w.g p o, w.oa⟩ H := fun {w0} x =>
  ⟨x.g.trans (Sub.upd g), x.o, x.h, x.i, fun b u h => by
    by_cases hb : b = p
    · subst hb; exact .inr (.inl n)
    · have h : L2.upd w.g p o b = some u := h; rw [upd_ne hb] at h; exact x.gn b u h, x.on⟩
end
section
variable {K : PySem.W.Frag} {e : En} {w : Wd} {hp : HP} {S : RS} {σ : St} {H : Hp}
/-- a new object, not settled -/
theorem Rel.alloc (r : Rel K e w hp S σ H) {p : Addr} {o : HO} (n : H p = none) : Rel K e w hp S σ (upd H p o) where
  hs := r.hs.new n
  gr := r.gr.trans (.new n)
  gω := r.gω
  oω := r.oω
  len := r.len
  val := r.val
  own := fun i d q => by
    obtain ⟨p', o', h1, h2, h3, h4⟩ := r.own i d q
    exact ⟨p', o', h1, by rw [upd_ne (ne_of_none h2 n)]; exact h2, h3, h4⟩
  owned := r.owned
  eω := r.eω
/-- what is not owned is settled -/
theorem Rel.settle (r : Rel K e w hp S σ H) {p : Addr} {o : HO} (h : H p = some o) (n : w.ω p = none) (g : w.g p = none) (m : ¬ p ∈ w.oa.l) (ne : e.H p = none) : Rel K e ⟨⟨upd w.g p o, w.oa⟩, w.ω⟩ hp S σ H where
  hs := r.hs.settle h g m
  gr := r.gr.settle g ne
  gω := fun b u q => by
    by_cases hb : b = p
    · subst hb; exact n
    · have q : upd w.g p o b = some u := q; rw [upd_ne hb] at q; exact r.gω _ _ q
  oω := r.oω
  len := r.len
  val := fun i d q => by
    obtain ⟨v, h1, h2⟩ := r.val i d q
    exact ⟨v, h1, h2.up (Sub.upd g)⟩
  own := fun i d q => by
    obtain ⟨p', o', h1, h2, h3, h4⟩ := r.own i d q
    exact ⟨p', o', h1, h2, h3.up (Sub.upd g), h4⟩
  owned := r.owned
  eω := r.eω
theorem Rel.ownH (r : Rel K e w hp S σ H) {b : Addr} {i : Nat} (h : w.ω b = some i) : ∃ d o, S[i]? = some (Sl.own d) ∧ σ[i]? = some (some (.ref b)) ∧ H b = some o ∧ Cont K w.oa w.g d o := by
  obtain ⟨d, h1, h2⟩ := r.owned b i h
  obtain ⟨p, o, h3, h4, h5, h6⟩ := r.own i d h1
  rw [h2] at h3
  cases h3
  exact ⟨d, o, h1, h2, h4, h5⟩
theorem Rel.ωnone (r : Rel K e w hp S σ H) {b : Addr} (h : H b = none) : w.ω b = none := by
  cases q : w.ω b with
  | none => rfl
  | some i =>
    obtain ⟨_, _, _, _, h2, _⟩ := r.ownH q
    rw [h] at h2; cases h2
theorem Rel.onone (r : Rel K e w hp S σ H) {b : Addr} (h : H b = none) : ¬ b ∈ w.oa.l := fun z => r.hs.oI b z h
theorem Rel.gnone (r : Rel K e w hp S σ H) {b : Addr} (h : H b = none) : w.g b = none := r.hs.gH.none h
theorem Rel.enone (r : Rel K e w hp S σ H) {b : Addr} (h : H b = none) : e.H b = none := r.gr.i b h
theorem Rel.ownG (r : Rel K e w hp S σ H) {b : Addr} {i : Nat} (h : w.ω b = some i) : w.g b = none := by
  cases q : w.g b with
  | none => rfl
  | some u => rw [r.gω _ _ q] at h; cases h
theorem Rel.ownO (r : Rel K e w hp S σ H) {b : Addr} {i : Nat} (h : w.ω b = some i) : ¬ b ∈ w.oa.l := fun z => by rw [r.oω b z] at h; cases h
/-- a new object, settled at once -/
theorem Rel.allocG (r : Rel K e w hp S σ H) {p : Addr} {o : HO} (n : H p = none) : Rel K e ⟨⟨upd w.g p o, w.oa⟩, w.ω⟩ hp S σ (upd H p o) :=
  (r.alloc n).settle upd_same (r.ωnone n) (r.gnone n) (r.onone n) (r.enone n)
theorem Ext.alloc {w : Wd} {H : Hp} {p : Addr} {o : HO} (n : H p = none) : Ext w H w (upd H p o) := ⟨.new n, rfl⟩
theorem Ext.allocG {w : Wd} {H : Hp} {p : Addr} {o : HO} (s : Sub w.g H) (n : H p = none) : Ext w H ⟨⟨upd w.g p o, w.oa⟩, w.ω⟩ (upd H p o) := ⟨(Grow.new n).settle (w := w.toGw) (s.none n) n, rfl⟩
/-- what is fresh is settled -/
theorem Rel.fin {w' : Wd} {H' : Hp} (r : Rel K e w' hp S σ H') (x : Ext w H w' H') (e0 : ∀ b, H b = none → e.H b = none) {d : D} {fr : Bool} {v : V} (q : Res1 K H w' H' d fr v) : ∃ w2, Ext w H w2 H' ∧ Rel K e w2 hp S σ H' ∧ Rep K w2.oa w2.g d v := by
  cases fr with
  | false => exact ⟨w', x, r, q⟩
  | true =>
    obtain ⟨p, o, rfl, h1, h2, h3, h4, h5, h6⟩ := q
    exact ⟨⟨⟨upd w'.g p o, w'.oa⟩, w'.ω⟩, ⟨x.gr.settle (w := w'.toGw) h3 h6, x.ω⟩, r.settle h1 h4 h3 h5 (e0 p h6), h2.rep h3⟩
theorem Res1.fin {w' : Wd} {H' : Hp} (r : Rel K e w' hp S σ H') (r0 : ∃ S0 hp0 σ0, Rel K e w hp0 S0 σ0 H) (x : Ext w H w' H') {d : D} {fr : Bool} {v : V} (q : Res1 K H w' H' d fr v) : ∃ w2, Ext w H w2 H' ∧ Rel K e w2 hp S σ H' ∧ Rep K w2.oa w2.g d v := by
  obtain ⟨S0, hp0, σ0, r0⟩ := r0
  exact r.fin x (fun b => r0.enone) q
end
end RR

namespace RR
section
open PySem L2 PySem.Spec PyProof.Rows
theorem tuple_mulS (l : Addr) (items : Array Value) (n : Nat) (dd : Option Addr) (sl : Array (Option Value)) (x : Int) (u : Tok) (c0 : (decide (x < -(2 ^ 63)) || decide (x ≥ 2 ^ 63)) = false) (c1 : (items.isEmpty || x == 1) = true) :
    Meets (Builtin.«tuple.__mul__» ⟨[.ref l, .int x u], []⟩) (fun _ R s => s.heap.get? l = some { cls := .type "tuple", dict := dd, data := .seq items n, slots := sl } ∧ R (.ok (.ret (Value.ref l))) s) :=
  .of_wp fun prog w A R s h => by
    obtain ⟨hp, g, d, tk, os⟩ := s
    obtain ⟨hl, h⟩ := h
    have f1 := AutoSeq1.idx_int
    wp_walk using wpAny_loadPart' hl
    repeat (first
      | (refine wpAny_ite_false (decide_eq_false (by rw [c0]; exact Bool.false_ne_true)) ?_; wp_walk using wpAny_loadPart' hl)
      | (refine wpAny_ite_true (decide_eq_true c1) ?_; wp_walk using wpAny_loadPart' hl))
    exact ⟨_, rfl, h⟩
theorem tuple_mulE (l : Addr) (items : Array Value) (n : Nat) (dd : Option Addr) (sl : Array (Option Value)) (x : Int) (u : Tok) (c0 : (decide (x < -(2 ^ 63)) || decide (x ≥ 2 ^ 63)) = false) (c1 : (items.isEmpty || x == 1) = false) (c2 : (decide (x ≤ 0) || items.isEmpty) = true) :
    Meets (Builtin.«tuple.__mul__» ⟨[.ref l, .int x u], []⟩) (fun _ R s => s.heap.get? l = some { cls := .type "tuple", dict := dd, data := .seq items n, slots := sl } ∧
      R (.ok (.ret (Value.ref s.heap.objs.size))) { s with heap := s.heap.push { cls := Value.type "tuple", data := Data.seq #[] }, toks := s.toks }) :=
  .of_wp fun prog w A R s h => by
    obtain ⟨hp, g, d, tk, os⟩ := s
    obtain ⟨hl, h⟩ := h
    have f1 := AutoSeq1.idx_int
    wp_walk using wpAny_loadPart' hl
    repeat (first
      | (refine wpAny_ite_false (decide_eq_false (by rw [c0]; exact Bool.false_ne_true)) ?_; wp_walk using wpAny_loadPart' hl)
      | (refine wpAny_ite_false (decide_eq_false (by rw [c1]; exact Bool.false_ne_true)) ?_; wp_walk using wpAny_loadPart' hl)
      | (refine wpAny_ite_true (decide_eq_true c2) ?_; wp_walk using wpAny_loadPart' hl))
    exact ⟨_, rfl, h⟩
theorem foldl_arr (a : Array Nat) : ∀ (n : Nat) (acc : Array Nat), ((List.replicate n a).foldl (· ++ ·) acc).toList = acc.toList ++ (List.replicate n a.toList).flatten
  | 0, acc => by simp
  | n + 1, acc => by
    rw [List.replicate_succ, List.foldl_cons, foldl_arr a n, List.replicate_succ, List.flatten_cons, Array.toList_append, List.append_assoc]
theorem repS_len (z : Str) (k : Int) : (repS z k).length = z.length * k.toNat := by
  unfold repS Str.length
  simp [Nat.mul_comm]
theorem op_repS {X : Cx} : OpR X (binaryOp .Mult) (fun x y H Q => ∃ i k, x = .str i ∧ y = .int k ∧ -(2 ^ 62) ≤ k ∧ k ≤ 1000 ∧ i.length ≤ 1000 ∧ Q (.str (repS i k)) H) := by
  intro pins s σ H x y v u Q I rx ry h
  obtain ⟨i, k, rfl, rfl, h1, h2, h3, q⟩ := h
  obtain ⟨t, rfl⟩ := rx
  obtain ⟨t', rfl⟩ := ry
  have hm : i.length * k.toNat ≤ 1000 * 1000 := Nat.mul_le_mul h3 (by omega)
  refine P.mul_str ?_ (fun a b => ?_) (fun a b => ?_) ?_
  · rw [decide_eq_false (by omega), decide_eq_false (by omega)]; rfl
  · have : (2 ^ 63 - 1) / 1000 ≤ (2 ^ 63 - 1) / k := by
      rw [Int.le_ediv_iff_mul_le (by omega)]
      omega
    omega
  · unfold Builtin.Str.tooLong
    rw [decide_eq_false_iff_not]
    have : sizeLine = 16777216 := rfl
    omega
  · split
    · rename_i c
      have e : repS i k = Str.empty := by
        unfold repS
        rw [show k.toNat = 0 by omega]
        rfl
      rw [e] at q
      exact ⟨by decide, ⟨.str Str.empty, H, I.tok _, ⟨_, rfl⟩, q⟩⟩
    · split
      · rename_i c c2
        have e : repS i k = i := by
          rw [Bool.or_eq_true] at c2
          refine Str.ext' (Array.toList_inj.mp ?_)
          rcases c2 with c2 | c2
          · have : k = 1 := by simpa using c2
            subst this
            simp [repS]
          · have : i.cps = #[] := Array.eq_empty_of_size_eq_zero (by simpa [Str.length] using c2)
            simp [repS, this]
        rw [e] at q
        exact ⟨.str i, H, I, ⟨_, rfl⟩, q⟩
      · rename_i c c2
        have e : (⟨(List.replicate k.toNat i.cps).foldl (· ++ ·) #[]⟩ : Str) = repS i k := by
          refine Str.ext' (Array.toList_inj.mp ?_)
          rw [foldl_arr]
          simp [repS]
        rw [e]
        refine ⟨?_, ⟨.str (repS i k), H, I.tok _, ⟨_, rfl⟩, q⟩⟩
        rw [repS_len]
        have : sizeLine = 16777216 := rfl
        omega
theorem op_fdivX {X : Cx} : OpR X (binaryOp .FloorDiv) (rI (fun _ j => j ≠ 0 ∧ j.natAbs.log2 < 9000) fun i j => .int (i.fdiv j)) := opI fun _ _ _ _ _ _ _ hc q => floordiv_int hc.1 q (.inl (PyProof.noPylong_of_log2 hc.2))
def rRepA (K : PySem.W.Frag) : R2 := fun x y H Q => ∃ l k xs, x = .ref l ∧ y = .int k ∧ SqT K H l xs ∧ -(2 ^ 62) ≤ k ∧ k ≤ 1000 ∧ xs.length ≤ 1000 ∧ ((xs = [] ∨ k = 1) → Q x H) ∧ ∀ p, H p = none → Q (.ref p) (upd H p (.tup (List.replicate k.toNat xs).flatten))
section
variable {X : Cx}
theorem op_repTA : OpR X (binaryOp .Mult) (rRepA X.K) := by
  intro pins s σ H x y v u Q I rx ry h
  obtain ⟨l, k, xs, rfl, rfl, hT, h0, h1, hz, q1, q⟩ := h
  by_cases c : xs ≠ [] ∧ 2 ≤ k
  · exact op_repT pins s σ H _ _ v u Q I rx ry ⟨l, k, xs, rfl, rfl, hT, c.1, c.2, h1, hz, q⟩
  cases rx
  obtain ⟨t, rfl⟩ := ry
  obtain ⟨its, r, ⟨⟨cls, dd, data, sl⟩, ho, hc, n, hd⟩, hs⟩ := I.tuple hT
  simp only at hc hd
  subst hc hd
  have hle : its.length = xs.length := r.length.symm
  have c0 : (decide (k < -(2 ^ 63)) || decide (k ≥ 2 ^ 63)) = false := by
    rw [decide_eq_false (by omega), decide_eq_false (by omega)] <;> rfl
  by_cases c1 : xs = [] ∨ k = 1
  · have c1' : (its.toArray.isEmpty || k == 1) = true := by
      rcases c1 with c1 | c1
      · have hn : its = [] := List.eq_nil_of_length_eq_zero (by rw [hle, c1]; rfl)
        subst hn; rfl
      · subst c1; simp
    refine wpAny_binaryOp_repeat_ref (T := "tuple") (U := "int") (by decide) ⟨_, ho, rfl⟩ (fun s' => typeIs_int s' k t) noFill_tuple_mul F.fills_int_mul F.slot_int_rmul repeat_tuple F.slot_int_index.lookup
      (call_meets F.slot_int_rmul (typeIs_int s k t) F.entry_int_rmul (F.args_int_rmul_2 _ _) (int_rmul_tuple k t l its.toArray n dd sl)
        ⟨ho, rfl, ⟨_, ho, rfl⟩, call_meets F.slot_tuple_mul ⟨_, ho, rfl⟩ F.entry_tuple_mul (F.args_tuple_mul_2 _ _) (tuple_mulS l its.toArray n dd sl k t c0 c1') ⟨ho, ?_⟩⟩)
    exact ⟨.ref l, H, I, rfl, q1 c1⟩
  · have c1' : (its.toArray.isEmpty || k == 1) = false := by
      have hn : its ≠ [] := fun e => c1 (.inl (List.eq_nil_of_length_eq_zero (by rw [← hle, e]; rfl)))
      have hi : its.toArray.isEmpty = false := by
        cases its with
        | nil => exact absurd rfl hn
        | cons a b => rfl
      rw [hi, Bool.false_or]
      exact beq_eq_false_iff_ne.mpr fun e => c1 (.inr e)
    have hk : k ≤ 0 := by
      rcases Int.lt_or_le k 2 with h2 | h2
      · have : k ≠ 1 := fun e => c1 (.inr e)
        omega
      · exact absurd ⟨fun e => c1 (.inl e), h2⟩ c
    have c2 : (decide (k ≤ 0) || its.toArray.isEmpty) = true := by rw [decide_eq_true hk]; rfl
    refine wpAny_binaryOp_repeat_ref (T := "tuple") (U := "int") (by decide) ⟨_, ho, rfl⟩ (fun s' => typeIs_int s' k t) noFill_tuple_mul F.fills_int_mul F.slot_int_rmul repeat_tuple F.slot_int_index.lookup
      (call_meets F.slot_int_rmul (typeIs_int s k t) F.entry_int_rmul (F.args_int_rmul_2 _ _) (int_rmul_tuple k t l its.toArray n dd sl)
        ⟨ho, rfl, ⟨_, ho, rfl⟩, call_meets F.slot_tuple_mul ⟨_, ho, rfl⟩ F.entry_tuple_mul (F.args_tuple_mul_2 _ _) (tuple_mulE l its.toArray n dd sl k t c0 c1' c2) ⟨ho, ?_⟩⟩)
    have hq := q _ (I.hok.fresh (Nat.le_refl _))
    rw [show k.toNat = 0 by omega] at hq
    exact ⟨.ref s.heap.objs.size, _, I.laid (t' := s.toks) (o := .tup []) (fun b ob q => Heap.get?_push_of_some _ q) (Nat.le_refl _) ⟨Nat.zero_le _, [], .nil, IsTup.new _ _⟩, rfl, hq⟩
end
end
open PySem L2

theorem line_eq : LINE = sizeLine := by rw [sizeLine_eq]
/-- a pure operation's result -/
def ResV (K : PySem.W.Frag) (oa : Os) (G H : Hp) (d : D) (fr : Bool) (v : V) (H' : Hp) : Prop :=
  (fr = true ∧ ∃ p o, v = .ref p ∧ H p = none ∧ H' = upd H p o ∧ Cont K oa G d o) ∨ (fr = false ∧ H' = H ∧ Rep K oa G d v) ∨
  (fr = false ∧ ∃ p o, v = .ref p ∧ H p = none ∧ H' = upd H p o ∧ Rep K oa (upd G p o) d v)
theorem ResV.same {K : PySem.W.Frag} {oa : Os} {G H : Hp} {d : D} {v : V} (r : Rep K oa G d v) : ResV K oa G H d false v H := .inr (.inl ⟨rfl, rfl, r⟩)
theorem ResV.lst {K : PySem.W.Frag} {oa : Os} {G H : Hp} {ds : List D} {vs : List V} {p : Addr} (n : H p = none) (r : Reps K oa G ds vs) : ResV K oa G H (.lst ds) true (.ref p) (upd H p (.lst vs)) := .inl ⟨rfl, p, _, rfl, n, rfl, _, rfl, r⟩
theorem ResV.tup {K : PySem.W.Frag} {oa : Os} {G H : Hp} {ds : List D} {vs : List V} {p : Addr} (s : Sub G H) (n : H p = none) (r : Reps K oa G ds vs) : ResV K oa G H (.tup ds) false (.ref p) (upd H p (.tup vs)) :=
  .inr (.inr ⟨rfl, p, _, rfl, n, rfl, .tup (.inl (.inl upd_same)) (r.up (Sub.upd (s.none n)))⟩)
/-- the reading of a pure operation on two looked-at values -/
def rO2 (K : PySem.W.Frag) (f : D → D → Option D) (q : D → Bool) : R2 := fun x y H Q => ∃ oa G dx dy d, Sub G H ∧ View K oa G H dx x ∧ View K oa G H dy y ∧ f dx dy = some d ∧ ∀ v H', ResV K oa G H d (q d) v H' → Q v H'

section
variable {X : Cx}
theorem catW (p1 p2 : Addr) (xs ys : Array Value) (n1 n2 : Nat) (z1 z2 : Array (Option Value)) (hz : xs.size + ys.size ≤ sizeLine) :
    Meets (Builtin.«list.__add__» ⟨[.ref p1, .ref p2], []⟩) (fun _ R s => s.heap.get? p1 = some ⟨.type "list", none, .seq xs n1, z1⟩ ∧ s.heap.get? p2 = some ⟨.type "list", none, .seq ys n2, z2⟩ ∧ R (.ok (.ret (Value.ref s.heap.objs.size))) { s with heap := s.heap.push { cls := Value.type "list", data := Data.seq (xs ++ ys) }, toks := s.toks }) :=
  PyProof.Rows.list_addW p1 p2 xs ys n1 n2 none none z1 z2 hz
theorem repW0 (i : Int) (t : Tok) (p : Addr) (xs : Array Value) (m : Nat) (z : Array (Option Value)) :
    Meets (Builtin.«int.__rmul__» ⟨[.int i t, .ref p], []⟩) (fun _ R s => s.heap.get? p = some ⟨.type "list", none, .seq xs m, z⟩ ∧ R (.ok (.ret Value.notImplemented)) s) :=
  .of_wp fun _ _ _ _ s h => by
    obtain ⟨hp, g, d, tk, os⟩ := s
    obtain ⟨hl, h⟩ := h
    wp_walk
    exact ⟨_, rfl, h⟩
theorem repW (p : Addr) (xs : Array Value) (m : Nat) (z : Array (Option Value)) (i : Int) (t : Tok) (h0 : ¬(!Builtin.List.listFitsIndex i) = true) (h1 : ¬xs.size * i.toNat > (2 ^ 63 - 1) / 8) (h2 : ¬Builtin.List.listTooLong (xs.size * i.toNat) = true) :
    Meets (Builtin.«list.__mul__» ⟨[.ref p, .int i t], []⟩) (fun _ R s => s.heap.get? p = some ⟨.type "list", none, .seq xs m, z⟩ ∧ R (.ok (.ret (Value.ref s.heap.objs.size))) { s with heap := s.heap.push { cls := Value.type "list", data := Data.seq (List.foldl (fun a b => a ++ b) #[] (List.replicate (if xs.isEmpty = true then 0 else i.toNat) xs)) }, toks := s.toks }) :=
  .of_wp fun _ _ _ _ s h => by
    obtain ⟨hp, g, d, tk, os⟩ := s
    obtain ⟨hl, h⟩ := h
    have hz := PySem.AutoListH.joined_fits h2
    wp_walk using wpAny_loadPart' hl
    refine wpAny_ite_false (decide_eq_false (Nat.not_lt.mpr hz)) ?_
    wp_walk using wpAny_loadPart' hl
    exact ⟨_, rfl, h⟩
theorem op_catL : OpR X (binaryOp .Add) (fun x y H Q => ∃ l b xs zs, x = .ref l ∧ y = .ref b ∧ SqL X.K H l xs ∧ SqL X.K H b zs ∧ xs.length + zs.length ≤ sizeLine ∧ ∀ p, H p = none → Q (.ref p) (upd H p (.lst (xs ++ zs)))) := by
  intro pn s1 st Hh x y v u Q I rx ry h
  obtain ⟨l, b, xs, zs, rfl, rfl, hH, hB, hz, q⟩ := h
  cases rx
  cases ry
  obtain ⟨its, r, ⟨⟨c1, d1, da1, sl1⟩, m1, e, f1, f2, f3⟩, _⟩ := I.list hH
  obtain ⟨its2, r2, ⟨⟨c2, d2, da2, sl2⟩, m2, e2, f4, f5, f6⟩, _⟩ := I.list hB
  simp only at f1 f2 f3 f4 f5 f6
  subst f1 f2 f3 f4 f5 f6
  have hl := r.length
  have hl2 := r2.length
  refine concat_meets ⟨_, e, rfl⟩ ⟨_, e2, rfl⟩ noFill_list_add seq_list_add PySem.F.slot_list_add PySem.F.entry_list_add (PySem.F.args_list_add_2 _ _) (catW l b its.toArray its2.toArray m1 m2 sl1 sl2 (by rw [List.size_toArray, List.size_toArray]; omega)) ⟨e, e2, ?_⟩
  have ea : its.toArray ++ its2.toArray = (its ++ its2).toArray := by simp
  rw [ea]
  exact ⟨.ref _, _, I.lnew (t' := s1.toks) (r.append r2) (by rw [List.length_append]; omega), rfl, q _ I.fresh⟩
theorem op_repL : OpR X (binaryOp .Mult) (fun x y H Q => ∃ l k xs, x = .ref l ∧ y = .int k ∧ SqL X.K H l xs ∧ -(2 ^ 63) ≤ k ∧ k < 2 ^ 63 ∧ xs.length * k.toNat ≤ sizeLine ∧
  ∀ p, H p = none → Q (.ref p) (upd H p (.lst (List.replicate k.toNat xs).flatten))) := by
  intro pn s1 st Hh x y v u Q I rx ry h
  obtain ⟨l, k, xs, rfl, rfl, hH, h1, h2, hz, q⟩ := h
  cases rx
  obtain ⟨t, rfl⟩ := ry
  obtain ⟨its, r, ⟨⟨c1, d1, da1, sl1⟩, n, e, f1, f2, f3⟩, _⟩ := I.list hH
  simp only at f1 f2 f3
  subst f1 f2 f3
  have hl := r.length
  have zl : its.toArray.size * k.toNat ≤ sizeLine := by
    rw [List.size_toArray, ← hl]; exact hz
  have zc : ¬ its.toArray.size * k.toNat > (2 ^ 63 - 1) / 8 := by
    have z1 : (sizeLine : Nat) ≤ (2 ^ 63 - 1) / 8 := by decide
    omega
  have zf : ¬ (!Builtin.List.listFitsIndex k) = true := by
    rw [fitsIndex_both h1 h2]; simp
  have zg : ¬ Builtin.List.listTooLong (its.toArray.size * k.toNat) = true := by
    rw [notLongL zl]; simp
  have zn : List.foldl (fun a b => a ++ b) #[] (List.replicate (if its.toArray.isEmpty = true then 0 else k.toNat) its.toArray) = (List.replicate k.toNat its).flatten.toArray := by
    rw [show ∀ m : Nat, List.foldl (fun a b => a ++ b) #[] (List.replicate m its.toArray) = (List.replicate m its).flatten.toArray from fun m => by simpa using foldl_rep its m []]
    cases its with
    | nil => simp
    | cons a r' => simp
  refine wpAny_binaryOp_repeat_ref (T := "list") (U := "int") (by decide) ⟨_, e, rfl⟩ (fun s' => typeIs_int s' k t) noFill_list_mul F.fills_int_mul F.slot_int_rmul repeat_list F.slot_int_index.lookup ?_
  refine call_meets F.slot_int_rmul (typeIs_int s1 k t) F.entry_int_rmul (F.args_int_rmul_2 _ _) (repW0 k t l its.toArray n sl1) ?_
  refine ⟨e, rfl, ⟨_, e, rfl⟩, ?_⟩
  refine call_meets F.slot_list_mul ⟨_, e, rfl⟩ F.entry_list_mul (F.args_list_mul_2 _ _) (repW l its.toArray n sl1 k t zf zc zg) ⟨e, ?_⟩
  rw [zn]
  refine ⟨.ref _, _, I.lnew (t' := s1.toks) (r.rep k.toNat) ?_, rfl, q _ I.fresh⟩
  rw [PyProof.Rows.lm_len_rep_flat, Nat.mul_comm]; exact hz

theorem op_bin (op : Operator) : OpR X (binaryOp op) (rO2 X.K (binD op) D.isL) := by
  intro pins s σ H x y v u Q I rx ry h
  obtain ⟨oa, G, dx, dy, d, sG, vx, vy, e, q⟩ := h
  unfold binD at e
  split at e
  · cases e; rw [vx.intE] at rx; rw [vy.intE] at ry
    exact op_add pins s σ H _ _ v u Q I rx ry ⟨_, _, rfl, rfl, q _ _ (.same (.int _))⟩
  · rename_i s1 s2
    split at e
    · rename_i hz
      cases e; rw [vx.strE] at rx; rw [vy.strE] at ry
      exact op_add_str pins s σ H _ _ v u Q I rx ry ⟨_, _, rfl, rfl, by rw [← line_eq]; exact hz, q _ _ (.same (.str _))⟩
    · cases e
  · split at e
    · rename_i hz
      cases e
      obtain ⟨p, xs, rfl, h1, r1⟩ := vx.lstE sG
      obtain ⟨p2, ys, rfl, h2, r2⟩ := vy.lstE sG
      refine op_catL pins s σ H _ _ v u Q I rx ry ⟨_, _, _, _, rfl, rfl, h1, h2, ?_, fun l hl => q _ _ (.lst hl (r1.append r2))⟩
      rw [← r1.length, ← r2.length, ← line_eq]; exact hz
    · cases e
  · split at e
    · rename_i hz
      cases e
      obtain ⟨p, xs, rfl, h1, r1⟩ := vx.tupE sG
      obtain ⟨p2, ys, rfl, h2, r2⟩ := vy.tupE sG
      refine op_catA pins s σ H _ _ v u Q I rx ry ⟨_, _, _, _, rfl, rfl, h1, h2, ?_, fun z => q _ _ (.same ?_), fun _ z => q _ _ (.same ?_), fun _ _ l hl => q _ _ (.tup sG hl (r1.append r2))⟩
      · rw [← r1.length, ← r2.length, ← line_eq]; exact hz
      · subst z; cases r1
        cases vy with | rep r => exact r
      · subst z; cases r2
        rw [List.append_nil]
        cases vx with | rep r => exact r
    · cases e
  · cases e; rw [vx.intE] at rx; rw [vy.intE] at ry
    exact op_sub pins s σ H _ _ v u Q I rx ry ⟨_, _, rfl, rfl, q _ _ (.same (.int _))⟩
  · split at e
    · rename_i i j hz
      cases e; rw [vx.intE] at rx; rw [vy.intE] at ry
      unfold mulOk at hz
      rw [Bool.or_eq_true, Bool.or_eq_true, decide_eq_true_eq, decide_eq_true_eq, decide_eq_true_eq] at hz
      rcases hz with (hz | hz) | hz
      · exact op_mul pins s σ H _ _ v u Q I rx ry ⟨_, _, rfl, rfl, .inl hz, q _ _ (.same (.int _))⟩
      · exact op_mul pins s σ H _ _ v u Q I rx ry ⟨_, _, rfl, rfl, .inr hz, q _ _ (.same (.int _))⟩
      · exact op_mulW pins s σ H _ _ v u Q I rx ry ⟨_, _, rfl, rfl, hz, q _ _ (.same (.int _))⟩
    · cases e
  · split at e
    · rename_i hz
      cases e
      obtain ⟨p, xs, rfl, h1, r1⟩ := vx.lstE sG
      rw [vy.intE] at ry
      rw [Bool.and_eq_true, decide_eq_true_eq, decide_eq_true_eq] at hz
      refine op_repL pins s σ H _ _ v u Q I rx ry ⟨_, _, _, rfl, rfl, h1, hz.1.1, hz.1.2, ?_, fun l hl => q _ _ (.lst hl (r1.rep _))⟩
      rw [← r1.length, ← line_eq]; exact hz.2
    · cases e
  · split at e
    · rename_i hz
      cases e
      obtain ⟨p, xs, rfl, h1, r1⟩ := vx.tupE sG
      rw [vy.intE] at ry
      rw [decide_eq_true_eq] at hz
      refine op_repTA pins s σ H _ _ v u Q I rx ry ⟨_, _, _, rfl, rfl, h1, hz.1, hz.2.1, ?_, fun z => q _ _ (.same ?_), fun l hl => q _ _ (.tup sG hl (r1.rep _))⟩
      · rw [← r1.length]; exact hz.2.2
      · rename_i a b
        have e : (List.replicate b.toNat a).flatten = a := by
          rcases z with z | z
          · subst z; cases r1; simp
          · subst z; simp
        rw [e]
        cases vx with | rep r => exact r
    · cases e
  · split at e
    · rename_i hz
      cases e; rw [vx.strE] at rx; rw [vy.intE] at ry
      rw [decide_eq_true_eq] at hz
      exact op_repS pins s σ H _ _ v u Q I rx ry ⟨_, _, rfl, rfl, hz.1, hz.2.1, hz.2.2, q _ _ (.same (.str _))⟩
    · cases e
  · split at e
    · rename_i hz
      cases e; rw [vx.intE] at rx; rw [vy.intE] at ry
      rw [decide_eq_true_eq] at hz
      exact op_fdivW pins s σ H _ _ v u Q I rx ry ⟨_, _, rfl, rfl, hz, q _ _ (.same (.int _))⟩
    · split at e
      · rename_i hz
        cases e; rw [vx.intE] at rx; rw [vy.intE] at ry
        rw [decide_eq_true_eq] at hz
        exact op_fdivX pins s σ H _ _ v u Q I rx ry ⟨_, _, rfl, rfl, hz, q _ _ (.same (.int _))⟩
      · cases e
  · split at e
    · rename_i hz
      cases e; rw [vx.intE] at rx; rw [vy.intE] at ry
      exact op_mod pins s σ H _ _ v u Q I rx ry ⟨_, _, rfl, rfl, hz, q _ _ (.same (.int _))⟩
    · split at e
      · rename_i hz
        cases e; rw [vx.intE] at rx; rw [vy.intE] at ry
        exact op_modN pins s σ H _ _ v u Q I rx ry ⟨_, _, rfl, rfl, hz, q _ _ (.same (.int _))⟩
      · cases e
  · split at e
    · rename_i hz
      cases e; rw [vx.intE] at rx; rw [vy.intE] at ry
      unfold powOk at hz; rw [decide_eq_true_eq] at hz
      exact op_pow pins s σ H _ _ v u Q I rx ry ⟨_, _, rfl, rfl, hz, q _ _ (.same (.int _))⟩
    · cases e
  · split at e
    · rename_i hz
      cases e; rw [vx.intE] at rx; rw [vy.intE] at ry
      unfold powOk at hz; rw [decide_eq_true_eq] at hz
      exact op_shl pins s σ H _ _ v u Q I rx ry ⟨_, _, rfl, rfl, hz, q _ _ (.same (.int _))⟩
    · cases e
  · split at e
    · rename_i hz
      cases e; rw [vx.intE] at rx; rw [vy.intE] at ry
      exact op_shr pins s σ H _ _ v u Q I rx ry ⟨_, _, rfl, rfl, hz, q _ _ (.same (.int _))⟩
    · cases e
  · cases e; rw [vx.intE] at rx; rw [vy.intE] at ry
    exact op_and pins s σ H _ _ v u Q I rx ry ⟨_, _, rfl, rfl, q _ _ (.same (.int _))⟩
  · cases e; rw [vx.intE] at rx; rw [vy.intE] at ry
    exact op_or pins s σ H _ _ v u Q I rx ry ⟨_, _, rfl, rfl, q _ _ (.same (.int _))⟩
  · cases e
end

section
variable {K : PySem.W.Frag} {oa : Os} {G H : Hp}
mutual
theorem Rep.dp (t : Sub G H) : ∀ {d : D} {v : V}, Rep K oa G d v → d.pd.canLay0 = true → Dp K H v d.pd
  | _, _, .non, _ => .non
  | _, _, .bl b, _ => .bl b
  | _, _, .int i, _ => .int i
  | _, _, .str x, _ => .str x
  | _, _, .lst h r, e => .lst (t.sqL h) (Reps.dp t r (by simpa [D.pd, PyData.canLay0] using e))
  | _, _, .tup h r, e => .tup (t.sqT h) (Reps.dp t r (by simpa [D.pd, PyData.canLay0] using e))
  | _, _, .dic _ _, e => by simp [D.pd, PyData.canLay0] at e
  | _, _, .obj _, e => by simp [D.pd, PyData.canLay0] at e
theorem Reps.dp (t : Sub G H) : ∀ {d : List D} {v : List V}, Reps K oa G d v → PyData.canLayAll0 (pds d) = true → DpAll K H v (pds d)
  | _, _, .nil, _ => .nil
  | _, _, .cons h r, e => by
    rw [pds, PyData.canLayAll0, Bool.and_eq_true] at e
    exact .cons (Rep.dp t h e.1) (Reps.dp t r e.2)
end
theorem View.dp (t : Sub G H) {d : D} {v : V} (h : View K oa G H d v) (e : SeqAt.shaped d.pd = true) : Dp K H v d.pd := by
  have e1 := SeqAt.canLay_of_shaped e
  cases h with
  | rep r => exact r.dp t e1
  | lst q r => exact .lst q (r.dp t (by simpa [D.pd, PyData.canLay0] using e1))
  | dic _ _ => simp [D.pd, PyData.canLay0] at e1
theorem flatE {d : D} {v : V} (h : View K oa G H d v) (f : d.flat = true) : (d = .non ∧ v = .non) ∨ (∃ b, d = .bl b ∧ v = .bl b) ∨ (∃ i, d = .int i ∧ v = .int i) ∨ ∃ z, d = .str z ∧ v = .str z := by
  cases d with
  | non => exact .inl ⟨rfl, h.nonE⟩
  | bl b => exact .inr (.inl ⟨b, rfl, h.blE⟩)
  | int i => exact .inr (.inr (.inl ⟨i, rfl, h.intE⟩))
  | str z => exact .inr (.inr (.inr ⟨z, rfl, h.strE⟩))
  | _ => exact absurd (show false = true from f) Bool.false_ne_true
theorem flatV_of {d : D} {v : V} (h : View K oa G H d v) (f : d.flat = true) : flatV v = true := by
  rcases flatE h f with ⟨rfl, rfl⟩ | ⟨b, rfl, rfl⟩ | ⟨i, rfl, rfl⟩ | ⟨z, rfl, rfl⟩ <;> rfl
theorem eqV_of {d1 d2 : D} {v1 v2 : V} (h1 : View K oa G H d1 v1) (h2 : View K oa G H d2 v2) (f1 : d1.flat = true) (f2 : d2.flat = true) : eqV v1 v2 = PyData.eqv d1.pd d2.pd := by
  rcases flatE h1 f1 with ⟨rfl, rfl⟩ | ⟨b, rfl, rfl⟩ | ⟨i, rfl, rfl⟩ | ⟨z, rfl, rfl⟩ <;> rcases flatE h2 f2 with ⟨rfl, rfl⟩ | ⟨b', rfl, rfl⟩ | ⟨i', rfl, rfl⟩ | ⟨z', rfl, rfl⟩ <;> simp only [eqV, D.pd, PyData.eqv]
theorem flats_of : ∀ {ds : List D} {vs : List V}, Reps K oa G ds vs → ds.all D.flat = true → vs.all flatV = true
  | _, _, .nil, _ => rfl
  | _, _, .cons h r, f => by
    rw [List.all_cons, Bool.and_eq_true] at f
    rw [List.all_cons, flatV_of (H := G) (.rep h) f.1, flats_of r f.2]; rfl
theorem inV_of {d : D} {v : V} (h : View K oa G H d v) (f : d.flat = true) : ∀ {ds : List D} {vs : List V}, Reps K oa G ds vs → ds.all D.flat = true → inV v vs = ds.any fun z => PyData.eqv z.pd d.pd
  | _, _, .nil, _ => rfl
  | _, _, .cons h1 r, f1 => by
    rw [List.all_cons, Bool.and_eq_true] at f1
    have ih := inV_of h f r f1.2
    unfold inV at ih ⊢
    rw [List.any_cons, List.any_cons, ih, eqV_of (.rep h1) h f1.1 f]
theorem pds_any (p : PyData → Bool) : ∀ (ds : List D), (pds ds).any p = ds.any fun z => p z.pd
  | [] => rfl
  | d :: ds => by rw [pds, List.any_cons, List.any_cons, pds_any p ds]
end

section
variable {X : Cx}
/-- the reading of a comparison of two looked-at values -/
def rCm (K : PySem.W.Frag) (op : CmpOp) : R2 := fun x y H Q => ∃ oa G dx dy b, Sub G H ∧ View K oa G H dx x ∧ View K oa G H dy y ∧ cmpD op dx dy = some b ∧ Q (.bl b) H
theorem scal_case {K : PySem.W.Frag} {oa : Os} {G H : Hp} {dx dy : D} {x y : V} {b : Bool} (t : Sub G H) (vx : View K oa G H dx x) (vy : View K oa G H dy y) (e : eqD dx dy = some b) :
    (scal x y = true ∧ b = decide (x = y)) ∨ (SeqAt.shaped dx.pd = true ∧ SeqAt.shaped dy.pd = true ∧ b = PyData.eqv dx.pd dy.pd) := by
  unfold eqD at e
  split at e
  all_goals first
    | (left; cases e
       first
        | (rw [vx.nonE]) | (rw [vx.intE]) | (rw [vx.strE]) | (rw [vx.blE])
       first
        | (rw [vy.nonE]; exact ⟨rfl, by simp⟩) | (rw [vy.intE]; exact ⟨rfl, by simp⟩) | (rw [vy.strE]; exact ⟨rfl, by simp⟩) | (rw [vy.blE]; exact ⟨rfl, by simp⟩))
    | (right
       split at e
       · rename_i z
         rw [Bool.and_eq_true] at z
         cases e
         exact ⟨z.1, z.2, rfl⟩
       · cases e)
theorem op_eqR (hu : X.A.units + 65 < cLine) : OpR X (compareOp .Eq) (rCm X.K .Eq) := by
  intro pn s1 st Hh x y v u Q I rx ry ⟨oa, G, dx, dy, b, sG, vx, vy, e, q⟩
  rcases scal_case sG vx vy e with ⟨h1, rfl⟩ | ⟨h1, h2, rfl⟩
  · exact op_eq pn s1 st Hh x y v u Q I rx ry ⟨h1, q⟩
  · exact op_eqD (by omega) pn s1 st Hh x y v u Q I rx ry ⟨_, _, vx.dp sG h1, vy.dp sG h2, h1, h2, q⟩
theorem op_neR (hu : X.A.units + 65 < cLine) : OpR X (compareOp .NotEq) (rCm X.K .NotEq) := by
  intro pn s1 st Hh x y v u Q I rx ry ⟨oa, G, dx, dy, b, sG, vx, vy, e, q⟩
  simp only [cmpD] at e
  cases e1 : eqD dx dy with
  | none => rw [e1] at e; cases e
  | some c =>
    rw [e1] at e
    cases e
    rcases scal_case sG vx vy e1 with ⟨h1, rfl⟩ | ⟨h1, h2, rfl⟩
    · exact op_ne pn s1 st Hh x y v u Q I rx ry ⟨h1, q⟩
    · exact op_neD (by omega) pn s1 st Hh x y v u Q I rx ry ⟨_, _, vx.dp sG h1, vy.dp sG h2, h1, h2, q⟩
theorem op_ltR : OpR X (compareOp .Lt) (rCm X.K .Lt) := by
  intro pn s1 st Hh x y v u Q I rx ry ⟨oa, G, dx, dy, b, sG, vx, vy, e, q⟩
  simp only [cmpD] at e
  split at e
  · cases e; rw [vx.intE] at rx; rw [vy.intE] at ry
    exact op_lt pn s1 st Hh _ _ v u Q I rx ry ⟨_, _, rfl, rfl, q⟩
  · cases e; rw [vx.strE] at rx; rw [vy.strE] at ry
    exact op_lt_str pn s1 st Hh _ _ v u Q I rx ry ⟨_, _, rfl, rfl, q⟩
  · cases e
theorem op_leR : OpR X (compareOp .LtE) (rCm X.K .LtE) := by
  intro pn s1 st Hh x y v u Q I rx ry ⟨oa, G, dx, dy, b, sG, vx, vy, e, q⟩
  simp only [cmpD] at e
  split at e
  · cases e; rw [vx.intE] at rx; rw [vy.intE] at ry
    exact op_le pn s1 st Hh _ _ v u Q I rx ry ⟨_, _, rfl, rfl, q⟩
  · cases e
theorem op_gtR : OpR X (compareOp .Gt) (rCm X.K .Gt) := by
  intro pn s1 st Hh x y v u Q I rx ry ⟨oa, G, dx, dy, b, sG, vx, vy, e, q⟩
  simp only [cmpD] at e
  split at e
  · cases e; rw [vx.intE] at rx; rw [vy.intE] at ry
    exact op_gt pn s1 st Hh _ _ v u Q I rx ry ⟨_, _, rfl, rfl, q⟩
  · cases e
theorem op_geR : OpR X (compareOp .GtE) (rCm X.K .GtE) := by
  intro pn s1 st Hh x y v u Q I rx ry ⟨oa, G, dx, dy, b, sG, vx, vy, e, q⟩
  simp only [cmpD] at e
  split at e
  · cases e; rw [vx.intE] at rx; rw [vy.intE] at ry
    exact op_ge pn s1 st Hh _ _ v u Q I rx ry ⟨_, _, rfl, rfl, q⟩
  · cases e
/-- is None of a looked-at value -/
theorem non_iff {K : PySem.W.Frag} {oa : Os} {G H : Hp} {d : D} {v : V} (h : View K oa G H d v) : decide (v = .non) = (match d with | .non => true | _ => false) := by
  cases h with
  | rep r => cases r <;> simp
  | lst _ _ => simp
  | dic _ _ => simp
theorem op_isR : OpR X (compareOp .Is) (rCm X.K .Is) := by
  intro pn s1 st Hh x y v u Q I rx ry ⟨oa, G, dx, dy, b, sG, vx, vy, e, q⟩
  simp only [cmpD] at e
  cases dy with
  | non =>
    refine op_isN pn s1 st Hh x y v u Q I rx ry ⟨vy.nonE, ?_⟩
    rw [non_iff vx]
    cases dx <;> (cases e; exact q)
  | bl c =>
    cases dx with
    | bl a =>
      cases e
      exact op_is_bl pn s1 st Hh x y v u Q I rx ry ⟨a, c, vx.blE, vy.blE, q⟩
    | _ => cases e
  | _ => cases e
theorem op_isnR : OpR X (compareOp .IsNot) (rCm X.K .IsNot) := by
  intro pn s1 st Hh x y v u Q I rx ry ⟨oa, G, dx, dy, b, sG, vx, vy, e, q⟩
  simp only [cmpD] at e
  cases dy with
  | non =>
    refine op_notN pn s1 st Hh x y v u Q I rx ry ⟨vy.nonE, ?_⟩
    rw [non_iff vx]
    cases dx <;> (cases e; exact q)
  | bl c =>
    cases dx with
    | bl a =>
      cases e
      exact op_isnot_bl pn s1 st Hh x y v u Q I rx ry ⟨a, c, vx.blE, vy.blE, q⟩
    | _ => cases e
  | _ => cases e
theorem in_case {K : PySem.W.Frag} {oa : Os} {G H : Hp} {dx dy : D} {x y : V} {b : Bool} (t : Sub G H) (vx : View K oa G H dx x) (vy : View K oa G H dy y) (e : inD dx dy = some b) :
    (∃ i j, x = .str i ∧ y = .str j ∧ b = !(Builtin.Str.occurrences j i 0 j.length 1).isEmpty) ∨
    (∃ p xs, y = .ref p ∧ (SqL K H p xs ∨ SqT K H p xs) ∧ flatV x = true ∧ xs.all flatV = true ∧ b = inV x xs) ∨
    (∃ d ds, Dp K H x d ∧ Dp K H y (.list ds) ∧ SeqAt.shaped d = true ∧ SeqAt.shaped (.list ds) = true ∧ b = ds.any fun z => PyData.eqv z d) := by
  unfold inD at e
  split at e
  · rename_i ys
    obtain ⟨p, vs, rfl, h1, r1⟩ := vy.lstE t
    split at e
    · rename_i z
      rw [Bool.and_eq_true] at z
      cases e
      exact .inr (.inl ⟨p, vs, rfl, .inl h1, flatV_of vx z.1, flats_of r1 z.2, (inV_of vx z.1 r1 z.2).symm⟩)
    · split at e
      · rename_i z
        rw [Bool.and_eq_true] at z
        cases e
        refine .inr (.inr ⟨dx.pd, pds ys, vx.dp t z.1, vy.dp t z.2, z.1, z.2, ?_⟩)
        rw [pds_any]
      · cases e
  · split at e
    · rename_i z
      rw [Bool.and_eq_true] at z
      obtain ⟨p, vs, rfl, h1, r1⟩ := vy.tupE t
      cases e
      exact .inr (.inl ⟨p, vs, rfl, .inr h1, flatV_of vx z.1, flats_of r1 z.2, (inV_of vx z.1 r1 z.2).symm⟩)
    · cases e
  · split at e
    · cases e
      exact .inl ⟨_, _, vx.strE, vy.strE, rfl⟩
    · cases e
  · cases e
theorem op_inR (hu : X.A.units + 65 < cLine) : OpR X (compareOp .In) (rCm X.K .In) := by
  intro pn s1 st Hh x y v u Q I rx ry ⟨oa, G, dx, dy, b, sG, vx, vy, e, q⟩
  rcases in_case sG vx vy e with ⟨i, j, rfl, rfl, rfl⟩ | ⟨p, xs, h1, h2, h3, h4, rfl⟩ | ⟨d, ds, h1, h2, h3, h4, rfl⟩
  · exact op_in_str pn s1 st Hh _ _ v u Q I rx ry ⟨_, _, rfl, rfl, q⟩
  · exact op_in_seq pn s1 st Hh _ _ v u Q I rx ry ⟨p, xs, h1, h2, h3, h4, q⟩
  · exact op_inD hu pn s1 st Hh _ _ v u Q I rx ry ⟨d, ds, h1, h2, h3, h4, q⟩
theorem op_ninR (hu : X.A.units + 65 < cLine) : OpR X (compareOp .NotIn) (rCm X.K .NotIn) := by
  intro pn s1 st Hh x y v u Q I rx ry ⟨oa, G, dx, dy, b, sG, vx, vy, e, q⟩
  simp only [cmpD] at e
  cases e1 : inD dx dy with
  | none => rw [e1] at e; cases e
  | some c =>
    rw [e1] at e
    cases e
    rcases in_case sG vx vy e1 with ⟨i, j, rfl, rfl, rfl⟩ | ⟨p, xs, h1, h2, h3, h4, rfl⟩ | ⟨d, ds, h1, h2, h3, h4, rfl⟩
    · exact L2.op_notin_str pn s1 st Hh _ _ v u Q I rx ry ⟨_, _, rfl, rfl, q⟩
    · exact op_notIn_seq pn s1 st Hh _ _ v u Q I rx ry ⟨p, xs, h1, h2, h3, h4, q⟩
    · exact op_notInD hu pn s1 st Hh _ _ v u Q I rx ry ⟨d, ds, h1, h2, h3, h4, q⟩
theorem op_cm (hu : X.A.units + 65 < cLine) (op : CmpOp) : OpR X (compareOp op) (rCm X.K op) := by
  cases op with
  | Eq => exact op_eqR hu
  | NotEq => exact op_neR hu
  | Lt => exact op_ltR
  | LtE => exact op_leR
  | Gt => exact op_gtR
  | GtE => exact op_geR
  | Is => exact op_isR
  | IsNot => exact op_isnR
  | In => exact op_inR hu
  | NotIn => exact op_ninR hu

theorem atI_rep {K : PySem.W.Frag} {oa : Os} {G : Hp} {ds : List D} {vs : List V} {i : Int} {d : D} (r : Reps K oa G ds vs) (h : atI ds i = some d) : ∃ v, atI vs i = some v ∧ Rep K oa G d v := by
  unfold atI at h ⊢
  rw [r.length] at h
  cases e : ixN vs.length i with
  | none => rw [e] at h; cases h
  | some j =>
    rw [e] at h
    obtain ⟨v, h1, h2⟩ := r.get (show ds[j]? = some d from h)
    exact ⟨v, by rw [← h1]; rfl, h2⟩
theorem ix_D : IxR X (rO2 X.K idxD fun _ => false) := by
  intro va sl pn s1 st Hh x y v u Q I rx ry ⟨oa, G, dx, dy, d, sG, vx, vy, e, q⟩ hs
  unfold idxD at e
  split at e
  · rename_i xs i
    cases e1 : atI xs i with
    | none => rw [e1] at e; cases e
    | some z =>
      rw [e1] at e
      cases e
      obtain ⟨p, vs, rfl, h1, r1⟩ := vx.lstE sG
      obtain ⟨w1, h2, h3⟩ := atI_rep r1 e1
      exact ix_list va sl pn s1 st Hh _ y v u Q I rx ry ⟨p, vs, i, w1, rfl, vy.intE, h1, h2, q _ _ (.same h3)⟩ hs
  · rename_i xs i
    cases e1 : atI xs i with
    | none => rw [e1] at e; cases e
    | some z =>
      rw [e1] at e
      cases e
      obtain ⟨p, vs, rfl, h1, r1⟩ := vx.tupE sG
      obtain ⟨w1, h2, h3⟩ := atI_rep r1 e1
      exact ix_tup va sl pn s1 st Hh _ y v u Q I rx ry ⟨p, vs, i, w1, rfl, vy.intE, h1, h2, q _ _ (.same h3)⟩ hs
  · split at e
    · rename_i z i hz
      cases e1 : atI z.cps.toList i with
      | none => rw [e1] at e; cases e
      | some c =>
        rw [e1] at e
        cases e
        exact ix_str va sl pn s1 st Hh _ y v u Q I rx ry ⟨z, i, c, vx.strE, vy.intE, by rw [← line_eq]; exact hz, e1, q _ _ (.same (.str _))⟩ hs
    · cases e
  · cases e
def rSl (K : PySem.W.Frag) : V → Option Int → Option Int → Hp → VK → Prop := fun x lo hi H Q => ∃ oa G dx d, Sub G H ∧ View K oa G H dx x ∧ slcD dx lo hi = some d ∧ ∀ v H', ResV K oa G H d d.isL v H' → Q v H'
theorem sl_D : SlR X (rSl X.K) := by
  intro pn s1 st Hh x v vl vu lo hi sl Q I rx hs pl pu ⟨oa, G, dx, d, sG, vx, e, q⟩
  unfold slcD at e
  split at e
  · cases e
    obtain ⟨p, vs, rfl, h1, r1⟩ := vx.lstE sG
    exact sl_list pn s1 st Hh _ v vl vu lo hi sl Q I rx hs pl pu ⟨p, vs, rfl, h1, fun l hl => q _ _ (.lst hl (r1.cut lo hi))⟩
  · cases e
    obtain ⟨p, vs, rfl, h1, r1⟩ := vx.tupE sG
    refine sl_tupA pn s1 st Hh _ v vl vu lo hi sl Q I rx hs pl pu ⟨p, vs, rfl, h1, fun z => q _ _ (.same ?_), fun _ l hl => q _ _ (.tup sG hl (r1.cut lo hi))⟩
    rename_i xs
    have e2 : cutL xs lo hi = xs := by
      unfold cutL
      rw [r1.length, z.1, z.2, List.drop_zero, Nat.sub_zero, ← r1.length, List.take_length]
    rw [e2]
    cases vx with | rep r => exact r
  · split at e
    · rename_i hz
      cases e
      exact sl_str pn s1 st Hh _ v vl vu lo hi sl Q I rx hs pl pu ⟨_, vx.strE, by rw [← line_eq]; exact hz, q _ _ (.same (.str _))⟩
    · cases e
  · cases e
end

inductive Views (K : PySem.W.Frag) (oa : Os) (G H : Hp) : List D → List V → Prop
  | nil : Views K oa G H [] []
  | cons {d : D} {v : V} {ds : List D} {vs : List V} : View K oa G H d v → Views K oa G H ds vs → Views K oa G H (d :: ds) (v :: vs)
def rBi (K : PySem.W.Frag) (f : Str) : List V → Hp → VK → Prop := fun xs H Q => ∃ oa G ds d, Sub G H ∧ Views K oa G H ds xs ∧ biD f ds = some d ∧ ∀ v H', ResV K oa G H d d.isL v H' → Q v H'
section
variable {X : Cx}
theorem bi_len : CallR X (.builtin "len") (rBi X.K "len") := by
  intro pn s1 st Hh xs us Q I r ⟨oa, G, ds, d, sG, vs, e, q⟩
  unfold biD at e
  rw [if_pos rfl] at e
  split at e
  · cases e
    cases vs with | cons v1 v2 => cases v2 with | nil =>
      obtain ⟨p, ws, rfl, h1, r1⟩ := v1.lstE sG
      refine call_len pn s1 st Hh _ us Q I r ⟨_, ws.length, rfl, .inl ⟨ws, h1, rfl⟩, ?_⟩
      rw [← r1.length]; exact q _ _ (.same (.int _))
  · cases e
    cases vs with | cons v1 v2 => cases v2 with | nil =>
      obtain ⟨p, ws, rfl, h1, r1⟩ := v1.tupE sG
      refine call_len pn s1 st Hh _ us Q I r ⟨_, ws.length, rfl, .inr ⟨ws, h1, rfl⟩, ?_⟩
      rw [← r1.length]; exact q _ _ (.same (.int _))
  · split at e
    · rename_i hz
      cases e
      cases vs with | cons v1 v2 => cases v2 with | nil =>
        rw [v1.strE] at r
        exact call_len pn s1 st Hh _ us Q I r ⟨_, _, rfl, ⟨by rw [← line_eq]; exact hz, rfl⟩, q _ _ (.same (.int _))⟩
    · cases e
  · cases e
theorem bi_list : CallR X (.type "list") (rBi X.K "list") := by
  intro pn s1 st Hh xs us Q I r ⟨oa, G, ds, d, sG, vs, e, q⟩
  unfold biD at e
  rw [if_neg (by decide +kernel), if_pos rfl] at e
  split at e
  · cases e
    cases vs with | cons v1 v2 => cases v2 with | nil =>
      obtain ⟨p, ws, rfl, h1, r1⟩ := v1.lstE sG
      exact call_list_of pn s1 st Hh _ us Q I r ⟨p, ws, rfl, .inl h1, fun l hl => q _ _ (.lst hl r1)⟩
  · cases e
    cases vs with | cons v1 v2 => cases v2 with | nil =>
      obtain ⟨p, ws, rfl, h1, r1⟩ := v1.tupE sG
      exact call_list_of pn s1 st Hh _ us Q I r ⟨p, ws, rfl, .inr h1, fun l hl => q _ _ (.lst hl r1)⟩
  · cases e
theorem bi_tuple : CallR X (.type "tuple") (rBi X.K "tuple") := by
  intro pn s1 st Hh xs us Q I r ⟨oa, G, ds, d, sG, vs, e, q⟩
  unfold biD at e
  rw [if_neg (by decide +kernel), if_neg (by decide +kernel), if_pos rfl] at e
  split at e
  · cases e
    cases vs with | cons v1 v2 => cases v2 with | nil =>
      obtain ⟨p, ws, rfl, h1, r1⟩ := v1.lstE sG
      exact call_tuple_of pn s1 st Hh _ us Q I r ⟨p, ws, rfl, .inl ⟨h1, fun l hl => q _ _ (.tup sG hl r1)⟩⟩
  · cases e
    cases vs with | cons v1 v2 => cases v2 with | nil =>
      have v3 := v1
      obtain ⟨p, ws, rfl, h1, r1⟩ := v1.tupE sG
      refine call_tuple_of pn s1 st Hh _ us Q I r ⟨p, ws, rfl, .inr ⟨h1, q _ _ (.same ?_)⟩⟩
      cases v3 with | rep r => exact r
  · cases e
theorem bi_int : CallR X (.type "int") (rBi X.K "int") := by
  intro pn s1 st Hh xs us Q I r ⟨oa, G, ds, d, sG, vs, e, q⟩
  unfold biD at e
  rw [if_neg (by decide +kernel), if_neg (by decide +kernel), if_neg (by decide +kernel), if_pos rfl] at e
  split at e
  · cases e
    cases vs with | cons v1 v2 => cases v2 with | nil =>
      rw [v1.intE] at r
      exact call_int1 pn s1 st Hh _ us Q I r (.inl ⟨_, rfl, q _ _ (.same (.int _))⟩)
  · cases e
    cases vs with | cons v1 v2 => cases v2 with | nil =>
      rw [v1.blE] at r
      exact call_int1 pn s1 st Hh _ us Q I r (.inr ⟨_, rfl, q _ _ (.same (.int _))⟩)
  · rename_i x
    split at e
    · rename_i hl
      cases e1 : intText? x with
      | none => rw [e1] at e; cases e
      | some m0 =>
        rw [e1] at e
        cases e
        cases vs with | cons v1 v2 => cases v2 with | nil =>
          rw [v1.strE] at r
          cases r with
          | cons r1 r2 =>
            cases r2
            obtain ⟨tk, rfl⟩ := r1
            exact PySem.W.KIN.call_text (prog := X.prog) (w := X.w) e1 hl ⟨.int m0, Hh, I.tok _, ⟨_, rfl⟩, q _ _ (.same (.int _))⟩
    · cases e
  · cases e
theorem bi_max (hc : X.calm = true) : CallR X (.builtin "max") (rBi X.K "max") := by
  intro pn s1 st Hh xs us Q I r ⟨oa, G, ds, d, sG, vs, e, q⟩
  unfold biD at e
  rw [if_neg (by decide +kernel), if_neg (by decide +kernel), if_neg (by decide +kernel), if_neg (by decide +kernel), if_pos rfl] at e
  split at e
  · cases e
    cases vs with | cons v1 v2 => cases v2 with | cons v2 v3 => cases v3 with | nil =>
      rw [v1.intE, v2.intE] at r
      exact call_max2 hc pn s1 st Hh _ us Q I r ⟨_, _, rfl, q _ _ (.same (.int _))⟩
  · rename_i zs
    cases e1 : allInt zs with
    | none => rw [e1] at e; cases e
    | some bs =>
      rw [e1] at e
      simp only [Option.bind_some] at e
      cases e3 : bs.max? with
      | none => rw [e3] at e; cases e
      | some m0 =>
        rw [e3] at e
        cases e
        cases vs with | cons v1 v2 => cases v2 with | nil =>
          obtain ⟨p, ws, rfl, h1, r1⟩ := v1.lstE sG
          have e2 := r1.ints e1
          subst e2
          obtain ⟨k1, k2⟩ := List.max?_eq_some_iff.mp e3
          refine cr_max hc pn s1 st Hh _ us Q I r ⟨_, _, rfl, h1, List.length_pos_of_mem k1, fun m h2 h3 => ?_⟩
          have e4 : m = m0 := Int.le_antisymm (k2 m h2) (h3 m0 k1)
          rw [e4]
          exact q _ _ (.same (.int _))
  · cases e
theorem bi_min (hc : X.calm = true) : CallR X (.builtin "min") (rBi X.K "min") := by
  intro pn s1 st Hh xs us Q I r ⟨oa, G, ds, d, sG, vs, e, q⟩
  unfold biD at e
  rw [if_neg (by decide +kernel), if_neg (by decide +kernel), if_neg (by decide +kernel), if_neg (by decide +kernel), if_neg (by decide +kernel), if_pos rfl] at e
  split at e
  · cases e
    cases vs with | cons v1 v2 => cases v2 with | cons v2 v3 => cases v3 with | nil =>
      rw [v1.intE, v2.intE] at r
      exact call_min2 hc pn s1 st Hh _ us Q I r ⟨_, _, rfl, q _ _ (.same (.int _))⟩
  · rename_i zs
    cases e1 : allInt zs with
    | none => rw [e1] at e; cases e
    | some bs =>
      rw [e1] at e
      simp only [Option.bind_some] at e
      cases e3 : bs.min? with
      | none => rw [e3] at e; cases e
      | some m0 =>
        rw [e3] at e
        cases e
        cases vs with | cons v1 v2 => cases v2 with | nil =>
          obtain ⟨p, ws, rfl, h1, r1⟩ := v1.lstE sG
          have e2 := r1.ints e1
          subst e2
          obtain ⟨k1, k2⟩ := List.min?_eq_some_iff.mp e3
          refine cr_min hc pn s1 st Hh _ us Q I r ⟨_, _, rfl, h1, List.length_pos_of_mem k1, fun m h2 h3 => ?_⟩
          have e4 : m = m0 := Int.le_antisymm (h3 m0 k1) (k2 m h2)
          rw [e4]
          exact q _ _ (.same (.int _))
  · cases e
theorem bi_all (hc : X.calm = true) : CallR X (.builtin "all") (rBi X.K "all") := by
  intro pn s1 st Hh xs us Q I r ⟨oa, G, ds, d, sG, vs, e, q⟩
  unfold biD at e
  rw [if_neg (by decide +kernel), if_neg (by decide +kernel), if_neg (by decide +kernel), if_neg (by decide +kernel), if_neg (by decide +kernel), if_neg (by decide +kernel), if_pos rfl] at e
  split at e
  · rename_i zs
    cases e1 : allBl zs with
    | none => rw [e1] at e; cases e
    | some bs =>
      rw [e1] at e
      cases e
      cases vs with | cons v1 v2 => cases v2 with | nil =>
        obtain ⟨p, ws, rfl, h1, r1⟩ := v1.lstE sG
        have e2 := r1.bls e1
        subst e2
        exact cr_all hc pn s1 st Hh _ us Q I r ⟨p, bs, rfl, h1, q _ _ (.same (.bl _))⟩
  · cases e
theorem bi_sum (hc : X.calm = true) : CallR X (.builtin "sum") (rBi X.K "sum") := by
  intro pn s1 st Hh xs us Q I r ⟨oa, G, ds, d, sG, vs, e, q⟩
  unfold biD at e
  rw [if_neg (by decide +kernel), if_neg (by decide +kernel), if_neg (by decide +kernel), if_neg (by decide +kernel), if_neg (by decide +kernel), if_neg (by decide +kernel), if_neg (by decide +kernel), if_pos rfl] at e
  split at e
  · rename_i zs
    cases e1 : allInt zs with
    | none => rw [e1] at e; cases e
    | some bs =>
      rw [e1] at e
      cases e
      cases vs with | cons v1 v2 => cases v2 with | nil =>
        obtain ⟨p, ws, rfl, h1, r1⟩ := v1.lstE sG
        have e2 := r1.ints e1
        subst e2
        exact cr_sum hc pn s1 st Hh _ us Q I r ⟨p, bs, rfl, h1, q _ _ (.same (.int _))⟩
  · rename_i zs
    cases e1 : allInt zs with
    | none => rw [e1] at e; cases e
    | some bs =>
      rw [e1] at e
      cases e
      cases vs with | cons v1 v2 => cases v2 with | nil =>
        obtain ⟨p, ws, rfl, h1, r1⟩ := v1.tupE sG
        have e2 := r1.ints e1
        subst e2
        obtain ⟨its, rv, pl, hz⟩ := I.tuple h1
        rw [Vals.ref1 r]
        have hi := rv.ints
        obtain ⟨ys, e5⟩ := hi.allInts.items
        have hn : numsOf (intItems ys).toList = bs := by rw [← e5]; exact hi.numsOf
        rw [nums_intItems] at hn
        have pl2 : s1.heap.IsTuple p its.toArray := pl
        rw [e5] at pl2
        refine PySem.W.ktm_sumG (I.ok.hd hc) pl2 fun h' tk t' hk => ?_
        refine ⟨.int bs.sum, Hh, I.kept hk, ⟨t', ?_⟩, q _ _ (.same (.int _))⟩
        rw [preSum_eq, List.take_of_length_le (by simp), hn]
  · cases e

/-- divmod by any divisor but nought, where C divides by itself -/
theorem call_divN : CallR X (.builtin "divmod") (fun xs H Q => ∃ i j, xs = [.int i, .int j] ∧ j ≠ 0 ∧ Builtin.divisionGoesByPylong i j = false ∧ ∀ p, H p = none → Q (.ref p) (upd H p (.tup [.int (i.fdiv j), .int (i.fmod j)]))) := by
  rintro pn s1 st Hh xs us Q I r ⟨i, j, rfl, hj, hp, q⟩
  obtain ⟨_, _, rfl, ⟨_, rfl⟩, ⟨_, rfl⟩⟩ := vals2 r
  have new : Hh s1.heap.objs.size = none := I.hok.fresh (Nat.le_refl _)
  refine PyProof.Rows.divmod_int hj ?_ (.inl hp)
  have two : [V.int (i.fdiv j), V.int (i.fmod j)].length ≤ sizeLine := by show 2 ≤ sizeLine; rw [sizeLine_eq]; decide
  have cell := Heap.get?_push_size s1.heap (o := { cls := .type "tuple", data := .seq #[.int (i.fdiv j) s1.toks, .int (i.fmod j) (s1.toks + 1)] }) rfl
  exact ⟨.ref s1.heap.objs.size, _, I.laid (o := .tup [.int (i.fdiv j), .int (i.fmod j)]) (fun b o e => Heap.get?_push_of_some _ e) (Nat.le_refl _) ⟨two, [_, _], .cons ⟨_, rfl⟩ (.cons ⟨_, rfl⟩ .nil), _, cell, rfl, 0, rfl⟩, rfl, q _ new⟩
theorem bi_divmod : CallR X (.builtin "divmod") (rBi X.K "divmod") := by
  intro pn s1 st Hh xs us Q I r ⟨oa, G, ds, d, sG, vs, e, q⟩
  unfold biD at e
  rw [if_neg (by decide +kernel), if_neg (by decide +kernel), if_neg (by decide +kernel), if_neg (by decide +kernel), if_neg (by decide +kernel), if_neg (by decide +kernel), if_neg (by decide +kernel), if_neg (by decide +kernel), if_pos rfl] at e
  split at e
  · split at e
    · rename_i i j hz
      rw [Bool.and_eq_true, decide_eq_true_eq, Bool.not_eq_true'] at hz
      cases e
      cases vs with | cons v1 v2 => cases v2 with | cons v2 v3 => cases v3 with | nil =>
        rw [v1.intE, v2.intE] at r
        exact call_divN pn s1 st Hh _ us Q I r ⟨i, j, rfl, hz.1, hz.2, fun p hp => q _ _ (.tup sG hp (.cons (.int _) (.cons (.int _) .nil)))⟩
    · cases e
  · cases e
theorem bi_abs : CallR X (.builtin "abs") (rBi X.K "abs") := by
  intro pn s1 st Hh xs us Q I r ⟨oa, G, ds, d, sG, vs, e, q⟩
  unfold biD at e
  rw [if_neg (by decide +kernel), if_neg (by decide +kernel), if_neg (by decide +kernel), if_neg (by decide +kernel), if_neg (by decide +kernel), if_neg (by decide +kernel), if_neg (by decide +kernel), if_neg (by decide +kernel), if_neg (by decide +kernel), if_pos rfl] at e
  split at e
  · cases e
    cases vs with | cons v1 v2 => cases v2 with | nil =>
      rw [v1.intE] at r
      exact call_abs pn s1 st Hh _ us Q I r ⟨_, rfl, q _ _ (.same (.int _))⟩
  · cases e
theorem bi_str : CallR X (.type "str") (rBi X.K "str") := by
  intro pn s1 st Hh xs us Q I r ⟨oa, G, ds, d, sG, vs, e, q⟩
  unfold biD at e
  rw [if_neg (by decide +kernel), if_neg (by decide +kernel), if_neg (by decide +kernel), if_neg (by decide +kernel), if_neg (by decide +kernel), if_neg (by decide +kernel), if_neg (by decide +kernel), if_neg (by decide +kernel), if_neg (by decide +kernel), if_neg (by decide +kernel), if_pos rfl] at e
  split at e
  · split at e
    · rename_i hz
      cases e
      cases vs with | cons v1 v2 => cases v2 with | nil =>
        rw [v1.intE] at r
        exact call_str_int pn s1 st Hh _ us Q I r ⟨_, rfl, hz, q _ _ (.same (.str _))⟩
    · cases e
  · cases e
theorem bi_bool : CallR X (.type "bool") (rBi X.K "bool") := by
  intro pn s1 st Hh xs us Q I r ⟨oa, G, ds, d, sG, vs, e, q⟩
  unfold biD at e
  rw [if_neg (by decide +kernel), if_neg (by decide +kernel), if_neg (by decide +kernel), if_neg (by decide +kernel), if_neg (by decide +kernel), if_neg (by decide +kernel), if_neg (by decide +kernel), if_neg (by decide +kernel), if_neg (by decide +kernel), if_neg (by decide +kernel), if_neg (by decide +kernel), if_pos rfl] at e
  split at e
  · cases e
    cases vs with | cons v1 v2 => cases v2 with | nil =>
      rw [v1.intE] at r
      exact call_bool1 pn s1 st Hh _ us Q I r (.inl ⟨_, rfl, q _ _ (.same (.bl _))⟩)
  · cases e
    cases vs with | cons v1 v2 => cases v2 with | nil =>
      rw [v1.blE] at r
      exact call_bool1 pn s1 st Hh _ us Q I r (.inr ⟨_, rfl, q _ _ (.same (.bl _))⟩)
  · cases e

/-- the type of a looked-at value -/
def tyD : D → String
  | .non => "NoneType" | .bl _ => "bool" | .int _ => "int" | .str _ => "str" | .tup _ => "tuple" | .lst _ => "list" | .dic _ => "dict" | .obj _ => "" | .xn _ _ => ""
def D.known : D → Bool
  | .obj _ => false | .xn _ _ => false | _ => true
theorem tyx_of {K : PySem.W.Frag} {oa : Os} {G H : Hp} {d : D} {v : V} (t : Sub G H) (h : View K oa G H d v) (hk : d.known = true) : TyX K H v (.type (tyD d)) := by
  have rdL : ∀ {p : Addr} {vs : List V}, SqL K H p vs → TyX K H (.ref p) (.type "list") := fun h => by
    rcases h with (h | ⟨o, h⟩) | ⟨o, its, m, h, c, _⟩
    · exact .base (.lst h)
    · exact .base (.frz h)
    · exact .kList h c
  cases h with
  | rep r =>
    cases r with
    | non => exact .base .non
    | bl b => exact .base (.bl b)
    | int i => exact .base (.int i)
    | str x => exact .base (.str x)
    | lst q r => exact rdL (t.sqL q)
    | tup q r =>
      rcases t.sqT q with (q | ⟨o, q⟩) | ⟨o, its, n, q, c, _⟩
      · exact .base (.tup q)
      · exact .fTuple q
      · exact .kTuple q c
    | dic q r => exact .base (.dK (t _ _ q))
    | obj q => cases hk
    | xn0 _ _ => cases hk
    | xn1 _ _ _ _ => cases hk
  | lst q r => exact rdL q
  | dic q r => exact .base (.dK q)
theorem kit_D (K : PySem.W.Frag) (ty : Str) (d : D) (b : Bool) (h : isiD ty d = some b) : ∃ n : String, ty = (n : Str) ∧ bootBuiltins ty = some (.type n) ∧ PySem.W.kitOne K (.type (tyD d)) (.type n) = some b := by
  unfold isiD at h
  split at h
  · rename_i e; subst e
    refine ⟨"int", rfl, by decide +kernel, ?_⟩
    cases d <;> simp only [tyD] <;> (first | (cases h; exact kit_ty (by decide +kernel)) | cases h)
  · split at h
    · rename_i e; subst e
      refine ⟨"bool", rfl, by decide +kernel, ?_⟩
      cases d <;> simp only [tyD] <;> (first | (cases h; exact kit_ty (by decide +kernel)) | cases h)
    · split at h
      · rename_i e; subst e
        refine ⟨"str", rfl, by decide +kernel, ?_⟩
        cases d <;> simp only [tyD] <;> (first | (cases h; exact kit_ty (by decide +kernel)) | cases h)
      · split at h
        · rename_i e; subst e
          refine ⟨"tuple", rfl, by decide +kernel, ?_⟩
          cases d <;> simp only [tyD] <;> (first | (cases h; exact kit_ty (by decide +kernel)) | cases h)
        · split at h
          · rename_i e; subst e
            refine ⟨"list", rfl, by decide +kernel, ?_⟩
            cases d <;> simp only [tyD] <;> (first | (cases h; exact kit_ty (by decide +kernel)) | cases h)
          · cases h
/-- truth of a looked-at value -/
theorem tru_of {K : PySem.W.Frag} {oa : Os} {G H : Hp} {d : D} {v : V} {b : Bool} (t : Sub G H) (h : View K oa G H d v) (e : tru d = some b) : TruV K v H b := by
  cases d with
  | non => rw [h.nonE]; cases e; rfl
  | bl b => rw [h.blE]; cases e; rfl
  | int i => rw [h.intE]; cases e; simp [TruV]; rw [Bool.eq_iff_iff]; simp
  | str s =>
    rw [h.strE]
    simp only [tru] at e
    split at e
    · rename_i hz
      cases e
      refine ⟨by rw [← line_eq]; exact hz, ?_⟩
      rw [Bool.eq_iff_iff]; simp
    · cases e
  | tup xs =>
    obtain ⟨p, ws, rfl, h1, r1⟩ := h.tupE t
    cases e
    refine .inr (.inl ⟨ws, h1, ?_⟩)
    cases r1 <;> rfl
  | lst xs =>
    obtain ⟨p, ws, rfl, h1, r1⟩ := h.lstE t
    cases e
    refine .inl ⟨ws, h1, ?_⟩
    cases r1 <;> rfl
  | dic xs =>
    cases e
    cases h with
    | rep r => cases r with | dic q r => exact .inr (.inr ⟨_, t _ _ q, by cases r <;> rfl⟩)
    | dic q r => exact .inr (.inr ⟨_, q, by cases r <;> rfl⟩)
  | obj n => cases e
  | xn c fs => cases e
end
end RR

namespace RR
open PySem L2 PySem.Spec PyProof.Rows
section
variable {prog : Program} {w : World} {A : Around} {E : Value → Shared → Prop} {s : Shared}
theorem extend_rev {R : Result → Shared → Prop} {it l : Addr} {items : Array Value} (hh : A.handled = none) (hit : s.heap.IsRevIter it l ((items.size : Int) - 1)) (hl : s.heap.IsList l items) (hne : l ≠ it) (hn : items.size ≤ sizeLine) (S : Addr) (hSl : S ≠ l) (res : Value) (c₀ : Nat) (hS : s.heap.get? S = some { cls := .type "list", data := .seq #[] c₀ })
    (hR : ∀ h' tk acc' c', (∀ b o, b ≠ S → b ≠ it → s.heap.get? b = some o → h'.get? b = some o) → h'.get? S = some { cls := .type "list", dict := none, data := .seq acc' c', slots := #[] } →
      ItemsOf (fun i v => items[items.size - 1 - i]? = some v) acc' items.size → R (.ok (.ret res)) { s with heap := h', toks := tk }) :
    wpAny (model prog w) A.in1 (Builtin.List.listExtendWith (.ref S) (.ref it) res)
      (fun fin s' => match fin with | .done f => R (.ok f) s' | .again c' => c'.quiet = true ∧ codeAny (model prog w) A c' R s') (fun e s' => R (.error e) s') s := by
  have W := (Walks.listRev (prog := prog) (w := w) (A := A.in1) hh it l hne items).toS
  have hSi : S ≠ it := fun e => by
    obtain ⟨o, ho, hc, _⟩ := id hit
    rw [← e, hS] at ho; cases ho; exact absurd (show Value.type "list" = Value.type "list_reverseiterator" from hc) (by decide)
  have hSf : S ∉ [it, l] := by simp only [List.mem_cons, List.not_mem_nil, or_false, not_or]; exact ⟨hSi, hSl⟩
  have hT : s.TypeIs (.ref it) "list_reverseiterator" := hit.typeIs
  have h1 : Builtin.List.listSameRef (.ref S) (.ref it) = false := by simp [Builtin.List.listSameRef, hSi]
  unfold Builtin.List.listExtendWith
  refine wpAny_bind (wpAny_typeOf hT ?_)
  rw [if_neg (by rw [h1]; decide)]
  refine wpAny_bind (wpAny_pyIter_revIter hit ?_)
  refine wpAny_bind (wpAny_holding ?_)
  unfold Builtin.List.listLengthHint
  refine wpAny_bind (wpAny_specialOf hT RT.nolen_lri ?_)
  show wpAny _ A.in1 (specialOf (Value.ref it) (Str.ofString "__length_hint__") >>= _) _ _ _
  refine wpAny_bind (wpAny_specialOf hT RT.hint_lri ?_)
  generalize hid : ("list_reverseiterator.__length_hint__" : String) = id0
  wp_delta
  rw [show splitId id0 = some ("list_reverseiterator", "__length_hint__") from by subst hid; decide +kernel]
  subst hid
  refine wpAny_bind (wpAny_isInstance (b := true) hT (by rw [isSubtype_type]; kernel_rfl) ?_)
  refine wpAny_pure ?_
  rw [if_neg (by decide)]
  have e0 : ((items.size : Nat) : Int) - 1 - ((0 : Nat) : Int) = (items.size : Int) - 1 := by omega
  refine wpAny_pure ⟨plainId_quiet F.plain_extend_loop _, codeAny_extend_loopS W hn _ hSf _ items.size 0 _ _ _ rfl (Nat.zero_le _) ⟨Nat.zero_le _, by rw [e0]; exact hit, hl⟩ hS (ItemsOf.nil _) fun s' acc' c' hm hS' hacc => ?_⟩
  rw [Moved.eq_with hm]
  refine hR s'.heap s'.toks acc' c' (fun b o hb hb2 e => hm.heap b o (fun hmem => ?_) e) hS' hacc
  rcases List.mem_cons.mp hmem with e' | hmem
  · exact hb e'
  · exact hb2 (List.mem_singleton.mp hmem)
theorem list_init_rev {R : Result → Shared → Prop} {it l : Addr} {items : Array Value} (hh : A.handled = none) (hit : s.heap.IsRevIter it l ((items.size : Int) - 1)) (hl : s.heap.IsList l items) (hne : l ≠ it) (hn : items.size ≤ sizeLine) (S : Addr) (hSl : S ≠ l) (hS : s.heap.get? S = some { cls := .type "list", data := .seq #[] })
    (hR : ∀ h' tk acc' c', (∀ b o, b ≠ S → b ≠ it → s.heap.get? b = some o → h'.get? b = some o) → h'.get? S = some { cls := .type "list", dict := none, data := .seq acc' c', slots := #[] } →
      ItemsOf (fun i v => items[items.size - 1 - i]? = some v) acc' items.size → R (.ok (.ret .none)) { s with heap := h', toks := tk }) :
    wpAny (model prog w) A.in1 (Builtin.«list.__init__» ⟨[.ref S, .ref it], []⟩)
      (fun fin s' => match fin with | .done f => R (.ok f) s' | .again c' => c'.quiet = true ∧ codeAny (model prog w) A c' R s') (fun e s' => R (.error e) s') s := by
  have hSi : S ≠ it := fun e => by
    obtain ⟨o, ho, hc, _⟩ := id hit
    rw [← e, hS] at ho; cases ho; exact absurd (show Value.type "list" = Value.type "list_reverseiterator" from hc) (by decide)
  show wpAny _ _ (do let old ← Builtin.List.listItems (.ref S); Builtin.List.listUpdate (.ref S) (fun _ => #[]); letGo old.toList.reverse; Builtin.List.listExtendWith (.ref S) (.ref it) .none) _ _ s
  refine wpAny_bind ?_
  unfold Builtin.List.listItems
  refine wpAny_bind (wpAny_seqItems hS rfl (wpAny_pure ?_))
  show wpAny _ _ (updateSeq S (fun _ => #[]) >>= fun _ => letGo (#[] : Array Value).toList.reverse >>= fun _ => Builtin.List.listExtendWith (.ref S) (.ref it) .none) _ _ s
  refine wpAny_bind (wpAny_updateSeq hS rfl ?_)
  have hS₂ := Heap.get?_update_self (Obj.mapSeq (fun _ => (#[] : Array Value))) hS rfl
  have oth : ∀ b o, b ≠ S → s.heap.get? b = some o → (s.heap.update S (Obj.mapSeq (fun _ => (#[] : Array Value)))).get? b = some o :=
    fun b o hb e => (Heap.get?_update_other _ _ (Ne.symm hb)).trans e
  refine wpAny_bind (wpAny_letGo ?_)
  refine extend_rev hh (hit.at fun o e => oth it o (Ne.symm hSi) e) (hl.at fun o e => oth l o (Ne.symm hSl) e) hne hn S hSl .none _ hS₂ fun h' tk acc' c' hk hS' hacc => ?_
  exact hR h' tk acc' c' (fun b o hb hb2 e => hk b o hb hb2 (oth b o hb e)) hS' hacc
theorem call_list_rev {Q : Value → Shared → Prop} {it l : Addr} {items : Array Value} (hh : A.handled = none) (hit : s.heap.IsRevIter it l ((items.size : Int) - 1)) (hl : s.heap.IsList l items) (hne : l ≠ it) (hn : items.size ≤ sizeLine)
    (hQ : ∀ h' tk acc' c', (∀ b o, b ≠ it → s.heap.get? b = some o → h'.get? b = some o) →
      h'.get? s.heap.objs.size = some { cls := .type "list", dict := none, data := .seq acc' c', slots := #[] } → ItemsOf (fun i v => items[items.size - 1 - i]? = some v) acc' items.size → Q (.ref s.heap.objs.size) { s with heap := h', toks := tk }) :
    wpAny (model prog w) A (call (.type "list") [.ref it]) Q E s := by
  refine callType_codes (Q₁ := fun obj s₁ => obj = .ref s.heap.objs.size ∧ s₁ = { s with heap := s.heap.push { cls := .type "list", data := .seq #[] } }) F.called_list (F.typeCall_list_1 _) F.entry_list_init
    (code_list_new _ ⟨rfl, rfl⟩) fun obj s₁ h₁ => ?_
  obtain ⟨rfl, rfl⟩ := h₁
  have hS : (s.heap.push { cls := .type "list", data := .seq #[] }).get? s.heap.objs.size = some { cls := .type "list", data := .seq #[] } := Heap.get?_push_size _ rfl
  obtain ⟨ol, hol, _⟩ := id hl
  have hSl : s.heap.objs.size ≠ l := Nat.ne_of_gt (Heap.lt_size hol)
  refine ⟨⟨_, hS, rfl⟩, F.args_list_init_2 _ _, list_init_rev (A := A.in1) hh (hit.at fun o e => Heap.get?_push_of_some _ e) (hl.push _) hne hn _ hSl hS fun h' tk acc' c' hk hS' hacc => ?_⟩
  exact ⟨rfl, hQ h' tk acc' c' (fun b o hb e => hk b o (Nat.ne_of_lt (Heap.lt_size e)) hb (Heap.get?_push_of_some _ e)) hS' hacc⟩
end
/-- list(reversed(x)), x a list: a new list -/
def tLstRev (K : PySem.W.Frag) (te : TE) : TE := fun σ H Q => te σ H fun v H1 => ∃ (a : Addr) (xs : List V), v = .ref a ∧ SqL K H1 a xs ∧ ∀ q, H1 q = none → Q (.ref q) (upd H1 q (.lst xs.reverse))
section
variable {X : Cx}
theorem pe_lstRev {e : Expr} {te : TE} {p p2 pos pos2 : Pos} (hc : X.calm = true) (hg : Gl X "list") (hm : X.mg "list" = none) (hg2 : Gl X "reversed") (hm2 : X.mg "reversed" = none) (he : PE X e te)
    (hs : starEach [e] X.env = (false, eval e X.env) :: starEach [] X.env := by rfl)
    (hs2 : starEach [.Call (.Name "reversed" p2) [e] [] pos2] X.env = (false, eval (.Call (.Name "reversed" p2) [e] [] pos2) X.env) :: starEach [] X.env := by rfl) :
    PE X (.Call (.Name "list" p) [.Call (.Name "reversed" p2) [e] [] pos2] [] pos) (tLstRev X.K te) := by
  refine ⟨fun pins s σ H Q I h => ?_⟩
  refine Call_ (ld_blt I hg hm boot_list (PyProof.Rows.callWith_type1 (args_cons (Call_ (ld_blt I hg2 hm2 PyProof.Rows.boot_reversed (PyProof.Rows.callWith_type1 (args_cons (L2.thn (he.run pins s σ H _ I h) fun u s1 ⟨v, H1, I1, r1, q1⟩ => args_nil ?_) hs) hs rfl))) hs2) hs2 rfl))
  obtain ⟨a, xs, ev, hq, q⟩ := q1
  subst ev
  obtain rfl : u = Value.ref a := r1
  obtain ⟨its, rv, p', hz⟩ := I1.list hq
  refine call_reversed_list p'.isList (args_nil ?_)
  have k0 : ∀ b o, s1.heap.get? b = some o → (s1.heap.push (revObj a ((its.toArray.size : Int) - 1))).get? b = some o := fun b o e => Heap.get?_push_of_some _ e
  have I2 : Inv X pins σ H1 { s1 with heap := s1.heap.push (revObj a ((its.toArray.size : Int) - 1)) } := I1.kept (t' := s1.toks) k0
  obtain ⟨f0, f1, f2, f3, f4, f5⟩ := I1.fpOk (H' := H1) (b := s1.heap.objs.size) (Nat.le_refl _) (I1.hok.fresh (Nat.le_refl _))
  have hl := p'.isList
  obtain ⟨ol, hol, _⟩ := id hl
  have hne : a ≠ s1.heap.objs.size := Nat.ne_of_lt (Heap.lt_size hol)
  have hn : its.toArray.size ≤ sizeLine := by rw [List.size_toArray, ← rv.length]; exact hz
  refine call_list_rev (s := { s1 with heap := s1.heap.push (revObj a ((its.toArray.size : Int) - 1)) }) (I1.ok.hd hc) ⟨_, Heap.get?_push_size _ rfl, rfl, rfl⟩ (hl.push _) hne hn fun h' tk acc c' hk e' hi => ?_
  have nw : ObjOk X.prog X.w (upd H1 (s1.heap.push (revObj a ((its.toArray.size : Int) - 1))).objs.size (.lst xs.reverse)) h' (s1.heap.push (revObj a ((its.toArray.size : Int) - 1))).objs.size (.lst xs.reverse) := by
    refine ⟨by rw [List.length_reverse]; exact hz, acc.toList, c', RT.vals_rev rv hi, ?_⟩
    rw [Array.toArray_toList]; exact e'
  refine ⟨.ref _, upd H1 _ (.lst xs.reverse), I2.turnedNew (t' := tk) (ch := [s1.heap.objs.size]) (fun b o hb e => hk b o (fun z => hb (by simp [z])) e) (fun b hb => by
    have : b = s1.heap.objs.size := by simpa using hb
    subst this
    exact ⟨f0, f1, f2, f3, f4, f5⟩) (Nat.le_refl _) nw, rfl, q _ (I2.hok.fresh (Nat.le_refl _))⟩
end
end RR

namespace RR
open PySem L2

theorem wipeR_length (l : RS) : ∀ is : List Nat, (wipeR l is).length = l.length
  | [] => rfl
  | i :: is => by unfold wipeR; rw [List.length_set, wipeR_length l is]
theorem wipeR_in (l : RS) : ∀ {is : List Nat} {j : Nat}, j ∈ is → ∀ s, (wipeR l is)[j]? = some s → s = .un
  | i :: is, j, h, s, q => by
    unfold wipeR at q
    by_cases hj : i = j
    · subst hj
      have li := (List.getElem?_eq_some_iff.mp q).1
      rw [List.getElem?_set_self (by simpa using li)] at q
      cases q; rfl
    · rw [List.getElem?_set_ne hj] at q
      rcases List.mem_cons.mp h with z | z
      · exact absurd z.symm hj
      · exact wipeR_in l z s q
theorem wipeR_out (l : RS) : ∀ {is : List Nat} {j : Nat}, ¬ j ∈ is → (wipeR l is)[j]? = l[j]?
  | [], _, _ => rfl
  | i :: is, j, h => by
    unfold wipeR
    rw [List.mem_cons, not_or] at h
    rw [List.getElem?_set_ne (fun z => h.1 z.symm), wipeR_out l h.2]
theorem wipe_in (l : St) : ∀ {is : List Nat} {j : Nat}, j ∈ is → ∀ s, (wipe l is)[j]? = some s → s = none
  | i :: is, j, h, s, q => by
    unfold wipe at q
    by_cases hj : i = j
    · subst hj
      have li := (List.getElem?_eq_some_iff.mp q).1
      rw [List.getElem?_set_self (by simpa using li)] at q
      cases q; rfl
    · rw [List.getElem?_set_ne hj] at q
      rcases List.mem_cons.mp h with z | z
      · exact absurd z.symm hj
      · exact wipe_in l z s q
theorem wipe_notin (l : St) : ∀ {is : List Nat} {j : Nat}, ¬ j ∈ is → (wipe l is)[j]? = l[j]?
  | [], _, _ => rfl
  | i :: is, j, h => by
    unfold wipe
    rw [List.mem_cons, not_or] at h
    rw [List.getElem?_set_ne (fun z => h.1 z.symm), wipe_notin l h.2]
theorem wipe_ext {l l' : St} {is : List Nat} (hl : l.length = l'.length) (h : ∀ j, ¬ j ∈ is → l[j]? = l'[j]?) : wipe l is = wipe l' is := by
  apply List.ext_getElem?
  intro j
  by_cases hj : j ∈ is
  · cases q : (wipe l is)[j]? with
    | none =>
      have := List.getElem?_eq_none_iff.mp q
      rw [wipe_length] at this
      exact (List.getElem?_eq_none_iff.mpr (by rw [wipe_length]; omega)).symm
    | some s =>
      have e1 := wipe_in l hj s q
      have li := (List.getElem?_eq_some_iff.mp q).1
      rw [wipe_length] at li
      cases q' : (wipe l' is)[j]? with
      | none =>
        have := List.getElem?_eq_none_iff.mp q'
        rw [wipe_length] at this
        omega
      | some s' => rw [e1, wipe_in l' hj s' q']
  · rw [wipe_notin l hj, wipe_notin l' hj, h j hj]
section
variable {K : PySem.W.Frag} {e : En} {w : Wd} {hp : HP} {S : RS} {σ : St} {H : Hp}
/-- a slot that owns nothing is stored to -/
theorem Rel.setV (r : Rel K e w hp S σ H) (i : Nat) {d : D} {v : V} (h : Rep K w.oa w.g d v) (n : ∀ d, S[i]? ≠ some (Sl.own d)) : Rel K e w hp (S.set i (.val d)) (σ.set i (some v)) H where
  hs := r.hs
  gr := r.gr
  gω := r.gω
  oω := r.oω
  len := by simpa using r.len
  val := fun j d' q => by
    by_cases hj : i = j
    · subst hj
      have li : i < S.length := by simpa using (List.getElem?_eq_some_iff.mp q).1
      rw [List.getElem?_set_self li] at q
      cases q
      exact ⟨v, by rw [List.getElem?_set_self (by rw [← r.len]; exact li)], h⟩
    · rw [List.getElem?_set_ne hj] at q
      obtain ⟨v', h1, h2⟩ := r.val j d' q
      exact ⟨v', by rw [List.getElem?_set_ne hj]; exact h1, h2⟩
  own := fun j d' q => by
    by_cases hj : i = j
    · subst hj
      have li : i < S.length := by simpa using (List.getElem?_eq_some_iff.mp q).1
      rw [List.getElem?_set_self li] at q
      cases q
    · rw [List.getElem?_set_ne hj] at q
      obtain ⟨p, o, h1, h2⟩ := r.own j d' q
      exact ⟨p, o, by rw [List.getElem?_set_ne hj]; exact h1, h2⟩
  owned := fun b j q => by
    obtain ⟨d', h1, h2⟩ := r.owned b j q
    have hj : i ≠ j := fun z => n d' (by rw [z]; exact h1)
    exact ⟨d', by rw [List.getElem?_set_ne hj]; exact h1, by rw [List.getElem?_set_ne hj]; exact h2⟩
  eω := r.eω
/-- what slots own is let go -/
theorem Rel.drop (r : Rel K e w hp S σ H) (is : List Nat) : Rel K e ⟨w.toGw, fun b => match w.ω b with | some i => if i ∈ is then none else some i | none => none⟩ hp (wipeR S is) σ H := by
  have hin : ∀ (b : Addr) (j : Nat), (match w.ω b with | some i => if i ∈ is then none else some i | none => none) = some j → w.ω b = some j ∧ ¬ j ∈ is := fun b j q => by
    cases z : w.ω b with
    | none => rw [z] at q; cases q
    | some i =>
      rw [z] at q
      simp only at q
      split at q
      · cases q
      · rename_i hn; cases q; exact ⟨rfl, hn⟩
  refine ⟨r.hs, r.gr, fun b o q => ?_, fun a ha => ?_, ?_, fun j d q => ?_, fun j d q => ?_, fun b j q => ?_, fun b j q => r.eω b j (hin b j q).1⟩
  · show (match w.ω b with | some i => if i ∈ is then none else some i | none => none) = none
    rw [r.gω b o q]
  · show (match w.ω a with | some i => if i ∈ is then none else some i | none => none) = none
    rw [r.oω a ha]
  · rw [wipeR_length]; exact r.len
  · by_cases hj : j ∈ is
    · cases wipeR_in _ hj _ q
    · rw [wipeR_out _ hj] at q; exact r.val j d q
  · by_cases hj : j ∈ is
    · cases wipeR_in _ hj _ q
    · rw [wipeR_out _ hj] at q
      obtain ⟨p, o, h1, h2, h3, h4⟩ := r.own j d q
      refine ⟨p, o, h1, h2, h3, ?_⟩
      show (match w.ω p with | some i => if i ∈ is then none else some i | none => none) = some j
      rw [h4]
      simp only [hj, if_false]
  · obtain ⟨q1, q2⟩ := hin b j q
    obtain ⟨d, h1, h2⟩ := r.owned b j q1
    exact ⟨d, by rw [wipeR_out _ q2]; exact h1, h2⟩
theorem wipe_set (S : RS) (i : Nat) (x : Sl) : (wipeR S [i]).set i x = S.set i x := by
  simp [wipeR]
theorem wipe_un (S : RS) (i : Nat) (d : D) : (wipeR S [i])[i]? ≠ some (Sl.own d) := fun z => by
  cases wipeR_in S (is := [i]) (j := i) (by simp) _ z
/-- a slot is stored to; what it owned is let go -/
theorem Rel.setVal (r : Rel K e w hp S σ H) (i : Nat) {d : D} {v : V} (h : Rep K w.oa w.g d v) : ∃ ω', Rel K e ⟨w.toGw, ω'⟩ hp (S.set i (.val d)) (σ.set i (some v)) H := by
  have := (r.drop [i]).setV i (d := d) (v := v) h (wipe_un S i)
  rw [wipe_set] at this
  exact ⟨_, this⟩
theorem Rel.setOwn (r : Rel K e w hp S σ H) (i : Nat) {d : D} {v : V} (h : Fresh K e.H w H d v) : ∃ ω', Rel K e ⟨w.toGw, ω'⟩ hp (S.set i (.own d)) (σ.set i (some v)) H := by
  obtain ⟨p, o, rfl, h1, h2, h3, h4, h5, h6⟩ := h
  have r' := r.drop [i]
  by_cases li : i < S.length
  · have li2 : i < σ.length := by rw [← r.len]; exact li
    generalize hω : (fun b => match w.ω b with | some j => if j ∈ [i] then none else some j | none => none : Addr → Option Nat) = ω0 at r'
    have hp4 : ω0 p = none := by rw [← hω]; simp only [h4]
    refine ⟨fun b => if b = p then some i else ω0 b, r'.hs, r'.gr, fun b u q => ?_, fun a ha => ?_, by simpa using r.len, fun j d' q => ?_, fun j d' q => ?_, fun b j q => ?_, fun b j q => ?_⟩
    · have hb : b ≠ p := fun z => by
        subst z
        rw [show w.g b = some u from q] at h3; cases h3
      show (if b = p then some i else ω0 b) = none
      rw [if_neg hb]; exact r'.gω b u q
    · have hb : a ≠ p := fun z => h5 (by rw [← z]; exact ha)
      show (if a = p then some i else ω0 a) = none
      rw [if_neg hb]; exact r'.oω a ha
    · by_cases hj : i = j
      · subst hj
        rw [List.getElem?_set_self li] at q
        cases q
      · rw [List.getElem?_set_ne hj] at q
        obtain ⟨v', e1, e2⟩ := r.val j d' q
        exact ⟨v', by rw [List.getElem?_set_ne hj]; exact e1, e2⟩
    · by_cases hj : i = j
      · subst hj
        rw [List.getElem?_set_self li] at q
        cases q
        exact ⟨p, o, by rw [List.getElem?_set_self li2], h1, h2, by simp⟩
      · rw [List.getElem?_set_ne hj] at q
        have q' : (wipeR S [i])[j]? = some (Sl.own d') := by rw [wipeR_out _ (by simpa using fun z => hj z.symm)]; exact q
        obtain ⟨p', o', e1, e2, e3, e4⟩ := r'.own j d' q'
        have hp' : p' ≠ p := fun z => by rw [z] at e4; rw [show ω0 p = some j from e4] at hp4; cases hp4
        refine ⟨p', o', by rw [List.getElem?_set_ne hj]; exact e1, e2, e3, ?_⟩
        show (if p' = p then some i else ω0 p') = some j
        rw [if_neg hp']; exact e4
    · have q : (if b = p then some i else ω0 b) = some j := q
      by_cases hb : b = p
      · rw [if_pos hb] at q
        cases q
        subst hb
        exact ⟨d, by rw [List.getElem?_set_self li], by rw [List.getElem?_set_self li2]⟩
      · rw [if_neg hb] at q
        obtain ⟨d', e1, e2⟩ := r'.owned b j q
        have hj : i ≠ j := fun z => by subst z; exact wipe_un S i d' e1
        rw [wipeR_out _ (by simpa using fun z => hj z.symm)] at e1
        exact ⟨d', by rw [List.getElem?_set_ne hj]; exact e1, by rw [List.getElem?_set_ne hj]; exact e2⟩
    · have q : (if b = p then some i else ω0 b) = some j := q
      by_cases hb : b = p
      · subst hb; exact h6
      · rw [if_neg hb] at q; exact r'.eω b j q
  · refine ⟨w.ω, ?_⟩
    rw [List.set_eq_of_length_le (by omega), List.set_eq_of_length_le (by rw [← r.len]; omega)]
    exact r
/-- an own thing is settled -/
theorem Rel.freeze (r : Rel K e w hp S σ H) {i : Nat} {d : D} (h : S[i]? = some (Sl.own d)) : ∃ w', Sub w.g w'.g ∧ w'.oa = w.oa ∧ Rel K e w' hp (S.set i (.val d)) σ H := by
  obtain ⟨p, o, h1, h2, h3, h4⟩ := r.own i d h
  have li : i < S.length := (List.getElem?_eq_some_iff.mp h).1
  have r' := r.drop [i]
  have gp := r.ownG h4
  have r2 := r'.settle h2 (by show (match w.ω p with | some j => if j ∈ [i] then none else some j | none => none) = none; rw [h4]; simp) gp (r.ownO h4) (r.eω _ _ h4)
  have r3 := r2.setV i (d := d) (v := .ref p) (h3.rep gp) (wipe_un S i)
  rw [wipe_set] at r3
  have : σ.set i (some (.ref p)) = σ := by
    apply List.ext_getElem?
    intro j
    by_cases hj : i = j
    · subst hj
      rw [List.getElem?_set_self (by rw [← r.len]; exact li), h1]
    · rw [List.getElem?_set_ne hj]
  rw [this] at r3
  exact ⟨⟨⟨upd w.g p o, w.oa⟩, fun b => match w.ω b with | some j => if j ∈ [i] then none else some j | none => none⟩, Sub.upd gp, rfl, r3⟩
/-- an own thing is let go: it is fresh -/
theorem Rel.moved (r : Rel K e w hp S σ H) {i : Nat} {d : D} (h : S[i]? = some (Sl.own d)) : ∃ w' v, w'.toGw = w.toGw ∧ σ[i]? = some (some v) ∧ Rel K e w' hp (wipeR S [i]) σ H ∧ Fresh K e.H w' H d v := by
  obtain ⟨p, o, h1, h2, h3, h4⟩ := r.own i d h
  refine ⟨⟨w.toGw, fun b => match w.ω b with | some j => if j ∈ [i] then none else some j | none => none⟩, .ref p, rfl, h1, r.drop [i], p, o, rfl, h2, h3, r.ownG h4, ?_, r.ownO h4, r.eω _ _ h4⟩
  show (match w.ω p with | some j => if j ∈ [i] then none else some j | none => none) = none
  rw [h4]; simp
/-- the content of an own thing is changed -/
theorem Rel.setCont (r : Rel K e w hp S σ H) {i : Nat} {d d' : D} {p : Addr} {o' : HO} (h : S[i]? = some (Sl.own d)) (hp' : σ[i]? = some (some (.ref p))) (c : Cont K w.oa w.g d' o') :
    Rel K e w hp (S.set i (.own d')) σ (upd H p o') := by
  obtain ⟨p1, o, h1, h2, h3, h4⟩ := r.own i d h
  rw [hp'] at h1
  cases h1
  have li : i < S.length := (List.getElem?_eq_some_iff.mp h).1
  have gp := r.ownG h4
  have op := r.ownO h4
  have nown : ∀ a, H p ≠ some (.own a) := fun a z => by
    rw [h2] at z
    cases z
    cases d with
    | lst ds => obtain ⟨_, q, _⟩ := h3; cases q
    | dic ds => obtain ⟨_, q, _⟩ := h3; cases q
    | _ => exact (show False from h3).elim
  have ep := r.eω _ _ h4
  refine ⟨r.hs.upd gp op nown, ⟨r.gr.g, r.gr.o, fun b u hb hn => ?_, fun b hb => ?_, r.gr.gn, r.gr.on⟩, r.gω, r.oω, by simpa using r.len, fun j d1 q => ?_, fun j d1 q => ?_, fun b j q => ?_, r.eω⟩
  · have : b ≠ p := fun z => by rw [z] at hb; rw [ep] at hb; cases hb
    rw [upd_ne this]; exact r.gr.h b u hb hn
  · by_cases z : b = p
    · subst z; exact ep
    · rw [upd_ne z] at hb; exact r.gr.i b hb
  · by_cases hj : i = j
    · subst hj; rw [List.getElem?_set_self li] at q; cases q
    · rw [List.getElem?_set_ne hj] at q; exact r.val j d1 q
  · by_cases hj : i = j
    · subst hj
      rw [List.getElem?_set_self li] at q
      cases q
      exact ⟨p, o', hp', upd_same, c, h4⟩
    · rw [List.getElem?_set_ne hj] at q
      obtain ⟨p', u, e1, e2, e3, e4⟩ := r.own j d1 q
      have hp' : p' ≠ p := fun z => by rw [z, h4] at e4; exact hj (Option.some.inj e4)
      exact ⟨p', u, e1, by rw [upd_ne hp']; exact e2, e3, e4⟩
  · obtain ⟨d1, e1, e2⟩ := r.owned b j q
    by_cases hj : i = j
    · subst hj; exact ⟨d', by rw [List.getElem?_set_self li], e2⟩
    · exact ⟨d1, by rw [List.getElem?_set_ne hj]; exact e1, e2⟩
/-- an object that is nobody's is changed -/
theorem Rel.updFree (r : Rel K e w hp S σ H) {p : Addr} {o : HO} (g : w.g p = none) (f : w.ω p = none) (m : ¬ p ∈ w.oa.l) (q : ∀ a, H p ≠ some (.own a)) (n : e.H p = none) : Rel K e w hp S σ (upd H p o) where
  hs := r.hs.upd g m q
  gr := ⟨r.gr.g, r.gr.o, fun b u hb hn => by
    have : b ≠ p := fun z => by rw [z] at hb; rw [n] at hb; cases hb
    rw [upd_ne this]; exact r.gr.h b u hb hn, fun b hb => by
    by_cases z : b = p
    · subst z; exact n
    · rw [upd_ne z] at hb; exact r.gr.i b hb, r.gr.gn, r.gr.on⟩
  gω := r.gω
  oω := r.oω
  len := r.len
  val := r.val
  own := fun i d q => by
    obtain ⟨p', o', h1, h2, h3, h4⟩ := r.own i d q
    exact ⟨p', o', h1, by rw [upd_ne (fun z => by rw [z, f] at h4; cases h4)]; exact h2, h3, h4⟩
  owned := r.owned
  eω := r.eω
theorem resv_fin (r : Rel K e w hp S σ H) {d : D} {fr : Bool} {v : V} {H' : Hp} (h : ResV K w.oa w.g H d fr v H') : ∃ w', Ext w H w' H' ∧ Rel K e w' hp S σ H' ∧ Res1 K H w' H' d fr v := by
  rcases h with ⟨rfl, p, o, rfl, n, rfl, c⟩ | ⟨rfl, rfl, q⟩ | ⟨rfl, p, o, rfl, n, rfl, q⟩
  · exact ⟨w, .alloc n, r.alloc n, p, o, rfl, upd_same, c, r.gnone n, r.ωnone n, r.onone n, n⟩
  · exact ⟨w, .refl _ _, r, q⟩
  · exact ⟨_, .allocG r.hs.gH n, r.allocG n, q⟩
theorem freeAt_own {l : RS} {is : List Nat} (h : freeAt l is = true) : ∀ i ∈ is, ∀ d, l[i]? ≠ some (Sl.own d) := by
  intro i hi d z
  unfold freeAt at h
  have := List.all_eq_true.mp h i hi
  rw [z] at this
  cases this
/-- slots that own nothing are wiped, in the model too -/
theorem Rel.wiped (r : Rel K e w hp S σ H) {is : List Nat} (f : ∀ i ∈ is, ∀ d, S[i]? ≠ some (Sl.own d)) : Rel K e w hp (wipeR S is) (wipe σ is) H where
  hs := r.hs
  gr := r.gr
  gω := r.gω
  oω := r.oω
  len := by rw [wipeR_length, wipe_length]; exact r.len
  val := fun j d q => by
    by_cases hj : j ∈ is
    · cases wipeR_in _ hj _ q
    · rw [wipeR_out _ hj] at q
      rw [wipe_notin _ hj]; exact r.val j d q
  own := fun j d q => by
    by_cases hj : j ∈ is
    · cases wipeR_in _ hj _ q
    · rw [wipeR_out _ hj] at q
      rw [wipe_notin _ hj]; exact r.own j d q
  owned := fun b j q => by
    obtain ⟨d, h1, h2⟩ := r.owned b j q
    have hj : ¬ j ∈ is := fun z => f j z d h1
    exact ⟨d, by rw [wipeR_out _ hj]; exact h1, by rw [wipe_notin _ hj]; exact h2⟩
  eω := r.eω
/-- behind a comprehension the slots stand as they stood -/
theorem Rel.back {w1 : Wd} {hp1 : HP} {H1 : Hp} {S1 : RS} {σ1 : St} (r1 : Rel K e w1 hp1 S σ H1) (r : Rel K e w hp S1 σ1 H) (x : Ext w1 H1 w H) : Rel K e w hp S σ H where
  hs := r.hs
  gr := r.gr
  gω := r.gω
  oω := r.oω
  len := r1.len
  val := fun j d q => by
    obtain ⟨v, h1, h2⟩ := r1.val j d q
    exact ⟨v, h1, x.rep h2⟩
  own := fun j d q => by
    obtain ⟨p, o, h1, h2, h3, h4⟩ := r1.own j d q
    exact ⟨p, o, h1, x.gr.h p o h2 (r1.ownO h4), x.cont h3, by rw [x.ω]; exact h4⟩
  owned := fun b j q => r1.owned b j (by rw [← x.ω]; exact q)
  eω := fun b j q => r1.eω b j (by rw [← x.ω]; exact q)
end

/-- a value that is held while others are reckoned -/
inductive Raw (K : PySem.W.Frag) (w : Wd) (H : Hp) : D → V → Prop
  | rep {d : D} {v : V} : Rep K w.oa w.g d v → Raw K w H d v
  | own {d : D} {p : Addr} {o : HO} {i : Nat} : H p = some o → Cont K w.oa w.g d o → w.ω p = some i → Raw K w H d (.ref p)
inductive Raws (K : PySem.W.Frag) (w : Wd) (H : Hp) : List D → List V → Prop
  | nil : Raws K w H [] []
  | cons {d : D} {v : V} {ds : List D} {vs : List V} : Raw K w H d v → Raws K w H ds vs → Raws K w H (d :: ds) (v :: vs)
section
variable {K : PySem.W.Frag} {e : En} {w w1 : Wd} {hp hp1 : HP} {S S1 : RS} {σ σ1 : St} {H H1 : Hp}
theorem Raw.ext (r : Rel K e w hp S σ H) (x : Ext w H w1 H1) {d : D} {v : V} (h : Raw K w H d v) : Raw K w1 H1 d v := by
  cases h with
  | rep h => exact .rep (x.rep h)
  | own a b c => exact .own (x.gr.h _ _ a (r.ownO c)) (x.cont b) (by rw [x.ω]; exact c)
theorem Raws.ext (r : Rel K e w hp S σ H) (x : Ext w H w1 H1) : ∀ {ds : List D} {vs : List V}, Raws K w H ds vs → Raws K w1 H1 ds vs
  | _, _, .nil => .nil
  | _, _, .cons h t => .cons (h.ext r x) (Raws.ext r x t)
theorem vw_not {d : D} (h : ∀ n, d ≠ .obj n) : vw hp d = d := by
  cases d with
  | obj n => exact absurd rfl (h n)
  | _ => rfl
theorem Raw.view (r : Rel K e w hp S σ H) {d : D} {v : V} (h : Raw K w H d v) : View K w.oa w.g H (vw hp d) v := by
  cases h with
  | rep h =>
    cases d with
    | obj n =>
      have h0 := h
      cases h with
      | obj q =>
        simp only [vw]
        cases z : hp[n]? with
        | none => exact .rep h0
        | some ob =>
          cases ob with
          | lst ds =>
            obtain ⟨vs, e1, e2⟩ := r.hs.oR n _ _ z q
            exact .lst (.inl (.of e1)) e2
          | dic ds =>
            obtain ⟨vs, e1, e2⟩ := r.hs.oR n _ _ z q
            exact .dic e1 e2
          | _ => exact .rep h0
    | _ => exact .rep h
  | own a b c =>
    cases d with
    | lst ds => exact .of_cont a b
    | dic ds => exact .of_cont a b
    | _ => exact (show False from b).elim
theorem Raws.views (r : Rel K e w hp S σ H) : ∀ {ds : List D} {vs : List V}, Raws K w H ds vs → Views K w.oa w.g H (ds.map (vw hp)) vs
  | _, _, .nil => .nil
  | _, _, .cons h t => .cons (h.view r) (Raws.views r t)
end

section
variable (K : PySem.W.Frag) (e : En) (Γ : Cfg) (wx : D → RS → HP → Prop)
def PostM {α : Type} (S : RS) (σ : St) (w : Wd) (H : Hp) (P : α → HP → Wd → Hp → Prop) (r : Re D α) : Prop := match r with
  | .ok a hp' => ∀ w' H', Ext w H w' H' → Rel K e w' hp' S σ H' → P a hp' w' H'
  | .exc x hp' => wx x S hp'
  | .stuck => False
def TEc (c : C) : TE := fun σ H Q => ∃ w hp S, Rel K e w hp S σ H ∧ PostM K e wx S σ w H (fun d _ w' H' => ∀ v, Res1 K H w' H' d (frC Γ c d) v → Q v H') (evE Γ c S hp)
def TOc (c : C) : TE := fun σ H Q => ∃ w hp S, Rel K e w hp S σ H ∧ PostM K e wx S σ w H (fun d _ w' H' => ∀ v, Raw K w' H' d v → Q v H') (evE Γ c S hp)
def TTc (c : C) : TT := fun σ H Q => ∃ w hp S, Rel K e w hp S σ H ∧ PostM K e wx S σ w H (fun b _ _ H' => Q b H') (evT Γ c S hp)
def TLc (cs : Cs) : TA := fun σ H Q => ∃ w hp S, Rel K e w hp S σ H ∧ PostM K e wx S σ w H (fun ds _ w' H' => ∀ vs, Reps K w'.oa w'.g ds vs → Q vs H') (evCs Γ cs S hp)
def TVc (cs : Cs) : TA := fun σ H Q => ∃ w hp S, Rel K e w hp S σ H ∧ PostM K e wx S σ w H (fun ds _ w' H' => ∀ vs, Raws K w' H' ds vs → Q vs H') (evCs Γ cs S hp)
end
section
variable {K : PySem.W.Frag} {e : En} {Γ : Cfg} {wx : D → RS → HP → Prop} {σ : St} {w w1 : Wd} {H H1 : Hp} {S : RS} {hp : HP} {α β : Type}
theorem Res1.base {H2 : Hp} (x : ∀ b, H1 b = none → H b = none) {d : D} {fr : Bool} {v : V} (q : Res1 K H1 w H2 d fr v) : Res1 K H w H2 d fr v := by
  cases fr with
  | false => exact q
  | true =>
    obtain ⟨p, o, a, b, c, d, f, g, i⟩ := q
    exact ⟨p, o, a, b, c, d, f, g, x _ i⟩
theorem PostM.mono {P P' : α → HP → Wd → Hp → Prop} {r : Re D α} (h : PostM K e wx S σ w H P r) (m : ∀ a hp' w' H', r = .ok a hp' → Ext w H w' H' → Rel K e w' hp' S σ H' → P a hp' w' H' → P' a hp' w' H') : PostM K e wx S σ w H P' r := by
  cases r with
  | ok a hp' => exact fun w' H' x r' => m a hp' w' H' rfl x r' (h w' H' x r')
  | exc x hp' => exact h
  | stuck => exact h
theorem PostM.ext {P : α → HP → Wd → Hp → Prop} {r : Re D α} (x : Ext w H w1 H1) (h : PostM K e wx S σ w H P r) : PostM K e wx S σ w1 H1 P r := by
  cases r with
  | ok a hp' => exact fun w' H' y r' => h w' H' (x.trans y) r'
  | exc x hp' => exact h
  | stuck => exact h
/-- one thing behind another -/
theorem PostM.bind {P : β → HP → Wd → Hp → Prop} {m : M α} {k : α → M β} (h : PostM K e wx S σ w H P (m.bind k hp)) : PostM K e wx S σ w H (fun a hp1 w1 H1 => PostM K e wx S σ w1 H1 P (k a hp1)) (m hp) := by
  cases q : m hp with
  | ok a hp' => rw [bind_ok q] at h; exact fun w' H' x r' => PostM.ext x h
  | exc x hp' => rw [bind_exc q] at h; exact h
  | stuck => rw [bind_st q] at h; exact h
theorem PostM.pure {P : α → HP → Wd → Hp → Prop} {a : α} (r : Rel K e w hp S σ H) (h : PostM K e wx S σ w H P (Mx.pure a hp)) : P a hp w H := h w H (.refl _ _) r
theorem PostM.lift {P : α → HP → Wd → Hp → Prop} {o : Option α} (h : PostM K e wx S σ w H P (Mx.lift o hp)) : ∃ a, o = some a ∧ PostM K e wx S σ w H P (.ok a hp) := by
  cases o with
  | none => exact (show False from h).elim
  | some a => exact ⟨a, rfl, h⟩
theorem TEc.mono {c : C} {Q Q' : VK} (h : TEc K e Γ wx c σ H Q) (m : ∀ v H', Q v H' → Q' v H') : TEc K e Γ wx c σ H Q' := by
  obtain ⟨w, hp, S, r, p⟩ := h
  exact ⟨w, hp, S, r, p.mono fun a hp' w' H' _ _ _ z v q => m _ _ (z v q)⟩
theorem TOc.mono {c : C} {Q Q' : VK} (h : TOc K e Γ wx c σ H Q) (m : ∀ v H', Q v H' → Q' v H') : TOc K e Γ wx c σ H Q' := by
  obtain ⟨w, hp, S, r, p⟩ := h
  exact ⟨w, hp, S, r, p.mono fun a hp' w' H' _ _ _ z v q => m _ _ (z v q)⟩
/-- an expression's value is settled: what is behind it -/
theorem TEc.of {c : C} {Q : VK} (r : Rel K e w hp S σ H) (h : PostM K e wx S σ w H (fun d hp1 w1 H1 => Rel K e w1 hp1 S σ H1 → ∀ v, Rep K w1.oa w1.g d v → Q v H1) (evE Γ c S hp)) : TEc K e Γ wx c σ H Q :=
  ⟨w, hp, S, r, h.mono fun d hp' w' H' q x r' z v res => by
    obtain ⟨w2, x2, r2, rp⟩ := r'.fin x (fun b => r.enone) res
    rw [q] at h
    exact h w2 H' x2 r2 r2 v rp⟩
theorem TOc.of {c : C} {Q : VK} (r : Rel K e w hp S σ H) (h : PostM K e wx S σ w H (fun d hp1 w1 H1 => Rel K e w1 hp1 S σ H1 → ∀ v, Raw K w1 H1 d v → Q v H1) (evE Γ c S hp)) : TOc K e Γ wx c σ H Q :=
  ⟨w, hp, S, r, h.mono fun d hp' w' H' q x r' z v res => z r' v res⟩
end
theorem imE {X : Cx} {ex : Expr} {t t' : TE} (p : PE X ex t) (h : ∀ σ H Q, t' σ H Q → t σ H Q) : PE X ex t' := ⟨fun a b c d f g k => p.run a b c d f g (h _ _ _ k)⟩
theorem imT {X : Cx} {ex : Expr} {t t' : TT} (p : PT X ex t) (h : ∀ σ H Q, t' σ H Q → t σ H Q) : PT X ex t' := ⟨fun a b c d f g k => p.run a b c d f g (h _ _ _ k)⟩
theorem imW {X : Cx} {ex : Expr} {t t' : TT} (p : PW X ex t) (h : ∀ σ H Q, t' σ H Q → t σ H Q) : PW X ex t' := ⟨fun a b c d f g k m => p.run a b c d f g k (h _ _ _ m)⟩
theorem imA {X : Cx} {ex : List Expr} {t t' : TA} (p : PA X ex t) (h : ∀ σ H Q, t' σ H Q → t σ H Q) : PA X ex t' := ⟨fun a b c d f g k m => p.run a b c d f g k (h _ _ _ m)⟩
theorem imS {X : Cx} {ex : Stmt} {t t' : TS} (p : PS X ex t) (h : ∀ D σ H, t' D σ H → t D σ H) : PS X ex t' := ⟨fun a b c d f g k => p.run a b c d f g (h _ _ _ k)⟩
theorem imSs {X : Cx} {ex : List Stmt} {t t' : TS} (p : PSs X ex t) (h : ∀ D σ H, t' D σ H → t D σ H) : PSs X ex t' := ⟨fun a b c d f g k => p.run a b c d f g (h _ _ _ k)⟩
end RR

namespace RR
open PySem L2 PyProof.Rows
/-- what is drawn of the tuple at a beside the list at b -/
def ItzM (K : PySem.W.Frag) (a b : Addr) : L2.It where
  go i H := ∃ (xs ys : List V) (x y : V), (SqT K H a xs ∧ xs[i]? = some x) ∧ SqL K H b ys ∧ ys[i]? = some y
  yld i H v H' := ∃ t x y, (v = .ref t ∧ H t = none) ∧ H' = upd H t (.tup [x, y]) ∧ (∀ xs, SqT K H a xs → xs[i]? = some x) ∧ ∀ ys, SqL K H b ys → ys[i]? = some y
  stop i H := ∃ xs ys : List V, (SqT K H a xs ∧ SqL K H b ys) ∧ (i ≤ xs.length ∧ i ≤ ys.length) ∧ (i = xs.length ∨ i = ys.length)
/-- the zip's five cells at turn i -/
structure ZmAt (z TI TO i1 i2 a b : Addr) (i : Nat) (h : Heap) : Prop where
  zip : IsZip h z TI TO .none
  its : IsTupOf2 h TI (.ref i1) (.ref i2)
  out : ∃ x y, IsTupOf2 h TO x y
  one : h.IsTupleIter i1 a i
  two : h.IsListIter i2 b i
section
variable {z TI TO i1 i2 a b : Addr}
theorem mem5 {c : Addr} : c ∈ [z, TI, TO, i1, i2] ↔ c = z ∨ c = TI ∨ c = TO ∨ c = i1 ∨ c = i2 := by simp
theorem zm_sep (D : ZipApart z TI TO i1 i2 a b) : ZipSep2 z TI TO i1 i2 [i1, a] [i2, b] where
  TIz := D.TIz
  TOz := D.TOz
  TITO := D.TITO
  TIi1 := D.TIi1
  TIi2 := D.TIi2
  mem1 := by simp
  mem2 := by simp
  zf1 := by simp [D.i1z.symm, D.l1z.symm]
  zf2 := by simp [D.i2z.symm, D.l2z.symm]
  Tf1 := by simp [D.TOi1, D.l1TO.symm]
  Tf2 := by simp [D.TOi2, D.l2TO.symm]
  sep1_2 := by simp [D.i12, D.l2i1.symm]
  sep2_1 := by simp [D.i12.symm, D.l1i2.symm]
theorem turn_zipM {P : Program} {w : World} {K : PySem.W.Frag} {elts : List Expr} {kk : Nat} {tpos : Pos} (D : ZipApart z TI TO i1 i2 a b) : Turn P w K (.Tuple elts kk tpos) (ItzM K a b) [z, TI, TO, i1, i2] z (ZmAt z TI TO i1 i2 a b) where
  mem := List.mem_cons_self
  obj := fun i h st c hc => by
    obtain ⟨_, _, _, ⟨o1, e1, _, d1⟩, o2, e2, _, d2⟩ := id st
    obtain ⟨x, y, to⟩ := st.out
    rcases mem5.mp hc with rfl | rfl | rfl | rfl | rfl
    · exact ⟨_, st.zip, fun v q => (by cases q)⟩
    · exact ⟨_, st.its, fun v q => (by cases q)⟩
    · exact ⟨_, to, fun v q => (by cases q)⟩
    · exact ⟨_, e1, fun v q => (by rw [d1] at q; cases q)⟩
    · exact ⟨_, e2, fun v q => (by rw [d2] at q; cases q)⟩
  keep := fun i h h' st k => by
    obtain ⟨x, y, to⟩ := st.out
    have k' : ∀ c, (c = z ∨ c = TI ∨ c = TO ∨ c = i1 ∨ c = i2) → ∀ o, h.get? c = some o → h'.get? c = some o := fun c hc => k c (mem5.mpr hc)
    exact ⟨k' z (by simp) _ st.zip, k' TI (by simp) _ st.its, ⟨x, y, k' TO (by simp) _ to⟩, st.one.at (k' i1 (by simp)), st.two.at (k' i2 (by simp))⟩
  item := fun X hP hw hK hc i pins s σ H E I hf st hg => by
    subst hP; subst hw; subst hK
    obtain ⟨xs, ys, x, y, ⟨qx, ex⟩, qy, ey⟩ := hg
    obtain ⟨us, ru, pu, _⟩ := I.tuple qx
    obtain ⟨vs, rv, pv, _⟩ := I.list qy
    have hh : X.A.in1.handled = none := I.ok.hd hc
    obtain ⟨u, eu, rxu⟩ := ru.get ex
    obtain ⟨v, ev, ryv⟩ := rv.get ey
    obtain ⟨p0, p1, to⟩ := st.out
    have lu : i < us.toArray.size := by have := (List.getElem?_eq_some_iff.mp eu).1; simpa using this
    have lv : i < vs.toArray.size := by have := (List.getElem?_eq_some_iff.mp ev).1; simpa using this
    have pu' : s.heap.IsTuple a us.toArray := pu
    refine wpAny_pyNext_zipD2_item (zm_sep D) (Draws.tuple hh i1 a D.l1i1 us.toArray) (Draws.list hh i2 b D.l2i2 vs.toArray) st.zip st.its to ⟨st.one, pu'⟩ ⟨st.two, pv.isList⟩ lu lv fun x1 x2 h' tk y1 y2 b1 b2 d1 d2 b5 _ hk => ?_
    have x1u : x1 = u := by have z1 : us.toArray[i]? = some x1 := y1; rw [List.getElem?_toArray, eu] at z1; exact (Option.some.inj z1).symm
    have x2v : x2 = v := by have z1 : vs.toArray[i]? = some x2 := y2; rw [List.getElem?_toArray, ev] at z1; exact (Option.some.inj z1).symm
    subst x1u; subst x2v
    have zlt := Heap.lt_size st.zip
    refine ⟨_, rfl, wpAny_letOwnedTupleGo_zip (s := { s with heap := h', toks := tk }) b1 fun h2 z2 sb => ?_⟩
    have pair2 := (sb.2 s.heap.objs.size (Nat.ne_of_gt zlt)).trans b5
    have okT : ObjOk X.prog X.w (upd H s.heap.objs.size (.tup [x, y])) h2 s.heap.objs.size (.tup [x, y]) := ⟨by show 2 ≤ sizeLine; rw [sizeLine_eq]; decide, [x1, x2], .cons rxu (.cons ryv .nil), ⟨_, pair2, rfl, _, rfl⟩⟩
    have stay : ∀ c o, c ∉ [z, TI, TO, i1, i2] → s.heap.get? c = some o → h2.get? c = some o := fun c o nc q => by
      have n5 : ¬(c = z ∨ c = TI ∨ c = TO ∨ c = i1 ∨ c = i2) := fun y => nc (mem5.mpr y)
      simp only [not_or] at n5
      exact (sb.2 c n5.1).trans (hk c o n5.1 n5.2.2.1 n5.2.2.2.1 n5.2.2.2.2 q)
    have J := I.turnedNew (t' := tk) stay hf (Nat.le_refl _) okT
    refine ⟨.ref s.heap.objs.size, _, J, rfl, ⟨_, x, y, ⟨rfl, I.hok.fresh (Nat.le_refl _)⟩, rfl, fun l q => by rw [I.tuple_inj q qx]; exact ex, fun l q => by rw [I.list_inj q qy]; exact ey⟩, ?_, fun c hc => ?_⟩
    · exact ⟨z2, (sb.2 TI D.TIz).trans (hk TI _ D.TIz D.TITO D.TIi1 D.TIi2 st.its), ⟨x1, x2, (sb.2 TO D.TOz).trans b2⟩, d1.1.at fun o q => (sb.2 i1 D.i1z).trans q, d2.1.at fun o q => (sb.2 i2 D.i2z).trans q⟩
    · have old : c < s.heap.objs.size := by
        obtain ⟨o, e, _⟩ : ∃ o, s.heap.get? c = some o ∧ True := by
          obtain ⟨_, _, _, ⟨o1, e1, _⟩, o2, e2, _⟩ := id st
          rcases mem5.mp hc with rfl | rfl | rfl | rfl | rfl
          · exact ⟨_, st.zip, trivial⟩
          · exact ⟨_, st.its, trivial⟩
          · exact ⟨_, to, trivial⟩
          · exact ⟨_, e1, trivial⟩
          · exact ⟨_, e2, trivial⟩
        exact Heap.lt_size e
      rw [upd_ne (Nat.ne_of_lt old)]
      exact (hf c hc).1
  done := fun X hP hw hK hc i pins s σ H E I hf st hg => by
    subst hP; subst hw; subst hK
    obtain ⟨xs, ys, ⟨qx, qy⟩, ⟨le1, le2⟩, hend⟩ := hg
    obtain ⟨us, ru, pu, _⟩ := I.tuple qx
    obtain ⟨vs, rv, pv, _⟩ := I.list qy
    have hh : X.A.in1.handled = none := I.ok.hd hc
    obtain ⟨p0, p1, to⟩ := st.out
    have l1 := ru.length
    have l2 := rv.length
    have pu' : s.heap.IsTuple a us.toArray := pu
    refine wpAny_pyNext_zipD2_end (zm_sep D) (Draws.tuple hh i1 a D.l1i1 us.toArray) (Draws.list hh i2 b D.l2i2 vs.toArray) st.zip st.its to ⟨st.one, pu'⟩ ⟨st.two, pv.isList⟩ (by simp; omega) (by simp; omega) (by simp; omega) fun h' tk hk => ⟨rfl, ?_⟩
    exact I.turnedL (t' := tk) (ch := [z, TI, TO, i1, i2]) (fun c o nc q => by
      have n5 : ¬(c = z ∨ c = TI ∨ c = TO ∨ c = i1 ∨ c = i2) := fun y => nc (mem5.mpr y)
      simp only [not_or] at n5
      exact hk c o n5.1 n5.2.2.1 n5.2.2.2.1 n5.2.2.2.2 q) hf
  self := fun A i s Q E st h => wpAny_pyIter_zip st.zip h
end
/-- zip(x, y), a tuple and a list -/
def iZipM (K : PySem.W.Frag) (ta : TA) : L2.TI := fun σ H R => ta σ H fun vs H1 => ∃ a b xs ys, vs = [.ref a, .ref b] ∧ SqT K H1 a xs ∧ SqL K H1 b ys ∧ R (ItzM K a b) H1
theorem pi_zipM {X : Cx} {e e2 : Expr} {ta : TA} {p pos tpos : Pos} {elts : List Expr} {kk : Nat} (hg : Gl X "zip") (hm : X.mg "zip" = none) (ha : PA X [e, e2] ta) (hs : starEach [e, e2] X.env = (false, eval e X.env) :: starEach [e2] X.env) (hpl : (backTo pos (starEach [e2] X.env)).any (·.1) = false) :
    PI X (.Tuple elts kk tpos) (.Call (.Name "zip" p) [e, e2] [] pos) (iZipM X.K ta) := ⟨fun pins s σ H R I h => by
  refine Call_ (ld_blt I hg hm boot_zip (callWith_type1 (L2.thn (ha.run pos pins s σ H _ I h) fun us s1 q => ?_) hs hpl))
  obtain ⟨vs, H1, J, rv, a, b, xs, ys, rfl, qx, qy, hR⟩ := q
  cases rv with
  | cons ra rb => cases rb with
    | cons rb rc =>
      cases rc; cases ra; cases rb
      obtain ⟨ts, _, pt, _⟩ := J.tuple qx
      obtain ⟨ls, _, pl, _⟩ := J.list qy
      have pt' : s1.heap.IsTuple a ts.toArray := pt
      obtain ⟨o1, ho1, _⟩ := id pt'
      refine zip_begins2 (begins_tuple a ts.toArray) (begins_list b ls.toArray) pt' pl.isList fun h' z1 z2 z3 z4 z5 _ k => wpAny_pyIter_zip z1 ?_
      have st : ZmAt (s1.heap.objs.size + 4) (s1.heap.objs.size + 2) (s1.heap.objs.size + 3) s1.heap.objs.size (s1.heap.objs.size + 1) a b 0 h' := ⟨z1, z2, ⟨_, _, z3⟩, ⟨_, z4, rfl, rfl⟩, ⟨_, z5, rfl, rfl⟩⟩
      refine ⟨_, _, _, _, H1, rfl, J.kept (t' := s1.toks) k, turn_zipM (PySem.W.ktu_apart s1.heap.objs.size a b (Heap.lt_size ho1) pl.lt), st, fun c hc => ?_, hR⟩
      have up : s1.heap.objs.size ≤ c := by rcases mem5.mp hc with rfl | rfl | rfl | rfl | rfl <;> first | exact Nat.le_refl _ | exact Nat.le_add_right _ _
      exact J.fpOk up (J.hok.fresh up)⟩
end RR

namespace RR
open PySem L2
/-- a method that changes nothing -/
def rMt (K : PySem.W.Frag) (m : Str) : V → List V → Hp → VK → Prop := fun x xs H Q => ∃ oa G dx ds d, Sub G H ∧ View K oa G H dx x ∧ Views K oa G H ds xs ∧ mtdD m dx ds = some d ∧ ∀ v H', ResV K oa G H d d.isL v H' → Q v H'
/-- a method that changes a list -/
def rMu (K : PySem.W.Frag) (m : Str) : V → List V → Hp → VK → Prop := fun x xs H Q => ∃ oa G l vs ds as r ds', x = .ref l ∧ H l = some (.lst vs) ∧ Reps K oa G ds vs ∧ Reps K oa G as xs ∧ mutD m ds as = some (r, ds') ∧ ∀ v vs', Rep K oa G r v → Reps K oa G ds' vs' → Q v (upd H l (.lst vs'))
section
variable {K : PySem.W.Frag} {oa : Os} {G H : Hp}
theorem Reps.strs2 : ∀ {ds : List D} {vs : List V} {ys : List Str}, Reps K oa G ds vs → allStr ds = some ys → vs = ys.map V.str
  | _, _, is, .nil, e => by simp only [allStr, Option.some.injEq] at e; subst e; rfl
  | _, _, is, .cons (d := d) h r, e => by
    cases d with
    | str i =>
      simp only [allStr] at e
      cases q : allStr _ with
      | none => rw [q] at e; cases e
      | some js =>
        rw [q] at e
        cases e
        cases h
        rw [Reps.strs2 r q]
        rfl
    | _ => simp [allStr] at e
theorem Reps.ofStrs : ∀ zs : List Str, Reps K oa G (zs.map .str) (zs.map V.str)
  | [] => .nil
  | z :: zs => .cons (.str z) (Reps.ofStrs zs)
theorem Reps.erase : ∀ {ds : List D} {vs : List V} (i : Nat), Reps K oa G ds vs → Reps K oa G (ds.eraseIdx i) (vs.eraseIdx i)
  | _, _, _, .nil => .nil
  | _, _, 0, .cons _ r => r
  | _, _, i + 1, .cons h r => .cons h (Reps.erase i r)
theorem Reps.dropLast {ds : List D} {vs : List V} (r : Reps K oa G ds vs) : Reps K oa G ds.dropLast vs.dropLast := by
  rw [List.dropLast_eq_take, List.dropLast_eq_take, r.length]
  exact r.take _
end
section
variable {X : Cx}
theorem me_join : MtR X "str.join" (rMt X.K "join") := by
  intro pn s1 st Hh x xs u us Q I ru r ⟨oa, G, dx, ds, d, sG, vx, vs, e, q⟩
  unfold mtdD at e
  rw [if_pos rfl] at e
  split at e
  · rename_i a zs
    cases e1 : allStr zs with
    | none => rw [e1] at e; cases e
    | some ys =>
      rw [e1] at e
      simp only [Option.bind_some] at e
      split at e
      · rename_i hz
        cases e
        cases vs with | cons v1 v2 => cases v2 with | nil =>
          obtain ⟨p, ws, rfl, h1, r1⟩ := v1.lstE sG
          rw [vx.strE] at ru
          rw [r1.strs2 e1] at h1
          exact mt_join pn s1 st Hh _ _ _ us Q I ru r ⟨a, p, ys, rfl, rfl, .inl h1, hz, q _ _ (.same (.str _))⟩
      · cases e
  · cases e
theorem me_split : MtR X "str.split" (rMt X.K "split") := by
  intro pn s1 st Hh x xs u us Q I ru r ⟨oa, G, dx, ds, d, sG, vx, vs, e, q⟩
  unfold mtdD at e
  rw [if_neg (by decide +kernel), if_pos rfl] at e
  split at e
  · split at e
    · rename_i a hz
      cases e
      cases vs
      rw [vx.strE] at ru
      exact mt_words pn s1 st Hh _ _ _ us Q I ru r ⟨a, rfl, rfl, by rw [← line_eq]; exact hz, fun p hp => q _ _ (.lst hp (Reps.ofStrs _))⟩
    · cases e
  · split at e
    · rename_i a b hz
      cases e
      cases vs with | cons v1 v2 => cases v2 with | nil =>
        rw [vx.strE] at ru
        rw [v1.strE] at r
        exact mt_split pn s1 st Hh _ _ _ us Q I ru r ⟨a, b, rfl, rfl, hz.1, by rw [← line_eq]; exact hz.2, fun p hp => q _ _ (.lst hp (Reps.ofStrs _))⟩
    · cases e
  · cases e
theorem me_partition : MtR X "str.partition" (rMt X.K "partition") := by
  intro pn s1 st Hh x xs u us Q I ru r ⟨oa, G, dx, ds, d, sG, vx, vs, e, q⟩
  unfold mtdD at e
  rw [if_neg (by decide +kernel), if_neg (by decide +kernel), if_pos rfl] at e
  split at e
  · split at e
    · rename_i a b hz
      cases e
      cases vs with | cons v1 v2 => cases v2 with | nil =>
        rw [vx.strE] at ru
        rw [v1.strE] at r
        exact mt_partition pn s1 st Hh _ _ _ us Q I ru r ⟨a, b, rfl, rfl, hz.1, by rw [← line_eq]; exact hz.2, fun p hp => q _ _ (.tup sG hp (.cons (.str _) (.cons (.str _) (.cons (.str _) .nil))))⟩
    · cases e
  · cases e
theorem me_isdigit : MtR X "str.isdigit" (rMt X.K "isdigit") := by
  intro pn s1 st Hh x xs u us Q I ru r ⟨oa, G, dx, ds, d, sG, vx, vs, e, q⟩
  unfold mtdD at e
  rw [if_neg (by decide +kernel), if_neg (by decide +kernel), if_neg (by decide +kernel), if_pos rfl] at e
  split at e
  · cases e
    cases vs
    rw [vx.strE] at ru
    exact mt_isdigit pn s1 st Hh _ _ _ us Q I ru r ⟨_, rfl, rfl, trivial, q _ _ (.same (.bl _))⟩
  · cases e
theorem me_startswith : MtR X "str.startswith" (rMt X.K "startswith") := by
  intro pn s1 st Hh x xs u us Q I ru r ⟨oa, G, dx, ds, d, sG, vx, vs, e, q⟩
  unfold mtdD at e
  rw [if_neg (by decide +kernel), if_neg (by decide +kernel), if_neg (by decide +kernel), if_neg (by decide +kernel), if_pos rfl] at e
  split at e
  · cases e
    cases vs with | cons v1 v2 => cases v2 with | nil =>
      rw [vx.strE] at ru
      rw [v1.strE] at r
      exact mt_startswith pn s1 st Hh _ _ _ us Q I ru r ⟨_, _, rfl, rfl, q _ _ (.same (.bl _))⟩
  · cases e
theorem me_upper : MtR X "str.upper" (rMt X.K "upper") := by
  intro pn s1 st Hh x xs u us Q I ru r ⟨oa, G, dx, ds, d, sG, vx, vs, e, q⟩
  unfold mtdD at e
  rw [if_neg (by decide +kernel), if_neg (by decide +kernel), if_neg (by decide +kernel), if_neg (by decide +kernel), if_neg (by decide +kernel), if_pos rfl] at e
  split at e
  · split at e
    · rename_i a hz
      cases e
      cases vs
      rw [vx.strE] at ru
      exact mt_upper pn s1 st Hh _ _ _ us Q I ru r ⟨_, rfl, rfl, hz, q _ _ (.same (.str _))⟩
    · cases e
  · cases e
theorem mu_append : MtR X "list.append" (rMu X.K "append") := by
  intro pn s1 st Hh x xs u us Q I ru r ⟨oa, G, l, vs, ds, as, rr, ds', ex, hl, rv, ra, e, q⟩
  subst ex
  unfold mutD at e
  rw [if_pos rfl] at e
  split at e
  · split at e
    · rename_i y hz
      cases e
      cases ra with | cons a1 a2 => cases a2 with | nil =>
        exact mt_append pn s1 st Hh _ _ _ us Q I ru r ⟨l, vs, _, rfl, rfl, hl, by rw [← rv.length, ← line_eq]; exact hz, q _ _ .non (rv.append (.cons a1 .nil))⟩
    · cases e
  · cases e
theorem mu_pop : MtR X "list.pop" (rMu X.K "pop") := by
  intro pn s1 st Hh x xs u us Q I ru r ⟨oa, G, l, vs, ds, as, rr, ds', ex, hl, rv, ra, e, q⟩
  subst ex
  unfold mutD at e
  rw [if_neg (by decide +kernel), if_pos rfl] at e
  split at e
  · split at e
    · rename_i y hy
      cases e
      cases ra
      obtain ⟨v, hv, rp⟩ := rv.get hy
      rw [rv.length] at hv
      exact mt_pop pn s1 st Hh _ _ _ us Q I ru r ⟨l, vs, v, rfl, rfl, hl, hv, q _ _ rp rv.dropLast⟩
    · cases e
  · rename_i i
    split at e
    · rename_i hb
      rw [decide_eq_true_eq] at hb
      split at e
      · rename_i k hk
        split at e
        · rename_i y hy
          cases e
          cases ra with | cons a1 a2 => cases a2 with | nil =>
            obtain ⟨v, hv, rp⟩ := rv.get hy
            rw [a1.intE] at r
            rw [rv.length] at hk
            exact mt_popAt pn s1 st Hh _ _ _ us Q I ru r ⟨l, vs, i, k, v, rfl, rfl, hl, hb.1, hb.2, hk, hv, q _ _ rp (rv.erase k)⟩
        · cases e
      · cases e
    · cases e
  · cases e
theorem mu_clear : MtR X "list.clear" (rMu X.K "clear") := by
  intro pn s1 st Hh x xs u us Q I ru r ⟨oa, G, l, vs, ds, as, rr, ds', ex, hl, rv, ra, e, q⟩
  subst ex
  unfold mutD at e
  rw [if_neg (by decide +kernel), if_neg (by decide +kernel), if_pos rfl] at e
  split at e
  · cases e
    cases ra
    exact mt_clear pn s1 st Hh _ _ _ us Q I ru r ⟨l, vs, rfl, rfl, hl, q _ _ .non .nil⟩
  · cases e
theorem mu_reverse : MtR X "list.reverse" (rMu X.K "reverse") := by
  intro pn s1 st Hh x xs u us Q I ru r ⟨oa, G, l, vs, ds, as, rr, ds', ex, hl, rv, ra, e, q⟩
  subst ex
  unfold mutD at e
  rw [if_neg (by decide +kernel), if_neg (by decide +kernel), if_neg (by decide +kernel), if_pos rfl] at e
  split at e
  · cases e
    cases ra
    exact mt_reverse pn s1 st Hh _ _ _ us Q I ru r ⟨l, vs, rfl, rfl, hl, q _ _ .non rv.reverse⟩
  · cases e
theorem mu_insert : MtR X "list.insert" (rMu X.K "insert") := by
  intro pn s1 st Hh x xs u us Q I ru r ⟨oa, G, l, vs, ds, as, rr, ds', ex, hl, rv, ra, e, q⟩
  subst ex
  unfold mutD at e
  rw [if_neg (by decide +kernel), if_neg (by decide +kernel), if_neg (by decide +kernel), if_neg (by decide +kernel), if_pos rfl] at e
  split at e
  · split at e
    · rename_i i y hz
      rw [Bool.and_eq_true, decide_eq_true_eq, decide_eq_true_eq] at hz
      cases e
      cases ra with | cons a1 a2 => cases a2 with | cons a2 a3 => cases a3 with | nil =>
        rw [a1.intE] at r
        exact mt_insert pn s1 st Hh _ _ _ us Q I ru r ⟨l, vs, i, _, rfl, rfl, hl, by rw [← rv.length, ← line_eq]; exact hz.2, hz.1.1, hz.1.2, q _ _ .non (((rv.take _).append (.cons a2 .nil)).append (rv.drop _))⟩
    · cases e
  · cases e
end
end RR

namespace RR
open PySem L2

def visB (sc : Scope) (x : Str) : Bool := match sc.names.lookup x with
  | some .local => true | some .cell => true | some .free => true | _ => false
def glB (sc : Scope) (x : Str) : Bool := decide (sc.names.lookup x = some .globalImplicit)
def locB (sc : Scope) (x : Str) : Bool := match sc.names.lookup x with
  | some .local => true | some .cell => true | _ => false
def okN (x : Str) : Bool := !(x == ("__debug__" : Str)) && !(x == ("__classdict__" : Str))
/-- the built-in functions and classes that code may name -/
def biF (f : Str) : Bool := decide (f = "len") || decide (f = "max") || decide (f = "min") || decide (f = "all") || decide (f = "sum") || decide (f = "divmod") || decide (f = "abs")
/-- a receiver; methods by name -/
def rcvB : Expr → Bool
  | .Name .. => true | .Constant .. => true | .BinOp .. => true | .Subscript .. => true | .Attribute .. => true | .Call (.Attribute ..) .. => true | .Call (.Name x _) .. => !(x == ("super" : Str)) | _ => false
def newB : Expr → Bool
  | .List .. => true | .Call .. => true | .BinOp .. => true | .Subscript _ (.Slice ..) _ => true | .Dict .. => true | _ => false
def muB (m : Str) : Bool := decide (m = "append") || decide (m = "pop") || decide (m = "clear") || decide (m = "reverse") || decide (m = "insert")
def mtB (m : Str) : Bool := decide (m = "join") || decide (m = "split") || decide (m = "partition") || decide (m = "isdigit") || decide (m = "startswith") || decide (m = "upper")
def tyB (f : Str) : Bool := decide (f = "int") || decide (f = "bool") || decide (f = "str") || decide (f = "tuple") || decide (f = "list")
def biT (f : Str) : Bool := decide (f = "list") || decide (f = "tuple") || decide (f = "int") || decide (f = "str") || decide (f = "bool")
def ownOf (N : List Str) (tg : Tg) : List (Str × Nat) := tg.ix.map fun i => (N.getD i "", i)
/-- a name that is stored to; fn: whose cells were made at the block's entry -/
def chkN (N : List Str) (sc : Scope) (fn : Str → Bool) (i : Nat) (x : Str) : Bool := decide (N[i]? = some x) && locB sc x && (fn x || decide (sc.names.lookup x = some .local))
def chkNs (N : List Str) (sc : Scope) (fn : Str → Bool) : List Nat → List Expr → Bool
  | [], [] => true
  | i :: is, .Name x _ :: es => chkN N sc fn i x && chkNs N sc fn is es
  | _, _ => false
def chkTg (N : List Str) (sc : Scope) (fn : Str → Bool) (tg : Tg) (te : Expr) : Bool := match tg, te with
  | .nm i, .Name x _ => chkN N sc fn i x
  | .tp is, .Tuple es _ _ => chkNs N sc fn is es
  | _, _ => false
section
variable (N : List Str) (F : Str → Bool)
mutual
def chkE : C → Scope → Expr → Bool
  | .int i, _, .Constant (.int j) _ _ => decide (i = j)
  | .str i, _, .Constant (.str j) _ _ => decide (i = j)
  | .bl i, _, .Constant (.bool j) _ _ => decide (i = j)
  | .non, _, .Constant .none _ _ => true
  | .var i, sc, .Name x _ => decide (N[i]? = some x) && visB sc x && okN x
  | .pk i, sc, .Name x _ => decide (N[i]? = some x) && visB sc x && okN x
  | .glob y, sc, .Name x _ => decide (y = x) && glB sc x && okN x
  | .bin op a b, sc, .BinOp ea op' eb _ => decide (op = op') && chkE a sc ea && chkE b sc eb
  | .neg a, sc, .UnaryOp .USub ea _ => !a.isPk && chkE a sc ea
  | .not a, sc, .UnaryOp .Not ea _ => chkE a sc ea
  | .and as, sc, .BoolOp .And es _ => !as.hasPk && chkCs as sc es
  | .or as, sc, .BoolOp .Or es _ => !as.hasPk && chkCs as sc es
  | .cmp op a b, sc, .Compare ea ops es _ => match ops, es with
    | [op'], [eb] => decide (op = op') && chkE a sc ea && chkE b sc eb
    | _, _ => false
  | .chn op1 op2 a b c, sc, .Compare ea ops es _ => match ops, es with
    | [o1, o2], [eb, ec] => decide (op1 = o1) && decide (op2 = o2) && chkE a sc ea && chkE b sc eb && chkE c sc ec
    | _, _ => false
  | .ite c a b, sc, .IfExp ec ea eb _ => !a.isPk && !b.isPk && chkE c sc ec && chkE a sc ea && chkE b sc eb
  | .tup es, sc, .Tuple xs _ _ => !es.hasPk && chkCs es sc xs
  | .lst es, sc, .List xs _ => !es.hasPk && chkCs es sc xs
  | .idx a i, sc, .Subscript ea ei _ => !i.isPk && chkE a sc ea && chkE i sc ei
  | .slc a lo hi, sc, .Subscript ea (.Slice el eh es _) _ => chkE a sc ea && chkO lo sc el && chkO hi sc eh && es.isNone
  | .call f as, sc, .Call (.Name x _) es ks _ => decide (bs f = x) && F f && glB sc x && okN x && ks.isEmpty && !as.hasPk && chkCs as sc es
  | .iso f as, sc, .Call (.Name x _) es ks _ => decide (bs f = x) && F f && glB sc x && okN x && ks.isEmpty && chkCs as sc es
  | .isr f as, sc, .Call (.Name x _) es ks _ => decide (bs f = x) && F f && glB sc x && okN x && ks.isEmpty && chkCs as sc es
  | .new c, sc, ex => newB ex && !c.isPk && chkE c sc ex
  | .mut m c as, sc, .Call (.Attribute oe m2 ap) es ks cp => rcvB oe && decide (m = m2) && muB m && ks.isEmpty && (ap.endLine == cp.line) && decide (es.length < 3) && !c.isPk && !as.hasPk && chkE c sc oe && chkCs as sc es
  | .mtd m c as, sc, .Call (.Attribute oe m2 ap) es ks cp => rcvB oe && decide (m = m2) && mtB m && ks.isEmpty && (ap.endLine == cp.line) && decide (es.length < 3) && chkE c sc oe && chkCs as sc es
  | .dnew, _, .Dict ks vs _ => ks.isEmpty && vs.isEmpty
  | .dget a k, sc, .Subscript ea ek _ => !k.isPk && chkE a sc ea && chkE k sc ek
  | .din ng k a, sc, .Compare ek ops es _ => match ops, es with
    | [op], [ea] => decide (op = if ng then CmpOp.NotIn else CmpOp.In) && !k.isPk && chkE k sc ek && chkE a sc ea
    | _, _ => false
  | .bi f as, sc, .Call (.Name x _) es ks _ => decide (f = x) && glB sc x && (biF x || biT x) && ks.isEmpty && !es.isEmpty && chkCs as sc es
  | .isi ty a, sc, .Call (.Name x _) es ks _ => match es with
    | [ea, .Name y _] => decide (x = "isinstance") && glB sc x && decide (ty = y) && tyB y && glB sc y && ks.isEmpty && chkE a sc ea
    | _ => false
  | .rvl a, sc, .Call (.Name x _) es ks _ => match es with
    | [.Call (.Name y _) es2 ks2 _] => match es2 with
      | [ea] => decide (x = "list") && decide (y = "reversed") && glB sc x && glB sc y && ks.isEmpty && ks2.isEmpty && !a.isPk && chkE a sc ea
      | _ => false
    | _ => false
  | .lrg a, sc, .Call (.Name x _) es ks _ => match es with
    | [.Call (.Name y _) es2 ks2 _] => match es2 with
      | [ea] => decide (x = "list") && decide (y = "range") && glB sc x && glB sc y && ks.isEmpty && ks2.isEmpty && !a.isPk && chkE a sc ea
      | _ => false
    | _ => false
  | .lset a, sc, .Call (.Name x _) es ks _ => match es with
    | [.Call (.Name y _) es2 ks2 _] => match es2 with
      | [ea] => decide (x = "len") && decide (y = "set") && glB sc x && glB sc y && ks.isEmpty && ks2.isEmpty && !a.isPk && chkE a sc ea
      | _ => false
    | _ => false
  | .ch3 o1 o2 o3 a b c d, sc, .Compare ea ops es _ => match ops, es with
    | [p1, p2, p3], [eb, ec, ed] => decide (o1 = p1) && decide (o2 = p2) && decide (o3 = p3) && chkE a sc ea && chkE b sc eb && chkE c sc ec && chkE d sc ed
    | _, _ => false
  | .gget x k d, sc, .Call (.Attribute oe m ap) es ks cp => match oe, es with
    | .Name y _, [ek, ed] => decide (x = y) && glB sc y && okN y && decide (m = "get") && ks.isEmpty && (ap.endLine == cp.line) && !k.isPk && !d.isPk && chkE k sc ek && chkE d sc ed
    | _, _ => false
  | .ixf t a b, sc, .Call (.Attribute oe m ap) es ks cp => match es with
    | [eb] => (match t with
      | true => (match a, oe with
        | .glob x, .Name y _ => decide (x = y) && glB sc y && okN y
        | _, _ => false)
      | false => rcvB oe && !a.isPk && chkE a sc oe) && decide (m = "index") && ks.isEmpty && (ap.endLine == cp.line) && !b.isPk && chkE b sc eb
    | _ => false
  | .fld c f, sc, .Attribute oe f2 _ => rcvB oe && decide (f = f2) && !c.isPk && chkE c sc oe
  | .isx cls c, sc, .Call (.Name x _) es ks _ => match es with
    | [ea, .Name y _] => decide (x = "isinstance") && glB sc x && decide (cls = y) && glB sc y && okN y && ks.isEmpty && !c.isPk && chkE c sc ea
    | _ => false
  | .mk cls as, sc, .Call (.Name x _) es ks _ => decide (cls = x) && glB sc x && okN x && ks.isEmpty && !es.isEmpty && !as.hasPk && chkCs as sc es
  | .mth fr c m as, sc, .Call (.Attribute oe m2 ap) es ks cp => rcvB oe && decide (m = m2) && ks.isEmpty && (ap.endLine == cp.line) && decide (es.length < 20) && !c.isPk && !as.hasPk && chkE c sc oe && chkCs as sc es
  | .ni cls as, sc, .Call (.Name x _) es ks _ => decide (cls = x) && glB sc x && okN x && ks.isEmpty && !as.hasPk && chkCs as sc es
  | .spl a b, sc, .Call (.Attribute oe m ap) es ks cp => match es with
    | [eb] => (match oe with | .BinOp .. => true | .Constant .. => true | _ => false) && decide (m = "split") && ks.isEmpty && (ap.endLine == cp.line) && !a.isPk && !b.isPk && chkE a sc oe && chkE b sc eb
    | _ => false
  | .lco elt tg c cd, sc, .ListComp ee gens scope _ => match gens with
    | [⟨te, ie, ifs, as⟩] => decide (as = 0) && !elt.isPk && !c.isPk && blkC N sc scope (ownOf N tg) && chkTg N (relS scope sc) (fun x => scope.names.lookup x == some .cell) tg te && chkE c sc ie &&
        chkE elt (relS scope sc) ee && chkD cd (relS scope sc) ifs
    | _ => false
  | .lc elt tg it cd, sc, .ListComp ee gens scope _ => match gens with
    | [⟨te, ie, ifs, as⟩] => decide (as = 0) && !elt.isPk && blkC N sc scope (ownOf N tg) && chkTg N (relS scope sc) (fun x => scope.names.lookup x == some .cell) tg te && chkI it sc te ie &&
        chkE elt (relS scope sc) ee && chkD cd (relS scope sc) ifs
    | _ => false
  | _, _, _ => false
def chkO : Oc → Scope → Option Expr → Bool
  | .no, _, none => true
  | .so c, sc, some e => !c.isPk && chkE c sc e
  | _, _, _ => false
def chkD : Oc → Scope → List Expr → Bool
  | .no, _, [] => true
  | .so c, sc, [e] => chkE c sc e
  | _, _, _ => false
def chkCs : Cs → Scope → List Expr → Bool
  | .nil, _, [] => true
  | .cons c r, sc, e :: es => chkE c sc e && chkCs r sc es
  | _, _, _ => false
/-- what is walked, by a target te -/
def chkI : It → Scope → Expr → Expr → Bool
  | .seq c, sc, _, e => !c.isPk && chkE c sc e
  | .rng as, sc, _, .Call (.Name x _) es ks _ => decide (x = "range") && glB sc x && ks.isEmpty && (decide (es.length = 1) || decide (es.length = 2) || decide (es.length = 3)) && chkCs as sc es
  | .enm c, sc, .Tuple _ _ _, .Call (.Name x _) es ks _ => decide (x = "enumerate") && glB sc x && ks.isEmpty && (match es with | [e] => !c.isPk && chkE c sc e | _ => false)
  | .zip a b, sc, .Tuple _ _ _, .Call (.Name x _) es ks _ => decide (x = "zip") && glB sc x && ks.isEmpty && (match es with | [e, e2] => !a.isPk && !b.isPk && chkE a sc e && chkE b sc e2 | _ => false)
  | .rev c, sc, _, .Call (.Name x _) es ks _ => decide (x = "reversed") && glB sc x && ks.isEmpty && (match es with | [e] => !c.isPk && chkE c sc e | _ => false)
  | _, _, _, _ => false
end
end

/-- an exception that flies: its class, its fields -/
def XR (K : PySem.W.Frag) (Hb : Hp) (w : Gw) (x : D) (cls : Value) (dd : Option Addr) (H : Hp) : Prop := match x with
  | .xn c fs => ∃ C, w.oa.cm c = some C ∧ cls = .ref C ∧ match dd with
    | none => fs = []
    | some d => ∃ fv, H d = some (.xd fv) ∧ FReps K w.oa w.g fs fv ∧ w.g d = none ∧ ¬ d ∈ w.oa.l ∧ Hb d = none
  | _ => False
/-- what is wished of what is raised -/
def WW (K : PySem.W.Frag) (e : En) (wx : D → RS → HP → Prop) : WX := fun cls dd σ H => ∃ w hp S x, Rel K e w hp S σ H ∧ XR K e.H w.toGw x cls dd H ∧ wx x S hp
def spF (K : PySem.W.Frag) (cm : Str → Option Addr) (T : Tb) (n : Nat) (f : Str) (np : Nat) : Sp := fun vs H Q E => ∃ w hp ds, Hst K hp w H ∧ w.oa.cm = cm ∧ Reps K w.oa w.g ds vs ∧ ds.length = np ∧ match callF T n f ds hp with
  | .ok d hp' => ∀ v w' H', Grow w H w' H' → Hst K hp' w' H' →
      (if T.fresh f then ∃ p o, v = .ref p ∧ H' p = some o ∧ Cont K w'.oa w'.g d o ∧ H p = none ∧ w'.g p = none ∧ ¬ p ∈ w'.oa.l else Rep K w'.oa w'.g d v) → Q v H'
  | .exc x hp' => ∀ cls dd w' H', Grow w H w' H' → Hst K hp' w' H' → XR K H w' x cls dd H' → E cls dd H'
  | .stuck => False
def bltNames : List Str := ["len", "max", "min", "all", "sum", "list", "tuple", "int", "bool", "str", "isinstance", "range", "enumerate", "zip", "reversed", "divmod", "abs", "set"]
/-- what a class's name means -/
def ClsAt (mg : Str → Option Value) (c : Str) (v : Value) : Prop := mg c = some v ∨ (mg c = none ∧ bootBuiltins c = some v ∧ c ≠ "__name__")
/-- an exception class of the module, and another class -/
structure IsaAt (K : PySem.W.Frag) (mg : Str → Option Value) (C : Addr) (c2 : Str) (b : Bool) : Prop where
  there : ∃ v2 v, ClsAt mg c2 v2 ∧ RelV v v2 ∧ (∀ u, RelV v u → u = v2) ∧ PySem.W.exmOne K (.ref C) v2 = some b ∧ PySem.W.kitOne K (.ref C) v2 = some b
  ga : PySem.W.findIn K (.ref C) "__getattribute__" = some (some (.builtin "BaseException.__getattribute__"))
  gg : PySem.W.findIn K (.ref C) "__getattr__" = some none
  sb : PySem.W.subIn K (.ref C) (.type "BaseException") = some true
  hd : PySem.W.hasDictIn K C = true
  hc : (PySem.W.clsIn K C).isSome = true
  ca : PySem.W.findIn K (.ref C) "__class__" = some (some (.builtin "object.__class__"))
  sp : PySem.W.specialIn K (.builtin "object.__class__") "__get__" = some (some (.builtin "getset_descriptor.__get__"))
  tk : PySem.W.takesIn K (.builtin "object.__class__") = some true
  mr : PySem.W.mroIn K C (.type "object") = some true
/-- an exception class whose instances have these fields -/
structure XfAt (K : PySem.W.Frag) (C : Addr) (fs : List Str) : Prop where
  ga : PySem.W.findIn K (.ref C) "__getattribute__" = some (some (.builtin "BaseException.__getattribute__"))
  gg : PySem.W.findIn K (.ref C) "__getattr__" = some none
  sb : PySem.W.subIn K (.ref C) (.type "BaseException") = some true
  hd : PySem.W.hasDictIn K C = true
  no : ∀ f ∈ fs, PySem.W.findIn K (.ref C) f = some none
/-- a dict of the module -/
structure DctAt (K : PySem.W.Frag) (w : World) (mg : Str → Option Value) (x : Str) (kvs : List (Str × D)) : Prop where
  there : ∃ d es n, mg x = some (.ref d) ∧ KDict K w d es n ∧ ∀ z : Str, match kvs.lookup z with
    | some dd => ∃ u v, PySem.W.nsIn K d z = some (some u) ∧ RelV v u ∧ ∀ oa, Rep K oa (fun _ => none) dd v
    | none => PySem.W.nsIn K d z = some none
structure Gq (T : Tb) (n : Nat) (N : List Str) (sc : Scope) (e : En) (wx : D → RS → HP → Prop) (X : Cx) : Prop where
  hN : X.N = N
  nd : N.Nodup
  hsc : X.env.scope = sc
  units : X.A.units + 65 < cLine
  glob : ∀ x d, T.glob x = some d → ∃ u v, X.mg x = some u ∧ RelV v u ∧ ∀ oa, Rep X.K oa (fun _ => none) d v
  blt : ∀ x, x ∈ bltNames → X.mg x = none
  tpl : ∀ x ds, T.glob x = some (.tup ds) → ∃ p o, X.mg x = some (.ref p) ∧ X.K.lookup p = some o ∧ o.cls = .type "tuple" ∧ o.dict = none
  dct : ∀ x kvs, T.dct x = some kvs → DctAt X.K X.w X.mg x kvs
  isa : ∀ c1 c2 b, T.isa c1 c2 = some b → ∃ C, e.w.oa.cm c1 = some C ∧ IsaAt X.K X.mg C c2 b
  xfs : ∀ c fs, T.xfs c = some fs → ∃ C, e.w.oa.cm c = some C ∧ XfAt X.K C fs
  ins : ∀ c fs, T.ins c = some fs → ∃ C, e.w.oa.cm c = some C ∧ Cls X.K C ∧ ∀ f ∈ fs, NoAttr X.K C f
/-- what an exception class's __init__ promises: its fields stand in the new dict -/
def spI (C : Addr) (fs : List Str) : Sp := fun vs H Q _ => ∃ a ws, vs = .ref a :: ws ∧ ws.length = fs.length ∧ H a = some (exo a C none) ∧ ∀ dx, H dx = none → dx ≠ a → Q .non (upd (upd H dx (exd dx (fs.zip ws).reverse)) a (exo a C (some dx)))
/-- an exception class of the module with an __init__ -/
structure IniAt (P : Program) (w : World) (K : PySem.W.Frag) (mg : Str → Option Value) (base : Heap) (c : Str) (C : Addr) (fs : List Str) : Prop where
  at_ : mg c = some (.ref C)
  oe : OexC K C
  there : ∃ fI fd ps, PySem.W.findIn K (.ref C) "__init__" = some (some (.ref fI)) ∧ PySem.W.typeIn K (.ref fI) = some (.type "function") ∧ Binds K fd ps [] ∧ FnOk P w K mg base (L2.CX P w) 1 fI fd ps (spI C fs)
structure Gd (T : Tb) (n : Nat) (N : List Str) (sc : Scope) (e : En) (wx : D → RS → HP → Prop) (X : Cx) : Prop extends Gq T n N sc e wx X where
  calm : X.calm = true
  room : Room n X.A
  call : ∀ f fn, T.fn f = some fn → isMt f = false → ∃ a fd ps, X.mg (bs f) = some (.ref a) ∧ PySem.W.keepIn X.K (.ref a) = true ∧ Binds X.K fd ps [] ∧ ps.length = fn.ps ∧ FnOk X.prog X.w X.K X.mg X.base (L2.CX X.prog X.w) n a fd ps (spF X.K e.w.oa.cm T n f fn.ps)
  tk : Takes X (WW X.K e wx)
  mth : ∀ c m f, T.mth c m = some f → ∃ C a fd ps fn, e.w.oa.cm c = some C ∧ Cls X.K C ∧ Meth X.K C m a ∧ T.fn f = some fn ∧ Binds X.K fd ps [] ∧ ps.length = fn.ps ∧ FnOk X.prog X.w X.K X.mg X.base (L2.CX X.prog X.w) n a fd ps (spF X.K e.w.oa.cm T n f fn.ps)
  mkc : ∀ c gs m, T.ins c = some gs → n = m + 1 → ∃ f C a fd ps fn, T.ini c = some f ∧ e.w.oa.cm c = some C ∧ X.mg c = some (.ref C) ∧ Mk X.K C a ∧ T.fn f = some fn ∧ Binds X.K fd ps [] ∧ ps.length = fn.ps ∧ FnOk X.prog X.w X.K X.mg X.base (L2.CX X.prog X.w) m a fd ps (spF X.K e.w.oa.cm T m f fn.ps)
  ini : ∀ c f fs, T.xfs c = some (f :: fs) → ∃ C, e.w.oa.cm c = some C ∧ IniAt X.prog X.w X.K X.mg X.base c C (f :: fs)
section
variable {T : Tb} {n : Nat} {N : List Str} {sc : Scope} {X : Cx} {e : En} {wx : D → RS → HP → Prop}
theorem Gq.nm (g : Gq T n N sc e wx X) {i : Nat} {x : Str} (h : N[i]? = some x) : X.N[i]? = some x := by rw [g.hN]; exact h
theorem Gq.vis (g : Gq T n N sc e wx X) {x : Str} (h : visB sc x = true) : Vis X.env.scope x := by
  rw [g.hsc]
  unfold visB at h
  unfold Vis
  split at h
  · rename_i q; exact .inl q
  · rename_i q; exact .inr (.inl q)
  · rename_i q; exact .inr (.inr q)
  · cases h
theorem Gq.loc (g : Gq T n N sc e wx X) {x : Str} (h : locB sc x = true) : L2.Loc X.env.scope x := by
  rw [g.hsc]
  unfold locB at h
  unfold L2.Loc
  split at h
  · rename_i q; exact .inl q
  · rename_i q; exact .inr q
  · cases h
theorem Gq.gl (g : Gq T n N sc e wx X) {x : Str} (h : glB sc x = true) : Gl X x := by
  unfold glB at h
  unfold Gl Env.kindOf
  rw [g.hsc]
  exact of_decide_eq_true h
theorem okN1 {x : Str} (h : okN x = true) : (x == ("__debug__" : Str)) = false := by
  unfold okN at h
  rw [Bool.and_eq_true] at h
  simpa using h.1
theorem okN2 {x : Str} (h : okN x = true) : (x == ("__classdict__" : Str)) = false := by
  unfold okN at h
  rw [Bool.and_eq_true] at h
  simpa using h.2
/-- no star, no slice: the text's form -/
theorem noStar {F : Str → Bool} {c : C} {ex : Expr} (h : chkE N F c sc ex = true) (es : List Expr) (env : Env) : starEach (ex :: es) env = (false, eval ex env) :: starEach es env := by
  cases ex <;> first
    | rfl
    | (cases c <;> simp [chkE, newB] at h)
theorem noSlice {F : Str → Bool} {c : C} {ex : Expr} (h : chkE N F c sc ex = true) : PlainIx ex := by
  cases ex <;> first
    | exact fun _ _ => rfl
    | (cases c <;> simp [chkE, newB] at h)
theorem noSet {F : Str → Bool} {c : C} {ex : Expr} (h : chkE N F c sc ex = true) (env : Env) (x : Value) : foldedSetIterable ex env x = pure x := by
  cases ex <;> first
    | rfl
    | (cases c <;> simp [chkE, newB] at h)
theorem noSetM {F : Str → Bool} {c : C} {ex : Expr} (h : chkE N F c sc ex = true) (op : CmpOp) : behindInMarks op ex = false := by
  cases ex <;> first
    | rfl
    | (cases c <;> simp [chkE, newB] at h)
end
end RR

namespace RR
open PySem L2
section
variable {T : Tb} {n : Nat} {N : List Str} {sc : Scope} {X : Cx} {e : En} {wx : D → RS → HP → Prop}

theorem post_fin {K : PySem.W.Frag} {σ : St} {w : Wd} {H H0 H' : Hp} {S : RS} {hp : HP} {Q : VK} {d : D} {fr : Bool} {v : V} (r : Rel K e w hp S σ H)
    (h : ∀ w' H', Ext w H w' H' → Rel K e w' hp S σ H' → ∀ v, Res1 K H0 w' H' d fr v → Q v H') (hb : ∀ b, H b = none → H0 b = none) (res : ResV K w.oa w.g H d fr v H') : Q v H' := by
  obtain ⟨w', x, r', z⟩ := resv_fin r res
  exact h w' H' x r' v (z.base hb)
theorem TEc.mk {K : PySem.W.Frag} {Γ : Cfg} {c : C} {σ : St} {H : Hp} {Q : VK} {w : Wd} {hp : HP} {S : RS} (r : Rel K e w hp S σ H) (h : PostM K e wx S σ w H (fun d _ w' H' => ∀ v, Res1 K H w' H' d (frC Γ c d) v → Q v H') (evE Γ c S hp)) : TEc K e Γ wx c σ H Q := ⟨w, hp, S, r, h⟩
theorem se_const {ex : Expr} {c : C} {d : D} {v : V} (p : PE X ex (tC v)) (hc : ∀ S, evE (T.cfg n) c S = .pure d) (hf : frC (T.cfg n) c d = false) (hr : ∀ oa G, Rep X.K oa G d v) : PE X ex (TEc X.K e (T.cfg n) wx c) :=
  imE p fun σ H Q ⟨w, hp, S, r, h⟩ => by
    rw [hc] at h
    exact h w H (.refl _ _) r v (by rw [hf]; exact hr _ _)
theorem se_var (g : Gq T n N sc e wx X) {i : Nat} {x : Str} {pos : Pos} (h1 : N[i]? = some x) (h2 : visB sc x = true) (h3 : okN x = true) : PE X (.Name x pos) (TEc X.K e (T.cfg n) wx (.var i)) :=
  imE (pe_var (g.nm h1) (g.vis h2) (okN1 h3) (okN2 h3)) fun σ H Q ⟨w, hp, S, r, h⟩ => by
    rw [evE] at h
    unfold slotV at h
    cases q : S[i]? with
    | none => rw [q] at h; exact (show False from h).elim
    | some sl =>
      rw [q] at h
      cases sl with
      | val d =>
        obtain ⟨v, e1, e2⟩ := r.val i d q
        exact ⟨v, e1, h w H (.refl _ _) r v e2⟩
      | _ => exact (show False from h).elim
theorem so_pk (g : Gq T n N sc e wx X) {i : Nat} {x : Str} {pos : Pos} (h1 : N[i]? = some x) (h2 : visB sc x = true) (h3 : okN x = true) : PE X (.Name x pos) (TOc X.K e (T.cfg n) wx (.pk i)) :=
  imE (pe_var (g.nm h1) (g.vis h2) (okN1 h3) (okN2 h3)) fun σ H Q ⟨w, hp, S, r, h⟩ => by
    rw [evE] at h
    unfold slotP at h
    cases q : S[i]? with
    | none => rw [q] at h; exact (show False from h).elim
    | some sl =>
      rw [q] at h
      cases sl with
      | val d =>
        obtain ⟨v, e1, e2⟩ := r.val i d q
        exact ⟨v, e1, h w H (.refl _ _) r v (.rep e2)⟩
      | own d =>
        obtain ⟨p, o, e1, e2, e3, e4⟩ := r.own i d q
        exact ⟨.ref p, e1, h w H (.refl _ _) r _ (.own e2 e3 e4)⟩
      | un => exact (show False from h).elim
theorem se_glob (g : Gq T n N sc e wx X) {x : Str} {pos : Pos} (h2 : glB sc x = true) (h3 : okN x = true) : PE X (.Name x pos) (TEc X.K e (T.cfg n) wx (.glob x)) := by
  cases hx : T.glob x with
  | none =>
    refine ⟨fun a b c d f k m => ?_⟩
    obtain ⟨w, hp, S, r, h⟩ := m
    rw [evE] at h
    simp only [glM, Tb.cfg, hx] at h
    exact (show False from h).elim
  | some d =>
    obtain ⟨u, v, e1, e2, e3⟩ := g.glob x d hx
    refine imE (pe_glob (g.gl h2) e1 e2 (okN1 h3)) fun σ H Q ⟨w, hp, S, r, h⟩ => ?_
    rw [evE] at h
    simp only [glM, Tb.cfg, hx] at h
    exact h w H (.refl _ _) r v ((e3 w.oa).up fun b o q => by cases q)
/-- an operand -/
theorem so_of {c : C} {ex : Expr} (p : PE X ex (TEc X.K e (T.cfg n) wx c)) : PE X ex (TOc X.K e (T.cfg n) wx c) :=
  imE p fun σ H Q ⟨w, hp, S, r, h⟩ => TEc.of r (h.mono fun d hp' w' H' _ _ _ z _ v rp => z v (.rep rp))
section
variable {σ : St} {H : Hp} {Q : VK}
theorem se_bin {op : Operator} {a b : C} {ea eb : Expr} {pos : Pos} (ha : PE X ea (TOc X.K e (T.cfg n) wx a)) (hb : PE X eb (TOc X.K e (T.cfg n) wx b)) : PE X (.BinOp ea op eb pos) (TEc X.K e (T.cfg n) wx (.bin op a b)) :=
  imE (pe_op (op_bin op) ha hb) fun σ H Q ⟨w, hp, S, r, h⟩ => by
    rw [evE] at h
    refine TOc.of r (h.bind.mono fun d1 hp1 w1 H1 _ x1 _ h1 r1 v1 raw1 => ?_)
    refine TOc.of r1 (h1.bind.mono fun d2 hp2 w2 H2 _ x2 _ h2 r2 v2 raw2 => ?_)
    obtain ⟨d, e3, h3⟩ := PostM.lift h2
    exact ⟨w2.oa, w2.g, _, _, d, r2.hs.gH, (raw1.ext r1 x2).view r2, raw2.view r2, e3, fun v H' res => post_fin r2 h3 (x1.trans x2).gr.i res⟩
theorem cmp_read {K : PySem.W.Frag} {op : CmpOp} {a b : C} {σ : St} {H : Hp} {Q : VK} (hq : TEc K e (T.cfg n) wx (.cmp op a b) σ H Q) : tOp (rCm K op) (TOc K e (T.cfg n) wx a) (TOc K e (T.cfg n) wx b) σ H Q := by
  obtain ⟨w, hp, S, r, h⟩ := hq
  rw [evE] at h
  refine TOc.of r (h.bind.mono fun d1 hp1 w1 H1 _ x1 _ h1 r1 v1 raw1 => ?_)
  refine TOc.of r1 (h1.bind.mono fun d2 hp2 w2 H2 _ x2 _ h2 r2 v2 raw2 => ?_)
  obtain ⟨c, e3, h3⟩ := PostM.lift h2.bind
  have h3 := h3 w2 H2 (.refl _ _) r2
  exact ⟨w2.oa, w2.g, _, _, c, r2.hs.gH, (raw1.ext r1 x2).view r2, raw2.view r2, e3, h3 w2 H2 (.refl _ _) r2 _ (.bl c)⟩
theorem se_cmp (g : Gq T n N sc e wx X) {op : CmpOp} {a b : C} {ea eb : Expr} {pos : Pos} (hm : behindInMarks op eb = false) (ha : PE X ea (TOc X.K e (T.cfg n) wx a)) (hb : PE X eb (TOc X.K e (T.cfg n) wx b)) : PE X (.Compare ea [op] [eb] pos) (TEc X.K e (T.cfg n) wx (.cmp op a b)) :=
  imE (pe_cmpR (op_cm g.units op) ha hb hm) fun _ _ _ h => cmp_read h
theorem chn_read {K : PySem.W.Frag} {op op' : CmpOp} {a b c : C} {σ : St} {H : Hp} {Q : VK} (hq : TEc K e (T.cfg n) wx (.chn op op' a b c) σ H Q) : tChain (rCm K op) (rCm K op') (TOc K e (T.cfg n) wx a) (TOc K e (T.cfg n) wx b) (TOc K e (T.cfg n) wx c) σ H Q := by
  obtain ⟨w, hp, S, r, h⟩ := hq
  rw [evE] at h
  refine TOc.of r (h.bind.mono fun d1 hp1 w1 H1 _ x1 _ h1 r1 v1 raw1 => ?_)
  refine TOc.of r1 (h1.bind.mono fun d2 hp2 w2 H2 _ x2 _ h2 r2 v2 raw2 => ?_)
  obtain ⟨k, e3, h3⟩ := PostM.lift h2.bind
  have h3 := h3 w2 H2 (.refl _ _) r2
  refine ⟨w2.oa, w2.g, _, _, k, r2.hs.gH, (raw1.ext r1 x2).view r2, raw2.view r2, e3, k, rfl, ?_⟩
  cases k with
  | false => exact h3 w2 H2 (.refl _ _) r2 _ (.bl false)
  | true =>
    refine TOc.of r2 ((PostM.bind h3).mono fun d3 hp3 w3 H3 _ x3 _ h4 r3 v3 raw3 => ?_)
    obtain ⟨k2, e5, h5⟩ := PostM.lift h4.bind
    have h5 := h5 w3 H3 (.refl _ _) r3
    exact ⟨w3.oa, w3.g, _, _, k2, r3.hs.gH, (raw2.ext r2 x3).view r3, raw3.view r3, e5, h5 w3 H3 (.refl _ _) r3 _ (.bl k2)⟩
theorem se_chn (g : Gq T n N sc e wx X) {op op' : CmpOp} {a b c : C} {ea eb ec : Expr} {pos : Pos} (hm : lastMarks [op, op'] [eb, ec] = false) (ha : PE X ea (TOc X.K e (T.cfg n) wx a)) (hb : PE X eb (TOc X.K e (T.cfg n) wx b)) (hc : PE X ec (TOc X.K e (T.cfg n) wx c)) :
    PE X (.Compare ea [op, op'] [eb, ec] pos) (TEc X.K e (T.cfg n) wx (.chn op op' a b c)) :=
  imE (pe_chain (op_cm g.units op) (op_cm g.units op') ha hb hc hm) fun _ _ _ h => chn_read h
theorem se_neg {a : C} {ea : Expr} {pos : Pos} (ha : PE X ea (TEc X.K e (T.cfg n) wx a)) : PE X (.UnaryOp .USub ea pos) (TEc X.K e (T.cfg n) wx (.neg a)) :=
  imE (pe_un un_neg ha) fun σ H Q ⟨w, hp, S, r, h⟩ => by
    rw [evE] at h
    refine TEc.of r (h.bind.mono fun d1 hp1 w1 H1 _ x1 _ h1 r1 v1 rp => ?_)
    cases d1 with
    | int i => exact ⟨i, rp.intE, h1 w1 H1 (.refl _ _) r1 _ (.int _)⟩
    | _ => exact (show False from h1).elim
theorem se_not {a : C} {ea : Expr} {pos : Pos} (ha : PE X ea (TOc X.K e (T.cfg n) wx a)) : PE X (.UnaryOp .Not ea pos) (TEc X.K e (T.cfg n) wx (.not a)) :=
  imE (pe_notT ha) fun σ H Q ⟨w, hp, S, r, h⟩ => by
    rw [evE] at h
    refine TOc.of r (h.bind.mono fun d1 hp1 w1 H1 _ x1 _ h1 r1 v1 raw1 => ?_)
    obtain ⟨k, e3, h3⟩ := PostM.lift h1.bind
    have h3 := h3 w1 H1 (.refl _ _) r1
    exact ⟨k, tru_of r1.hs.gH (raw1.view r1) e3, h3 w1 H1 (.refl _ _) r1 _ (.bl _)⟩
theorem se_ite {c a b : C} {ec ea eb : Expr} {pos : Pos} (hc : PT X ec (TTc X.K e (T.cfg n) wx c)) (ha : PE X ea (TEc X.K e (T.cfg n) wx a)) (hb : PE X eb (TEc X.K e (T.cfg n) wx b)) : PE X (.IfExp ec ea eb pos) (TEc X.K e (T.cfg n) wx (.ite c a b)) :=
  imE (pe_ifExp hc ha hb) fun σ H Q ⟨w, hp, S, r, h⟩ => by
    rw [evE] at h
    refine ⟨w, hp, S, r, h.bind.mono fun k hp1 w1 H1 _ x1 r1 h1 => ?_⟩
    cases k with
    | true => exact TEc.of r1 (PostM.mono h1 fun d hp2 w2 H2 _ _ _ z _ v rp => z v rp)
    | false => exact TEc.of r1 (PostM.mono h1 fun d hp2 w2 H2 _ _ _ z _ v rp => z v rp)
theorem TLc.of {K : PySem.W.Frag} {Γ : Cfg} {cs : Cs} {w : Wd} {hp : HP} {S : RS} {σ : St} {H : Hp} {Q : List V → Hp → Prop} (r : Rel K e w hp S σ H) (h : PostM K e wx S σ w H (fun ds hp1 w1 H1 => Rel K e w1 hp1 S σ H1 → ∀ vs, Reps K w1.oa w1.g ds vs → Q vs H1) (evCs Γ cs S hp)) : TLc K e Γ wx cs σ H Q :=
  ⟨w, hp, S, r, h.mono fun ds hp1 w1 H1 _ _ r1 z vs rp => z r1 vs rp⟩
theorem TVc.of {K : PySem.W.Frag} {Γ : Cfg} {cs : Cs} {w : Wd} {hp : HP} {S : RS} {σ : St} {H : Hp} {Q : List V → Hp → Prop} (r : Rel K e w hp S σ H) (h : PostM K e wx S σ w H (fun ds hp1 w1 H1 => Rel K e w1 hp1 S σ H1 → ∀ vs, Raws K w1 H1 ds vs → Q vs H1) (evCs Γ cs S hp)) : TVc K e Γ wx cs σ H Q :=
  ⟨w, hp, S, r, h.mono fun ds hp1 w1 H1 _ _ r1 z vs rp => z r1 vs rp⟩
theorem se_tup {es : Cs} {xs : List Expr} {k : Nat} {pos : Pos} (h : PA X xs (TLc X.K e (T.cfg n) wx es)) : PE X (.Tuple xs k pos) (TEc X.K e (T.cfg n) wx (.tup es)) :=
  imE (pe_tup h) fun σ H Q ⟨w, hp, S, r, h⟩ => by
    rw [evE] at h
    refine TLc.of r (h.bind.mono fun ds hp1 w1 H1 _ x1 _ h1 r1 vs z1 => ?_)
    unfold tupM at h1
    split at h1
    · rename_i hz
      refine ⟨by rw [← z1.length, ← line_eq]; exact hz, fun p hp => ?_⟩
      exact h1 _ _ (.allocG r1.hs.gH hp) (r1.allocG hp) _ (.tup (.inl (.inl upd_same)) (z1.up (Sub.upd (r1.gnone hp))))
    · exact (show False from h1).elim
theorem se_lst {es : Cs} {xs : List Expr} {pos : Pos} (h : PA X xs (TLc X.K e (T.cfg n) wx es)) : PE X (.List xs pos) (TEc X.K e (T.cfg n) wx (.lst es)) :=
  imE (pe_lst h) fun σ H Q ⟨w, hp, S, r, h⟩ => by
    rw [evE] at h
    refine TLc.of r (h.bind.mono fun ds hp1 w1 H1 _ x1 _ h1 r1 vs z1 => ?_)
    unfold lstM at h1
    split at h1
    · rename_i hz
      refine ⟨by rw [← z1.length, ← line_eq]; exact hz, fun p hp => ?_⟩
      exact h1 _ _ (.alloc hp) (r1.alloc hp) _ ⟨p, _, rfl, upd_same, ⟨vs, rfl, z1⟩, r1.gnone hp, r1.ωnone hp, r1.onone hp, x1.gr.i _ hp⟩
    · exact (show False from h1).elim
theorem se_idx {a i : C} {ea ei : Expr} {pos : Pos} (hs : PlainIx ei) (ha : PE X ea (TOc X.K e (T.cfg n) wx a)) (hb : PE X ei (TEc X.K e (T.cfg n) wx i)) : PE X (.Subscript ea ei pos) (TEc X.K e (T.cfg n) wx (.idx a i)) :=
  imE (pe_ix ix_D ha hb hs) fun σ H Q ⟨w, hp, S, r, h⟩ => by
    rw [evE] at h
    refine TOc.of r (h.bind.mono fun d1 hp1 w1 H1 _ x1 _ h1 r1 v1 raw1 => ?_)
    refine TEc.of r1 (h1.bind.mono fun d2 hp2 w2 H2 _ x2 _ h2 r2 v2 rp2 => ?_)
    obtain ⟨d, e3, h3⟩ := PostM.lift h2
    exact ⟨w2.oa, w2.g, _, d2, d, r2.hs.gH, (raw1.ext r1 x2).view r2, .rep rp2, e3, fun v H' res => post_fin r2 h3 (x1.trans x2).gr.i res⟩

theorem se_dnew {pos : Pos} : PE X (.Dict [] [] pos) (TEc X.K e (T.cfg n) wx .dnew) :=
  imE pe_dnewK fun σ H Q ⟨w, hp, S, r, h⟩ => by
    rw [evE] at h
    intro p hp
    exact h _ _ (.alloc hp) (r.alloc hp) _ ⟨p, _, rfl, upd_same, ⟨[], rfl, .nil⟩, r.gnone hp, r.ωnone hp, r.onone hp, hp⟩
/-- a fresh thing is put into the heap -/
theorem Rel.heap {K : PySem.W.Frag} {w : Wd} {hp : HP} {S : RS} {σ : St} {H : Hp} (r : Rel K e w hp S σ H) {p : Addr} {o : HO} {ob : Ob} (h1 : H p = some o) (h2 : ObR K w.oa w.g H p ob) (h3 : w.g p = none) (h4 : w.ω p = none) (h5 : ¬ p ∈ w.oa.l) (h6 : e.H p = none) :
    Rel K e ⟨⟨w.g, ⟨w.oa.l ++ [p], w.oa.cm⟩⟩, w.ω⟩ (hp ++ [ob]) S σ H := by
  have up : Oa w.oa ⟨w.oa.l ++ [p], w.oa.cm⟩ := ⟨fun n a z => by
    rw [List.getElem?_append_left (List.getElem?_eq_some_iff.mp z).1]; exact z, rfl⟩
  have mem : ∀ a, a ∈ w.oa.l ++ [p] ↔ a ∈ w.oa.l ∨ a = p := fun a => by simp
  refine ⟨⟨r.hs.gH, by simp [r.hs.oL], fun n o' a q1 q2 => ?_, fun n o' a q1 q2 q3 => ?_, fun n m a q1 q2 => ?_, fun a q => ?_⟩, ⟨r.gr.g, r.gr.o.trans up, r.gr.h, r.gr.i, r.gr.gn, fun a q => ?_⟩, r.gω, fun a q => ?_, r.len, fun i d q => ?_, fun i d q => ?_, r.owned, r.eω⟩
  · have ln := r.hs.oL
    by_cases hn : n < hp.length
    · rw [List.getElem?_append_left hn] at q1
      have q2 : (w.oa.l ++ [p])[n]? = some a := q2
      rw [List.getElem?_append_left (by omega)] at q2
      exact (r.hs.oR n o' a q1 q2).ext (.refl _) up rfl fun _ z => z
    · have e1 : n = hp.length := by have := (List.getElem?_eq_some_iff.mp q1).1; simp at this; omega
      subst e1
      have q2 : (w.oa.l ++ [p])[hp.length]? = some a := q2
      rw [List.getElem?_append_right (by omega)] at q1 q2
      simp [ln] at q1 q2
      subst q1; subst q2
      exact h2.ext (.refl _) up rfl fun _ z => z
  · have ln := r.hs.oL
    have q3 : (w.oa.l ++ [p])[n]? = some a := q3
    by_cases hn : n < hp.length
    · rw [List.getElem?_append_left hn] at q1
      rw [List.getElem?_append_left (by omega)] at q3
      exact r.hs.oG n o' a q1 q2 q3
    · have e1 : n = hp.length := by have := (List.getElem?_eq_some_iff.mp q1).1; simp at this; omega
      subst e1
      rw [List.getElem?_append_right (by omega)] at q3
      simp [ln] at q3
      subst q3
      exact h3
  · have q1 : (w.oa.l ++ [p])[n]? = some a := q1
    have q2 : (w.oa.l ++ [p])[m]? = some a := q2
    have l1 := (List.getElem?_eq_some_iff.mp q1).1
    have l2 := (List.getElem?_eq_some_iff.mp q2).1
    simp at l1 l2
    by_cases hn : n < w.oa.l.length <;> by_cases hm : m < w.oa.l.length
    · rw [List.getElem?_append_left hn] at q1
      rw [List.getElem?_append_left hm] at q2
      exact r.hs.oN n m a q1 q2
    · rw [List.getElem?_append_left hn] at q1
      have em : m = w.oa.l.length := by omega
      subst em
      simp at q2
      subst q2
      exact absurd (List.mem_of_getElem? q1) h5
    · rw [List.getElem?_append_left hm] at q2
      have em : n = w.oa.l.length := by omega
      subst em
      simp at q1
      subst q1
      exact absurd (List.mem_of_getElem? q2) h5
    · omega
  · rcases (mem a).mp q with z | z
    · exact r.hs.oI a z
    · rw [z, h1]; simp
  · rcases (mem a).mp q with z | z
    · exact r.gr.on a z
    · exact .inr (by rw [z]; exact h6)
  · rcases (mem a).mp q with z | z
    · exact r.oω a z
    · show w.ω a = none
      rw [z]; exact h4
  · obtain ⟨v, e1, e2⟩ := r.val i d q
    exact ⟨v, e1, e2.mono (.refl _) up⟩
  · obtain ⟨p', o', e1, e2, e3, e4⟩ := r.own i d q
    exact ⟨p', o', e1, e2, e3.mono (.refl _) up, e4⟩
theorem oa_up {oa : Os} {p : Addr} : Oa oa ⟨oa.l ++ [p], oa.cm⟩ := ⟨fun n a z => by
  rw [List.getElem?_append_left (List.getElem?_eq_some_iff.mp z).1]; exact z, rfl⟩
theorem se_new {c : C} {ex : Expr} (h : PE X ex (TEc X.K e (T.cfg n) wx c)) : PE X ex (TEc X.K e (T.cfg n) wx (.new c)) :=
  imE h fun σ H Q ⟨w, hp, S, r, h⟩ => by
    rw [evE] at h
    refine ⟨w, hp, S, r, ?_⟩
    cases q : evE (T.cfg n) c S hp with
    | stuck => rw [bind_st q] at h; exact h
    | exc x hp1 => rw [bind_exc q] at h; exact h
    | ok d hp1 =>
      rw [bind_ok q] at h
      intro w1 H1 x1 r1 v res
      unfold newM at h
      cases hf : frC (T.cfg n) c d with
      | false => rw [hf] at h; cases d <;> exact (show False from h).elim
      | true =>
        rw [hf] at h res
        obtain ⟨p, o, rfl, e1, e2, e3, e4, e5, e6⟩ := res
        have eH : e.H p = none := r.gr.i _ e6
        have fin : ∀ ob : Ob, ObR X.K w1.oa w1.g H1 p ob → PostM X.K e wx S σ w H (fun d _ w' H' => ∀ v, Res1 X.K H w' H' d false v → Q v H') (.ok (.obj hp1.length) (hp1 ++ [ob])) → Q (.ref p) H1 := fun ob ho z => by
          have r2 := r1.heap e1 ho e3 e4 e5 eH
          refine z ⟨⟨w1.g, ⟨w1.oa.l ++ [p], w1.oa.cm⟩⟩, w1.ω⟩ H1 ⟨⟨x1.gr.g, x1.gr.o.trans oa_up, x1.gr.h, x1.gr.i, x1.gr.gn, fun a z => ?_⟩, x1.ω⟩ r2 (.ref p) (.obj ?_)
          · have z : a ∈ w1.oa.l ++ [p] := z
            rcases List.mem_append.mp z with z | z
            · exact x1.gr.on a z
            · rw [List.mem_singleton.mp z]; exact .inr e6
          · show (w1.oa.l ++ [p])[hp1.length]? = some p
            rw [r1.hs.oL]; simp
        cases d with
        | lst ds =>
          obtain ⟨vs, rfl, rv⟩ := e2
          exact fin (.lst ds) ⟨vs, e1, rv⟩ h
        | dic ds =>
          obtain ⟨vs, rfl, rv⟩ := e2
          exact fin (.dic ds) ⟨vs, e1, rv⟩ h
        | _ => exact (show False from h).elim

/-- a slice's part -/
def TPc (K : PySem.W.Frag) (e : En) (Γ : Cfg) (wx : D → RS → HP → Prop) (c : Oc) : TO := fun σ H Q => ∃ w hp S, Rel K e w hp S σ H ∧ PostM K e wx S σ w H (fun o hp1 w1 H1 => Rel K e w1 hp1 S σ H1 → Q o H1) (((evOc Γ c S).bind (oiM c)) hp)
theorem sp_no : PO X none (TPc X.K e (T.cfg n) wx .no) := ⟨fun a b c d f g ⟨w, hp, S, r, h⟩ => (po_none (X := X)).run a b c d f g (by
    simp only [evOc] at h
    exact h w d (.refl _ _) r r)⟩
theorem sp_so {c : C} {ex : Expr} (hc : PE X ex (TEc X.K e (T.cfg n) wx c)) : PO X (some ex) (TPc X.K e (T.cfg n) wx (.so c)) := ⟨fun a b s d f g ⟨w, hp, S, r, h⟩ => (po_some hc).run a b s d f g (by
    simp only [evOc] at h
    refine TEc.of r (h.bind.mono fun d1 hp1 w1 H1 _ x1 _ h1 r1 v1 rp => ?_)
    cases d1 with
    | int i => exact ⟨i, rp.intE, h1 w1 H1 (.refl _ _) r1 r1⟩
    | _ => exact (show False from h1).elim)⟩
theorem se_slc {a : C} {lo hi : Oc} {ea : Expr} {el eh : Option Expr} {p2 pos : Pos} (ha : PE X ea (TOc X.K e (T.cfg n) wx a)) (hl : PO X el (TPc X.K e (T.cfg n) wx lo)) (hh : PO X eh (TPc X.K e (T.cfg n) wx hi)) :
    PE X (.Subscript ea (.Slice el eh none p2) pos) (TEc X.K e (T.cfg n) wx (.slc a lo hi)) :=
  imE (pe_slice sl_D ha hl hh) fun σ H Q ⟨w, hp, S, r, h⟩ => by
    rw [evE] at h
    refine TOc.of r (h.bind.mono fun d1 hp1 w1 H1 _ x1 _ h1 r1 v1 raw1 => ?_)
    rw [← Mx.bind_assoc] at h1
    refine ⟨w1, hp1, S, r1, h1.bind.mono fun l hp2 w2 H2 _ x2 _ h2 r2 => ?_⟩
    rw [← Mx.bind_assoc] at h2
    refine ⟨w2, hp2, S, r2, (PostM.bind h2).mono fun u hp3 w3 H3 _ x3 _ h3 r3 => ?_⟩
    obtain ⟨d, e4, h4⟩ := PostM.lift h3
    exact ⟨w3.oa, w3.g, _, d, r3.hs.gH, (raw1.ext r1 (x2.trans x3)).view r3, e4, fun v H' res => post_fin r3 h4 (x1.trans (x2.trans x3)).gr.i res⟩

theorem sl_nil : PA X [] (TLc X.K e (T.cfg n) wx .nil) :=
  imA pa_nil fun σ H Q ⟨w, hp, S, r, h⟩ => by
    simp only [evCs] at h
    exact h w H (.refl _ _) r [] .nil
theorem sl_cons {c : C} {cs : Cs} {ex : Expr} {es : List Expr} (hs : starEach (ex :: es) X.env = (false, eval ex X.env) :: starEach es X.env) (hc : PE X ex (TEc X.K e (T.cfg n) wx c)) (hr : PA X es (TLc X.K e (T.cfg n) wx cs)) : PA X (ex :: es) (TLc X.K e (T.cfg n) wx (.cons c cs)) :=
  imA (pa_cons hc hr hs) fun σ H Q ⟨w, hp, S, r, h⟩ => by
    simp only [evCs] at h
    refine TEc.of r (h.bind.mono fun d hp1 w1 H1 _ x1 _ h1 r1 v rp => ?_)
    refine TLc.of r1 (h1.bind.mono fun ds hp2 w2 H2 _ x2 _ h2 r2 vs rps => ?_)
    exact h2 w2 H2 (.refl _ _) r2 _ (.cons (x2.rep rp) rps)
theorem sv_nil : PA X [] (TVc X.K e (T.cfg n) wx .nil) :=
  imA pa_nil fun σ H Q ⟨w, hp, S, r, h⟩ => by
    simp only [evCs] at h
    exact h w H (.refl _ _) r [] .nil
theorem sv_cons {c : C} {cs : Cs} {ex : Expr} {es : List Expr} (hs : starEach (ex :: es) X.env = (false, eval ex X.env) :: starEach es X.env) (hc : PE X ex (TOc X.K e (T.cfg n) wx c)) (hr : PA X es (TVc X.K e (T.cfg n) wx cs)) : PA X (ex :: es) (TVc X.K e (T.cfg n) wx (.cons c cs)) :=
  imA (pa_cons hc hr hs) fun σ H Q ⟨w, hp, S, r, h⟩ => by
    simp only [evCs] at h
    refine TOc.of r (h.bind.mono fun d hp1 w1 H1 _ x1 _ h1 r1 v rp => ?_)
    refine TVc.of r1 (h1.bind.mono fun ds hp2 w2 H2 _ x2 _ h2 r2 vs rps => ?_)
    exact h2 w2 H2 (.refl _ _) r2 _ (.cons (rp.ext r1 x2) rps)
end
end
end RR

namespace RR
open PySem L2

section
variable {K : PySem.W.Frag} {e : En} {w : Wd} {hp : HP} {S : RS} {σ : St} {H : Hp}
/-- behind a call: the heap has grown, the names stand -/
theorem Rel.call (r : Rel K e w hp S σ H) {hp' : HP} {w' : Gw} {H' : Hp} (g : Grow w.toGw H w' H') (hs : Hst K hp' w' H') : Rel K e ⟨w', w.ω⟩ hp' S σ H' where
  hs := hs
  gr := r.gr.trans g
  gω := fun b o q => by
    rcases g.gn b o q with z | z | z
    · exact r.gω _ _ z
    · exact r.ωnone z
    · exact r.oω _ z
  oω := fun a ha => by
    rcases g.on a ha with z | z
    · exact r.oω _ z
    · exact r.ωnone z
  len := r.len
  val := fun i d q => by
    obtain ⟨v, e1, e2⟩ := r.val i d q
    exact ⟨v, e1, e2.mono g.g g.o⟩
  own := fun i d q => by
    obtain ⟨p, o, e1, e2, e3, e4⟩ := r.own i d q
    exact ⟨p, o, e1, g.h _ _ e2 (r.ownO e4), e3.mono g.g g.o, e4⟩
  owned := r.owned
  eω := r.eω
mutual
theorem Rep.only {oa : Os} {G G1 : Hp} (h : ∀ p vs, Rd G p (.tup vs) → G1 p = G p) : ∀ {d : D} {v : V}, Rep K oa G d v → d.noL = true → Rep K oa G1 d v
  | _, _, .non, _ => .non
  | _, _, .bl b, _ => .bl b
  | _, _, .int i, _ => .int i
  | _, _, .str x, _ => .str x
  | _, _, .lst _ _, f => absurd (show false = true from f) Bool.false_ne_true
  | _, _, .tup (p := p) q r, f => by
    refine .tup ?_ (Reps.only h r (by simpa [D.noL] using f))
    rcases q with q | q
    · refine .inl ?_
      have e1 := h _ _ q
      rcases q with q | ⟨o, q⟩
      · exact .inl (by rw [e1]; exact q)
      · exact .inr ⟨o, by rw [e1]; exact q⟩
    · exact .inr q
  | _, _, .dic _ _, f => absurd (show false = true from f) Bool.false_ne_true
  | _, _, .obj _, f => absurd (show false = true from f) Bool.false_ne_true
theorem Reps.only {oa : Os} {G G1 : Hp} (h : ∀ p vs, Rd G p (.tup vs) → G1 p = G p) : ∀ {d : List D} {v : List V}, Reps K oa G d v → noLs d = true → Reps K oa G1 d v
  | _, _, .nil, _ => .nil
  | _, _, .cons q r, f => by
    rw [noLs, Bool.and_eq_true] at f
    exact .cons (Rep.only h q f.1) (Reps.only h r f.2)
end
theorem FReps.only {oa : Os} {G G1 : Hp} (h : ∀ p vs, Rd G p (.tup vs) → G1 p = G p) : ∀ {d : List (Str × D)} {v : List (Str × V)}, FReps K oa G d v → noLf d = true → FReps K oa G1 d v
  | _, _, .nil, _ => .nil
  | _, _, .cons q r, f => by
    rw [noLf, Bool.and_eq_true] at f
    exact .cons (Rep.only h q f.1) (FReps.only h r f.2)
mutual
/-- where nothing of the heap is within, it does not matter where it stands -/
theorem Rep.noO {oa ob : Os} {G : Hp} : ∀ {d : D} {v : V}, Rep K oa G d v → d.noO = true → Rep K ob G d v
  | _, _, .non, _ => .non
  | _, _, .bl b, _ => .bl b
  | _, _, .int i, _ => .int i
  | _, _, .str x, _ => .str x
  | _, _, .lst q r, f => .lst q (Reps.noO r (by simpa [D.noO] using f))
  | _, _, .tup q r, f => .tup q (Reps.noO r (by simpa [D.noO] using f))
  | _, _, .dic q r, f => .dic q (KReps.noO r (by simpa [D.noO] using f))
  | _, _, .obj _, f => absurd (show false = true from f) Bool.false_ne_true
theorem Reps.noO {oa ob : Os} {G : Hp} : ∀ {d : List D} {v : List V}, Reps K oa G d v → noOs d = true → Reps K ob G d v
  | _, _, .nil, _ => .nil
  | _, _, .cons q r, f => by
    rw [noOs, Bool.and_eq_true] at f
    exact .cons (Rep.noO q f.1) (Reps.noO r f.2)
theorem KReps.noO {oa ob : Os} {G : Hp} : ∀ {d : List (Key × D)} {v : List (Key × V)}, KReps K oa G d v → noOk d = true → KReps K ob G d v
  | _, _, .nil, _ => .nil
  | _, _, .cons q r, f => by
    rw [noOk, Bool.and_eq_true] at f
    exact .cons (Rep.noO q f.1) (KReps.noO r f.2)
end
theorem FReps.noO {oa ob : Os} {G : Hp} : ∀ {d : List (Str × D)} {v : List (Str × V)}, FReps K oa G d v → noOf d = true → FReps K ob G d v
  | _, _, .nil, _ => .nil
  | _, _, .cons q r, f => by
    rw [noOf, Bool.and_eq_true] at f
    exact .cons (Rep.noO q f.1) (FReps.noO r f.2)
theorem Cont.noO {oa ob : Os} {G : Hp} {d : D} {o : HO} (c : Cont K oa G d o) (f : d.noO = true) : Cont K ob G d o := by
  cases d with
  | lst ds => obtain ⟨vs, rfl, r⟩ := c; exact ⟨vs, rfl, r.noO (by simpa [D.noO] using f)⟩
  | dic ds => obtain ⟨vs, rfl, r⟩ := c; exact ⟨vs, rfl, r.noO (by simpa [D.noO] using f)⟩
  | _ => exact (show False from c).elim
theorem cont_noTup {oa : Os} {G : Hp} {d : D} {o : HO} (c : Cont K oa G d o) : (∀ vs, o ≠ .tup vs) ∧ ∀ u vs, o ≠ .frz u (.tup vs) := by
  cases d with
  | lst ds => obtain ⟨vs, rfl, _⟩ := c; exact ⟨fun _ z => (by cases z), fun _ _ z => (by cases z)⟩
  | dic ds => obtain ⟨vs, rfl, _⟩ := c; exact ⟨fun _ z => (by cases z), fun _ _ z => (by cases z)⟩
  | _ => exact (show False from c).elim
theorem callF_ps {T : Tb} {n : Nat} {f : Str} {ds : List D} (h : callF T n f ds hp ≠ .stuck) : ∃ fn, T.fn f = some fn ∧ ds.length = fn.ps := by
  cases n with
  | zero => exact absurd rfl h
  | succ n =>
    rw [callF_eq] at h
    cases q : T.fn f with
    | none => rw [q] at h; exact absurd rfl h
    | some fn =>
      refine ⟨fn, rfl, ?_⟩
      rw [q] at h
      simp only [runF] at h
      by_cases z : ds.length = fn.ps
      · exact z
      · rw [if_neg z] at h; exact absurd rfl h
end
section
variable {T : Tb} {n : Nat} {N : List Str} {sc : Scope} {X : Cx} {e : En} {wx : D → RS → HP → Prop}
theorem post_ne {K : PySem.W.Frag} {σ : St} {w : Wd} {H : Hp} {S : RS} {α : Type} {P : α → HP → Wd → Hp → Prop} {r : Re D α} (h : PostM K e wx S σ w H P r) : r ≠ .stuck := fun z => by rw [z] at h; exact h
/-- what is behind a call -/
theorem call_post {σ : St} {w : Wd} {S : RS} {H H0 : Hp} {hp : HP} {Q : VK} {f : Str} {ds : List D} {vs : List V} {fn : Fn} (r : Rel X.K e w hp S σ H) (rv : Reps X.K w.oa w.g ds vs) (hf : T.fn f = some fn) (hb : ∀ b, H b = none → H0 b = none)
    (h : PostM X.K e wx S σ w H (fun d _ w' H' => ∀ v, Res1 X.K H0 w' H' d (T.fresh f) v → Q v H') (callF T n f ds hp)) : spF X.K e.w.oa.cm T n f fn.ps vs H Q (WE (WW X.K e wx) σ) := by
  obtain ⟨fn', h1, h2⟩ := callF_ps (post_ne h)
  rw [hf] at h1
  cases h1
  refine ⟨w.toGw, hp, ds, r.hs, r.gr.o.cm, rv, h2, ?_⟩
  cases q : callF T n f ds hp with
  | stuck => rw [q] at h; exact h
  | exc x hp' =>
    rw [q] at h
    intro cls dd w' H' g hs xr
    refine ⟨⟨w', w.ω⟩, hp', S, x, r.call g hs, ?_, h⟩
    cases x with
    | xn c fs =>
      obtain ⟨C, e1, e2, e3⟩ := xr
      refine ⟨C, e1, e2, ?_⟩
      cases dd with
      | none => exact e3
      | some d =>
        obtain ⟨fv, a1, a2, a3, a4, a5⟩ := e3
        exact ⟨fv, a1, a2, a3, a4, r.gr.i _ a5⟩
    | _ => exact (show False from xr).elim
  | ok d hp' =>
    rw [q] at h
    intro v w' H' g hs res
    refine h ⟨w', w.ω⟩ H' ⟨g, rfl⟩ (r.call g hs) v ?_
    cases z : T.fresh f with
    | false => rw [z] at res; exact res
    | true =>
      rw [z] at res
      obtain ⟨p, o, rfl, e1, e2, e3, e4, e5⟩ := res
      exact ⟨p, o, rfl, e1, e2, e4, r.ωnone e3, e5, hb p e3⟩
theorem pe_call0S {k : Nat} {f : Addr} {fd : FuncData} {ps : List Str} {sp : Sp} {E : St → XK} {x : Str} {p pos : Pos} (F : FnOk X.prog X.w X.K X.mg X.base (L2.CX X.prog X.w) k f fd ps sp) (hr : Room k X.A) (hg : Gl X x) (hm : X.mg x = some (.ref f)) (hk : PySem.W.keepIn X.K (.ref f) = true) (hb : Binds X.K fd ps []) (hx : ∀ σ, PassesAt (L2.CX X.prog X.w) X σ (E σ))
    (hdb : (x == ("__debug__" : Str)) = false) : PE X (.Call (.Name x p) [] [] pos) (tCallS sp E tNil) := by
  refine ⟨fun pins s σ H Q I h => ?_⟩
  refine wpAny_Call_Name_kw (ld_glob I hg hm ?_ hdb)
  exact PySem.W.callWith_K0 I.kIn hk (run_fnS (us := []) F hr hb (hx σ) I .nil h)
theorem se_call (g : Gd T n N sc e wx X) {f : Str} {as : Cs} {es : List Expr} {p pos : Pos} (hfs : (T.fn f).isSome = true) (hmt : isMt f = false) (hg : glB sc (bs f) = true) (ho : okN (bs f) = true) (hs : ∀ ex ∈ es.head?, ∀ xs env, starEach (ex :: xs) env = (false, eval ex env) :: starEach xs env)
    (hpl : (backTo pos (starEach es.tail X.env)).any (·.1) = false) (hn : es = [] → as = .nil) (ha : PA X es (TLc X.K e (T.cfg n) wx as)) : PE X (.Call (.Name (bs f) p) es [] pos) (TEc X.K e (T.cfg n) wx (.call f as)) := by
  obtain ⟨fn, hf⟩ := Option.isSome_iff_exists.mp hfs
  obtain ⟨fa, fd, ps, h1, h2, h3, h4, h5⟩ := g.call f fn hf hmt
  have key : ∀ σ H Q, TEc X.K e (T.cfg n) wx (.call f as) σ H Q → tCallS (spF X.K e.w.oa.cm T n f fn.ps) (WE (WW X.K e wx)) (TLc X.K e (T.cfg n) wx as) σ H Q := fun σ H Q ⟨w, hp, S, r, h⟩ => by
    rw [evE] at h
    refine TLc.of r (h.bind.mono fun ds hp1 w1 H1 _ x1 _ h1 r1 vs rps => ?_)
    exact call_post r1 rps hf x1.gr.i h1
  cases es with
  | nil =>
    refine imE (pe_call0S h5 g.room (g.gl hg) h1 h2 h3 (fun σ => passAt g.tk σ) (okN1 ho)) fun σ H Q h => ?_
    obtain ⟨w, hp, S, r, h⟩ := h
    rw [hn rfl, evE] at h
    simp only [evCs] at h
    exact call_post r .nil hf (fun _ z => z) h
  | cons ex xs => exact imE (pe_callS h5 g.room (g.gl hg) h1 h2 h3 (fun σ => passAt g.tk σ) ha (okN1 ho) (hs ex (by simp) xs X.env) hpl) key
/-- the settled world with what is owned -/
def gAll (w : Wd) (H : Hp) : Hp := fun b => match w.g b with
  | some o => some o
  | none => if (w.ω b).isSome then H b else none
section
variable {K : PySem.W.Frag} {w : Wd} {hp : HP} {S : RS} {σ : St} {H : Hp}
theorem gAll_sub (r : Rel K e w hp S σ H) : Sub (gAll w H) H := fun b o q => by
  unfold gAll at q
  split at q
  · rename_i u hu
    cases q
    exact r.hs.gH _ _ hu
  · split at q
    · exact q
    · cases q
theorem G_gAll : Sub w.g (gAll w H) := fun b o q => by unfold gAll; rw [q]
theorem gAll_own {b : Addr} {i : Nat} (r : Rel K e w hp S σ H) (h : w.ω b = some i) : gAll w H b = H b := by
  unfold gAll
  rw [r.ownG h]
  simp [h]
theorem gAll_not {b : Addr} {o : HO} (hw : ¬ (w.ω b).isSome = true) (y : gAll w H b = some o) : w.g b = some o := by
  unfold gAll at y
  split at y
  · rename_i u hu; cases y; exact hu
  · rw [if_neg hw] at y; cases y
theorem Raw.all (r : Rel K e w hp S σ H) {d : D} {v : V} (h : Raw K w H d v) : Rep K w.oa (gAll w H) d v := by
  cases h with
  | rep h => exact h.up G_gAll
  | own a b c =>
    have e5 := (gAll_own r c).trans a
    cases d with
    | lst ds => obtain ⟨vs, rfl, rr⟩ := b; exact .lst (.inl (.inl e5)) (rr.up G_gAll)
    | dic ds => obtain ⟨vs, rfl, rr⟩ := b; exact .dic e5 (rr.up G_gAll)
    | _ => exact (show False from b).elim
theorem Raws.all (r : Rel K e w hp S σ H) : ∀ {ds : List D} {vs : List V}, Raws K w H ds vs → Reps K w.oa (gAll w H) ds vs
  | _, _, .nil => .nil
  | _, _, .cons h t => .cons (h.all r) (Raws.all r t)
end
/-- what is behind a call by itself: what Pr tells stands still meanwhile -/
theorem iso_postG {σ : St} {w : Wd} {S : RS} {H H0 : Hp} {hp : HP} {Q : VK} {f : Str} {ds : List D} {vs : List V} {fn : Fn} {pk : Bool} (Pr : Addr → Prop) (G0 : Hp) (r : Rel X.K e w hp S σ H) (s0 : Sub w.g G0) (s1 : Sub G0 H) (rp0 : Reps X.K w.oa G0 ds vs) (hno : noOs ds = true)
    (g0 : ∀ b o, G0 b = some o → w.g b = some o ∨ (pk = true ∧ Pr b)) (g1 : ∀ b o, pk = true → Pr b → H b = some o → G0 b = some o) (pg : ∀ b, Pr b → w.g b = none) (pH : ∀ b, Pr b → ∃ o, H b = some o ∧ (∀ vs, o ≠ .tup vs) ∧ ∀ u vs, o ≠ .frz u (.tup vs)) (hf : T.fn f = some fn) (hb : ∀ b, H b = none → H0 b = none)
    (h : PostM X.K e wx S σ w H (fun d _ w' H' => ∀ v, Res1 X.K H0 w' H' d (T.fresh f) v → Q v H') (isoM pk (T.fresh f) (callF T n f ds) hp)) : spF X.K e.w.oa.cm T n f fn.ps vs H Q (WE (WW X.K e wx) σ) := by
  classical
  have hne : callF T n f ds [] ≠ .stuck := fun z => by
    unfold isoM at h; rw [z] at h; exact h
  obtain ⟨fn', h1, h2⟩ := callF_ps hne
  rw [hf] at h1
  cases h1
  -- the callee's world
  have hst : Hst X.K [] ⟨G0, ⟨[], e.w.oa.cm⟩⟩ H := ⟨s1, rfl, fun m o a q => (by simp at q), fun m o a q => (by simp at q), fun m k a q => (by simp at q), fun a q => (by simp at q)⟩
  refine ⟨⟨G0, ⟨[], e.w.oa.cm⟩⟩, [], ds, hst, rfl, rp0.noO hno, h2, ?_⟩
  -- what the caller has behind it
  have back : ∀ (w' : Gw) (H' : Hp), Grow ⟨G0, ⟨[], e.w.oa.cm⟩⟩ H w' H' → Sub w'.g H' → ∃ G1 : Hp, Grow w.toGw H ⟨G1, w.oa⟩ H' ∧ Hst X.K hp ⟨G1, w.oa⟩ H' ∧ (∀ b, ¬ (pk = true ∧ Pr b) → G1 b = w'.g b) ∧ ∀ b, pk = true → Pr b → G1 b = none := by
    intro w' H' g gs
    have hh : Sub H H' := fun b o q => g.h b o q (by simp)
    obtain ⟨G1, hG1⟩ : ∃ G1 : Hp, G1 = fun b => if pk = true ∧ Pr b then none else w'.g b := ⟨_, rfl⟩
    have e1 : ∀ b, ¬ (pk = true ∧ Pr b) → G1 b = w'.g b := fun b q => by
      rw [hG1]; simp only
      rw [if_neg q]
    have e2 : ∀ b, pk = true → Pr b → G1 b = none := fun b q1 q2 => by
      rw [hG1]; simp only
      rw [if_pos ⟨q1, q2⟩]
    have up : Sub w.g G1 := fun b o q => by
      rw [e1 b fun z => by rw [pg b z.2] at q; cases q]
      exact g.g _ _ (s0 _ _ q)
    have new : ∀ b o, G1 b = some o → w.g b = some o ∨ H b = none := fun b o q => by
      by_cases z : pk = true ∧ Pr b
      · rw [e2 b z.1 z.2] at q; cases q
      · rw [e1 b z] at q
        rcases g.gn b o q with y | y | y
        · rcases g0 b o y with x | x
          · exact .inl x
          · exact absurd x z
        · exact .inr y
        · simp at y
    have gr : Grow w.toGw H ⟨G1, w.oa⟩ H' := ⟨up, .refl _, fun b o q _ => hh b o q, g.i, fun b o q => (new b o q).elim .inl fun z => .inr (.inl z), fun a q => .inl q⟩
    refine ⟨G1, gr, ⟨fun b o q => ?_, r.hs.oL, fun m o a q1 q2 => (r.hs.oR m o a q1 q2).ext up (.refl _) ?_ fun dx q => hh _ _ q, fun m o a q1 q2 q3 => ?_, r.hs.oN, fun a q => ?_⟩, e1, e2⟩
    · have q : G1 b = some o := q
      by_cases z : pk = true ∧ Pr b
      · rw [e2 b z.1 z.2] at q; cases q
      · rw [e1 b z] at q; exact gs _ _ q
    · cases q : H a with
      | none => exact absurd q (r.hs.oI a (List.mem_of_getElem? q2))
      | some u => exact hh _ _ q
    · show G1 a = none
      cases q : G1 a with
      | none => rfl
      | some u =>
        rcases new a u q with y | y
        · have := r.hs.oG m o a q1 q2 q3
          rw [this] at y; cases y
        · exact absurd y (r.hs.oI a (List.mem_of_getElem? q3))
    · cases z : H a with
      | none => exact absurd z (r.hs.oI a q)
      | some u => rw [hh _ _ z]; simp
  unfold isoM at h
  cases q : callF T n f ds [] with
  | stuck => exact absurd q hne
  | exc x hp' =>
    rw [q] at h
    intro cls dd w' H' g hs xr
    simp only at h
    split at h
    · rename_i hx
      rw [Bool.and_eq_true, Bool.or_eq_true, Bool.not_eq_true'] at hx
      obtain ⟨G1, gr, hs1, e1, e2⟩ := back w' H' g hs.gH
      refine ⟨⟨⟨G1, w.oa⟩, w.ω⟩, hp, S, x, r.call gr hs1, ?_, h⟩
      have only : ∀ p us, Rd w'.g p (.tup us) → G1 p = w'.g p := fun p us z => e1 p fun y => by
        obtain ⟨o1, e3, e4, e4'⟩ := pH p y.2
        have e5 : w'.g p = some o1 := g.g _ _ (g1 p o1 y.1 y.2 e3)
        rcases z with z | ⟨u, z⟩
        · rw [e5] at z; exact absurd (Option.some.inj z) (e4 _)
        · rw [e5] at z; exact absurd (Option.some.inj z) (e4' _ _)
      cases x with
      | xn c fs =>
        obtain ⟨C, a1, a2, a3⟩ := xr
        refine ⟨C, ?_, a2, ?_⟩
        · show w.oa.cm c = some C
          rw [r.gr.o.cm, ← a1, g.o.cm]
        · cases dd with
          | none => exact a3
          | some d =>
            obtain ⟨fv, b1, b2, b3, b4, b5⟩ := a3
            have b2' : FReps X.K w'.oa G1 fs fv := by
              cases pk with
              | false =>
                have eg : G1 = w'.g := funext fun b => e1 b fun z => by cases z.1
                rw [eg]; exact b2
              | true =>
                rcases hx.2 with y | y
                · cases y
                · exact b2.only only (by simpa [D.xnoL] using y)
            refine ⟨fv, b1, b2'.noO (by simpa [D.xok] using hx.1), ?_, r.onone b5, r.gr.i _ b5⟩
            by_cases z : pk = true ∧ Pr d
            · exact e2 d z.1 z.2
            · exact (e1 d z).trans b3
      | _ => exact (show False from xr).elim
    · exact h.elim
  | ok d hp' =>
    rw [q] at h
    intro v w' H' g hs res
    simp only at h
    split at h
    · rename_i hx
      rw [Bool.and_eq_true, Bool.or_eq_true, Bool.not_eq_true'] at hx
      obtain ⟨G1, gr, hs1, e1, e2⟩ := back w' H' g hs.gH
      refine h ⟨⟨G1, w.oa⟩, w.ω⟩ H' ⟨gr, rfl⟩ (r.call gr hs1) v ?_
      have only : ∀ p us, Rd w'.g p (.tup us) → G1 p = w'.g p := fun p us z => e1 p fun y => by
        obtain ⟨o1, e3, e4, e4'⟩ := pH p y.2
        have e5 : w'.g p = some o1 := g.g _ _ (g1 p o1 y.1 y.2 e3)
        rcases z with z | ⟨u, z⟩
        · rw [e5] at z; exact absurd (Option.some.inj z) (e4 _)
        · rw [e5] at z; exact absurd (Option.some.inj z) (e4' _ _)
      have rep1 : ∀ {d : D} {v : V}, d.noO = true → (pk = true → d.noL = true) → Rep X.K w'.oa w'.g d v → Rep X.K w.oa G1 d v := fun {d v} n1 n2 rp => by
        cases pk with
        | false =>
          have eg : G1 = w'.g := funext fun b => e1 b fun z => by cases z.1
          rw [eg]; exact rp.noO n1
        | true => exact (Rep.only only rp (n2 rfl)).noO n1
      have reps1 : ∀ {d : List D} {v : List V}, noOs d = true → (pk = true → noLs d = true) → Reps X.K w'.oa w'.g d v → Reps X.K w.oa G1 d v := fun {d v} n1 n2 rp => by
        cases pk with
        | false =>
          have eg : G1 = w'.g := funext fun b => e1 b fun z => by cases z.1
          rw [eg]; exact rp.noO n1
        | true => exact (Reps.only only rp (n2 rfl)).noO n1
      cases z : T.fresh f with
      | false =>
        rw [z] at res hx
        refine rep1 hx.1 (fun hp => ?_) res
        rcases hx.2 with y | y
        · rw [hp] at y; cases y
        · cases d with
          | lst xs => simp [D.noLq] at y
          | _ => exact y
      | true =>
        rw [z] at res hx
        obtain ⟨p, o, rfl, a1, a2, a3, a4, a5⟩ := res
        refine ⟨p, o, rfl, a1, ?_, ?_, r.ωnone a3, r.onone a3, hb p a3⟩
        · cases d with
          | lst xs =>
            obtain ⟨us, rfl, ru⟩ := a2
            refine ⟨us, rfl, reps1 (by simpa [D.noO] using hx.1) (fun hp => ?_) ru⟩
            rcases hx.2 with y | y
            · rw [hp] at y; cases y
            · simpa [D.noLq] using y
          | dic xs =>
            obtain ⟨us, rfl, ru⟩ := a2
            cases pk with
            | false =>
              have eg : G1 = w'.g := funext fun b => e1 b fun z => by cases z.1
              exact ⟨us, rfl, by rw [eg]; exact ru.noO (by simpa [D.noO] using hx.1)⟩
            | true =>
              rcases hx.2 with y | y
              · cases y
              · simp [D.noLq, D.noL] at y
          | _ => exact (show False from a2).elim
        · show G1 p = none
          rw [e1 p fun y => by obtain ⟨o1, e3, _⟩ := pH p y.2; rw [a3] at e3; cases e3]
          exact a4
    · exact h.elim
theorem iso_post {σ : St} {w : Wd} {S : RS} {H H0 : Hp} {hp : HP} {Q : VK} {f : Str} {ds : List D} {vs : List V} {fn : Fn} {pk : Bool} (r : Rel X.K e w hp S σ H) (rv : Raws X.K w H ds vs) (hno : noOs ds = true) (hpk : pk = false → Reps X.K w.oa w.g ds vs) (hf : T.fn f = some fn) (hb : ∀ b, H b = none → H0 b = none)
    (h : PostM X.K e wx S σ w H (fun d _ w' H' => ∀ v, Res1 X.K H0 w' H' d (T.fresh f) v → Q v H') (isoM pk (T.fresh f) (callF T n f ds) hp)) : spF X.K e.w.oa.cm T n f fn.ps vs H Q (WE (WW X.K e wx) σ) := by
  have hG : ∃ G0 : Hp, Sub w.g G0 ∧ Sub G0 H ∧ Reps X.K w.oa G0 ds vs ∧ (∀ b o, G0 b = some o → w.g b = some o ∨ (pk = true ∧ (w.ω b).isSome = true)) ∧ ∀ b o, pk = true → (w.ω b).isSome = true → H b = some o → G0 b = some o := by
    cases pk with
    | false => exact ⟨w.g, .refl _, r.hs.gH, hpk rfl, fun _ _ h => .inl h, fun _ _ z => by cases z⟩
    | true =>
      refine ⟨gAll w H, G_gAll, gAll_sub r, rv.all r, fun b o q => ?_, fun b o _ hi ho => ?_⟩
      · by_cases hw : (w.ω b).isSome = true
        · exact .inr ⟨rfl, hw⟩
        · exact .inl (gAll_not hw q)
      · obtain ⟨i, hi⟩ := Option.isSome_iff_exists.mp hi
        exact (gAll_own r hi).trans ho
  obtain ⟨G0, s0, s1, rp0, g0, g1⟩ := hG
  refine iso_postG (fun b => (w.ω b).isSome = true) G0 r s0 s1 rp0 hno g0 g1 (fun b z => ?_) (fun b z => ?_) hf hb h
  · obtain ⟨i, hi⟩ := Option.isSome_iff_exists.mp z
    exact r.ownG hi
  · obtain ⟨i, hi⟩ := Option.isSome_iff_exists.mp z
    obtain ⟨d1, o1, _, _, e3, e4⟩ := r.ownH hi
    exact ⟨o1, e3, cont_noTup e4⟩
theorem se_iso (g : Gd T n N sc e wx X) {f : Str} {as : Cs} {es : List Expr} {p pos : Pos} (hfs : (T.fn f).isSome = true) (hmt : isMt f = false) (hg : glB sc (bs f) = true) (ho : okN (bs f) = true) (hs : ∀ ex ∈ es.head?, ∀ xs env, starEach (ex :: xs) env = (false, eval ex env) :: starEach xs env)
    (hpl : (backTo pos (starEach es.tail X.env)).any (·.1) = false) (hn : es = [] → as = .nil) (ha : PA X es (TVc X.K e (T.cfg n) wx as)) (hl : as.hasPk = false → PA X es (TLc X.K e (T.cfg n) wx as)) : PE X (.Call (.Name (bs f) p) es [] pos) (TEc X.K e (T.cfg n) wx (.iso f as)) := by
  obtain ⟨fn, hf⟩ := Option.isSome_iff_exists.mp hfs
  obtain ⟨fa, fd, ps, h1, h2, h3, h4, h5⟩ := g.call f fn hf hmt
  have fin : ∀ {σ : St} {H H1 : Hp} {Q : VK} {w1 : Wd} {hp1 : HP} {S : RS} {ds : List D} {vs : List V}, Rel X.K e w1 hp1 S σ H1 → Raws X.K w1 H1 ds vs → (as.hasPk = false → Reps X.K w1.oa w1.g ds vs) → (∀ b, H1 b = none → H b = none) →
      PostM X.K e wx S σ w1 H1 (fun d _ w' H' => ∀ v, Res1 X.K H w' H' d (T.fresh f) v → Q v H') ((if noOs ds then isoM as.hasPk (T.fresh f) (callF T n f ds) else Mx.st) hp1) → spF X.K e.w.oa.cm T n f fn.ps vs H1 Q (WE (WW X.K e wx) σ) := fun {σ H H1 Q w1 hp1 S ds vs} r1 rv rl hb h => by
    split at h
    · rename_i hno
      exact iso_post r1 rv hno rl hf hb h
    · exact (show False from h).elim
  cases hk : as.hasPk with
  | true =>
    have key : ∀ σ H Q, TEc X.K e (T.cfg n) wx (.iso f as) σ H Q → tCallS (spF X.K e.w.oa.cm T n f fn.ps) (WE (WW X.K e wx)) (TVc X.K e (T.cfg n) wx as) σ H Q := fun σ H Q ⟨w, hp, S, r, h⟩ => by
      rw [evE] at h
      refine TVc.of r (h.bind.mono fun ds hp1 w1 H1 _ x1 _ h1 r1 vs rps => ?_)
      exact fin r1 rps (fun z => by rw [hk] at z; cases z) x1.gr.i h1
    cases es with
    | nil => rw [hn rfl] at hk; cases hk
    | cons ex xs => exact imE (pe_callS h5 g.room (g.gl hg) h1 h2 h3 (fun σ => passAt g.tk σ) ha (okN1 ho) (hs ex (by simp) xs X.env) hpl) key
  | false =>
    have toR : ∀ {K : PySem.W.Frag} {w : Wd} {H : Hp} {ds : List D} {vs : List V}, Reps K w.oa w.g ds vs → Raws K w H ds vs := fun {K w H ds vs} z => by
      induction ds generalizing vs with
      | nil => cases z; exact .nil
      | cons d ds ih => cases z with | cons a b => exact .cons (.rep a) (ih b)
    have key : ∀ σ H Q, TEc X.K e (T.cfg n) wx (.iso f as) σ H Q → tCallS (spF X.K e.w.oa.cm T n f fn.ps) (WE (WW X.K e wx)) (TLc X.K e (T.cfg n) wx as) σ H Q := fun σ H Q ⟨w, hp, S, r, h⟩ => by
      rw [evE] at h
      refine TLc.of r (h.bind.mono fun ds hp1 w1 H1 _ x1 _ h1 r1 vs rps => ?_)
      exact fin r1 (toR rps) (fun _ => rps) x1.gr.i h1
    cases es with
    | nil =>
      refine imE (pe_call0S h5 g.room (g.gl hg) h1 h2 h3 (fun σ => passAt g.tk σ) (okN1 ho)) fun σ H Q h => ?_
      obtain ⟨w, hp, S, r, h⟩ := h
      rw [evE] at h
      have he : evCs (T.cfg n) as S = Mx.pure [] := by rw [hn rfl]; simp only [evCs]
      rw [he] at h
      exact fin r .nil (fun _ => .nil) (fun _ z => z) h
    | cons ex xs => exact imE (pe_callS h5 g.room (g.gl hg) h1 h2 h3 (fun σ => passAt g.tk σ) (hl hk) (okN1 ho) (hs ex (by simp) xs X.env) hpl) key

/-- a built-in by its name, its arguments looked at -/
theorem bi_read {f : Str} {as : Cs} {σ : St} {H : Hp} {Q : VK} (hq : TEc X.K e (T.cfg n) wx (.bi f as) σ H Q) : tCB (rBi X.K f) (TVc X.K e (T.cfg n) wx as) σ H Q := by
  obtain ⟨w, hp, S, r, h⟩ := hq
  rw [evE] at h
  refine TVc.of r (h.bind.mono fun ds hp1 w1 H1 _ x1 _ h1 r1 vs rps => ?_)
  obtain ⟨d, e3, h3⟩ := PostM.lift h1
  exact ⟨w1.oa, w1.g, _, d, r1.hs.gH, rps.views r1, e3, fun v H' res => post_fin r1 h3 x1.gr.i res⟩
theorem se_bi (g : Gd T n N sc e wx X) {f : Str} {as : Cs} {ex : Expr} {es : List Expr} {p pos : Pos} (hg : glB sc f = true) (hf : (biF f || biT f) = true) (he : starEach (ex :: es) X.env = (false, eval ex X.env) :: starEach es X.env)
    (hpl : (backTo pos (starEach es X.env)).any (·.1) = false) (ha : PA X (ex :: es) (TVc X.K e (T.cfg n) wx as)) : PE X (.Call (.Name f p) (ex :: es) [] pos) (TEc X.K e (T.cfg n) wx (.bi f as)) := by
  unfold biF biT at hf
  simp only [Bool.or_eq_true, decide_eq_true_eq] at hf
  rcases hf with (((((((rfl | rfl) | rfl) | rfl) | rfl) | rfl) | rfl) | ((((rfl | rfl) | rfl) | rfl) | rfl))
  · exact imE (pe_callB bi_len (g.gl hg) (g.blt _ (by simp [bltNames])) (by decide +kernel) ha (by decide +kernel) (by decide +kernel) he hpl) fun _ _ _ h => bi_read h
  · exact imE (pe_callB (bi_max g.calm) (g.gl hg) (g.blt _ (by simp [bltNames])) (by decide +kernel) ha (by decide +kernel) (by decide +kernel) he hpl) fun _ _ _ h => bi_read h
  · exact imE (pe_callB (bi_min g.calm) (g.gl hg) (g.blt _ (by simp [bltNames])) (by decide +kernel) ha (by decide +kernel) (by decide +kernel) he hpl) fun _ _ _ h => bi_read h
  · exact imE (pe_callB (bi_all g.calm) (g.gl hg) (g.blt _ (by simp [bltNames])) (by decide +kernel) ha (by decide +kernel) (by decide +kernel) he hpl) fun _ _ _ h => bi_read h
  · exact imE (pe_callB (bi_sum g.calm) (g.gl hg) (g.blt _ (by simp [bltNames])) (by decide +kernel) ha (by decide +kernel) (by decide +kernel) he hpl) fun _ _ _ h => bi_read h
  · exact imE (pe_callB bi_divmod (g.gl hg) (g.blt _ (by simp [bltNames])) (by decide +kernel) ha (by decide +kernel) (by decide +kernel) he hpl) fun _ _ _ h => bi_read h
  · exact imE (pe_callB bi_abs (g.gl hg) (g.blt _ (by simp [bltNames])) (by decide +kernel) ha (by decide +kernel) (by decide +kernel) he hpl) fun _ _ _ h => bi_read h
  · exact imE (pe_callTy bi_list (g.gl hg) (g.blt _ (by simp [bltNames])) (by decide +kernel) ha (by decide +kernel) (by decide +kernel) he hpl) fun _ _ _ h => bi_read h
  · exact imE (pe_callTy bi_tuple (g.gl hg) (g.blt _ (by simp [bltNames])) (by decide +kernel) ha (by decide +kernel) (by decide +kernel) he hpl) fun _ _ _ h => bi_read h
  · exact imE (pe_callTy bi_int (g.gl hg) (g.blt _ (by simp [bltNames])) (by decide +kernel) ha (by decide +kernel) (by decide +kernel) he hpl) fun _ _ _ h => bi_read h
  · exact imE (pe_callTy bi_str (g.gl hg) (g.blt _ (by simp [bltNames])) (by decide +kernel) ha (by decide +kernel) (by decide +kernel) he hpl) fun _ _ _ h => bi_read h
  · exact imE (pe_callTy bi_bool (g.gl hg) (g.blt _ (by simp [bltNames])) (by decide +kernel) ha (by decide +kernel) (by decide +kernel) he hpl) fun _ _ _ h => bi_read h
theorem tyB_n {ty : Str} (h : tyB ty = true) : ∃ n : String, bootBuiltins ty = some (.type n) ∧ ty ∈ bltNames ∧ ty ≠ "__name__" ∧ (ty == ("__debug__" : Str)) = false := by
  unfold tyB at h
  simp only [Bool.or_eq_true, decide_eq_true_eq] at h
  rcases h with ((((rfl | rfl) | rfl) | rfl) | rfl)
  · exact ⟨"int", by decide +kernel, by simp [bltNames], by decide +kernel, by decide +kernel⟩
  · exact ⟨"bool", by decide +kernel, by simp [bltNames], by decide +kernel, by decide +kernel⟩
  · exact ⟨"str", by decide +kernel, by simp [bltNames], by decide +kernel, by decide +kernel⟩
  · exact ⟨"tuple", by decide +kernel, by simp [bltNames], by decide +kernel, by decide +kernel⟩
  · exact ⟨"list", by decide +kernel, by simp [bltNames], by decide +kernel, by decide +kernel⟩
theorem isiD_known {ty : Str} {d : D} {b : Bool} (h : isiD ty d = some b) : d.known = true := by
  unfold isiD at h
  cases d <;> first
    | rfl
    | ((repeat' split at h) <;> first
        | contradiction
        | (cases h; done)
        | simp_all)
theorem se_isi (g : Gq T n N sc e wx X) {ty : Str} {a : C} {ea : Expr} {p p2 pos : Pos} (hg : glB sc "isinstance" = true) (hy : glB sc ty = true) (ht : tyB ty = true) (hs : ∀ xs env, starEach (ea :: xs) env = (false, eval ea env) :: starEach xs env) (ha : PE X ea (TOc X.K e (T.cfg n) wx a)) :
    PE X (.Call (.Name "isinstance" p) [ea, .Name ty p2] [] pos) (TEc X.K e (T.cfg n) wx (.isi ty a)) := by
  obtain ⟨m, hb, hm, hnn, hd⟩ := tyB_n ht
  have pt : PE X (.Name ty p2) (tC (.ty m)) := pe_bltn (g.gl hy) (g.blt _ hm) hb (show RelV (.ty m) (.type m) from rfl) hnn hd
  refine imE (pe_callB call_isi (g.gl hg) (g.blt _ (by simp [bltNames])) (by decide +kernel) (pa_cons ha (pa_cons pt pa_nil) (hs _ _)) (by decide +kernel) (by decide +kernel) (hs _ _) rfl) fun σ H Q ⟨w, hp, S, r, h⟩ => ?_
  rw [evE] at h
  refine TOc.of r (h.bind.mono fun d1 hp1 w1 H1 _ x1 _ h1 r1 v1 raw1 => ?_)
  obtain ⟨b, e3, h3⟩ := PostM.lift h1.bind
  have h3 := h3 w1 H1 (.refl _ _) r1
  obtain ⟨m', e5, e6, e7⟩ := kit_D X.K ty _ b e3
  rw [hb] at e6
  cases e6
  exact ⟨v1, .ty m, _, _, b, rfl, .ty m, tyx_of r1.hs.gH (raw1.view r1) (isiD_known e3), e7, h3 w1 H1 (.refl _ _) r1 _ (.bl b)⟩

theorem se_rvl (g : Gd T n N sc e wx X) {a : C} {ea : Expr} {p p2 pos pos2 : Pos} (hg : glB sc "list" = true) (hg2 : glB sc "reversed" = true) (hs : ∀ xs env, starEach (ea :: xs) env = (false, eval ea env) :: starEach xs env) (ha : PE X ea (TEc X.K e (T.cfg n) wx a)) :
    PE X (.Call (.Name "list" p) [.Call (.Name "reversed" p2) [ea] [] pos2] [] pos) (TEc X.K e (T.cfg n) wx (.rvl a)) :=
  imE (pe_lstRev g.calm (g.gl hg) (g.blt _ (by simp [bltNames])) (g.gl hg2) (g.blt _ (by simp [bltNames])) ha (hs _ _)) fun σ H Q ⟨w, hp, S, r, h⟩ => by
    rw [evE] at h
    refine TEc.of r (h.bind.mono fun d1 hp1 w1 H1 _ x1 _ h1 r1 v1 rp => ?_)
    obtain ⟨ys, e3, h3⟩ := PostM.lift h1.bind
    have h3 := h3 w1 H1 (.refl _ _) r1
    cases d1 with
    | lst xs =>
      simp only [revDD, Option.some.injEq] at e3
      subst e3
      cases rp with
      | lst q z =>
        refine ⟨_, _, rfl, r1.hs.gH.sqL q, fun p hq => ?_⟩
        exact h3 _ _ (.alloc hq) (r1.alloc hq) _ ⟨p, _, rfl, upd_same, ⟨_, rfl, z.reverse⟩, r1.gnone hq, r1.ωnone hq, r1.onone hq, x1.gr.i _ hq⟩
    | _ => simp [revDD] at e3
theorem rng1_eq {m : Int} {ys : List D} (h : rngD [.int m] = some ys) : RgOk 0 m ∧ ys = (List.range m.toNat).map (fun (k : Nat) => .int (0 + (k : Int))) := by
  simp only [rngD] at h
  split at h
  · rename_i hz
    simp only [decide_eq_true_eq, LINE] at hz
    cases h
    exact ⟨⟨by omega, by omega, by omega, by omega, by omega⟩, rfl⟩
  · cases h
theorem Reps.rng {K : PySem.W.Frag} {oa : Os} {G : Hp} (m : Int) : Reps K oa G ((List.range m.toNat).map fun (k : Nat) => .int (0 + (k : Int))) (rgV 0 m) := by
  have := Reps.ofInts (K := K) (oa := oa) (G := G) ((List.range m.toNat).map fun (k : Nat) => 0 + (k : Int))
  rw [List.map_map, List.map_map] at this
  unfold rgV
  rw [Int.sub_zero]
  exact this
theorem se_lrg (g : Gd T n N sc e wx X) {a : C} {ea : Expr} {p p2 pos pos2 : Pos} (hg : glB sc "list" = true) (hg2 : glB sc "range" = true) (hs : ∀ xs env, starEach (ea :: xs) env = (false, eval ea env) :: starEach xs env) (ha : PE X ea (TEc X.K e (T.cfg n) wx a)) :
    PE X (.Call (.Name "list" p) [.Call (.Name "range" p2) [ea] [] pos2] [] pos) (TEc X.K e (T.cfg n) wx (.lrg a)) :=
  imE (pe_listRg g.calm (g.gl hg) (g.blt _ (by simp [bltNames])) (prg_1 (g.gl hg2) (g.blt _ (by simp [bltNames])) ha (hs _ _))) fun σ H Q ⟨w, hp, S, r, h⟩ => by
    rw [evE] at h
    refine TEc.of r (h.bind.mono fun d1 hp1 w1 H1 _ x1 _ h1 r1 v1 rp => ?_)
    obtain ⟨ys, e3, h3⟩ := PostM.lift h1.bind
    have h3 := h3 w1 H1 (.refl _ _) r1
    cases d1 with
    | int m =>
      obtain ⟨ok, rfl⟩ := rng1_eq e3
      refine ⟨m, rp.intE, ok, fun p hq => ?_⟩
      exact h3 _ _ (.alloc hq) (r1.alloc hq) _ ⟨p, _, rfl, upd_same, ⟨_, rfl, Reps.rng m⟩, r1.gnone hq, r1.ωnone hq, r1.onone hq, x1.gr.i _ hq⟩
    | _ => simp [rngD] at e3
theorem Reps.strs {K : PySem.W.Frag} {oa : Os} {G : Hp} : ∀ zs : List Str, Reps K oa G (zs.map .str) (zs.map V.str)
  | [] => .nil
  | z :: zs => .cons (.str z) (Reps.strs zs)
theorem se_spl {a b : C} {ea eb : Expr} {ap pos : Pos} (hb : attributeBase ea "split" X.env (eval ea X.env) = eval ea X.env) (hs : ∀ xs env, starEach (eb :: xs) env = (false, eval eb env) :: starEach xs env) (hline : (ap.endLine == pos.line) = true) (h1 : PE X ea (TEc X.K e (T.cfg n) wx a)) (h2 : PE X eb (TEc X.K e (T.cfg n) wx b)) :
    PE X (.Call (.Attribute ea "split" ap) [eb] [] pos) (TEc X.K e (T.cfg n) wx (.spl a b)) :=
  imE (pe_split h1 h2 (hs _ _) hb hline) fun σ H Q ⟨w, hp, S, r, h⟩ => by
    rw [evE] at h
    refine TEc.of r (h.bind.mono fun d1 hp1 w1 H1 _ x1 _ h1 r1 v1 rp1 => ?_)
    obtain ⟨x, e1, h4⟩ := PostM.lift h1.bind
    have h4 := h4 w1 H1 (.refl _ _) r1
    cases d1 with
    | str x' =>
      cases e1
      refine ⟨⟨x, rp1.strE⟩, TEc.of r1 ((PostM.bind h4).mono fun d2 hp2 w2 H2 _ x2 _ h2 r2 v2 rp2 => ?_)⟩
      obtain ⟨ys, e3, h3⟩ := PostM.lift h2.bind
      have h3 := h3 w2 H2 (.refl _ _) r2
      cases d2 with
      | str y =>
        simp only [splD] at e3
        split at e3
        · rename_i hz
          cases e3
          refine ⟨x, y, rp1.strE, by rw [rp2.strE], hz.1, by rw [← line_eq]; exact hz.2, fun p hq => ?_⟩
          exact h3 _ _ (.alloc hq) (r2.alloc hq) _ ⟨p, _, rfl, upd_same, ⟨_, rfl, Reps.strs _⟩, r2.gnone hq, r2.ωnone hq, r2.onone hq, x1.gr.i _ (x2.gr.i _ hq)⟩
        · cases e3
      | _ => cases e3
    | _ => cases e1

def TAndc (K : PySem.W.Frag) (e : En) (Γ : Cfg) (wx : D → RS → HP → Prop) (cs : Cs) : TE := fun σ H Q => ∃ w hp S, Rel K e w hp S σ H ∧ PostM K e wx S σ w H (fun d hp1 w1 H1 => Rel K e w1 hp1 S σ H1 → ∀ v, Rep K w1.oa w1.g d v → Q v H1) (evAnd Γ cs S hp)
def TOrc (K : PySem.W.Frag) (e : En) (Γ : Cfg) (wx : D → RS → HP → Prop) (cs : Cs) : TE := fun σ H Q => ∃ w hp S, Rel K e w hp S σ H ∧ PostM K e wx S σ w H (fun d hp1 w1 H1 => Rel K e w1 hp1 S σ H1 → ∀ v, Rep K w1.oa w1.g d v → Q v H1) (evOr Γ cs S hp)
def TTAndc (K : PySem.W.Frag) (e : En) (Γ : Cfg) (wx : D → RS → HP → Prop) (cs : Cs) : TT := fun σ H Q => ∃ w hp S, Rel K e w hp S σ H ∧ PostM K e wx S σ w H (fun d _ _ H1 => Q d H1) (evTAnd Γ cs S hp)
def TTOrc (K : PySem.W.Frag) (e : En) (Γ : Cfg) (wx : D → RS → HP → Prop) (cs : Cs) : TT := fun σ H Q => ∃ w hp S, Rel K e w hp S σ H ∧ PostM K e wx S σ w H (fun d _ _ H1 => Q d H1) (evTOr Γ cs S hp)
theorem sand_one {c : C} {ex : Expr} {pos : Pos} (h : PE X ex (TEc X.K e (T.cfg n) wx c)) : PE X (.BoolOp .And [ex] pos) (TAndc X.K e (T.cfg n) wx (.cons c .nil)) :=
  imE (pe_one h) fun σ H Q ⟨w, hp, S, r, h⟩ => TEc.of r (by simpa only [evAnd] using h)
theorem sor_one {c : C} {ex : Expr} {pos : Pos} (h : PE X ex (TEc X.K e (T.cfg n) wx c)) : PE X (.BoolOp .Or [ex] pos) (TOrc X.K e (T.cfg n) wx (.cons c .nil)) :=
  imE (pe_one h) fun σ H Q ⟨w, hp, S, r, h⟩ => TEc.of r (by simpa only [evOr] using h)
theorem sand_cons {c c2 : C} {cs : Cs} {ex ex2 : Expr} {es : List Expr} {pos : Pos} (h1 : PE X ex (TEc X.K e (T.cfg n) wx c)) (h2 : PE X (.BoolOp .And (ex2 :: es) pos) (TAndc X.K e (T.cfg n) wx (.cons c2 cs))) : PE X (.BoolOp .And (ex :: ex2 :: es) pos) (TAndc X.K e (T.cfg n) wx (.cons c (.cons c2 cs))) :=
  imE (pe_and h1 h2) fun σ H Q ⟨w, hp, S, r, h⟩ => by
    rw [evAnd] at h
    case x_2 => simp
    refine TEc.of r (h.bind.mono fun d hp1 w1 H1 _ x1 _ h3 r1 v rp => ?_)
    cases d with
    | bl b =>
      refine ⟨b, rp.blE, ?_⟩
      cases b with
      | true => exact ⟨w1, hp1, S, r1, h3⟩
      | false => exact h3 w1 H1 (.refl _ _) r1 r1 _ (.bl _)
    | _ => exact (show False from h3).elim
theorem sor_cons {c c2 : C} {cs : Cs} {ex ex2 : Expr} {es : List Expr} {pos : Pos} (h1 : PE X ex (TEc X.K e (T.cfg n) wx c)) (h2 : PE X (.BoolOp .Or (ex2 :: es) pos) (TOrc X.K e (T.cfg n) wx (.cons c2 cs))) : PE X (.BoolOp .Or (ex :: ex2 :: es) pos) (TOrc X.K e (T.cfg n) wx (.cons c (.cons c2 cs))) :=
  imE (pe_or h1 h2) fun σ H Q ⟨w, hp, S, r, h⟩ => by
    rw [evOr] at h
    case x_2 => simp
    refine TEc.of r (h.bind.mono fun d hp1 w1 H1 _ x1 _ h3 r1 v rp => ?_)
    cases d with
    | bl b =>
      refine ⟨b, rp.blE, ?_⟩
      cases b with
      | true => exact h3 w1 H1 (.refl _ _) r1 r1 _ (.bl _)
      | false => exact ⟨w1, hp1, S, r1, h3⟩
    | _ => exact (show False from h3).elim
theorem stand_one {c : C} {ex : Expr} {pos : Pos} (h : PT X ex (TTc X.K e (T.cfg n) wx c)) : PW X (.BoolOp .And [ex] pos) (TTAndc X.K e (T.cfg n) wx (.cons c .nil)) :=
  imW (pw_and1 h) fun σ H Q ⟨w, hp, S, r, h⟩ => ⟨w, hp, S, r, by simpa only [evTAnd] using h⟩
theorem stor_one {c : C} {ex : Expr} {pos : Pos} (h : PT X ex (TTc X.K e (T.cfg n) wx c)) : PW X (.BoolOp .Or [ex] pos) (TTOrc X.K e (T.cfg n) wx (.cons c .nil)) :=
  imW (pw_or1 h) fun σ H Q ⟨w, hp, S, r, h⟩ => ⟨w, hp, S, r, by simpa only [evTOr] using h⟩
theorem stand_cons {c c2 : C} {cs : Cs} {ex ex2 : Expr} {es : List Expr} {pos : Pos} (h1 : PT X ex (TTc X.K e (T.cfg n) wx c)) (h2 : PW X (.BoolOp .And (ex2 :: es) pos) (TTAndc X.K e (T.cfg n) wx (.cons c2 cs))) : PW X (.BoolOp .And (ex :: ex2 :: es) pos) (TTAndc X.K e (T.cfg n) wx (.cons c (.cons c2 cs))) :=
  imW (pw_and h1 h2) fun σ H Q ⟨w, hp, S, r, h⟩ => by
    rw [evTAnd] at h
    case x_2 => simp
    refine ⟨w, hp, S, r, h.bind.mono fun b hp1 w1 H1 _ x1 r1 h3 => ?_⟩
    cases b with
    | true => exact ⟨w1, hp1, S, r1, h3⟩
    | false => exact h3 w1 H1 (.refl _ _) r1
theorem stor_cons {c c2 : C} {cs : Cs} {ex ex2 : Expr} {es : List Expr} {pos : Pos} (h1 : PT X ex (TTc X.K e (T.cfg n) wx c)) (h2 : PW X (.BoolOp .Or (ex2 :: es) pos) (TTOrc X.K e (T.cfg n) wx (.cons c2 cs))) : PW X (.BoolOp .Or (ex :: ex2 :: es) pos) (TTOrc X.K e (T.cfg n) wx (.cons c (.cons c2 cs))) :=
  imW (pw_or h1 h2) fun σ H Q ⟨w, hp, S, r, h⟩ => by
    rw [evTOr] at h
    case x_2 => simp
    refine ⟨w, hp, S, r, h.bind.mono fun b hp1 w1 H1 _ x1 r1 h3 => ?_⟩
    cases b with
    | true => exact h3 w1 H1 (.refl _ _) r1
    | false => exact ⟨w1, hp1, S, r1, h3⟩
theorem st_not {c : C} {ex : Expr} {pos : Pos} (h : PT X ex (TTc X.K e (T.cfg n) wx c)) : PT X (.UnaryOp .Not ex pos) (TTc X.K e (T.cfg n) wx (.not c)) :=
  imT (pt_not h) fun σ H Q ⟨w, hp, S, r, h⟩ => by
    rw [evT] at h
    exact ⟨w, hp, S, r, h.bind.mono fun b hp1 w1 H1 _ x1 r1 h3 => h3 w1 H1 (.refl _ _) r1⟩
theorem st_cmp (g : Gq T n N sc e wx X) {op : CmpOp} {a b : C} {ea eb : Expr} {pos : Pos} (hm : behindInMarks op eb = false) (ha : PE X ea (TOc X.K e (T.cfg n) wx a)) (hb : PE X eb (TOc X.K e (T.cfg n) wx b)) : PT X (.Compare ea [op] [eb] pos) (TTc X.K e (T.cfg n) wx (.cmp op a b)) :=
  imT (pt_cmpR (op_cm g.units op) ha hb hm) fun σ H Q ⟨w, hp, S, r, h⟩ => by
    rw [evT] at h
    refine TOc.of r (h.bind.mono fun d1 hp1 w1 H1 _ x1 _ h1 r1 v1 raw1 => ?_)
    refine TOc.of r1 (h1.bind.mono fun d2 hp2 w2 H2 _ x2 _ h2 r2 v2 raw2 => ?_)
    obtain ⟨c, e3, h3⟩ := PostM.lift h2
    exact ⟨w2.oa, w2.g, _, _, c, r2.hs.gH, (raw1.ext r1 x2).view r2, raw2.view r2, e3, c, rfl, h3 w2 H2 (.refl _ _) r2⟩
theorem st_chn (g : Gq T n N sc e wx X) {op op' : CmpOp} {a b c : C} {ea eb ec : Expr} {pos : Pos} (hm : lastMarks [op, op'] [eb, ec] = false) (ha : PE X ea (TOc X.K e (T.cfg n) wx a)) (hb : PE X eb (TOc X.K e (T.cfg n) wx b)) (hc : PE X ec (TOc X.K e (T.cfg n) wx c)) :
    PT X (.Compare ea [op, op'] [eb, ec] pos) (TTc X.K e (T.cfg n) wx (.chn op op' a b c)) :=
  imT (pt_chain (op_cm g.units op) (op_cm g.units op') ha hb hc hm) fun σ H Q ⟨w, hp, S, r, h⟩ => by
    rw [evT] at h
    refine TOc.of r (h.bind.mono fun d1 hp1 w1 H1 _ x1 _ h1 r1 v1 raw1 => ?_)
    refine TOc.of r1 (h1.bind.mono fun d2 hp2 w2 H2 _ x2 _ h2 r2 v2 raw2 => ?_)
    obtain ⟨k, e3, h3⟩ := PostM.lift h2.bind
    have h3 := h3 w2 H2 (.refl _ _) r2
    refine ⟨w2.oa, w2.g, _, _, k, r2.hs.gH, (raw1.ext r1 x2).view r2, raw2.view r2, e3, k, rfl, ?_⟩
    cases k with
    | false => exact ⟨false, rfl, h3 w2 H2 (.refl _ _) r2⟩
    | true =>
      refine TOc.of r2 ((PostM.bind h3).mono fun d3 hp3 w3 H3 _ x3 _ h4 r3 v3 raw3 => ?_)
      obtain ⟨k2, e5, h5⟩ := PostM.lift h4
      exact ⟨w3.oa, w3.g, _, _, k2, r3.hs.gH, (raw2.ext r2 x3).view r3, raw3.view r3, e5, k2, rfl, h5 w3 H3 (.refl _ _) r3⟩
/-- any other expression as a test: by its truth -/
theorem st_val {c : C} {ex : Expr} (hv : ∀ S, evT (T.cfg n) c S = (evE (T.cfg n) c S).bind truM)
    (he : ∀ whole, isTrue ex X.env whole = (do let v ← whole; standAt ex.pos; holding [v] (truthy v))) (h : PE X ex (TOc X.K e (T.cfg n) wx c)) : PT X ex (TTc X.K e (T.cfg n) wx c) :=
  imT (pt_truth h he) fun σ H Q ⟨w, hp, S, r, h⟩ => by
    rw [hv] at h
    refine TOc.of r (h.bind.mono fun d1 hp1 w1 H1 _ x1 _ h1 r1 v1 raw1 => ?_)
    obtain ⟨k, e3, h3⟩ := PostM.lift h1
    exact ⟨k, tru_of r1.hs.gH (raw1.view r1) e3, h3 w1 H1 (.refl _ _) r1⟩
theorem st_ite {c a b : C} {ex : Expr} : PT X ex (TTc X.K e (T.cfg n) wx (.ite c a b)) := ⟨fun _ _ _ _ _ _ ⟨w, hp, S, r, h⟩ => by
  rw [evT] at h
  exact (show False from h).elim⟩
end
end RR

namespace RR
open PySem L2
section
variable {K : PySem.W.Frag} {w : Wd} {H : Hp}
theorem Raw.strE {i : Str} {v : V} (h : Raw K w H (.str i) v) : v = .str i := by
  cases h with
  | rep r => exact r.strE
  | own a b c => exact (show False from b).elim
end
section
variable {T : Tb} {n : Nat} {N : List Str} {sc : Scope} {X : Cx} {e : En} {wx : D → RS → HP → Prop}
abbrev StarOk (es : List Expr) : Prop := ∀ ex ∈ es, ∀ xs env, starEach (ex :: xs) env = (false, eval ex env) :: starEach xs env
theorem base_ok {oe : Expr} (h : rcvB oe = true) (m : Str) (env : Env) : attributeBase oe m env (eval oe env) = eval oe env := by
  cases oe <;> first
    | rfl
    | (cases h; done)
    | skip
  rename_i f es ks pos
  cases f <;> first
    | rfl
    | (cases h; done)
    | skip
  rename_i x p
  simp only [rcvB, Bool.not_eq_true'] at h
  cases es with
  | cons a b => rfl
  | nil =>
    cases ks with
    | cons a b => rfl
    | nil =>
      unfold attributeBase
      simp only [bne, h, Bool.not_false, Bool.true_or, if_true]
      first
        | done
        | exact bind_pure _
theorem mtd_read {m : Str} {c : C} {as : Cs} {σ : St} {H : Hp} {Q : VK} (hq : TEc X.K e (T.cfg n) wx (.mtd m c as) σ H Q) : tBM X.K "str" (rMt X.K m) (TOc X.K e (T.cfg n) wx c) (TVc X.K e (T.cfg n) wx as) σ H Q := by
  obtain ⟨w, hp, S, r, h⟩ := hq
  rw [evE] at h
  refine TOc.of r (h.bind.mono fun d1 hp1 w1 H1 _ x1 _ h1 r1 v1 raw1 => ?_)
  cases d1 with
  | str a =>
    have h1 : PostM X.K e wx S σ w1 H1 _ ((evCs (T.cfg n) as S).bind (fun ds => mtdM m (.str a) ds) hp1) := h1
    have ev := raw1.strE
    subst ev
    refine ⟨rfl, TVc.of r1 (h1.bind.mono fun ds hp2 w2 H2 _ x2 _ h2 r2 vs rps => ?_)⟩
    obtain ⟨d, e3, h3⟩ := PostM.lift h2
    exact ⟨w2.oa, w2.g, .str a, _, d, r2.hs.gH, .rep (.str a), rps.views r2, e3, fun v H' res => post_fin r2 h3 (x1.trans x2).gr.i res⟩
  | _ => exact (show False from h1).elim
theorem mtd_read0 {m : Str} {c : C} {σ : St} {H : Hp} {Q : VK} (hq : TEc X.K e (T.cfg n) wx (.mtd m c .nil) σ H Q) : tBM0 X.K "str" (rMt X.K m) (TOc X.K e (T.cfg n) wx c) σ H Q := by
  obtain ⟨w, hp, S, r, h⟩ := hq
  rw [evE] at h
  refine TOc.of r (h.bind.mono fun d1 hp1 w1 H1 _ x1 _ h1 r1 v1 raw1 => ?_)
  cases d1 with
  | str a =>
    have h1 : PostM X.K e wx S σ w1 H1 _ ((evCs (T.cfg n) .nil S).bind (fun ds => mtdM m (.str a) ds) hp1) := h1
    have ev := raw1.strE
    subst ev
    simp only [evCs, Mx.pure_bind] at h1
    obtain ⟨d, e3, h3⟩ := PostM.lift h1
    exact ⟨rfl, w1.oa, w1.g, .str a, [], d, r1.hs.gH, .rep (.str a), .nil, e3, fun v H' res => post_fin r1 h3 x1.gr.i res⟩
  | _ => exact (show False from h1).elim
theorem mtd_go {m : Str} {id : String} (slot : Slot "str" m id) (hty : typeOf (.builtin id) = pure (.type "method_descriptor")) (hm : MtR X id (rMt X.K m)) {c : C} {as : Cs} {oe : Expr} {es : List Expr} {ap cp : Pos} (hb : rcvB oe = true) (hl : (ap.endLine == cp.line) = true) (hs : StarOk es) (h3 : es.length < 3) (ho : PE X oe (TOc X.K e (T.cfg n) wx c)) (ha : PA X es (TVc X.K e (T.cfg n) wx as)) (hn : es = [] → as = .nil) :
    PE X (.Call (.Attribute oe m ap) es [] cp) (TEc X.K e (T.cfg n) wx (.mtd m c as)) := by
  have hb := base_ok hb m X.env
  match es, hs, h3, ha, hn with
  | [], _, _, _, hn =>
    rw [hn rfl]
    exact imE (pe_bm0 PySem.F.plainAttrs_str slot hty hm ho hb hl) fun _ _ _ h => mtd_read0 h
  | [a], hs, _, ha, _ =>
    have h1 := hs a (by simp)
    exact imE (pe_bm PySem.F.plainAttrs_str slot hty hm ho ha hb (by rw [h1]; rfl) hl (h1 _ _) (by rfl)) fun _ _ _ h => mtd_read h
  | [a, b], hs, _, ha, _ =>
    have h1 := hs a (by simp)
    have h2 := hs b (by simp)
    exact imE (pe_bm PySem.F.plainAttrs_str slot hty hm ho ha hb (by rw [h1, h2]; rfl) hl (h1 _ _) (by rw [h2]; rfl)) fun _ _ _ h => mtd_read h
theorem se_mtd {m : Str} (hm : mtB m = true) {c : C} {as : Cs} {oe : Expr} {es : List Expr} {ap cp : Pos} (hb : rcvB oe = true) (hl : (ap.endLine == cp.line) = true) (hs : StarOk es) (h3 : es.length < 3) (ho : PE X oe (TOc X.K e (T.cfg n) wx c)) (ha : PA X es (TVc X.K e (T.cfg n) wx as)) (hn : es = [] → as = .nil) :
    PE X (.Call (.Attribute oe m ap) es [] cp) (TEc X.K e (T.cfg n) wx (.mtd m c as)) := by
  unfold mtB at hm
  simp only [Bool.or_eq_true, decide_eq_true_eq] at hm
  rcases hm with (((((rfl | rfl) | rfl) | rfl) | rfl) | rfl)
  · exact mtd_go PySem.F.slot_str_join PySem.F.type_str_join me_join hb hl hs h3 ho ha hn
  · exact mtd_go PySem.F.slot_str_split PySem.F.type_str_split me_split hb hl hs h3 ho ha hn
  · exact mtd_go PySem.F.slot_str_partition PySem.F.type_str_partition me_partition hb hl hs h3 ho ha hn
  · exact mtd_go PySem.F.slot_str_isdigit PySem.F.type_str_isdigit me_isdigit hb hl hs h3 ho ha hn
  · exact mtd_go PySem.F.slot_str_startswith PySem.F.type_str_startswith me_startswith hb hl hs h3 ho ha hn
  · exact mtd_go PySem.F.slot_str_upper PySem.F.type_str_upper me_upper hb hl hs h3 ho ha hn
theorem Rel.setOb {K : PySem.W.Frag} {w : Wd} {hp : HP} {S : RS} {σ : St} {H : Hp} (r : Rel K e w hp S σ H) {m : Nat} {p : Addr} {ob ob' : Ob} {o o' : HO} (h1 : hp[m]? = some ob) (h2 : w.oa.l[m]? = some p) (hd : ob ≠ .dead) (h3 : H p = some o) (h4 : ∀ a, o ≠ .own a) (h5 : ObR K w.oa w.g (upd H p o') p ob') :
    Rel K e w (hp.set m ob') S σ (upd H p o') ∧ Ext w H w (upd H p o') := by
  have pm : p ∈ w.oa.l := List.mem_of_getElem? h2
  have gp := r.hs.oG m ob p h1 hd h2
  have wp := r.oω p pm
  have hl : m < hp.length := (List.getElem?_eq_some_iff.mp h1).1
  have nown : ∀ a, H p ≠ some (.own a) := fun a z => by rw [h3] at z; exact h4 a (Option.some.inj z)
  have hO : Ext w H w (upd H p o') := ⟨⟨.refl _, .refl _, fun b u q hn => by
      rw [upd_ne fun z => hn (by rw [z]; exact pm)]; exact q, fun b q => by
      by_cases z : b = p
      · subst z; rw [upd_same] at q; cases q
      · rw [upd_ne z] at q; exact q, fun b u q => .inl q, fun a q => .inl q⟩, rfl⟩
  refine ⟨⟨⟨fun b u q => ?_, by simp [r.hs.oL], fun k ob2 a q1 q2 => ?_, fun k ob2 a q1 q2 q3 => ?_, r.hs.oN, fun a q => ?_⟩, r.gr.trans hO.gr, r.gω, r.oω, r.len, r.val, fun i d q => ?_, r.owned, r.eω⟩, hO⟩
  · have ne : b ≠ p := fun z => by rw [z, gp] at q; cases q
    rw [upd_ne ne]; exact r.hs.gH _ _ q
  · by_cases hk : m = k
    · subst hk
      rw [List.getElem?_set_self hl] at q1
      cases q1
      rw [h2] at q2; cases q2
      exact h5
    · rw [List.getElem?_set_ne hk] at q1
      have ne : a ≠ p := fun z => hk (r.hs.oN m k p h2 (by rw [← z]; exact q2))
      exact (r.hs.oR k ob2 a q1 q2).ext (.refl _) (.refl _) (upd_ne ne) fun dx z => by
        rw [upd_ne (fun y => nown a (by rw [← y]; exact z))]; exact z
  · by_cases hk : m = k
    · subst hk
      rw [h2] at q3; cases q3
      exact gp
    · rw [List.getElem?_set_ne hk] at q1
      exact r.hs.oG k ob2 a q1 q2 q3
  · by_cases z : a = p
    · subst z; rw [upd_same]; simp
    · rw [upd_ne z]; exact r.hs.oI a q
  · obtain ⟨p', u, e1, e2, e3, e4⟩ := r.own i d q
    exact ⟨p', u, e1, by rw [upd_ne (fun z => by rw [z, wp] at e4; cases e4)]; exact e2, e3, e4⟩
theorem mut_read {m : Str} {c : C} {as : Cs} {σ : St} {H : Hp} {Q : VK} (hq : TEc X.K e (T.cfg n) wx (.mut m c as) σ H Q) : tBM X.K "list" (rMu X.K m) (TEc X.K e (T.cfg n) wx c) (TLc X.K e (T.cfg n) wx as) σ H Q := by
  obtain ⟨w, hp, S, r, h⟩ := hq
  rw [evE] at h
  refine TEc.of r (h.bind.mono fun d1 hp1 w1 H1 _ x1 _ h1 r1 v1 raw1 => ?_)
  cases d1 with
  | obj k =>
    cases raw1 with
    | obj q1 =>
    rename_i p
    have h1' := h1
    unfold lstM_ at h1'
    simp only [Mx.bind] at h1'
    cases q2 : hp1[k]? with
    | none => rw [q2] at h1'; exact (show False from h1').elim
    | some ob =>
      rw [q2] at h1'
      cases ob with
      | lst ds0 =>
        obtain ⟨vs0, e4, e5⟩ := r1.hs.oR k _ _ q2 q1
        have h1' : PostM X.K e wx S σ w1 H1 _ ((evCs (T.cfg n) as S).bind (fun ds => mutM m (.obj k) ds) hp1) := h1'
        refine ⟨.inl ⟨rfl, vs0, .inl (.of e4)⟩, TLc.of r1 (h1'.bind.mono fun ds hp2 w2 H2 _ x2 _ h2 r2 vs rps => ?_)⟩
        have q1' := x2.gr.o.l _ _ q1
        simp only [mutM] at h2
        cases q3 : hp2[k]? with
        | none => rw [q3] at h2; exact (show False from h2).elim
        | some ob2 =>
          rw [q3] at h2
          cases ob2 with
          | lst ds2 =>
            simp only at h2
            cases q4 : mutD m ds2 ds with
            | none => rw [q4] at h2; exact (show False from h2).elim
            | some rd =>
              obtain ⟨rr, ds'⟩ := rd
              rw [q4] at h2
              obtain ⟨vs2, e6, e7⟩ := r2.hs.oR k _ _ q3 q1'
              refine ⟨w2.oa, w2.g, p, vs2, ds2, ds, rr, ds', rfl, e6, e7, rps, q4, fun v vs' rv rvs => ?_⟩
              obtain ⟨r3, x3⟩ := r2.setOb (ob' := .lst ds') (o' := .lst vs') q3 q1' (fun z => by cases z) e6 (fun a z => by cases z) ⟨vs', upd_same, rvs⟩
              exact h2 w2 _ x3 r3 v rv
          | _ => exact (show False from h2).elim
      | _ => exact (show False from h1').elim
  | _ => exact (show False from h1).elim
theorem mut_read0 {m : Str} {c : C} {σ : St} {H : Hp} {Q : VK} (hq : TEc X.K e (T.cfg n) wx (.mut m c .nil) σ H Q) : tBM0 X.K "list" (rMu X.K m) (TEc X.K e (T.cfg n) wx c) σ H Q := by
  obtain ⟨w, hp, S, r, h⟩ := hq
  rw [evE] at h
  refine TEc.of r (h.bind.mono fun d1 hp1 w1 H1 _ x1 _ h1 r1 v1 raw1 => ?_)
  cases d1 with
  | obj k =>
    cases raw1 with
    | obj q1 =>
    rename_i p
    unfold lstM_ at h1
    simp only [Mx.bind] at h1
    cases q2 : hp1[k]? with
    | none => rw [q2] at h1; exact (show False from h1).elim
    | some ob =>
      rw [q2] at h1
      cases ob with
      | lst ds0 =>
        obtain ⟨vs0, e4, e5⟩ := r1.hs.oR k _ _ q2 q1
        have h1 : PostM X.K e wx S σ w1 H1 _ ((evCs (T.cfg n) .nil S).bind (fun ds => mutM m (.obj k) ds) hp1) := h1
        simp only [evCs, Mx.pure_bind] at h1
        simp only [mutM] at h1
        rw [q2] at h1
        simp only at h1
        cases q4 : mutD m ds0 [] with
        | none => rw [q4] at h1; exact (show False from h1).elim
        | some rd =>
          obtain ⟨rr, ds'⟩ := rd
          rw [q4] at h1
          refine ⟨.inl ⟨rfl, vs0, .inl (.of e4)⟩, w1.oa, w1.g, p, vs0, ds0, [], rr, ds', rfl, e4, e5, .nil, q4, fun v vs' rv rvs => ?_⟩
          obtain ⟨r3, x3⟩ := r1.setOb (ob' := .lst ds') (o' := .lst vs') q2 q1 (fun z => by cases z) e4 (fun a z => by cases z) ⟨vs', upd_same, rvs⟩
          exact h1 w1 _ x3 r3 v rv
      | _ => exact (show False from h1).elim
  | _ => exact (show False from h1).elim
theorem mut_go {m : Str} {id : String} (slot : Slot "list" m id) (hty : typeOf (.builtin id) = pure (.type "method_descriptor")) (hm : MtR X id (rMu X.K m)) {c : C} {as : Cs} {oe : Expr} {es : List Expr} {ap cp : Pos} (hb : rcvB oe = true) (hl : (ap.endLine == cp.line) = true) (hs : StarOk es) (h3 : es.length < 3) (ho : PE X oe (TEc X.K e (T.cfg n) wx c)) (ha : PA X es (TLc X.K e (T.cfg n) wx as)) (hn : es = [] → as = .nil) :
    PE X (.Call (.Attribute oe m ap) es [] cp) (TEc X.K e (T.cfg n) wx (.mut m c as)) := by
  have hb := base_ok hb m X.env
  match es, hs, h3, ha, hn with
  | [], _, _, _, hn =>
    rw [hn rfl]
    exact imE (pe_bm0 PySem.F.plainAttrs_list slot hty hm ho hb hl) fun _ _ _ h => mut_read0 h
  | [a], hs, _, ha, _ =>
    have h1 := hs a (by simp)
    exact imE (pe_bm PySem.F.plainAttrs_list slot hty hm ho ha hb (by rw [h1]; rfl) hl (h1 _ _) (by rfl)) fun _ _ _ h => mut_read h
  | [a, b], hs, _, ha, _ =>
    have h1 := hs a (by simp)
    have h2 := hs b (by simp)
    exact imE (pe_bm PySem.F.plainAttrs_list slot hty hm ho ha hb (by rw [h1, h2]; rfl) hl (h1 _ _) (by rw [h2]; rfl)) fun _ _ _ h => mut_read h
theorem se_mut {m : Str} (hm : muB m = true) {c : C} {as : Cs} {oe : Expr} {es : List Expr} {ap cp : Pos} (hb : rcvB oe = true) (hl : (ap.endLine == cp.line) = true) (hs : StarOk es) (h3 : es.length < 3) (ho : PE X oe (TEc X.K e (T.cfg n) wx c)) (ha : PA X es (TLc X.K e (T.cfg n) wx as)) (hn : es = [] → as = .nil) :
    PE X (.Call (.Attribute oe m ap) es [] cp) (TEc X.K e (T.cfg n) wx (.mut m c as)) := by
  unfold muB at hm
  simp only [Bool.or_eq_true, decide_eq_true_eq] at hm
  rcases hm with ((((rfl | rfl) | rfl) | rfl) | rfl)
  · exact mut_go PySem.F.slot_list_append PySem.F.type_list_append mu_append hb hl hs h3 ho ha hn
  · exact mut_go PySem.F.slot_list_pop PySem.F.type_list_pop mu_pop hb hl hs h3 ho ha hn
  · exact mut_go PySem.F.slot_list_clear PySem.F.type_list_clear mu_clear hb hl hs h3 ho ha hn
  · exact mut_go PySem.F.slot_list_reverse PySem.F.type_list_reverse mu_reverse hb hl hs h3 ho ha hn
  · exact mut_go PySem.F.slot_list_insert PySem.F.type_list_insert mu_insert hb hl hs h3 ho ha hn
theorem KReps.find {K : PySem.W.Frag} {oa : Os} {G : Hp} {k : Key} : ∀ {ds : List (Key × D)} {vs : List (Key × V)}, KReps K oa G ds vs → (∀ d, (ds.find? fun p => decide (p.1 = k)).map (·.2) = some d → ∃ v, valV vs k = some v ∧ Rep K oa G d v) ∧ ((ds.find? fun p => decide (p.1 = k)).map (·.2) = none → valV vs k = none)
  | _, _, .nil => ⟨fun d z => by simp at z, fun _ => rfl⟩
  | _, _, .cons (k := k') (d := d') (v := v') h r => by
    by_cases hk : k' = k
    · refine ⟨fun d z => ?_, fun z => ?_⟩
      · simp [List.find?_cons, hk] at z
        subst z
        exact ⟨v', by simp [valV, List.find?_cons, hk], h⟩
      · simp [List.find?_cons, hk] at z
    · obtain ⟨a, b⟩ := KReps.find (k := k) r
      refine ⟨fun d z => ?_, fun z => ?_⟩
      · simp only [List.find?_cons, hk, decide_false] at z
        obtain ⟨v, e, q⟩ := a d z
        exact ⟨v, by simpa only [valV, List.find?_cons, hk, decide_false] using e, q⟩
      · simp only [List.find?_cons, hk, decide_false] at z
        simpa only [valV, List.find?_cons, hk, decide_false] using b z
theorem View.dicE {K : PySem.W.Frag} {oa : Os} {G H : Hp} {v : V} (t : Sub G H) {ds : List (Key × D)} (h : View K oa G H (.dic ds) v) : ∃ p vs, v = .ref p ∧ H p = some (.dK vs) ∧ KReps K oa G ds vs := by
  cases h with
  | rep r => cases r with | dic q r => exact ⟨_, _, rfl, t _ _ q, r⟩
  | dic q r => exact ⟨_, _, rfl, q, r⟩
theorem key_of {K : PySem.W.Frag} {oa : Os} {G : Hp} {y : D} {v : V} {k : Key} (h : Rep K oa G y v) (e : keyD y = some k) : v = kV k := by
  cases y with
  | int i => simp only [keyD, Option.some.injEq] at e; subst e; rw [h.intE]; rfl
  | str i => simp only [keyD, Option.some.injEq] at e; subst e; rw [h.strE]; rfl
  | _ => simp [keyD] at e
theorem se_dget (g : Gq T n N sc e wx X) {a k : C} {ea ek : Expr} {pos : Pos} (hs : PlainIx ek) (ha : PE X ea (TOc X.K e (T.cfg n) wx a)) (hk : PE X ek (TEc X.K e (T.cfg n) wx k)) : PE X (.Subscript ea ek pos) (TEc X.K e (T.cfg n) wx (.dget a k)) :=
  imE (pe_dget (by have := g.units; omega) ha hk hs) fun σ H Q ⟨w, hp, S, r, h⟩ => by
    rw [evE] at h
    refine TOc.of r (h.bind.mono fun d1 hp1 w1 H1 _ x1 _ h1 r1 v1 raw1 => ?_)
    refine TEc.of r1 (h1.bind.mono fun d2 hp2 w2 H2 _ x2 _ h2 r2 v2 rp2 => ?_)
    have vw1 := (raw1.ext r1 x2).view r2
    unfold dgetM at h2
    cases q : vw hp2 d1 with
    | dic kvs =>
      rw [q] at h2 vw1
      obtain ⟨p, vs, rfl, e1, e2⟩ := vw1.dicE r2.hs.gH
      obtain ⟨d, e3, h3⟩ := PostM.lift h2
      unfold getD_ at e3
      cases qk : keyD d2 with
      | none => rw [qk] at e3; cases e3
      | some key =>
        rw [qk] at e3
        obtain ⟨v, e4, e5⟩ := (e2.find (k := key)).1 d e3
        rw [key_of rp2 qk]
        exact ⟨p, v, rfl, by rw [← e4]; exact DGet.k e1, h3 w2 H2 (.refl _ _) r2 v e5⟩
    | _ => rw [q] at h2; exact (show False from h2).elim
theorem din_fin {ng : Bool} {k a : C} {σ : St} {H : Hp} {Q : VK} (hq : TEc X.K e (T.cfg n) wx (.din ng k a) σ H Q) : TEc X.K e (T.cfg n) wx k σ H fun y H1 => TOc X.K e (T.cfg n) wx a σ H1 fun x H2 => ∃ p o, x = .ref p ∧ DGet H2 p y o ∧ Q (.bl (ng != o.isSome)) H2 := by
  obtain ⟨w, hp, S, r, h⟩ := hq
  rw [evE] at h
  refine TEc.of r (h.bind.mono fun d1 hp1 w1 H1 _ x1 _ h1 r1 v1 rp1 => ?_)
  refine TOc.of r1 (h1.bind.mono fun d2 hp2 w2 H2 _ x2 _ h2 r2 v2 raw2 => ?_)
  have vw2 := raw2.view r2
  unfold dinM at h2
  cases q : vw hp2 d2 with
  | dic kvs =>
    rw [q] at h2 vw2
    obtain ⟨p, vs, rfl, e1, e2⟩ := vw2.dicE r2.hs.gH
    cases qk : keyD d1 with
    | none => rw [qk] at h2; exact (show False from h2).elim
    | some key =>
      rw [qk] at h2
      have h2 := h2 w2 H2 (.refl _ _) r2
      rw [key_of rp1 qk]
      refine ⟨p, _, rfl, DGet.k e1, ?_⟩
      have e6 : (getD_ kvs d1).isSome = (valV vs key).isSome := by
        unfold getD_
        rw [qk]
        simp only [Option.bind_some]
        cases z : (kvs.find? fun p => decide (p.1 = key)).map (·.2) with
        | none => rw [(e2.find (k := key)).2 z]; rfl
        | some d => obtain ⟨v, e4, _⟩ := (e2.find (k := key)).1 d z; rw [e4]; rfl
      rw [← e6]
      exact h2 _ (.bl _)
  | _ => rw [q] at h2; exact (show False from h2).elim
theorem se_din (g : Gq T n N sc e wx X) {ng : Bool} {k a : C} {ek ea : Expr} {pos : Pos} (hm : behindInMarks (if ng then .NotIn else .In) ea = false) (hk : PE X ek (TEc X.K e (T.cfg n) wx k)) (ha : PE X ea (TOc X.K e (T.cfg n) wx a)) : PE X (.Compare ek [if ng then .NotIn else .In] [ea] pos) (TEc X.K e (T.cfg n) wx (.din ng k a)) := by
  have hu : X.A.units + 1 < cLine := by have := g.units; omega
  cases ng with
  | false =>
    refine imE (pe_cmp (pc_din hu hk ha) hm) fun σ H Q h => (din_fin h).mono fun y H1 h1 => ?_
    obtain ⟨w, hp, S, r, h1⟩ := h1
    exact ⟨w, hp, S, r, h1.mono fun d2 hp2 w2 H2 _ _ _ z v rw' => by obtain ⟨p, o, e1, e2, e3⟩ := z v rw'; exact ⟨p, o, e1, e2, by simpa using e3⟩⟩
  | true =>
    refine imE (pe_cmp (pc_dnotin hu hk ha) hm) fun σ H Q h => (din_fin h).mono fun y H1 h1 => ?_
    obtain ⟨w, hp, S, r, h1⟩ := h1
    exact ⟨w, hp, S, r, h1.mono fun d2 hp2 w2 H2 _ _ _ z v rw' => by obtain ⟨p, o, e1, e2, e3⟩ := z v rw'; exact ⟨p, o, e1, e2, by simpa using e3⟩⟩

theorem din_bl {Γ : Cfg} {ng : Bool} {k a : C} {S : RS} {hp hp' : HP} {d : D} (h : evE Γ (.din ng k a) S hp = .ok d hp') : ∃ b, d = .bl b := by
  rw [evE] at h
  simp only [Mx.bind] at h
  cases q1 : evE Γ k S hp with
  | ok y h1 =>
    rw [q1] at h
    simp only at h
    cases q2 : evE Γ a S h1 with
    | ok x h2 =>
      rw [q2] at h
      simp only [dinM] at h
      split at h
      · cases h; exact ⟨_, rfl⟩
      · cases h
    | exc x h2 => rw [q2] at h; cases h
    | stuck => rw [q2] at h; cases h
  | exc x h1 => rw [q1] at h; cases h
  | stuck => rw [q1] at h; cases h
theorem st_din (g : Gq T n N sc e wx X) {ng : Bool} {k a : C} {ek ea : Expr} {pos : Pos} (hm : behindInMarks (if ng then .NotIn else .In) ea = false) (hk : PE X ek (TEc X.K e (T.cfg n) wx k)) (ha : PE X ea (TOc X.K e (T.cfg n) wx a)) : PT X (.Compare ek [if ng then .NotIn else .In] [ea] pos) (TTc X.K e (T.cfg n) wx (.din ng k a)) := by
  have hu : X.A.units + 1 < cLine := by have := g.units; omega
  have key : ∀ σ H Q, TTc X.K e (T.cfg n) wx (.din ng k a) σ H Q → TEc X.K e (T.cfg n) wx (.din ng k a) σ H fun v H1 => ∃ c, v = .bl c ∧ Q c H1 := fun σ H Q ⟨w, hp, S, r, h⟩ => by
    have hv : evT (T.cfg n) (.din ng k a) S = (evE (T.cfg n) (.din ng k a) S).bind truM := by rw [evT]; all_goals simp
    rw [hv] at h
    refine TEc.of r (h.bind.mono fun d hp1 w1 H1 q x1 _ h1 r1 v rp => ?_)
    obtain ⟨b, rfl⟩ := din_bl q
    exact ⟨b, rp.blE, h1 w1 H1 (.refl _ _) r1⟩
  cases ng with
  | false =>
    refine imT (pt_cmp (pc_din hu hk ha) hm) fun σ H Q h => (din_fin (key σ H Q h)).mono fun y H1 h1 => ?_
    obtain ⟨w, hp, S, r, h1⟩ := h1
    exact ⟨w, hp, S, r, h1.mono fun d2 hp2 w2 H2 _ _ _ z v rw' => by obtain ⟨p, o, e1, e2, e3⟩ := z v rw'; exact ⟨p, o, e1, e2, by simpa using e3⟩⟩
  | true =>
    refine imT (pt_cmp (pc_dnotin hu hk ha) hm) fun σ H Q h => (din_fin (key σ H Q h)).mono fun y H1 h1 => ?_
    obtain ⟨w, hp, S, r, h1⟩ := h1
    exact ⟨w, hp, S, r, h1.mono fun d2 hp2 w2 H2 _ _ _ z v rw' => by obtain ⟨p, o, e1, e2, e3⟩ := z v rw'; exact ⟨p, o, e1, e2, by simpa using e3⟩⟩

/-- what stands still meanwhile: what names own, what is in the heap -/
def Still (w : Wd) (hp : HP) (b : Addr) : Prop := (w.ω b).isSome = true ∨ ∃ (m : Nat) (ob : Ob), hp[m]? = some ob ∧ ob ≠ .dead ∧ w.oa.l[m]? = some b
open Classical in
noncomputable def gAllO (w : Wd) (hp : HP) (H : Hp) : Hp := fun b => match w.g b with
  | some o => some o
  | none => if Still w hp b then H b else none
section
variable {K : PySem.W.Frag} {w : Wd} {hp : HP} {S : RS} {σ : St} {H : Hp}
theorem still_g (r : Rel K e w hp S σ H) {b : Addr} (h : Still w hp b) : w.g b = none := by
  rcases h with h | ⟨m, ob, h1, h2, h3⟩
  · obtain ⟨i, hi⟩ := Option.isSome_iff_exists.mp h
    exact r.ownG hi
  · exact r.hs.oG m ob b h1 h2 h3
theorem gAllO_sub (r : Rel K e w hp S σ H) : Sub (gAllO w hp H) H := fun b o q => by
  unfold gAllO at q
  split at q
  · rename_i u hu; cases q; exact r.hs.gH _ _ hu
  · split at q
    · exact q
    · cases q
theorem G_gAllO : Sub w.g (gAllO w hp H) := fun b o q => by unfold gAllO; rw [q]
theorem gAllO_at (r : Rel K e w hp S σ H) {b : Addr} (h : Still w hp b) : gAllO w hp H b = H b := by
  unfold gAllO
  rw [still_g r h]
  exact if_pos h
theorem still_H (r : Rel K e w hp S σ H) {b : Addr} (h : Still w hp b) : ∃ o, H b = some o ∧ (∀ vs, o ≠ .tup vs) ∧ ∀ u vs, o ≠ .frz u (.tup vs) := by
  rcases h with h | ⟨m, ob, h1, h2, h3⟩
  · obtain ⟨i, hi⟩ := Option.isSome_iff_exists.mp h
    obtain ⟨d1, o1, _, _, e3, e4⟩ := r.ownH hi
    exact ⟨o1, e3, cont_noTup e4⟩
  · have q := r.hs.oR m ob b h1 h3
    cases ob with
    | lst ds => obtain ⟨vs, e1, _⟩ := q; exact ⟨_, e1, fun _ z => (by cases z), fun _ _ z => (by cases z)⟩
    | dic ds => obtain ⟨vs, e1, _⟩ := q; exact ⟨_, e1, fun _ z => (by cases z), fun _ _ z => (by cases z)⟩
    | inst c fs => obtain ⟨C, dx, fv, _, e1, _⟩ := q; exact ⟨_, e1, fun _ z => (by cases z), fun _ _ z => (by cases z)⟩
    | dead => exact absurd rfl h2
theorem Reps.mapF {oa : Os} {G G1 : Hp} {f : D → D} (ih : ∀ d v, Rep K oa G d v → Rep K oa G1 (f d) v) : ∀ {ds : List D} {vs : List V}, Reps K oa G ds vs → Reps K oa G1 (ds.map f) vs
  | _, _, .nil => .nil
  | _, _, .cons h r => .cons (ih _ _ h) (Reps.mapF ih r)
theorem KReps.mapF {oa : Os} {G G1 : Hp} {f : D → D} (ih : ∀ d v, Rep K oa G d v → Rep K oa G1 (f d) v) : ∀ {ds : List (Key × D)} {vs : List (Key × V)}, KReps K oa G ds vs → KReps K oa G1 (ds.map fun p => (p.1, f p.2)) vs
  | _, _, .nil => .nil
  | _, _, .cons h r => .cons (ih _ _ h) (KReps.mapF ih r)
theorem rsv_rep (r : Rel K e w hp S σ H) : ∀ (k : Nat) (d : D) (v : V), Rep K w.oa w.g d v → Rep K w.oa (gAllO w hp H) (rsv k hp d) v
  | 0, d, v, h => by rw [rsv]; exact h.up G_gAllO
  | k + 1, d, v, h => by
    have ih := rsv_rep r k
    have h' := h.up (G_gAllO (w := w) (hp := hp) (H := H))
    cases d with
    | obj m =>
      cases h with
      | obj q =>
        rename_i p
        simp only [rsv]
        cases z : hp[m]? with
        | none => exact h'
        | some ob =>
          cases ob with
          | lst ds =>
            obtain ⟨vs, e1, e2⟩ := r.hs.oR m _ _ z q
            exact .lst (.inl (.inl ((gAllO_at r (.inr ⟨m, _, z, (fun y => by cases y), q⟩)).trans e1))) (e2.mapF ih)
          | dic ds =>
            obtain ⟨vs, e1, e2⟩ := r.hs.oR m _ _ z q
            exact .dic ((gAllO_at r (.inr ⟨m, _, z, (fun y => by cases y), q⟩)).trans e1) (e2.mapF ih)
          | _ => exact h'
    | tup ds => cases h with | tup q z => exact .tup ((G_gAllO (w := w) (hp := hp) (H := H)).sqT q) (by simpa only [rsv] using z.mapF ih)
    | lst ds => cases h with | lst q z => exact .lst ((G_gAllO (w := w) (hp := hp) (H := H)).sqL q) (by simpa only [rsv] using z.mapF ih)
    | _ => simpa only [rsv] using h'
theorem rsv_raw (r : Rel K e w hp S σ H) {d : D} {v : V} (h : Raw K w H d v) : Rep K w.oa (gAllO w hp H) (rsv 9 hp d) v := by
  cases h with
  | rep h => exact rsv_rep r 9 d v h
  | own a b c =>
    have e5 := (gAllO_at r (.inl (by rw [c]; rfl))).trans a
    cases d with
    | lst ds =>
      obtain ⟨vs, rfl, rr⟩ := b
      exact .lst (.inl (.inl e5)) (by simpa only [rsv] using rr.mapF (rsv_rep r 8))
    | dic ds =>
      obtain ⟨vs, rfl, rr⟩ := b
      exact .dic e5 (by simpa only [rsv] using rr.up G_gAllO)
    | _ => exact (show False from b).elim
theorem rsv_raws (r : Rel K e w hp S σ H) : ∀ {ds : List D} {vs : List V}, Raws K w H ds vs → Reps K w.oa (gAllO w hp H) (ds.map (rsv 9 hp)) vs
  | _, _, .nil => .nil
  | _, _, .cons h t => .cons (rsv_raw r h) (rsv_raws r t)
end
theorem se_isr (g : Gd T n N sc e wx X) {f : Str} {as : Cs} {es : List Expr} {p pos : Pos} (hfs : (T.fn f).isSome = true) (hmt : isMt f = false) (hg : glB sc (bs f) = true) (ho : okN (bs f) = true) (hs : ∀ ex ∈ es.head?, ∀ xs env, starEach (ex :: xs) env = (false, eval ex env) :: starEach xs env)
    (hpl : (backTo pos (starEach es.tail X.env)).any (·.1) = false) (hn : es = [] → as = .nil) (ha : PA X es (TVc X.K e (T.cfg n) wx as)) : PE X (.Call (.Name (bs f) p) es [] pos) (TEc X.K e (T.cfg n) wx (.isr f as)) := by
  obtain ⟨fn, hf⟩ := Option.isSome_iff_exists.mp hfs
  obtain ⟨fa, fd, ps, h1, h2, h3, h4, h5⟩ := g.call f fn hf hmt
  have fin : ∀ {σ : St} {H H1 : Hp} {Q : VK} {w1 : Wd} {hp1 : HP} {S : RS} {ds : List D} {vs : List V}, Rel X.K e w1 hp1 S σ H1 → Raws X.K w1 H1 ds vs → (∀ b, H1 b = none → H b = none) →
      PostM X.K e wx S σ w1 H1 (fun d _ w' H' => ∀ v, Res1 X.K H w' H' d (T.fresh f) v → Q v H') (isrM (T.fresh f) (callF T n f) ds hp1) → spF X.K e.w.oa.cm T n f fn.ps vs H1 Q (WE (WW X.K e wx) σ) := fun {σ H H1 Q w1 hp1 S ds vs} r1 rv hb h => by
    unfold isrM at h
    split at h
    · rename_i hno
      exact iso_postG (pk := true) (Still w1 hp1) (gAllO w1 hp1 H1) r1 G_gAllO (gAllO_sub r1) (rsv_raws r1 rv) hno (fun b o q => by
        unfold gAllO at q
        split at q
        · rename_i u hu; cases q; exact .inl hu
        · split at q
          · rename_i z; exact .inr ⟨rfl, z⟩
          · cases q) (fun b o _ z q => (gAllO_at r1 z).trans q) (fun b z => still_g r1 z) (fun b z => still_H r1 z) hf hb h
    · exact (show False from h).elim
  cases es with
  | nil =>
    refine imE (pe_call0S h5 g.room (g.gl hg) h1 h2 h3 (fun σ => passAt g.tk σ) (okN1 ho)) fun σ H Q h => ?_
    obtain ⟨w, hp, S, r, h⟩ := h
    rw [evE] at h
    have he : evCs (T.cfg n) as S = Mx.pure [] := by rw [hn rfl]; simp only [evCs]
    rw [he] at h
    exact fin r .nil (fun _ z => z) h
  | cons ex xs =>
    refine imE (pe_callS h5 g.room (g.gl hg) h1 h2 h3 (fun σ => passAt g.tk σ) ha (okN1 ho) (hs ex (by simp) xs X.env) hpl) fun σ H Q ⟨w, hp, S, r, h⟩ => ?_
    rw [evE] at h
    refine TVc.of r (h.bind.mono fun ds hp1 w1 H1 _ x1 _ h1 r1 vs rps => ?_)
    exact fin r1 rps x1.gr.i h1
end
end RR

namespace RR
open PySem L2

/-- an iterator yields these things -/
structure Serve (K : PySem.W.Frag) (e : En) (J : L2.It) (gd : Gw → Prop) (ds : List D) : Prop where
  mono : ∀ G G' : Gw, Sub G.g G'.g → Oa G.oa G'.oa → gd G → gd G'
  item : ∀ (i : Nat) (w : Wd) (hp : HP) (S : RS) (σ : St) (H : Hp) (d : D), Rel K e w hp S σ H → gd w.toGw → ds[i]? = some d → J.go i H ∧ ∀ x H', J.yld i H x H' → ∃ w', Ext w H w' H' ∧ Rel K e w' hp S σ H' ∧ Rep K w'.oa w'.g d x
  stop : ∀ (i : Nat) (w : Wd) (hp : HP) (S : RS) (σ : St) (H : Hp), Rel K e w hp S σ H → gd w.toGw → i = ds.length → J.stop i H
def TIc (K : PySem.W.Frag) (e : En) (Γ : Cfg) (wx : D → RS → HP → Prop) (it : It) : TI := fun σ H R => ∃ w hp S, Rel K e w hp S σ H ∧ PostM K e wx S σ w H (fun ds hp' w' H' => ∀ J gd, Rel K e w' hp' S σ H' → Serve K e J gd ds → gd w'.toGw → (it.sz = true → ds.length ≤ LINE) → R J H') (evIt Γ it S hp)
theorem imI {X : Cx} {tg ex : Expr} {t t' : TI} (p : PI X tg ex t) (h : ∀ σ H R, t' σ H R → t σ H R) : PI X tg ex t' := ⟨fun a b c d f g k => p.run a b c d f g (h _ _ _ k)⟩

section
variable {K : PySem.W.Frag} {e : En}
theorem serve_list {a : Addr} {vs : List V} {ds : List D} : Serve K e (Itl K a) (fun G => SqL K G.g a vs ∧ Reps K G.oa G.g ds vs) ds where
  mono := fun G G' s o h => ⟨s.sqL h.1, h.2.mono s o⟩
  item := fun i w hp S σ H d r h hd => by
    obtain ⟨v, e1, e2⟩ := h.2.get hd
    have q : SqL K H a vs := r.hs.gH.sqL h.1
    refine ⟨⟨vs, v, q, e1⟩, fun x H' y => ?_⟩
    obtain ⟨rfl, y⟩ := y
    have := y vs q
    rw [e1] at this
    cases this
    exact ⟨w, .refl _ _, r, e2⟩
  stop := fun i w hp S σ H r h hl0 => have hl := Nat.le_of_eq hl0.symm; ⟨vs, r.hs.gH.sqL h.1, by rw [← h.2.length]; exact hl⟩
theorem serve_tup {a : Addr} {vs : List V} {ds : List D} : Serve K e (Itt K a) (fun G => SqT K G.g a vs ∧ Reps K G.oa G.g ds vs) ds where
  mono := fun G G' s o h => ⟨s.sqT h.1, h.2.mono s o⟩
  item := fun i w hp S σ H d r h hd => by
    obtain ⟨v, e1, e2⟩ := h.2.get hd
    have q : SqT K H a vs := r.hs.gH.sqT h.1
    refine ⟨⟨vs, v, q, e1⟩, fun x H' y => ?_⟩
    obtain ⟨rfl, y⟩ := y
    have := y vs q
    rw [e1] at this
    cases this
    exact ⟨w, .refl _ _, r, e2⟩
  stop := fun i w hp S σ H r h hl0 => have hl := Nat.le_of_eq hl0.symm; ⟨vs, r.hs.gH.sqT h.1, by rw [← h.2.length]; exact hl⟩
theorem serve_range {lo : Int} {m : Nat} : Serve K e (Itr lo m) (fun _ => True) ((List.range m).map fun (k : Nat) => .int (lo + (k : Int))) where
  mono := fun _ _ _ _ h => h
  item := fun i w hp S σ H d r h hd => by
    have li : i < m := by
      have := (List.getElem?_eq_some_iff.mp hd).1
      simpa using this
    rw [List.getElem?_map, List.getElem?_range li] at hd
    cases hd
    refine ⟨li, fun x H' y => ?_⟩
    obtain ⟨rfl, rfl⟩ := y
    exact ⟨w, .refl _ _, r, .int _⟩
  stop := fun i w hp S σ H r h hl0 => have hl := Nat.le_of_eq hl0.symm; by
    show m ≤ i
    simpa using hl
theorem serve_rangeC {lo c : Int} {m : Nat} : Serve K e (Itc lo c m) (fun _ => True) ((List.range m).map fun (k : Nat) => .int (lo + (k : Int) * c)) where
  mono := fun _ _ _ _ h => h
  item := fun i w hp S σ H d r h hd => by
    have li : i < m := by
      have := (List.getElem?_eq_some_iff.mp hd).1
      simpa using this
    rw [List.getElem?_map, List.getElem?_range li] at hd
    cases hd
    refine ⟨li, fun x H' y => ?_⟩
    obtain ⟨rfl, rfl⟩ := y
    exact ⟨w, .refl _ _, r, .int _⟩
  stop := fun i w hp S σ H r h hl0 => have hl := Nat.le_of_eq hl0.symm; by
    show m ≤ i
    simpa using hl
theorem enumD_get : ∀ (k : Nat) (ds : List D) (i : Nat) (d : D), (enumD k ds)[i]? = some d → ∃ d', ds[i]? = some d' ∧ d = .tup [.int ((k + i : Nat) : Int), d']
  | _, [], _, _, h => by simp [enumD] at h
  | k, x :: xs, 0, d, h => by simp [enumD] at h; subst h; exact ⟨x, by simp, by simp⟩
  | k, x :: xs, i + 1, d, h => by
    simp only [enumD, List.getElem?_cons_succ] at h
    obtain ⟨d', h1, h2⟩ := enumD_get (k + 1) xs i d h
    exact ⟨d', by simpa using h1, by rw [h2, show k + 1 + i = k + (i + 1) by omega]⟩
theorem enumD_length : ∀ (k : Nat) (ds : List D), (enumD k ds).length = ds.length
  | _, [] => rfl
  | k, x :: xs => by simp [enumD, enumD_length (k + 1) xs]
theorem serve_enum {a : Addr} {vs : List V} {ds : List D} : Serve K e (Ite K a) (fun G => SqL K G.g a vs ∧ Reps K G.oa G.g ds vs) (enumD 0 ds) where
  mono := fun G G' s o h => ⟨s.sqL h.1, h.2.mono s o⟩
  item := fun i w hp S σ H d r h hd => by
    obtain ⟨d', h1, rfl⟩ := enumD_get 0 ds i d hd
    obtain ⟨v, e1, e2⟩ := h.2.get h1
    have q : SqL K H a vs := r.hs.gH.sqL h.1
    refine ⟨⟨vs, v, q, e1⟩, fun x H' y => ?_⟩
    obtain ⟨t, x', rfl, hn, rfl, y⟩ := y
    have := y vs q
    rw [e1] at this
    cases this
    refine ⟨_, .allocG r.hs.gH hn, r.allocG hn, .tup (.inl (.inl upd_same)) (.cons ?_ (.cons (e2.up (Sub.upd (r.gnone hn))) .nil))⟩
    rw [Nat.zero_add]
    exact .int _
  stop := fun i w hp S σ H r h hl0 => have hl := Nat.le_of_eq hl0.symm; ⟨vs, r.hs.gH.sqL h.1, by rw [← h.2.length]; rw [enumD_length] at hl; exact hl⟩
theorem zipD_get : ∀ (ds es : List D) (i : Nat) (d : D), (zipD ds es)[i]? = some d → ∃ d1 d2, ds[i]? = some d1 ∧ es[i]? = some d2 ∧ d = .tup [d1, d2]
  | [], _, _, _, h => by simp [zipD] at h
  | _ :: _, [], _, _, h => by simp [zipD] at h
  | x :: xs, y :: ys, 0, d, h => by simp [zipD] at h; subst h; exact ⟨x, y, by simp, by simp, rfl⟩
  | x :: xs, y :: ys, i + 1, d, h => by
    simp only [zipD, List.getElem?_cons_succ] at h
    obtain ⟨d1, d2, h1, h2, h3⟩ := zipD_get xs ys i d h
    exact ⟨d1, d2, by simpa using h1, by simpa using h2, h3⟩
theorem zipD_stop : ∀ (ds es : List D) (i : Nat), (zipD ds es).length ≤ i → ds.length ≤ i ∨ es.length ≤ i
  | [], _, _, _ => .inl (Nat.zero_le _)
  | _ :: _, [], _, _ => .inr (Nat.zero_le _)
  | x :: xs, y :: ys, 0, h => by simp [zipD] at h
  | x :: xs, y :: ys, i + 1, h => by
    simp only [zipD, List.length_cons] at h
    rcases zipD_stop xs ys i (by omega) with z | z
    · exact .inl (by simp; omega)
    · exact .inr (by simp; omega)
theorem serve_zip {a b : Addr} {vs us : List V} {ds es : List D} : Serve K e (Itz K a b) (fun G => (SqL K G.g a vs ∧ Reps K G.oa G.g ds vs) ∧ SqL K G.g b us ∧ Reps K G.oa G.g es us) (zipD ds es) where
  mono := fun G G' s o h => ⟨⟨s.sqL h.1.1, h.1.2.mono s o⟩, s.sqL h.2.1, h.2.2.mono s o⟩
  item := fun i w hp S σ H d r h hd => by
    obtain ⟨d1, d2, h1, h2, rfl⟩ := zipD_get ds es i d hd
    obtain ⟨v, e1, e2⟩ := h.1.2.get h1
    obtain ⟨u, f1, f2⟩ := h.2.2.get h2
    have q : SqL K H a vs := r.hs.gH.sqL h.1.1
    have q2 : SqL K H b us := r.hs.gH.sqL h.2.1
    refine ⟨⟨vs, us, v, u, q, q2, e1, f1⟩, fun x H' y => ?_⟩
    obtain ⟨t, x', y', rfl, hn, rfl, y, z⟩ := y
    have g1 := y vs q
    rw [e1] at g1
    cases g1
    have g2 := z us q2
    rw [f1] at g2
    cases g2
    have m := Sub.upd (o := .tup [v, u]) (r.gnone hn)
    exact ⟨_, .allocG r.hs.gH hn, r.allocG hn, .tup (.inl (.inl upd_same)) (.cons (e2.up m) (.cons (f2.up m) .nil))⟩
  stop := fun i w hp S σ H r h hl0 => have hl := Nat.le_of_eq hl0.symm; ⟨vs, us, r.hs.gH.sqL h.1.1, r.hs.gH.sqL h.2.1, by rw [← h.1.2.length, ← h.2.2.length]; exact zipD_stop _ _ _ hl⟩
theorem serve_zipT {a b : Addr} {vs us : List V} {ds es : List D} : Serve K e (RZ.ItzT K a b) (fun G => (SqT K G.g a vs ∧ Reps K G.oa G.g ds vs) ∧ SqT K G.g b us ∧ Reps K G.oa G.g es us) (zipD ds es) where
  mono := fun G G' s o h => ⟨⟨s.sqT h.1.1, h.1.2.mono s o⟩, s.sqT h.2.1, h.2.2.mono s o⟩
  item := fun i w hp S σ H d r h hd => by
    obtain ⟨d1, d2, h1, h2, rfl⟩ := zipD_get ds es i d hd
    obtain ⟨v, e1, e2⟩ := h.1.2.get h1
    obtain ⟨u, f1, f2⟩ := h.2.2.get h2
    have q : SqT K H a vs := r.hs.gH.sqT h.1.1
    have q2 : SqT K H b us := r.hs.gH.sqT h.2.1
    refine ⟨⟨vs, us, v, u, q, q2, e1, f1⟩, fun x H' y => ?_⟩
    obtain ⟨t, x', y', rfl, hn, rfl, y, z⟩ := y
    have g1 := y vs q
    rw [e1] at g1
    cases g1
    have g2 := z us q2
    rw [f1] at g2
    cases g2
    have m := Sub.upd (o := .tup [v, u]) (r.gnone hn)
    exact ⟨_, .allocG r.hs.gH hn, r.allocG hn, .tup (.inl (.inl upd_same)) (.cons (e2.up m) (.cons (f2.up m) .nil))⟩
  stop := fun i w hp S σ H r h hl0 => have hl := Nat.le_of_eq hl0.symm; ⟨vs, us, r.hs.gH.sqT h.1.1, r.hs.gH.sqT h.2.1, by rw [← h.1.2.length, ← h.2.2.length]; exact zipD_stop _ _ _ hl⟩
theorem zipD_len : ∀ (ds es : List D), (zipD ds es).length = min ds.length es.length
  | [], _ => by simp [zipD]
  | _ :: _, [] => by simp [zipD]
  | x :: xs, y :: ys => by simp only [zipD, List.length_cons, zipD_len xs ys]; omega
theorem serve_zipM {a b : Addr} {vs us : List V} {ds es : List D} : Serve K e (ItzM K a b) (fun G => (SqT K G.g a vs ∧ Reps K G.oa G.g ds vs) ∧ SqL K G.g b us ∧ Reps K G.oa G.g es us) (zipD ds es) where
  mono := fun G G' s o h => ⟨⟨s.sqT h.1.1, h.1.2.mono s o⟩, s.sqL h.2.1, h.2.2.mono s o⟩
  item := fun i w hp S σ H d r h hd => by
    obtain ⟨d1, d2, h1, h2, rfl⟩ := zipD_get ds es i d hd
    obtain ⟨v, e1, e2⟩ := h.1.2.get h1
    obtain ⟨u, f1, f2⟩ := h.2.2.get h2
    have q : SqT K H a vs := r.hs.gH.sqT h.1.1
    have q2 : SqL K H b us := r.hs.gH.sqL h.2.1
    refine ⟨⟨vs, us, v, u, ⟨q, e1⟩, q2, f1⟩, fun x H' y => ?_⟩
    obtain ⟨t, x', y', ⟨rfl, hn⟩, rfl, y, z⟩ := y
    have g1 := y vs q
    rw [e1] at g1
    cases g1
    have g2 := z us q2
    rw [f1] at g2
    cases g2
    have m := Sub.upd (o := .tup [v, u]) (r.gnone hn)
    exact ⟨_, .allocG r.hs.gH hn, r.allocG hn, .tup (.inl (.inl upd_same)) (.cons (e2.up m) (.cons (f2.up m) .nil))⟩
  stop := fun i w hp S σ H r h hl => by
    have l1 := h.1.2.length
    have l2 := h.2.2.length
    rw [zipD_len] at hl
    exact ⟨vs, us, ⟨r.hs.gH.sqT h.1.1, r.hs.gH.sqL h.2.1⟩, ⟨by omega, by omega⟩, by omega⟩
theorem serve_rev {a : Addr} {vs : List V} {ds : List D} : Serve K e (Itv K a vs.length) (fun G => SqL K G.g a vs ∧ Reps K G.oa G.g ds vs) ds.reverse where
  mono := fun G G' s o h => ⟨s.sqL h.1, h.2.mono s o⟩
  item := fun i w hp S σ H d r h hd => by
    have li : i < ds.length := by
      have := (List.getElem?_eq_some_iff.mp hd).1
      simpa using this
    rw [List.getElem?_reverse li] at hd
    obtain ⟨v, e1, e2⟩ := h.2.get hd
    rw [h.2.length] at e1
    have q : SqL K H a vs := r.hs.gH.sqL h.1
    refine ⟨⟨by rw [← h.2.length]; exact li, vs, v, q, e1⟩, fun x H' y => ?_⟩
    obtain ⟨rfl, y⟩ := y
    have := y vs q
    rw [e1] at this
    cases this
    exact ⟨w, .refl _ _, r, e2⟩
  stop := fun i w hp S σ H r h hl0 => have hl := Nat.le_of_eq hl0.symm; by
    show vs.length ≤ i
    rw [← h.2.length]; simpa using hl
end

section
variable {X : Cx} {tg : Expr}
/-- a list or a tuple is walked -/
theorem pi_seqA {l : Expr} {tl : TE} (hl : PE X l tl) : PI X tg l (fun σ H R => tl σ H fun x H1 => ∃ a, x = .ref a ∧ ((∃ xs, SqL X.K H1 a xs ∧ (xs.length ≤ sizeLine → R (Itl X.K a) H1)) ∨ (∃ xs, SqT X.K H1 a xs ∧ (xs.length ≤ sizeLine → R (Itt X.K a) H1)))) := by
  refine ⟨fun pn s0 st Hh R I h => L2.thn (hl.run pn s0 st Hh _ I h) fun v s1 ⟨x, H1, I1, r1, q1⟩ => ?_⟩
  obtain ⟨a, rfl, ⟨xs, hq, q⟩ | ⟨xs, hq, q⟩⟩ := q1
  · cases r1
    obtain ⟨its, rv, p, hz⟩ := I1.list hq
    refine wpAny_pyIter_list p.isList ⟨s1.heap.objs.size, [s1.heap.objs.size], _, _, H1, rfl,
      I1.kept (t' := s1.toks) fun b o z => Heap.get?_push_of_some _ z, turn_list a _,
      ⟨_, Heap.get?_push_size _ rfl, rfl, rfl⟩, fun b hb => ?_, q hz⟩
    obtain rfl : b = s1.heap.objs.size := by simpa using hb
    exact I1.fpOk (Nat.le_refl _) (I1.hok.fresh (Nat.le_refl _))
  · cases r1
    obtain ⟨its, rv, p, hz⟩ := I1.tuple hq
    refine wpAny_pyIter_tuple (show s1.heap.IsTuple a its.toArray from p) ⟨s1.heap.objs.size, [s1.heap.objs.size], _, _, H1, rfl,
      I1.kept (t' := s1.toks) fun b o z => Heap.get?_push_of_some _ z, turn_tuple a _,
      ⟨_, Heap.get?_push_size _ rfl, rfl, rfl⟩, fun b hb => ?_, q hz⟩
    obtain rfl : b = s1.heap.objs.size := by simpa using hb
    exact I1.fpOk (Nat.le_refl _) (I1.hok.fresh (Nat.le_refl _))
end
section
variable {T : Tb} {n : Nat} {N : List Str} {sc : Scope} {X : Cx} {e : En} {wx : D → RS → HP → Prop} {tg : Expr}
theorem si_seq {c : C} {ex : Expr} (h : PE X ex (TEc X.K e (T.cfg n) wx c)) : PI X tg ex (TIc X.K e (T.cfg n) wx (.seq c)) :=
  imI (pi_seqA h) fun σ H R ⟨w, hp, S, r, h⟩ => by
    rw [evIt] at h
    refine TEc.of r (h.bind.mono fun d hp1 w1 H1 _ x1 _ h1 r1 v rp => ?_)
    obtain ⟨ds, e3, h3⟩ := PostM.lift h1
    have h3 := h3 w1 H1 (.refl _ _) r1
    cases d with
    | lst es =>
      cases e3
      cases rp with
      | lst hq rr => exact ⟨_, rfl, .inl ⟨_, r1.hs.gH.sqL hq, fun hz => h3 _ _ r1 serve_list ⟨hq, rr⟩ fun _ => by rw [rr.length, line_eq]; exact hz⟩⟩
    | tup es =>
      cases e3
      cases rp with
      | tup hq rr => exact ⟨_, rfl, .inr ⟨_, r1.hs.gH.sqT hq, fun hz => h3 _ _ r1 serve_tup ⟨hq, rr⟩ fun _ => by rw [rr.length, line_eq]; exact hz⟩⟩
    | _ => cases e3
theorem evCs_len {Γ : Cfg} : ∀ (as : Cs) (S : RS) (hp hp' : HP) (ds : List D), evCs Γ as S hp = .ok ds hp' → ds.length = as.len
  | .nil, S, hp, hp', ds, h => by simp only [evCs, Mx.pure, Re.ok.injEq] at h; rw [← h.1]; rfl
  | .cons c r, S, hp, hp', ds, h => by
    simp only [evCs] at h
    cases q : evE Γ c S hp with
    | ok d hp1 =>
      rw [bind_ok q] at h
      cases q2 : evCs Γ r S hp1 with
      | ok d2 hp2 =>
        rw [bind_ok q2] at h
        simp only [Mx.pure, Re.ok.injEq] at h
        rw [← h.1, List.length_cons, evCs_len r S hp1 hp2 d2 q2]
        rfl
      | exc x hp2 => rw [bind_exc q2] at h; cases h
      | stuck => rw [bind_st q2] at h; cases h
    | exc x hp1 => rw [bind_exc q] at h; cases h
    | stuck => rw [bind_st q] at h; cases h
theorem chkCs_len {F : Str → Bool} : ∀ (cs : Cs) (sc : Scope) (es : List Expr), chkCs N F cs sc es = true → cs.len = es.length
  | .nil, _, [], _ => rfl
  | .nil, _, _ :: _, h => by simp [chkCs] at h
  | .cons _ _, _, [], h => by simp [chkCs] at h
  | .cons c r, sc, e :: es, h => by
    simp only [chkCs, Bool.and_eq_true] at h
    rw [Cs.len, List.length_cons, chkCs_len r sc es h.2]
theorem Raw.intE {K : PySem.W.Frag} {w : Wd} {H : Hp} {i : Int} {v : V} (h : Raw K w H (.int i) v) : v = .int i := by
  cases h with
  | rep r => exact r.intE
  | own a b c => exact (show False from b).elim
theorem TVc.mono {K : PySem.W.Frag} {Γ : Cfg} {cs : Cs} {σ : St} {H : Hp} {Q Q' : List V → Hp → Prop} (h : TVc K e Γ wx cs σ H Q) (m : ∀ v H', Q v H' → Q' v H') : TVc K e Γ wx cs σ H Q' := by
  obtain ⟨w, hp, S, r, p⟩ := h
  exact ⟨w, hp, S, r, p.mono fun a hp' w' H' _ _ _ z v q => m _ _ (z v q)⟩
theorem rng_read {as : Cs} {σ : St} {H : Hp} {R : L2.It → Hp → Prop} (hq : TIc X.K e (T.cfg n) wx (.rng as) σ H R) : TVc X.K e (T.cfg n) wx as σ H fun vs H1 =>
    ∃ ds w1 hp1 S1, ds.length = as.len ∧ Raws X.K w1 H1 ds vs ∧ Rel X.K e w1 hp1 S1 σ H1 ∧ ∃ is, rngD ds = some is ∧ ∀ J gd, Serve X.K e J gd is → gd w1.toGw → is.length ≤ LINE → R J H1 := by
  obtain ⟨w, hp, S, r, h⟩ := hq
  rw [evIt] at h
  refine TVc.of r (h.bind.mono fun ds hp1 w1 H1 q x1 _ h1 r1 vs rps => ?_)
  obtain ⟨is, e3, h3⟩ := PostM.lift h1
  have h3 := h3 w1 H1 (.refl _ _) r1
  exact ⟨ds, w1, hp1, S, evCs_len _ _ _ _ _ q, rps, r1, is, e3, fun J gd sv hg hl => h3 J gd r1 sv hg fun _ => hl⟩
theorem si_rng (g : Gd T n N sc e wx X) {as : Cs} {es : List Expr} {p pos : Pos} (hg : glB sc "range" = true) (hl : (decide (es.length = 1) || decide (es.length = 2) || decide (es.length = 3)) = true) (hn : as.len = es.length)
    (hs : ∀ ex ∈ es, ∀ xs env, starEach (ex :: xs) env = (false, eval ex env) :: starEach xs env) (ha : PA X es (TVc X.K e (T.cfg n) wx as)) :
    PI X tg (.Call (.Name "range" p) es [] pos) (TIc X.K e (T.cfg n) wx (.rng as)) := by
  match es, hl, hs, ha, hn with
  | [a], _, hs, ha, hn =>
    refine imI (pi_range1 (g.gl hg) (g.blt _ (by simp [bltNames])) ha (hs a (by simp) _ _)) fun σ H R h => (rng_read h).mono ?_
    rintro vs H1 ⟨ds, w1, hp1, S1, hd, z1, r1, is, e1, h1⟩
    rw [hn] at hd
    unfold rngD at e1
    split at e1
    · split at e1
      · rename_i hz
        rw [decide_eq_true_eq] at hz
        cases e1
        cases z1 with | cons z1 z2 => cases z2 with | nil =>
          rw [z1.intE]
          refine ⟨_, rfl, hz.1, ?_, h1 _ _ serve_range True.intro ?_⟩
          · have := hz.2
            simp only [LINE] at this
            omega
          · simp only [List.length_map, List.length_range]
            have := hz.2
            omega
      · cases e1
    · simp at hd
    · simp at hd
    · cases e1
  | [a, b], _, hs, ha, hn =>
    refine imI (pi_range2 (g.gl hg) (g.blt _ (by simp [bltNames])) ha (by rw [hs a (by simp), hs b (by simp)]; rfl) (by rw [hs b (by simp)]; rfl)) fun σ H R h => (rng_read h).mono ?_
    rintro vs H1 ⟨ds, w1, hp1, S1, hd, z1, r1, is, e1, h1⟩
    rw [hn] at hd
    unfold rngD at e1
    split at e1
    · simp at hd
    · split at e1
      · rename_i hz
        rw [decide_eq_true_eq] at hz
        cases e1
        cases z1 with | cons z1 z2 => cases z2 with | cons z2 z3 => cases z3 with | nil =>
          rw [z1.intE, z2.intE]
          refine ⟨_, _, rfl, ⟨hz.1, hz.2.1, hz.2.2.1, hz.2.2.2.1⟩, h1 _ _ serve_range True.intro ?_⟩
          simp only [List.length_map, List.length_range]
          have := hz.2.2.2.2
          omega
      · cases e1
    · simp at hd
    · cases e1
  | [a, b, c], _, hs, ha, hn =>
    refine imI (pi_range3 (g.gl hg) (g.blt _ (by simp [bltNames])) ha (hs a (by simp) _ _) (by rw [hs b (by simp), hs c (by simp)]; rfl)) fun σ H R h => (rng_read h).mono ?_
    rintro vs H1 ⟨ds, w1, hp1, S1, hd, z1, r1, is, e1, h1⟩
    rw [hn] at hd
    unfold rngD at e1
    split at e1
    · simp at hd
    · simp at hd
    · split at e1
      · rename_i hz
        rw [decide_eq_true_eq] at hz
        cases e1
        cases z1 with | cons z1 z2 => cases z2 with | cons z2 z3 => cases z3 with | cons z3 z4 => cases z4 with | nil =>
          rw [z1.intE, z2.intE, z3.intE]
          refine ⟨_, _, _, _, rfl, ⟨hz.1, hz.2.1, hz.2.2.1, hz.2.2.2.1⟩, h1 _ _ serve_rangeC True.intro ?_⟩
          simp only [List.length_map, List.length_range]
          exact hz.2.2.2.2
      · cases e1
    · cases e1
theorem si_enm (g : Gd T n N sc e wx X) {c : C} {ex : Expr} {p pos tpos : Pos} {elts : List Expr} {kk : Nat} (hg : glB sc "enumerate" = true) (hs : ∀ xs env, starEach (ex :: xs) env = (false, eval ex env) :: starEach xs env) (h : PE X ex (TEc X.K e (T.cfg n) wx c)) :
    PI X (.Tuple elts kk tpos) (.Call (.Name "enumerate" p) [ex] [] pos) (TIc X.K e (T.cfg n) wx (.enm c)) :=
  imI (pi_enum (g.gl hg) (g.blt _ (by simp [bltNames])) (pa_cons h pa_nil (hs _ _)) (hs _ _)) fun σ H R ⟨w, hp, S, r, h⟩ => by
    rw [evIt] at h
    refine TEc.of r (h.bind.mono fun d hp1 w1 H1 _ x1 _ h1 r1 v rp => ?_)
    obtain ⟨ds, e3, h3⟩ := PostM.lift h1
    have h3 := h3 w1 H1 (.refl _ _) r1
    cases d with
    | lst es =>
      cases e3
      cases rp with
      | lst hq rr => exact ⟨_, _, rfl, r1.hs.gH.sqL hq, h3 _ _ r1 serve_enum ⟨hq, rr⟩ fun z => by cases z⟩
    | _ => cases e3
theorem si_rev (g : Gd T n N sc e wx X) {c : C} {ex : Expr} {p pos : Pos} (hg : glB sc "reversed" = true) (hs : ∀ xs env, starEach (ex :: xs) env = (false, eval ex env) :: starEach xs env) (h : PE X ex (TEc X.K e (T.cfg n) wx c)) :
    PI X tg (.Call (.Name "reversed" p) [ex] [] pos) (TIc X.K e (T.cfg n) wx (.rev c)) :=
  imI (pi_reversed (g.gl hg) (g.blt _ (by simp [bltNames])) (pa_cons h pa_nil (hs _ _)) (hs _ _)) fun σ H R ⟨w, hp, S, r, h⟩ => by
    rw [evIt] at h
    refine TEc.of r (h.bind.mono fun d hp1 w1 H1 _ x1 _ h1 r1 v rp => ?_)
    obtain ⟨ds, e3, h3⟩ := PostM.lift h1
    have h3 := h3 w1 H1 (.refl _ _) r1
    cases d with
    | lst es =>
      cases e3
      cases rp with
      | lst hq rr => exact ⟨_, _, rfl, r1.hs.gH.sqL hq, h3 _ _ r1 serve_rev ⟨hq, rr⟩ fun z => by cases z⟩
    | _ => cases e3
theorem si_zip0 (g : Gd T n N sc e wx X) {a b : C} {ea eb : Expr} {p pos tpos : Pos} {elts : List Expr} {kk : Nat} (hg : glB sc "zip" = true) (hsa : ∀ xs env, starEach (ea :: xs) env = (false, eval ea env) :: starEach xs env) (hsb : ∀ xs env, starEach (eb :: xs) env = (false, eval eb env) :: starEach xs env)
    (ha : PE X ea (TEc X.K e (T.cfg n) wx a)) (hb : PE X eb (TEc X.K e (T.cfg n) wx b)) : PI X (.Tuple elts kk tpos) (.Call (.Name "zip" p) [ea, eb] [] pos) (fun σ H R => ∃ w hp S, Rel X.K e w hp S σ H ∧ PostM X.K e wx S σ w H (fun ds hp' w' H' => ∀ J gd, Rel X.K e w' hp' S σ H' → Serve X.K e J gd ds → gd w'.toGw → (It.sz (.zip a b) = true → ds.length ≤ LINE) → R J H') (evIt (T.cfg n) (.zip a b) S hp) ∧ ¬ ∃ xs hp1 ys hp2, evE (T.cfg n) a S hp = .ok (.tup xs) hp1 ∧ evE (T.cfg n) b S hp1 = .ok (.lst ys) hp2) :=
  imI (RZ.pi_zipA (g.gl hg) (g.blt _ (by simp [bltNames])) (pa_cons ha (pa_cons hb pa_nil (hsb _ _)) (hsa _ _)) (hsa _ _) (by rw [hsb]; rfl)) fun σ H R ⟨w, hp, S, r, h, nm⟩ => by
    rw [evIt] at h
    refine TEc.of r (h.bind.mono fun d hp1 w1 H1 q1 x1 _ h1 r1 v rp => ?_)
    refine TEc.of r1 (h1.bind.mono fun y hp2 w2 H2 q2 x2 _ h2 r2 u rp2 => ?_)
    obtain ⟨ds, e3, h3⟩ := PostM.lift h2
    have h3 := h3 w2 H2 (.refl _ _) r2
    have rp := x2.rep rp
    unfold zipDD at e3
    split at e3
    · cases e3
      cases rp with
      | lst hq rr => cases rp2 with
        | lst hq2 rr2 => exact ⟨_, _, _, _, rfl, .inl ⟨r2.hs.gH.sqL hq, r2.hs.gH.sqL hq2, h3 _ _ r2 serve_zip ⟨⟨hq, rr⟩, hq2, rr2⟩ fun z => by cases z⟩⟩
    · cases e3
      cases rp with
      | tup hq rr => cases rp2 with
        | tup hq2 rr2 => exact ⟨_, _, _, _, rfl, .inr ⟨r2.hs.gH.sqT hq, r2.hs.gH.sqT hq2, h3 _ _ r2 serve_zipT ⟨⟨hq, rr⟩, hq2, rr2⟩ fun z => by cases z⟩⟩
    · exact absurd ⟨_, _, _, _, q1, q2⟩ nm
    · cases e3
theorem si_zipM (g : Gd T n N sc e wx X) {a b : C} {ea eb : Expr} {p pos tpos : Pos} {elts : List Expr} {kk : Nat} (hg : glB sc "zip" = true) (hsa : ∀ xs env, starEach (ea :: xs) env = (false, eval ea env) :: starEach xs env) (hsb : ∀ xs env, starEach (eb :: xs) env = (false, eval eb env) :: starEach xs env)
    (ha : PE X ea (TEc X.K e (T.cfg n) wx a)) (hb : PE X eb (TEc X.K e (T.cfg n) wx b)) : PI X (.Tuple elts kk tpos) (.Call (.Name "zip" p) [ea, eb] [] pos) (fun σ H R => ∃ w hp S, Rel X.K e w hp S σ H ∧ PostM X.K e wx S σ w H (fun ds hp' w' H' => ∀ J gd, Rel X.K e w' hp' S σ H' → Serve X.K e J gd ds → gd w'.toGw → (It.sz (.zip a b) = true → ds.length ≤ LINE) → R J H') (evIt (T.cfg n) (.zip a b) S hp) ∧ ∃ xs hp1 ys hp2, evE (T.cfg n) a S hp = .ok (.tup xs) hp1 ∧ evE (T.cfg n) b S hp1 = .ok (.lst ys) hp2) :=
  imI (pi_zipM (g.gl hg) (g.blt _ (by simp [bltNames])) (pa_cons ha (pa_cons hb pa_nil (hsb _ _)) (hsa _ _)) (hsa _ _) (by rw [hsb]; rfl)) fun σ H R ⟨w, hp, S, r, h, xs, hq1, ys, hq2, m1, m2⟩ => by
    rw [evIt] at h
    refine TEc.of r (h.bind.mono fun d hp1 w1 H1 q1 x1 _ h1 r1 v rp => ?_)
    rw [m1] at q1
    cases q1
    refine TEc.of r1 (h1.bind.mono fun y hp2 w2 H2 q2 x2 _ h2 r2 u rp2 => ?_)
    rw [m2] at q2
    cases q2
    obtain ⟨ds, e3, h3⟩ := PostM.lift h2
    have h3 := h3 w2 H2 (.refl _ _) r2
    have rp := x2.rep rp
    cases e3
    cases rp with
    | tup hq rr => cases rp2 with
      | lst hq2 rr2 => exact ⟨_, _, _, _, rfl, r2.hs.gH.sqT hq, r2.hs.gH.sqL hq2, h3 _ _ r2 serve_zipM ⟨⟨hq, rr⟩, hq2, rr2⟩ fun z => by cases z⟩
theorem si_zip (g : Gd T n N sc e wx X) {a b : C} {ea eb : Expr} {p pos tpos : Pos} {elts : List Expr} {kk : Nat} (hg : glB sc "zip" = true) (hsa : ∀ xs env, starEach (ea :: xs) env = (false, eval ea env) :: starEach xs env) (hsb : ∀ xs env, starEach (eb :: xs) env = (false, eval eb env) :: starEach xs env)
    (ha : PE X ea (TEc X.K e (T.cfg n) wx a)) (hb : PE X eb (TEc X.K e (T.cfg n) wx b)) : PI X (.Tuple elts kk tpos) (.Call (.Name "zip" p) [ea, eb] [] pos) (TIc X.K e (T.cfg n) wx (.zip a b)) := by
  refine ⟨fun pn s σ H R I ⟨w, hp, S, r, h⟩ => ?_⟩
  by_cases m : ∃ xs hp1 ys hp2, evE (T.cfg n) a S hp = .ok (.tup xs) hp1 ∧ evE (T.cfg n) b S hp1 = .ok (.lst ys) hp2
  · exact (si_zipM g hg hsa hsb ha hb).run pn s σ H R I ⟨w, hp, S, r, h, m⟩
  · exact (si_zip0 g hg hsa hsb ha hb).run pn s σ H R I ⟨w, hp, S, r, h, m⟩
def gNames : List Nat → TGs
  | [] => gNil
  | i :: is => gCons (gName i) (gNames is)
def gTgt (K : PySem.W.Frag) : Tg → TG
  | .nm i => gName i
  | .tp is => gTup K is.length (gNames is)
/-- slots are stored to, one by one -/
theorem names_ok {K : PySem.W.Frag} {H : Hp} {hp : HP} {Q : St → Hp → Prop} {G : Gw} {σ0 : St} : ∀ (is : List Nat) (ds : List D) (vs : List V) (ω : Addr → Option Nat) (S : RS) (σ : St), Rel K e ⟨G, ω⟩ hp S σ H → Reps K G.oa G.g ds vs → ds.length = is.length → σ.length = σ0.length →
    ∀ (js : List Nat), (∀ i ∈ is, i ∈ js) → (∀ j, ¬ j ∈ js → σ[j]? = σ0[j]?) → (∀ (b : Addr), (∀ j ∈ js, ∀ d, S[j]? ≠ some (Sl.own d)) → True) →
    (∀ σ' ω', ((∀ j ∈ is, ∀ d, S[j]? ≠ some (Sl.own d)) → ω' = ω) → Rel K e ⟨G, ω'⟩ hp ((is.zip ds).foldl (fun sl p => sl.set p.1 (.val p.2)) S) σ' H → σ'.length = σ0.length → (∀ j, ¬ j ∈ js → σ'[j]? = σ0[j]?) → Q σ' H) → gNames is vs σ H Q
  | [], [], _, ω, S, σ, r, .nil, _, hl, js, _, hσ, _, hq => ⟨rfl, hq σ ω (fun _ => rfl) r hl hσ⟩
  | [], _ :: _, _, ω, S, σ, r, _, h, _, _, _, _, _, _ => by simp at h
  | _ :: _, [], _, ω, S, σ, r, _, h, _, _, _, _, _, _ => by simp at h
  | i :: is, d :: ds, _, ω, S, σ, r, .cons (v := v) (vs := vs) h1 h2, h, hl, js, hj, hσ, _, hq => by
    have hl' : (σ.set i (some v)).length = σ0.length := by rw [List.length_set]; exact hl
    have hσ' : ∀ j, ¬ j ∈ js → (σ.set i (some v))[j]? = σ0[j]? := fun j nj => by
      rw [List.getElem?_set_ne (fun z => nj (by rw [← z]; exact hj i List.mem_cons_self))]; exact hσ j nj
    have hj' : ∀ k ∈ is, k ∈ js := fun k hk => hj k (List.mem_cons_of_mem _ hk)
    by_cases hown : ∃ d, S[i]? = some (Sl.own d)
    · obtain ⟨ω1, r1⟩ := r.setVal i h1
      refine ⟨v, vs, rfl, names_ok (σ0 := σ0) is ds vs ω1 _ _ r1 h2 (by simpa using h) hl' js hj' hσ' (fun _ _ => trivial) ?_⟩
      intro σ' ω' a b c d'
      exact hq σ' ω' (fun z => by
        obtain ⟨d0, hd0⟩ := hown
        exact absurd hd0 (z i List.mem_cons_self d0)) b c d'
    · have r1 := r.setV i h1 (fun d0 z => hown ⟨d0, z⟩)
      refine ⟨v, vs, rfl, names_ok (σ0 := σ0) is ds vs ω _ _ r1 h2 (by simpa using h) hl' js hj' hσ' (fun _ _ => trivial) ?_⟩
      intro σ' ω' a b c d'
      refine hq σ' ω' (fun z => a fun j hj d0 q => ?_) b c d'
      by_cases hij : i = j
      · subst hij
        have li : i < S.length := by simpa using (List.getElem?_eq_some_iff.mp q).1
        rw [List.getElem?_set_self li] at q
        cases q
      · rw [List.getElem?_set_ne hij] at q
        exact z j (List.mem_cons_of_mem _ hj) d0 q
theorem tgt_ok {K : PySem.W.Frag} {H : Hp} {hp : HP} {Q : St → Hp → Prop} {w : Wd} {σ : St} {S S' : RS} {tg : Tg} {d : D} {v : V} (r : Rel K e w hp S σ H) (h : Rep K w.oa w.g d v) (ha : asg tg d S = some S')
    (hq : ∀ σ' ω', ((∀ j ∈ tg.ix, ∀ d, S[j]? ≠ some (Sl.own d)) → ω' = w.ω) → Rel K e ⟨w.toGw, ω'⟩ hp S' σ' H → σ'.length = σ.length → (∀ j, ¬ j ∈ tg.ix → σ'[j]? = σ[j]?) → Q σ' H) : gTgt K tg v σ H Q := by
  cases tg with
  | nm i =>
    simp only [asg, Option.some.injEq] at ha
    subst ha
    have fin : ∀ ω', ((∀ j ∈ [i], ∀ d, S[j]? ≠ some (Sl.own d)) → ω' = w.ω) → Rel K e ⟨w.toGw, ω'⟩ hp (S.set i (.val d)) (σ.set i (some v)) H → Q (σ.set i (some v)) H := fun ω' a b => hq _ ω' a b (by simp) fun j nj => by
      rw [List.getElem?_set_ne (by simpa [Tg.ix, eq_comm] using nj)]
    by_cases hown : ∃ d, S[i]? = some (Sl.own d)
    · obtain ⟨ω1, r1⟩ := r.setVal i h
      exact fin ω1 (fun z => by
        obtain ⟨d0, hd0⟩ := hown
        exact absurd hd0 (z i (by simp) d0)) r1
    · exact fin w.ω (fun _ => rfl) (r.setV i h fun d0 z => hown ⟨d0, z⟩)
  | tp is =>
    simp only [asg] at ha
    split at ha
    · rename_i ds
      split at ha
      · rename_i hl
        cases ha
        cases h with
        | tup hs rr =>
          exact ⟨_, _, rfl, r.hs.gH.sqT hs, by rw [← rr.length]; exact hl, names_ok is _ _ w.ω S σ r rr hl rfl is (fun _ h => h) (fun _ _ => rfl) (fun _ _ => trivial) hq⟩
      · cases ha
    · cases ha
theorem ne_len : ∀ (es : List Expr) (env : Env), (assignEach es env).length = es.length
  | [], _ => by simp [assignEach]
  | e :: es, env => by
    cases e <;> simp [assignEach, ne_len es env]
theorem chkNs_len {fn : Str → Bool} : ∀ (is : List Nat) (es : List Expr), chkNs N sc fn is es = true → es.length = is.length
  | [], [], _ => rfl
  | [], _ :: _, h => by simp [chkNs] at h
  | _ :: _, [], h => by simp [chkNs] at h
  | i :: is, e :: es, h => by
    cases e <;> first
      | (simp [chkNs] at h; done)
      | (simp only [chkNs, Bool.and_eq_true] at h
         rw [List.length_cons, List.length_cons, chkNs_len is es h.2])
theorem chkNs_star {fn : Str → Bool} (env : Env) : ∀ (is : List Nat) (es : List Expr), chkNs N sc fn is es = true → (assignEach es env).findIdx? (·.1) = none
  | [], [], _ => by simp [assignEach]
  | [], _ :: _, h => by simp [chkNs] at h
  | _ :: _, [], h => by simp [chkNs] at h
  | i :: is, e :: es, h => by
    cases e <;> first
      | (simp [chkNs] at h; done)
      | (simp only [chkNs, Bool.and_eq_true] at h
         have := chkNs_star env is es h.2
         simp [assignEach, List.findIdx?_cons, this])
theorem pg_names (g : Gd T n N sc e wx X) {fn : Str → Bool} (hf : ∀ x, fn x = true → X.fn x = true) : ∀ (is : List Nat) (es : List Expr), chkNs N sc fn is es = true → PGs X es (gNames is)
  | [], [], _ => pgs_nil
  | [], _ :: _, h => by simp [chkNs] at h
  | _ :: _, [], h => by simp [chkNs] at h
  | i :: is, e :: es, h => by
    cases e <;> first
      | (simp [chkNs] at h; done)
      | skip
    simp only [chkNs, chkN, Bool.and_eq_true, Bool.or_eq_true, decide_eq_true_eq] at h
    obtain ⟨⟨⟨h1, h2⟩, h3⟩, h4⟩ := h
    refine pgs_cons (pg_name (by rw [g.hN]; exact g.nd) (g.nm h1) (g.loc h2) ?_) (pg_names g hf is es h4) (by rfl)
    rcases h3 with z | z
    · exact .inl (hf _ z)
    · exact .inr (by rw [g.hsc]; exact z)
theorem pg_tgt (g : Gd T n N sc e wx X) {fn : Str → Bool} (hf : ∀ x, fn x = true → X.fn x = true) {tg : Tg} {te : Expr} (h : chkTg N sc fn tg te = true) : PG X te (gTgt X.K tg) := by
  cases tg with
  | nm i =>
    cases te <;> first
      | (simp [chkTg] at h; done)
      | skip
    simp only [chkTg, chkN, Bool.and_eq_true, Bool.or_eq_true, decide_eq_true_eq] at h
    obtain ⟨⟨h1, h2⟩, h3⟩ := h
    refine pg_name (by rw [g.hN]; exact g.nd) (g.nm h1) (g.loc h2) ?_
    rcases h3 with z | z
    · exact .inl (hf _ z)
    · exact .inr (by rw [g.hsc]; exact z)
  | tp is =>
    cases te <;> first
      | (simp [chkTg] at h; done)
      | skip
    simp only [chkTg] at h
    exact pg_tup g.calm (pg_names g hf is _ h) (by rw [ne_len, chkNs_len is _ h]) (chkNs_star _ is _ h)
end
end RR

namespace RR
open PySem L2

abbrev wF : D → RS → HP → Prop := fun _ _ _ => False
def TDc (K : PySem.W.Frag) (e : En) (Γ : Cfg) (wx : D → RS → HP → Prop) (c : Oc) : TT := fun σ H Q => ∃ w hp S, Rel K e w hp S σ H ∧ PostM K e wx S σ w H (fun b _ _ H' => Q b H') (evOcT Γ c S hp)
theorem imD {X : Cx} {ifs : List Expr} {t t' : TT} (p : PTs X ifs t) (h : ∀ σ H Q, t' σ H Q → t σ H Q) : PTs X ifs t' := ⟨fun a b c d f g k => p.run a b c d f g (h _ _ _ k)⟩
theorem Ext.apart {w w' : Wd} {H H' : Hp} (x : Ext w H w' H') {p : Addr} {o : HO} (h : H p = some o) (g : w.g p = none) (n : ¬ p ∈ w.oa.l) : H' p = some o ∧ w'.g p = none ∧ ¬ p ∈ w'.oa.l := by
  refine ⟨x.gr.h _ _ h n, ?_, fun z => ?_⟩
  · cases q : w'.g p with
    | none => rfl
    | some u =>
      rcases x.gr.gn p u q with z | z | z
      · rw [g] at z; cases z
      · rw [h] at z; cases z
      · exact absurd z n
  · rcases x.gr.on p z with q | q
    · exact n q
    · rw [h] at q; cases q
theorem Gd.blk {T : Tb} {n : Nat} {N : List Str} {sc : Scope} {e : En} {wx : D → RS → HP → Prop} {X : Cx} (g : Gd T n N sc e wx X) (scope : Scope) (s : Shared) (H : Hp) (C : Addr) (cl : List (Str × Addr)) (fp : List Addr) : Gd T n N (relS scope sc) e wF (X.blk s H scope (compEnvC scope cl C X.env) fp) := by
  refine { toGq := ⟨g.hN, g.nd, ?_, g.units, g.glob, g.blt, g.tpl, g.dct, g.isa, g.xfs, g.ins⟩, calm := g.calm, room := g.room, call := g.call, mth := g.mth, mkc := g.mkc, ini := g.ini, tk := ?_ }
  · have h3 := g.hsc
    subst h3
    rfl
  · intro u s' ⟨_, _, _, _, _, _, _, _, _, _, _, _, _, _, _, _, ww⟩
    obtain ⟨_, _, _, _, _, _, z⟩ := ww
    exact z.elim
section
variable {T : Tb} {n : Nat} {N : List Str} {sc : Scope} {X : Cx} {e : En} {wx : D → RS → HP → Prop} {tg : Expr}
theorem noSetI {F : Str → Bool} {it : It} {te ie : Expr} (h : chkI N F it sc te ie = true) (env : Env) (x : Value) : foldedSetIterable ie env x = pure x := by
  cases it with
  | seq c =>
    simp only [chkI, Bool.and_eq_true] at h
    exact noSet h.2 env x
  | _ => cases ie <;> first
    | rfl
    | (cases te <;> simp [chkI] at h; done)
    | (simp [chkI] at h; done)
theorem ownOf_ix (N : List Str) (tg : Tg) : (ownOf N tg).map (·.2) = tg.ix := by unfold ownOf; rw [List.map_map]; exact List.map_id _
theorem pts_no : PTs X [] (TDc X.K e (T.cfg n) wx .no) := imD pts_nil fun σ H Q ⟨w, hp, S, r, h⟩ => by
  rw [evOcT] at h
  exact h w H (.refl _ _) r
theorem pts_so {c : C} {ex : Expr} (h : PT X ex (TTc X.K e (T.cfg n) wx c)) : PTs X [ex] (TDc X.K e (T.cfg n) wx (.so c)) := imD (pts_one h) fun σ H Q ⟨w, hp, S, r, h⟩ => by
  rw [evOcT] at h
  exact ⟨w, hp, S, r, h⟩
theorem wipeR_noOwn (S : RS) (is : List Nat) : ∀ k ∈ is, ∀ d, (wipeR S is)[k]? ≠ some (Sl.own d) := fun k hk d z => by
  cases wipeR_in _ hk _ z
theorem lc_imp {K : PySem.W.Frag} {elt : C} {t : Tg} {it : It} {cd : Oc} {σ : St} {H : Hp} {Q : VK} (hq : TEc K e (T.cfg n) wx (.lc elt t it cd) σ H Q) :
    tLc (TIc K e (T.cfg n) wx it) (gTgt K t) (TDc K e (T.cfg n) wF cd) (TEc K e (T.cfg n) wF elt) ((ownOf N t).map (·.2)) σ H Q := by
  obtain ⟨w, hp, S, r, h⟩ := hq
  rw [ownOf_ix]
  rw [evE] at h
  refine ⟨w, hp, S, r, h.bind.mono fun ds hp1 w1 H1 _ x1 _ h J gd r1 sv hgd hsz pD hD => ?_⟩
  unfold lcM at h
  split at h
  · rename_i hc
    rw [Bool.and_eq_true, Bool.or_eq_true, decide_eq_true_eq] at hc
    obtain ⟨hfr, hln⟩ := hc
    have hln : ds.length ≤ LINE := hln.elim hsz id
    generalize hf : lcStep (wipeR S t.ix) t (evOcT (T.cfg n) cd) (evE (T.cfg n) elt) = f at h
    have own1 := freeAt_own hfr
    obtain ⟨P, hP⟩ : ∃ P : D → HP → Wd → Hp → Prop, P = fun d _ w' H' => ∀ v, Res1 K H w' H' d true v → Q v H' := ⟨_, rfl⟩
    have h : PostM K e wx S σ w1 H1 P (((lcL f ds []).bind fun ys => Mx.pure (.lst ys)) hp1) := by rw [hP]; exact h
    let Wf : Nat → Nat → Hp → Prop := fun i m Hc => ∃ w2 hp2 acc vacc, Rel K e w2 hp2 (wipeR S t.ix) (wipe σ t.ix) Hc ∧ gd w2.toGw ∧ Hc pD = some (.lst vacc) ∧ Reps K w2.oa w2.g acc vacc ∧ w2.g pD = none ∧ ¬ pD ∈ w2.oa.l ∧
      Ext w1 H1 w2 Hc ∧ acc.length ≤ i ∧ i ≤ ds.length ∧ m = ds.length - i ∧ PostM K e wx S σ w1 H1 P (((lcL f (ds.drop i) acc).bind fun ys => Mx.pure (.lst ys)) hp2)
    refine ⟨Wf, ⟨ds.length, w1, hp1, [], [], (r1.alloc hD).wiped own1, hgd, upd_same, .nil, r1.gnone hD, r1.onone hD, .alloc hD, Nat.zero_le _, Nat.zero_le _, rfl, h⟩, ?_⟩
    rintro i m Hc ⟨w2, hp2, acc, vacc, r2, gd2, hD2, rep2, g2, f2, x2, hai, hid, rfl, h2⟩
    by_cases hlt : i < ds.length
    · right
      have hd1 : ds[i]? = some ds[i] := List.getElem?_eq_getElem hlt
      obtain ⟨go, yl⟩ := sv.item i w2 hp2 _ _ Hc _ r2 gd2 hd1
      refine ⟨go, Wf (i + 1) (ds.length - (i + 1)), fun H' z => ⟨_, by omega, z⟩, fun x H' y => ?_⟩
      obtain ⟨w3, x3, r3, rp3⟩ := yl x H' y
      rw [show ds.drop i = ds[i] :: ds.drop (i + 1) from List.drop_eq_getElem_cons hlt, lcL, Mx.bind_assoc] at h2
      cases qa : asg t ds[i] (wipeR S t.ix) with
      | none =>
        have hx : f ds[i] = .st := by rw [← hf]; simp only [lcStep, qa]
        rw [hx] at h2; exact (show False from h2).elim
      | some S3 =>
        have hx : f ds[i] = ((evOcT (T.cfg n) cd S3).nox.bind fun b => match b with
          | true => (evE (T.cfg n) elt S3).nox.bind fun d => .pure (some d)
          | false => .pure none) := by rw [← hf]; simp only [lcStep, qa]; first | done | rfl
        rw [hx, Mx.bind_assoc] at h2
        refine tgt_ok r3 rp3 qa fun σ4 ω4 eω r4 l4 e4 => ?_
        have eω := eω (wipeR_noOwn S t.ix)
        subst eω
        have hw : wipe σ4 t.ix = wipe σ t.ix := wipe_ext (by rw [l4, wipe_length]) fun j hj => by rw [e4 j hj, wipe_notin _ hj]
        have back : ∀ {w5 : Wd} {hp5 : HP} {H5 : Hp}, Rel K e w5 hp5 S3 σ4 H5 → Ext ⟨w3.toGw, w3.ω⟩ H' w5 H5 → Rel K e w5 hp5 (wipeR S t.ix) (wipe σ t.ix) H5 := fun {w5 hp5 H5} r5 x5 => Rel.back r3 r5 x5
        refine ⟨hw, ⟨w3.toGw, w3.ω⟩, hp2, S3, r4, ?_⟩
        cases qb : evOcT (T.cfg n) cd S3 hp2 with
        | ok b hp5 =>
          have qn : (evOcT (T.cfg n) cd S3).nox hp2 = .ok b hp5 := by simp only [Mx.nox, qb]
          rw [bind_ok qn] at h2
          intro w5 H5 x5 r5
          have x25 : Ext w2 Hc w5 H5 := x3.trans x5
          obtain ⟨hD5, g5, f5⟩ := x25.apart hD2 g2 f2
          cases b with
          | false =>
            simp only [Bool.false_eq_true, if_false]
            exact ⟨w5, hp5, acc, vacc, back r5 x5, sv.mono _ _ x25.gr.g x25.gr.o gd2, hD5, x25.reps rep2, g5, f5, x2.trans x25, by omega, by omega, rfl, h2⟩
          | true =>
            simp only [if_true]
            have h2 : PostM K e wx S σ w1 H1 P (((evE (T.cfg n) elt S3).nox.bind fun d => (lcL f (ds.drop (i + 1)) (acc ++ [d])).bind fun ys => Mx.pure (.lst ys)) hp5) := by
              have : ∀ (m : M D) (k : Option D → M D), (m.bind fun d => Mx.pure (some d)).bind k = m.bind fun d => k (some d) := fun m k => by rw [Mx.bind_assoc]; rfl
              rw [this] at h2
              exact h2
            refine TEc.of r5 ?_
            cases qe : evE (T.cfg n) elt S3 hp5 with
            | ok d hp6 =>
              have qn2 : (evE (T.cfg n) elt S3).nox hp5 = .ok d hp6 := by simp only [Mx.nox, qe]
              rw [bind_ok qn2] at h2
              intro w6 H6 x6 r6 _ v rp6
              have x26 := x25.trans x6
              obtain ⟨hD6, g6, f6⟩ := x26.apart hD2 g2 f2
              have hl := rep2.length
              refine ⟨vacc, hD6, ?_, w6, hp6, acc ++ [d], vacc ++ [v], ?_, sv.mono _ _ x26.gr.g x26.gr.o gd2, upd_same, (x26.reps rep2).append (.cons rp6 .nil), g6, f6, ?_, ?_, by omega, rfl, h2⟩
              · rw [← hl]
                have : LINE = sizeLine := line_eq
                omega
              · refine (back r6 (x5.trans x6)).updFree g6 ?_ f6 (fun a z => by rw [hD6] at z; cases z) (r1.enone hD)
                rw [(x2.trans x26).ω]; exact r1.ωnone hD
              · have x17 := x2.trans x26
                exact ⟨⟨x17.gr.g, x17.gr.o, fun b o hb hn => by
                  have : b ≠ pD := fun z => by rw [z] at hb; rw [hD] at hb; cases hb
                  rw [upd_ne this]; exact x17.gr.h b o hb hn, fun b hb => by
                  by_cases z : b = pD
                  · subst z; exact hD
                  · rw [upd_ne z] at hb; exact x17.gr.i b hb, x17.gr.gn, x17.gr.on⟩, x17.ω⟩
              · rw [List.length_append]
                simp only [List.length_cons, List.length_nil]
                omega
            | exc x hp6 =>
              have qn2 : (evE (T.cfg n) elt S3).nox hp5 = .stuck := by simp only [Mx.nox, qe]
              rw [bind_st qn2] at h2; exact (show False from h2).elim
            | stuck =>
              have qn2 : (evE (T.cfg n) elt S3).nox hp5 = .stuck := by simp only [Mx.nox, qe]
              rw [bind_st qn2] at h2; exact (show False from h2).elim
        | exc x hp5 =>
          have qn : (evOcT (T.cfg n) cd S3).nox hp2 = .stuck := by simp only [Mx.nox, qb]
          rw [bind_st qn] at h2; exact (show False from h2).elim
        | stuck =>
          have qn : (evOcT (T.cfg n) cd S3).nox hp2 = .stuck := by simp only [Mx.nox, qb]
          rw [bind_st qn] at h2; exact (show False from h2).elim
    · left
      have e1 : i = ds.length := by omega
      subst e1
      rw [List.drop_length, lcL] at h2
      have h3 := h2 w2 Hc x2 (Rel.back r1 r2 x2)
      rw [hP] at h3
      exact ⟨sv.stop _ w2 hp2 _ _ Hc r2 gd2 rfl, h3 (.ref pD) ⟨pD, _, rfl, hD2, ⟨vacc, rfl, rep2⟩, g2, by rw [x2.ω]; exact r1.ωnone hD, f2, x1.gr.i _ hD⟩⟩
  · exact (show False from h).elim
theorem se_lc (g : Gd T n N sc e wx X) {elt : C} {t : Tg} {it : It} {cd : Oc} {ee te ie : Expr} {ifs : List Expr} {scope : Scope} {pos : Pos}
    (hb : blkC N sc scope (ownOf N t) = true) (hi : PI X te ie (TIc X.K e (T.cfg n) wx it)) (hs : ∀ x, foldedSetIterable ie X.env x = pure x)
    (hg : ∀ (s : Shared) (H : Hp) (C : Addr) (cl : List (Str × Addr)) (fp : List Addr), PG (X.blk s H scope (compEnvC scope cl C X.env) fp) te (gTgt X.K t))
    (hd : ∀ (s : Shared) (H : Hp) (C : Addr) (cl : List (Str × Addr)) (fp : List Addr), PTs (X.blk s H scope (compEnvC scope cl C X.env) fp) ifs (TDc X.K e (T.cfg n) wF cd))
    (he : ∀ (s : Shared) (H : Hp) (C : Addr) (cl : List (Str × Addr)) (fp : List Addr), PE (X.blk s H scope (compEnvC scope cl C X.env) fp) ee (TEc X.K e (T.cfg n) wF elt)) :
    PE X (.ListComp ee [⟨te, ie, ifs, 0⟩] scope pos) (TEc X.K e (T.cfg n) wx (.lc elt t it cd)) := by
  exact imE (pe_lc g.calm (by rw [g.hN]; exact g.nd) hi (own := ownOf N t) (by rw [g.hN, g.hsc]; exact blkOk_by hb) hg hd he hs) fun σ H Q h => lc_imp h
/-- the same over a list of the heap -/
theorem lco_imp {elt : C} {t : Tg} {c : C} {cd : Oc} {σ : St} {H : Hp} {Q : VK} (hq : TEc X.K e (T.cfg n) wx (.lco elt t c cd) σ H Q) :
    tLc (fun σ H R => TEc X.K e (T.cfg n) wx c σ H fun x H1 => ∃ a, x = .ref a ∧ ((∃ xs, SqL X.K H1 a xs ∧ (xs.length ≤ sizeLine → R (Itl X.K a) H1)) ∨ (∃ xs, SqT X.K H1 a xs ∧ (xs.length ≤ sizeLine → R (Itt X.K a) H1)))) (gTgt X.K t) (TDc X.K e (T.cfg n) wF cd) (TEc X.K e (T.cfg n) wF elt) ((ownOf N t).map (·.2)) σ H Q := by
  obtain ⟨w, hp, S, r, h⟩ := hq
  rw [ownOf_ix]
  rw [evE] at h
  refine TEc.of r (h.bind.mono fun xo hp1 w1 H1 _ x1 _ h r1 vo rpo => ?_)
  cases xo with
  | obj ko =>
    cases rpo with
    | obj qo =>
    rename_i po
    unfold lcoM at h
    simp only at h
    cases q2 : hp1[ko]? with
    | none => rw [q2] at h; exact (show False from h).elim
    | some ob =>
      rw [q2] at h
      cases ob with
      | lst ds =>
        simp only at h
        obtain ⟨vs0, e40, e50⟩ := r1.hs.oR ko _ _ q2 qo
        refine ⟨po, rfl, .inl ⟨vs0, .inl (.of e40), fun _ pD hD => ?_⟩⟩
        split at h
        · rename_i hc
          rw [Bool.and_eq_true, decide_eq_true_eq] at hc
          obtain ⟨hfr, hln⟩ := hc
          generalize hf : lcStep (wipeR S t.ix) t (evOcT (T.cfg n) cd) (evE (T.cfg n) elt) = f at h
          have own1 := freeAt_own hfr
          obtain ⟨P, hP⟩ : ∃ P : D → HP → Wd → Hp → Prop, P = fun d _ w' H' => ∀ v, Res1 X.K H w' H' d true v → Q v H' := ⟨_, rfl⟩
          have h : PostM X.K e wx S σ w1 H1 P (((lcO f ko ds.length 0 []).bind fun ys => Mx.pure (.lst ys)) hp1) := by rw [hP]; exact h
          let Wf : Nat → Nat → Hp → Prop := fun i m Hc => ∃ w2 hp2 acc vacc, Rel X.K e w2 hp2 (wipeR S t.ix) (wipe σ t.ix) Hc ∧ w2.oa.l[ko]? = some po ∧ Hc pD = some (.lst vacc) ∧ Reps X.K w2.oa w2.g acc vacc ∧ w2.g pD = none ∧ ¬ pD ∈ w2.oa.l ∧
            Ext w1 H1 w2 Hc ∧ acc.length ≤ i ∧ i + m = ds.length ∧ PostM X.K e wx S σ w1 H1 P (((lcO f ko m i acc).bind fun ys => Mx.pure (.lst ys)) hp2)
          refine ⟨Wf, ⟨ds.length, w1, hp1, [], [], (r1.alloc hD).wiped own1, qo, upd_same, .nil, r1.gnone hD, r1.onone hD, .alloc hD, Nat.zero_le _, by omega, h⟩, ?_⟩
          rintro i m Hc ⟨w2, hp2, acc, vacc, r2, qo2, hD2, rep2, g2, f2, x2, hai, hid, h2⟩
          have fin : ∀ ds2 : List D, hp2[ko]? = some (.lst ds2) → ds2.length ≤ i → PostM X.K e wx S σ w1 H1 P (.ok (.lst acc) hp2) → (Itl X.K po).stop i Hc ∧ Q (.ref pD) Hc := fun ds2 z1 z2 z3 => by
            obtain ⟨vs2, z4, z5⟩ := r2.hs.oR ko _ _ z1 qo2
            have h3 := z3 w2 Hc x2 (Rel.back r1 r2 x2)
            rw [hP] at h3
            exact ⟨⟨vs2, .inl (.of z4), by rw [← z5.length]; exact z2⟩, h3 (.ref pD) ⟨pD, _, rfl, hD2, ⟨vacc, rfl, rep2⟩, g2, by rw [x2.ω]; exact r1.ωnone hD, f2, x1.gr.i _ hD⟩⟩
          cases m with
          | zero =>
            left
            simp only [lcO, Mx.bind] at h2
            cases q4 : hp2[ko]? with
            | none => rw [q4] at h2; exact (show False from h2).elim
            | some ob2 =>
              rw [q4] at h2
              cases ob2 with
              | lst ds2 =>
                simp only at h2
                by_cases hle : ds2.length ≤ i
                · rw [if_pos hle] at h2
                  exact fin ds2 q4 hle h2
                · rw [if_neg hle] at h2; exact (show False from h2).elim
              | _ => exact (show False from h2).elim
          | succ m =>
            have h2' := h2
            simp only [lcO, Mx.bind] at h2
            cases q4 : hp2[ko]? with
            | none => rw [q4] at h2; exact (show False from h2).elim
            | some ob2 =>
              rw [q4] at h2
              cases ob2 with
              | lst ds2 =>
                simp only at h2
                cases q5 : ds2[i]? with
                | none =>
                  rw [q5] at h2
                  left
                  exact fin ds2 q4 (List.getElem?_eq_none_iff.mp q5) h2
                | some dd =>
                  right
                  have h2 : PostM X.K e wx S σ w1 H1 P ((((f dd).bind fun o => match o with
                    | some y => lcO f ko m (i + 1) (acc ++ [y])
                    | none => lcO f ko m (i + 1) acc).bind fun ys => Mx.pure (.lst ys)) hp2) := by
                    have e9 : (lcO f ko (m + 1) i acc) hp2 = ((f dd).bind fun o => match o with
                      | some y => lcO f ko m (i + 1) (acc ++ [y])
                      | none => lcO f ko m (i + 1) acc) hp2 := by
                      simp only [lcO, q4, q5]
                      first | done | rfl
                    simp only [Mx.bind] at h2' e9 ⊢
                    rw [e9] at h2'
                    exact h2'
                  obtain ⟨vs2, z3, z4⟩ := r2.hs.oR ko _ _ q4 qo2
                  obtain ⟨vx, z5, z6⟩ := z4.get q5
                  refine ⟨⟨vs2, vx, .inl (.of z3), z5⟩, Wf (i + 1) m, fun H' z => ⟨_, Nat.lt_succ_self m, z⟩, fun x H' y => ?_⟩
                  obtain ⟨rfl, y⟩ := y
                  have := y vs2 (.inl (.of z3))
                  rw [z5] at this
                  cases this
                  rw [Mx.bind_assoc] at h2
                  cases qa : asg t dd (wipeR S t.ix) with
                  | none =>
                    have hx : f dd = .st := by rw [← hf]; simp only [lcStep, qa]
                    rw [hx] at h2; exact (show False from h2).elim
                  | some S3 =>
                    have hx : f dd = ((evOcT (T.cfg n) cd S3).nox.bind fun b => match b with
                      | true => (evE (T.cfg n) elt S3).nox.bind fun d => .pure (some d)
                      | false => .pure none) := by rw [← hf]; simp only [lcStep, qa]; first | done | rfl
                    rw [hx, Mx.bind_assoc] at h2
                    refine tgt_ok r2 z6 qa fun σ4 ω4 eω r4 l4 e4 => ?_
                    have eω := eω (wipeR_noOwn S t.ix)
                    subst eω
                    have hw : wipe σ4 t.ix = wipe σ t.ix := wipe_ext (by rw [l4, wipe_length]) fun j hj => by rw [e4 j hj, wipe_notin _ hj]
                    have back : ∀ {w5 : Wd} {hp5 : HP} {H5 : Hp}, Rel X.K e w5 hp5 S3 σ4 H5 → Ext ⟨w2.toGw, w2.ω⟩ H' w5 H5 → Rel X.K e w5 hp5 (wipeR S t.ix) (wipe σ t.ix) H5 := fun {w5 hp5 H5} r5 x5 => Rel.back r2 r5 x5
                    refine ⟨hw, ⟨w2.toGw, w2.ω⟩, hp2, S3, r4, ?_⟩
                    cases qb : evOcT (T.cfg n) cd S3 hp2 with
                    | ok b hp5 =>
                      have qn : (evOcT (T.cfg n) cd S3).nox hp2 = .ok b hp5 := by simp only [Mx.nox, qb]
                      rw [bind_ok qn] at h2
                      intro w5 H5 x5 r5
                      have x25 : Ext w2 H' w5 H5 := x5
                      obtain ⟨hD5, g5, f5⟩ := x25.apart hD2 g2 f2
                      cases b with
                      | false =>
                        simp only [Bool.false_eq_true, if_false]
                        exact ⟨w5, hp5, acc, vacc, back r5 x5, x5.gr.o.l _ _ qo2, hD5, x25.reps rep2, g5, f5, x2.trans x25, by omega, by omega, h2⟩
                      | true =>
                        simp only [if_true]
                        have h2 : PostM X.K e wx S σ w1 H1 P (((evE (T.cfg n) elt S3).nox.bind fun d => (lcO f ko m (i + 1) (acc ++ [d])).bind fun ys => Mx.pure (.lst ys)) hp5) := by
                          have : ∀ (m : M D) (k : Option D → M D), (m.bind fun d => Mx.pure (some d)).bind k = m.bind fun d => k (some d) := fun m k => by rw [Mx.bind_assoc]; rfl
                          rw [this] at h2
                          exact h2
                        refine TEc.of r5 ?_
                        cases qe : evE (T.cfg n) elt S3 hp5 with
                        | ok d hp6 =>
                          have qn2 : (evE (T.cfg n) elt S3).nox hp5 = .ok d hp6 := by simp only [Mx.nox, qe]
                          rw [bind_ok qn2] at h2
                          intro w6 H6 x6 r6 _ v rp6
                          have x26 := x25.trans x6
                          obtain ⟨hD6, g6, f6⟩ := x26.apart hD2 g2 f2
                          have hl := rep2.length
                          refine ⟨vacc, hD6, ?_, w6, hp6, acc ++ [d], vacc ++ [v], ?_, x26.gr.o.l _ _ qo2, upd_same, (x26.reps rep2).append (.cons rp6 .nil), g6, f6, ?_, ?_, by omega, h2⟩
                          · rw [← hl]
                            have : LINE = sizeLine := line_eq
                            omega
                          · refine (back r6 (x5.trans x6)).updFree g6 ?_ f6 (fun a z => by rw [hD6] at z; cases z) (r1.enone hD)
                            rw [(x2.trans x26).ω]; exact r1.ωnone hD
                          · have x17 := x2.trans x26
                            exact ⟨⟨x17.gr.g, x17.gr.o, fun b o hb hn => by
                              have : b ≠ pD := fun z => by rw [z] at hb; rw [hD] at hb; cases hb
                              rw [upd_ne this]; exact x17.gr.h b o hb hn, fun b hb => by
                              by_cases z : b = pD
                              · subst z; exact hD
                              · rw [upd_ne z] at hb; exact x17.gr.i b hb, x17.gr.gn, x17.gr.on⟩, x17.ω⟩
                          · rw [List.length_append]
                            simp only [List.length_cons, List.length_nil]
                            omega
                        | exc x hp6 =>
                          have qn2 : (evE (T.cfg n) elt S3).nox hp5 = .stuck := by simp only [Mx.nox, qe]
                          rw [bind_st qn2] at h2; exact (show False from h2).elim
                        | stuck =>
                          have qn2 : (evE (T.cfg n) elt S3).nox hp5 = .stuck := by simp only [Mx.nox, qe]
                          rw [bind_st qn2] at h2; exact (show False from h2).elim
                    | exc x hp5 =>
                      have qn : (evOcT (T.cfg n) cd S3).nox hp2 = .stuck := by simp only [Mx.nox, qb]
                      rw [bind_st qn] at h2; exact (show False from h2).elim
                    | stuck =>
                      have qn : (evOcT (T.cfg n) cd S3).nox hp2 = .stuck := by simp only [Mx.nox, qb]
                      rw [bind_st qn] at h2; exact (show False from h2).elim
              | _ => exact (show False from h2).elim
        · exact (show False from h).elim
      | _ => exact (show False from h).elim
  | _ => exact (show False from h).elim
theorem se_lco (g : Gd T n N sc e wx X) {elt : C} {t : Tg} {c : C} {cd : Oc} {ee te ie : Expr} {ifs : List Expr} {scope : Scope} {pos : Pos}
    (hb : blkC N sc scope (ownOf N t) = true) (hi : PE X ie (TEc X.K e (T.cfg n) wx c)) (hs : ∀ x, foldedSetIterable ie X.env x = pure x)
    (hg : ∀ (s : Shared) (H : Hp) (C : Addr) (cl : List (Str × Addr)) (fp : List Addr), PG (X.blk s H scope (compEnvC scope cl C X.env) fp) te (gTgt X.K t))
    (hd : ∀ (s : Shared) (H : Hp) (C : Addr) (cl : List (Str × Addr)) (fp : List Addr), PTs (X.blk s H scope (compEnvC scope cl C X.env) fp) ifs (TDc X.K e (T.cfg n) wF cd))
    (he : ∀ (s : Shared) (H : Hp) (C : Addr) (cl : List (Str × Addr)) (fp : List Addr), PE (X.blk s H scope (compEnvC scope cl C X.env) fp) ee (TEc X.K e (T.cfg n) wF elt)) :
    PE X (.ListComp ee [⟨te, ie, ifs, 0⟩] scope pos) (TEc X.K e (T.cfg n) wx (.lco elt t c cd)) := by
  exact imE (pe_lc g.calm (by rw [g.hN]; exact g.nd) (pi_seqA hi) (own := ownOf N t) (by rw [g.hN, g.hsc]; exact blkOk_by hb) hg hd he hs) fun σ H Q h => lco_imp h
end
end RR

namespace RR
open PySem L2 PyProof.Rows
section
variable {X : Cx} {a b c d : Expr} {ta tb tc td : TE} {pos : Pos}
def tChain3 (r r' r'' : R2) (ta tb tc td : TE) : TE := fun σ H Q => ta σ H fun x H1 => tb σ H1 fun y H2 => r x y H2 fun z H3 => ∃ k, z = .bl k ∧
  (if k = true then tc σ H3 fun w H4 => r' y w H4 fun z2 H5 => ∃ k2, z2 = .bl k2 ∧ (if k2 = true then td σ H5 fun w2 H6 => r'' w w2 H6 Q else Q (.bl false) H5) else Q (.bl false) H3)
theorem pe_chain3 {op op' op'' : CmpOp} {r r' r'' : R2} (ho : OpR X (compareOp op) r) (ho' : OpR X (compareOp op') r') (ho'' : OpR X (compareOp op'') r'') (ha : PE X a ta) (hb : PE X b tb) (hc : PE X c tc) (hd : PE X d td)
    (hm : lastMarks [op, op', op''] [b, c, d] = false) : PE X (.Compare a [op, op', op''] [b, c, d] pos) (tChain3 r r' r'' ta tb tc td) := by
  refine ⟨fun pins s σ H Q I h => ?_⟩
  refine Compare_chain (L2.thn (ha.run pins s σ H _ I h) fun v s1 ⟨x, H1, I1, r1, q1⟩ => chain_link (L2.thn (hb.run pins s1 σ H1 _ I1 q1) fun u s2 ⟨y, H2, I2, r2, q2⟩ =>
    L2.thn (ho pins s2 σ H2 x y v u _ I2 r1 r2 q2) fun d s3 ⟨z, H3, I3, r3, k, e, q3⟩ => ?_)) hm
  subst e
  cases r3
  refine wpAny_truthy_bool ?_
  cases k with
  | false => exact ite_ff ⟨.bl false, H3, I3, rfl, q3⟩
  | true =>
    refine ite_tt (chain_link (L2.thn (hc.run pins s3 σ H3 _ I3 q3) fun w' s4 ⟨z', H4, I4, r4, q4⟩ => L2.thn (ho' pins s4 σ H4 y z' u w' _ I4 r2 r4 q4) fun d s5 ⟨z2, H5, I5, r5, k2, e2, q5⟩ => ?_))
    subst e2
    cases r5
    refine wpAny_truthy_bool ?_
    cases k2 with
    | false => exact ite_ff ⟨.bl false, H5, I5, rfl, q5⟩
    | true => exact ite_tt (chain_last (L2.thn (hd.run pins s5 σ H5 _ I5 q5) fun w2 s6 ⟨z3, H6, I6, r6, q6⟩ => ho'' pins s6 σ H6 z' z3 w' w2 Q I6 r4 r6 q6))
end
section
variable {T : Tb} {n : Nat} {N : List Str} {sc : Scope} {X : Cx} {e : En} {wx : D → RS → HP → Prop}
theorem se_ch3 (g : Gq T n N sc e wx X) {o1 o2 o3 : CmpOp} {a b c d : C} {ea eb ec ed : Expr} {pos : Pos} (hm : lastMarks [o1, o2, o3] [eb, ec, ed] = false) (ha : PE X ea (TOc X.K e (T.cfg n) wx a)) (hb : PE X eb (TOc X.K e (T.cfg n) wx b)) (hc : PE X ec (TOc X.K e (T.cfg n) wx c)) (hd : PE X ed (TOc X.K e (T.cfg n) wx d)) :
    PE X (.Compare ea [o1, o2, o3] [eb, ec, ed] pos) (TEc X.K e (T.cfg n) wx (.ch3 o1 o2 o3 a b c d)) :=
  imE (pe_chain3 (op_cm g.units o1) (op_cm g.units o2) (op_cm g.units o3) ha hb hc hd hm) fun σ H Q hq => by
  obtain ⟨w, hp, S, r, h⟩ := hq
  rw [evE] at h
  refine TOc.of r (h.bind.mono fun d1 hp1 w1 H1 _ x1 _ h1 r1 v1 raw1 => ?_)
  refine TOc.of r1 (h1.bind.mono fun d2 hp2 w2 H2 _ x2 _ h2 r2 v2 raw2 => ?_)
  obtain ⟨k, e3, h3⟩ := PostM.lift h2.bind
  have h3 := h3 w2 H2 (.refl _ _) r2
  refine ⟨w2.oa, w2.g, _, _, k, r2.hs.gH, (raw1.ext r1 x2).view r2, raw2.view r2, e3, k, rfl, ?_⟩
  cases k with
  | false => exact h3 w2 H2 (.refl _ _) r2 _ (.bl false)
  | true =>
    refine TOc.of r2 ((PostM.bind h3).mono fun d3 hp3 w3 H3 _ x3 _ h4 r3 v3 raw3 => ?_)
    obtain ⟨k2, e5, h5⟩ := PostM.lift h4.bind
    have h5 := h5 w3 H3 (.refl _ _) r3
    refine ⟨w3.oa, w3.g, _, _, k2, r3.hs.gH, (raw2.ext r2 x3).view r3, raw3.view r3, e5, k2, rfl, ?_⟩
    cases k2 with
    | false => exact h5 w3 H3 (.refl _ _) r3 _ (.bl false)
    | true =>
      refine TOc.of r3 ((PostM.bind h5).mono fun d4 hp4 w4 H4 _ x4 _ h6 r4 v4 raw4 => ?_)
      obtain ⟨k3, e7, h7⟩ := PostM.lift h6.bind
      have h7 := h7 w4 H4 (.refl _ _) r4
      exact ⟨w4.oa, w4.g, _, _, k3, r4.hs.gH, (raw3.ext r3 x4).view r4, raw4.view r4, e7, h7 w4 H4 (.refl _ _) r4 _ (.bl k3)⟩
theorem se_gget (g : Gq T n N sc e wx X) {x : Str} {k d : C} {ek ed : Expr} {p ap cp : Pos} (hg : glB sc x = true) (hx : okN x = true) (hl : (ap.endLine == cp.line) = true) (hs : StarOk [ek, ed]) (hk : PE X ek (TEc X.K e (T.cfg n) wx k)) (hd : PE X ed (TEc X.K e (T.cfg n) wx d)) :
    PE X (.Call (.Attribute (.Name x p) "get" ap) [ek, ed] [] cp) (TEc X.K e (T.cfg n) wx (.gget x k d)) := by
  refine ⟨fun pins s σ H Q I h => ?_⟩
  obtain ⟨w, hp, S, r, h⟩ := h
  rw [evE] at h
  simp only [Tb.cfg] at h
  cases hq : T.dct x with
  | none => rw [hq] at h; exact (show False from h).elim
  | some kvs =>
    rw [hq, Mx.lift_some, Mx.pure_bind] at h
    obtain ⟨dA, es, nn, hm, KD, hz⟩ := (g.dct x kvs hq).there
    have h1 := hs ek (by simp)
    have h2 := hs ed (by simp)
    have tr : backTo cp (starEach [ek, ed] X.env) = [(false, eval ek X.env), (false, eval ed X.env)] := by
      rw [h1, h2]; rfl
    refine wpAny_Call_method rfl (by rw [tr]; rfl) hl PySem.F.plainAttrs_dict PySem.F.slot_dict_get PySem.F.type_dict_get (ld_glob I (g.gl hg) hm ?_ (okN1 hx))
    refine ⟨kd_type KD I, fun b q => by cases q; exact ⟨_, I.kIn _ _ KD.at_, rfl⟩, ?_⟩
    rw [tr]
    have hk1 : TEc X.K e (T.cfg n) wx k σ H fun y H2 => ∃ z, y = .str z ∧ TEc X.K e (T.cfg n) wx d σ H2 fun u H3 => match kvs.lookup z with
        | some dd => ∀ v, (∀ oa, Rep X.K oa (fun _ => none) dd v) → Q v H3
        | none => Q u H3 := by
      refine TEc.of r (h.bind.mono fun d1 hp1 w1 H1 _ x1 _ h1 r1 v1 rp => ?_)
      obtain ⟨z, e3, h3⟩ := PostM.lift h1.bind
      have h3 := h3 w1 H1 (.refl _ _) r1
      cases d1 with
      | str z' =>
        cases e3
        refine ⟨z, rp.strE, TEc.of r1 ((PostM.bind h3).mono fun d2 hp2 w2 H2 _ x2 _ h4 r2 v2 rp2 => ?_)⟩
        have h5 := h4 w2 H2 (.refl _ _) r2
        cases q : kvs.lookup z with
        | none =>
          have e6 : ggetD kvs z d2 = d2 := by unfold ggetD; rw [q]
          rw [e6] at h5
          exact h5 v2 rp2
        | some dd =>
          have e6 : ggetD kvs z d2 = dd := by unfold ggetD; rw [q]
          rw [e6] at h5
          exact fun v hv => h5 v ((hv w2.oa).up fun b o q => by cases q)
      | _ => cases e3
    refine Calls.callWith_builtin rfl (Calls.evalArgs_plain (Calls.spliced_cons (L2.thn (hk.run pins s σ H _ I hk1) fun iv s2 ⟨y, H2, I2, ry, z, ey, q2⟩ =>
      Calls.spliced_cons (L2.thn (hd.run pins s2 σ H2 _ I2 q2) fun fv s3 ⟨u, H3, I3, ru, q3⟩ => Calls.spliced_nil ?_))))
    subst ey
    obtain ⟨t, rfl⟩ := ry
    refine call_meetsIn PySem.F.slot_dict_get (kd_type KD I3) PySem.F.entry_dict_get (PySem.F.args_dict_get_3 _ _ _) (meets_dict_get_default (PySem.strKind X.prog X.w) dA (PySem.strKind_is X.prog X.w z t) KD.low fv) ⟨_, PySem.W.mapOf_K (prog := X.prog) I3.kIn KD.at_ KD.lit, ?_⟩
    have hz := hz z
    cases q : kvs.lookup z with
    | none =>
      rw [q] at hz q3
      rw [PySem.W.find_K KD.at_ hz]
      exact ⟨u, H3, I3.tok _, ru, q3⟩
    | some dd =>
      rw [q] at hz q3
      obtain ⟨u0, v0, e1, e2, e3⟩ := hz
      rw [PySem.W.find_K KD.at_ e1]
      exact ⟨v0, H3, I3.tok _, e2, q3 v0 e3⟩
theorem idx_first {ys : List Str} {z : Str} {i : Nat} (h : ys.findIdx? (fun w => decide (w = z)) = some i) : ys[i]? = some z ∧ ∀ m, m < i → ys[m]? ≠ some z := by
  rw [List.findIdx?_eq_some_iff_getElem] at h
  obtain ⟨h1, h2, h3⟩ := h
  rw [decide_eq_true_eq] at h2
  refine ⟨by rw [List.getElem?_eq_getElem h1, h2], fun m hm q => ?_⟩
  have := h3 m hm
  obtain ⟨h4, h5⟩ := List.getElem?_eq_some_iff.mp q
  rw [h5] at this
  simp at this
def rIxT (K : PySem.W.Frag) : V → List V → Hp → VK → Prop := fun x xs H Q => ∃ p, ∃ ys : List Str, ∃ z j, x = .ref p ∧ xs = [.str z] ∧ SqT K H p (ys.map V.str) ∧ ys[j]? = some z ∧ (∀ m, m < j → ys[m]? ≠ some z) ∧ Q (.int (j : Nat)) H
theorem se_gix (g : Gq T n N sc e wx X) {x : Str} {b : C} {eb : Expr} {p ap cp : Pos} (hg : glB sc x = true) (hx : okN x = true) (hl : (ap.endLine == cp.line) = true) (hs : StarOk [eb]) (hb : PE X eb (TEc X.K e (T.cfg n) wx b)) :
    PE X (.Call (.Attribute (.Name x p) "index" ap) [eb] [] cp) (TEc X.K e (T.cfg n) wx (.ixf true (.glob x) b)) := by
  cases hq : T.glob x with
  | none =>
    refine ⟨fun a b c d f k m => ?_⟩
    obtain ⟨w, hp, S, r, h⟩ := m
    rw [evE, evE] at h
    simp only [glM, Tb.cfg, hq] at h
    exact (show False from h).elim
  | some d =>
    obtain ⟨u, v, e1, e2, e3⟩ := g.glob x d hq
    have h1 := hs eb (by simp)
    have pe := pe_bm (pa := PySem.F.plainAttrs_tuple) PySem.F.slot_tuple_index PySem.F.type_tuple_index mt_tup_index (pe_glob (pos := p) (g.gl hg) e1 e2 (okN1 hx)) (pa_cons hb pa_nil (h1 _ _)) rfl (by rw [h1]; rfl) hl (h1 _ _) (by rfl)
    refine imE pe fun σ H Q ⟨w, hp, S, r, h⟩ => ?_
    rw [evE, evE] at h
    simp only [glM, Tb.cfg, hq] at h
    rw [Mx.lift_some, Mx.pure_bind] at h
    have rp := e3 w.oa
    cases d with
    | tup ds =>
      cases rp with
      | tup hsq rs =>
        rename_i pa vs
        have hT : SqT X.K H pa vs := Sub.sqT (fun b o q => by cases q) hsq
        refine ⟨?_, TEc.of r ((PostM.bind (show PostM X.K e wx S σ w H _ ((evE (T.cfg n) b S).bind (fun y => Mx.lift (ixfD (.tup ds) y)) hp) from h)).mono fun d2 hp2 w2 H2 _ x2 _ h2 r2 v2 rp2 => ?_)⟩
        · obtain ⟨p', o, t1, t2, t3, t4⟩ := g.tpl x ds hq
          rw [e1] at t1
          cases t1
          cases e2
          exact .inr (.inl ⟨rfl, o, t2, t3, t4⟩)
        · obtain ⟨d3, e5, h5⟩ := PostM.lift h2
          have h5 := h5 w2 H2 (.refl _ _) r2
          cases d2 with
          | str z =>
            unfold ixfD at e5
            simp only at e5
            cases ey : allStr ds with
            | none => rw [ey] at e5; cases e5
            | some ys =>
              rw [ey, Option.bind_some] at e5
              cases ei : ys.findIdx? (fun w => decide (w = z)) with
              | none => rw [ei] at e5; cases e5
              | some i =>
                rw [ei] at e5
                cases e5
                have := rs.strs2 ey
                subst this
                obtain ⟨f1, f2⟩ := idx_first ei
                exact ⟨pa, ys, z, i, rfl, by rw [rp2.strE], Sub.sqT (fun b o q => by cases q) hsq, f1, f2, h5 _ (.int _)⟩
          | _ => cases e5
    | _ => exact (show False from h).elim
theorem strs_flat (ys : List Str) : (ys.map V.str).all flatV = true := by
  induction ys with
  | nil => rfl
  | cons a r ih => rw [List.map_cons, List.all_cons, ih]; rfl
theorem eqV_str {a b : Str} (h : a ≠ b) : eqV (.str a) (.str b) = false := by
  show (a == b) = false
  cases q : a == b with
  | false => rfl
  | true => exact (h (eq_of_beq q)).elim
theorem se_lix (g : Gq T n N sc e wx X) {a b : C} {oe eb : Expr} {ap cp : Pos} (hb : rcvB oe = true) (hl : (ap.endLine == cp.line) = true) (hs : StarOk [eb]) (ha : PE X oe (TEc X.K e (T.cfg n) wx a)) (hp' : PE X eb (TEc X.K e (T.cfg n) wx b)) :
    PE X (.Call (.Attribute oe "index" ap) [eb] [] cp) (TEc X.K e (T.cfg n) wx (.ixf false a b)) := by
  have h1 := hs eb (by simp)
  have pe := pe_bm (pa := PySem.F.plainAttrs_list) PySem.F.slot_list_index PySem.F.type_list_index mt_index ha (pa_cons hp' pa_nil (h1 _ _)) (base_ok hb "index" X.env) (by rw [h1]; rfl) hl (h1 _ _) (by rfl)
  refine imE pe fun σ H Q ⟨w, hp, S, r, h⟩ => ?_
  rw [evE] at h
  refine TEc.of r (h.bind.mono fun d1 hp1 w1 H1 _ x1 _ h1 r1 v1 rp1 => ?_)
  cases d1 with
  | lst ds =>
    have h1 : PostM X.K e wx S σ w1 H1 _ ((evE (T.cfg n) b S).bind (fun y => Mx.lift (ixfD (.lst ds) y)) hp1) := h1
    cases rp1 with
    | lst hsq rs =>
      rename_i pa vs
      refine ⟨.inl ⟨rfl, vs, Sub.sqL r1.hs.gH hsq⟩, TEc.of r1 ((PostM.bind h1).mono fun d2 hp2 w2 H2 _ x2 _ h2 r2 v2 rp2 => ?_)⟩
      obtain ⟨d3, e5, h5⟩ := PostM.lift h2
      have h5 := h5 w2 H2 (.refl _ _) r2
      cases d2 with
      | str z =>
        unfold ixfD at e5
        simp only at e5
        cases ey : allStr ds with
        | none => rw [ey] at e5; cases e5
        | some ys =>
          rw [ey, Option.bind_some] at e5
          cases ei : ys.findIdx? (fun w => decide (w = z)) with
          | none => rw [ei] at e5; cases e5
          | some i =>
            rw [ei] at e5
            cases e5
            have := rs.strs2 ey
            subst this
            obtain ⟨f1, f2⟩ := idx_first ei
            refine ⟨pa, ys.map V.str, .str z, i, .str z, rfl, by rw [rp2.strE], Sub.sqL (x2.gr.g.trans r2.hs.gH) hsq, rfl, strs_flat ys, by rw [List.getElem?_map, f1]; rfl, ?_, fun m z' hm hz' => ?_, h5 _ (.int _)⟩
            · show (z == z) = true
              exact beq_self_eq_true z
            · rw [List.getElem?_map] at hz'
              cases q : ys[m]? with
              | none => rw [q] at hz'; cases hz'
              | some y =>
                rw [q] at hz'
                cases hz'
                exact eqV_str fun z => f2 m hm (by rw [q, z])
      | _ => cases e5
  | _ => exact (show False from h1).elim
theorem FReps.look {K : PySem.W.Frag} {oa : Os} {G : Hp} {f : Str} : ∀ {ds : List (Str × D)} {vs : List (Str × V)}, FReps K oa G ds vs → (∀ d, ds.lookup f = some d → ∃ v, vs.lookup f = some v ∧ Rep K oa G d v) ∧ (ds.lookup f = none → vs.lookup f = none)
  | _, _, .nil => ⟨fun d z => (by cases z), fun _ => rfl⟩
  | _, _, .cons (k := k) h1 h2 => by
    obtain ⟨a, b⟩ := FReps.look (f := f) h2
    refine ⟨fun d z => ?_, fun z => ?_⟩
    · rw [List.lookup_cons] at z ⊢
      cases q : f == k with
      | true => rw [q] at z; cases z; exact ⟨_, rfl, h1⟩
      | false => rw [q] at z; exact a d z
    · rw [List.lookup_cons] at z ⊢
      cases q : f == k with
      | true => rw [q] at z; cases z
      | false => rw [q] at z; exact b z
theorem se_fld (g : Gq T n N sc e wx X) {c : C} {f : Str} {oe : Expr} {pos : Pos} (hb : rcvB oe = true) (hc : PE X oe (TEc X.K e (T.cfg n) wx c)) : PE X (.Attribute oe f pos) (TEc X.K e (T.cfg n) wx (.fld c f)) := by
  refine ⟨fun pins s σ H Q I h => ?_⟩
  obtain ⟨w, hp, S, r, h⟩ := h
  rw [evE] at h
  have hb := base_ok hb f X.env
  refine attr_of hb (L2.thn (hc.run pins s σ H (fun v H1 => (∃ a C dx fv v1, v = .ref a ∧ H1 a = some (ExV (.ref C) (some dx) a) ∧ H1 dx = some (.xd fv) ∧ fv.lookup f = some v1 ∧ (∃ fs, XfAt X.K C fs ∧ f ∈ fs) ∧ Q v1 H1) ∨ (∃ a C dx fv v1, v = .ref a ∧ H1 a = some (.ins C dx fv) ∧ L2.Cls X.K C ∧ NoAttr X.K C f ∧ fv.lookup f = some v1 ∧ Q v1 H1)) I (TEc.of r (h.bind.mono fun d1 hp1 w1 H1 _ x1 _ h1 r1 v1 rp => ?_))) fun u s1 hh => ?_)
  · cases d1 with
    | xn cn fs =>
      simp only [fldM, Tb.cfg] at h1
      cases hq : T.xfs cn with
      | none => rw [hq] at h1; exact (show False from h1).elim
      | some gs =>
        rw [hq] at h1
        simp only at h1
        split at h1
        · rename_i hm
          obtain ⟨d2, e5, h5⟩ := PostM.lift h1
          have h5 := h5 w1 H1 (.refl _ _) r1
          obtain ⟨C', hcm, xf⟩ := g.xfs cn gs hq
          cases rp with
          | xn0 _ _ => cases e5
          | xn1 k1 k2 k3 k4 =>
            rename_i C a dx fv
            obtain ⟨v2, e6, e7⟩ := (k4.look (f := f)).1 d2 e5
            have : w1.oa.cm = e.w.oa.cm := r1.gr.o.cm
            rw [this, hcm] at k1
            cases k1
            exact .inl ⟨a, C', dx, fv, v2, rfl, r1.hs.gH _ _ k2, r1.hs.gH _ _ k3, e6, ⟨gs, xf, by simpa using hm⟩, h5 v2 e7⟩
        · exact (show False from h1).elim
    | obj k =>
      simp only [fldM, objFld, Tb.cfg] at h1
      cases q2 : hp1[k]? with
      | none => rw [q2] at h1; exact (show False from h1).elim
      | some ob =>
        rw [q2] at h1
        cases ob with
        | inst cn fs =>
          simp only at h1
          cases hq : T.ins cn with
          | none => rw [hq] at h1; exact (show False from h1).elim
          | some gs =>
            rw [hq] at h1
            simp only at h1
            split at h1
            · rename_i hm
              obtain ⟨d2, e5, h5⟩ := PostM.lift h1
              have h5 := h5 w1 H1 (.refl _ _) r1
              obtain ⟨C', hcm, cl, na⟩ := g.ins cn gs hq
              cases rp with
              | obj q1 =>
                obtain ⟨C, dx, fv, e0, e1, e2, e3⟩ := r1.hs.oR k _ _ q2 q1
                obtain ⟨v2, e6, e7⟩ := (e3.look (f := f)).1 d2 e5
                have : w1.oa.cm = e.w.oa.cm := r1.gr.o.cm
                rw [this, hcm] at e0
                cases e0
                exact .inr ⟨_, _, dx, fv, v2, rfl, e1, cl, na f (by simpa using hm), e6, h5 v2 e7⟩
            · exact (show False from h1).elim
        | _ => exact (show False from h1).elim
    | _ => exact (show False from h1).elim
  · obtain ⟨x, H1, I1, rx, hh⟩ := hh
    rcases hh with ⟨a, C, dx, fv, v1, rfl, hx, hdx, hl, ⟨fs, xf, hf⟩, q⟩ | ⟨a, C, dx, fv, v1, rfl, hx, cl, na, hl, q⟩
    · obtain rfl : u = Value.ref a := rx
      obtain ⟨⟨oe2, ha, hz, vs, hd⟩, _⟩ := I1.hok a _ hx
      have hx2 : ObjOk X.prog X.w H1 s1.heap dx (.xd fv) := I1.hok dx _ hdx
      obtain ⟨mA, hns, hr⟩ := hx2
      obtain ⟨od, ho, hlk⟩ := lookIn_ns hns
      obtain ⟨u, hu, ru⟩ := RelO.some_of (v := v1) (o := mA f) (by rw [← hl]; exact hr f)
      have J : PySem.W.InstAt s1.heap a oe2 C (some od) := ⟨ha, hz.1, by unfold PySem.W.notCls; rw [hd] <;> rfl, by rw [hz.2]; exact ho⟩
      exact HandSPX.exc_get I1.kIn J xf.ga xf.gg xf.sb (PySem.W.findObj_own xf.hd (xf.no f hf) rfl (by rw [hlk, hu])) (handed_of ru) ⟨v1, H1, I1.tok _, ru, q⟩
    · obtain rfl : u = Value.ref a := rx
      exact getattr_ok I1 hx cl na hl fun u' s2 I2 ru => ⟨v1, H1, I2, ru, q⟩
/-- isinstance(x, c), x an exception held as a value -/
def rIsX (K : PySem.W.Frag) : List V → Hp → VK → Prop := fun xs H Q => ∃ (a C : Addr) (dd : Option Addr) (c : V) (v2 : Value) (b : Bool), xs = [.ref a, c] ∧ (∀ u, RelV c u → u = v2) ∧ H a = some (ExV (.ref C) dd a) ∧ (∀ d, dd = some d → ∃ fv, H d = some (.xd fv)) ∧
  (PySem.W.findIn K (.ref C) "__getattribute__" = some (some (.builtin "BaseException.__getattribute__")) ∧ PySem.W.findIn K (.ref C) "__getattr__" = some none ∧ PySem.W.subIn K (.ref C) (.type "BaseException") = some true ∧ (PySem.W.clsIn K C).isSome = true ∧ PySem.W.findIn K (.ref C) "__class__" = some (some (.builtin "object.__class__")) ∧ PySem.W.specialIn K (.builtin "object.__class__") "__get__" = some (some (.builtin "getset_descriptor.__get__")) ∧ PySem.W.takesIn K (.builtin "object.__class__") = some true ∧ PySem.W.mroIn K C (.type "object") = some true) ∧
  PySem.W.kitOne K (.ref C) v2 = some b ∧ Q (.bl b) H
theorem call_isX : CallR X (.builtin "isinstance") (rIsX X.K) := by
  intro pins s σ H xs us Q I r h
  obtain ⟨a, C, dd, c, v2, b, rfl, hcv, hx, hdd, ⟨f1, f2, f3, f4, f5, f6, f7, f8⟩, ek, q⟩ := h
  cases r with
  | cons rx rr =>
    cases rr with
    | cons rt rr =>
      cases rr
      cases rx
      have ec := hcv _ rt
      subst ec
      obtain ⟨⟨oe, ha, hz, vs, hd⟩, _⟩ := I.hok a _ hx
      have J : ∃ od, PySem.W.InstAt s.heap a oe C od := by
        cases dd with
        | none => exact ⟨none, ha, hz.1, by unfold PySem.W.notCls; rw [hd] <;> rfl, by rw [hz.2]; trivial⟩
        | some d =>
          obtain ⟨fv, hf⟩ := hdd d rfl
          have hx2 : ObjOk X.prog X.w H s.heap d (.xd fv) := I.hok d _ hf
          obtain ⟨mA, hns, _⟩ := hx2
          obtain ⟨od, ho, _⟩ := lookIn_ns hns
          exact ⟨some od, ha, hz.1, by unfold PySem.W.notCls; rw [hd] <;> rfl, by rw [hz.2]; exact ho⟩
      obtain ⟨od, J⟩ := J
      exact PySem.W.kia_one (PySem.W.kitx_exc f4 f1 f2 f3 f5 f6 f7 f8) I.kIn J ek (fun z => nomatch z) fun tk => ⟨.bl b, H, I.kept (t' := tk) fun _ _ z => z, rfl, q⟩
theorem pe_cls (g : Gq T n N sc e wx X) {c2 : Str} {v2 : Value} {v : V} {p : Pos} (hg : glB sc c2 = true) (hx : okN c2 = true) (h : ClsAt X.mg c2 v2) (hv : RelV v v2) : PE X (.Name c2 p) (tC v) := by
  rcases h with h | ⟨h1, h2, h3⟩
  · exact pe_glob (g.gl hg) h hv (okN1 hx)
  · exact pe_bltn (g.gl hg) h1 h2 hv h3 (okN1 hx)
theorem se_isx (g : Gq T n N sc e wx X) {cls : Str} {c : C} {ea : Expr} {p p2 pos : Pos} (hg : glB sc "isinstance" = true) (hy : glB sc cls = true) (hx : okN cls = true) (hs : ∀ xs env, starEach (ea :: xs) env = (false, eval ea env) :: starEach xs env) (ha : PE X ea (TEc X.K e (T.cfg n) wx c)) :
    PE X (.Call (.Name "isinstance" p) [ea, .Name cls p2] [] pos) (TEc X.K e (T.cfg n) wx (.isx cls c)) := by
  refine ⟨fun pins s σ H Q I h => ?_⟩
  -- the class's name is only known to mean something where it is asked
  by_cases hcl : ∃ c1 b, T.isa c1 cls = some b
  · obtain ⟨c1, b1, hi⟩ := hcl
    obtain ⟨C1, _, A1⟩ := g.isa c1 cls b1 hi
    obtain ⟨v2, v, k1, k2, k3, _, _⟩ := A1.there
    have pe := pe_callB call_isX (g.gl hg) (g.blt _ (by simp [bltNames])) (by decide +kernel) (es := [.Name cls p2]) (pa_cons ha (pa_cons (pe_cls g (p := p2) hy hx k1 k2) pa_nil) (hs _ _)) (by decide +kernel) (by decide +kernel) (hs _ _) rfl (p := p) (pos := pos)
    refine (imE pe fun σ H Q ⟨w, hp, S, r, h⟩ => ?_).run pins s σ H Q I h
    rw [evE] at h
    refine TEc.of r (h.bind.mono fun d1 hp1 w1 H1 _ x1 _ h1 r1 v1 rp => ?_)
    cases d1 with
    | xn cn fs =>
      simp only [isxM, Tb.cfg] at h1
      obtain ⟨b, e3, h3⟩ := PostM.lift h1.bind
      have h3 := h3 w1 H1 (.refl _ _) r1
      obtain ⟨C', hcm, A⟩ := g.isa cn cls b e3
      obtain ⟨v2', v', k1', k2', k3', _, k5'⟩ := A.there
      have ev : v2' = v2 := by
        rcases k1 with k1 | ⟨k1, k1b, _⟩ <;> rcases k1' with k1' | ⟨k1', k1b', _⟩
        · rw [k1] at k1'; cases k1'; rfl
        · rw [k1] at k1'; cases k1'
        · rw [k1] at k1'; cases k1'
        · rw [k1b] at k1b'; cases k1b'; rfl
      subst ev
      have ecm : w1.oa.cm = e.w.oa.cm := r1.gr.o.cm
      have fin := h3 w1 H1 (.refl _ _) r1 _ (.bl b)
      cases rp with
      | xn0 q1 q2 =>
        rw [ecm, hcm] at q1
        cases q1
        exact ⟨_, _, none, _, _, b, rfl, k3, r1.hs.gH _ _ q2, fun d z => (by cases z), ⟨A.ga, A.gg, A.sb, A.hc, A.ca, A.sp, A.tk, A.mr⟩, k5', fin⟩
      | xn1 q1 q2 q3 q4 =>
        rw [ecm, hcm] at q1
        cases q1
        exact ⟨_, _, some _, _, _, b, rfl, k3, r1.hs.gH _ _ q2, fun d z => (by cases z; exact ⟨_, r1.hs.gH _ _ q3⟩), ⟨A.ga, A.gg, A.sb, A.hc, A.ca, A.sp, A.tk, A.mr⟩, k5', fin⟩
    | _ => exact (show False from h1).elim
  · -- never asked
    have pn : PA X [.Name cls p2] (fun _ _ _ => False) := ⟨fun _ _ _ _ _ _ _ h => h.elim⟩
    have pe := pe_callB (r := fun _ _ _ => False) (id := "isinstance") (fun _ _ _ _ _ _ _ _ _ h => h.elim) (g.gl hg) (g.blt _ (by simp [bltNames])) (by decide +kernel) (es := [.Name cls p2]) (pa_cons ha pn (hs _ _)) (by decide +kernel) (by decide +kernel) (hs _ _) rfl (p := p) (pos := pos)
    refine (imE pe fun σ H Q ⟨w, hp, S, r, h⟩ => ?_).run pins s σ H Q I h
    rw [evE] at h
    refine TEc.of r (h.bind.mono fun d1 hp1 w1 H1 _ x1 _ h1 r1 v1 rp => ?_)
    cases d1 with
    | xn cn fs =>
      simp only [isxM, Tb.cfg] at h1
      obtain ⟨b, e3, _⟩ := PostM.lift h1.bind
      exact (hcl ⟨cn, b, e3⟩).elim
    | _ => exact (show False from h1).elim
end
end RR

namespace RR
open PySem PySem.Spec PyProof.Rows L2
/-- a class of the module whose __init__ is ValueError's -/
structure WiAt (K : PySem.W.Frag) (C : Addr) : Prop where
  sp : PySem.W.specialIn K (.ref C) "__getattribute__" = some (some (.builtin "type.__getattribute__"))
  rd : PySem.W.readsIn K C (.type "type") = true
  fc : PySem.W.findCls K (.ref C) (.type "type") "__init__" = some (.val (.builtin "ValueError.__init__"))
section
variable {X : Cx} {e : Expr} {es : List Expr} {ta : TA} {wn : Str} {p1 p2 pos : Pos} {CW : Addr}
theorem pe_winit {pl : Sem Bool} (hg : Gl X wn) (hm : X.mg wn = some (.ref CW)) (hd : (wn == ("__debug__" : Str)) = false) (W : WiAt X.K CW) (ha : PA X (e :: es) ta)
    (hc : eval (.Call (.Attribute (.Name wn p1) "__init__" p2) (e :: es) [] pos) X.env = (do
      let ov ← eval (.Name wn p1) X.env
      standAt p2.atName
      let (f, first) ← holding [ov] (getMethod ov "__init__" pl)
      callWith pos f first (backTo pos (starEach (e :: es) X.env)) (backToKw pos (keywordEach [] X.env))) := by rfl)
    (he : starEach (e :: es) X.env = (false, eval e X.env) :: starEach es X.env := by rfl) (hpl : (backTo pos (starEach es X.env)).any (·.1) = false := by rfl) :
    PE X (.Call (.Attribute (.Name wn p1) "__init__" p2) (e :: es) [] pos) (tVeI X.K ta) := by
  refine ⟨fun pins s σ H Q I h => ?_⟩
  refine PySem.W.methodCall_KW (ld_glob I hg hm ?_ hd) hc
  refine PySem.W.method_cls I.kIn W.sp (PySem.W.cls_value I.kIn W.rd W.fc (by decide +kernel) ?_)
  show wpAny _ _ (callWith pos (Value.builtin "ValueError.__init__") [] (backTo pos (starEach (e :: es) X.env)) []) _ _ _
  refine PyProof.Rows.callWith_method1 (L2.thn (ha.run pos pins _ σ H _ (I.tok _) h) fun us s1 ⟨vs, H1, I1, r1, a, C, ws, ev, hl, T, ea, q⟩ => ?_) he hpl
  subst ev
  cases r1 with
  | @cons _ u0 _ ur ra rw' =>
    obtain rfl : u0 = Value.ref a := ra
    have hlen : ur.length ≤ sizeLine := by
      rw [← Paired.length rw', sizeLine_eq]
      omega
    exact oinit_ok T I1 ea hlen fun s' J => ⟨.non, H1, J, rfl, q⟩
end
/-- self.f = x .., by slots from i on -/
def chkAs (N : List Str) (sc : Scope) : Nat → List Str → List Stmt → Bool
  | _, [], [] => true
  | i, f :: fs, .Assign ts v _ :: r => (match ts, v with
    | [.Attribute (.Name y _) g _], .Name z _ => decide (N[0]? = some y) && visB sc y && okN y && decide (f = g) && decide (N[i]? = some z) && visB sc z && okN z
    | _, _ => false) && chkAs N sc (i + 1) fs r
  | _, _, _ => false
def chkIni (wn : Str) (fs : List Str) (N : List Str) (st : Stmt) : Bool := C8.scC N N (defScope st) && decide (N.length = fs.length + 1) && decide (fs.length ≤ 100) && (match defBody st with
  | .Expr (.Call (.Attribute (.Name w _) m pa) es ks pc) _ :: r => (match es with
    | [.Name y _, .Constant (.str _) _ _] => (pa.endLine == pc.line) && decide (w = wn) && okN w && glB (defScope st) w && decide (m = "__init__") && ks.isEmpty && decide (N[0]? = some y) && visB (defScope st) y && okN y && chkAs N (defScope st) 1 fs r
    | _ => false)
  | _ => false)
def tTail (C : Addr) (i : Nat) (fs : List Str) : TS := fun D σ H => ∃ (a dx : Addr) (acc : List (Str × V)) (ws : List V), σ[0]? = some (some (.ref a)) ∧ ws.length = fs.length ∧ (∀ (j : Nat) (w : V), ws[j]? = some w → σ[i + j]? = some (some w)) ∧ H a = some (exo a C (some dx)) ∧ H dx = some (exd dx acc) ∧ dx ≠ a ∧ acc.length + fs.length ≤ 900 ∧
  D.nx σ (upd H dx (exd dx ((fs.zip ws).reverse ++ acc)))
section
variable {X : Cx} {N : List Str} {sc : Scope} {C : Addr}
theorem upd_id {H : Hp} {a : Addr} {o : HO} (h : H a = some o) : upd H a o = H := by
  funext b
  by_cases hb : b = a
  · subst hb; rw [upd_same, h]
  · rw [upd_ne hb]
theorem vis_of {x : Str} (hsc : X.env.scope = sc) (h : visB sc x = true) : Vis X.env.scope x := by
  rw [hsc]
  unfold visB at h
  unfold Vis
  split at h
  · rename_i q; exact .inl q
  · rename_i q; exact .inr (.inl q)
  · rename_i q; exact .inr (.inr q)
  · cases h
theorem pss_tail (hN : X.N = N) (hsc : X.env.scope = sc) (T : OexC X.K C) : ∀ (fs : List Str) (i : Nat) (sts : List Stmt), (∀ f ∈ fs, PySem.W.findIn X.K (.ref C) f = some none) → chkAs N sc i fs sts = true → PSs X sts (tTail C i fs)
  | [], i, sts, hno, h => by
    cases sts with
    | cons a b => simp [chkAs] at h
    | nil =>
      refine imSs pss_nil fun D σ H ⟨a, dx, acc, ws, h0, hl, hw, e1, e2, nd, h9, q⟩ => ?_
      have : ws = [] := List.eq_nil_of_length_eq_zero hl
      subst this
      have q2 : D.nx σ (upd H dx (exd dx acc)) := q
      rw [upd_id e2] at q2
      exact q2
  | f :: fs, i, sts, hno, h => by
    match sts, h with
    | [], h => simp [chkAs] at h
    | st :: r, h =>
      cases st <;> first
        | (simp [chkAs] at h; done)
        | skip
      rename_i ts v pos
      match ts, v, h with
      | [.Attribute (.Name y p1) g p2], .Name z p3, h =>
        simp only [chkAs, Bool.and_eq_true, decide_eq_true_eq] at h
        obtain ⟨⟨⟨⟨⟨⟨⟨h1, h2⟩, h3⟩, rfl⟩, h5⟩, h6⟩, h7⟩, h8⟩ := h
        have ih := pss_tail hN hsc T fs (i + 1) r (fun g hg => hno g (List.mem_cons_of_mem _ hg)) h8
        have p := ps_ost (f := f) (p' := p2) (pos := pos) (pe_var (pos := p1) (by rw [hN]; exact h1) (vis_of hsc h2) (okN1 h3) (okN2 h3)) (pe_var (pos := p3) (by rw [hN]; exact h5) (vis_of hsc h6) (okN1 h7) (okN2 h7)) (by rfl)
        refine imSs (pss_cons p ih) fun D σ H ⟨a, dx, acc, ws, h0, hl, hw, e1, e2, nd, h9, q⟩ => ?_
        cases ws with
        | nil => simp at hl
        | cons w ws =>
          have hw0 := hw 0 w rfl
          rw [Nat.add_zero] at hw0
          refine ⟨w, hw0, .ref a, h0, a, C, rfl, T, hno f List.mem_cons_self, .inr ⟨dx, acc, e1, e2, by simp at h9; omega, ?_⟩⟩
          have na : a ≠ dx := fun z => nd z.symm
          refine ⟨a, dx, (f, w) :: acc, ws, h0, by simpa using hl, fun j w' q' => ?_, by rw [upd_ne na]; exact e1, upd_same, nd, by simp at h9 ⊢; omega, ?_⟩
          · have := hw (j + 1) w' (by simpa using q')
            rwa [show i + (j + 1) = i + 1 + j by omega] at this
          · rw [upd_upd]
            simpa using q
/-- what the whole body does -/
def tIni (C : Addr) (fs : List Str) : TS := fun D σ H => ∃ (a : Addr) (ws : List V), σ[0]? = some (some (.ref a)) ∧ ws.length = fs.length ∧ (∀ (j : Nat) (w : V), ws[j]? = some w → σ[1 + j]? = some (some w)) ∧ H a = some (exo a C none) ∧
  ∀ dx, H dx = none → dx ≠ a → D.nx σ (upd (upd H dx (exd dx (fs.zip ws).reverse)) a (exo a C (some dx)))
theorem call_form {o : Expr} {m : Str} {args : List Expr} {ks : List Keyword} {pa pc : Pos} {env : Env} (hb : attributeBase o m env (eval o env) = eval o env) (hline : (pa.endLine == pc.line) = true) (hf : methodCallForm (args.length + ks.length) (backTo pc (starEach args env)) (backToKw pc (keywordEach ks env)) = true := by rfl) : eval (.Call (.Attribute o m pa) args ks pc) env = (do
      let ov ← eval o env
      standAt pa.atName
      let (f, first) ← holding [ov] (getMethod ov m (do return (← importBound o env).getD true))
      callWith pc f first (backTo pc (starEach args env)) (backToKw pc (keywordEach ks env))) := by
  have hpos : methodCallPos true o env pa pc = pure pc := by unfold methodCallPos; simp [hline]
  rw [arm_eval_Call, hb]
  unfold methodCall
  rw [hf, hpos]
  rfl
theorem upd_swap {H : Hp} {a d : Addr} {o1 o2 o3 : HO} (ad : d ≠ a) : upd (upd (upd H d o1) a o2) d o3 = upd (upd H d o3) a o2 := by
  funext b
  by_cases hb : b = d
  · subst hb; rw [upd_same, upd_ne ad, upd_same]
  · rw [upd_ne hb]
    by_cases ha : b = a
    · subst ha; rw [upd_same, upd_same]
    · rw [upd_ne ha, upd_ne hb, upd_ne ha, upd_ne hb]
theorem pss_ini2 (hN : X.N = N) {st : Stmt} (hsc : X.env.scope = defScope st) (T : OexC X.K C) {wn : Str} {CW : Addr} (hW : X.mg wn = some (.ref CW)) (W : WiAt X.K CW) {f : Str} {fs : List Str} (hno : ∀ g ∈ f :: fs, PySem.W.findIn X.K (.ref C) g = some none) (h100 : (f :: fs).length ≤ 100)
    {w m y z : Str} {pw pa pc pe py k2 : Pos} {k1 : Nat} {ks : List Keyword} {r : List Stmt} (ck : ((pa.endLine == pc.line) && decide (w = wn) && okN w && glB (defScope st) w && decide (m = "__init__") && ks.isEmpty && decide (N[0]? = some y) && visB (defScope st) y && okN y && chkAs N (defScope st) 1 (f :: fs) r) = true) :
    PSs X (.Expr (.Call (.Attribute (.Name w pw) m pa) [.Name y py, .Constant (.str z) k1 k2] ks pc) pe :: r) (tIni C (f :: fs)) := by
    simp only [Bool.and_eq_true, decide_eq_true_eq, List.isEmpty_iff] at ck
    obtain ⟨⟨⟨⟨⟨⟨⟨⟨⟨hline, rfl⟩, c1⟩, c2⟩, rfl⟩, rfl⟩, c3⟩, c4⟩, c5⟩, c6⟩ := ck
    cases r with
    | nil => simp [chkAs] at c6
    | cons s1 r =>
      cases s1 <;> first
        | (simp [chkAs] at c6; done)
        | skip
      rename_i ts v pos
      match ts, v, c6 with
      | [.Attribute (.Name y1 p1) g p2], .Name z1 p3, h =>
        simp only [chkAs, Bool.and_eq_true, decide_eq_true_eq] at h
        obtain ⟨⟨⟨⟨⟨⟨⟨h1, h2⟩, h3⟩, rfl⟩, h5⟩, h6⟩, h7⟩, h8⟩ := h
        have tl := pss_tail hN hsc T fs 2 r (fun g hg => hno g (List.mem_cons_of_mem _ hg)) h8
        have p := ps_ost (f := f) (p' := p2) (pos := pos) (pe_var (pos := p1) (by rw [hN]; exact h1) (vis_of hsc h2) (okN1 h3) (okN2 h3)) (pe_var (pos := p3) (by rw [hN]; exact h5) (vis_of hsc h6) (okN1 h7) (okN2 h7)) (by rfl)
        have hgl : Gl X w := by
          show X.env.kindOf w = _
          unfold Env.kindOf
          rw [hsc]
          unfold glB at c2
          rw [of_decide_eq_true c2]
        have q0 := ps_expr (pos := pe) (pe_winit (e := .Name y py) (es := [.Constant (.str z) k1 k2]) (p1 := pw) (p2 := pa) (pos := pc) hgl hW (okN1 c1) W (pa_cons (pe_var (pos := py) (by rw [hN]; exact c3) (vis_of hsc c4) (okN1 c5) (okN2 c5)) (pa_cons pe_str pa_nil)) (call_form rfl hline)) (by rfl)
        refine imSs (pss_cons q0 (pss_cons p tl)) fun D σ H ⟨a, ws, i0, hl, hw, e1, q⟩ => ?_
        cases ws with
        | nil => simp at hl
        | cons w ws =>
          have hw0 := hw 0 w rfl
          refine ⟨.ref a, i0, a, C, [.str z], rfl, by simp, T, e1, w, hw0, .ref a, i0, a, C, rfl, T, hno f List.mem_cons_self, .inl ⟨e1, fun dx n ne => ?_⟩⟩
          refine ⟨a, dx, [(f, w)], ws, i0, by simpa using hl, fun j w' q' => ?_, upd_same, by rw [upd_ne ne, upd_same], ne, by simp at h100 ⊢; omega, ?_⟩
          · have := hw (j + 1) w' (by simpa using q')
            rwa [show 1 + (j + 1) = 2 + j by omega] at this
          · rw [upd_swap ne]
            have := q dx n ne
            simpa using this
theorem pss_ini (hN : X.N = N) {st : Stmt} (hsc : X.env.scope = defScope st) (T : OexC X.K C) {wn : Str} {CW : Addr} (hW : X.mg wn = some (.ref CW)) (W : WiAt X.K CW) {f : Str} {fs : List Str} (hno : ∀ g ∈ f :: fs, PySem.W.findIn X.K (.ref C) g = some none) (ck : chkIni wn (f :: fs) N st = true) : PSs X (defBody st) (tIni C (f :: fs)) := by
  unfold chkIni at ck
  simp only [Bool.and_eq_true, decide_eq_true_eq] at ck
  obtain ⟨⟨⟨_, _⟩, h100⟩, ck⟩ := ck
  generalize defBody st = body at ck ⊢
  split at ck
  · rename_i w pw m pa es ks pc pe r
    split at ck
    · rename_i y py z k1 k2
      exact pss_ini2 hN hsc T hW W hno h100 ck
    · cases ck
  · cases ck
end
section
variable {X : Cx} {pins : List (Addr × Obj)} {σ : L2.St} {H : Hp} {s : Shared}
theorem exv_ok {P : Program} {w : World} {H : Hp} {h : Heap} {a : Addr} {oe : Obj} {cls : Value} {d : Option Addr} {vs : Array Value} (ha : h.get? a = some oe) (hz : Zc cls d oe) (hd : oe.data = .fields vs) : ObjOk P w H h a (ExV cls d a) :=
  ⟨⟨oe, ha, hz, vs, hd⟩, ⟨oe, ha⟩, fun h1 h2 ⟨o, e, z, v⟩ k => ⟨o, k _ e, z, v⟩⟩
end
section
variable {K : PySem.W.Frag} {e : En} {w w0 : Wd} {hp hp0 : HP} {S S0 : RS} {σ σ0 : L2.St} {H H0 : Hp}
/-- an exception is held from here on -/
theorem rel_caught (r : Rel K e w hp S σ H) {x : D} {cls : Value} {dd : Option Addr} (xr : XR K e.H w.toGw x cls dd H) {a : Addr} (na : H a = none) :
    ∃ w', Sub w.g w'.g ∧ w'.oa = w.oa ∧ Rel K e w' hp S σ (upd H a (ExV cls dd a)) ∧ Rep K w'.oa w'.g x (.ref a) := by
  cases x with
  | xn c fs =>
    obtain ⟨C, hc, rfl, h⟩ := xr
    cases dd with
    | none =>
      simp only at h
      subst h
      exact ⟨⟨⟨upd w.g a (ExV (.ref C) none a), w.oa⟩, w.ω⟩, Sub.upd (r.gnone na), rfl, r.allocG (o := ExV (.ref C) none a) na, .xn0 hc upd_same⟩
    | some d =>
      obtain ⟨fv, h1, h2, h3, h4, h5⟩ := h
      have ωd : w.ω d = none := by
        cases q : w.ω d with
        | none => rfl
        | some i =>
          obtain ⟨d', o, _, _, h6, c⟩ := r.ownH q
          rw [h1] at h6
          cases h6
          cases d' <;> first
            | exact (show False from c).elim
            | (obtain ⟨_, z, _⟩ := c; cases z)
      have r1 := r.settle h1 ωd h3 h4 h5
      have da : a ≠ d := fun z => by rw [z, h1] at na; cases na
      have r2 := r1.allocG (o := ExV (.ref C) (some d) a) na
      have ga : (upd w.g d (.xd fv)) a = none := by rw [upd_ne da]; exact r.gnone na
      refine ⟨⟨⟨upd (upd w.g d (.xd fv)) a (ExV (.ref C) (some d) a), w.oa⟩, w.ω⟩, (Sub.upd h3).trans (Sub.upd ga), rfl, r2, .xn1 (fv := fv) hc upd_same ?_ ?_⟩
      · show upd (upd w.g d (.xd fv)) a _ d = _
        rw [upd_ne (Ne.symm da), upd_same]
      · exact FReps.mono ((Sub.upd h3).trans (Sub.upd ga)) (.refl _) h2
  | _ => exact (show False from xr).elim
end
def tMkV (C : Addr) (sp : Sp) (dvs : List V) (ta : TA) : TE := fun σ H Q => ta σ H fun vs H1 => vs.length ≤ 1000 ∧ ∀ a, H1 a = none → sp (.ref a :: (vs ++ dvs)) (upd H1 a (exo a C none))
  (fun v H2 => v = .non ∧ ∃ (d : Addr) (fs : List (Str × V)), H2 a = some (exo a C (some d)) ∧ H2 d = some (exd d fs) ∧ H1 d = none ∧ Q (.ref a) (upd (upd (del H2 a) d (.xd fs)) a (ExV (.ref C) (some d) a))) (fun _ _ _ => False)
section
variable {X : Cx} {e : Expr} {es : List Expr} {ta : TA} {p pos : Pos}
theorem pe_oex {CX : CXT} {x : Str} {C fI : Addr} {k : Nat} {fd : FuncData} {ps : List Str} {sp : Sp} {ds : List Value} {dvs : List V} (T : OexC X.K C) (iC : PySem.W.findIn X.K (.ref C) "__init__" = some (some (.ref fI))) (tI : PySem.W.typeIn X.K (.ref fI) = some (.type "function"))
    (F1 : FnOk X.prog X.w X.K X.mg X.base CX k fI fd ps sp) (hr : Room (k + 1) X.A) (hb : Binds X.K fd ps ds) (hd : Vals dvs ds) (hx : Passes CX X (fun _ _ _ => False)) (hg : Gl X x) (hm : X.mg x = some (.ref C)) (ha : PA X (e :: es) ta)
    (hdb : (x == ("__debug__" : Str)) = false) (he : starEach (e :: es) X.env = (false, eval e X.env) :: starEach es X.env) (hpl : (backTo pos (starEach es X.env)).any (·.1) = false) :
    PE X (.Call (.Name x p) (e :: es) [] pos) (tMkV C sp dvs ta) := by
  refine ⟨fun pins s σ H Q I h => ?_⟩
  obtain ⟨nm, q, N, bs, bm, sn, sub, ab, col, dd, k0, k1, k2, k3, k5, hC, hbm⟩ := T.cls
  refine wpAny_Call_Name_kw (ld_glob I hg hm ?_ hdb)
  refine PySem.W.callWith_K (h₀ := X.base) I.ok.mod.kin T.kC (L2.thn (ha.run pos pins s σ H _ I h) fun us s1 ⟨vs, H1, I1, r1, hz, q1⟩ => ⟨I1.kIn, ?_⟩) he hpl
  show wpAny _ _ (call (.ref C) us) _ _ _
  obtain ⟨hp, g, dr, tk, os⟩ := s1
  have hsz : hp.objs.size ≤ hp.objs.size + 1 := Nat.le_succ _
  have hn : H1 (hp.objs.size + 1) = none := I1.hok.fresh hsz
  have hq := q1 (hp.objs.size + 1) hn
  have kk : ∀ b o, hp.get? b = some o → ((hp.push (PySem.W.kdv_tup us)).push (PySem.HandSPX.excO C hp.objs.size)).get? b = some o := fun b o e => Heap.get?_push_of_some _ (Heap.get?_push_of_some _ e)
  have hget : ((hp.push (PySem.W.kdv_tup us)).push (PySem.HandSPX.excO C hp.objs.size)).get? (hp.objs.size + 1) = some (PySem.HandSPX.excO C hp.objs.size) := by heap_get
  have I2 : Inv X pins σ (upd H1 (hp.objs.size + 1) (exo (hp.objs.size + 1) C none)) ⟨(hp.push (PySem.W.kdv_tup us)).push (PySem.HandSPX.excO C hp.objs.size), g, dr, tk, os⟩ :=
    I1.laid (t' := tk) (a := hp.objs.size + 1) (o := exo (hp.objs.size + 1) C none) (h' := (hp.push (PySem.W.kdv_tup us)).push (PySem.HandSPX.excO C hp.objs.size)) kk hsz (exo_ok hget)
  have r2 : Vals (V.ref (hp.objs.size + 1) :: (vs ++ dvs)) (Value.ref (hp.objs.size + 1) :: (us ++ ds)) := .cons rfl (r1.append hd)
  have hl : (Value.ref (hp.objs.size + 1) :: us ++ ds).length = ps.length := by
    have e := r2.length
    rw [F1.len _ _ _ _ hq] at e
    exact e.symm
  have hus : us.length ≤ sizeLine := by
    rw [← Paired.length r1, sizeLine_eq]
    omega
  refine wpAny_call (PySem.HandSPX.call_own F.excBase_ValueError (fun Y => PySem.HandSPX.refsVE_contains Y bm hbm) (I1.kIn _ _ hC) (PySem.W.looks_findIn I1.kIn iC) (fun self => PySem.W.bind_fn I1.kIn self tI) hus
    (codeAny_mono (F1.run _ X.stack _ _ ⟨Value.ref (hp.objs.size + 1) :: us, []⟩ (Value.ref (hp.objs.size + 1) :: (us ++ ds)) _ _ (fun _ _ _ => False) (hr.make C us []) (I2.env0.make C us []) (hb _ (Value.ref (hp.objs.size + 1) :: us) I2.kIn hl) r2 hq) fun r s' hq' => ?_))
  cases r with
  | error er => exact hx pins σ _ _ er s' I2 hq'
  | ok fl =>
    cases fl with
    | ret u =>
      obtain ⟨v, H2, os2, bare2, un2, hok2, rv, ev, d, fs, ea, ed, hd1, q2⟩ := hq'
      subst ev
      obtain ⟨h2, g2, d2, t2, os'⟩ := s'
      obtain ⟨t0, G, J, kG, ge, hoe, na⟩ := mk_end0 (d2 := d2) (t2 := t2) I1 hsz kk un2 hok2 os2 bare2 ea ed hd1
      exact ⟨rv, .ref (hp.objs.size + 1), _, J.laidN kG ge na (exv_ok hoe ⟨rfl, rfl⟩ rfl), rfl, q2⟩
    | next => exact False.elim hq'
    | brk => exact False.elim hq'
    | cont => exact False.elim hq'
end
/-- fields as they come to stand -/
theorem freps_zip {K : PySem.W.Frag} {oa : Os} {G : Hp} : ∀ {fs : List Str} {ds : List D} {vs : List V}, Reps K oa G ds vs → FReps K oa G (fs.zip ds) (fs.zip vs)
  | [], ds, vs, _ => by simp; exact .nil
  | f :: fs, _, _, .nil => by simp; exact .nil
  | f :: fs, _, _, .cons r rs => .cons r (freps_zip rs)
theorem freps_app {K : PySem.W.Frag} {oa : Os} {G : Hp} : ∀ {a b : List (Str × D)} {c d : List (Str × V)}, FReps K oa G a c → FReps K oa G b d → FReps K oa G (a ++ b) (c ++ d)
  | _, _, _, _, .nil, h => h
  | _, _, _, _, .cons r rs, h => .cons r (freps_app rs h)
theorem freps_rev {K : PySem.W.Frag} {oa : Os} {G : Hp} : ∀ {a : List (Str × D)} {c : List (Str × V)}, FReps K oa G a c → FReps K oa G a.reverse c.reverse
  | _, _, .nil => .nil
  | _, _, .cons r rs => by
    rw [List.reverse_cons, List.reverse_cons]
    exact freps_app (freps_rev rs) (.cons r .nil)
theorem upd_del2 {H : Hp} {a d : Addr} {o1 o2 o3 o4 : HO} (na : H a = none) (ad : d ≠ a) : upd (del (upd (upd (upd H a o1) d o2) a o3) a) d o4 = upd H d o4 := by
  funext b
  by_cases hb : b = d
  · subst hb; rw [upd_same, upd_same]
  · rw [upd_ne hb, upd_ne hb]
    unfold del
    by_cases ha : b = a
    · subst ha; rw [if_pos rfl, na]
    · rw [if_neg ha, upd_ne ha, upd_ne hb, upd_ne ha]
section
variable {T : Tb} {n : Nat} {N : List Str} {sc : Scope} {X : Cx} {e : En} {wx : D → RS → HP → Prop}
/-- what spI leaves is an exception with its fields -/
theorem spi_made {C : Addr} {fs : List Str} {cls : Str} {w1 : Wd} {hp1 : HP} {S : RS} {σ : L2.St} {H1 : Hp} {ds : List D} {vs : List V} (r1 : Rel X.K e w1 hp1 S σ H1) (rps : Reps X.K w1.oa w1.g ds vs) (hc : w1.oa.cm cls = some C) (hl : ds.length = fs.length) {a : Addr} (na : H1 a = none)
    {W : V → Hp → Prop} (k : ∀ d, d ≠ a → H1 d = none → Rel X.K e w1 hp1 S σ (upd H1 d (.xd (fs.zip vs).reverse)) → XR X.K e.H w1.toGw (.xn cls (fs.zip ds).reverse) (.ref C) (some d) (upd H1 d (.xd (fs.zip vs).reverse)) →
      W .non (upd (upd (upd H1 a (exo a C none)) d (exd d (fs.zip vs).reverse)) a (exo a C (some d)))) : spI C fs (.ref a :: (vs ++ [])) (upd H1 a (exo a C none)) W (fun _ _ _ => False) := by
  refine ⟨a, vs, by rw [List.append_nil], by rw [← rps.length, hl], upd_same, fun dx h1 h2 => ?_⟩
  rw [upd_ne h2] at h1
  exact k dx h2 h1 (r1.alloc h1) ⟨C, hc, rfl, _, upd_same, freps_rev (freps_zip rps), r1.gnone h1, r1.onone h1, r1.enone h1⟩
theorem se_mk (g : Gd T n N sc e wx X) {cls : Str} {as : Cs} {e1 : Expr} {es : List Expr} {p cp : Pos} (hg : glB sc cls = true) (hx : okN cls = true) (hs : StarOk (e1 :: es)) (hst : (backTo cp (starEach es X.env)).any (·.1) = false) (ha : PA X (e1 :: es) (TLc X.K e (T.cfg n) wx as)) :
    PE X (.Call (.Name cls p) (e1 :: es) [] cp) (TEc X.K e (T.cfg n) wx (.mk cls as)) := by
  by_cases hq : ∃ f fs, T.xfs cls = some (f :: fs) ∧ 2 ≤ n
  · obtain ⟨f, fs, hq, h2⟩ := hq
    obtain ⟨C, hcm, R⟩ := g.ini cls f fs hq
    obtain ⟨fI, fd, ps, i1, i2, i3, i4⟩ := R.there
    have mk := pe_oex (pos := cp) (p := p) (dvs := []) R.oe i1 i2 i4 (g.room.mono h2) i3 .nil passL (g.gl hg) R.at_ ha (okN1 hx) (hs e1 (by simp) es X.env) hst
    refine imE mk fun σ H Q ⟨w, hp, S, r, h⟩ => ?_
    rw [evE] at h
    have hG : mkG (T.cfg n) cls = 2 := by
      unfold mkG
      rw [show (T.cfg n).xfs cls = T.xfs cls from rfl, hq]
      exact if_pos h2
    rw [hG] at h
    have h : PostM X.K e wx S σ w H _ (((evCs (T.cfg n) as S).bind fun ds => Mx.lift (mkX (T.cfg n) cls ds)) hp) := h
    refine ⟨w, hp, S, r, h.bind.mono fun ds hp1 w1 H1 _ x1 r1 h1 vs rps => ?_⟩
    obtain ⟨d3, e5, h5⟩ := PostM.lift h1
    unfold mkX at e5
    rw [show (T.cfg n).xfs cls = T.xfs cls from rfl, hq] at e5
    simp only at e5
    split at e5
    · rename_i hl
      cases e5
      have hl2 : ds.length = (f :: fs).length ∧ ds.length ≤ 100 := by
        rcases hl with hl | hl
        · exact absurd hl.1 (by simp)
        · exact hl.2
      have hcm1 : w1.oa.cm cls = some C := by
        have : w1.oa.cm = e.w.oa.cm := r1.gr.o.cm
        rw [this]; exact hcm
      refine ⟨by rw [← rps.length]; omega, fun a na => spi_made r1 rps hcm1 hl2.1 na fun d da nd rl xr => ⟨rfl, d, _, upd_same, by rw [upd_ne da, upd_same], nd, ?_⟩⟩
      rw [upd_del2 na da]
      have na2 : upd H1 d (.xd ((f :: fs).zip vs).reverse) a = none := by rw [upd_ne (Ne.symm da)]; exact na
      have r2 := r1.allocG (o := .xd ((f :: fs).zip vs).reverse) nd
      have r3 := r2.allocG (o := ExV (.ref C) (some d) a) na2
      have x2 : Ext w1 H1 _ _ := Ext.allocG (o := .xd ((f :: fs).zip vs).reverse) r1.hs.gH nd
      have x3 := x2.trans (Ext.allocG (o := ExV (.ref C) (some d) a) r2.hs.gH na2)
      refine h5 _ _ x3 r3 _ ?_
      show Rep _ _ _ _ _
      refine .xn1 (fv := ((f :: fs).zip vs).reverse) hcm1 upd_same ?_ ?_
      · show upd (upd w1.g d (.xd ((f :: fs).zip vs).reverse)) a _ d = _
        rw [upd_ne da, upd_same]
      · exact FReps.mono ((Sub.upd (r1.gnone nd)).trans (Sub.upd (r2.gnone na2))) (.refl _) (freps_rev (freps_zip rps))
    · cases e5
  · refine ⟨fun _ _ _ _ _ _ ⟨w, hp, S, r, h⟩ => ?_⟩
    rw [evE] at h
    have hG : mkG (T.cfg n) cls ≠ 2 := fun z => by
      unfold mkG at z
      rw [show (T.cfg n).xfs cls = T.xfs cls from rfl] at z
      cases q : T.xfs cls with
      | none => rw [q] at z; cases z
      | some fs =>
        rw [q] at z
        cases fs with
        | nil => cases z
        | cons f fs =>
          by_cases h2 : 2 ≤ n
          · exact hq ⟨f, fs, q, h2⟩
          · simp only at z
            rw [if_neg h2] at z
            cases z
    simp only [raiG, hG, decide_false, Bool.false_eq_true, if_false] at h
    exact (show False from h).elim
end
end RR

namespace RR
open PySem L2
section
variable {T : Tb} {n : Nat} {N : List Str} {sc : Scope} {X : Cx} {e : En} {wx : D → RS → HP → Prop}
theorem form_few {es : List Expr} {pos : Pos} {env : Env} (hs : StarOk es) (hl : es.length < 20) : methodCallForm (es.length + ([] : List Keyword).length) (backTo pos (starEach es env)) (backToKw pos (keywordEach [] env)) = true := by
  have h1 : ∀ es : List Expr, StarOk es → (backTo pos (starEach es env)).all (fun x => !x.1) = true := by
    intro es
    induction es with
    | nil => intro _; simp [starEach, backTo]
    | cons a r ih =>
      intro hs
      rw [hs a List.mem_cons_self r env]
      have := ih fun ex hx => hs ex (List.mem_cons_of_mem _ hx)
      simp only [backTo, List.map_cons, List.all_cons, Bool.not_false, Bool.true_and] at this ⊢
      exact this
  unfold methodCallForm
  rw [h1 es hs]
  simp only [keywordEach, backToKw, List.map_nil, List.all_nil, Bool.true_and, List.isEmpty_nil, if_true, List.length_nil, Nat.add_zero, decide_eq_true_eq]
  omega
/-- o.m(..) of an instance -/
theorem se_mth (g : Gd T n N sc e wx X) {fr : Bool} {c : C} {m : Str} {as : Cs} {oe : Expr} {es : List Expr} {ap cp : Pos} (hb : rcvB oe = true) (hline : (ap.endLine == cp.line) = true) (hs : StarOk es) (h20 : es.length < 20)
    (hpl : (backTo cp (starEach es.tail X.env)).any (·.1) = false) (hn : es = [] → as = .nil) (ho : PE X oe (TEc X.K e (T.cfg n) wx c)) (ha : PA X es (TLc X.K e (T.cfg n) wx as)) :
    PE X (.Call (.Attribute oe m ap) es [] cp) (TEc X.K e (T.cfg n) wx (.mth fr c m as)) := by
  refine ⟨fun pins s σ H Q I h => ?_⟩
  obtain ⟨w, hp, S, r, h⟩ := h
  rw [evE] at h
  have hb := base_ok hb m X.env
  refine PySem.W.methodCall_KW (pl := (do return (← importBound oe X.env).getD true)) (L2.thn (ho.run pins s σ H (fun v H1 => ∃ a C dx fv fa fd ps f fn, v = .ref a ∧ H1 a = some (.ins C dx fv) ∧ L2.Cls X.K C ∧ Meth X.K C m fa ∧ fv.lookup m = none ∧ Binds X.K fd ps [] ∧ T.fn f = some fn ∧
    FnOk X.prog X.w X.K X.mg X.base (L2.CX X.prog X.w) n fa fd ps (spF X.K e.w.oa.cm T n f fn.ps) ∧ TLc X.K e (T.cfg n) wx as σ H1 fun vs H2 => spF X.K e.w.oa.cm T n f fn.ps (.ref a :: vs) H2 Q (WE (WW X.K e wx) σ)) I (TEc.of r (h.bind.mono fun d1 hp1 w1 H1 _ x1 _ h1 r1 v1 rp => ?_))) fun u s1 hh => ?_) (call_form hb hline (form_few hs h20))
  · cases d1 with
    | obj k =>
      have h1 := h1.bind
      simp only [clsM] at h1
      cases q2 : hp1[k]? with
      | none => rw [q2] at h1; exact (show False from h1).elim
      | some ob =>
        rw [q2] at h1
        cases ob with
        | inst cn fs =>
          simp only at h1
          split at h1
          · rename_i hnl
            obtain ⟨f, e5, h5⟩ := PostM.lift h1
            obtain ⟨C', fa, fd, ps, fn, hcm, cl, me, hf, hbd, hps, F⟩ := g.mth cn m f e5
            cases rp with
            | obj q1 =>
              rename_i p
              obtain ⟨C, dx, fv, e0, e1, e2, e3⟩ := r1.hs.oR k _ _ q2 q1
              have ecm : w1.oa.cm = e.w.oa.cm := r1.gr.o.cm
              rw [ecm, hcm] at e0
              cases e0
              have h5 := h5 w1 H1 (.refl _ _) r1
              refine ⟨p, C', dx, fv, fa, fd, ps, f, fn, rfl, e1, cl, me, (e3.look (f := m)).2 (by simpa using hnl), hbd, hf, F, TLc.of r1 (h5.bind.mono fun ds hp2 w2 H2 _ x2 _ h2 r2 vs rps => ?_)⟩
              unfold mthM at h2
              split at h2
              · rename_i hfr
                refine call_post r2 (.cons (.obj (x2.gr.o.l _ _ q1)) rps) hf (x1.trans x2).gr.i ?_
                have hfr : T.fresh f = fr := hfr
                rw [hfr]
                exact h2
              · exact (show False from h2).elim
          · exact (show False from h1).elim
        | _ => exact (show False from h1).elim
    | _ => exact (show False from h1.bind).elim
  · obtain ⟨x, H1, I1, rx, a, C, dx, fv, fa, fd, ps, f, fn, rfl, e1, cl, me, nl, hbd, hf, F, q⟩ := hh
    obtain rfl : u = Value.ref a := rx
    refine getmeth_ok I1 e1 cl me nl ?_
    cases es with
    | nil =>
      obtain ⟨w2, hp2, S2, r2, q⟩ := q
      rw [hn rfl] at q
      simp only [evCs] at q
      have q := q w2 H1 (.refl _ _) r2 [] .nil
      exact PySem.W.callWith_K0 (first := [.ref a]) I1.kIn me.kp (run_fnS (us := [.ref a]) (vs := [.ref a]) F g.room hbd (passAt g.tk σ) I1 (.cons rfl .nil) q)
    | cons ex xs =>
      refine PySem.W.callWith_K (first := [.ref a]) (h₀ := X.base) I1.ok.mod.kin me.kp (L2.thn (ha.run cp pins s1 σ H1 _ I1 q) fun us s2 ⟨vs, H2, I2, r, q2⟩ => ⟨I2.kIn, ?_⟩) (hs ex (by simp) xs X.env) hpl
      exact run_fnS (us := .ref a :: us) (vs := .ref a :: vs) F g.room hbd (passAt g.tk σ) I2 (.cons rfl r) q2
/-- a new instance stands in the heap -/
theorem Rel.made {K : PySem.W.Frag} {w : Wd} {hp : HP} {S : RS} {σ : L2.St} {H : Hp} (r : Rel K e w hp S σ H) {cn : Str} {C x dx : Addr} (hc : w.oa.cm cn = some C) (n1 : H x = none) (n2 : H dx = none) (ne : dx ≠ x) :
    ∃ w', Ext w H w' (upd (upd H dx (.own x)) x (.ins C dx [])) ∧ Rel K e w' (hp ++ [.inst cn []]) S σ (upd (upd H dx (.own x)) x (.ins C dx [])) ∧ w'.oa.l[hp.length]? = some x := by
  have n3 : upd H dx (.own x) x = none := by rw [upd_ne (Ne.symm ne)]; exact n1
  have r1 := r.alloc (o := .own x) n2
  have r2 := r1.alloc (o := .ins C dx []) n3
  have x1 : Ext w H w (upd (upd H dx (.own x)) x (.ins C dx [])) := (Ext.alloc (o := .own x) n2).trans (Ext.alloc (o := .ins C dx []) n3)
  have r3 := r2.heap (p := x) (o := .ins C dx []) (ob := .inst cn []) upd_same ⟨C, dx, [], hc, upd_same, by rw [upd_ne ne, upd_same], .nil⟩ (r1.gnone n3) (r1.ωnone n3) (r1.onone n3) (r.enone n1)
  refine ⟨⟨⟨w.g, ⟨w.oa.l ++ [x], w.oa.cm⟩⟩, w.ω⟩, ⟨⟨x1.gr.g, x1.gr.o.trans oa_up, x1.gr.h, x1.gr.i, x1.gr.gn, fun a z => ?_⟩, x1.ω⟩, r3, ?_⟩
  · have z : a ∈ w.oa.l ++ [x] := z
    rcases List.mem_append.mp z with z | z
    · exact .inl z
    · rw [List.mem_singleton.mp z]; exact .inr n1
  · show (w.oa.l ++ [x])[hp.length]? = some x
    rw [r.hs.oL]; simp
/-- the class at C is called -/
theorem run_makeS {k : Nat} {f C : Addr} {fd : FuncData} {ps : List Str} {sp : Sp} {E : L2.St → XK} {pins : List (Addr × Obj)} {σ : L2.St} {H : Hp} {s : Shared} {Q : VK} {us : List Value} {vs : List V} (M : Mk X.K C f) (F : FnOk X.prog X.w X.K X.mg X.base (L2.CX X.prog X.w) k f fd ps sp) (hr : Room (k + 1) X.A) (hb : Binds X.K fd ps [])
    (hx : PassesAt (L2.CX X.prog X.w) X σ (E σ)) (I : Inv X pins σ H s) (r : Vals vs us)
    (h : ∀ x dx, H x = none → H dx = none → dx ≠ x → sp (.ref x :: vs) (upd (upd H dx (.own x)) x (.ins C dx [])) (fun v H2 => v = .non ∧ Q (.ref x) H2) (E σ)) :
    wpAny (model X.prog X.w) X.A (call (.ref C) us) (EP X pins σ Q) X.xe s := by
  have hq := h (s.heap.objs.size + 1) s.heap.objs.size (I.hok.fresh (Nat.le_succ _)) (I.hok.fresh (Nat.le_refl _)) (Nat.ne_of_lt (Nat.lt_succ_self _))
  have J := Inv.made (C := C) I
  have rr : Vals (V.ref (s.heap.objs.size + 1) :: vs) (Value.ref (s.heap.objs.size + 1) :: us) := .cons rfl r
  have hl : (Value.ref (s.heap.objs.size + 1) :: us).length = ps.length := by rw [← rr.length]; exact F.len _ _ _ _ hq
  have b := hb _ (Value.ref (s.heap.objs.size + 1) :: us) J.kIn (by rw [List.append_nil]; exact hl)
  rw [List.append_nil] at b
  refine wpAny_call (make_map (f := f) I.kIn M.makes M.init (beq_iff_eq.mp M.fn) (codeAny_mono (F.run _ X.stack _ _ ⟨_, []⟩ _ _ _ (E σ) (hr.make C us []) (J.env0.make C us []) b rr hq) fun o s' ho => ?_))
  cases o with
  | error x => exact hx pins _ _ x s' J ho
  | ok fl =>
    cases fl with
    | ret u =>
      obtain ⟨v, H', I3, rv, ev, q3⟩ := J.after ho
      subst ev
      exact ⟨rv, ⟨V.ref (s.heap.objs.size + 1), H', I3, rfl, q3⟩⟩
    | next => exact ho.elim
    | brk => exact ho.elim
    | cont => exact ho.elim
def tMakeS (C : Addr) (sp : Sp) (E : L2.St → XK) (t : TA) : TE := fun σ H Q => t σ H fun vs H1 => ∀ x dx, H1 x = none → H1 dx = none → dx ≠ x → sp (.ref x :: vs) (upd (upd H1 dx (.own x)) x (.ins C dx [])) (fun v H2 => v = .non ∧ Q (.ref x) H2) (E σ)
theorem pe_makeS {k : Nat} {f C : Addr} {fd : FuncData} {ps : List Str} {sp : Sp} {E : L2.St → XK} {x : Str} {p pos : Pos} {es : List Expr} {t : TA} (M : Mk X.K C f) (F : FnOk X.prog X.w X.K X.mg X.base (L2.CX X.prog X.w) k f fd ps sp) (hr : Room (k + 1) X.A) (hb : Binds X.K fd ps []) (hx : ∀ σ, PassesAt (L2.CX X.prog X.w) X σ (E σ))
    (hg : Gl X x) (hm : X.mg x = some (.ref C)) (hdb : (x == ("__debug__" : Str)) = false) (hs : StarOk es) (hpl : (backTo pos (starEach es.tail X.env)).any (·.1) = false) (ha : PA X es t) (hn : es = [] → ∀ σ H Q, t σ H Q → Q [] H) :
    PE X (.Call (.Name x p) es [] pos) (tMakeS C sp E t) := by
  refine ⟨fun pins s σ H Q I h => ?_⟩
  refine wpAny_Call_Name_kw (ld_glob I hg hm ?_ hdb)
  cases es with
  | nil =>
    exact PySem.W.callWith_K0 I.kIn M.kp (run_makeS (us := []) (vs := []) M F hr hb (hx σ) I .nil (hn rfl _ _ _ h))
  | cons ex xs =>
    refine PySem.W.callWith_K (h₀ := X.base) I.ok.mod.kin M.kp (L2.thn (ha.run pos pins s σ H _ I h) fun us s1 ⟨vs, H1, I1, r, q⟩ => ⟨I1.kIn, ?_⟩) (hs ex (by simp) xs X.env) hpl
    exact run_makeS M F hr hb (hx σ) I1 r q
theorem se_ni (g : Gd T n N sc e wx X) {cls : Str} {as : Cs} {es : List Expr} {p cp : Pos} (hg : glB sc cls = true) (hx : okN cls = true) (hs : StarOk es) (hpl : (backTo cp (starEach es.tail X.env)).any (·.1) = false) (hn : es = [] → as = .nil) (ha : PA X es (TLc X.K e (T.cfg n) wx as)) :
    PE X (.Call (.Name cls p) es [] cp) (TEc X.K e (T.cfg n) wx (.ni cls as)) := by
  by_cases hq : ∃ m gs, n = m + 1 ∧ T.ins cls = some gs
  · obtain ⟨m, gs, rfl, hin⟩ := hq
    obtain ⟨f, C, fa, fd, ps, fn, hq, hcm, hmg, M, hf, hbd, hps, F⟩ := g.mkc cls gs m hin rfl
    refine imE (pe_makeS M F g.room hbd (fun σ => passAt g.tk σ) (g.gl hg) hmg (okN1 hx) hs hpl ha fun hnil σ H Q ⟨w, hp, S, r, h⟩ => ?_) fun σ H Q ⟨w, hp, S, r, h⟩ => ?_
    · rw [hn hnil] at h
      simp only [evCs] at h
      exact h w H (.refl _ _) r [] .nil
    · rw [evE] at h
      rw [raiG, if_pos (by simp [Tb.cfg, hin])] at h
      refine TLc.of r (h.bind.mono fun ds hp1 w1 H1 _ x1 _ h1 r1 vs rps => ?_)
      intro x dx n1 n2 ne
      have ecm : w1.oa.cm cls = some C := by
        have : w1.oa.cm = e.w.oa.cm := r1.gr.o.cm
        rw [this]; exact hcm
      obtain ⟨w2, x2, r2, hl⟩ := r1.made ecm n1 n2 ne
      simp only [niM, Tb.cfg] at h1
      rw [hin] at h1
      simp only [mkF] at h1
      rw [hq] at h1
      simp only at h1
      have key : ∀ {r' : Re D D}, r' = callF T m f (.obj hp1.length :: ds) (hp1 ++ [.inst cls []]) → PostM X.K e wx S σ w2 (upd (upd H1 dx (.own x)) x (.ins C dx [])) (fun d hp' w' H' => ∀ v, Res1 X.K H1 w' H' d (T.fresh f) v → v = .non ∧ Q (.ref x) H') r' := by
        intro r' hr'
        rw [← hr'] at h1
        cases r' with
        | stuck => exact h1
        | exc y hp' => exact h1
        | ok d hp' =>
          cases d with
          | non =>
            intro w3 H3 x3 r3 v res
            refine ⟨?_, ?_⟩
            · cases z : T.fresh f with
              | true =>
                rw [z] at res
                obtain ⟨_, _, _, _, cc, _⟩ := res
                exact (show False from cc).elim
              | false => rw [z] at res; exact Rep.nonE res
            · exact h1 w3 H3 (x2.trans x3) r3 (.ref x) (.obj (x3.gr.o.l _ _ hl))
          | _ => exact (show False from h1).elim
      have hp5 := key rfl
      exact call_post r2 (.cons (.obj hl) (x2.reps rps)) hf x2.gr.i hp5
  · refine ⟨fun _ _ _ _ _ _ ⟨w, hp, S, r, h⟩ => ?_⟩
    rw [evE] at h
    have hG : ¬ (((T.cfg n).ins cls).isSome = true ∧ (T.cfg n).lv ≠ 0) := fun ⟨z1, z2⟩ => by
      obtain ⟨gs, z1⟩ := Option.isSome_iff_exists.mp z1
      cases n with
      | zero => exact z2 rfl
      | succ m => exact hq ⟨m, gs, rfl, z1⟩
    rw [raiG, if_neg (by simpa using hG)] at h
    exact (show False from h).elim
end
end RR

namespace RR
open PySem PySem.Spec PyProof.Rows L2
theorem fmS_snoc (xs : List Str) (x : Str) : fmS (xs ++ [x]) = if (fmS xs).any (fun y => decide (y = x)) then fmS xs else fmS xs ++ [x] := by
  unfold fmS
  rw [List.foldl_append]
  rfl
theorem fmS_len (xs : List Str) : (fmS xs).length ≤ xs.length := by
  have : ∀ (xs acc : List Str), (xs.foldl (fun acc x => if acc.any (fun y => decide (y = x)) then acc else acc ++ [x]) acc).length ≤ acc.length + xs.length := by
    intro xs
    induction xs with
    | nil => intro acc; simp
    | cons x xs ih =>
      intro acc
      rw [List.foldl_cons, List.length_cons]
      refine Nat.le_trans (ih _) ?_
      split
      · omega
      · rw [List.length_append, List.length_cons, List.length_nil]; omega
  have := this xs []
  simpa [fmS] using this
def inF (xs : List Str) (k : Str) : Bool := (fmS xs).any fun y => decide (y = k)
theorem inF_snoc (xs : List Str) (x k : Str) : (inF xs k || decide (k = x)) = inF (xs ++ [x]) k := by
  unfold inF
  rw [fmS_snoc]
  by_cases h : (fmS xs).any (fun y => decide (y = x)) = true
  · rw [if_pos h]
    by_cases e : k = x
    · subst e; rw [h]; rfl
    · simp [e]
  · rw [if_neg h, List.any_append]
    by_cases e : k = x
    · subst e; simp
    · simp [e]
      intro q
      exact absurd q.symm e
section
variable {prog : Program} {w : World} {A : Around} {R : Result → Shared → Prop} {J : Addr} {fp wr : List Addr} {G : Array GenState → Array GenState → Prop} {m : Nat} {P : Nat → Value → Prop} {St : Nat → Shared → Prop}
theorem txt_loop (W : WalksS prog w A.in1 J fp wr G m P St) (C : Addr) (hC : C ∉ fp) (xs : List Str) (hx : xs.length = m) (hm : m ≤ 1000)
    (hval : ∀ i v, P i v → ∃ t, v = .str (xs.getD i Str.empty) t) : ∀ (k i : Nat) (s : Shared), m - i = k → i ≤ m → St i s →
      s.heap.SetOf (PySem.strKind prog w) C (inF (xs.take i)) (fmS (xs.take i)).length →
      (∀ s2, Moved (C :: wr) G s s2 → s2.heap.SetOf (PySem.strKind prog w) C (inF (xs.take m)) (fmS (xs.take m)).length → R (.ok (.ret .none)) s2) →
      codeAny (model prog w) A (.builtin "set.update.loop" ⟨[.ref C, .ref J], []⟩) R s := by
  have cw : C ∉ wr := fun h => hC (W.sub _ h)
  have up : ∀ b ∈ wr, b ∈ C :: wr := fun b hb => List.mem_cons_of_mem _ hb
  intro k
  induction k with
  | zero =>
    intro i s hk hi st hS hR
    obtain rfl : i = m := by omega
    refine codeAny_builtin F.entry_set_update_loop ?_
    rw [Around.under_plainId F.plain_set_update_loop _]
    refine wpAny_bind (W.done s _ _ st fun s2 mv => ?_)
    refine wpAny_pure (hR s2 (mv.mono up) ?_)
    obtain ⟨o, es, ep, t, ho, rest⟩ := hS
    exact ⟨o, es, ep, t, mv.heap C _ cw ho, rest⟩
  | succ k ih =>
    intro i s hk hi st hS hR
    have lt : i < m := by omega
    refine codeAny_builtin F.entry_set_update_loop ?_
    rw [Around.under_plainId F.plain_set_update_loop _]
    refine wpAny_bind (W.item i s _ _ lt st fun v s2 hv st2 mv => ?_)
    obtain ⟨t, rfl⟩ := hval i v hv
    have hS2 : s2.heap.SetOf (PySem.strKind prog w) C (inF (xs.take i)) (fmS (xs.take i)).length := by
      obtain ⟨o, es, ep, tb, ho, rest⟩ := hS
      exact ⟨o, es, ep, tb, mv.heap C _ cw ho, rest⟩
    refine wpAny_bind (m := holding [Value.str (xs.getD i Str.empty) t] (setAdd C (.str (xs.getD i Str.empty) t))) (wpAny_holding ?_)
    unfold setAdd
    refine wpAny_holding ?_
    refine wpAny_bind ((PySem.strKind prog w).pyHash (k := xs.getD i Str.empty) (strKind_is _ _ _ _) ?_)
    have room : (fmS (xs.take i)).length + 1 < scanBound := by
      have := fmS_len (xs.take i)
      rw [List.length_take] at this
      unfold scanBound
      omega
    refine wpAny_setAddHashed_of (knd := PySem.strKind prog w) (s := { s2 with toks := s2.toks + 1 }) (strKind_is _ _ _ _) rfl hS2 room fun h' sb hS3 => ?_
    have tk : xs.take (i + 1) = xs.take i ++ [xs.getD i Str.empty] := by
      have lt' : i < xs.length := by omega
      rw [List.take_succ, List.getElem?_eq_getElem lt']
      simp [List.getD_eq_getElem?_getD, List.getElem?_eq_getElem lt']
    have hS4 : h'.SetOf (PySem.strKind prog w) C (inF (xs.take (i + 1))) (fmS (xs.take (i + 1))).length := by
      refine SetOf_congr hS3 (fun k' => ?_) ?_
      · rw [tk, ← inF_snoc]
      · rw [tk, fmS_snoc]
        show (if inF (xs.take i) (xs.getD i Str.empty) = true then _ else _) = _
        unfold inF
        split
        · rfl
        · rw [List.length_append]; rfl
    refine wpAny_pure ⟨plainId_quiet F.plain_set_update_loop _, ih (i + 1) _ (by omega) lt (W.frame _ s2 _ _ st2 (Nat.le_succ _) fun b hb o e => ?_) hS4 fun s3 mv3 hS5 => ?_⟩
    · rw [sb.2 b (fun q : b = C => hC (q ▸ hb))]; exact e
    · refine hR s3 (Moved.trans W.gtrans ((mv.mono up).then_heap (Nat.le_succ _) fun b o hb e => ?_) mv3) hS5
      rw [sb.2 b (fun q : b = C => hb (q ▸ List.mem_cons_self))]; exact e
end
section
variable {prog : Program} {w : World} {A : Around} {E : Value → Shared → Prop} {s : Shared}
theorem txt_set {l : Addr} {vs : Array Value} {xs : List Str} {Q : Value → Shared → Prop} (hd : A.handled = none) (hl : s.heap.IsList l vs) (hx : PyProof.Rows.StrsAre vs.toList xs) (hn : xs.length ≤ 1000)
    (q : ∀ (h' : Heap) (tk : Nat), h'.SetOf (PySem.strKind prog w) s.heap.objs.size (inF xs) (fmS xs).length →
      (∀ b o, b < s.heap.objs.size → s.heap.get? b = some o → h'.get? b = some o) → Q (.ref s.heap.objs.size) { s with heap := h', toks := tk }) :
    wpAny (model prog w) A (call (.type "set") [.ref l]) Q E s := by
  obtain ⟨c, tl, hmro⟩ := PySem.F.called_set.mro
  have hmade := PySem.F.called_set.made
  have hsub := PySem.F.called_set.sub
  have len : xs.length = vs.size := by rw [← StrsAre.len_eq hx, Array.length_toList]
  have whole : xs.take vs.size = xs := by rw [← len, List.take_length]
  refine wpAny_call (codeAny_of_tree ?_)
  show wpAny _ _ (callAny (.type "set") _) _ _ _
  refine wpAny_pure ⟨Code.quiet_builtin _ (by decide +kernel), codeAny_builtin PySem.F.entry_type_call ?_⟩
  rw [Around.under_plain (weight_type_call_type "set" [.ref l] []) rfl]
  have h1 := PySem.F.called_set.notType
  have h2 := PySem.F.called_set.canCreate
  have h3 := PySem.F.typeCall_set_1 (.ref l)
  repeat (any_goals (first | assumption | wp_step))
  refine codeAny_mono (code_set_new_1 (.ref l) (E := E) (Q₁ := fun x s1 => ∃ led : Bool, x = .ref s.heap.objs.size ∧ s1 = { s with heap := s.heap.push { cls := .type "set", dict := none, data := .set #[] 0 (.fresh 0 0 led) } }) fun led => ⟨led, rfl, rfl⟩) fun r s1 hr => ?_
  cases r with
  | error e => exact hr
  | ok fl =>
    cases fl with
    | ret x =>
      obtain ⟨led, rfl, rfl⟩ := hr
      obtain ⟨NO, hNO⟩ : ∃ NO : Obj, NO = { cls := .type "set", dict := none, data := .set #[] 0 (.fresh 0 0 led) } := ⟨_, rfl⟩
      have hS : (s.heap.push { cls := .type "set", dict := none, data := .set #[] 0 (.fresh 0 0 led) }).get? s.heap.objs.size = some { cls := .type "set", dict := none, data := .set #[] 0 (.fresh 0 0 led) } := Heap.get?_push_size _ rfl
      have hT : Shared.TypeIs { s with heap := s.heap.push { cls := .type "set", dict := none, data := .set #[] 0 (.fresh 0 0 led) } } (.ref s.heap.objs.size) "set" := ⟨_, hS, rfl⟩
      have g1 := PySem.F.called_set.init.lookup
      have g2 := PySem.F.called_set.init.bind (.ref s.heap.objs.size)
      repeat (any_goals (first | assumption | wp_step))
      refine codeAny_mono (codeAny_call_builtin (R := wants (fun r s2 => r = .none ∧ ∃ h' tk, s2 = { s with heap := h', toks := tk } ∧
          h'.SetOf (PySem.strKind prog w) s.heap.objs.size (inF xs) (fmS xs).length ∧
          (∀ b o, b < s.heap.objs.size → s.heap.get? b = some o → h'.get? b = some o)) E) PySem.F.called_set.init.plain PySem.F.entry_set_init (check_set_init_1 hT ?_)) fun r2 s2 hr2 => ?_
      · obtain ⟨lo, hlo, lc, ln, ld⟩ := hl
        obtain ⟨ocls, odict, odata, oslots⟩ := lo
        simp only at lc ld
        subst lc; subst ld
        have hlo' : (s.heap.push { cls := .type "set", dict := none, data := .set #[] 0 (.fresh 0 0 led) }).get? l = some { cls := .type "list", dict := odict, data := .seq vs ln, slots := oslots } := Heap.get?_push_of_some _ hlo
        have u1 := PySem.F.sub_list_set
        have u2 := PySem.F.sub_list_frozenset
        have u3 : (Value.type "list" == Value.type "dict") = false := by decide
        have lst1 : (s.heap.push { cls := .type "set", dict := none, data := .set #[] 0 (.fresh 0 0 led) }).IsList l vs := ⟨_, hlo', rfl, ln, rfl⟩
        unfold Builtin.«set.__init__» noKeywords Builtin.Frozenset.updateFrom
        generalize hPI : pyIter = PI
        wp_walk
        subst hPI
        refine wpAny_pyIter_list lst1 ?_
        refine wpAny_bind (wpAny_runValue ?_)
        have sz : l < s.heap.objs.size := Heap.lt_size hlo
        have u4 : A.in1.in1.in1.handled = none := by simp [hd]
        have ne : l ≠ (s.heap.push { cls := .type "set", dict := none, data := .set #[] 0 (.fresh 0 0 led) }).objs.size := by
          rw [Heap.size_push]; exact Nat.ne_of_lt (Nat.lt_succ_of_lt sz)
        have out : s.heap.objs.size ∉ [(s.heap.push { cls := .type "set", dict := none, data := .set #[] 0 (.fresh 0 0 led) }).objs.size, l] := by
          rw [Heap.size_push]
          intro hm
          rcases List.mem_cons.mp hm with e | hm
          · exact absurd e (Nat.ne_of_lt (Nat.lt_succ_self _))
          · exact absurd (List.mem_singleton.mp hm) (Nat.ne_of_gt sz)
        have hval : ∀ (i : Nat) (v : Value), vs[i]? = some v → ∃ t, v = .str (xs.getD i Str.empty) t := fun i v hv => SS.strs_at hx i v (by rw [Array.getElem?_toList]; exact hv)
        refine txt_loop ((Walks.list u4 _ l ne vs).toS) s.heap.objs.size out xs len (by omega) hval (vs.size - 0) 0 _ (by omega) (Nat.zero_le _) ⟨⟨_, Heap.get?_push_size _ rfl, rfl, rfl⟩, (lst1.push _)⟩ ?start ?rest
        case start =>
          have hg : ((s.heap.push { cls := .type "set", dict := none, data := .set #[] 0 (.fresh 0 0 led) }).push { cls := .type "list_iterator", data := .fields #[.ref l, .int 0 0] }).get? s.heap.objs.size = some { cls := .type "set", dict := none, data := .set #[] 0 (.fresh 0 0 led) } := Heap.get?_push_of_some _ hS
          exact PyProof.Rows.SetOf_congr ((PyProof.Rows.setObjOf_fresh (knd := PySem.strKind prog w) led).setOf hg (by unfold scanBound; omega)) (fun _ => rfl) rfl
        case rest =>
          intro s3 hm hS3
          rw [whole] at hS3
          obtain ⟨h3, g3, d3, t3, o3⟩ := s3
          obtain rfl : g3 = s.gens := hm.gens
          obtain rfl : d3 = s.drawn := hm.drawn
          obtain rfl : o3 = s.os := hm.os
          refine wpAny_pure ?_
          show wpAny _ _ (ret Value.none) _ _ _
          refine wpAny_pure ⟨rfl, h3, t3, rfl, hS3, fun b o hb e => ?_⟩
          refine hm.heap b o ?_ (Heap.get?_push_of_some _ (Heap.get?_push_of_some _ e))
          intro hmem
          rcases List.mem_cons.mp hmem with e' | e'
          · exact absurd e' (Nat.ne_of_lt hb)
          · have := List.mem_singleton.mp e'
            rw [Heap.size_push] at this
            exact absurd this (Nat.ne_of_lt (Nat.lt_succ_of_lt hb))
      · cases r2 with
        | error e => exact hr2
        | ok fl2 =>
          cases fl2 with
          | ret r =>
            obtain ⟨rfl, h', tk, rfl, hS', hk'⟩ := hr2
            repeat (any_goals (first | assumption | wp_step))
            exact q _ _ hS' hk'
          | _ => exact hr2.elim
    | _ => exact hr.elim
end
def tLset (K : PySem.W.Frag) (ta : TE) : TE := fun σ H Q => ta σ H fun x H1 => ∃ l, ∃ xs : List Str, x = .ref l ∧ SqL K H1 l (xs.map V.str) ∧ xs.length ≤ 1000 ∧ Q (.int ((fmS xs).length : Nat)) H1
section
variable {X : Cx}
theorem pe_lset {a : Expr} {ta : TE} {p p2 q pos : Pos} (hc : X.calm = true) (hg : Gl X "len") (hm : X.mg "len" = none) (hg2 : Gl X "set") (hm2 : X.mg "set" = none) (ha : PE X a ta)
    (na : starEach [a] X.env = (false, eval a X.env) :: starEach [] X.env) : PE X (.Call (.Name "len" p) [.Call (.Name "set" p2) [a] [] q] [] pos) (tLset X.K ta) := by
  refine ⟨fun pins s σ H Q I h => ?_⟩
  refine Call_ (ld_blt I hg hm boot_len ?_)
  refine PyProof.Rows.callWith_builtin1 (PyProof.Rows.args_cons ?_ rfl) rfl rfl
  refine Call_ (ld_blt I hg2 hm2 boot_set ?_)
  refine PyProof.Rows.callWith_type1 (PyProof.Rows.args_cons (L2.thn (ha.run pins s σ H _ I h) fun v s1 ⟨x, H1, I1, r1, q1⟩ => PyProof.Rows.args_nil ?_) na) na rfl
  obtain ⟨l, xs, rfl, hq, hl, q1⟩ := q1
  cases r1
  obtain ⟨its, r, pl, hz⟩ := I1.list hq
  refine txt_set (I1.ok.hd hc) pl.isList (xs := xs) (by simpa using strsAre_of r) hl fun h' tk hS hk => ?_
  refine PyProof.Rows.args_nil ?_
  obtain ⟨o, es, ep, t, ho, hex, hd, _, _, _, hf, hn⟩ := hS
  have I2 : Inv X pins σ H1 { s1 with heap := h', toks := tk } := I1.kept fun b o e => hk b o (Heap.lt_size e) e
  have := fmS_len xs
  exact call_len_set ho hex hd hf (by rw [hn]; omega) ⟨.int (fmS xs).length, H1, I2.tok _, ⟨_, by rw [hn]⟩, q1⟩
end
section
variable {T : Tb} {n : Nat} {N : List Str} {sc : Scope} {X : Cx} {e : En} {wx : D → RS → HP → Prop}
theorem se_lset (g : Gd T n N sc e wx X) {a : C} {ea : Expr} {p p2 pos pos2 : Pos} (hg : glB sc "len" = true) (hg2 : glB sc "set" = true) (hs : ∀ xs env, starEach (ea :: xs) env = (false, eval ea env) :: starEach xs env) (ha : PE X ea (TEc X.K e (T.cfg n) wx a)) :
    PE X (.Call (.Name "len" p) [.Call (.Name "set" p2) [ea] [] pos2] [] pos) (TEc X.K e (T.cfg n) wx (.lset a)) :=
  imE (pe_lset g.calm (g.gl hg) (g.blt _ (by simp [bltNames])) (g.gl hg2) (g.blt _ (by simp [bltNames])) ha (hs _ _)) fun σ H Q ⟨w, hp, S, r, h⟩ => by
    rw [evE] at h
    refine TEc.of r (h.bind.mono fun d1 hp1 w1 H1 _ x1 _ h1 r1 v1 rp => ?_)
    obtain ⟨z, e3, h3⟩ := PostM.lift h1
    have h3 := h3 w1 H1 (.refl _ _) r1
    cases d1 with
    | lst xs =>
      simp only [lsetD] at e3
      cases q : allStr xs with
      | none => rw [q] at e3; cases e3
      | some ys =>
        rw [q] at e3
        simp only [Option.bind_some] at e3
        split at e3
        · rename_i hl
          cases e3
          cases rp with
          | lst q2 zs =>
            have := zs.strs2 q
            subst this
            exact ⟨_, _, rfl, r1.hs.gH.sqL q2, hl, h3 _ (.int _)⟩
        · cases e3
    | _ => cases e3
end
end RR

namespace RR
open PySem L2
mutual
/-- code that calls nothing and makes no block: it may stand in an except suite -/
def C.qu : C → Bool
  | .int _ => true | .str _ => true | .bl _ => true | .non => true | .var _ => true | .pk _ => true | .glob _ => true
  | .bin _ a b => a.qu && b.qu | .neg a => a.qu | .not a => a.qu | .and as => as.qu | .or as => as.qu
  | .cmp _ a b => a.qu && b.qu | .chn _ _ a b c => a.qu && (b.qu && c.qu) | .ite c a b => c.qu && (a.qu && b.qu)
  | .tup es => es.qu | .lst es => es.qu | .idx a i => a.qu && i.qu | .isi _ a => a.qu | .fld c _ => c.qu | .isx _ c => c.qu
  | _ => false
def Cs.qu : Cs → Bool
  | .nil => true | .cons c r => c.qu && r.qu
end
theorem qand {a b : Bool} {P : Prop} (h : (a && b) = true ∨ P) : (a = true ∨ P) ∧ (b = true ∨ P) := by
  rcases h with h | h
  · rw [Bool.and_eq_true] at h
    exact ⟨.inl h.1, .inl h.2⟩
  · exact ⟨.inr h, .inr h⟩
def Tb.has (T : Tb) (f : Str) : Bool := (T.fn f).isSome && !isMt f
theorem hasOf {T : Tb} {f : Str} (h : T.has f = true) : (T.fn f).isSome = true ∧ isMt f = false := by
  unfold Tb.has at h
  simpa using h
section
variable {T : Tb} {n : Nat} {N : List Str} {e : En}

theorem starCs {F : Str → Bool} {cs : Cs} {sc : Scope} {es : List Expr} (h : chkCs N F cs sc es = true) : ∀ ex ∈ es, ∀ xs env, starEach (ex :: xs) env = (false, eval ex env) :: starEach xs env := by
  induction es generalizing cs with
  | nil => intro ex h2; cases h2
  | cons a r ih =>
    cases cs with
    | nil => simp [chkCs] at h
    | cons c cs =>
      simp only [chkCs, Bool.and_eq_true] at h
      intro ex hx xs env
      rcases List.mem_cons.mp hx with z | z
      · subst z; exact noStar h.1 xs env
      · exact ih h.2 ex z xs env
theorem starCs_any {cs : Cs} {sc : Scope} : ∀ {es : List Expr}, (∀ ex ∈ es, ∀ xs env, starEach (ex :: xs) env = (false, eval ex env) :: starEach xs env) → ∀ (pos : Pos) (env : Env), (backTo pos (starEach es env)).any (·.1) = false
  | [], _, pos, env => by simp [starEach, backTo]
  | a :: r, h, pos, env => by
    rw [h a List.mem_cons_self]
    have ih := starCs_any (cs := cs) (sc := sc) (es := r) (fun ex hx => h ex (List.mem_cons_of_mem _ hx)) pos env
    simp only [backTo, List.map_cons, List.any_cons] at ih ⊢
    simpa using ih
theorem evCs_nil_chk {F : Str → Bool} {cs : Cs} {sc : Scope} (h : chkCs N F cs sc [] = true) : cs = .nil := by
  cases cs with
  | nil => rfl
  | cons c r => simp [chkCs] at h


/-- what is shown of an expression: as a value, as an operand, as a test -/
structure AllC (X : Cx) (ex : Expr) (T : Tb) (n : Nat) (e : En) (wx : D → RS → HP → Prop) (c : C) : Prop where
  v : c.isPk = false → PE X ex (TEc X.K e (T.cfg n) wx c)
  o : PE X ex (TOc X.K e (T.cfg n) wx c)
  t : PT X ex (TTc X.K e (T.cfg n) wx c)
theorem AllC.mk' {X : Cx} {ex : Expr} {wx : D → RS → HP → Prop} {c : C} (p : PE X ex (TEc X.K e (T.cfg n) wx c)) (q : PT X ex (TTc X.K e (T.cfg n) wx c)) : AllC X ex T n e wx c := ⟨fun _ => p, so_of p, q⟩
theorem AllC.mkV {X : Cx} {ex : Expr} {wx : D → RS → HP → Prop} {c : C} (p : PE X ex (TEc X.K e (T.cfg n) wx c)) (hv : ∀ S, evT (T.cfg n) c S = (evE (T.cfg n) c S).bind truM)
    (he : ∀ whole, isTrue ex X.env whole = (do let v ← whole; standAt ex.pos; holding [v] (truthy v))) : AllC X ex T n e wx c := ⟨fun _ => p, so_of p, st_val hv he (so_of p)⟩
theorem st_vac {X : Cx} {c : C} {ex : Expr} {wx : D → RS → HP → Prop} (hv : ∀ S, evT (T.cfg n) c S = .st) : PT X ex (TTc X.K e (T.cfg n) wx c) := ⟨fun _ _ _ _ _ _ ⟨w, hp, S, r, h⟩ => by
  rw [hv] at h
  exact (show False from h).elim⟩
theorem se_vac {X : Cx} {c : C} {ex : Expr} {wx : D → RS → HP → Prop} (hv : ∀ S, evE (T.cfg n) c S = .st) : PE X ex (TEc X.K e (T.cfg n) wx c) := ⟨fun _ _ _ _ _ _ ⟨w, hp, S, r, h⟩ => by
  rw [hv] at h
  exact (show False from h).elim⟩
mutual
theorem allC : ∀ (c : C) {sc : Scope} {X : Cx} {ex : Expr} {wx : D → RS → HP → Prop}, Gq T n N sc e wx X → (c.qu = true ∨ Gd T n N sc e wx X) → chkE N T.has c sc ex = true → AllC X ex T n e wx c
  | .int i, sc, X, ex, wx, g, hq, h => by
    cases ex <;> first
      | (simp [chkE] at h; done)
      | skip
    rename_i k a b
    cases k <;> first
      | (simp [chkE] at h; done)
      | skip
    have h0 := h
    simp only [chkE, decide_eq_true_eq] at h
    subst h
    have p : PE X (.Constant (.int i) a b) (TEc X.K e (T.cfg n) wx (.int i)) := se_const (d := .int i) pe_int (fun S => by rw [evE]) rfl fun _ _ => Rep.int i
    exact AllC.mkV p (fun S => by rw [evT]; all_goals simp) (fun _ => rfl)
  | .str i, sc, X, ex, wx, g, hq, h => by
    cases ex <;> first
      | (simp [chkE] at h; done)
      | skip
    rename_i k a b
    cases k <;> first
      | (simp [chkE] at h; done)
      | skip
    have h0 := h
    simp only [chkE, decide_eq_true_eq] at h
    subst h
    have p : PE X (.Constant (.str i) a b) (TEc X.K e (T.cfg n) wx (.str i)) := se_const (d := .str i) pe_str (fun S => by rw [evE]) rfl fun _ _ => Rep.str i
    exact AllC.mkV p (fun S => by rw [evT]; all_goals simp) (fun _ => rfl)
  | .bl i, sc, X, ex, wx, g, hq, h => by
    cases ex <;> first
      | (simp [chkE] at h; done)
      | skip
    rename_i k a b
    cases k <;> first
      | (simp [chkE] at h; done)
      | skip
    have h0 := h
    simp only [chkE, decide_eq_true_eq] at h
    subst h
    have p : PE X (.Constant (.bool i) a b) (TEc X.K e (T.cfg n) wx (.bl i)) := se_const (d := .bl i) pe_bl (fun S => by rw [evE]) rfl fun _ _ => Rep.bl i
    exact AllC.mkV p (fun S => by rw [evT]; all_goals simp) (fun _ => rfl)
  | .non, sc, X, ex, wx, g, hq, h => by
    cases ex <;> first
      | (simp [chkE] at h; done)
      | skip
    rename_i k a b
    cases k <;> first
      | (simp [chkE] at h; done)
      | skip
    have p : PE X (.Constant .none a b) (TEc X.K e (T.cfg n) wx .non) := se_const (d := .non) pe_non (fun S => by rw [evE]) rfl fun _ _ => Rep.non
    exact AllC.mkV p (fun S => by rw [evT]; all_goals simp) (fun _ => rfl)
  | .var i, sc, X, ex, wx, g, hq, h => by
    cases ex <;> first
      | (simp [chkE] at h; done)
      | skip
    have h0 := h
    simp only [chkE, Bool.and_eq_true, decide_eq_true_eq] at h
    have p := se_var (e := e) (pos := by assumption) g h.1.1 h.1.2 h.2
    exact AllC.mkV p (fun S => by rw [evT]; all_goals simp) (fun _ => rfl)
  | .pk i, sc, X, ex, wx, g, hq, h => by
    cases ex <;> first
      | (simp [chkE] at h; done)
      | skip
    simp only [chkE, Bool.and_eq_true, decide_eq_true_eq] at h
    have q := so_pk (e := e) (wx := wx) (pos := by assumption) g h.1.1 h.1.2 h.2
    exact ⟨fun z => (by cases z), q, st_val (fun S => by rw [evT]; all_goals simp) (fun _ => rfl) q⟩
  | .glob x, sc, X, ex, wx, g, hq, h => by
    cases ex <;> first
      | (simp [chkE] at h; done)
      | skip
    have h0 := h
    simp only [chkE, Bool.and_eq_true, decide_eq_true_eq] at h
    obtain ⟨⟨rfl, h1⟩, h2⟩ := h
    have p := se_glob (e := e) (pos := by assumption) g h1 h2
    exact AllC.mkV p (fun S => by rw [evT]; all_goals simp) (fun _ => rfl)
  | .bin op a b, sc, X, ex, wx, g, hq, h => by
    have q12 := qand (a := a.qu) (b := b.qu) (by simpa only [C.qu] using hq)
    cases ex <;> first
      | (simp [chkE] at h; done)
      | skip
    have h0 := h
    simp only [chkE, Bool.and_eq_true, decide_eq_true_eq] at h
    obtain ⟨⟨rfl, h1⟩, h2⟩ := h
    have p := se_bin (pos := by assumption) (op := op) (allC a g q12.1 h1).o (allC b g q12.2 h2).o
    exact AllC.mkV p (fun S => by rw [evT]; all_goals simp) (fun _ => rfl)
  | .neg a, sc, X, ex, wx, g, hq, h => by
    have q1 : a.qu = true ∨ _ := (by simpa only [C.qu] using hq)
    cases ex <;> first
      | (simp [chkE] at h; done)
      | skip
    rename_i op ea pos
    cases op <;> first
      | (simp [chkE] at h; done)
      | skip
    simp only [chkE, Bool.and_eq_true, Bool.not_eq_true'] at h
    have p := se_neg (pos := pos) ((allC a g q1 h.2).v h.1)
    exact AllC.mkV p (fun S => by rw [evT]; all_goals simp) (fun _ => rfl)
  | .not a, sc, X, ex, wx, g, hq, h => by
    have q1 : a.qu = true ∨ _ := (by simpa only [C.qu] using hq)
    cases ex <;> first
      | (simp [chkE] at h; done)
      | skip
    rename_i op ea pos
    cases op <;> first
      | (simp [chkE] at h; done)
      | skip
    simp only [chkE] at h
    exact .mk' (se_not (pos := pos) (allC a g q1 h).o) (st_not (allC a g q1 h).t)
  | .and as, sc, X, ex, wx, g, hq, h => by
    have q1 : as.qu = true ∨ _ := (by simpa only [C.qu] using hq)
    cases ex <;> first
      | (simp [chkE] at h; done)
      | skip
    rename_i op es pos
    cases op <;> first
      | (simp [chkE] at h; done)
      | skip
    simp only [chkE, Bool.and_eq_true, Bool.not_eq_true'] at h
    cases as with
    | nil => exact .mk' (se_vac fun S => by rw [evE, evAnd]) (st_vac fun S => by rw [evT, evTAnd])
    | cons c r =>
      obtain ⟨p, q⟩ := (allB (.cons c r) g q1 h.1 h.2 (fun z => by cases z) pos).1
      exact .mk' (imE p fun σ H Q ⟨w, hp, S, r, h⟩ => ⟨w, hp, S, r, by rw [evE] at h; exact h.mono fun d hp1 w1 H1 _ _ _ z _ v rp => z v rp⟩) (imW q fun σ H Q ⟨w, hp, S, r, h⟩ => ⟨w, hp, S, r, by rw [evT] at h; exact h⟩).pt
  | .or as, sc, X, ex, wx, g, hq, h => by
    have q1 : as.qu = true ∨ _ := (by simpa only [C.qu] using hq)
    cases ex <;> first
      | (simp [chkE] at h; done)
      | skip
    rename_i op es pos
    cases op <;> first
      | (simp [chkE] at h; done)
      | skip
    simp only [chkE, Bool.and_eq_true, Bool.not_eq_true'] at h
    cases as with
    | nil => exact .mk' (se_vac fun S => by rw [evE, evOr]) (st_vac fun S => by rw [evT, evTOr])
    | cons c r =>
      obtain ⟨p, q⟩ := (allB (.cons c r) g q1 h.1 h.2 (fun z => by cases z) pos).2
      exact .mk' (imE p fun σ H Q ⟨w, hp, S, r, h⟩ => ⟨w, hp, S, r, by rw [evE] at h; exact h.mono fun d hp1 w1 H1 _ _ _ z _ v rp => z v rp⟩) (imW q fun σ H Q ⟨w, hp, S, r, h⟩ => ⟨w, hp, S, r, by rw [evT] at h; exact h⟩).pt
  | .cmp op a b, sc, X, ex, wx, g, hq, h => by
    have q12 := qand (a := a.qu) (b := b.qu) (by simpa only [C.qu] using hq)
    cases ex <;> first
      | (simp [chkE] at h; done)
      | skip
    rename_i ea ops es pos
    match ops, es, h with
    | [op'], [eb], h =>
      simp only [chkE, Bool.and_eq_true, decide_eq_true_eq] at h
      obtain ⟨⟨rfl, h1⟩, h2⟩ := h
      have hm := noSetM h2 op
      exact .mk' (se_cmp g hm (allC a g q12.1 h1).o (allC b g q12.2 h2).o) (st_cmp g hm (allC a g q12.1 h1).o (allC b g q12.2 h2).o)
    | [], _, h => simp [chkE] at h
    | _ :: _ :: _, _, h => simp [chkE] at h
    | [_], [], h => simp [chkE] at h
    | [_], _ :: _ :: _, h => simp [chkE] at h
  | .chn o1 o2 a b c, sc, X, ex, wx, g, hq, h => by
    have q12 := qand (a := a.qu) (b := b.qu && c.qu) (by simpa only [C.qu] using hq)
    have q23 := qand q12.2
    cases ex <;> first
      | (simp [chkE] at h; done)
      | skip
    rename_i ea ops es pos
    match ops, es, h with
    | [o1', o2'], [eb, ec], h =>
      simp only [chkE, Bool.and_eq_true, decide_eq_true_eq] at h
      obtain ⟨⟨⟨⟨rfl, rfl⟩, h1⟩, h2⟩, h3⟩ := h
      have hm : lastMarks [o1, o2] [eb, ec] = false := by unfold lastMarks; exact noSetM h3 o2
      exact .mk' (se_chn g hm (allC a g q12.1 h1).o (allC b g q23.1 h2).o (allC c g q23.2 h3).o) (st_chn g hm (allC a g q12.1 h1).o (allC b g q23.1 h2).o (allC c g q23.2 h3).o)
    | [], _, h => simp [chkE] at h
    | [_], _, h => simp [chkE] at h
    | _ :: _ :: _ :: _, _, h => simp [chkE] at h
    | [_, _], [], h => simp [chkE] at h
    | [_, _], [_], h => simp [chkE] at h
    | [_, _], _ :: _ :: _ :: _, h => simp [chkE] at h
  | .ite c a b, sc, X, ex, wx, g, hq, h => by
    have q12 := qand (a := c.qu) (b := a.qu && b.qu) (by simpa only [C.qu] using hq)
    have q23 := qand q12.2
    cases ex <;> first
      | (simp [chkE] at h; done)
      | skip
    simp only [chkE, Bool.and_eq_true, Bool.not_eq_true'] at h
    obtain ⟨⟨⟨⟨a1, a2⟩, h1⟩, h2⟩, h3⟩ := h
    exact .mk' (se_ite (allC c g q12.1 h1).t ((allC a g q23.1 h2).v a1) ((allC b g q23.2 h3).v a2)) st_ite
  | .tup es, sc, X, ex, wx, g, hq, h => by
    have q1 : es.qu = true ∨ _ := (by simpa only [C.qu] using hq)
    cases ex <;> first
      | (simp [chkE] at h; done)
      | skip
    have h0 := h
    simp only [chkE, Bool.and_eq_true, Bool.not_eq_true'] at h
    have p := se_tup (k := by assumption) (pos := by assumption) ((allA es g q1 h.2).1 h.1)
    exact AllC.mkV p (fun S => by rw [evT]; all_goals simp) (fun _ => rfl)
  | .lst es, sc, X, ex, wx, g, hq, h => by
    have q1 : es.qu = true ∨ _ := (by simpa only [C.qu] using hq)
    cases ex <;> first
      | (simp [chkE] at h; done)
      | skip
    have h0 := h
    simp only [chkE, Bool.and_eq_true, Bool.not_eq_true'] at h
    have p := se_lst (pos := by assumption) ((allA es g q1 h.2).1 h.1)
    exact AllC.mkV p (fun S => by rw [evT]; all_goals simp) (fun _ => rfl)
  | .idx a i, sc, X, ex, wx, g, hq, h => by
    have q12 := qand (a := a.qu) (b := i.qu) (by simpa only [C.qu] using hq)
    cases ex <;> first
      | (simp [chkE] at h; done)
      | skip
    have h0 := h
    simp only [chkE, Bool.and_eq_true, Bool.not_eq_true'] at h
    have p := se_idx (pos := by assumption) (noSlice h.2) (allC a g q12.1 h.1.2).o ((allC i g q12.2 h.2).v h.1.1)
    exact AllC.mkV p (fun S => by rw [evT]; all_goals simp) (fun _ => rfl)
  | .slc a lo hi, sc, X, ex, wx, g, hq, h => by
    have g := hq.resolve_left (by simp [C.qu])
    cases ex <;> first
      | (simp [chkE] at h; done)
      | skip
    rename_i ea ei pos
    cases ei <;> first
      | (simp [chkE] at h; done)
      | skip
    rename_i el eh es p2
    have h0 := h
    simp only [chkE, Bool.and_eq_true] at h
    obtain ⟨⟨⟨h1, h2⟩, h3⟩, h4⟩ := h
    cases es with
    | some z => cases h4
    | none =>
      have p := se_slc (p2 := p2) (pos := pos) (allC a g.toGq (.inr g) h1).o (allO lo g h2) (allO hi g h3)
      exact AllC.mkV p (fun S => by rw [evT]; all_goals simp) (fun _ => rfl)
  | .call f as, sc, X, ex, wx, g, hq, h => by
    have g := hq.resolve_left (by simp [C.qu])
    cases ex <;> first
      | (simp [chkE] at h; done)
      | skip
    rename_i fe es ks pos
    cases fe <;> first
      | (simp [chkE] at h; done)
      | skip
    rename_i x px
    have h0 := h
    simp only [chkE, Bool.and_eq_true, decide_eq_true_eq, List.isEmpty_iff] at h
    obtain ⟨⟨⟨⟨⟨⟨rfl, hF⟩, h1⟩, h2⟩, rfl⟩, hk⟩, h3⟩ := h
    rw [Bool.not_eq_true'] at hk
    have st := starCs h3
    have p := se_call (e := e) (p := px) (pos := pos) g (hasOf hF).1 (hasOf hF).2 h1 h2 (fun ex hx => st ex (List.mem_of_mem_head? hx)) (starCs_any (cs := as) (sc := sc) (fun ex hx => st ex (List.mem_of_mem_tail hx)) _ _) (fun z => by subst z; exact evCs_nil_chk h3) ((allA as g.toGq (.inr g) h3).1 hk)
    exact AllC.mkV p (fun S => by rw [evT]; all_goals simp) (fun _ => rfl)
  | .iso f as, sc, X, ex, wx, g, hq, h => by
    have g := hq.resolve_left (by simp [C.qu])
    cases ex <;> first
      | (simp [chkE] at h; done)
      | skip
    rename_i fe es ks pos
    cases fe <;> first
      | (simp [chkE] at h; done)
      | skip
    rename_i x px
    simp only [chkE, Bool.and_eq_true, decide_eq_true_eq, List.isEmpty_iff] at h
    obtain ⟨⟨⟨⟨⟨rfl, hF⟩, h1⟩, h2⟩, rfl⟩, h3⟩ := h
    have st := starCs h3
    have p := se_iso (e := e) (p := px) (pos := pos) g (hasOf hF).1 (hasOf hF).2 h1 h2 (fun ex hx => st ex (List.mem_of_mem_head? hx)) (starCs_any (cs := as) (sc := sc) (fun ex hx => st ex (List.mem_of_mem_tail hx)) _ _) (fun z => by subst z; exact evCs_nil_chk h3) (allA as g.toGq (.inr g) h3).2 (allA as g.toGq (.inr g) h3).1
    exact AllC.mkV p (fun S => by rw [evT]; all_goals simp) (fun _ => rfl)
  | .bi f as, sc, X, ex, wx, g, hq, h => by
    have g := hq.resolve_left (by simp [C.qu])
    cases ex <;> first
      | (simp [chkE] at h; done)
      | skip
    rename_i fe es ks pos
    cases fe <;> first
      | (simp [chkE] at h; done)
      | skip
    rename_i x px
    have h0 := h
    simp only [chkE, Bool.and_eq_true, decide_eq_true_eq, List.isEmpty_iff] at h
    obtain ⟨⟨⟨⟨⟨rfl, h1⟩, h2⟩, rfl⟩, h4⟩, h3⟩ := h
    have st := starCs h3
    cases es with
    | nil => cases h4
    | cons a r =>
      have p := se_bi (e := e) (p := px) (pos := pos) g h1 h2 (st a List.mem_cons_self _ _) (starCs_any (cs := as) (sc := sc) (fun ex hx => st ex (List.mem_cons_of_mem _ hx)) _ _) (allA as g.toGq (.inr g) h3).2
      exact AllC.mkV p (fun S => by rw [evT]; all_goals simp) (fun _ => rfl)
  | .isi ty a, sc, X, ex, wx, g, hq, h => by
    have q1 : a.qu = true ∨ _ := (by simpa only [C.qu] using hq)
    cases ex <;> first
      | (simp [chkE] at h; done)
      | skip
    rename_i fe es ks pos
    cases fe <;> first
      | (simp [chkE] at h; done)
      | skip
    rename_i x px
    match es, h with
    | [ea, eb], h =>
      cases eb <;> first
        | (simp [chkE] at h; done)
        | skip
      rename_i y py
      have h0 := h
      simp only [chkE, Bool.and_eq_true, decide_eq_true_eq, List.isEmpty_iff] at h
      obtain ⟨⟨⟨⟨⟨⟨rfl, h1⟩, rfl⟩, h3⟩, h4⟩, rfl⟩, h5⟩ := h
      have p := se_isi (e := e) (p := px) (p2 := py) (pos := pos) g h1 h4 h3 (noStar h5) (allC a g q1 h5).o
      exact AllC.mkV p (fun S => by rw [evT]; all_goals simp) (fun _ => rfl)
    | [], h => simp [chkE] at h
    | [_], h => simp [chkE] at h
    | _ :: _ :: _ :: _, h => simp [chkE] at h
  | .rvl a, sc, X, ex, wx, g, hq, h => by
    have g := hq.resolve_left (by simp [C.qu])
    cases ex <;> first
      | (simp [chkE] at h; done)
      | skip
    rename_i fe es ks pos
    cases fe <;> first
      | (simp [chkE] at h; done)
      | skip
    rename_i x px
    match es, h with
    | [], h => simp [chkE] at h
    | _ :: _ :: _, h => simp [chkE] at h
    | [eb], h =>
      cases eb <;> first
        | (simp [chkE] at h; done)
        | skip
      rename_i fe2 es2 ks2 pos2
      cases fe2 <;> first
        | (simp [chkE] at h; done)
        | skip
      rename_i y py
      match es2, h with
      | [], h => simp [chkE] at h
      | _ :: _ :: _, h => simp [chkE] at h
      | [ea], h =>
        simp only [chkE, Bool.and_eq_true, decide_eq_true_eq, List.isEmpty_iff, Bool.not_eq_true'] at h
        obtain ⟨⟨⟨⟨⟨⟨⟨rfl, rfl⟩, h1⟩, h2⟩, rfl⟩, rfl⟩, h3⟩, h4⟩ := h
        have p := se_rvl (e := e) (p := px) (p2 := py) (pos := pos) (pos2 := pos2) g h1 h2 (noStar h4) ((allC a g.toGq (.inr g) h4).v h3)
        exact AllC.mkV p (fun S => by rw [evT]; all_goals simp) (fun _ => rfl)
  | .lrg a, sc, X, ex, wx, g, hq, h => by
    have g := hq.resolve_left (by simp [C.qu])
    cases ex <;> first
      | (simp [chkE] at h; done)
      | skip
    rename_i fe es ks pos
    cases fe <;> first
      | (simp [chkE] at h; done)
      | skip
    rename_i x px
    match es, h with
    | [], h => simp [chkE] at h
    | _ :: _ :: _, h => simp [chkE] at h
    | [eb], h =>
      cases eb <;> first
        | (simp [chkE] at h; done)
        | skip
      rename_i fe2 es2 ks2 pos2
      cases fe2 <;> first
        | (simp [chkE] at h; done)
        | skip
      rename_i y py
      match es2, h with
      | [], h => simp [chkE] at h
      | _ :: _ :: _, h => simp [chkE] at h
      | [ea], h =>
        simp only [chkE, Bool.and_eq_true, decide_eq_true_eq, List.isEmpty_iff, Bool.not_eq_true'] at h
        obtain ⟨⟨⟨⟨⟨⟨⟨rfl, rfl⟩, h1⟩, h2⟩, rfl⟩, rfl⟩, h3⟩, h4⟩ := h
        have p := se_lrg (e := e) (p := px) (p2 := py) (pos := pos) (pos2 := pos2) g h1 h2 (noStar h4) ((allC a g.toGq (.inr g) h4).v h3)
        exact AllC.mkV p (fun S => by rw [evT]; all_goals simp) (fun _ => rfl)
  | .spl a b, sc, X, ex, wx, g, hq, h => by
    have g := hq.resolve_left (by simp [C.qu])
    cases ex <;> first
      | (simp [chkE] at h; done)
      | skip
    rename_i fe es ks pos
    cases fe <;> first
      | (simp [chkE] at h; done)
      | skip
    rename_i oe m ap
    match es, h with
    | [], h => simp [chkE] at h
    | _ :: _ :: _, h => simp [chkE] at h
    | [eb], h =>
      simp only [chkE, Bool.and_eq_true, decide_eq_true_eq, List.isEmpty_iff, Bool.not_eq_true'] at h
      obtain ⟨⟨⟨⟨⟨⟨⟨h0, rfl⟩, rfl⟩, h5⟩, h6⟩, h7⟩, h8⟩, h9⟩ := h
      have hb : attributeBase oe "split" X.env (eval oe X.env) = eval oe X.env := by
        cases oe <;> first
          | rfl
          | cases h0
      have p := se_spl (T := T) (n := n) (e := e) (X := X) (wx := wx) (ap := ap) (pos := pos) hb (noStar h9) h5 ((allC a g.toGq (.inr g) h8).v h6) ((allC b g.toGq (.inr g) h9).v h7)
      exact AllC.mkV p (fun S => by rw [evT]; all_goals simp) (fun _ => rfl)
  | .lco elt t c cd, sc, X, ex, wx, g, hq, h => by
    have g := hq.resolve_left (by simp [C.qu])
    cases ex <;> first
      | (simp [chkE] at h; done)
      | skip
    rename_i ee gens scope pos
    match gens, h with
    | [⟨te, ie, ifs, as⟩], h =>
      have h0 := h
      simp only [chkE, Bool.and_eq_true, decide_eq_true_eq] at h
      obtain ⟨⟨⟨⟨⟨⟨⟨rfl, hk⟩, hk2⟩, h1⟩, h2⟩, h3⟩, h4⟩, h5⟩ := h
      rw [Bool.not_eq_true'] at hk hk2
      have p := se_lco (pos := pos) g h1 ((allC c g.toGq (.inr g) h3).v hk2) (noSet h3 _) (fun s H C cl fp => pg_tgt (g.blk scope s H C cl fp) (fun x hx => hx) h2) (fun s H C cl fp => allD cd (g.blk scope s H C cl fp) h5) (fun s H C cl fp => (allC elt (g.blk scope s H C cl fp).toGq (.inr (g.blk scope s H C cl fp)) h4).v hk)
      exact AllC.mkV p (fun S => by rw [evT]; all_goals simp) (fun _ => rfl)
    | [], h => simp [chkE] at h
    | _ :: _ :: _, h => simp [chkE] at h
  | .lc elt t it cd, sc, X, ex, wx, g, hq, h => by
    have g := hq.resolve_left (by simp [C.qu])
    cases ex <;> first
      | (simp [chkE] at h; done)
      | skip
    rename_i ee gens scope pos
    match gens, h with
    | [⟨te, ie, ifs, as⟩], h =>
      have h0 := h
      simp only [chkE, Bool.and_eq_true, decide_eq_true_eq] at h
      obtain ⟨⟨⟨⟨⟨⟨rfl, hk⟩, h1⟩, h2⟩, h3⟩, h4⟩, h5⟩ := h
      rw [Bool.not_eq_true'] at hk
      have p := se_lc (pos := pos) g h1 (allI it g h3) (noSetI h3 _) (fun s H C cl fp => pg_tgt (g.blk scope s H C cl fp) (fun x hx => hx) h2) (fun s H C cl fp => allD cd (g.blk scope s H C cl fp) h5) (fun s H C cl fp => (allC elt (g.blk scope s H C cl fp).toGq (.inr (g.blk scope s H C cl fp)) h4).v hk)
      exact AllC.mkV p (fun S => by rw [evT]; all_goals simp) (fun _ => rfl)
    | [], h => simp [chkE] at h
    | _ :: _ :: _, h => simp [chkE] at h
  | .isr f as, sc, X, ex, wx, g, hq, h => by
    have g := hq.resolve_left (by simp [C.qu])
    cases ex <;> first
      | (simp [chkE] at h; done)
      | skip
    rename_i fe es ks pos
    cases fe <;> first
      | (simp [chkE] at h; done)
      | skip
    rename_i x px
    simp only [chkE, Bool.and_eq_true, decide_eq_true_eq, List.isEmpty_iff] at h
    obtain ⟨⟨⟨⟨⟨rfl, hF⟩, h1⟩, h2⟩, rfl⟩, h3⟩ := h
    have st := starCs h3
    have p := se_isr (e := e) (p := px) (pos := pos) g (hasOf hF).1 (hasOf hF).2 h1 h2 (fun ex hx => st ex (List.mem_of_mem_head? hx)) (starCs_any (cs := as) (sc := sc) (fun ex hx => st ex (List.mem_of_mem_tail hx)) _ _) (fun z => by subst z; exact evCs_nil_chk h3) (allA as g.toGq (.inr g) h3).2
    exact AllC.mkV p (fun S => by rw [evT]; all_goals simp) (fun _ => rfl)
  | .new c, sc, X, ex, wx, g, hq, h => by
    have g := hq.resolve_left (by simp [C.qu])
    simp only [chkE, Bool.and_eq_true, Bool.not_eq_true'] at h
    have p := se_new ((allC c g.toGq (.inr g) h.2).v h.1.2)
    have hn := h.1.1
    exact AllC.mkV p (fun S => by rw [evT]; all_goals simp) (fun _ => by
      cases ex <;> first
        | rfl
        | cases hn)
  | .mut m c as, sc, X, ex, wx, g, hq, h => by
    have g := hq.resolve_left (by simp [C.qu])
    cases ex <;> first
      | (simp [chkE] at h; done)
      | skip
    rename_i fe es ks pos
    cases fe <;> first
      | (simp [chkE] at h; done)
      | skip
    rename_i oe m2 ap
    simp only [chkE, Bool.and_eq_true, decide_eq_true_eq, List.isEmpty_iff, Bool.not_eq_true'] at h
    obtain ⟨⟨⟨⟨⟨⟨⟨⟨⟨h0, rfl⟩, h1⟩, rfl⟩, h2⟩, h3⟩, h4⟩, h5⟩, h6⟩, h7⟩ := h
    have p := se_mut (e := e) h1 h0 h2 (starCs h7) h3 ((allC c g.toGq (.inr g) h6).v h4) ((allA as g.toGq (.inr g) h7).1 h5) (fun z => by subst z; exact evCs_nil_chk h7)
    exact AllC.mkV p (fun S => by rw [evT]; all_goals simp) (fun _ => rfl)
  | .mtd m c as, sc, X, ex, wx, g, hq, h => by
    have g := hq.resolve_left (by simp [C.qu])
    cases ex <;> first
      | (simp [chkE] at h; done)
      | skip
    rename_i fe es ks pos
    cases fe <;> first
      | (simp [chkE] at h; done)
      | skip
    rename_i oe m2 ap
    simp only [chkE, Bool.and_eq_true, decide_eq_true_eq, List.isEmpty_iff] at h
    obtain ⟨⟨⟨⟨⟨⟨⟨h0, rfl⟩, h1⟩, rfl⟩, h2⟩, h3⟩, h6⟩, h7⟩ := h
    have p := se_mtd (e := e) h1 h0 h2 (starCs h7) h3 (allC c g.toGq (.inr g) h6).o (allA as g.toGq (.inr g) h7).2 (fun z => by subst z; exact evCs_nil_chk h7)
    exact AllC.mkV p (fun S => by rw [evT]; all_goals simp) (fun _ => rfl)
  | .dnew, sc, X, ex, wx, g, hq, h => by
    cases ex <;> first
      | (simp [chkE] at h; done)
      | skip
    simp only [chkE, Bool.and_eq_true, List.isEmpty_iff] at h
    obtain ⟨rfl, rfl⟩ := h
    exact AllC.mkV se_dnew (fun S => by rw [evT]; all_goals simp) (fun _ => rfl)
  | .dget a k, sc, X, ex, wx, g, hq, h => by
    have g := hq.resolve_left (by simp [C.qu])
    cases ex <;> first
      | (simp [chkE] at h; done)
      | skip
    simp only [chkE, Bool.and_eq_true, Bool.not_eq_true'] at h
    have p := se_dget (e := e) (pos := by assumption) g.toGq (noSlice h.2) (allC a g.toGq (.inr g) h.1.2).o ((allC k g.toGq (.inr g) h.2).v h.1.1)
    exact AllC.mkV p (fun S => by rw [evT]; all_goals simp) (fun _ => rfl)
  | .din ng k a, sc, X, ex, wx, g, hq, h => by
    have g := hq.resolve_left (by simp [C.qu])
    cases ex <;> first
      | (simp [chkE] at h; done)
      | skip
    rename_i ek ops es pos
    match ops, es, h with
    | [op'], [ea], h =>
      simp only [chkE, Bool.and_eq_true, decide_eq_true_eq, Bool.not_eq_true'] at h
      obtain ⟨⟨⟨rfl, h0⟩, h1⟩, h2⟩ := h
      have p := se_din (e := e) (pos := pos) g.toGq (noSetM h2 (if ng then .NotIn else .In)) ((allC k g.toGq (.inr g) h1).v h0) (allC a g.toGq (.inr g) h2).o
      exact .mk' p (st_din (e := e) (pos := pos) g.toGq (noSetM h2 (if ng then .NotIn else .In)) ((allC k g.toGq (.inr g) h1).v h0) (allC a g.toGq (.inr g) h2).o)
    | [], _, h => simp [chkE] at h
    | _ :: _ :: _, _, h => simp [chkE] at h
    | [_], [], h => simp [chkE] at h
    | [_], _ :: _ :: _, h => simp [chkE] at h
  | .fld c f, sc, X, ex, wx, g, hq, h => by
    have q1 : c.qu = true ∨ _ := (by simpa only [C.qu] using hq)
    cases ex <;> first
      | (simp [chkE] at h; done)
      | skip
    simp only [chkE, Bool.and_eq_true, decide_eq_true_eq, Bool.not_eq_true'] at h
    obtain ⟨⟨⟨h0, rfl⟩, k1⟩, h5⟩ := h
    have p := se_fld (e := e) (f := f) (pos := by assumption) g h0 ((allC c g q1 h5).v k1)
    exact AllC.mkV p (fun S => by rw [evT]; all_goals simp) (fun _ => rfl)
  | .isx cls c, sc, X, ex, wx, g, hq, h => by
    have q1 : c.qu = true ∨ _ := (by simpa only [C.qu] using hq)
    cases ex <;> first
      | (simp [chkE] at h; done)
      | skip
    rename_i fe es ks pos
    cases fe <;> first
      | (simp [chkE] at h; done)
      | skip
    rename_i x px
    match es, h with
    | [ea, eb], h =>
      cases eb <;> first
        | (simp [chkE] at h; done)
        | skip
      rename_i y py
      simp only [chkE, Bool.and_eq_true, decide_eq_true_eq, List.isEmpty_iff, Bool.not_eq_true'] at h
      obtain ⟨⟨⟨⟨⟨⟨⟨rfl, h1⟩, rfl⟩, h3⟩, h4⟩, rfl⟩, k1⟩, h5⟩ := h
      have p := se_isx (e := e) (p := px) (p2 := py) (pos := pos) g h1 h3 h4 (noStar h5) ((allC c g q1 h5).v k1)
      exact AllC.mkV p (fun S => by rw [evT]; all_goals simp) (fun _ => rfl)
    | [], h => simp [chkE] at h
    | [_], h => simp [chkE] at h
    | _ :: _ :: _ :: _, h => simp [chkE] at h
  | .gget x k d, sc, X, ex, wx, g, hq, h => by
    have g := hq.resolve_left (by simp [C.qu])
    cases ex <;> first
      | (simp [chkE] at h; done)
      | skip
    rename_i fe es ks pos
    cases fe <;> first
      | (simp [chkE] at h; done)
      | skip
    rename_i oe m ap
    cases oe <;> first
      | (simp [chkE] at h; done)
      | skip
    match es, h with
    | [ek, ed], h =>
      simp only [chkE, Bool.and_eq_true, decide_eq_true_eq, List.isEmpty_iff, Bool.not_eq_true'] at h
      obtain ⟨⟨⟨⟨⟨⟨⟨⟨⟨rfl, h1⟩, h2⟩, rfl⟩, rfl⟩, h4⟩, k1⟩, k2⟩, h5⟩, h6⟩ := h
      have p := se_gget (e := e) (p := by assumption) (ap := ap) (cp := pos) g.toGq h1 h2 h4 (fun ex hx => by
        simp only [List.mem_cons, List.mem_nil_iff, or_false] at hx
        rcases hx with rfl | rfl
        · exact noStar h5
        · exact noStar h6) ((allC k g.toGq (.inr g) h5).v k1) ((allC d g.toGq (.inr g) h6).v k2)
      exact AllC.mkV p (fun S => by rw [evT]; all_goals simp) (fun _ => rfl)
    | [], h => simp [chkE] at h
    | [_], h => simp [chkE] at h
    | _ :: _ :: _ :: _, h => simp [chkE] at h
  | .ixf t a b, sc, X, ex, wx, g, hq, h => by
    have g := hq.resolve_left (by simp [C.qu])
    cases ex <;> first
      | (simp [chkE] at h; done)
      | skip
    rename_i fe es ks pos
    cases fe <;> first
      | (simp [chkE] at h; done)
      | skip
    rename_i oe m ap
    match es, h with
    | [eb], h =>
      cases t with
      | false =>
        simp only [chkE, Bool.and_eq_true, decide_eq_true_eq, List.isEmpty_iff, Bool.not_eq_true'] at h
        obtain ⟨⟨⟨⟨⟨⟨⟨h1, k0⟩, h2⟩, rfl⟩, rfl⟩, h4⟩, k1⟩, h5⟩ := h
        have p := se_lix (e := e) (ap := ap) (cp := pos) g.toGq h1 h4 (fun ex hx => by
          simp only [List.mem_cons, List.mem_nil_iff, or_false] at hx
          subst hx
          exact noStar h5) ((allC a g.toGq (.inr g) h2).v k0) ((allC b g.toGq (.inr g) h5).v k1)
        exact AllC.mkV p (fun S => by rw [evT]; all_goals simp) (fun _ => rfl)
      | true =>
        cases a <;> first
          | (simp [chkE] at h; done)
          | skip
        cases oe <;> first
          | (simp [chkE] at h; done)
          | skip
        simp only [chkE, Bool.and_eq_true, decide_eq_true_eq, List.isEmpty_iff, Bool.not_eq_true'] at h
        obtain ⟨⟨⟨⟨⟨⟨⟨rfl, h1⟩, h2⟩, rfl⟩, rfl⟩, h4⟩, k1⟩, h5⟩ := h
        have p := se_gix (e := e) (p := by assumption) (ap := ap) (cp := pos) g.toGq h1 h2 h4 (fun ex hx => by
          simp only [List.mem_cons, List.mem_nil_iff, or_false] at hx
          subst hx
          exact noStar h5) ((allC b g.toGq (.inr g) h5).v k1)
        exact AllC.mkV p (fun S => by rw [evT]; all_goals simp) (fun _ => rfl)
    | [], h => simp [chkE] at h
    | _ :: _ :: _, h => simp [chkE] at h
  | .ch3 o1 o2 o3 a b c d, sc, X, ex, wx, g, hq, h => by
    have g := hq.resolve_left (by simp [C.qu])
    cases ex <;> first
      | (simp [chkE] at h; done)
      | skip
    rename_i ea ops es pos
    match ops, es, h with
    | [o1', o2', o3'], [eb, ec, ed], h =>
      simp only [chkE, Bool.and_eq_true, decide_eq_true_eq] at h
      obtain ⟨⟨⟨⟨⟨⟨rfl, rfl⟩, rfl⟩, h1⟩, h2⟩, h3⟩, h4⟩ := h
      have hm : lastMarks [o1, o2, o3] [eb, ec, ed] = false := by unfold lastMarks; exact noSetM h4 o3
      exact .mk' (se_ch3 g.toGq hm (allC a g.toGq (.inr g) h1).o (allC b g.toGq (.inr g) h2).o (allC c g.toGq (.inr g) h3).o (allC d g.toGq (.inr g) h4).o) (st_vac fun S => by rw [evT])
    | [], _, h => simp [chkE] at h
    | [_], _, h => simp [chkE] at h
    | [_, _], _, h => simp [chkE] at h
    | _ :: _ :: _ :: _ :: _, _, h => simp [chkE] at h
    | [_, _, _], [], h => simp [chkE] at h
    | [_, _, _], [_], h => simp [chkE] at h
    | [_, _, _], [_, _], h => simp [chkE] at h
    | [_, _, _], _ :: _ :: _ :: _ :: _, h => simp [chkE] at h
  | .mk cls as, sc, X, ex, wx, g, hq, h => by
    have g := hq.resolve_left (by simp [C.qu])
    cases ex <;> first
      | (simp [chkE] at h; done)
      | skip
    rename_i fe es ks pos
    cases fe <;> first
      | (simp [chkE] at h; done)
      | skip
    rename_i x px
    cases es with
    | nil => simp [chkE] at h
    | cons e1 es =>
      simp only [chkE, Bool.and_eq_true, decide_eq_true_eq, List.isEmpty_iff, Bool.not_eq_true'] at h
      obtain ⟨⟨⟨⟨⟨⟨rfl, h1⟩, h2⟩, rfl⟩, _⟩, hk⟩, h3⟩ := h
      have st := starCs h3
      have p := se_mk (e := e) (p := px) (cp := pos) g h1 h2 st (starCs_any (cs := as) (sc := sc) (fun ex hx => st ex (List.mem_cons_of_mem _ hx)) _ _) ((allA as g.toGq (.inr g) h3).1 hk)
      exact AllC.mkV p (fun S => by rw [evT]; all_goals simp) (fun _ => rfl)
  | .lset a, sc, X, ex, wx, g, hq, h => by
    have g := hq.resolve_left (by simp [C.qu])
    cases ex <;> first
      | (simp [chkE] at h; done)
      | skip
    rename_i fe es ks pos
    cases fe <;> first
      | (simp [chkE] at h; done)
      | skip
    rename_i x px
    match es, h with
    | [], h => simp [chkE] at h
    | _ :: _ :: _, h => simp [chkE] at h
    | [eb], h =>
      cases eb <;> first
        | (simp [chkE] at h; done)
        | skip
      rename_i fe2 es2 ks2 pos2
      cases fe2 <;> first
        | (simp [chkE] at h; done)
        | skip
      rename_i y py
      match es2, h with
      | [], h => simp [chkE] at h
      | _ :: _ :: _, h => simp [chkE] at h
      | [ea], h =>
        simp only [chkE, Bool.and_eq_true, decide_eq_true_eq, List.isEmpty_iff, Bool.not_eq_true'] at h
        obtain ⟨⟨⟨⟨⟨⟨⟨rfl, rfl⟩, h1⟩, h2⟩, rfl⟩, rfl⟩, h3⟩, h4⟩ := h
        have p := se_lset (e := e) (p := px) (p2 := py) (pos := pos) (pos2 := pos2) g h1 h2 (noStar h4) ((allC a g.toGq (.inr g) h4).v h3)
        exact AllC.mkV p (fun S => by rw [evT]; all_goals simp) (fun _ => rfl)
  | .mth fr c m as, sc, X, ex, wx, g, hq, h => by
    have g := hq.resolve_left (by simp [C.qu])
    cases ex <;> first
      | (simp [chkE] at h; done)
      | skip
    rename_i fe es ks pos
    cases fe <;> first
      | (simp [chkE] at h; done)
      | skip
    rename_i oe m2 ap
    simp only [chkE, Bool.and_eq_true, decide_eq_true_eq, List.isEmpty_iff, Bool.not_eq_true'] at h
    obtain ⟨⟨⟨⟨⟨⟨⟨⟨h0, rfl⟩, rfl⟩, h1⟩, h2⟩, k1⟩, k2⟩, h3⟩, h4⟩ := h
    have st := starCs h4
    have p := se_mth (e := e) (fr := fr) (m := m) g h0 h1 st h2 (starCs_any (cs := as) (sc := sc) (fun ex hx => st ex (List.mem_of_mem_tail hx)) _ _) (fun z => by subst z; exact evCs_nil_chk h4) ((allC c g.toGq (.inr g) h3).v k1) ((allA as g.toGq (.inr g) h4).1 k2)
    exact AllC.mkV p (fun S => by rw [evT]; all_goals simp) (fun _ => rfl)
  | .ni cls as, sc, X, ex, wx, g, hq, h => by
    have g := hq.resolve_left (by simp [C.qu])
    cases ex <;> first
      | (simp [chkE] at h; done)
      | skip
    rename_i fe es ks pos
    cases fe <;> first
      | (simp [chkE] at h; done)
      | skip
    rename_i x px
    simp only [chkE, Bool.and_eq_true, decide_eq_true_eq, List.isEmpty_iff, Bool.not_eq_true'] at h
    obtain ⟨⟨⟨⟨⟨rfl, h1⟩, h2⟩, rfl⟩, k2⟩, h4⟩ := h
    have st := starCs h4
    have p := se_ni (e := e) (p := px) (cp := pos) g h1 h2 st (starCs_any (cs := as) (sc := sc) (fun ex hx => st ex (List.mem_of_mem_tail hx)) _ _) (fun z => by subst z; exact evCs_nil_chk h4) ((allA as g.toGq (.inr g) h4).1 k2)
    exact AllC.mkV p (fun S => by rw [evT]; all_goals simp) (fun _ => rfl)
theorem allO : ∀ (c : Oc) {sc : Scope} {X : Cx} {ex : Option Expr} {wx : D → RS → HP → Prop}, Gd T n N sc e wx X → chkO N T.has c sc ex = true → PO X ex (TPc X.K e (T.cfg n) wx c)
  | .no, sc, X, ex, wx, g, h => by
    cases ex with
    | none => exact sp_no
    | some z => simp [chkO] at h
  | .so c, sc, X, ex, wx, g, h => by
    cases ex with
    | none => simp [chkO] at h
    | some z =>
      simp only [chkO, Bool.and_eq_true, Bool.not_eq_true'] at h
      exact sp_so ((allC c g.toGq (.inr g) h.2).v h.1)
theorem allD : ∀ (c : Oc) {sc : Scope} {X : Cx} {es : List Expr} {wx : D → RS → HP → Prop}, Gd T n N sc e wx X → chkD N T.has c sc es = true → PTs X es (TDc X.K e (T.cfg n) wx c)
  | .no, sc, X, es, wx, g, h => by
    cases es with
    | nil => exact pts_no
    | cons a b => simp [chkD] at h
  | .so c, sc, X, es, wx, g, h => by
    match es, h with
    | [], h => simp [chkD] at h
    | [a], h =>
      simp only [chkD] at h
      exact pts_so (allC c g.toGq (.inr g) h).t
    | _ :: _ :: _, h => simp [chkD] at h
theorem allA : ∀ (cs : Cs) {sc : Scope} {X : Cx} {es : List Expr} {wx : D → RS → HP → Prop}, Gq T n N sc e wx X → (cs.qu = true ∨ Gd T n N sc e wx X) → chkCs N T.has cs sc es = true → (cs.hasPk = false → PA X es (TLc X.K e (T.cfg n) wx cs)) ∧ PA X es (TVc X.K e (T.cfg n) wx cs)
  | .nil, sc, X, es, wx, g, hq, h => by
    cases es with
    | nil => exact ⟨fun _ => sl_nil, sv_nil⟩
    | cons a b => simp [chkCs] at h
  | .cons c r, sc, X, es, wx, g, hq, h => by
    have q12 := qand (a := c.qu) (b := r.qu) (by simpa only [Cs.qu] using hq)
    cases es with
    | nil => simp [chkCs] at h
    | cons a b =>
      simp only [chkCs, Bool.and_eq_true] at h
      exact ⟨fun hk => by
        simp only [Cs.hasPk, Bool.or_eq_false_iff] at hk
        exact sl_cons (noStar h.1 _ _) ((allC c g q12.1 h.1).v hk.1) ((allA r g q12.2 h.2).1 hk.2), sv_cons (noStar h.1 _ _) (allC c g q12.1 h.1).o (allA r g q12.2 h.2).2⟩
theorem allB : ∀ (cs : Cs) {sc : Scope} {X : Cx} {es : List Expr} {wx : D → RS → HP → Prop}, Gq T n N sc e wx X → (cs.qu = true ∨ Gd T n N sc e wx X) → cs.hasPk = false → chkCs N T.has cs sc es = true → cs ≠ .nil → ∀ pos : Pos,
    (PE X (.BoolOp .And es pos) (TAndc X.K e (T.cfg n) wx cs) ∧ PW X (.BoolOp .And es pos) (TTAndc X.K e (T.cfg n) wx cs)) ∧ (PE X (.BoolOp .Or es pos) (TOrc X.K e (T.cfg n) wx cs) ∧ PW X (.BoolOp .Or es pos) (TTOrc X.K e (T.cfg n) wx cs))
  | .nil, sc, X, es, wx, g, hq, hk, h, hn, pos => absurd rfl hn
  | .cons c r, sc, X, es, wx, g, hq, hk, h, hn, pos => by
    have q12 := qand (a := c.qu) (b := r.qu) (by simpa only [Cs.qu] using hq)
    cases es with
    | nil => simp [chkCs] at h
    | cons a b =>
      simp only [chkCs, Bool.and_eq_true] at h
      simp only [Cs.hasPk, Bool.or_eq_false_iff] at hk
      have p := allC c g q12.1 h.1
      have pv := p.v hk.1
      cases r with
      | nil =>
        cases b with
        | nil => exact ⟨⟨sand_one pv, stand_one p.t⟩, sor_one pv, stor_one p.t⟩
        | cons a2 b2 => simp [chkCs] at h
      | cons c2 r2 =>
        cases b with
        | nil => simp [chkCs] at h
        | cons a2 b2 =>
          have q := allB (.cons c2 r2) g q12.2 hk.2 h.2 (fun z => by cases z) pos
          exact ⟨⟨sand_cons pv q.1.1, stand_cons p.t q.1.2⟩, sor_cons pv q.2.1, stor_cons p.t q.2.2⟩
theorem allI : ∀ (it : It) {sc : Scope} {X : Cx} {te ie : Expr} {wx : D → RS → HP → Prop}, Gd T n N sc e wx X → chkI N T.has it sc te ie = true → PI X te ie (TIc X.K e (T.cfg n) wx it)
  | .seq c, sc, X, te, ie, wx, g, h => by
    simp only [chkI, Bool.and_eq_true, Bool.not_eq_true'] at h
    exact si_seq ((allC c g.toGq (.inr g) h.2).v h.1)
  | .rng as, sc, X, te, ie, wx, g, h => by
    cases ie <;> first
      | (simp [chkI] at h; done)
      | skip
    rename_i fe es ks pos
    cases fe <;> first
      | (simp [chkI] at h; done)
      | skip
    simp only [chkI, Bool.and_eq_true, decide_eq_true_eq, List.isEmpty_iff] at h
    obtain ⟨⟨⟨⟨rfl, h1⟩, rfl⟩, h2⟩, h3⟩ := h
    exact si_rng g h1 h2 (chkCs_len as sc es h3) (starCs h3) (allA as g.toGq (.inr g) h3).2
  | .enm c, sc, X, te, ie, wx, g, h => by
    cases te <;> first
      | (simp [chkI] at h; done)
      | skip
    cases ie <;> first
      | (simp [chkI] at h; done)
      | skip
    rename_i fe es ks pos
    cases fe <;> first
      | (simp [chkI] at h; done)
      | skip
    match es, h with
    | [a], h =>
      simp only [chkI, Bool.and_eq_true, decide_eq_true_eq, List.isEmpty_iff] at h
      obtain ⟨⟨⟨rfl, h1⟩, rfl⟩, hk, h3⟩ := h
      rw [Bool.not_eq_true'] at hk
      exact si_enm g h1 (fun xs env => noStar h3 xs env) ((allC c g.toGq (.inr g) h3).v hk)
    | [], h => simp [chkI] at h
    | _ :: _ :: _, h => simp [chkI] at h
  | .zip a b, sc, X, te, ie, wx, g, h => by
    cases te <;> first
      | (simp [chkI] at h; done)
      | skip
    cases ie <;> first
      | (simp [chkI] at h; done)
      | skip
    rename_i fe es ks pos
    cases fe <;> first
      | (simp [chkI] at h; done)
      | skip
    match es, h with
    | [ea, eb], h =>
      simp only [chkI, Bool.and_eq_true, decide_eq_true_eq, List.isEmpty_iff] at h
      obtain ⟨⟨⟨rfl, h1⟩, rfl⟩, ⟨⟨k1, k2⟩, h3⟩, h4⟩ := h
      rw [Bool.not_eq_true'] at k1 k2
      exact si_zip g h1 (fun xs env => noStar h3 xs env) (fun xs env => noStar h4 xs env) ((allC a g.toGq (.inr g) h3).v k1) ((allC b g.toGq (.inr g) h4).v k2)
    | [], h => simp [chkI] at h
    | [_], h => simp [chkI] at h
    | _ :: _ :: _ :: _, h => simp [chkI] at h
  | .rev c, sc, X, te, ie, wx, g, h => by
    cases ie <;> first
      | (simp [chkI] at h; done)
      | skip
    rename_i fe es ks pos
    cases fe <;> first
      | (simp [chkI] at h; done)
      | skip
    match es, h with
    | [a], h =>
      simp only [chkI, Bool.and_eq_true, decide_eq_true_eq, List.isEmpty_iff] at h
      obtain ⟨⟨⟨rfl, h1⟩, rfl⟩, hk, h3⟩ := h
      rw [Bool.not_eq_true'] at hk
      exact si_rev g h1 (fun xs env => noStar h3 xs env) ((allC c g.toGq (.inr g) h3).v hk)
    | [], h => simp [chkI] at h
    | _ :: _ :: _, h => simp [chkI] at h
end
end
end RR

namespace RR
open PySem L2 PySem.Spec PyProof.Rows
section
variable {X : Cx} {pins : List (Addr × Obj)} {σ : L2.St} {H : Hp} {s : Shared}
theorem inv_suiteV (I : Inv X pins σ H s) {a : Addr} {oe : Obj} {vs : Array Value} {cls : Value} {d : Option Addr} (ha : s.heap.get? a = some oe) (hz : Zc cls d oe) (hd : oe.data = .fields vs) (na : H a = none) (nL : a ≠ X.env.locals) (n0 : X.s_0.heap.get? a = none) (np : ∀ p ∈ X.pn ++ pins, p.1 ≠ a) :
    Inv (X.suite a (X.pn ++ pins)) [] σ (upd H a (ExV cls d a)) s :=
  ⟨I.ok.suite _ _, I.os, I.bare, ⟨I.base.keep, I.base.slot, fun b o q n hx => by
      rw [upd_ne fun z => by rw [z, n0] at q; cases q]; exact I.base.free b o q n hx, I.base.there, fun b xs q => by
      have q2 := I.base.tups b xs q
      rw [upd_ne (ne_of_none q2 na)]; exact q2, fun b o u q => by
      have q2 := I.base.frzs b o u q
      rw [upd_ne (ne_of_none q2 na)]; exact q2, fun b ps q => by
      obtain ⟨more, q2⟩ := I.base.tbls b ps q
      exact ⟨more, by rw [upd_ne (ne_of_none q2 na)]; exact q2⟩⟩, I.loc, I.cell, by
    rw [upd_ne (Ne.symm nL)]; exact I.free, fun x c e => by
    rw [upd_ne fun z => by
      obtain ⟨v, hc⟩ := I.cell x c e
      obtain ⟨o, h1, h2⟩ : ∃ o, s.heap.get? c = some o ∧ o.data = .cell v := by
        obtain ⟨o, h1, h2⟩ := hc
        exact ⟨o, h1, by first | exact h2 | exact h2.1 | exact h2.2⟩
      rw [z, ha] at h1; cases h1
      rw [hd] at h2; cases h2]
    exact I.freeC x c e, fun p hp => by
    have hp' : p ∈ X.pn ++ pins := by rw [List.append_nil] at hp; exact hp
    obtain ⟨e1, e2, e3⟩ := I.pin p hp'
    exact ⟨e1, by rw [upd_ne (np p hp')]; exact e2, e3⟩, fun b u e => by
    by_cases hb : b = a
    · subst hb; rw [upd_same] at e; cases e; exact exv_ok ha hz hd
    · rw [upd_ne hb] at e
      exact (I.hok b u e).stay (fun c v _ q => q) (fun c q => by rw [upd_ne (ne_of_none q na)]; exact q) fun c xs q => by rw [upd_ne (ne_of_none q na)]; exact q, I.len⟩
theorem inv_unsuiteV {a : Addr} {pn' : List (Addr × Obj)} (I : Inv (X.suite a (X.pn ++ pins)) pn' σ H s) (ok : X.Ok) : Inv X pins σ H s :=
  ⟨ok, I.os, I.bare, I.base, I.loc, I.cell, I.free, I.freeC, fun p hp => I.pin p (List.mem_append_left _ hp), I.hok, I.len⟩
end
open PySem L2
section
variable {K : PySem.W.Frag} {e : En} {w w0 : Wd} {hp hp0 : HP} {S S0 : RS} {σ σ0 : L2.St} {H H0 : Hp}
/-- a name is let go -/
theorem rel_off (r : Rel K e w hp S σ H) (i : Nat) : ∃ w', w'.toGw = w.toGw ∧ Rel K e w' hp (S.set i .un) (σ.set i none) H := by
  have r1 := r.drop [i]
  have r2 := r1.wiped (is := [i]) (fun j hj d => by
    rw [List.mem_singleton] at hj
    subst hj
    simp only [wipeR]
    intro z
    by_cases hl : j < S.length
    · rw [List.getElem?_set_self hl] at z; cases z
    · rw [List.getElem?_eq_none (by simpa using hl)] at z; cases z)
  refine ⟨_, ?_, by simpa only [wipeR, wipe, List.set_set] using r2⟩
  rfl
/-- the heap as a suite finds it, but for what names own -/
def offH (w : Wd) (H : Hp) : Hp := fun b => if (w.ω b).isSome then none else H b
theorem offH_some {w : Wd} {H : Hp} {b : Addr} {o : HO} (h : offH w H b = some o) : w.ω b = none ∧ H b = some o := by
  unfold offH at h
  split at h
  · cases h
  · rename_i q
    exact ⟨by cases z : w.ω b with | none => rfl | some i => rw [z] at q; exact absurd rfl q, h⟩
theorem offH_none {w : Wd} {H : Hp} {b : Addr} (h : offH w H b = none) : (∃ i, w.ω b = some i) ∨ H b = none := by
  unfold offH at h
  split at h
  · rename_i q; exact .inl (Option.isSome_iff_exists.mp q)
  · exact .inr h
theorem rel_mid (r : Rel K e w hp S σ H) : Rel K ⟨w.toGw, offH w H⟩ w hp S σ H :=
  ⟨r.hs, ⟨.refl _, .refl _, fun b o q _ => (offH_some q).2, fun b q => by
      show offH w H b = none
      unfold offH
      split <;> first | rfl | exact q, fun b o q => .inl q, fun a q => .inl q⟩, r.gω, r.oω, r.len, r.val, r.own, r.owned, fun b i q => by
    show offH w H b = none
    unfold offH
    rw [q]; rfl⟩
theorem mid_none (r0 : Rel K e w0 hp0 S0 σ0 H0) {b : Addr} (h : offH w0 H0 b = none) : e.H b = none := by
  rcases offH_none h with ⟨i, q⟩ | q
  · exact r0.eω b i q
  · exact r0.enone q
theorem rel_out (r0 : Rel K e w0 hp0 S0 σ0 H0) (r : Rel K ⟨w0.toGw, offH w0 H0⟩ w hp S σ H) : Rel K e w hp S σ H :=
  ⟨r.hs, ⟨r0.gr.g.trans r.gr.g, r0.gr.o.trans r.gr.o, fun b o q n => by
      have nb : ¬ b ∈ w0.oa.l := fun z => by
        rcases r0.gr.on b z with z | z
        · exact n z
        · rw [q] at z; cases z
      have q0 := r0.gr.h b o q n
      have ω0 : w0.ω b = none := by
        cases z : w0.ω b with
        | none => rfl
        | some i => rw [r0.eω b i z] at q; cases q
      exact r.gr.h b o (by show offH w0 H0 b = _; unfold offH; rw [ω0]; exact q0) nb, fun b q => mid_none r0 (r.gr.i b q), fun b o q => by
      rcases r.gr.gn b o q with z | z | z
      · exact r0.gr.gn b o z
      · exact .inr (.inl (mid_none r0 z))
      · rcases r0.gr.on b z with z | z
        · exact .inr (.inr z)
        · exact .inr (.inl z), fun b q => by
      rcases r.gr.on b q with z | z
      · exact r0.gr.on b z
      · exact .inr (mid_none r0 z)⟩, r.gω, r.oω, r.len, r.val, r.own, r.owned, fun b i q => mid_none r0 (r.eω b i q)⟩
theorem xr_out (r0 : Rel K e w0 hp0 S0 σ0 H0) {x : D} {cls : Value} {dd : Option Addr} {g : Gw} (xr : XR K (offH w0 H0) g x cls dd H) : XR K e.H g x cls dd H := by
  cases x with
  | xn c fs =>
    obtain ⟨C, hc, h1, h⟩ := xr
    refine ⟨C, hc, h1, ?_⟩
    cases dd with
    | none => exact h
    | some d =>
      obtain ⟨fv, a1, a2, a3, a4, a5⟩ := h
      exact ⟨fv, a1, a2, a3, a4, mid_none r0 a5⟩
  | _ => exact (show False from xr).elim
end
end RR

namespace RR
open PySem L2

/-- is a comprehension's value given over to its target: none, not looked into -/
def swB (v : Expr) (y : Str) (py : Pos) (sc : Scope) : Option Bool := match v with
  | .ListComp _ _ scope pos => some (decide (sc.names.lookup y = some .local) && py.line == pos.line && !(scope.names.any fun (n, k) => n == y && (k == .local || k == .cell)))
  | .SetComp .. => none
  | .DictComp .. => none
  | _ => some false
def notComp (v : Expr) : Bool := match v with
  | .ListComp .. => false | .SetComp .. => false | .DictComp .. => false | _ => true
def notTup (v : Expr) : Bool := match v with
  | .Tuple .. => false | _ => true
/-- no statement of the text -/
def S.soft : S → Bool
  | .frz _ => true | .kill _ => true | .hpi _ => true | _ => false
mutual
/-- statements for an except suite: no call, no loop -/
def S.qu : S → Bool
  | .set _ c => c.qu | .ret c => c.qu | .retN => true | .pas => true | .cont => true | .brk => true | .frz _ => true | .kill _ => true | .nev => true
  | .ite c a b => c.qu && (a.qu && b.qu) | .ex c => c.qu
  | _ => false
def Ss.qu : Ss → Bool
  | .nil => true | .cons a r => a.qu && r.qu
end
/-- the name of an except clause -/
def chkX (N : List Str) (sc : Scope) : Option Nat → Option Str → Bool
  | none, none => true
  | some i, some y => decide (N[i]? = some y) && decide (sc.names.lookup y = some .local)
  | _, _ => false
section
variable (N : List Str) (F : Str → Bool) (sc : Scope)
mutual
def chkS : S → Stmt → Bool
  | .set i c, .Assign ts v _ => match ts with
    | [.Name y py] => chkN N sc (fun _ => true) i y && !c.isPk && chkE N F c sc v && (swB v y py sc).isSome
    | _ => false
  | .seto i c, .Assign ts v _ => match ts with
    | [.Name y py] => chkN N sc (fun _ => true) i y && !c.isPk && chkE N F c sc v && (swB v y py sc).isSome
    | _ => false
  | .unp is c, .Assign ts v _ => match ts with
    | [.Tuple es _ _] => chkNs N sc (fun _ => true) is es && !c.isPk && chkE N F c sc v && notTup v && notComp v
    | _ => false
  | .sidx i ix c, .Assign ts v _ => match ts with
    | [.Subscript (.Name y _) ei _] => decide (N[i]? = some y) && visB sc y && okN y && !ix.isPk && !c.isPk && chkE N F ix sc ei && chkE N F c sc v
    | _ => false
  | .aug i op c, .AugAssign (.Name y _) op' v _ => chkN N sc (fun _ => true) i y && decide (op = op') && (decide (op = .Add) || decide (op = .Sub)) && !c.isPk && chkE N F c sc v
  | .app i c, .Expr (.Call (.Attribute (.Name y _) m ap) es ks cp) _ => decide (N[i]? = some y) && visB sc y && okN y && decide (m = "append") && ks.isEmpty && (ap.endLine == cp.line) && (match es with | [e] => !c.isPk && chkE N F c sc e | _ => false)
  | .exl i c, .Expr (.Call (.Attribute (.Name y _) m ap) es ks cp) _ => decide (N[i]? = some y) && visB sc y && okN y && decide (m = "extend") && ks.isEmpty && (ap.endLine == cp.line) && (match es with | [e] => !c.isPk && chkE N F c sc e | _ => false)
  | .pop i, .Expr (.Call (.Attribute (.Name y _) m ap) es ks cp) _ => decide (N[i]? = some y) && visB sc y && okN y && decide (m = "pop") && ks.isEmpty && (ap.endLine == cp.line) && es.isEmpty
  | .nev, _ => true
  | .spop j i ix, .Assign ts v _ => match ts, v with
    | [.Name x _], .Call (.Attribute (.Name y _) m ap) es ks cp => chkN N sc (fun _ => true) j x && decide (N[i]? = some y) && visB sc y && okN y && decide (m = "pop") && ks.isEmpty && (ap.endLine == cp.line) && (match ix, es with
      | .no, [] => true
      | .so c, [e] => !c.isPk && chkE N F c sc e
      | _, _ => false)
    | _, _ => false
  | .hset c ix e, .Assign ts v _ => match ts with
    | [.Subscript oe ei _] => !c.isPk && !ix.isPk && !e.isPk && chkE N F c sc oe && chkE N F ix sc ei && chkE N F e sc v
    | _ => false
  | .fset c f e, .Assign ts v _ => match ts with
    | [.Attribute oe f2 _] => decide (f = f2) && !c.isPk && !e.isPk && chkE N F c sc oe && chkE N F e sc v
    | _ => false
  | .faug c f op i, .AugAssign (.Attribute oe f2 _) op' (.Constant (.int j) _ _) _ => decide (f = f2) && decide (op = op') && (decide (op = .Add) || decide (op = .Sub)) && decide (i = j) && !c.isPk && chkE N F c sc oe
  | .mext c e, .Expr (.Call (.Attribute oe m ap) es ks cp) _ => rcvB oe && decide (m = "extend") && ks.isEmpty && (ap.endLine == cp.line) && !c.isPk && chkE N F c sc oe && (match es with | [ea] => !e.isPk && chkE N F e sc ea | _ => false)
  | .foro tg c b, .For te ie body orelse _ => chkTg N sc (fun _ => true) tg te && !c.isPk && chkE N F c sc ie && chkSs b body && orelse.isEmpty
  | .dset i k c, .Assign ts v _ => match ts with
    | [.Subscript (.Name y _) ei _] => decide (N[i]? = some y) && visB sc y && okN y && !k.isPk && !c.isPk && chkE N F k sc ei && chkE N F c sc v
    | _ => false
  | .ex c, .Expr v _ => !c.isPk && chkE N F c sc v && notComp v
  | .ret c, .Return (some v) _ => !c.isPk && chkE N F c sc v
  | .retf c, .Return (some v) _ => !c.isPk && chkE N F c sc v
  | .retv i, .Return (some (.Name y _)) _ => decide (N[i]? = some y) && visB sc y && okN y
  | .retN, .Return none _ => true
  | .ite c a b, .If ec ea eb _ => chkE N F c sc ec && chkSs a ea && chkSs b eb
  | .for tg it b, .For te ie body orelse _ => chkTg N sc (fun _ => true) tg te && chkI N F it sc te ie && chkSs b body && orelse.isEmpty
  | .whl c b, .While ec body orelse _ => chkE N F c sc ec && chkSs b body && orelse.isEmpty
  | .pas, .Pass _ => true
  | .cont, .Continue _ => true
  | .brk, .Break _ => true
  | .rai cls as, .Raise (some (.Call (.Name x _) es ks _)) none _ => decide (cls = x) && glB sc x && okN x && ks.isEmpty && !es.isEmpty && !as.hasPk && chkCs N F as sc es
  | .try b hs el, .Try body hds orelse fin _ => chkSs b body && chkHs hs hds && !hds.isEmpty && chkSs el orelse && fin.isEmpty
  | _, _ => false
def chkSs : Ss → List Stmt → Bool
  | .nil, ss => ss.isEmpty
  | .cons a r, ss => if a.soft then chkSs r ss else match ss with
    | s :: ss => chkS a s && chkSs r ss
    | [] => false
def chkHs : Hs → List ExceptHandler → Bool
  | .nil, hds => hds.isEmpty
  | .cons cls i b r, hds => match hds with
    | .ExceptHandler (some (.Name x _)) nm sts _ :: hds => decide (cls = x) && glB sc x && okN x && chkX N sc i nm && b.qu && !sts.isEmpty && chkSs b sts && chkHs r hds
    | _ => false
end
end

structure Up (a b : Gw) : Prop where
  g : Sub a.g b.g
  o : Oa a.oa b.oa
theorem Up.refl (a : Gw) : Up a a := ⟨.refl _, .refl _⟩
theorem Up.trans {a b c : Gw} (x : Up a b) (y : Up b c) : Up a c := ⟨x.g.trans y.g, x.o.trans y.o⟩
theorem Ext.up {w w' : Wd} {H H' : Hp} (x : Ext w H w' H') : Up w.toGw w'.toGw := ⟨x.gr.g, x.gr.o⟩
def PostS (K : PySem.W.Frag) (e : En) (wx : D → RS → HP → Prop) (G : Gw) (De : Ends) (r : Re (D × RS) Fl) : Prop := match r with
  | .ok f hp' => (match f with
    | .nx S' => ∀ w' σ' H', Up G w'.toGw → Rel K e w' hp' S' σ' H' → De.nx σ' H'
    | .ct S' => ∀ w' σ' H', Up G w'.toGw → Rel K e w' hp' S' σ' H' → De.ct σ' H'
    | .bk S' => ∀ w' σ' H', Up G w'.toGw → Rel K e w' hp' S' σ' H' → De.bk σ' H'
    | .rt d fr => ∀ v w' S' σ' H', Up G w'.toGw → Rel K e w' hp' S' σ' H' → Res1 K e.H w' H' d fr v → De.rt v H')
  | .exc x hp' => wx x.1 x.2 hp'
  | .stuck => False
def TSc (K : PySem.W.Frag) (e : En) (Γ : Cfg) (wx : D → RS → HP → Prop) (c : S) : TS := fun De σ H => ∃ w hp S, Rel K e w hp S σ H ∧ PostS K e wx w.toGw De (evS Γ c S hp)
def TSsc (K : PySem.W.Frag) (e : En) (Γ : Cfg) (wx : D → RS → HP → Prop) (c : Ss) : TS := fun De σ H => ∃ w hp S, Rel K e w hp S σ H ∧ PostS K e wx w.toGw De (evSs Γ c S hp)
/-- an exception class without an __init__ of its own, raised -/
structure RaiAt (K : PySem.W.Frag) (mg : Str → Option Value) (c : Str) (C : Addr) : Prop where
  at_ : mg c = some (.ref C)
  kp : PySem.W.keepIn K (.ref C) = true
  ex : PySem.W.excIn K C [.type "ValueError", .type "Exception", .type "BaseException", .type "object"] "ValueError.__new__" = true
  sb : PySem.W.subIn K (.ref C) (.type "BaseException") = some true
  ty : PySem.W.typeIn K (.ref C) = some (.type "type")
structure Gf (T : Tb) (n : Nat) (N : List Str) (sc : Scope) (e : En) (wx : D → RS → HP → Prop) (X : Cx) : Prop extends Gd T n N sc e wx X where
  fn : ∀ x, X.fn x = true
  own : PassesOwn (model X.prog X.w) X.A X.env X.xe
  kind : sc.kind = .function
  stk : X.stack = X.env :: X.outer
  frm : X.env.frame = some X.env.locals
  exn : X.ex = []
  rai : ∀ c, T.xfs c = some [] → ∃ C, e.w.oa.cm c = some C ∧ RaiAt X.K X.mg c C
section
variable {K : PySem.W.Frag} {e : En} {wx : D → RS → HP → Prop} {G G1 : Gw} {De : Ends} {r : Re (D × RS) Fl} {α : Type}
theorem PostS.up (x : Up G G1) (h : PostS K e wx G De r) : PostS K e wx G1 De r := by
  cases r with
  | ok f hp' =>
    cases f with
    | nx S' => exact fun w' σ' H' y r => h w' σ' H' (x.trans y) r
    | ct S' => exact fun w' σ' H' y r => h w' σ' H' (x.trans y) r
    | bk S' => exact fun w' σ' H' y r => h w' σ' H' (x.trans y) r
    | rt d fr => exact fun v w' S' σ' H' y r => h v w' S' σ' H' (x.trans y) r
  | _ => exact h
theorem PostS.bind {S : RS} {σ : St} {w : Wd} {H : Hp} {hp : HP} {m : M α} {k : α → MS Fl} (h : PostS K e wx G De (((at_ S m).bind k) hp)) : PostM K e wx S σ w H (fun a hp1 _ _ => PostS K e wx G De (k a hp1)) (m hp) := by
  unfold at_ Mx.tell at h
  simp only [Mx.bind] at h
  cases q : m hp with
  | ok a hp' => rw [q] at h; exact fun w' H' x r' => h
  | exc x hp' => rw [q] at h; exact h
  | stuck => rw [q] at h; exact h
end
section
variable {T : Tb} {n : Nat} {N : List Str} {sc : Scope} {X : Cx} {e : En} {wx : D → RS → HP → Prop}
theorem chkN_loc (g : Gq T n N sc e wx X) {i : Nat} {y : Str} (h : chkN N sc (fun _ => true) i y = true) : X.N[i]? = some y ∧ L2.Loc X.env.scope y := by
  simp only [chkN, Bool.and_eq_true, decide_eq_true_eq] at h
  exact ⟨g.nm h.1.1, g.loc h.1.2⟩
/-- what stands behind a value that is given a name -/
theorem set_post {w : Wd} {S : RS} {σ : St} {H : Hp} {hp : HP} {d : D} {v : V} {i : Nat} {G : Gw} {De : Ends} (r : Rel X.K e w hp S σ H) (rp : Rep X.K w.oa w.g d v) (u : Up G w.toGw)
    (h : PostS X.K e wx G De (.ok (.nx (S.set i (.val d))) hp)) : De.nx (σ.set i (some v)) H := by
  obtain ⟨ω', r'⟩ := r.setVal i rp
  exact h ⟨w.toGw, ω'⟩ _ H u r'
theorem ss_setv {i : Nat} {c : C} {te : TE} (hq : ∀ {σ H Q}, TEc X.K e (T.cfg n) wx c σ H Q → te σ H Q) {De : Ends} {σ : St} {H : Hp} (h : TSc X.K e (T.cfg n) wx (.set i c) De σ H) : tAsg te (gName i) De σ H := by
  refine hq ?_
  obtain ⟨w, hp, S, r, h⟩ := h
  rw [evS] at h
  exact TEc.of r ((PostS.bind h).mono fun d hp1 w1 H1 _ x1 _ h1 r1 v rp => set_post r1 rp x1.up h1)
theorem ss_seto {i : Nat} {c : C} {te : TE} (hq : ∀ {σ H Q}, TEc X.K e (T.cfg n) wx c σ H Q → te σ H Q) {De : Ends} {σ : St} {H : Hp} (h : TSc X.K e (T.cfg n) wx (.seto i c) De σ H) : tAsg te (gName i) De σ H := by
  refine hq ?_
  obtain ⟨w, hp, S, r, h⟩ := h
  rw [evS] at h
  refine ⟨w, hp, S, r, (PostS.bind h).mono fun d hp1 w1 H1 _ x1 r1 h1 v res => ?_⟩
  split at h1
  · rename_i hc
    rw [Bool.and_eq_true] at hc
    rw [hc.1] at res
    obtain ⟨ω', r'⟩ := r1.setOwn i (Res1.base (fr := true) (fun b => r.enone) res)
    exact h1 ⟨w1.toGw, ω'⟩ _ H1 x1.up r'
  · exact (show False from h1).elim
theorem ss_set (g : Gq T n N sc e wx X) (hfn : ∀ x, X.fn x = true) {i : Nat} {c : C} {y : Str} {py pos : Pos} {v : Expr} (hi : chkN N sc (fun _ => true) i y = true) (hs : swapsWith v (some (.Name y py)) pos.line X.env = pure false) (hv : PE X v (TEc X.K e (T.cfg n) wx c)) :
    PS X (.Assign [.Name y py] v pos) (TSc X.K e (T.cfg n) wx (.set i c)) ∧ PS X (.Assign [.Name y py] v pos) (TSc X.K e (T.cfg n) wx (.seto i c)) := by
  obtain ⟨h1, h2⟩ := chkN_loc g hi
  have p := ps_set (by rw [g.hN]; exact g.nd) h1 h2 hv hs (.inl (hfn _))
  exact ⟨imS p fun De σ H h => ss_setv (fun z => z) h, imS p fun De σ H h => ss_seto (fun z => z) h⟩
theorem ss_ret {c : C} {v : Expr} {pos : Pos} (hv : PE X v (TEc X.K e (T.cfg n) wx c)) : PS X (.Return (some v) pos) (TSc X.K e (T.cfg n) wx (.ret c)) :=
  imS (ps_ret hv) fun De σ H ⟨w, hp, S, r, h⟩ => by
    rw [evS] at h
    exact TEc.of r ((PostS.bind h).mono fun d hp1 w1 H1 _ x1 _ h1 r1 v rp => h1 v w1 S σ H1 x1.up r1 rp)
theorem ss_retf {c : C} {v : Expr} {pos : Pos} (hv : PE X v (TEc X.K e (T.cfg n) wx c)) : PS X (.Return (some v) pos) (TSc X.K e (T.cfg n) wx (.retf c)) :=
  imS (ps_ret hv) fun De σ H ⟨w, hp, S, r, h⟩ => by
    rw [evS] at h
    refine ⟨w, hp, S, r, (PostS.bind h).mono fun d hp1 w1 H1 _ x1 r1 h1 v res => ?_⟩
    split at h1
    · rename_i hc
      rw [hc] at res
      exact h1 v w1 S σ H1 x1.up r1 (Res1.base (fr := true) (fun b => r.enone) res)
    · exact (show False from h1).elim
theorem ss_retv (g : Gf T n N sc e wx X) {i : Nat} {y : Str} {py pos : Pos} (h1 : N[i]? = some y) (h2 : visB sc y = true) (h3 : okN y = true) : PS X (.Return (some (.Name y py)) pos) (TSc X.K e (T.cfg n) wx (.retv i)) :=
  imS (ps_ret (pe_var (g.nm h1) (g.vis h2) (okN1 h3) (okN2 h3))) fun De σ H ⟨w, hp, S, r, h⟩ => by
    rw [evS] at h
    unfold retS at h
    cases q : S[i]? with
    | none => rw [q] at h; exact (show False from h).elim
    | some sl =>
      rw [q] at h
      cases sl with
      | own d =>
        obtain ⟨w', v, ew, e1, r1, fr⟩ := r.moved q
        exact ⟨v, e1, h v w' _ σ H (by rw [ew]; exact .refl _) r1 fr⟩
      | _ => exact (show False from h).elim
theorem ss_ex {c : C} {v : Expr} {pos : Pos} (hs : swapsWith v none pos.line X.env = pure false) (hv : PE X v (TEc X.K e (T.cfg n) wx c)) : PS X (.Expr v pos) (TSc X.K e (T.cfg n) wx (.ex c)) :=
  imS (ps_expr hv hs) fun De σ H ⟨w, hp, S, r, h⟩ => by
    rw [evS] at h
    exact TEc.of r ((PostS.bind h).mono fun d hp1 w1 H1 _ x1 _ h1 r1 v rp => h1 w1 σ H1 x1.up r1)
theorem ss_unp (g : Gf T n N sc e wx X) {is : List Nat} {c : C} {es : List Expr} {k : Nat} {tp pos : Pos} {v : Expr} (hi : chkNs N sc (fun _ => true) is es = true) (h1 : notTup v = true) (h2 : notComp v = true) (hv : PE X v (TEc X.K e (T.cfg n) wx c)) :
    PS X (.Assign [.Tuple es k tp] v pos) (TSc X.K e (T.cfg n) wx (.unp is c)) := by
  have hg : PG X (.Tuple es k tp) (gTgt X.K (.tp is)) := pg_tgt g.toGd (fn := fun _ => true) (fun x _ => g.fn x) (by rw [chkTg]; exact hi)
  refine imS (ps_asg hv hg (by cases v <;> first | rfl | cases h2) (by cases v <;> first | rfl | cases h1)) fun De σ H ⟨w, hp, S, r, h⟩ => ?_
  rw [evS] at h
  refine TEc.of r ((PostS.bind h).mono fun d hp1 w1 H1 _ x1 _ h1 r1 v rp => ?_)
  cases qa : asg (.tp is) d S with
  | none => rw [qa] at h1; exact (show False from h1).elim
  | some S' =>
    rw [qa] at h1
    exact tgt_ok r1 rp qa fun σ' ω' _ r' _ _ => h1 ⟨w1.toGw, ω'⟩ σ' H1 x1.up r'
theorem ss_sidx (g : Gf T n N sc e wx X) {i : Nat} {ix c : C} {y : Str} {py sp pos : Pos} {ei v : Expr} (h1 : N[i]? = some y) (h2 : visB sc y = true) (h3 : okN y = true) (hns : PlainIx ei) (hx : PE X ei (TEc X.K e (T.cfg n) wx ix)) (hv : PE X v (TEc X.K e (T.cfg n) wx c))
    (ha : ∀ u, assign (.Subscript (.Name y py) ei sp) X.env u = (do
      let ov ← holding [u] (eval (.Name y py) X.env)
      let iv ← holding [u, ov] (eval ei X.env)
      standAt sp
      holding [u, ov, iv] (setItem ov iv u)
      release [u, ov, iv] [])) :
    PS X (.Assign [.Subscript (.Name y py) ei sp] v pos) (TSc X.K e (T.cfg n) wx (.sidx i ix c)) := by
  refine imS (ps_asg hv (pg_sub (pe_var (g.nm h1) (g.vis h2) (okN1 h3) (okN2 h3)) hx set_list ha) (by cases v <;> rfl) (by cases v <;> rfl)) fun De σ H ⟨w, hp, S, r, h⟩ => ?_
  rw [evS] at h
  refine TEc.of r ((PostS.bind h).mono fun d hp1 w1 H1 _ x1 _ h1 r1 v rp => ?_)
  unfold ownAt at h1
  cases q : S[i]? with
  | none => rw [q] at h1; exact (show False from h1).elim
  | some sl =>
    rw [q] at h1
    cases sl with
    | own d0 =>
      cases d0 with
      | lst xs =>
        obtain ⟨p, o, e1, _⟩ := r1.own i _ q
        refine ⟨.ref p, e1, TEc.of r1 ((PostS.bind h1).mono fun k hp2 w2 H2 _ x2 _ h2 r2 u rp2 => ?_)⟩
        unfold setS at h2
        rw [q] at h2
        cases k with
        | int j =>
          simp only at h2
          cases hm : ixN xs.length j with
          | none => rw [hm] at h2; exact (show False from h2).elim
          | some m =>
            rw [hm] at h2
            obtain ⟨p', o', e2, e3, e4, e5⟩ := r2.own i _ q
            rw [e1] at e2
            cases e2
            obtain ⟨vs, rfl, e6⟩ := e4
            rw [rp2.intE]
            refine ⟨p, vs, j, m, rfl, rfl, e3, by rw [← e6.length]; exact hm, ?_⟩
            exact h2 w2 σ _ (x1.up.trans x2.up) (r2.setCont q e1 ⟨_, rfl, e6.set (x2.rep rp) m⟩)
        | _ => exact (show False from h2).elim
      | _ => exact (show False from h1).elim
    | _ => exact (show False from h1).elim
theorem aug_read {i : Nat} {op : Operator} {c : C} {De : Ends} {σ : St} {H : Hp} {ti : TIp} (h : TSc X.K e (T.cfg n) wx (.aug i op c) De σ H)
    (ha : ∀ (a b : Int) Q H', op = .Add → Q (V.int (a + b)) H' → ti (.int a) (.int b) H' Q) (hb : ∀ (a b : Int) Q H', op = .Sub → Q (V.int (a - b)) H' → ti (.int a) (.int b) H' Q) : tAug i (TEc X.K e (T.cfg n) wx c) ti De σ H := by
  obtain ⟨w, hp, S, r, h⟩ := h
  rw [evS] at h
  unfold valAt at h
  cases q : S[i]? with
  | none => rw [q] at h; exact (show False from h).elim
  | some sl =>
    rw [q] at h
    cases sl with
    | val d =>
      obtain ⟨x, e1, e2⟩ := r.val i d q
      refine ⟨x, e1, TEc.of r ((PostS.bind h).mono fun y hp1 w1 H1 _ x1 _ h1 r1 v rp => ?_)⟩
      unfold augS at h1
      rw [q] at h1
      cases d with
      | int a =>
        cases y with
        | int b =>
          rw [rp.intE]
          rw [e2.intE] at e1 ⊢
          cases op <;> first
            | exact (show False from h1).elim
            | skip
          · exact ha _ _ _ _ rfl (set_post r1 (.int (a + b)) x1.up h1)
          · exact hb _ _ _ _ rfl (set_post r1 (.int (a - b)) x1.up h1)
        | _ => cases op <;> exact (show False from h1).elim
      | _ => cases op <;> exact (show False from h1).elim
    | _ => exact (show False from h).elim
theorem ss_aug (g : Gf T n N sc e wx X) {i : Nat} {op : Operator} {c : C} {y : Str} {py pos : Pos} {v : Expr} (hi : chkN N sc (fun _ => true) i y = true) (ho : (decide (op = .Add) || decide (op = .Sub)) = true) (hv : PE X v (TEc X.K e (T.cfg n) wx c)) :
    PS X (.AugAssign (.Name y py) op v pos) (TSc X.K e (T.cfg n) wx (.aug i op c)) := by
  obtain ⟨h1, h2⟩ := chkN_loc g.toGq hi
  simp only [Bool.or_eq_true, decide_eq_true_eq] at ho
  rcases ho with rfl | rfl
  · exact imS (ps_aug (by rw [g.hN]; exact g.nd) h1 h2 hv ip_add (.inl (g.fn _))) fun De σ H h => aug_read h (fun a b Q H' _ q => ⟨a, b, rfl, rfl, q⟩) (fun _ _ _ _ z => by cases z)
  · exact imS (ps_aug (by rw [g.hN]; exact g.nd) h1 h2 hv ip_sub (.inl (g.fn _))) fun De σ H h => aug_read h (fun _ _ _ _ z => by cases z) (fun a b Q H' _ q => ⟨a, b, rfl, rfl, q⟩)
theorem ss_app (g : Gf T n N sc e wx X) {i : Nat} {c : C} {y : Str} {py ap cp pos : Pos} {ex : Expr} (h1 : N[i]? = some y) (h2 : visB sc y = true) (h3 : okN y = true) (hl : (ap.endLine == cp.line) = true) (hs : ∀ xs env, starEach (ex :: xs) env = (false, eval ex env) :: starEach xs env) (hv : PE X ex (TEc X.K e (T.cfg n) wx c)) :
    PS X (.Expr (.Call (.Attribute (.Name y py) "append" ap) [ex] [] cp) pos) (TSc X.K e (T.cfg n) wx (.app i c)) := by
  refine imS (ps_expr (pe_bm PySem.F.plainAttrs_list PySem.F.slot_list_append PySem.F.type_list_append mt_append (pe_var (g.nm h1) (g.vis h2) (okN1 h3) (okN2 h3)) (pa_cons hv pa_nil (hs _ _)) (by rfl) (by rw [hs]; rfl) hl (hs _ _) (by rfl))) fun De σ H ⟨w, hp, S, r, h⟩ => ?_
  rw [evS] at h
  unfold ownAt at h
  cases q : S[i]? with
  | none => rw [q] at h; exact (show False from h).elim
  | some sl =>
    rw [q] at h
    cases sl with
    | own d0 =>
      cases d0 with
      | lst xs =>
        obtain ⟨p, o, e1, e2, e3, _⟩ := r.own i _ q
        obtain ⟨vs0, rfl, _⟩ := e3
        refine ⟨.ref p, e1, .inl ⟨rfl, vs0, .inl (.inl e2)⟩, TEc.of r ((PostS.bind h).mono fun d hp1 w1 H1 _ x1 _ h1 r1 v rp => ?_)⟩
        unfold appS at h1
        rw [q] at h1
        simp only at h1
        split at h1
        · rename_i hln
          obtain ⟨p', o', f1, f2, f3, f4⟩ := r1.own i _ q
          rw [e1] at f1
          cases f1
          obtain ⟨vs, rfl, f5⟩ := f3
          refine ⟨p, vs, v, rfl, rfl, f2, ?_, ?_⟩
          · rw [← f5.length]
            have : LINE = sizeLine := line_eq
            omega
          · exact h1 w1 σ _ x1.up (r1.setCont q e1 ⟨_, rfl, f5.append (.cons rp .nil)⟩)
        · exact (show False from h1).elim
      | _ => exact (show False from h).elim
    | _ => exact (show False from h).elim
theorem ss_exl (g : Gf T n N sc e wx X) {i : Nat} {c : C} {y : Str} {py ap cp pos : Pos} {ex : Expr} (h1 : N[i]? = some y) (h2 : visB sc y = true) (h3 : okN y = true) (hl : (ap.endLine == cp.line) = true) (hs : ∀ xs env, starEach (ex :: xs) env = (false, eval ex env) :: starEach xs env) (hv : PE X ex (TEc X.K e (T.cfg n) wx c)) :
    PS X (.Expr (.Call (.Attribute (.Name y py) "extend" ap) [ex] [] cp) pos) (TSc X.K e (T.cfg n) wx (.exl i c)) := by
  refine imS (ps_expr (pe_bm PySem.F.plainAttrs_list PySem.F.slot_list_extend PySem.F.type_list_extend mt_extend (pe_var (g.nm h1) (g.vis h2) (okN1 h3) (okN2 h3)) (pa_cons hv pa_nil (hs _ _)) (by rfl) (by rw [hs]; rfl) hl (hs _ _) (by rfl))) fun De σ H ⟨w, hp, S, r, h⟩ => ?_
  rw [evS] at h
  unfold ownAt at h
  cases q : S[i]? with
  | none => rw [q] at h; exact (show False from h).elim
  | some sl =>
    rw [q] at h
    cases sl with
    | own d0 =>
      cases d0 with
      | lst xs =>
        obtain ⟨p, o, e1, e2, e3, _⟩ := r.own i _ q
        obtain ⟨vs0, rfl, _⟩ := e3
        refine ⟨.ref p, e1, .inl ⟨rfl, vs0, .inl (.inl e2)⟩, w, hp, S, r, (PostS.bind h).mono fun d hp1 w1 H1 _ x1 r1 h1 v res => ?_⟩
        unfold exlS at h1
        rw [q] at h1
        cases d with
        | lst ys =>
          simp only at h1
          split at h1
          · rename_i hln
            rw [Bool.and_eq_true, decide_eq_true_eq] at hln
            rw [hln.1] at res
            obtain ⟨p2, o2, rfl, z1, z2, z3, z4, z5, z6⟩ := res
            obtain ⟨vs2, rfl, f6⟩ := z2
            obtain ⟨p', o', f1, f2, f3, f4⟩ := r1.own i _ q
            rw [e1] at f1
            cases f1
            obtain ⟨vs, rfl, f5⟩ := f3
            refine ⟨p, p2, vs, vs2, rfl, rfl, f2, z1, ?_, ?_⟩
            · rw [← f5.length, ← f6.length]
              have : LINE = sizeLine := line_eq
              omega
            · exact h1 w1 σ _ x1.up (r1.setCont q e1 ⟨_, rfl, f5.append f6⟩)
          · exact (show False from h1).elim
        | _ => exact (show False from h1).elim
      | _ => exact (show False from h).elim
    | _ => exact (show False from h).elim
theorem ss_pop (g : Gf T n N sc e wx X) {i : Nat} {y : Str} {py ap cp pos : Pos} (h1 : N[i]? = some y) (h2 : visB sc y = true) (h3 : okN y = true) (hl : (ap.endLine == cp.line) = true) :
    PS X (.Expr (.Call (.Attribute (.Name y py) "pop" ap) [] [] cp) pos) (TSc X.K e (T.cfg n) wx (.pop i)) := by
  refine imS (ps_expr (pe_bm0 PySem.F.plainAttrs_list PySem.F.slot_list_pop PySem.F.type_list_pop mt_pop (pe_var (g.nm h1) (g.vis h2) (okN1 h3) (okN2 h3)) (by rfl) hl)) fun De σ H ⟨w, hp, S, r, h⟩ => ?_
  rw [evS] at h
  unfold popS at h
  cases q : S[i]? with
  | none => rw [q] at h; exact (show False from h).elim
  | some sl =>
    rw [q] at h
    cases sl with
    | own d0 =>
      cases d0 with
      | lst xs =>
        simp only at h
        split at h
        · exact (show False from h).elim
        · rename_i hne
          obtain ⟨p, o, f1, f2, f3, f4⟩ := r.own i _ q
          obtain ⟨vs, rfl, f5⟩ := f3
          have hl := f5.length
          have hpos : 0 < xs.length := List.length_pos_iff.mpr hne
          have hlt : vs.length - 1 < vs.length := by omega
          refine ⟨.ref p, f1, .inl ⟨rfl, vs, .inl (.inl f2)⟩, p, vs, vs[vs.length - 1], rfl, rfl, f2, List.getElem?_eq_getElem hlt, ?_⟩
          have f6 : Reps X.K w.oa w.g xs.dropLast vs.dropLast := by
            rw [List.dropLast_eq_take, List.dropLast_eq_take, hl]
            exact f5.take _
          exact h w σ _ (.refl _) (r.setCont q f1 ⟨_, rfl, f6⟩)
      | _ => exact (show False from h).elim
    | _ => exact (show False from h).elim
theorem ss_hset {c ix ec : C} {oe ei v : Expr} {sp pos : Pos} (hns : PlainIx ei) (ho : PE X oe (TEc X.K e (T.cfg n) wx c)) (hx : PE X ei (TEc X.K e (T.cfg n) wx ix)) (hv : PE X v (TEc X.K e (T.cfg n) wx ec))
    (ha : ∀ u, assign (.Subscript oe ei sp) X.env u = (do
      let ov ← holding [u] (eval oe X.env)
      let iv ← holding [u, ov] (eval ei X.env)
      standAt sp
      holding [u, ov, iv] (setItem ov iv u)
      release [u, ov, iv] [])) :
    PS X (.Assign [.Subscript oe ei sp] v pos) (TSc X.K e (T.cfg n) wx (.hset c ix ec)) := by
  refine imS (ps_asg hv (pg_sub ho hx set_list ha) (by cases v <;> rfl) (by cases v <;> rfl)) fun De σ H ⟨w, hp, S, r, h⟩ => ?_
  rw [evS] at h
  refine TEc.of r ((PostS.bind h).mono fun d hp1 w1 H1 _ x1 _ h1 r1 v rp => ?_)
  refine TEc.of r1 ((PostS.bind h1).mono fun xo hp2 w2 H2 _ x2 _ h2 r2 uo rpo => ?_)
  refine TEc.of r2 ((PostS.bind h2).mono fun k hp3 w3 H3 _ x3 _ h3 r3 uk rpk => ?_)
  simp only [hsetS] at h3
  cases xo with
  | obj m =>
    cases k with
    | int j =>
      simp only at h3
      cases q : hp3[m]? with
      | none => rw [q] at h3; exact (show False from h3).elim
      | some ob =>
        rw [q] at h3
        cases ob with
        | lst ds =>
          simp only at h3
          cases hm : ixN ds.length j with
          | none => rw [hm] at h3; exact (show False from h3).elim
          | some k2 =>
            rw [hm] at h3
            have rpo := x3.rep rpo
            cases rpo with
            | obj q1 =>
              obtain ⟨vs, e1, e2⟩ := r3.hs.oR m _ _ q q1
              rw [rpk.intE]
              refine ⟨_, vs, j, k2, rfl, rfl, e1, by rw [← e2.length]; exact hm, ?_⟩
              obtain ⟨r4, x4⟩ := r3.setOb (ob' := .lst (ds.set k2 d)) (o' := .lst (vs.set k2 v)) q q1 (fun z => by cases z) e1 (fun a z => by cases z) ⟨_, upd_same, e2.set (x3.rep (x2.rep rp)) k2⟩
              exact h3 w3 σ _ (x1.up.trans (x2.up.trans x3.up)) r4
        | _ => exact (show False from h3).elim
    | _ => exact (show False from h3).elim
  | _ => cases k <;> exact (show False from h3).elim
theorem KReps.put {K : PySem.W.Frag} {oa : Os} {G : Hp} {k : Key} {d : D} {v : V} (h : Rep K oa G d v) {ds : List (Key × D)} {vs : List (Key × V)} (r : KReps K oa G ds vs) : KReps K oa G (RR.putD ds k d) (L2.putK vs k v) := by
  have ha : ∀ {ds : List (Key × D)} {vs : List (Key × V)}, KReps K oa G ds vs → (ds.any fun p => decide (p.1 = k)) = (vs.any fun p => decide (p.1 = k)) := by
    intro ds vs r
    induction ds generalizing vs with
    | nil => cases r; rfl
    | cons a b ih => cases r with | cons x y => simp only [List.any_cons, ih y]
  have hm : ∀ {ds : List (Key × D)} {vs : List (Key × V)}, KReps K oa G ds vs → KReps K oa G (ds.map fun p => if p.1 = k then (p.1, d) else p) (vs.map fun p => if p.1 = k then (p.1, v) else p) := by
    intro ds vs r
    induction ds generalizing vs with
    | nil => cases r; exact .nil
    | cons a b ih =>
      cases r with
      | cons x y =>
        simp only [List.map_cons]
        split
        · exact .cons h (ih y)
        · exact .cons x (ih y)
  have hc : ∀ {ds : List (Key × D)} {vs : List (Key × V)}, KReps K oa G ds vs → KReps K oa G (ds ++ [(k, d)]) (vs ++ [(k, v)]) := by
    intro ds vs r
    induction ds generalizing vs with
    | nil => cases r; exact .cons h .nil
    | cons a b ih => cases r with | cons x y => exact .cons x (ih y)
  unfold RR.putD L2.putK
  rw [ha r]
  split
  · exact hm r
  · exact hc r
theorem KReps.length {K : PySem.W.Frag} {oa : Os} {G : Hp} : ∀ {ds : List (Key × D)} {vs : List (Key × V)}, KReps K oa G ds vs → ds.length = vs.length
  | _, _, .nil => rfl
  | _, _, .cons _ r => by rw [List.length_cons, List.length_cons, KReps.length r]
theorem ss_dset (g : Gf T n N sc e wx X) {i : Nat} {k c : C} {y : Str} {py sp pos : Pos} {ei v : Expr} (h1 : N[i]? = some y) (h2 : visB sc y = true) (h3 : okN y = true) (hk : PE X ei (TEc X.K e (T.cfg n) wx k)) (hv : PE X v (TEc X.K e (T.cfg n) wx c)) :
    PS X (.Assign [.Subscript (.Name y py) ei sp] v pos) (TSc X.K e (T.cfg n) wx (.dset i k c)) := by
  refine imS (ps_dput (by have := g.units; omega) (pe_var (g.nm h1) (g.vis h2) (okN1 h3) (okN2 h3)) hk hv (by cases v <;> rfl)) fun De σ H ⟨w, hp, S, r, h⟩ => ?_
  rw [evS] at h
  refine TEc.of r ((PostS.bind h).mono fun d hp1 w1 H1 _ x1 _ h1 r1 v rp => ?_)
  unfold ownDAt at h1
  cases q : S[i]? with
  | none => rw [q] at h1; exact (show False from h1).elim
  | some sl =>
    rw [q] at h1
    cases sl with
    | own d0 =>
      cases d0 with
      | dic kvs =>
        obtain ⟨p, o, e1, _⟩ := r1.own i _ q
        refine ⟨.ref p, e1, TEc.of r1 ((PostS.bind h1).mono fun y hp2 w2 H2 _ x2 _ h2 r2 u rp2 => ?_)⟩
        unfold dsetS at h2
        rw [q] at h2
        cases qk : keyD y with
        | none => rw [qk] at h2; exact (show False from h2).elim
        | some key =>
          rw [qk] at h2
          simp only at h2
          split at h2
          · rename_i hlen
            obtain ⟨p', o', e2, e3, e4, e5⟩ := r2.own i _ q
            rw [e1] at e2
            cases e2
            obtain ⟨vs, rfl, e6⟩ := e4
            rw [key_of rp2 qk]
            refine ⟨p, _, rfl, DPut.k e3 (by rw [← e6.length, ← line_eq]; exact hlen), ?_⟩
            exact h2 w2 σ _ (x1.up.trans x2.up) (r2.setCont q e1 ⟨_, rfl, e6.put (x2.rep rp)⟩)
          · exact (show False from h2).elim
      | _ => exact (show False from h1).elim
    | _ => exact (show False from h1).elim
/-- j = i.pop(..) -/
theorem spop_fin {j i : Nat} {o : Option Int} {De : Ends} {σ : St} {H : Hp} {hp : HP} {w : Wd} {S : RS} {G : Gw} (r : Rel X.K e w hp S σ H) (u : Up G w.toGw) (h : PostS X.K e wx G De (spopS j i o S hp)) :
    ∃ p vs ds rr ds', σ[i]? = some (some (.ref p)) ∧ H p = some (.lst vs) ∧ Reps X.K w.oa w.g ds vs ∧ mutD "pop" ds (popA o) = some (rr, ds') ∧ ∀ v vs', Rep X.K w.oa w.g rr v → Reps X.K w.oa w.g ds' vs' → De.nx (σ.set j (some v)) (upd H p (.lst vs')) := by
  unfold spopS at h
  cases q : S[i]? with
  | none => rw [q] at h; exact (show False from h).elim
  | some sl =>
    rw [q] at h
    cases sl with
    | own d0 =>
      cases d0 with
      | lst xs =>
        simp only at h
        cases qm : mutD "pop" xs (popA o) with
        | none => rw [qm] at h; exact (show False from h).elim
        | some rd =>
          obtain ⟨rr, ds'⟩ := rd
          rw [qm] at h
          simp only at h
          split at h
          · rename_i hne
            rw [decide_eq_true_eq] at hne
            obtain ⟨p, o', e1, e2, e3, e4⟩ := r.own i _ q
            obtain ⟨vs, rfl, e5⟩ := e3
            refine ⟨p, vs, xs, rr, ds', e1, e2, e5, qm, fun v vs' rv rvs => ?_⟩
            have r2 := r.setCont (d' := .lst ds') (o' := .lst vs') q e1 ⟨_, rfl, rvs⟩
            obtain ⟨ω', r3⟩ := r2.setVal j rv
            exact h ⟨w.toGw, ω'⟩ _ _ u r3
          · exact (show False from h).elim
      | _ => exact (show False from h).elim
    | _ => exact (show False from h).elim
theorem ss_spop0 (g : Gf T n N sc e wx X) {j i : Nat} {x y : Str} {px py ap cp pos : Pos} (hj : chkN N sc (fun _ => true) j x = true) (h1 : N[i]? = some y) (h2 : visB sc y = true) (h3 : okN y = true) (hl : (ap.endLine == cp.line) = true) :
    PS X (.Assign [.Name x px] (.Call (.Attribute (.Name y py) "pop" ap) [] [] cp) pos) (TSc X.K e (T.cfg n) wx (.spop j i .no)) := by
  obtain ⟨k1, k2⟩ := chkN_loc g.toGq hj
  refine imS (ps_set (by rw [g.hN]; exact g.nd) k1 k2 (pe_bm0 PySem.F.plainAttrs_list PySem.F.slot_list_pop PySem.F.type_list_pop mu_pop (pe_var (g.nm h1) (g.vis h2) (okN1 h3) (okN2 h3)) (by rfl) hl) (by rfl) (.inl (g.fn _))) fun De σ H ⟨w, hp, S, r, h⟩ => ?_
  rw [evS] at h
  have h' : PostS X.K e wx w.toGw De (spopS j i none S hp) := by
    unfold ownAt at h
    cases q : S[i]? with
    | none => rw [q] at h; exact (show False from h).elim
    | some sl =>
      rw [q] at h
      cases sl with
      | own d0 =>
        cases d0 with
        | lst xs => simpa only [evOc, oiM, Mx.pure_bind, at_, Mx.tell_pure] using h
        | _ => exact (show False from h).elim
      | _ => exact (show False from h).elim
  obtain ⟨p, vs, ds, rr, ds', e1, e2, e3, e4, k⟩ := spop_fin r (.refl _) h'
  exact ⟨.ref p, e1, .inl ⟨rfl, vs, .inl (.inl e2)⟩, w.oa, w.g, p, vs, ds, [], rr, ds', rfl, e2, e3, .nil, e4, k⟩
theorem ss_spop1 (g : Gf T n N sc e wx X) {j i : Nat} {c : C} {x y : Str} {px py ap cp pos : Pos} {ex : Expr} (hj : chkN N sc (fun _ => true) j x = true) (h1 : N[i]? = some y) (h2 : visB sc y = true) (h3 : okN y = true) (hl : (ap.endLine == cp.line) = true) (hs : ∀ xs env, starEach (ex :: xs) env = (false, eval ex env) :: starEach xs env) (hc : PE X ex (TEc X.K e (T.cfg n) wx c)) :
    PS X (.Assign [.Name x px] (.Call (.Attribute (.Name y py) "pop" ap) [ex] [] cp) pos) (TSc X.K e (T.cfg n) wx (.spop j i (.so c))) := by
  obtain ⟨k1, k2⟩ := chkN_loc g.toGq hj
  refine imS (ps_set (by rw [g.hN]; exact g.nd) k1 k2 (pe_bm PySem.F.plainAttrs_list PySem.F.slot_list_pop PySem.F.type_list_pop mu_pop (pe_var (g.nm h1) (g.vis h2) (okN1 h3) (okN2 h3)) (pa_cons hc pa_nil (hs _ _)) (by rfl) (by rw [hs]; rfl) hl (hs _ _) (by rfl)) (by rfl) (.inl (g.fn _))) fun De σ H ⟨w, hp, S, r, h⟩ => ?_
  rw [evS] at h
  unfold ownAt at h
  cases q : S[i]? with
  | none => rw [q] at h; exact (show False from h).elim
  | some sl =>
    rw [q] at h
    cases sl with
    | own d0 =>
      cases d0 with
      | lst xs =>
        obtain ⟨p, o, e1, e2, e3, _⟩ := r.own i _ q
        obtain ⟨vs0, rfl, _⟩ := e3
        simp only [evOc] at h
        refine ⟨.ref p, e1, .inl ⟨rfl, vs0, .inl (.inl e2)⟩, TEc.of r (Q := fun u H1 => rMu X.K "pop" (.ref p) [u] H1 _) ?_⟩
        have h2 := PostS.bind (σ := σ) (w := w) (H := H) h
        refine PostM.mono (PostM.bind h2) fun d hp1 w1 H1 _ x1 _ z r1 v rp => ?_
        cases d with
        | int k =>
          have z := z w1 H1 (.refl _ _) r1
          obtain ⟨p', vs, ds, rr, ds', f1, f2, f3, f4, k3⟩ := spop_fin r1 x1.up z
          rw [e1] at f1
          cases f1
          exact ⟨w1.oa, w1.g, p, vs, ds, [.int k], rr, ds', rfl, f2, f3, .cons rp .nil, f4, k3⟩
        | _ => exact (show False from z).elim
      | _ => exact (show False from h).elim
    | _ => exact (show False from h).elim
theorem ss_ite {c : C} {a b : Ss} {ec : Expr} {ea eb : List Stmt} {pos : Pos} (hc : PT X ec (TTc X.K e (T.cfg n) wx c)) (ha : PSs X ea (TSsc X.K e (T.cfg n) wx a)) (hb : PSs X eb (TSsc X.K e (T.cfg n) wx b)) : PS X (.If ec ea eb pos) (TSc X.K e (T.cfg n) wx (.ite c a b)) :=
  imS (ps_if hc ha hb) fun De σ H ⟨w, hp, S, r, h⟩ => by
    rw [evS] at h
    refine ⟨w, hp, S, r, (PostS.bind h).mono fun k hp1 w1 H1 _ x1 r1 h1 => ?_⟩
    cases k with
    | true => exact ⟨w1, hp1, S, r1, PostS.up x1.up h1⟩
    | false => exact ⟨w1, hp1, S, r1, PostS.up x1.up h1⟩
theorem ss_whl (g : Gf T n N sc e wx X) {c : C} {b : Ss} {ec : Expr} {eb : List Stmt} {pos : Pos} (hc : PT X ec (TTc X.K e (T.cfg n) wx c)) (hb : PSs X eb (TSsc X.K e (T.cfg n) wx b)) : PS X (.While ec eb [] pos) (TSc X.K e (T.cfg n) wx (.whl c b)) :=
  imS (ps_while g.own hc hb) fun De σ H ⟨w, hp, S, r, h⟩ => by
    rw [evS] at h
    have hne : whl (evT (T.cfg n) c) (evSs (T.cfg n) b) S hp ≠ .stuck := fun z => by rw [z] at h; exact h
    obtain ⟨k, hk⟩ := whl_ex hne
    rw [← hk] at h
    refine ⟨fun m σ H => ∃ w2 hp2 S2, Rel X.K e w2 hp2 S2 σ H ∧ Up w.toGw w2.toGw ∧ PostS X.K e wx w.toGw De (whlN (evT (T.cfg n) c) (evSs (T.cfg n) b) m S2 hp2), ⟨k, w, hp, S, r, .refl _, h⟩, ?_⟩
    rintro m σ H ⟨w2, hp2, S2, r2, u2, h2⟩
    cases m with
    | zero => exact (show False from h2).elim
    | succ m =>
      rw [whlN] at h2
      refine ⟨w2, hp2, S2, r2, (PostS.bind h2).mono fun k hp3 w3 H3 _ x3 r3 h3 => ?_⟩
      cases k with
      | true =>
        rw [if_pos rfl]
        refine ⟨fun σ' H' => ∃ w2 hp2 S2, Rel X.K e w2 hp2 S2 σ' H' ∧ Up w.toGw w2.toGw ∧ PostS X.K e wx w.toGw De (whlN (evT (T.cfg n) c) (evSs (T.cfg n) b) m S2 hp2), fun σ' H' z => ⟨m, Nat.lt_succ_self m, z⟩, w3, hp3, S2, r3, ?_⟩
        have u3 := u2.trans x3.up
        simp only at h3
        cases q2 : evSs (T.cfg n) b S2 hp3 with
        | ok f hp4 =>
          rw [bind_ok q2] at h3
          cases f with
          | nx S4 => exact fun w4 σ4 H4 x4 r4 => ⟨w4, hp4, S4, r4, u3.trans x4, h3⟩
          | ct S4 => exact fun w4 σ4 H4 x4 r4 => ⟨w4, hp4, S4, r4, u3.trans x4, h3⟩
          | bk S4 => exact fun w4 σ4 H4 x4 r4 => h3 w4 σ4 H4 (u3.trans x4) r4
          | rt d fr => exact fun v w4 S4 σ4 H4 x4 r4 => h3 v w4 S4 σ4 H4 (u3.trans x4) r4
        | exc x hp4 => rw [bind_exc q2] at h3; exact h3
        | stuck => rw [bind_st q2] at h3; exact h3
      | false =>
        rw [if_neg Bool.false_ne_true]
        exact h3 w3 σ H3 (u2.trans x3.up) r3
theorem ss_for (g : Gf T n N sc e wx X) {t : Tg} {it : It} {b : Ss} {te ie : Expr} {eb : List Stmt} {pos : Pos} (ht : chkTg N sc (fun _ => true) t te = true) (hi : PI X te ie (TIc X.K e (T.cfg n) wx it)) (hb : PSs X eb (TSsc X.K e (T.cfg n) wx b)) (hs : ∀ x, foldedSetIterable ie X.env x = pure x) :
    PS X (.For te ie eb [] pos) (TSc X.K e (T.cfg n) wx (.for t it b)) :=
  imS (ps_for g.own g.calm hi (pg_tgt g.toGd (fn := fun _ => true) (fun x _ => g.fn x) ht) hb hs) fun De σ H ⟨w, hp, S, r, h⟩ => by
    rw [evS] at h
    refine ⟨w, hp, S, r, (PostS.bind h).mono fun ds hp1 w1 H1 _ x1 _ h J gd r1 sv hgd _ => ?_⟩
    generalize hf : forStep t (evSs (T.cfg n) b) = f at h
    refine ⟨fun i m σ H => ∃ w2 hp2 S2, Rel X.K e w2 hp2 S2 σ H ∧ Up w.toGw w2.toGw ∧ gd w2.toGw ∧ i ≤ ds.length ∧ m = ds.length - i ∧ PostS X.K e wx w.toGw De (forL f (ds.drop i) S2 hp2), ⟨_, w1, hp1, S, r1, x1.up, hgd, Nat.zero_le _, rfl, h⟩, ?_⟩
    rintro i m σ2 H2 ⟨w2, hp2, S2, r2, u2, gd2, hid, rfl, h2⟩
    by_cases hlt : i < ds.length
    · right
      have hd1 : ds[i]? = some ds[i] := List.getElem?_eq_getElem hlt
      obtain ⟨go, yl⟩ := sv.item i w2 hp2 S2 _ H2 _ r2 gd2 hd1
      refine ⟨go, fun σ' H' => ∃ w3 hp3 S3, Rel X.K e w3 hp3 S3 σ' H' ∧ Up w.toGw w3.toGw ∧ gd w3.toGw ∧ PostS X.K e wx w.toGw De (forL f (ds.drop (i + 1)) S3 hp3), fun σ' H' ⟨w3, hp3, S3, a, b, c, d⟩ => ⟨ds.length - (i + 1), by omega, w3, hp3, S3, a, b, c, hlt, rfl, d⟩, fun x H' y => ?_⟩
      obtain ⟨w3, x3, r3, rp3⟩ := yl x H' y
      rw [show ds.drop i = ds[i] :: ds.drop (i + 1) from List.drop_eq_getElem_cons hlt, forL] at h2
      cases qa : asg t ds[i] S2 with
      | none =>
        have hx : f ds[i] S2 = .st := by rw [← hf]; simp only [forStep, qa]
        rw [hx] at h2; exact (show False from h2).elim
      | some S3 =>
        have hx : f ds[i] S2 = evSs (T.cfg n) b S3 := by rw [← hf]; simp only [forStep, qa]
        rw [hx] at h2
        refine tgt_ok r3 rp3 qa fun σ4 ω4 _ r4 _ _ => ⟨⟨w3.toGw, ω4⟩, hp2, S3, r4, ?_⟩
        have u3 : Up w.toGw w3.toGw := u2.trans x3.up
        have gd3 := sv.mono _ _ x3.gr.g x3.gr.o gd2
        cases qb : evSs (T.cfg n) b S3 hp2 with
        | ok fl hp5 =>
          rw [bind_ok qb] at h2
          cases fl with
          | nx S5 => exact fun w5 σ5 H5 x5 r5 => ⟨w5, hp5, S5, r5, u3.trans x5, sv.mono _ _ x5.g x5.o gd3, h2⟩
          | ct S5 => exact fun w5 σ5 H5 x5 r5 => ⟨w5, hp5, S5, r5, u3.trans x5, sv.mono _ _ x5.g x5.o gd3, h2⟩
          | bk S5 => exact fun w5 σ5 H5 x5 r5 => h2 w5 σ5 H5 (u3.trans x5) r5
          | rt d fr => exact fun v w5 S5 σ5 H5 x5 r5 => h2 v w5 S5 σ5 H5 (u3.trans x5) r5
        | exc x hp5 => rw [bind_exc qb] at h2; exact h2
        | stuck => rw [bind_st qb] at h2; exact h2
    · left
      have e1 : i = ds.length := by omega
      subst e1
      rw [List.drop_length, forL] at h2
      exact ⟨sv.stop _ w2 hp2 S2 _ H2 r2 gd2 rfl, h2 w2 σ2 H2 u2 r2⟩
theorem ss_nil : PSs X [] (TSsc X.K e (T.cfg n) wx .nil) := imSs pss_nil fun De σ H ⟨w, hp, S, r, h⟩ => by
  rw [evSs] at h
  exact h w σ H (.refl _) r
theorem ss_cons {a : S} {r : Ss} {s : Stmt} {ss : List Stmt} (h1 : PS X s (TSc X.K e (T.cfg n) wx a)) (h2 : PSs X ss (TSsc X.K e (T.cfg n) wx r)) : PSs X (s :: ss) (TSsc X.K e (T.cfg n) wx (.cons a r)) :=
  imSs (pss_cons h1 h2) fun De σ H ⟨w, hp, S, rl, h⟩ => by
    rw [evSs] at h
    refine ⟨w, hp, S, rl, ?_⟩
    unfold thn at h
    cases q : evS (T.cfg n) a S hp with
    | ok f hp1 =>
      rw [bind_ok q] at h
      cases f with
      | nx S1 => exact fun w1 σ1 H1 x1 r1 => ⟨w1, hp1, S1, r1, PostS.up x1 h⟩
      | ct S1 => exact h
      | bk S1 => exact h
      | rt d fr => exact h
    | exc x hp1 => rw [bind_exc q] at h; exact h
    | stuck => rw [bind_st q] at h; exact h
/-- what is no statement of the text: a name's list is settled, names are let go -/
theorem ss_frz {i : Nat} {r : Ss} {ss : List Stmt} (h2 : PSs X ss (TSsc X.K e (T.cfg n) wx r)) : PSs X ss (TSsc X.K e (T.cfg n) wx (.cons (.frz i) r)) :=
  imSs h2 fun De σ H ⟨w, hp, S, rl, h⟩ => by
    rw [evSs, evS] at h
    unfold frzS at h
    cases q : S[i]? with
    | none => rw [q] at h; exact ⟨w, hp, S, rl, h⟩
    | some sl =>
      rw [q] at h
      cases sl with
      | own d =>
        obtain ⟨w', s1, o1, r1⟩ := rl.freeze q
        exact ⟨w', hp, _, r1, PostS.up ⟨s1, by rw [o1]; exact .refl _⟩ h⟩
      | _ => exact ⟨w, hp, S, rl, h⟩
theorem ss_hpi {i : Nat} {r : Ss} {ss : List Stmt} (h2 : PSs X ss (TSsc X.K e (T.cfg n) wx r)) : PSs X ss (TSsc X.K e (T.cfg n) wx (.cons (.hpi i) r)) :=
  imSs h2 fun De σ H ⟨w, hp, S, rl, h⟩ => by
    rw [evSs, evS] at h
    unfold thn at h
    simp only [Mx.bind, hpiS] at h
    cases q : S[i]? with
    | none => rw [q] at h; exact (show False from h).elim
    | some sl =>
      rw [q] at h
      cases sl with
      | own d =>
        obtain ⟨p0, _, e0, _⟩ := rl.own i d q
        obtain ⟨w', v, ew, e1, r1, p, o, rfl, a1, a2, a3, a4, a5, a6⟩ := rl.moved q
        rw [e0] at e1
        cases e1
        have li : i < S.length := (List.getElem?_eq_some_iff.mp q).1
        have fin : ∀ ob : Ob, ObR X.K w'.oa w'.g H p0 ob → PostS X.K e wx w.toGw De (evSs (T.cfg n) r (S.set i (.val (.obj hp.length))) (hp ++ [ob])) → TSsc X.K e (T.cfg n) wx r De σ H := fun ob ho z => by
          have r2 := r1.heap a1 ho a3 a4 a5 a6
          have rp : Rep X.K (⟨w'.oa.l ++ [p0], w'.oa.cm⟩ : Os) w'.g (.obj hp.length) (.ref p0) := .obj (by
            show (w'.oa.l ++ [p0])[hp.length]? = some p0
            rw [r1.hs.oL]; simp)
          have r3 := r2.setV i rp (wipe_un S i)
          rw [wipe_set] at r3
          have es : σ.set i (some (.ref p0)) = σ := by
            apply List.ext_getElem?
            intro j
            by_cases hj : i = j
            · subst hj
              rw [List.getElem?_set_self (by rw [← rl.len]; exact li), e0]
            · rw [List.getElem?_set_ne hj]
          rw [es] at r3
          refine ⟨_, _, _, r3, PostS.up ⟨?_, ?_⟩ z⟩
          · show Sub w.g w'.g
            rw [show w.g = w'.g from congrArg Gw.g ew.symm]; exact .refl _
          · show Oa w.oa ⟨w'.oa.l ++ [p0], w'.oa.cm⟩
            rw [show w.oa = w'.oa from congrArg Gw.oa ew.symm]; exact oa_up
        cases d with
        | lst ds =>
          obtain ⟨vs, rfl, rv⟩ := a2
          exact fin (.lst ds) ⟨vs, a1, rv⟩ h
        | dic ds =>
          obtain ⟨vs, rfl, rv⟩ := a2
          exact fin (.dic ds) ⟨vs, a1, rv⟩ h
        | _ => exact (show False from a2).elim
      | _ => exact (show False from h).elim
theorem ss_kill {is : List Nat} {r : Ss} {ss : List Stmt} (h2 : PSs X ss (TSsc X.K e (T.cfg n) wx r)) : PSs X ss (TSsc X.K e (T.cfg n) wx (.cons (.kill is) r)) :=
  imSs h2 fun De σ H ⟨w, hp, S, rl, h⟩ => by
    rw [evSs, evS] at h
    exact ⟨_, hp, _, rl.drop is, h⟩
theorem sw_false (g : Gq T n N sc e wx X) (hkd : sc.kind = .function) {v : Expr} {y : Str} {py : Pos} {l : Nat} (h : swB v y py sc = some false) : swapsWith v (some (.Name y py)) l X.env = pure false := by
  have hk : X.env.scope.kind = .function := by rw [g.hsc]; exact hkd
  have hb : X.env.blockKind = .function := by unfold Env.blockKind; rw [hk]; rfl
  cases v <;> first
    | rfl
    | (simp [swB] at h; done)
    | skip
  rename_i elt gs scope pos
  simp only [swB, Option.some.injEq] at h
  unfold swapsWith
  simp only [hb, Expr.pos]
  show pure (_) = pure false
  congr 1
  rw [← h]
  have e1 : (X.env.kindOf y == some NameKind.local) = decide (sc.names.lookup y = some .local) := by
    unfold Env.kindOf
    rw [g.hsc]
    cases List.lookup y sc.names with
    | none => rfl
    | some k => cases k <;> rfl
  rw [e1]
  rfl
theorem ss_setLc (g : Gf T n N sc e wx X) {i : Nat} {y : Str} {py spos pos : Pos} {elt : C} {t : Tg} {it : It} {cd : Oc} {ee te ie : Expr} {ifs : List Expr} {scope : Scope} (hi : chkN N sc (fun _ => true) i y = true) (hsw : swB (.ListComp ee [⟨te, ie, ifs, 0⟩] scope pos) y py sc = some true)
    (hb : blkC N sc scope (ownOf N t) = true) (hit : PI X te ie (TIc X.K e (T.cfg n) wx it)) (hs : ∀ x, foldedSetIterable ie X.env x = pure x)
    (hg : ∀ (s : Shared) (H : Hp) (C : Addr) (cl : List (Str × Addr)) (fp : List Addr), PG (X.blk s H scope (compEnvC scope cl C X.env) fp) te (gTgt X.K t))
    (hd : ∀ (s : Shared) (H : Hp) (C : Addr) (cl : List (Str × Addr)) (fp : List Addr), PTs (X.blk s H scope (compEnvC scope cl C X.env) fp) ifs (TDc X.K e (T.cfg n) wF cd))
    (he : ∀ (s : Shared) (H : Hp) (C : Addr) (cl : List (Str × Addr)) (fp : List Addr), PE (X.blk s H scope (compEnvC scope cl C X.env) fp) ee (TEc X.K e (T.cfg n) wF elt)) :
    PS X (.Assign [.Name y py] (.ListComp ee [⟨te, ie, ifs, 0⟩] scope pos) spos) (TSc X.K e (T.cfg n) wx (.set i (.lc elt t it cd))) ∧ PS X (.Assign [.Name y py] (.ListComp ee [⟨te, ie, ifs, 0⟩] scope pos) spos) (TSc X.K e (T.cfg n) wx (.seto i (.lc elt t it cd))) := by
  simp only [swB, Option.some.injEq, Bool.and_eq_true, decide_eq_true_eq, Bool.not_eq_true'] at hsw
  obtain ⟨⟨h1, h2⟩, h3⟩ := hsw
  have hk : X.env.scope.kind = .function := by rw [g.hsc]; exact g.kind
  have p := ps_setLc (i := i) (spos := spos) g.calm (by rw [g.hN]; exact g.nd) (chkN_loc g.toGq hi).1 (by rw [g.hsc]; exact h1) (sw_true hk (by rw [g.hsc]; exact h1) h2 h3) hit (own := ownOf N t) (by rw [g.hN, g.hsc]; exact blkOk_by hb) hg hd he hs
  exact ⟨imS p fun De σ H h => ss_setv (fun z => lc_imp z) h, imS p fun De σ H h => ss_seto (fun z => lc_imp z) h⟩
theorem ss_setLco (g : Gf T n N sc e wx X) {i : Nat} {y : Str} {py spos pos : Pos} {elt : C} {t : Tg} {c : C} {cd : Oc} {ee te ie : Expr} {ifs : List Expr} {scope : Scope} (hi : chkN N sc (fun _ => true) i y = true) (hsw : swB (.ListComp ee [⟨te, ie, ifs, 0⟩] scope pos) y py sc = some true)
    (hb : blkC N sc scope (ownOf N t) = true) (hit : PE X ie (TEc X.K e (T.cfg n) wx c)) (hs : ∀ x, foldedSetIterable ie X.env x = pure x)
    (hg : ∀ (s : Shared) (H : Hp) (C : Addr) (cl : List (Str × Addr)) (fp : List Addr), PG (X.blk s H scope (compEnvC scope cl C X.env) fp) te (gTgt X.K t))
    (hd : ∀ (s : Shared) (H : Hp) (C : Addr) (cl : List (Str × Addr)) (fp : List Addr), PTs (X.blk s H scope (compEnvC scope cl C X.env) fp) ifs (TDc X.K e (T.cfg n) wF cd))
    (he : ∀ (s : Shared) (H : Hp) (C : Addr) (cl : List (Str × Addr)) (fp : List Addr), PE (X.blk s H scope (compEnvC scope cl C X.env) fp) ee (TEc X.K e (T.cfg n) wF elt)) :
    PS X (.Assign [.Name y py] (.ListComp ee [⟨te, ie, ifs, 0⟩] scope pos) spos) (TSc X.K e (T.cfg n) wx (.set i (.lco elt t c cd))) ∧ PS X (.Assign [.Name y py] (.ListComp ee [⟨te, ie, ifs, 0⟩] scope pos) spos) (TSc X.K e (T.cfg n) wx (.seto i (.lco elt t c cd))) := by
  simp only [swB, Option.some.injEq, Bool.and_eq_true, decide_eq_true_eq, Bool.not_eq_true'] at hsw
  obtain ⟨⟨h1, h2⟩, h3⟩ := hsw
  have hk : X.env.scope.kind = .function := by rw [g.hsc]; exact g.kind
  have p := ps_setLc (i := i) (spos := spos) g.calm (by rw [g.hN]; exact g.nd) (chkN_loc g.toGq hi).1 (by rw [g.hsc]; exact h1) (sw_true hk (by rw [g.hsc]; exact h1) h2 h3) (pi_seqA hit) (own := ownOf N t) (by rw [g.hN, g.hsc]; exact blkOk_by hb) hg hd he hs
  exact ⟨imS p fun De σ H h => ss_setv (fun z => lco_imp z) h, imS p fun De σ H h => ss_seto (fun z => lco_imp z) h⟩
theorem ss_setC (g : Gf T n N sc e wx X) {i : Nat} {c : C} {y : Str} {py pos : Pos} {v : Expr} (hi : chkN N sc (fun _ => true) i y = true) (hk : c.isPk = false) (hv : chkE N T.has c sc v = true) (hsw : (swB v y py sc).isSome = true) : PS X (.Assign [.Name y py] v pos) (TSc X.K e (T.cfg n) wx (.set i c)) ∧ PS X (.Assign [.Name y py] v pos) (TSc X.K e (T.cfg n) wx (.seto i c)) := by
  cases q : swB v y py sc with
  | none => rw [q] at hsw; cases hsw
  | some b =>
    cases b with
    | false => exact ss_set g.toGq g.fn hi (sw_false g.toGq g.kind q) ((allC c g.toGq (.inr g.toGd) hv).v hk)
    | true =>
      cases v <;> first
        | (simp [swB] at q; done)
        | skip
      rename_i ee gens scope pos2
      cases c <;> first
        | (simp [chkE, newB] at hv; done)
        | skip
      · rename_i elt t it cd
        match gens, hv, q with
        | [⟨te, ie, ifs, as⟩], hv, q =>
          simp only [chkE, Bool.and_eq_true, decide_eq_true_eq] at hv
          obtain ⟨⟨⟨⟨⟨⟨rfl, hk⟩, h1⟩, h2⟩, h3⟩, h4⟩, h5⟩ := hv
          rw [Bool.not_eq_true'] at hk
          exact ss_setLc g hi q h1 (allI it g.toGd h3) (noSetI h3 _) (fun s H C cl fp => pg_tgt (g.toGd.blk scope s H C cl fp) (fun x hx => hx) h2) (fun s H C cl fp => allD cd (g.toGd.blk scope s H C cl fp) h5) (fun s H C cl fp => (allC elt (g.toGd.blk scope s H C cl fp).toGq (.inr (g.toGd.blk scope s H C cl fp)) h4).v hk)
        | [], hv, _ => simp [chkE] at hv
        | _ :: _ :: _, hv, _ => simp [chkE] at hv
      · rename_i elt t c cd
        match gens, hv, q with
        | [⟨te, ie, ifs, as⟩], hv, q =>
          simp only [chkE, Bool.and_eq_true, decide_eq_true_eq] at hv
          obtain ⟨⟨⟨⟨⟨⟨⟨rfl, hk⟩, hk2⟩, h1⟩, h2⟩, h3⟩, h4⟩, h5⟩ := hv
          rw [Bool.not_eq_true'] at hk hk2
          exact ss_setLco g hi q h1 ((allC c g.toGq (.inr g.toGd) h3).v hk2) (noSet h3 _) (fun s H C cl fp => pg_tgt (g.toGd.blk scope s H C cl fp) (fun x hx => hx) h2) (fun s H C cl fp => allD cd (g.toGd.blk scope s H C cl fp) h5) (fun s H C cl fp => (allC elt (g.toGd.blk scope s H C cl fp).toGq (.inr (g.toGd.blk scope s H C cl fp)) h4).v hk)
        | [], hv, _ => simp [chkE] at hv
        | _ :: _ :: _, hv, _ => simp [chkE] at hv
theorem asgSub {c : C} {ei : Expr} (h : chkE N T.has c sc ei = true) (o : Expr) (sp : Pos) (env : Env) : ∀ u, assign (.Subscript o ei sp) env u = (do
      let ov ← holding [u] (eval o env)
      let iv ← holding [u, ov] (eval ei env)
      standAt sp
      holding [u, ov, iv] (setItem ov iv u)
      release [u, ov, iv] []) := by
  intro u
  cases ei <;> first
    | rfl
    | (cases c <;> simp [chkE, newB] at h)
theorem ss_rai (g : Gf T n N sc e wx X) {cls : Str} {as : Cs} {e1 : Expr} {es : List Expr} {p cp pos : Pos} (hg : glB sc cls = true) (hx : okN cls = true) (hs : StarOk (e1 :: es)) (ha : PA X (e1 :: es) (TLc X.K e (T.cfg n) wx as)) :
    PS X (.Raise (some (.Call (.Name cls p) (e1 :: es) [] cp)) none pos) (TSc X.K e (T.cfg n) wx (.rai cls as)) := by
  by_cases hq : T.xfs cls = some []
  · obtain ⟨C, hcm, R⟩ := g.rai cls hq
    have mk := L2.pmk_ownA (pos := cp) (p := p) PySem.F.excBase_ValueError R.ex R.at_ R.kp (raises_own R.sb R.ty) (g.gl hg) ha (okN1 hx) (hs e1 (by simp) es X.env) (starCs_any (cs := .nil) (sc := sc) (fun ex h => hs ex (by simp [h])) cp X.env)
    refine imS (ps_raise g.calm g.tk mk) fun De σ H ⟨w, hp, S, r, h⟩ => ?_
    rw [evS] at h
    have hG : mkG (T.cfg n) cls = 1 := by
      unfold mkG
      rw [show (T.cfg n).xfs cls = T.xfs cls from rfl, hq]
    rw [hG] at h
    have h : PostS X.K e wx w.toGw De (((at_ S (evCs (T.cfg n) as S)).bind fun ds => raiS (T.cfg n) cls ds S) hp) := h
    refine ⟨w, hp, S, r, (PostS.bind h).mono fun ds hp1 w1 H1 _ x1 r1 h1 vs rps => ?_⟩
    unfold raiS at h1
    cases hm : mkX (T.cfg n) cls ds with
    | some x =>
      rw [hm] at h1
      unfold mkX at hm
      rw [show (T.cfg n).xfs cls = T.xfs cls from rfl, hq] at hm
      simp only at hm
      split at hm
      · rename_i hl
        cases hm
        have hl : ds.length ≤ LINE := by
          rcases hl with hl | hl
          · exact hl.2
          · exact absurd rfl hl.1
        refine ⟨by rw [← rps.length, ← line_eq]; exact hl, w1, hp1, S, .xn cls [], r1, ⟨C, ?_, rfl, rfl⟩, h1⟩
        have : w1.oa.cm = e.w.oa.cm := r1.gr.o.cm
        rw [this]; exact hcm
      · cases hm
    | none => rw [hm] at h1; exact (show False from h1).elim
  · by_cases hq2 : ∃ f fs, T.xfs cls = some (f :: fs) ∧ 2 ≤ n
    · obtain ⟨f, fs, hq2, h2⟩ := hq2
      obtain ⟨C, hcm, R⟩ := g.ini cls f fs hq2
      obtain ⟨fI, fd, ps, i1, i2, i3, i4⟩ := R.there
      have mk := L2.pmk_oex (pos := cp) (p := p) (dvs := []) R.oe i1 i2 i4 (g.room.mono h2) i3 .nil passL (g.gl hg) R.at_ ha (okN1 hx) (hs e1 (by simp) es X.env) (starCs_any (cs := .nil) (sc := sc) (fun ex h => hs ex (by simp [h])) cp X.env)
      refine imS (ps_raise g.calm g.tk mk) fun De σ H ⟨w, hp, S, r, h⟩ => ?_
      rw [evS] at h
      have hG : mkG (T.cfg n) cls = 2 := by
        unfold mkG
        rw [show (T.cfg n).xfs cls = T.xfs cls from rfl, hq2]
        exact if_pos h2
      rw [hG] at h
      have h : PostS X.K e wx w.toGw De (((at_ S (evCs (T.cfg n) as S)).bind fun ds => raiS (T.cfg n) cls ds S) hp) := h
      refine ⟨w, hp, S, r, (PostS.bind h).mono fun ds hp1 w1 H1 _ x1 r1 h1 vs rps => ?_⟩
      unfold raiS at h1
      cases hm : mkX (T.cfg n) cls ds with
      | some x =>
        rw [hm] at h1
        unfold mkX at hm
        rw [show (T.cfg n).xfs cls = T.xfs cls from rfl, hq2] at hm
        simp only at hm
        split at hm
        · rename_i hl
          cases hm
          have hl2 : ds.length = (f :: fs).length ∧ ds.length ≤ 100 := by
            rcases hl with hl | hl
            · exact absurd hl.1 (by simp)
            · exact hl.2
          have hcm1 : w1.oa.cm cls = some C := by
            have : w1.oa.cm = e.w.oa.cm := r1.gr.o.cm
            rw [this]; exact hcm
          refine ⟨by rw [← rps.length]; omega, fun a na => spi_made r1 rps hcm1 hl2.1 na fun d da nd rl xr => ⟨rfl, d, _, upd_same, by rw [upd_ne da, upd_same], nd, ?_⟩⟩
          rw [upd_del2 na da]
          exact ⟨w1, hp1, S, .xn cls ((f :: fs).zip ds).reverse, rl, xr, h1⟩
        · cases hm
      | none => rw [hm] at h1; exact (show False from h1).elim
    · refine ⟨fun _ _ _ _ _ _ ⟨w, hp, S, r, h⟩ => ?_⟩
      rw [evS] at h
      have hG : mkG (T.cfg n) cls = 0 := by
        unfold mkG
        rw [show (T.cfg n).xfs cls = T.xfs cls from rfl]
        cases q : T.xfs cls with
        | none => rfl
        | some fs =>
          cases fs with
          | nil => exact (hq q).elim
          | cons f fs =>
            show (if 2 ≤ n then 2 else 0) = 0
            exact if_neg fun h2 => hq2 ⟨f, fs, q, h2⟩
      rw [hG] at h
      exact (show False from h).elim
theorem FReps.put {K : PySem.W.Frag} {oa : Os} {G : Hp} {f : Str} {d : D} {v : V} (h : Rep K oa G d v) : ∀ {ds : List (Str × D)} {vs : List (Str × V)}, FReps K oa G ds vs → FReps K oa G (putFD f d ds) (putF f v vs)
  | _, _, .nil => .cons h .nil
  | _, _, .cons (k := k) h1 h2 => by
    unfold putFD putF
    by_cases q : k = f
    · rw [if_pos q, if_pos q]; exact .cons h h2
    · rw [if_neg q, if_neg q]; exact .cons h1 (FReps.put h h2)
theorem FReps.length {K : PySem.W.Frag} {oa : Os} {G : Hp} : ∀ {ds : List (Str × D)} {vs : List (Str × V)}, FReps K oa G ds vs → ds.length = vs.length
  | _, _, .nil => rfl
  | _, _, .cons _ r => by rw [List.length_cons, List.length_cons, FReps.length r]
/-- a field of an instance is put -/
theorem fset_go (g : Gq T n N sc e wx X) {f : Str} {xo d : D} {uo v : V} {De : Ends} {G : Gw} {S : RS} {σ : St} {hp : HP} {w : Wd} {H : Hp} (r : Rel X.K e w hp S σ H) (u : Up G w.toGw) (ro : Rep X.K w.oa w.g xo uo) (rd : Rep X.K w.oa w.g d v)
    (h : PostS X.K e wx G De (((at_ S (fsetM (T.cfg n) f xo d)).bind fun _ => .pure (.nx S)) hp)) : ∃ a C dx fs, uo = .ref a ∧ H a = some (.ins C dx fs) ∧ L2.Cls X.K C ∧ NoAttr X.K C f ∧ fs.length < 1000 ∧ De.nx σ (upd H a (.ins C dx (putF f v fs))) := by
  have h := PostS.bind (σ := σ) (w := w) (H := H) h
  cases xo with
  | obj k =>
    simp only [fsetM, Tb.cfg] at h
    cases q2 : hp[k]? with
    | none => rw [q2] at h; exact (show False from h).elim
    | some ob =>
      rw [q2] at h
      cases ob with
      | inst cn fs =>
        simp only at h
        cases hq : T.ins cn with
        | none => rw [hq] at h; exact (show False from h).elim
        | some gs =>
          rw [hq] at h
          simp only at h
          split at h
          · rename_i hm
            rw [Bool.and_eq_true, decide_eq_true_eq] at hm
            obtain ⟨C', hcm, cl, na⟩ := g.ins cn gs hq
            cases ro with
            | obj q1 =>
              rename_i p
              obtain ⟨C, dx, fv, e0, e1, e2, e3⟩ := r.hs.oR k _ _ q2 q1
              have ecm : w.oa.cm = e.w.oa.cm := r.gr.o.cm
              have e0' := e0
              rw [ecm, hcm] at e0'
              cases e0'
              have ne : dx ≠ p := fun z => by rw [z, e1] at e2; cases e2
              obtain ⟨r4, x4⟩ := r.setOb (ob' := .inst cn (putFD f d fs)) (o' := .ins C' dx (putF f v fv)) q2 q1 (fun z => by cases z) e1 (fun a z => by cases z) ⟨C', dx, _, e0, upd_same, by rw [upd_ne ne]; exact e2, e3.put rd⟩
              exact ⟨p, C', dx, fv, rfl, e1, cl, na f (by simpa using hm.1), by rw [← e3.length]; exact hm.2, h w _ x4 r4 w σ _ (u.trans x4.up) r4⟩
          · exact (show False from h).elim
      | _ => exact (show False from h).elim
  | _ => exact (show False from h).elim
theorem ss_fset (g : Gq T n N sc e wx X) {c ec : C} {f : Str} {oe v : Expr} {ap pos : Pos} (ho : PE X oe (TEc X.K e (T.cfg n) wx c)) (hv : PE X v (TEc X.K e (T.cfg n) wx ec)) : PS X (.Assign [.Attribute oe f ap] v pos) (TSc X.K e (T.cfg n) wx (.fset c f ec)) := by
  refine imS (ps_fld ho hv (by cases v <;> rfl)) fun De σ H ⟨w, hp, S, r, h⟩ => ?_
  rw [evS] at h
  refine TEc.of r ((PostS.bind h).mono fun d hp1 w1 H1 _ x1 _ h1 r1 v rp => ?_)
  refine TEc.of r1 ((PostS.bind h1).mono fun xo hp2 w2 H2 _ x2 _ h2 r2 uo rpo => ?_)
  exact fset_go g r2 (x1.up.trans x2.up) rpo (x2.rep rp) h2
theorem ss_faug (g : Gq T n N sc e wx X) {c : C} {f : Str} {op : Operator} {i : Int} {kk : Nat} {oe : Expr} {ap cpos pos : Pos} (hop : (decide (op = .Add) || decide (op = .Sub)) = true) (ho : PE X oe (TEc X.K e (T.cfg n) wx c)) : PS X (.AugAssign (.Attribute oe f ap) op (.Constant (.int i) kk cpos) pos) (TSc X.K e (T.cfg n) wx (.faug c f op i)) := by
  have key : ∀ {rd : V → V → Hp → VK → Prop}, (∀ a b H Q, augI op a i = some b → Q (.int b) H → rd (.int a) (.int i) H Q) → ∀ De σ H, TSc X.K e (T.cfg n) wx (.faug c f op i) De σ H → sFldAug X.K (TEc X.K e (T.cfg n) wx c) (tC (.int i)) rd f De σ H := by
    intro rd hrd De σ H ⟨w, hp, S, r, h⟩
    rw [evS] at h
    refine TEc.of r ((PostS.bind h).mono fun xo hp1 w1 H1 _ x1 _ h1 r1 uo rpo => ?_)
    have h1 := PostS.bind (σ := σ) (w := w1) (H := H1) h1
    cases xo with
    | obj k =>
      simp only [faugM, Tb.cfg] at h1
      cases q2 : hp1[k]? with
      | none => rw [q2] at h1; exact (show False from h1).elim
      | some ob =>
        rw [q2] at h1
        cases ob with
        | inst cn fs =>
          simp only at h1
          cases hq : T.ins cn with
          | none => rw [hq] at h1; exact (show False from h1).elim
          | some gs =>
            rw [hq] at h1
            simp only at h1
            split at h1
            · rename_i hm
              rw [Bool.and_eq_true, decide_eq_true_eq] at hm
              cases q5 : fs.lookup f with
              | none => rw [q5] at h1; exact (show False from h1).elim
              | some y =>
                rw [q5] at h1
                cases y with
                | int a =>
                  simp only at h1
                  cases q6 : augI op a i with
                  | none => rw [q6] at h1; exact (show False from h1).elim
                  | some b =>
                    rw [q6] at h1
                    obtain ⟨C', hcm, cl, na⟩ := g.ins cn gs hq
                    cases rpo with
                    | obj q1 =>
                      rename_i p
                      obtain ⟨C, dx, fv, e0, e1, e2, e3⟩ := r1.hs.oR k _ _ q2 q1
                      have ecm : w1.oa.cm = e.w.oa.cm := r1.gr.o.cm
                      have e0' := e0
                      rw [ecm, hcm] at e0'
                      cases e0'
                      obtain ⟨v2, e6, e7⟩ := (e3.look (f := f)).1 _ q5
                      have ne : dx ≠ p := fun z => by rw [z, e1] at e2; cases e2
                      obtain ⟨r4, x4⟩ := r1.setOb (ob' := .inst cn (putFD f (.int b) fs)) (o' := .ins C' dx (putF f (.int b) fv)) q2 q1 (fun z => by cases z) e1 (fun a z => by cases z) ⟨C', dx, _, e0, upd_same, by rw [upd_ne ne]; exact e2, e3.put (.int b)⟩
                      rw [e7.intE] at e6
                      exact ⟨p, C', dx, fv, .int a, rfl, e1, cl, na f (by simpa using hm.1), e6, hrd a b _ _ q6 ⟨dx, fv, e1, by rw [← e3.length]; exact hm.2, h1 w1 _ x4 r4 w1 σ _ (x1.up.trans x4.up) r4⟩⟩
                | _ => exact (show False from h1).elim
            · exact (show False from h1).elim
        | _ => exact (show False from h1).elim
    | _ => exact (show False from h1).elim
  rw [Bool.or_eq_true, decide_eq_true_eq, decide_eq_true_eq] at hop
  rcases hop with rfl | rfl
  · exact imS (ps_fldaug ho pe_int in_add) (key fun a b H Q z q => ⟨a, i, rfl, rfl, by cases z; exact q⟩)
  · exact imS (ps_fldaug ho pe_int in_sub) (key fun a b H Q z q => ⟨a, i, rfl, rfl, by cases z; exact q⟩)
/-- a list of the heap is lengthened by a fresh one -/
theorem ss_mext (g : Gf T n N sc e wx X) {c ec : C} {oe : Expr} {ap cp pos : Pos} {ex : Expr} (hb : rcvB oe = true) (hl : (ap.endLine == cp.line) = true) (hs : ∀ xs env, starEach (ex :: xs) env = (false, eval ex env) :: starEach xs env) (ho : PE X oe (TEc X.K e (T.cfg n) wx c)) (hv : PE X ex (TEc X.K e (T.cfg n) wx ec)) :
    PS X (.Expr (.Call (.Attribute oe "extend" ap) [ex] [] cp) pos) (TSc X.K e (T.cfg n) wx (.mext c ec)) := by
  refine imS (ps_expr (pe_bm PySem.F.plainAttrs_list PySem.F.slot_list_extend PySem.F.type_list_extend mt_extend ho (pa_cons hv pa_nil (hs _ _)) (base_ok hb _ _) (by rw [hs]; rfl) hl (hs _ _) (by rfl))) fun De σ H ⟨w, hp, S, r, h⟩ => ?_
  rw [evS] at h
  refine TEc.of r ((PostS.bind h).mono fun xo hp1 w1 H1 _ x1 _ h1 r1 uo rpo => ?_)
  have h1 := PostS.bind (σ := σ) (w := w1) (H := H1) h1
  cases xo with
  | obj k =>
    cases rpo with
    | obj q1 =>
    rename_i p
    unfold lstM_ at h1
    simp only at h1
    cases q2 : hp1[k]? with
    | none => rw [q2] at h1; exact (show False from h1).elim
    | some ob =>
      rw [q2] at h1
      cases ob with
      | lst ds0 =>
        obtain ⟨vs0, e4, e5⟩ := r1.hs.oR k _ _ q2 q1
        have h1 := h1 w1 H1 (.refl _ _) r1
        refine ⟨.inl ⟨rfl, vs0, .inl (.of e4)⟩, w1, hp1, S, r1, (PostS.bind h1).mono fun d hp2 w2 H2 _ x2 r2 h2 v res => ?_⟩
        have h2 := PostS.bind (σ := σ) (w := w2) (H := H2) h2
        have q1' := x2.gr.o.l _ _ q1
        unfold mextM at h2
        cases d with
        | lst ys =>
          simp only at h2
          cases q3 : hp2[k]? with
          | none => rw [q3] at h2; exact (show False from h2).elim
          | some ob2 =>
            rw [q3] at h2
            cases ob2 with
            | lst ds2 =>
              simp only at h2
              split at h2
              · rename_i hln
                rw [Bool.and_eq_true, decide_eq_true_eq] at hln
                rw [hln.1] at res
                obtain ⟨p2, o2, rfl, z1, z2, z3, z4, z5, z6⟩ := res
                obtain ⟨vs2, rfl, f6⟩ := z2
                obtain ⟨vs3, e6, e7⟩ := r2.hs.oR k _ _ q3 q1'
                refine ⟨p, p2, vs3, vs2, rfl, rfl, e6, z1, ?_, ?_⟩
                · rw [← e7.length, ← f6.length]
                  have : LINE = sizeLine := line_eq
                  omega
                · obtain ⟨r3, x3⟩ := r2.setOb (ob' := .lst (ds2 ++ ys)) (o' := .lst (vs3 ++ vs2)) q3 q1' (fun z => by cases z) e6 (fun a z => by cases z) ⟨_, upd_same, e7.append f6⟩
                  exact h2 w2 _ x3 r3 w2 σ _ (x1.up.trans (x2.up.trans x3.up)) r3
              · exact (show False from h2).elim
            | _ => exact (show False from h2).elim
        | _ => exact (show False from h2).elim
      | _ => exact (show False from h1).elim
  | _ => exact (show False from h1).elim
/-- a walk over a list of the heap -/
theorem ss_foro (g : Gf T n N sc e wx X) {t : Tg} {c : C} {b : Ss} {te ie : Expr} {eb : List Stmt} {pos : Pos} (ht : chkTg N sc (fun _ => true) t te = true) (hc : PE X ie (TEc X.K e (T.cfg n) wx c)) (hb : PSs X eb (TSsc X.K e (T.cfg n) wx b)) (hs : ∀ x, foldedSetIterable ie X.env x = pure x) :
    PS X (.For te ie eb [] pos) (TSc X.K e (T.cfg n) wx (.foro t c b)) :=
  imS (ps_for g.own g.calm (pi_seqA hc) (pg_tgt g.toGd (fn := fun _ => true) (fun x _ => g.fn x) ht) hb hs) fun De σ H ⟨w, hp, S, r, h⟩ => by
    rw [evS] at h
    refine TEc.of r ((PostS.bind h).mono fun x hp1 w1 H1 _ x1 _ h1 r1 v rp => ?_)
    cases x with
    | obj k =>
      cases rp with
      | obj q1 =>
      rename_i p
      unfold forOS at h1
      simp only at h1
      cases q2 : hp1[k]? with
      | none => rw [q2] at h1; exact (show False from h1).elim
      | some ob =>
        rw [q2] at h1
        cases ob with
        | lst ds =>
          simp only at h1
          obtain ⟨vs, e4, e5⟩ := r1.hs.oR k _ _ q2 q1
          refine ⟨p, rfl, .inl ⟨vs, .inl (.of e4), fun _ => ?_⟩⟩
          generalize hf : forStep t (evSs (T.cfg n) b) = f at h1
          refine ⟨fun i m σ H => ∃ w2 hp2 S2, Rel X.K e w2 hp2 S2 σ H ∧ Up w.toGw w2.toGw ∧ w2.oa.l[k]? = some p ∧ PostS X.K e wx w.toGw De (forO f k m i S2 hp2), ⟨_, w1, hp1, S, r1, x1.up, q1, h1⟩, ?_⟩
          rintro i m σ2 H2 ⟨w2, hp2, S2, r2, u2, q3, h2⟩
          have stop : ∀ ds2 : List D, hp2[k]? = some (.lst ds2) → ds2.length ≤ i → (Itl X.K p).stop i H2 := fun ds2 z1 z2 => by
            obtain ⟨vs2, z3, z4⟩ := r2.hs.oR k _ _ z1 q3
            exact ⟨vs2, .inl (.of z3), by rw [← z4.length]; exact z2⟩
          cases m with
          | zero =>
            left
            simp only [forO] at h2
            cases q4 : hp2[k]? with
            | none => rw [q4] at h2; exact (show False from h2).elim
            | some ob2 =>
              rw [q4] at h2
              cases ob2 with
              | lst ds2 =>
                simp only at h2
                split at h2
                · rename_i hle
                  exact ⟨stop ds2 q4 hle, h2 w2 σ2 H2 u2 r2⟩
                · exact (show False from h2).elim
              | _ => exact (show False from h2).elim
          | succ m =>
            simp only [forO] at h2
            cases q4 : hp2[k]? with
            | none => rw [q4] at h2; exact (show False from h2).elim
            | some ob2 =>
              rw [q4] at h2
              cases ob2 with
              | lst ds2 =>
                simp only at h2
                cases q5 : ds2[i]? with
                | none =>
                  rw [q5] at h2
                  left
                  exact ⟨stop ds2 q4 (List.getElem?_eq_none_iff.mp q5), h2 w2 σ2 H2 u2 r2⟩
                | some d =>
                  rw [q5] at h2
                  simp only at h2
                  right
                  obtain ⟨vs2, z3, z4⟩ := r2.hs.oR k _ _ q4 q3
                  obtain ⟨vx, z5, z6⟩ := z4.get q5
                  refine ⟨⟨vs2, vx, .inl (.of z3), z5⟩, fun σ' H' => ∃ w3 hp3 S3, Rel X.K e w3 hp3 S3 σ' H' ∧ Up w.toGw w3.toGw ∧ w3.oa.l[k]? = some p ∧ PostS X.K e wx w.toGw De (forO f k m (i + 1) S3 hp3), fun σ' H' ⟨w3, hp3, S3, a, b, c, d⟩ => ⟨m, Nat.lt_succ_self m, w3, hp3, S3, a, b, c, d⟩, fun x H' y => ?_⟩
                  obtain ⟨rfl, y⟩ := y
                  have := y vs2 (.inl (.of z3))
                  rw [z5] at this
                  cases this
                  cases qa : asg t d S2 with
                  | none =>
                    have hx : f d S2 = .st := by rw [← hf]; simp only [forStep, qa]
                    rw [hx] at h2; exact (show False from h2).elim
                  | some S3 =>
                    have hx : f d S2 = evSs (T.cfg n) b S3 := by rw [← hf]; simp only [forStep, qa]
                    rw [hx] at h2
                    refine tgt_ok r2 z6 qa fun σ4 ω4 _ r4 _ _ => ⟨⟨w2.toGw, ω4⟩, hp2, S3, r4, ?_⟩
                    have u3 : Up w.toGw w2.toGw := u2
                    cases qb : evSs (T.cfg n) b S3 hp2 with
                    | ok fl hp5 =>
                      rw [bind_ok qb] at h2
                      cases fl with
                      | nx S5 => exact fun w5 σ5 H5 x5 r5 => ⟨w5, hp5, S5, r5, u3.trans x5, x5.o.l _ _ q3, h2⟩
                      | ct S5 => exact fun w5 σ5 H5 x5 r5 => ⟨w5, hp5, S5, r5, u3.trans x5, x5.o.l _ _ q3, h2⟩
                      | bk S5 => exact fun w5 σ5 H5 x5 r5 => h2 w5 σ5 H5 (u3.trans x5) r5
                      | rt d fr => exact fun v w5 S5 σ5 H5 x5 r5 => h2 v w5 S5 σ5 H5 (u3.trans x5) r5
                    | exc x hp5 => rw [bind_exc qb] at h2; exact h2
                    | stuck => rw [bind_st qb] at h2; exact h2
              | _ => exact (show False from h2).elim
        | _ => exact (show False from h1).elim
    | _ => exact (show False from h1).elim
mutual
theorem allQ : ∀ (c : S) {st : Stmt}, Gq T n N sc e wx X → sc.kind = .function → (∀ x, X.fn x = true) → c.qu = true → chkS N T.has sc c st = true → PS X st (TSc X.K e (T.cfg n) wx c)
  | .set i c, st, g, hkd, hfn, hq, h => by
    cases st <;> first
      | (simp [chkS] at h; done)
      | skip
    rename_i ts v pos
    match ts, h with
    | [tx], h =>
      cases tx <;> first
        | (simp [chkS] at h; done)
        | skip
      rename_i y py
      simp only [chkS, Bool.and_eq_true, Bool.not_eq_true'] at h
      obtain ⟨⟨⟨h1, k1⟩, h2⟩, h3⟩ := h
      have hq : c.qu = true := hq
      refine (ss_set g hfn h1 ?_ ((allC c g (.inl hq) h2).v k1)).1
      cases q : swB v y py sc with
      | none => rw [q] at h3; cases h3
      | some b =>
        cases b with
        | false => exact sw_false g hkd q
        | true =>
          cases v <;> first
            | (simp [swB] at q; done)
            | skip
          cases c <;> first
            | (simp [chkE, newB] at h2; done)
            | (simp [C.qu] at hq; done)
    | [], h => simp [chkS] at h
    | _ :: _ :: _, h => simp [chkS] at h
  | .ret c, st, g, hkd, hfn, hq, h => by
    cases st <;> first
      | (simp [chkS] at h; done)
      | skip
    rename_i v pos
    cases v with
    | none => simp [chkS] at h
    | some v =>
      simp only [chkS, Bool.and_eq_true, Bool.not_eq_true'] at h
      exact ss_ret ((allC c g (.inl hq) h.2).v h.1)
  | .retN, st, g, hkd, hfn, hq, h => by
    cases st <;> first
      | (simp [chkS] at h; done)
      | skip
    rename_i v pos
    cases v with
    | some v => simp [chkS] at h
    | none =>
      refine imS ps_retN fun De σ H ⟨w, hp, S, r, h⟩ => ?_
      rw [evS] at h
      exact h .non w S σ H (.refl _) r .non
  | .pas, st, g, hkd, hfn, hq, h => by
    cases st <;> first
      | (simp [chkS] at h; done)
      | skip
    refine imS ps_pass fun De σ H ⟨w, hp, S, r, h⟩ => ?_
    rw [evS] at h
    exact h w σ H (.refl _) r
  | .cont, st, g, hkd, hfn, hq, h => by
    cases st <;> first
      | (simp [chkS] at h; done)
      | skip
    refine imS ps_continue fun De σ H ⟨w, hp, S, r, h⟩ => ?_
    rw [evS] at h
    exact h w σ H (.refl _) r
  | .brk, st, g, hkd, hfn, hq, h => by
    cases st <;> first
      | (simp [chkS] at h; done)
      | skip
    refine imS ps_break fun De σ H ⟨w, hp, S, r, h⟩ => ?_
    rw [evS] at h
    exact h w σ H (.refl _) r
  | .ex c, st, g, hkd, hfn, hq, h => by
    cases st <;> first
      | (simp [chkS] at h; done)
      | skip
    rename_i v pos
    simp only [chkS, Bool.and_eq_true, Bool.not_eq_true'] at h
    exact ss_ex (by
      have h2 := h.2
      cases v <;> first
        | rfl
        | cases h2) ((allC c g (.inl hq) h.1.2).v h.1.1)
  | .ite c a b, st, g, hkd, hfn, hq, h => by
    cases st <;> first
      | (simp [chkS] at h; done)
      | skip
    simp only [S.qu, Bool.and_eq_true] at hq
    simp only [chkS, Bool.and_eq_true] at h
    exact ss_ite (allC c g (.inl hq.1) h.1.1).t (allQs a g hkd hfn hq.2.1 h.1.2) (allQs b g hkd hfn hq.2.2 h.2)
  | .frz _, st, g, hkd, hfn, hq, h => by cases st <;> simp [chkS] at h
  | .kill _, st, g, hkd, hfn, hq, h => by cases st <;> simp [chkS] at h
  | .seto _ _, st, g, hkd, hfn, hq, h => by simp [S.qu] at hq
  | .unp _ _, st, g, hkd, hfn, hq, h => by simp [S.qu] at hq
  | .sidx _ _ _, st, g, hkd, hfn, hq, h => by simp [S.qu] at hq
  | .aug _ _ _, st, g, hkd, hfn, hq, h => by simp [S.qu] at hq
  | .app _ _, st, g, hkd, hfn, hq, h => by simp [S.qu] at hq
  | .exl _ _, st, g, hkd, hfn, hq, h => by simp [S.qu] at hq
  | .pop _, st, g, hkd, hfn, hq, h => by simp [S.qu] at hq
  | .retf _, st, g, hkd, hfn, hq, h => by simp [S.qu] at hq
  | .retv _, st, g, hkd, hfn, hq, h => by simp [S.qu] at hq
  | .for _ _ _, st, g, hkd, hfn, hq, h => by simp [S.qu] at hq
  | .whl _ _, st, g, hkd, hfn, hq, h => by simp [S.qu] at hq
  | .hpi _, st, g, hkd, hfn, hq, h => by simp [S.qu] at hq
  | .nev, st, g, hkd, hfn, hq, h => ⟨fun _ _ _ _ _ _ ⟨w, hp, S, r, h⟩ => by
    rw [evS] at h
    exact (show False from h).elim⟩
  | .spop _ _ _, st, g, hkd, hfn, hq, h => by simp [S.qu] at hq
  | .hset _ _ _, st, g, hkd, hfn, hq, h => by simp [S.qu] at hq
  | .dset _ _ _, st, g, hkd, hfn, hq, h => by simp [S.qu] at hq
  | .fset _ _ _, st, g, hkd, hfn, hq, h => by simp [S.qu] at hq
  | .faug _ _ _ _, st, g, hkd, hfn, hq, h => by simp [S.qu] at hq
  | .mext _ _, st, g, hkd, hfn, hq, h => by simp [S.qu] at hq
  | .foro _ _ _, st, g, hkd, hfn, hq, h => by simp [S.qu] at hq
  | .rai _ _, st, g, hkd, hfn, hq, h => by simp [S.qu] at hq
  | .try _ _ _, st, g, hkd, hfn, hq, h => by simp [S.qu] at hq
theorem allQs : ∀ (c : Ss) {sts : List Stmt}, Gq T n N sc e wx X → sc.kind = .function → (∀ x, X.fn x = true) → c.qu = true → chkSs N T.has sc c sts = true → PSs X sts (TSsc X.K e (T.cfg n) wx c)
  | .nil, sts, g, hkd, hfn, hq, h => by
    cases sts with
    | nil => exact ss_nil
    | cons a b => simp [chkSs] at h
  | .cons a r, sts, g, hkd, hfn, hq, h => by
    simp only [Ss.qu, Bool.and_eq_true] at hq
    cases hs : a.soft with
    | true =>
      have h : chkSs N T.has sc r sts = true := by
        cases sts <;> (simp only [chkSs, hs, if_true] at h; exact h)
      have p := allQs r g hkd hfn hq.2 h
      cases a <;> first
        | (cases hs; done)
        | exact ss_frz p
        | exact ss_kill p
        | exact ss_hpi p
    | false =>
      cases sts with
      | nil => simp [chkSs, hs] at h
      | cons s ss =>
        simp only [chkSs, hs, Bool.false_eq_true, if_false, Bool.and_eq_true] at h
        exact ss_cons (allQ a g hkd hfn hq.1 h.1) (allQs r g hkd hfn hq.2 h.2)
end
theorem chk_rai {F : Str → Bool} {cls : Str} {as : Cs} {st : Stmt} (h : chkS N F sc (.rai cls as) st = true) : ∃ px e1 es cp pos, st = .Raise (some (.Call (.Name cls px) (e1 :: es) [] cp)) none pos ∧ glB sc cls = true ∧ okN cls = true ∧ as.hasPk = false ∧ chkCs N F as sc (e1 :: es) = true := by
  cases st <;> first
    | (simp [chkS] at h; done)
    | skip
  rename_i ex cau pos
  cases cau with
  | some _ =>
    cases ex with
    | none => exact absurd (show (false : Bool) = true from h) (by decide)
    | some ex =>
      cases ex <;> first
        | exact absurd (show (false : Bool) = true from h) (by decide)
        | (rename_i fe _ _ _; cases fe <;> exact absurd (show (false : Bool) = true from h) (by decide))
  | none =>
    cases ex with
    | none => exact absurd (show (false : Bool) = true from h) (by decide)
    | some ex =>
      cases ex <;> first
        | exact absurd (show (false : Bool) = true from h) (by decide)
        | skip
      rename_i fe es ks cp
      cases fe <;> first
        | (simp [chkS] at h; done)
        | skip
      simp only [chkS, Bool.and_eq_true, decide_eq_true_eq, List.isEmpty_iff, Bool.not_eq_true', List.isEmpty_eq_false_iff] at h
      obtain ⟨⟨⟨⟨⟨⟨rfl, h1⟩, h2⟩, rfl⟩, hne⟩, hpk⟩, h5⟩ := h
      obtain ⟨e1, es, rfl⟩ := List.exists_cons_of_ne_nil hne
      exact ⟨_, e1, es, _, _, rfl, h1, h2, hpk, h5⟩
/-- from what is caught on -/
theorem handle_go (g : Gf T n N sc e wx X) {pins : List (Addr × Obj)} {De : Ends} {w0 : Gw} (ok : X.Ok) {a : Addr} {B : Heap} {sI s' : Shared} {σ : St} {H : Hp} {cls : Value} {dd : Option Addr} {h3 : Heap} (J : Inv X pins σ H sI)
    (nb : ∀ b o, sI.heap.get? b = some o → b ∉ frs X.stack → B.get? b = some o) (up : sI.heap.UpToSlots h3) (fl3 : HandSPX.FlyingZ B (X.env :: X.outer) a (Zc cls dd) h3) (na : H a = none) (os : s'.os = sI.os) (ag : PyProof.Rows.AllBare s'.gens)
    {w : Wd} {hp : HP} {S : RS} {x : D} (r : Rel X.K e w hp S σ H) (xr : XR X.K e.H w.toGw x cls dd H) (u0 : Up w0 w.toGw) :
    ∀ (hs : Hs) (hds : List ExceptHandler), chkHs N T.has sc hs hds = true → PostS X.K e wx w0 De (evHs (T.cfg n) hs x S hp) →
      wpAny (model X.prog X.w) X.A (handleBy (.ref a) X.env hds) (SP X pins De) X.xe { s' with heap := h3 }
  | .nil, hds, hck, hpost => by
    have hs := g.stk
    have hf := g.frm
    have : hds = [] := by simpa [chkHs] using hck
    subst this
    rw [evHs] at hpost
    have hw : wx x S hp := hpost
    refine wpAny_handleBy_nil ?_
    obtain ⟨k1, k2, k3, oe, vs, Tb, oT, ts', he, hz, hd, h1, hr⟩ := id fl3
    unfold PySem.passOn
    refine wpAny_bind (wpAny_field he hd h1 ?_)
    rw [if_neg (show ¬ ((Value.ref Tb == Value.none) = true) from by simp)]
    have fin : wpAny (model X.prog X.w) X.A (setFlight (.ref a) X.env.frame) (fun _ s4 => wpAny (model X.prog X.w) X.A (throw (.ref a) : Sem Flow) (SP X pins De) X.xe s4) X.xe { s' with heap := h3 } := by
      rw [hf]
      refine HandSPX.setFlight_upZ fl3 fun h4 hh4 up4 => wpAny_throw (g.tk _ _ ?_)
      exact ⟨a, B, sI, pins, σ, H, cls, dd, rfl, J, nb, up.trans up4, .inr (.inr (by rw [hs]; exact hh4)), na, os, ag, w, hp, S, _, r, xr, hw⟩
    first
      | exact wpAny_bind (wpAny_pure (wpAny_bind fin))
      | exact wpAny_bind fin
  | .cons cls2 i b rest, hds, hck, hpost => by
    have hs := g.stk
    have hf := g.frm
    have J3 : Inv X pins σ H { s' with heap := h3 } := J.landed nb fl3.1 up os ag
    obtain ⟨oe3, vs3, he3, hz3, hd3⟩ := fl3.there
    have notFr : ∀ {h : Heap} {o : Obj} {vs : Array Value}, h.FunFrames B (X.env :: X.outer) → h.get? a = some o → o.data = .fields vs → a ∉ frs (X.env :: X.outer) := fun {h o vs} ff e dd hm => by
      obtain ⟨_, o', e', hnf⟩ := ff.mem hm
      rw [e] at e'; cases e'
      exact hnf _ dd
    have nfr := notFr fl3.2.2.1 he3 hd3
    have nL : a ≠ X.env.locals := fun z => nfr (List.mem_filterMap.mpr ⟨X.env, List.mem_cons_self, by rw [hf, z]⟩)
    have nB : B.get? a = none := fl3.2.1
    have nI : ∀ o, sI.heap.get? a = some o → False := fun o q => by
      have := nb a o q (by rw [hs]; exact nfr)
      rw [nB] at this; cases this
    have n0 : X.s_0.heap.get? a = none := by
      cases q : X.s_0.heap.get? a with
      | none => rfl
      | some o =>
        obtain ⟨o', q'⟩ := J.base.there a o q (by rw [g.exn]; exact List.not_mem_nil)
        exact (nI o' q').elim
    have np : ∀ p ∈ X.pn ++ pins, p.1 ≠ a := fun p hp z => by
      have := (J.pin p hp).1
      rw [z] at this
      exact nI _ this
    have LT : PySem.W.Looks (model X.prog X.w) h3 (typeOf (.ref a)) cls := fun A Q E s k q => wpAny_typeOf_ref (k _ _ he3) (by rw [hz3.1]; exact q)
    obtain ⟨c, fs, rfl⟩ : ∃ c fs, x = .xn c fs := by
      cases x with
      | xn c fs => exact ⟨c, fs, rfl⟩
      | _ => exact (show False from xr).elim
    have xr0 := xr
    obtain ⟨C, hcm, hcls, _⟩ := xr0
    have ecm : w.oa.cm = e.w.oa.cm := r.gr.o.cm
    rw [ecm] at hcm
    match hds, hck with
    | [], hck => simp [chkHs] at hck
    | .ExceptHandler ty nm sts pos' :: hds, hck =>
      match ty, hck with
      | none, hck => simp [chkHs] at hck
      | some tx, hck =>
      cases tx <;> first
        | (simp [chkHs] at hck; done)
        | skip
      rename_i y py
      simp only [chkHs, Bool.and_eq_true, decide_eq_true_eq, Bool.not_eq_true', List.isEmpty_eq_false_iff] at hck
      obtain ⟨⟨⟨⟨⟨⟨⟨rfl, h1⟩, h2⟩, hnm⟩, hqu⟩, hne⟩, hsts⟩, hrest⟩ := hck
      rw [evHs] at hpost
      cases hi : T.isa c cls2 with
      | none =>
        have : isX (T.cfg n) (.xn c fs) cls2 = none := hi
        rw [this] at hpost
        exact (show False from hpost).elim
      | some bb =>
        have hX : isX (T.cfg n) (.xn c fs) cls2 = some bb := hi
        rw [hX] at hpost
        obtain ⟨C', hcm', A⟩ := g.isa c cls2 bb hi
        rw [hcm] at hcm'
        cases hcm'
        obtain ⟨v2, v, hcl, _, _, hexm, _⟩ := A.there
        rw [← hcls] at hexm
        have LM := PySem.W.exm_one (M := model X.prog X.w) J3.kIn LT hexm
        have S3 := inv_suiteV J3 he3 hz3 hd3 na nL n0 np
        have test : ∀ {Q : Value → Shared → Prop} {E : Value → Shared → Prop}, Q v2 { s' with heap := h3 } → wpAny (model X.prog X.w) (X.A.mark (some (.ref a))) (eval (.Name cls2 py) X.env) Q E { s' with heap := h3 } := fun {Q E} q => by
          rcases hcl with hm | ⟨hm, hv, hnn⟩
          · exact ld_glob (X := X.suite a (X.pn ++ pins)) S3 (g.gl h1) hm q (okN1 h2)
          · exact ld_blt (X := X.suite a (X.pn ++ pins)) S3 (g.gl h1) hm hv q hnn (okN1 h2)
        refine wpAny_handleBy_cons (codeAny_handlers_test ?_) (by intro q; cases q)
        refine test (LM.here ?_)
        cases bb with
        | false => exact handle_go g ok J nb up fl3 na os ag r xr u0 rest hds hrest hpost
        | true =>
          obtain ⟨b0, suite, rfl⟩ := List.exists_cons_of_ne_nil hne
          have gq : Gq T n N sc e wx (X.suite a (X.pn ++ pins)) := ⟨g.hN, g.nd, g.hsc, g.units, g.glob, g.blt, g.tpl, g.dct, g.isa, g.xfs, g.ins⟩
          have psu := allQs (e := e) (wx := wx) b gq g.kind g.fn hqu hsts
          match i, nm, hnm with
          | none, none, _ =>
            refine codeAny_handlers_suite ?_
            refine HandSPX.lands_againZ fl3 fun h4 fl4 up4 => ?_
            have J4 : Inv X pins σ H { s' with heap := h4 } := J.landed nb fl4.1 (up.trans up4) os ag
            obtain ⟨oe4, vs4, he4, hz4, hd4⟩ := fl4.there
            have S4 := inv_suiteV J4 he4 hz4 hd4 na nL n0 np
            obtain ⟨w1, sb, eoa, r1, rp⟩ := rel_caught r xr na
            have u1 : Up w0 w1.toGw := u0.trans ⟨sb, by rw [eoa]; exact .refl _⟩
            have hp1 : PostS X.K e wx w0 De (((evSs (T.cfg n) b S).bind (offF none)) hp) := hpost
            have hsu : PostS X.K e wx w1.toGw De (evSs (T.cfg n) b S hp) := by
              refine PostS.up u1 ?_
              cases q : evSs (T.cfg n) b S hp with
              | ok f hp' =>
                rw [bind_ok q] at hp1
                cases f with
                | rt d fr =>
                  cases fr with
                  | true => exact (show False from hp1).elim
                  | false => exact hp1
                | _ => exact hp1
              | exc x2 hp' => rw [bind_exc q] at hp1; exact hp1
              | stuck => rw [bind_st q] at hp1; exact (show False from hp1).elim
            refine wpAny_mono (psu.run [] _ σ _ De S4 ⟨w1, hp, S, r1, hsu⟩) (fun f s6 hsp => ?_) (fun _ _ z => False.elim z)
            cases f with
            | next =>
              obtain ⟨σ6, H6, S6, q6⟩ := hsp
              exact ⟨_, _, inv_unsuiteV S6 ok, q6⟩
            | brk =>
              obtain ⟨σ6, H6, S6, q6⟩ := hsp
              exact ⟨_, _, inv_unsuiteV S6 ok, q6⟩
            | cont =>
              obtain ⟨σ6, H6, S6, q6⟩ := hsp
              exact ⟨_, _, inv_unsuiteV S6 ok, q6⟩
            | ret u =>
              obtain ⟨v6, σ6, H6, S6, r6, q6⟩ := hsp
              exact ⟨_, _, _, inv_unsuiteV S6 ok, r6, q6⟩
          | some i, some nmx, hnm =>
            simp only [chkX, Bool.and_eq_true, decide_eq_true_eq] at hnm
            have hNi : X.N[i]? = some nmx := g.nm hnm.1
            have hln : X.env.kindOf nmx = some .local := by
              show X.env.scope.names.lookup nmx = _
              rw [g.hsc]; exact hnm.2
            have hNd : X.N.Nodup := by rw [g.hN]; exact g.nd
            refine codeAny_handlers_suite_as ?_
            refine HandSPX.lands_againZ fl3 fun h4 fl4 up4 => ?_
            have J4 : Inv X pins σ H { s' with heap := h4 } := J.landed nb fl4.1 (up.trans up4) os ag
            obtain ⟨oe4, vs4, he4, hz4, hd4⟩ := fl4.there
            have S4 := inv_suiteV J4 he4 hz4 hd4 na nL n0 np
            obtain ⟨w1, sb, eoa, r1, rp⟩ := rel_caught r xr na
            obtain ⟨ω2, r2⟩ := r1.setVal i rp
            have u1 : Up w0 (⟨w1.toGw, ω2⟩ : Wd).toGw := u0.trans ⟨sb, by rw [eoa]; exact .refl _⟩
            have hp1 : PostS X.K e wx w0 De (((evSs (T.cfg n) b (S.set i (.val (.xn c fs)))).bind (offF (some i))) hp) := hpost
            have hsu : PostS X.K e wx w1.toGw { nx := fun σ' H' => De.nx (σ'.set i none) H', rt := De.rt, bk := fun σ' H' => De.bk (σ'.set i none) H', ct := fun σ' H' => De.ct (σ'.set i none) H' } (evSs (T.cfg n) b (S.set i (.val (.xn c fs))) hp) := by
              cases q : evSs (T.cfg n) b (S.set i (.val (.xn c fs))) hp with
              | ok f hp' =>
                rw [bind_ok q] at hp1
                cases f with
                | nx S' =>
                  intro w' σ' H' y rr
                  obtain ⟨w2, e2, r3⟩ := rel_off rr i
                  exact hp1 w2 _ H' (by rw [e2]; exact u1.trans y) r3
                | bk S' =>
                  intro w' σ' H' y rr
                  obtain ⟨w2, e2, r3⟩ := rel_off rr i
                  exact hp1 w2 _ H' (by rw [e2]; exact u1.trans y) r3
                | ct S' =>
                  intro w' σ' H' y rr
                  obtain ⟨w2, e2, r3⟩ := rel_off rr i
                  exact hp1 w2 _ H' (by rw [e2]; exact u1.trans y) r3
                | rt d fr =>
                  cases fr with
                  | true => exact (show False from hp1).elim
                  | false => exact fun v w' S' σ' H' y rr rs => hp1 v w' S' σ' H' (u1.trans y) rr rs
              | exc x2 hp' => rw [bind_exc q] at hp1; exact hp1
              | stuck => rw [bind_st q] at hp1; exact (show False from hp1).elim
            refine store_ok (X := X.suite a (X.pn ++ pins)) (v := .ref a) S4 hNd hNi (.inl hln) rfl (fun s5 S5 => ?_) (.inr hln)
            refine wpAny_mono (psu.run [] s5 _ _ _ S5 ⟨⟨w1.toGw, ω2⟩, hp, _, r2, hsu⟩) (fun f s6 hsp => ?_) (fun _ _ z => False.elim z)
            have end_ : ∀ {σ6 : St} {H6 : Hp} {Q : Shared → Prop}, Inv (X.suite a (X.pn ++ pins)) [] σ6 H6 s6 → (∀ s7, Inv X pins (σ6.set i none) H6 s7 → Q s7) →
                wpAny (model X.prog X.w) X.A (do bindName X.env nmx .none; unbindBehindTheSuite X.env nmx pos') (fun _ s7 => Q s7) X.xe s6 := fun {σ6 H6 Q} S6 hq => gone_ok (inv_unsuiteV S6 ok) hNd hNi hln hq
            cases f with
            | next =>
              obtain ⟨σ6, H6, S6, q6⟩ := hsp
              exact end_ S6 fun s7 J7 => ⟨_, _, J7, q6⟩
            | brk =>
              obtain ⟨σ6, H6, S6, q6⟩ := hsp
              exact end_ S6 fun s7 J7 => ⟨_, _, J7, q6⟩
            | cont =>
              obtain ⟨σ6, H6, S6, q6⟩ := hsp
              exact end_ S6 fun s7 J7 => ⟨_, _, J7, q6⟩
            | ret u =>
              obtain ⟨v6, σ6, H6, S6, r6, q6⟩ := hsp
              exact end_ S6 fun s7 J7 => ⟨_, _, _, J7, r6, q6⟩
          | none, some _, hnm => simp [chkX] at hnm
          | some _, none, hnm => simp [chkX] at hnm
theorem ss_try (g : Gf T n N sc e wx X) {b : Ss} {hs : Hs} {el : Ss} {body orelse : List Stmt} {h0 : ExceptHandler} {hds : List ExceptHandler} {pos : Pos}
    (hb : ∀ (e' : En) (wx' : D → RS → HP → Prop) (X' : Cx), Gf T n N sc e' wx' X' → PSs X' body (TSsc X'.K e' (T.cfg n) wx' b)) (hel : PSs X orelse (TSsc X.K e (T.cfg n) wx el)) (hh : chkHs N T.has sc hs (h0 :: hds) = true) :
    PS X (.Try body (h0 :: hds) orelse [] pos) (TSc X.K e (T.cfg n) wx (.try b hs el)) := by
  refine ⟨fun pins s σ H De I ⟨w, hp, S, r, h⟩ => ?_⟩
  have ok := I.ok
  have hfr : X.A.frames = some (X.env :: X.outer) := by rw [ok.frames, g.stk]
  rw [evS] at h
  have gt : ∀ (wx' : D → RS → HP → Prop) (pn : List (Addr × Obj)) (xe : Value → Shared → Prop), Takes (X.tr pn xe) (WW X.K ⟨w.toGw, offH w H⟩ wx') → PassesOwn (model X.prog X.w) X.A X.env xe → Gf T n N sc ⟨w.toGw, offH w H⟩ wx' (X.tr pn xe) := fun wx' pn xe tk po => {
    hN := g.hN
    nd := g.nd
    hsc := g.hsc
    units := g.units
    glob := g.glob
    blt := g.blt
    tpl := g.tpl
    dct := g.dct
    isa := fun c1 c2 b hi => by
      obtain ⟨C, h1, h2⟩ := g.isa c1 c2 b hi
      exact ⟨C, by show w.oa.cm c1 = _; rw [r.gr.o.cm]; exact h1, h2⟩
    xfs := fun c fs hi => by
      obtain ⟨C, h1, h2⟩ := g.xfs c fs hi
      exact ⟨C, by show w.oa.cm c = _; rw [r.gr.o.cm]; exact h1, h2⟩
    ins := fun c fs hi => by
      obtain ⟨C, h1, h2⟩ := g.ins c fs hi
      exact ⟨C, by show w.oa.cm c = _; rw [r.gr.o.cm]; exact h1, h2⟩
    mth := fun c m f hi => by
      obtain ⟨C, a, fd, ps, fn, h1, h2, h3, h4, h5, h6, h7⟩ := g.mth c m f hi
      exact ⟨C, a, fd, ps, fn, by show w.oa.cm c = _; rw [r.gr.o.cm]; exact h1, h2, h3, h4, h5, h6, by show FnOk _ _ _ _ _ _ _ _ _ _ (spF X.K w.oa.cm T n f fn.ps); rw [r.gr.o.cm]; exact h7⟩
    mkc := fun c gs m hi hm => by
      obtain ⟨f, C, a, fd, ps, fn, h0, h1, h2, h3, h4, h5, h6, h7⟩ := g.mkc c gs m hi hm
      exact ⟨f, C, a, fd, ps, fn, h0, by show w.oa.cm c = _; rw [r.gr.o.cm]; exact h1, h2, h3, h4, h5, h6, by show FnOk _ _ _ _ _ _ _ _ _ _ (spF X.K w.oa.cm T m f fn.ps); rw [r.gr.o.cm]; exact h7⟩
    calm := g.calm
    room := g.room
    call := fun f fn hf hmt => by
      obtain ⟨a, fd, ps, h1, h2, h3, h4, h5⟩ := g.call f fn hf hmt
      exact ⟨a, fd, ps, h1, h2, h3, h4, by show FnOk _ _ _ _ _ _ _ _ _ _ (spF X.K w.oa.cm T n f fn.ps); rw [r.gr.o.cm]; exact h5⟩
    ini := fun c f fs hi => by
      obtain ⟨C, h1, h2⟩ := g.ini c f fs hi
      exact ⟨C, by show w.oa.cm c = _; rw [r.gr.o.cm]; exact h1, h2⟩
    tk := tk
    fn := g.fn
    own := po
    kind := g.kind
    stk := g.stk
    frm := g.frm
    exn := g.exn
    rai := fun c hi => by
      obtain ⟨C, h1, h2⟩ := g.rai c hi
      exact ⟨C, by show w.oa.cm c = _; rw [r.gr.o.cm]; exact h1, h2⟩ }
  refine wpAny_Try_except ?_
  refine wpAny_mono ((hb _ _ _ (gt (fun x S' hp' => PostS X.K e wx w.toGw De (evHs (T.cfg n) hs x S' hp')) (X.pn ++ pins) (fun e s₁ => wpAny (model X.prog X.w) X.A (noteFrame e X.env) (fun _ s₂ => wpAny (model X.prog X.w) X.A (setFlight e none) (fun _ s₃ =>
    wpAny (model X.prog X.w) X.A (handleBy e X.env (h0 :: hds)) (SP X pins De) X.xe s₃) X.xe s₂) X.xe s₁) (fun u s' xx => ?_) PassesOwn.looking)).run [] s σ H { nx := fun σ' H' => TSsc X.K e (T.cfg n) wx el De σ' H', rt := De.rt, bk := De.bk, ct := De.ct } (I.toTry _) ⟨w, hp, S, rel_mid r, ?_⟩) (fun f s1 hsp => ?_) (fun e s1 he => he)
  · -- the catch
    obtain ⟨a, B, sI, pins', σ', H', cls, d, rfl, J', nb, up, sky, na, os, ag, w1, hp1, S1, x, r1, xr, hw⟩ := xx
    have J : Inv X pins σ' H' sI := J'.ofTry ok
    have sky' : Sky B (X.env :: X.outer) a (Zc cls d) X.env.locals s'.heap := by rw [← g.stk]; exact sky
    show wpAny (model X.prog X.w) X.A (noteFrame (.ref a) X.env) _ _ _
    refine Sky.land Zc.steady hfr g.frm sky' fun h3 fl3 up3 => ?_
    exact handle_go g ok J nb (up.trans up3) fl3 na os ag (rel_out r r1) (xr_out r xr) ⟨r1.gr.g, r1.gr.o⟩ hs _ hh hw
  · -- the body's wish
    unfold tryM at h
    cases q : evSs (T.cfg n) b S hp with
    | ok f hp' =>
      rw [q] at h
      cases f with
      | nx S' => exact fun w' σ' H' y rr => ⟨w', hp', S', rel_out r rr, PostS.up y h⟩
      | ct S' => exact fun w' σ' H' y rr => h w' σ' H' y (rel_out r rr)
      | bk S' => exact fun w' σ' H' y rr => h w' σ' H' y (rel_out r rr)
      | rt d fr => exact fun v w' S' σ' H' y rr rs => h v w' S' σ' H' y (rel_out r rr) (Res1.base (fun b hb => mid_none r hb) rs)
    | exc x hp' => rw [q] at h; exact h
    | stuck => rw [q] at h; exact h
  · cases f with
    | next =>
      obtain ⟨σ', H', J', q⟩ := hsp
      exact hel.run pins s1 σ' H' De (J'.ofTry ok) q
    | brk =>
      obtain ⟨σ', H', J', q⟩ := hsp
      exact ⟨σ', H', J'.ofTry ok, q⟩
    | cont =>
      obtain ⟨σ', H', J', q⟩ := hsp
      exact ⟨σ', H', J'.ofTry ok, q⟩
    | ret u =>
      obtain ⟨v, σ', H', J', r, q⟩ := hsp
      exact ⟨v, σ', H', J'.ofTry ok, r, q⟩
mutual
theorem allS : ∀ (c : S) {X : Cx} {e : En} {wx : D → RS → HP → Prop} {st : Stmt}, Gf T n N sc e wx X → chkS N T.has sc c st = true → PS X st (TSc X.K e (T.cfg n) wx c)
  | .set i c, X, e, wx, st, g, h => by
    cases st <;> first
      | (simp [chkS] at h; done)
      | skip
    rename_i ts v pos
    match ts, h with
    | [tx], h =>
      cases tx <;> first
        | (simp [chkS] at h; done)
        | skip
      simp only [chkS, Bool.and_eq_true, Bool.not_eq_true'] at h
      exact (ss_setC g h.1.1.1 h.1.1.2 h.1.2 h.2).1
    | [], h => simp [chkS] at h
    | _ :: _ :: _, h => simp [chkS] at h
  | .seto i c, X, e, wx, st, g, h => by
    cases st <;> first
      | (simp [chkS] at h; done)
      | skip
    rename_i ts v pos
    match ts, h with
    | [tx], h =>
      cases tx <;> first
        | (simp [chkS] at h; done)
        | skip
      simp only [chkS, Bool.and_eq_true, Bool.not_eq_true'] at h
      exact (ss_setC g h.1.1.1 h.1.1.2 h.1.2 h.2).2
    | [], h => simp [chkS] at h
    | _ :: _ :: _, h => simp [chkS] at h
  | .frz i, X, e, wx, st, g, h => by simp [chkS] at h
  | .kill is, X, e, wx, st, g, h => by simp [chkS] at h
  | .hpi i, X, e, wx, st, g, h => by simp [chkS] at h
  | .unp is c, X, e, wx, st, g, h => by
    cases st <;> first
      | (simp [chkS] at h; done)
      | skip
    rename_i ts v pos
    match ts, h with
    | [tx], h =>
      cases tx <;> first
        | (simp [chkS] at h; done)
        | skip
      simp only [chkS, Bool.and_eq_true, Bool.not_eq_true'] at h
      exact ss_unp g h.1.1.1.1 h.1.2 h.2 ((allC c g.toGq (.inr g.toGd) h.1.1.2).v h.1.1.1.2)
    | [], h => simp [chkS] at h
    | _ :: _ :: _, h => simp [chkS] at h
  | .sidx i ix c, X, e, wx, st, g, h => by
    cases st <;> first
      | (simp [chkS] at h; done)
      | skip
    rename_i ts v pos
    match ts, h with
    | [tx], h =>
      cases tx <;> first
        | (simp [chkS] at h; done)
        | skip
      rename_i o ei sp
      cases o <;> first
        | (simp [chkS] at h; done)
        | skip
      simp only [chkS, Bool.and_eq_true, decide_eq_true_eq, Bool.not_eq_true'] at h
      obtain ⟨⟨⟨⟨⟨⟨h1, h2⟩, h3⟩, k1⟩, k2⟩, h4⟩, h5⟩ := h
      exact ss_sidx g h1 h2 h3 (noSlice h4) ((allC ix g.toGq (.inr g.toGd) h4).v k1) ((allC c g.toGq (.inr g.toGd) h5).v k2) (asgSub h4 _ _ _)
    | [], h => simp [chkS] at h
    | _ :: _ :: _, h => simp [chkS] at h
  | .aug i op c, X, e, wx, st, g, h => by
    cases st <;> first
      | (simp [chkS] at h; done)
      | skip
    rename_i tx op' v pos
    cases tx <;> first
      | (simp [chkS] at h; done)
      | skip
    simp only [chkS, Bool.and_eq_true, decide_eq_true_eq, Bool.not_eq_true'] at h
    obtain ⟨⟨⟨⟨h1, rfl⟩, h3⟩, k1⟩, h4⟩ := h
    exact ss_aug g h1 h3 ((allC c g.toGq (.inr g.toGd) h4).v k1)
  | .app i c, X, e, wx, st, g, h => by
    cases st <;> first
      | (simp [chkS] at h; done)
      | skip
    rename_i v pos
    cases v <;> first
      | (simp [chkS] at h; done)
      | skip
    rename_i fe es ks cp
    cases fe <;> first
      | (simp [chkS] at h; done)
      | skip
    rename_i o m ap
    cases o <;> first
      | (simp [chkS] at h; done)
      | skip
    match es, h with
    | [ex], h =>
      simp only [chkS, Bool.and_eq_true, decide_eq_true_eq, List.isEmpty_iff] at h
      obtain ⟨⟨⟨⟨⟨⟨h1, h2⟩, h3⟩, rfl⟩, rfl⟩, h6⟩, k1, h7⟩ := h
      rw [Bool.not_eq_true'] at k1
      exact ss_app g h1 h2 h3 h6 (noStar h7) ((allC c g.toGq (.inr g.toGd) h7).v k1)
    | [], h => simp [chkS] at h
    | _ :: _ :: _, h => simp [chkS] at h
  | .exl i c, X, e, wx, st, g, h => by
    cases st <;> first
      | (simp [chkS] at h; done)
      | skip
    rename_i v pos
    cases v <;> first
      | (simp [chkS] at h; done)
      | skip
    rename_i fe es ks cp
    cases fe <;> first
      | (simp [chkS] at h; done)
      | skip
    rename_i o m ap
    cases o <;> first
      | (simp [chkS] at h; done)
      | skip
    match es, h with
    | [ex], h =>
      simp only [chkS, Bool.and_eq_true, decide_eq_true_eq, List.isEmpty_iff] at h
      obtain ⟨⟨⟨⟨⟨⟨h1, h2⟩, h3⟩, rfl⟩, rfl⟩, h6⟩, k1, h7⟩ := h
      rw [Bool.not_eq_true'] at k1
      exact ss_exl g h1 h2 h3 h6 (noStar h7) ((allC c g.toGq (.inr g.toGd) h7).v k1)
    | [], h => simp [chkS] at h
    | _ :: _ :: _, h => simp [chkS] at h
  | .pop i, X, e, wx, st, g, h => by
    cases st <;> first
      | (simp [chkS] at h; done)
      | skip
    rename_i v pos
    cases v <;> first
      | (simp [chkS] at h; done)
      | skip
    rename_i fe es ks cp
    cases fe <;> first
      | (simp [chkS] at h; done)
      | skip
    rename_i o m ap
    cases o <;> first
      | (simp [chkS] at h; done)
      | skip
    simp only [chkS, Bool.and_eq_true, decide_eq_true_eq, List.isEmpty_iff] at h
    obtain ⟨⟨⟨⟨⟨⟨h1, h2⟩, h3⟩, rfl⟩, rfl⟩, h6⟩, rfl⟩ := h
    exact ss_pop g h1 h2 h3 h6
  | .nev, X, e, wx, st, g, h => ⟨fun _ _ _ _ _ _ ⟨w, hp, S, r, h⟩ => by
    rw [evS] at h
    exact (show False from h).elim⟩
  | .spop j i ix, X, e, wx, st, g, h => by
    cases st <;> first
      | (simp [chkS] at h; done)
      | skip
    rename_i ts v pos
    match ts, v, h with
    | [.Name x px], .Call (.Attribute (.Name y py) m ap) es ks cp, h =>
      simp only [chkS, Bool.and_eq_true, decide_eq_true_eq, List.isEmpty_iff] at h
      obtain ⟨⟨⟨⟨⟨⟨⟨h1, h2⟩, h3⟩, h4⟩, rfl⟩, rfl⟩, h5⟩, h6⟩ := h
      match ix, es, h6 with
      | .no, [], _ => exact ss_spop0 g h1 h2 h3 h4 h5
      | .so c, [ex], h6 =>
        simp only [Bool.and_eq_true, Bool.not_eq_true'] at h6
        exact ss_spop1 g h1 h2 h3 h4 h5 (noStar h6.2) ((allC c g.toGq (.inr g.toGd) h6.2).v h6.1)
      | .no, _ :: _, h6 => cases h6
      | .so _, [], h6 => cases h6
      | .so _, _ :: _ :: _, h6 => cases h6
  | .hset c ix ec, X, e, wx, st, g, h => by
    cases st <;> first
      | (simp [chkS] at h; done)
      | skip
    rename_i ts v pos
    match ts, h with
    | [tx], h =>
      cases tx <;> first
        | (simp [chkS] at h; done)
        | skip
      simp only [chkS, Bool.and_eq_true, Bool.not_eq_true'] at h
      obtain ⟨⟨⟨⟨⟨k1, k2⟩, k3⟩, h1⟩, h2⟩, h3⟩ := h
      exact ss_hset (noSlice h2) ((allC c g.toGq (.inr g.toGd) h1).v k1) ((allC ix g.toGq (.inr g.toGd) h2).v k2) ((allC ec g.toGq (.inr g.toGd) h3).v k3) (asgSub h2 _ _ _)
    | [], h => simp [chkS] at h
    | _ :: _ :: _, h => simp [chkS] at h
  | .dset i k c, X, e, wx, st, g, h => by
    cases st <;> first
      | (simp [chkS] at h; done)
      | skip
    rename_i ts v pos
    match ts, h with
    | [tx], h =>
      cases tx <;> first
        | (simp [chkS] at h; done)
        | skip
      rename_i o ei sp
      cases o <;> first
        | (simp [chkS] at h; done)
        | skip
      simp only [chkS, Bool.and_eq_true, decide_eq_true_eq, Bool.not_eq_true'] at h
      obtain ⟨⟨⟨⟨⟨⟨h1, h2⟩, h3⟩, k1⟩, k2⟩, h4⟩, h5⟩ := h
      exact ss_dset g h1 h2 h3 ((allC k g.toGq (.inr g.toGd) h4).v k1) ((allC c g.toGq (.inr g.toGd) h5).v k2)
    | [], h => simp [chkS] at h
    | _ :: _ :: _, h => simp [chkS] at h
  | .fset c f ec, X, e, wx, st, g, h => by
    cases st <;> first
      | (simp [chkS] at h; done)
      | skip
    rename_i ts v pos
    match ts, h with
    | [tx], h =>
      cases tx <;> first
        | (simp [chkS] at h; done)
        | skip
      simp only [chkS, Bool.and_eq_true, Bool.not_eq_true', decide_eq_true_eq] at h
      obtain ⟨⟨⟨⟨rfl, k1⟩, k2⟩, h1⟩, h2⟩ := h
      exact ss_fset g.toGq ((allC c g.toGq (.inr g.toGd) h1).v k1) ((allC ec g.toGq (.inr g.toGd) h2).v k2)
    | [], h => simp [chkS] at h
    | _ :: _ :: _, h => simp [chkS] at h
  | .faug c f op i, X, e, wx, st, g, h => by
    cases st <;> first
      | (simp [chkS] at h; done)
      | skip
    rename_i tx op' v pos
    cases tx <;> first
      | (simp [chkS] at h; done)
      | skip
    cases v <;> first
      | (simp [chkS] at h; done)
      | skip
    rename_i cv kk cpos
    cases cv <;> first
      | (simp [chkS] at h; done)
      | skip
    simp only [chkS, Bool.and_eq_true, decide_eq_true_eq, Bool.not_eq_true'] at h
    obtain ⟨⟨⟨⟨⟨rfl, rfl⟩, h3⟩, rfl⟩, k1⟩, h4⟩ := h
    exact ss_faug g.toGq (by simpa using h3) ((allC c g.toGq (.inr g.toGd) h4).v k1)
  | .mext c ec, X, e, wx, st, g, h => by
    cases st <;> first
      | (simp [chkS] at h; done)
      | skip
    rename_i v pos
    cases v <;> first
      | (simp [chkS] at h; done)
      | skip
    rename_i fe es ks cp
    cases fe <;> first
      | (simp [chkS] at h; done)
      | skip
    rename_i o m ap
    match es, h with
    | [ex], h =>
      simp only [chkS, Bool.and_eq_true, decide_eq_true_eq, List.isEmpty_iff, Bool.not_eq_true'] at h
      obtain ⟨⟨⟨⟨⟨⟨h0, rfl⟩, rfl⟩, h1⟩, k1⟩, h2⟩, k2, h3⟩ := h
      exact ss_mext g h0 h1 (noStar h3) ((allC c g.toGq (.inr g.toGd) h2).v k1) ((allC ec g.toGq (.inr g.toGd) h3).v k2)
    | [], h => simp [chkS] at h
    | _ :: _ :: _, h => simp [chkS] at h
  | .foro t c b, X, e, wx, st, g, h => by
    cases st <;> first
      | (simp [chkS] at h; done)
      | skip
    rename_i te ie body orelse pos
    simp only [chkS, Bool.and_eq_true, Bool.not_eq_true', List.isEmpty_iff] at h
    obtain ⟨⟨⟨⟨h1, k1⟩, h2⟩, h3⟩, rfl⟩ := h
    exact ss_foro g h1 ((allC c g.toGq (.inr g.toGd) h2).v k1) (allSs b g h3) (noSet h2 _)
  | .rai cls as, X, e, wx, st, g, h => by
    obtain ⟨px, e1, es, cp, pos, rfl, h1, h2, hpk, h5⟩ := chk_rai h
    exact ss_rai g h1 h2 (starCs h5) ((allA as g.toGq (.inr g.toGd) h5).1 hpk)
  | .try b hs el, X, e, wx, st, g, h => by
    cases st <;> first
      | (simp [chkS] at h; done)
      | skip
    rename_i body hds orelse fin pos
    simp only [chkS, Bool.and_eq_true, List.isEmpty_iff, Bool.not_eq_true', List.isEmpty_eq_false_iff] at h
    obtain ⟨⟨⟨⟨h1, h2⟩, hne⟩, h3⟩, rfl⟩ := h
    obtain ⟨h0, hds, rfl⟩ := List.exists_cons_of_ne_nil hne
    exact ss_try g (fun e' wx' X' g' => allSs b g' h1) (allSs el g h3) h2
  | .ex c, X, e, wx, st, g, h => by
    cases st <;> first
      | (simp [chkS] at h; done)
      | skip
    rename_i v pos
    simp only [chkS, Bool.and_eq_true, Bool.not_eq_true'] at h
    exact ss_ex (by
      have h2 := h.2
      cases v <;> first
        | rfl
        | cases h2) ((allC c g.toGq (.inr g.toGd) h.1.2).v h.1.1)
  | .ret c, X, e, wx, st, g, h => by
    cases st <;> first
      | (simp [chkS] at h; done)
      | skip
    rename_i v pos
    cases v with
    | none => simp [chkS] at h
    | some v =>
      simp only [chkS, Bool.and_eq_true, Bool.not_eq_true'] at h
      exact ss_ret ((allC c g.toGq (.inr g.toGd) h.2).v h.1)
  | .retf c, X, e, wx, st, g, h => by
    cases st <;> first
      | (simp [chkS] at h; done)
      | skip
    rename_i v pos
    cases v with
    | none => simp [chkS] at h
    | some v =>
      simp only [chkS, Bool.and_eq_true, Bool.not_eq_true'] at h
      exact ss_retf ((allC c g.toGq (.inr g.toGd) h.2).v h.1)
  | .retv i, X, e, wx, st, g, h => by
    cases st <;> first
      | (simp [chkS] at h; done)
      | skip
    rename_i v pos
    cases v with
    | none => simp [chkS] at h
    | some v =>
      cases v <;> first
        | (simp [chkS] at h; done)
        | skip
      simp only [chkS, Bool.and_eq_true, decide_eq_true_eq] at h
      exact ss_retv g h.1.1 h.1.2 h.2
  | .retN, X, e, wx, st, g, h => by
    cases st <;> first
      | (simp [chkS] at h; done)
      | skip
    rename_i v pos
    cases v with
    | some v => simp [chkS] at h
    | none =>
      refine imS ps_retN fun De σ H ⟨w, hp, S, r, h⟩ => ?_
      rw [evS] at h
      exact h .non w S σ H (.refl _) r .non
  | .ite c a b, X, e, wx, st, g, h => by
    cases st <;> first
      | (simp [chkS] at h; done)
      | skip
    simp only [chkS, Bool.and_eq_true] at h
    exact ss_ite (allC c g.toGq (.inr g.toGd) h.1.1).t (allSs a g h.1.2) (allSs b g h.2)
  | .for t it b, X, e, wx, st, g, h => by
    cases st <;> first
      | (simp [chkS] at h; done)
      | skip
    simp only [chkS, Bool.and_eq_true, List.isEmpty_iff] at h
    obtain ⟨⟨⟨h1, h2⟩, h3⟩, rfl⟩ := h
    exact ss_for g h1 (allI it g.toGd h2) (allSs b g h3) (noSetI h2 _)
  | .whl c b, X, e, wx, st, g, h => by
    cases st <;> first
      | (simp [chkS] at h; done)
      | skip
    simp only [chkS, Bool.and_eq_true, List.isEmpty_iff] at h
    obtain ⟨⟨h1, h2⟩, rfl⟩ := h
    exact ss_whl g (allC c g.toGq (.inr g.toGd) h1).t (allSs b g h2)
  | .pas, X, e, wx, st, g, h => by
    cases st <;> first
      | (simp [chkS] at h; done)
      | skip
    refine imS ps_pass fun De σ H ⟨w, hp, S, r, h⟩ => ?_
    rw [evS] at h
    exact h w σ H (.refl _) r
  | .cont, X, e, wx, st, g, h => by
    cases st <;> first
      | (simp [chkS] at h; done)
      | skip
    refine imS ps_continue fun De σ H ⟨w, hp, S, r, h⟩ => ?_
    rw [evS] at h
    exact h w σ H (.refl _) r
  | .brk, X, e, wx, st, g, h => by
    cases st <;> first
      | (simp [chkS] at h; done)
      | skip
    refine imS ps_break fun De σ H ⟨w, hp, S, r, h⟩ => ?_
    rw [evS] at h
    exact h w σ H (.refl _) r
theorem allSs : ∀ (c : Ss) {X : Cx} {e : En} {wx : D → RS → HP → Prop} {sts : List Stmt}, Gf T n N sc e wx X → chkSs N T.has sc c sts = true → PSs X sts (TSsc X.K e (T.cfg n) wx c)
  | .nil, X, e, wx, sts, g, h => by
    cases sts with
    | nil => exact ss_nil
    | cons a b => simp [chkSs] at h
  | .cons a r, X, e, wx, sts, g, h => by
    cases hs : a.soft with
    | true =>
      have h : chkSs N T.has sc r sts = true := by
        cases sts <;> (simp only [chkSs, hs, if_true] at h; exact h)
      have p := allSs r g h
      cases a <;> first
        | (cases hs; done)
        | exact ss_frz p
        | exact ss_kill p
        | exact ss_hpi p
    | false =>
      cases sts with
      | nil => simp [chkSs, hs] at h
      | cons s ss =>
        simp only [chkSs, hs, Bool.false_eq_true, if_false, Bool.and_eq_true] at h
        exact ss_cons (allS a g h.1) (allSs r g h.2)
end
end
end RR

namespace RR
open PySem L2

/-- a def's text is its code -/
def chkF (F : Str → Bool) (fn : Fn) (ps : List Str) (st : Stmt) : Bool := C8.scC fn.N ps (defScope st) && decide (ps.length = fn.ps) && chkSs fn.N F (defScope st) fn.body (defBody st)
/-- a value of the module -/
def kD (K : PySem.W.Frag) : Nat → D → Value → Bool
  | _, .non, .none => true
  | _, .bl a, .bool b => decide (a = b)
  | _, .int a, .int b _ => decide (a = b)
  | _, .str a, .str b _ => decide (a = b)
  | n + 1, .tup ds, .ref p => match K.lookup p with
    | some ⟨c, none, .seq its _, _⟩ => decide (c = .type "tuple") && decide (its.size ≤ LINE) && decide (ds.length = its.size) && (ds.zip its.toList).all fun q => kD K n q.1 q.2
    | _ => false
  | n + 1, .lst ds, .ref p => match K.lookup p with
    | some ⟨c, none, .seq its _, _⟩ => decide (c = .type "list") && decide (its.size ≤ LINE) && decide (ds.length = its.size) && (ds.zip its.toList).all fun q => kD K n q.1 q.2
    | _ => false
  | _, _, _ => false
section
variable {K : PySem.W.Frag} {oa : Os} {G : Hp}
theorem kDs_rep {n : Nat} (ih : ∀ (d : D) (u : Value), kD K n d u = true → ∃ v, RelV v u ∧ Rep K oa G d v) : ∀ (ds : List D) (us : List Value), ds.length = us.length → ((ds.zip us).all fun q => kD K n q.1 q.2) = true → ∃ vs, Vals vs us ∧ Reps K oa G ds vs
  | [], [], _, _ => ⟨[], .nil, .nil⟩
  | [], _ :: _, h, _ => by simp at h
  | _ :: _, [], h, _ => by simp at h
  | d :: ds, u :: us, h, z => by
    simp only [List.zip_cons_cons, List.all_cons, Bool.and_eq_true] at z
    obtain ⟨v, h1, h2⟩ := ih d u z.1
    obtain ⟨vs, h3, h4⟩ := kDs_rep ih ds us (by simpa using h) z.2
    exact ⟨v :: vs, .cons h1 h3, .cons h2 h4⟩
theorem kD_rep : ∀ (n : Nat) (d : D) (u : Value), kD K n d u = true → ∃ v, RelV v u ∧ Rep K oa G d v := by
  intro n
  induction n with
  | zero =>
    intro d u h
    cases d <;> cases u <;> first
      | (simp [kD] at h; done)
      | skip
    · exact ⟨.non, rfl, .non⟩
    · simp only [kD, decide_eq_true_eq] at h; subst h; exact ⟨.bl _, rfl, .bl _⟩
    · simp only [kD, decide_eq_true_eq] at h; subst h; exact ⟨.int _, ⟨_, rfl⟩, .int _⟩
    · simp only [kD, decide_eq_true_eq] at h; subst h; exact ⟨.str _, ⟨_, rfl⟩, .str _⟩
  | succ n ih =>
    intro d u h
    cases d <;> cases u <;> first
      | (simp [kD] at h; done)
      | skip
    · exact ⟨.non, rfl, .non⟩
    · simp only [kD, decide_eq_true_eq] at h; subst h; exact ⟨.bl _, rfl, .bl _⟩
    · simp only [kD, decide_eq_true_eq] at h; subst h; exact ⟨.int _, ⟨_, rfl⟩, .int _⟩
    · simp only [kD, decide_eq_true_eq] at h; subst h; exact ⟨.str _, ⟨_, rfl⟩, .str _⟩
    · rename_i ds p
      rw [kD] at h
      split at h
      · rename_i c its m sl hk
        simp only [Bool.and_eq_true, decide_eq_true_eq] at h
        obtain ⟨⟨⟨rfl, h1⟩, h2⟩, h3⟩ := h
        obtain ⟨vs, h4, h5⟩ := kDs_rep ih ds its.toList (by simpa using h2) h3
        exact ⟨.ref p, rfl, .tup (.inr ⟨_, its, m, hk, rfl, rfl, by rw [← line_eq]; exact h1, h4⟩) h5⟩
      · cases h
    · rename_i ds p
      rw [kD] at h
      split at h
      · rename_i c its m sl hk
        simp only [Bool.and_eq_true, decide_eq_true_eq] at h
        obtain ⟨⟨⟨rfl, h1⟩, h2⟩, h3⟩ := h
        obtain ⟨vs, h4, h5⟩ := kDs_rep ih ds its.toList (by simpa using h2) h3
        exact ⟨.ref p, rfl, .lst (.inr ⟨_, its, m, hk, rfl, rfl, rfl, by rw [← line_eq]; exact h1, h4⟩) h5⟩
      · cases h
end

theorem kD_uniq {K : PySem.W.Frag} (n : Nat) (d : D) (u : Value) (v v' : V) (h : kD K n d u = true) (h1 : RelV v u) (h2 : RelV v' u) : v' = v := by
  cases u <;> first
    | (cases n <;> cases d <;> simp [kD] at h; done)
    | skip
  all_goals (cases v <;> cases v' <;> first
    | rfl
    | (simp only [RelV] at h1 h2; grind))
theorem room_u {k : Nat} {A : Around} (r : Room k A) : A.units + 65 < cLine := by have := r.un; omega
/-- a def of the table stands in the module -/
structure DefAt (F : Str → Bool) (K : PySem.W.Frag) (mg : Str → Option Value) (f : Str) (fn : Fn) (st : Stmt) (a : Addr) (fd : FuncData) (ps : List Str) : Prop where
  text : ∃ nm qu, L2.Fun K nm qu st a fd
  at_ : isMt f = false → mg (bs f) = some (.ref a)
  bind : Binds K fd ps []
  chk : chkF F fn ps st = true
/-- where the module's classes stand -/
def cmOf (K : PySem.W.Frag) (x : Str) : Option Addr := match PySem.W.nsIn K mainGlobals x with
  | some (some (.ref a)) => some a
  | _ => none
theorem cmOf_at {K : PySem.W.Frag} {x : Str} {a : Addr} (h : PySem.W.nsIn K mainGlobals x = some (some (.ref a))) : cmOf K x = some a := by unfold cmOf; rw [h]
def xcB (K : PySem.W.Frag) (C : Addr) : Bool := decide (PySem.W.findIn K (.ref C) "__getattribute__" = some (some (.builtin "BaseException.__getattribute__"))) && (decide (PySem.W.findIn K (.ref C) "__getattr__" = some none) && (decide (PySem.W.subIn K (.ref C) (.type "BaseException") = some true) && (PySem.W.hasDictIn K C && ((PySem.W.clsIn K C).isSome && (decide (PySem.W.findIn K (.ref C) "__class__" = some (some (.builtin "object.__class__"))) &&
  (decide (PySem.W.specialIn K (.builtin "object.__class__") "__get__" = some (some (.builtin "getset_descriptor.__get__"))) && (decide (PySem.W.takesIn K (.builtin "object.__class__") = some true) && decide (PySem.W.mroIn K C (.type "object") = some true))))))))
def isaB (K : PySem.W.Frag) (C : Addr) (v2 : Value) (b : Bool) : Bool := decide (PySem.W.exmOne K (.ref C) v2 = some b) && decide (PySem.W.kitOne K (.ref C) v2 = some b)
def raiB (K : PySem.W.Frag) (C : Addr) : Bool := PySem.W.keepIn K (.ref C) && (decide (PySem.W.subIn K (.ref C) (.type "BaseException") = some true) && decide (PySem.W.typeIn K (.ref C) = some (.type "type")))
def xfB2 (K : PySem.W.Frag) (C : Addr) (fs : List Str) : Bool := fs.all fun f => decide (PySem.W.findIn K (.ref C) f = some none)
theorem isa_at {K : PySem.W.Frag} {mg : Str → Option Value} {C : Addr} {c2 : Str} {v2 : Value} {b : Bool} (h1 : xcB K C = true) (h2 : isaB K C v2 b = true) (h3 : ClsAt mg c2 v2) (h4 : ∃ v, RelV v v2 ∧ ∀ u, RelV v u → u = v2) : IsaAt K mg C c2 b := by
  unfold xcB at h1
  unfold isaB at h2
  simp only [Bool.and_eq_true, decide_eq_true_eq] at h1 h2
  obtain ⟨a1, a2, a3, a4, a5, a6, a7, a8, a9⟩ := h1
  obtain ⟨v, r1, r2⟩ := h4
  exact ⟨⟨v2, v, h3, r1, r2, h2.1, h2.2⟩, a1, a2, a3, a4, a5, a6, a7, a8, a9⟩
theorem xf_at {K : PySem.W.Frag} {C : Addr} {fs : List Str} (h1 : xcB K C = true) (h2 : xfB2 K C fs = true) : XfAt K C fs := by
  unfold xcB at h1
  simp only [Bool.and_eq_true, decide_eq_true_eq] at h1
  obtain ⟨a1, a2, a3, a4, a5, a6, a7, a8, a9⟩ := h1
  refine ⟨a1, a2, a3, a4, fun f hf => ?_⟩
  unfold xfB2 at h2
  exact of_decide_eq_true (List.all_eq_true.mp h2 f hf)
theorem rai_at {K : PySem.W.Frag} {mg : Str → Option Value} {c : Str} {C : Addr} (h0 : mg c = some (.ref C)) (h : raiB K C = true) (he : PySem.W.excIn K C [.type "ValueError", .type "Exception", .type "BaseException", .type "object"] "ValueError.__new__" = true) : RaiAt K mg c C := by
  unfold raiB at h
  simp only [Bool.and_eq_true, decide_eq_true_eq] at h
  exact ⟨h0, h.1, he, h.2.1, h.2.2⟩
theorem cls_own {mg : Str → Option Value} {c : Str} {C : Addr} (h : mg c = some (.ref C)) : ClsAt mg c (.ref C) ∧ ∃ v, RelV v (.ref C) ∧ ∀ u, RelV v u → u = .ref C := ⟨.inl h, .ref C, rfl, fun _ h => h⟩
theorem cls_ty {mg : Str → Option Value} {c : Str} {m : String} (h : mg c = none) (h2 : bootBuiltins c = some (.type m)) (h3 : c ≠ "__name__") : ClsAt mg c (.type m) ∧ ∃ v, RelV v (.type m) ∧ ∀ u, RelV v u → u = .type m := ⟨.inr ⟨h, h2, h3⟩, .ty m, rfl, fun _ h => h⟩
/-- an exception class with an __init__, as the module has it -/
structure IniM (K : PySem.W.Frag) (mg : Str → Option Value) (c : Str) (C : Addr) (fs : List Str) : Prop where
  at_ : mg c = some (.ref C)
  oe : OexC K C
  no : ∀ g ∈ fs, PySem.W.findIn K (.ref C) g = some none
  there : ∃ (fI CW : Addr) (fd : FuncData) (N : List Str) (st : Stmt) (qual wn : Str), PySem.W.findIn K (.ref C) "__init__" = some (some (.ref fI)) ∧ PySem.W.typeIn K (.ref fI) = some (.type "function") ∧ Binds K fd N [] ∧ L2.Fun K "__init__" qual st fI fd ∧ mg wn = some (.ref CW) ∧ WiAt K CW ∧ chkIni wn fs N st = true
def oexB (K : PySem.W.Frag) (C : Addr) : Bool := (match K.lookup C with
  | some ⟨.type "type", _, .cls cd, sl⟩ => (match cd.mro, sl.toList with
    | .ref C' :: bm, [_, _, _, _, some (.builtin n), _] => decide (C' = C) && (decide (n = "ValueError.__new__") && (!cd.hasDel && (cd.hasDict && PySem.HandSPX.refsVE bm)))
    | _, _ => false)
  | _ => false) && (decide (PySem.W.findIn K (.ref C) "__setattr__" = some (some (.builtin "object.__setattr__"))) && (decide (PySem.W.subIn K (.ref C) (.type "BaseException") = some true) && (decide (PySem.W.typeIn K (.ref C) = some (.type "type")) && PySem.W.keepIn K (.ref C))))
def wiB (K : PySem.W.Frag) (C : Addr) : Bool := decide (PySem.W.specialIn K (.ref C) "__getattribute__" = some (some (.builtin "type.__getattribute__"))) && (PySem.W.readsIn K C (.type "type") && match PySem.W.findCls K (.ref C) (.type "type") "__init__" with
  | some (.val v) => decide (v = .builtin "ValueError.__init__") | _ => false)
theorem ini_at {P : Program} {w : World} {K : PySem.W.Frag} {mg : Str → Option Value} {base : Heap} {c : Str} {C : Addr} {f : Str} {fs : List Str} (M : IniM K mg c C (f :: fs)) : IniAt P w K mg base c C (f :: fs) := by
  obtain ⟨fI, CW, fd, N, st, qual, wn, h1, h2, h3, h4, h5, h6, h7⟩ := M.there
  refine ⟨M.at_, M.oe, fI, fd, N, h1, h2, h3, ?_⟩
  have ck := h7
  unfold chkIni at ck
  simp only [Bool.and_eq_true, decide_eq_true_eq] at ck
  obtain ⟨⟨⟨c1, c2⟩, _⟩, _⟩ := ck
  have S := C8.fnScope_by c1
  refine h4.okX S (fun vs H Q E h => ?_) (fun cdv A outer s H vs Q E hr h => ?_)
  · obtain ⟨a, ws, rfl, hl, _⟩ := h
    rw [List.length_cons, hl, c2]
  · obtain ⟨a, ws, rfl, hl, e1, k⟩ := h
    refine ⟨_, pss_ini (X := cxOf (L2.CX P w) P w K mg base N qual (defScope st) fI cdv A outer s H E) rfl rfl M.oe h5 h6 M.no h7, a, ws, rfl, hl, fun j w q => ?_, e1, fun dx n ne => k dx n ne⟩
    unfold L2.start
    rw [List.map_cons, List.cons_append, show 1 + j = j + 1 by omega, List.getElem?_cons_succ, List.getElem?_append_left (by
      rw [List.length_map]
      exact (List.getElem?_eq_some_iff.mp q).1), List.getElem?_map, q]
    rfl
/-- the values of a dict of the module -/
def dvB (K : PySem.W.Frag) (d : Addr) (kvs : List (Str × D)) : Bool := match K.lookup d with
  | some ⟨_, _, .dict es _, _⟩ => decide (es.toList.length = kvs.length) && (es.toList.zip kvs).all fun q => q.1.key.isStr q.2.1 && !q.1.refKey && kD K 9 q.2.2 q.1.val
  | _ => false
/-- a class of the module whose instances are held -/
def clsB (K : PySem.W.Frag) (C : Addr) : Bool := PySem.W.plainGet K C Str.empty && (PySem.W.hasDictIn K C && (PySem.W.plainOver K C && decide (PySem.W.findIn K (.ref C) "__setattr__" = some (some (.builtin "object.__setattr__")))))
theorem cls_at {K : PySem.W.Frag} {C : Addr} (h : clsB K C = true) : L2.Cls K C := by
  unfold clsB at h
  simp only [Bool.and_eq_true, decide_eq_true_eq] at h
  exact ⟨h.1, h.2.1, h.2.2.1, h.2.2.2⟩
def noaB (K : PySem.W.Frag) (C : Addr) (fs : List Str) : Bool := fs.all fun f => decide (PySem.W.findIn K (.ref C) f = some none)
theorem noa_at {K : PySem.W.Frag} {C : Addr} {fs : List Str} (h : noaB K C fs = true) : ∀ f ∈ fs, NoAttr K C f := fun f hf => show PySem.W.findIn K (.ref C) f = some none from of_decide_eq_true (List.all_eq_true.mp h f hf)
/-- the module holds the table -/
structure Mdl (T : Tb) (K : PySem.W.Frag) (w : World) (mg : Str → Option Value) : Prop where
  defs : ∀ f fn, T.fn f = some fn → ∃ st a fd ps, DefAt T.has K mg f fn st a fd ps
  glob : ∀ x d, T.glob x = some d → ∃ u, mg x = some u ∧ kD K 9 d u = true
  blt : ∀ x, x ∈ bltNames → mg x = none
  dct : ∀ x kvs, T.dct x = some kvs → DctAt K w mg x kvs
  isa : ∀ c1 c2 b, T.isa c1 c2 = some b → ∃ C, cmOf K c1 = some C ∧ IsaAt K mg C c2 b
  xfs : ∀ c fs, T.xfs c = some fs → ∃ C, cmOf K c = some C ∧ XfAt K C fs
  rai : ∀ c, T.xfs c = some [] → ∃ C, cmOf K c = some C ∧ RaiAt K mg c C
  ini : ∀ c f fs, T.xfs c = some (f :: fs) → ∃ C, cmOf K c = some C ∧ IniM K mg c C (f :: fs)
  ins : ∀ c fs, T.ins c = some fs → ∃ C, cmOf K c = some C ∧ L2.Cls K C ∧ ∀ f ∈ fs, NoAttr K C f
  mth : ∀ c m f, T.mth c m = some f → ∃ C st a fd ps fn, cmOf K c = some C ∧ L2.Cls K C ∧ Meth K C m a ∧ T.fn f = some fn ∧ DefAt T.has K mg f fn st a fd ps
  mkc : ∀ c gs, T.ins c = some gs → ∃ f C st a fd ps fn, T.ini c = some f ∧ cmOf K c = some C ∧ mg c = some (.ref C) ∧ Mk K C a ∧ T.fn f = some fn ∧ DefAt T.has K mg f fn st a fd ps

section
variable {T : Tb} {P : Program} {w : World} {K : PySem.W.Frag} {mg : Str → Option Value} {base : Heap}
theorem start_rel {w0 : Gw} {hp : HP} {H : Hp} {ds : List D} {vs : List V} {N : List Str} (hs : Hst K hp w0 H) (r : Reps K w0.oa w0.g ds vs) : Rel K ⟨w0, H⟩ ⟨w0, fun _ => none⟩ hp (ds.map .val ++ List.replicate (N.length - ds.length) .un) (L2.start N vs) H where
  hs := hs
  gr := .refl _ _
  gω := fun _ _ _ => rfl
  oω := fun _ _ => rfl
  len := by simp [L2.start, r.length]
  val := fun i d q => by
    by_cases hi : i < ds.length
    · rw [List.getElem?_append_left (by simpa using hi), List.getElem?_map] at q
      cases q2 : ds[i]? with
      | none => rw [q2] at q; cases q
      | some d' =>
        rw [q2] at q
        cases q
        obtain ⟨v, h1, h2⟩ := r.get q2
        refine ⟨v, ?_, h2⟩
        unfold L2.start
        rw [List.getElem?_append_left (by rw [List.length_map, ← r.length]; exact hi), List.getElem?_map, h1]
        rfl
    · rw [List.getElem?_append_right (by simpa using hi), List.getElem?_replicate] at q
      split at q <;> cases q
  own := fun i d q => by
    by_cases hi : i < ds.length
    · rw [List.getElem?_append_left (by simpa using hi), List.getElem?_map] at q
      cases q2 : ds[i]? with
      | none => rw [q2] at q; cases q
      | some d' => rw [q2] at q; cases q
    · rw [List.getElem?_append_right (by simpa using hi), List.getElem?_replicate] at q
      split at q <;> cases q
  owned := fun b i q => by cases q
  eω := fun b i q => by cases q
theorem fns_ok (M : Mdl T K w mg) : ∀ (n : Nat) (f : Str) (fn : Fn) (st : Stmt) (a : Addr) (fd : FuncData) (ps : List Str), T.fn f = some fn → DefAt T.has K mg f fn st a fd ps → FnOk P w K mg base (L2.CX P w) n a fd ps (spF K (cmOf K) T n f fn.ps) := by
  intro n0
  induction n0 using Nat.strongRecOn with
  | ind n0 ih =>
  intro f fn st a fd ps hf d
  cases n0 with
  | zero =>
    have no : ∀ vs H Q E, ¬ spF K (cmOf K) T 0 f fn.ps vs H Q E := fun vs H Q E ⟨w0, hp, ds, _, _, _, _, h⟩ => h
    exact ⟨fun vs H Q E h => absurd h (no vs H Q E), fun A outer s H args us vs Q E _ _ _ _ h => absurd h (no vs H Q E)⟩
  | succ n =>
    obtain ⟨nm, qu, tx⟩ := d.text
    have ck := d.chk
    simp only [chkF, Bool.and_eq_true, decide_eq_true_eq] at ck
    obtain ⟨⟨c1, c2⟩, c3⟩ := ck
    have S := C8.fnScope_by c1
    refine tx.okX S (fun vs H Q E h => ?_) (fun cdv A outer s H vs Q E hr h => ?_)
    · obtain ⟨w0, hp, ds, _, _, r, hl, _⟩ := h
      rw [← r.length, hl, c2]
    · obtain ⟨w0, hp, ds, hs, hcm, r, hl, h⟩ := h
      obtain ⟨wx, hwx⟩ : ∃ wx : D → RS → HP → Prop, wx = fun x _ hp' => ∀ cls dd w' H', Grow w0 H w' H' → Hst K hp' w' H' → XR K H w' x cls dd H' → E cls dd H' := ⟨_, rfl⟩
      have gf : Gf T n fn.N (defScope st) ⟨w0, H⟩ wx (cxOf (L2.CX P w) P w K mg base fn.N qu (defScope st) a cdv A outer s H E) := {
        hN := rfl
        nd := S.nd
        hsc := rfl
        calm := rfl
        units := room_u hr
        room := hr
        glob := fun x d' hx => by
          obtain ⟨u, e1, e2⟩ := M.glob x d' hx
          obtain ⟨v, e3, e4⟩ := kD_rep (oa := w0.oa) (G := fun _ => none) 9 d' u e2
          refine ⟨u, v, e1, e3, fun oa => ?_⟩
          obtain ⟨v', e5, e6⟩ := kD_rep (oa := oa) (G := fun _ => none) 9 d' u e2
          have := kD_uniq 9 d' u v v' e2 e3 e5
          rw [this] at e6; exact e6
        blt := M.blt
        tpl := fun x ds hx => by
          obtain ⟨u, e1, e2⟩ := M.glob x _ hx
          cases u <;> first
            | (simp [kD] at e2; done)
            | skip
          rename_i p
          rw [kD] at e2
          split at e2
          · rename_i c its m sl hk
            simp only [Bool.and_eq_true, decide_eq_true_eq] at e2
            exact ⟨p, _, e1, hk, e2.1.1.1, rfl⟩
          · cases e2
        dct := M.dct
        isa := fun c1 c2 b hi => by
          obtain ⟨C, e1, e2⟩ := M.isa c1 c2 b hi
          exact ⟨C, by show w0.oa.cm c1 = _; rw [hcm]; exact e1, e2⟩
        xfs := fun c fs hi => by
          obtain ⟨C, e1, e2⟩ := M.xfs c fs hi
          exact ⟨C, by show w0.oa.cm c = _; rw [hcm]; exact e1, e2⟩
        rai := fun c hi => by
          obtain ⟨C, e1, e2⟩ := M.rai c hi
          exact ⟨C, by show w0.oa.cm c = _; rw [hcm]; exact e1, e2⟩
        ini := fun c f fs hi => by
          obtain ⟨C, e1, e2⟩ := M.ini c f fs hi
          exact ⟨C, by show w0.oa.cm c = _; rw [hcm]; exact e1, ini_at e2⟩
        stk := rfl
        frm := rfl
        exn := rfl
        call := fun g gn hg hmt => by
          obtain ⟨st2, a2, fd2, ps2, d2⟩ := M.defs g gn hg
          have ck := d2.chk
          simp only [chkF, Bool.and_eq_true, decide_eq_true_eq] at ck
          obtain ⟨_, _, tx2⟩ := d2.text
          exact ⟨a2, fd2, ps2, d2.at_ hmt, tx2.kp, d2.bind, ck.1.2, by
            show FnOk P w K mg base (L2.CX P w) n a2 fd2 ps2 (spF K w0.oa.cm T n g gn.ps)
            rw [hcm]; exact ih n (Nat.lt_succ_self n) g gn st2 a2 fd2 ps2 hg d2⟩
        ins := fun c fs hi => by
          obtain ⟨C, e1, e2⟩ := M.ins c fs hi
          exact ⟨C, by show w0.oa.cm c = _; rw [hcm]; exact e1, e2⟩
        mth := fun c m g hi => by
          obtain ⟨C, st2, a2, fd2, ps2, gn, e1, e2, e3, hg, d2⟩ := M.mth c m g hi
          have ck := d2.chk
          simp only [chkF, Bool.and_eq_true, decide_eq_true_eq] at ck
          exact ⟨C, a2, fd2, ps2, gn, by show w0.oa.cm c = _; rw [hcm]; exact e1, e2, e3, hg, d2.bind, ck.1.2, by
            show FnOk P w K mg base (L2.CX P w) n a2 fd2 ps2 (spF K w0.oa.cm T n g gn.ps)
            rw [hcm]; exact ih n (Nat.lt_succ_self n) g gn st2 a2 fd2 ps2 hg d2⟩
        mkc := fun c gs m hi hm => by
          obtain ⟨g, C, st2, a2, fd2, ps2, gn, e0, e1, e2, e3, hg, d2⟩ := M.mkc c gs hi
          have ck := d2.chk
          simp only [chkF, Bool.and_eq_true, decide_eq_true_eq] at ck
          exact ⟨g, C, a2, fd2, ps2, gn, e0, by show w0.oa.cm c = _; rw [hcm]; exact e1, e2, e3, hg, d2.bind, ck.1.2, by
            show FnOk P w K mg base (L2.CX P w) m a2 fd2 ps2 (spF K w0.oa.cm T m g gn.ps)
            rw [hcm]; exact ih m (by omega) g gn st2 a2 fd2 ps2 hg d2⟩
        tk := (takes_of rfl rfl rfl rfl).imp fun cls dd σ H' ⟨w', hp', S', x, r', xr, hx⟩ => by
          rw [hwx] at hx
          exact hx cls dd w'.toGw H' r'.gr r'.hs xr
        fn := fun _ => rfl
        own := passes_of rfl
        kind := S.kind }
      refine ⟨_, allSs (e := ⟨w0, H⟩) fn.body gf c3, ⟨w0, fun _ => none⟩, hp, ds.map Sl.val ++ List.replicate (fn.N.length - ds.length) Sl.un, start_rel (N := fn.N) hs r, ?_⟩
      rw [callF_eq, hf] at h
      simp only [runF, hl, if_true] at h
      rw [hl]
      have hfr : T.fresh f = fn.fr := by unfold Tb.fresh; rw [hf]
      rw [hfr] at h
      unfold Mx.tell at h
      simp only [Mx.bind] at h
      cases q : evSs (T.cfg n) fn.body (ds.map Sl.val ++ List.replicate (fn.N.length - fn.ps) Sl.un) hp with
      | ok fl hp' =>
        rw [q] at h
        cases fl with
        | nx S' =>
          simp only [finF] at h
          cases z : fn.fr with
          | true => rw [z] at h; exact (show False from h).elim
          | false =>
            rw [z] at h
            exact fun w' σ' H' _ r' => h .non w'.toGw H' r'.gr r'.hs .non
        | rt d' b =>
          simp only [finF] at h
          intro v w' S' σ' H' _ r' res
          by_cases hb : b = fn.fr
          · rw [if_pos hb] at h
            rw [← hb] at h
            refine h v w'.toGw H' r'.gr r'.hs ?_
            cases z : b with
            | false => rw [z] at res; exact res
            | true =>
              rw [z] at res
              obtain ⟨p, o, z1, z2, z3, z4, z5, z6, z7⟩ := res
              exact ⟨p, o, z1, z2, z3, z7, z4, z6⟩
          · rw [if_neg hb] at h; exact (show False from h).elim
        | bk S' => exact (show False from h).elim
        | ct S' => exact (show False from h).elim
      | exc x hp' =>
        rw [q] at h
        show wx x.1 x.2 hp'
        rw [hwx]
        exact h
      | stuck => rw [q] at h; exact (show False from h).elim
end
/-- what law(script) promises -/
theorem law_sp {T : Tb} {K : PySem.W.Frag} {cm : Str → Option Addr} {n : Nat} {f : Str} {H : Hp} {a : Addr} {ns : List Int} (hS : SqL K H a (ns.map V.int)) (hc : ∃ hp', callF T n f [.lst (ns.map .int)] [] = .ok (.bl true) hp') :
    spF K cm T n f 1 [.ref a] H (fun v _ => v = .bl true) fun _ _ _ => False := by
  obtain ⟨hp', hc⟩ := hc
  refine ⟨⟨H, ⟨[], cm⟩⟩, [], [.lst (ns.map .int)], ⟨.refl _, rfl, fun m o a q => (by simp at q), fun m o a q => (by simp at q), fun m k a q => (by simp at q), fun a q => (by simp at q)⟩, rfl, .cons (.lst hS (Reps.ofInts ns)) .nil, rfl, ?_⟩
  rw [hc]
  intro v w' H' _ _ h
  cases z : T.fresh f with
  | false => rw [z] at h; exact Rep.blE h
  | true =>
    rw [z] at h
    obtain ⟨_, _, _, _, c, _⟩ := h
    exact (show False from c).elim
theorem walk {T : Tb} {l : PySem.W.OpenLaw} {q : Program} {loose : List Str} {XP : (Str → Option Value) → Heap → Prop} {YP : World → Heap → Prop} {d : DefRec} {K : Params → PySem.W.Frag} {k : Nat} {x : Str} {fn : Fn} (hT : T.fn d.name = some fn) (hp : fn.ps = 1) (hn : l.most = some 63) (hdf : d.params.defaults = []) (hr : Room k callerA)
    (hY : ∀ (w : World) (h : Heap), YP w h → (K w.params).In h)
    (hm : ∀ (w : World) (mg : Str → Option Value) (fa : Addr) (h : Heap), (K w.params).In h → h.Ns mainGlobals mg → mg d.name = some (.ref fa) → Mdl T (K w.params) w mg ∧ ∃ st fd, DefAt T.has (K w.params) mg d.name fn st fa fd [x] ∧ ∀ (s : Shared) (u : Value), BindsTo s fd ⟨[u], []⟩ [(x, u)])
    (hl : ∀ ns : List Int, ns.length ≤ 63 → ∃ hp', callF T k d.name [.lst (ns.map .int)] [] = .ok (.bl true) hp') :
    PySem.W.WalkO q loose XP YP l.row.toRowW d [] (fun f vs => PySem.call f vs) :=
  L2.walk_of (n := 63) (k := k) (x := x) (CX := fun w => L2.CX l.prog w) (sp := fun w => spF (K w.params) (cmOf (K w.params)) T k d.name 1) hn (by decide) hdf hr hY (fun w mg fa h KX G hmg => by
    obtain ⟨M, st, fd, D1, b⟩ := hm w mg fa h KX G hmg
    refine ⟨fd, b, fun base _ _ => ?_⟩
    have := fns_ok (P := l.prog) (w := w) (base := base) M k d.name fn st fa fd [x] hT D1
    rw [hp] at this
    exact this) (fun w H a ns h1 _ hS => law_sp hS (hl ns h1)) fun w H s e s' z => by
      obtain ⟨_, _, _, _, _, _, _, _, _, _, _, _, y⟩ := z
      exact y
end RR

namespace RR
open PySem L2
/-- a def's code, but for its slots' names -/
def Fn.core (f : Fn) : Nat × Bool × Nat × Ss := (f.ps, f.fr, f.N.length, f.body)
def Lk (T : Tb) (f : Str) (fn : Fn) : Prop := (T.fn f).map Fn.core = some fn.core
theorem lk {T : Tb} {f : Str} {fn : Fn} (h : T.fn f = some fn) : Lk T f fn := by unfold Lk; rw [h]; rfl
theorem runF_core {Γ : Cfg} {f g : Fn} (h : f.core = g.core) (as : List D) : runF Γ f as = runF Γ g as := by
  obtain ⟨a, b, c, d⟩ := f
  obtain ⟨a', b', c', d'⟩ := g
  unfold Fn.core at h
  simp only [Prod.mk.injEq] at h
  obtain ⟨rfl, rfl, h3, rfl⟩ := h
  unfold runF
  simp only [h3]
theorem callF_succ {T : Tb} {n : Nat} {f : Str} {fn : Fn} {as : List D} (h : Lk T f fn) : callF T (n + 1) f as = runF (T.cfg n) fn as := by
  unfold Lk at h
  rw [callF_eq]
  cases q : T.fn f with
  | none => rw [q] at h; cases h
  | some g => rw [q] at h; exact runF_core (Option.some.inj h) as
theorem fresh_of {T : Tb} {f : Str} {fn : Fn} (h : Lk T f fn) : T.fresh f = fn.fr := by
  unfold Lk at h
  unfold Tb.fresh
  cases q : T.fn f with
  | none => rw [q] at h; cases h
  | some g =>
    rw [q] at h
    have := Option.some.inj h
    unfold Fn.core at this
    simp only [Prod.mk.injEq] at this
    exact this.2.1
section
variable {x : D} {s : RS} {i : Nat} {y : Sl}
@[simp] theorem slV0 : slotV (.val x :: s) 0 = .pure x := rfl
@[simp] theorem slVs : slotV (y :: s) (i + 1) = slotV s i := rfl
@[simp] theorem slP0 : slotP (.val x :: s) 0 = .pure x := rfl
@[simp] theorem slP1 : slotP (.own x :: s) 0 = .pure x := rfl
@[simp] theorem slPs : slotP (y :: s) (i + 1) = slotP s i := rfl
end
section
variable {α β : Type} (s : RS) (m : M α) (k : α → M β) (a : α) (e : D)
@[simp] theorem at1 : at_ s (.pure a) = .pure a := rfl
@[simp] theorem at2 : at_ s (.exc e : M α) = .exc (e, s) := rfl
@[simp] theorem at3 : at_ s (.st : M α) = .st := rfl
@[simp] theorem at4 : at_ s (m.bind k) = (at_ s m).bind fun a => at_ s (k a) := by unfold at_; rw [Mx.tell_bind]
@[simp] theorem at5 : (at_ s m).tell (fun p => p.1) = m := by unfold at_; rw [Mx.tell_tell, Mx.tell_id]
end
section
variable {x : D} {s : RS} {b fr : Bool} {k : RS → MS Fl} {α : Type} {m : MS α} {l : α → MS Fl} {e : D × RS}
@[simp] theorem th1 : thn (.pure (.nx s)) k = k s := rfl
@[simp] theorem th2 : thn (.pure (.rt x fr)) k = .pure (.rt x fr) := rfl
@[simp] theorem th3 : thn (.pure (.bk s)) k = .pure (.bk s) := rfl
@[simp] theorem th4 : thn (.pure (.ct s)) k = .pure (.ct s) := rfl
@[simp] theorem th5 : thn (m.bind l) k = m.bind fun a => thn (l a) k := by unfold thn; rw [Mx.bind_assoc]
@[simp] theorem th6 : thn .st k = .st := rfl
@[simp] theorem th7 : thn (.exc e) k = .exc e := rfl
@[simp] theorem fi1 : finF false (.nx s) = .pure .non := rfl
@[simp] theorem fi2 : finF fr (.rt x fr) = .pure x := by show (if fr = fr then Mx.pure x else Mx.st) = _; rw [if_pos rfl]
end
section
variable (a b : Int) (p q : Bool) (z1 z2 : Str) (xs ys : List D) (s : RS) (x y : D)
@[simp] theorem bm1 : binM .Add (.int a) (.int b) = .pure (.int (a + b)) := rfl
@[simp] theorem bm2 : binM .Sub (.int a) (.int b) = .pure (.int (a - b)) := rfl
@[simp] theorem bm3 : binM .Mult (.int a) (.int b) = if mulOk a b then .pure (.int (a * b)) else .st := by
  funext h
  show Mx.lift (if mulOk a b then some (D.int (a * b)) else none) h = _
  split <;> rfl
theorem log_fits (h0 : 0 < b) (h1 : b < 18446744073709551616) : b.natAbs.log2 < 9000 := by
  have h2 : b.natAbs < 2 ^ 64 := by omega
  have h3 : b.natAbs ≠ 0 := by omega
  have := (Nat.log2_lt h3).mpr h2
  omega
@[simp] theorem bm4 (h0 : 0 < b) (h1 : b < 18446744073709551616) : binM .FloorDiv (.int a) (.int b) = .pure (.int (a / b)) := by
  funext h
  show Mx.lift (if decide (0 < b ∧ b.natAbs.log2 < 9000) then some (D.int (a / b)) else _) h = _
  rw [if_pos (by rw [decide_eq_true_eq]; exact ⟨h0, log_fits b h0 h1⟩)]; rfl
@[simp] theorem bm5 (h0 : 0 < b) : binM .Mod (.int a) (.int b) = .pure (.int (a % b)) := by
  funext h
  show Mx.lift (if 0 < b then some (D.int (a % b)) else _) h = _
  rw [if_pos h0]; rfl
@[simp] theorem bm6 (h : powOk a b = true) : binM .Pow (.int a) (.int b) = .pure (.int (a ^ b.toNat)) := by
  funext h'
  show Mx.lift (if powOk a b then some (D.int (a ^ b.toNat)) else none) h' = _
  rw [if_pos h]; rfl
@[simp] theorem bm7 (h : powOk a b = true) : binM .LShift (.int a) (.int b) = .pure (.int (a * 2 ^ b.toNat)) := by
  funext h'
  show Mx.lift (if powOk a b then some (D.int (a * 2 ^ b.toNat)) else none) h' = _
  rw [if_pos h]; rfl
@[simp] theorem bm8 (h : 0 ≤ b) : binM .RShift (.int a) (.int b) = .pure (.int (a / 2 ^ b.toNat)) := by
  funext h'
  show Mx.lift (if 0 ≤ b then some (D.int (a / 2 ^ b.toNat)) else none) h' = _
  rw [if_pos h]; rfl
@[simp] theorem bm9 : binM .BitAnd (.int a) (.int b) = .pure (.int (Builtin.bitAnd a b)) := rfl
@[simp] theorem bm10 : binM .BitOr (.int a) (.int b) = .pure (.int (Builtin.bitOr a b)) := rfl
@[simp] theorem bm11 (h : xs.length + ys.length ≤ LINE) : binM .Add (.lst xs) (.lst ys) = .pure (.lst (xs ++ ys)) := by
  funext h'
  show Mx.lift (if xs.length + ys.length ≤ LINE then some (D.lst (xs ++ ys)) else none) h' = _
  rw [if_pos h]; rfl
@[simp] theorem bm12 (h : xs.length + ys.length ≤ LINE) : binM .Add (.tup xs) (.tup ys) = .pure (.tup (xs ++ ys)) := by
  funext h'
  show Mx.lift (if xs.length + ys.length ≤ LINE then some (D.tup (xs ++ ys)) else none) h' = _
  rw [if_pos h]; rfl
@[simp] theorem bm13 (h : z1.length + z2.length ≤ LINE) : binM .Add (.str z1) (.str z2) = .pure (.str (z1 ++ z2)) := by
  funext h'
  show Mx.lift (if z1.length + z2.length ≤ LINE then some (D.str (z1 ++ z2)) else none) h' = _
  rw [if_pos h]; rfl
@[simp] theorem bm14 (h0 : 0 ≤ a) (h : xs.length * a.toNat ≤ LINE) (h2 : a < 2 ^ 63) : binM .Mult (.lst xs) (.int a) = .pure (.lst (List.replicate a.toNat xs).flatten) := by
  funext h'
  show Mx.lift (if decide (-(2 ^ 63) ≤ a ∧ a < 2 ^ 63) && decide (xs.length * a.toNat ≤ LINE) then some (D.lst (List.replicate a.toNat xs).flatten) else none) h' = _
  rw [if_pos (by simp only [Bool.and_eq_true, decide_eq_true_eq]; omega)]; rfl
@[simp] theorem cp1 : cmpM .Lt (.int a) (.int b) = .pure (decide (a < b)) := rfl
@[simp] theorem cp2 : cmpM .LtE (.int a) (.int b) = .pure (decide (a ≤ b)) := rfl
@[simp] theorem cp3 : cmpM .Gt (.int a) (.int b) = .pure (decide (b < a)) := rfl
@[simp] theorem cp4 : cmpM .GtE (.int a) (.int b) = .pure (decide (b ≤ a)) := rfl
@[simp] theorem ce1 : cmpM .Eq (.int a) (.int b) = .pure (decide (a = b)) := rfl
@[simp] theorem ce2 : cmpM .Eq (.bl p) (.bl q) = .pure (decide (p = q)) := rfl
@[simp] theorem ce3 : cmpM .Eq (.str z1) (.str z2) = .pure (decide (z1 = z2)) := rfl
@[simp] theorem ce4 : cmpM .Eq .non .non = .pure true := rfl
@[simp] theorem ce5 : cmpM .Eq .non (.int a) = .pure false := rfl
@[simp] theorem ce6 : cmpM .Eq (.int a) .non = .pure false := rfl
@[simp] theorem cn1 : cmpM .NotEq (.int a) (.int b) = .pure (!decide (a = b)) := rfl
@[simp] theorem cn2 : cmpM .NotEq (.bl p) (.bl q) = .pure (!decide (p = q)) := rfl
@[simp] theorem cn3 : cmpM .NotEq (.str z1) (.str z2) = .pure (!decide (z1 = z2)) := rfl
@[simp] theorem cn4 : cmpM .NotEq .non .non = .pure false := rfl
@[simp] theorem cn5 : cmpM .NotEq .non (.int a) = .pure true := rfl
@[simp] theorem cn6 : cmpM .NotEq (.int a) .non = .pure true := rfl
@[simp] theorem cs9 : cmpM .Is .non .non = .pure true := rfl
@[simp] theorem cs10 : cmpM .IsNot .non .non = .pure false := rfl
@[simp] theorem cs11 : cmpM .Is (.int a) .non = .pure false := rfl
@[simp] theorem cs12 : cmpM .IsNot (.int a) .non = .pure true := rfl
@[simp] theorem cs13 : cmpM .Is (.lst xs) .non = .pure false := rfl
@[simp] theorem cs14 : cmpM .IsNot (.lst xs) .non = .pure true := rfl
@[simp] theorem cs15 : cmpM .Is (.tup xs) .non = .pure false := rfl
@[simp] theorem cs16 : cmpM .IsNot (.tup xs) .non = .pure true := rfl
@[simp] theorem cs17 : cmpM .Is (.bl p) .non = .pure false := rfl
@[simp] theorem cs18 : cmpM .IsNot (.bl p) .non = .pure true := rfl
@[simp] theorem cs19 : cmpM .Is (.str z1) .non = .pure false := rfl
@[simp] theorem cs20 : cmpM .IsNot (.str z1) .non = .pure true := rfl
@[simp] theorem cs21 : cmpM .Is (.bl p) (.bl q) = .pure (decide (p = q)) := rfl
@[simp] theorem cs22 : cmpM .IsNot (.bl p) (.bl q) = .pure (!decide (p = q)) := rfl
/-- == of lists and tuples, in: by eqD, inD -/
theorem cmp_of {op : CmpOp} {x y : D} {c : Bool} (hx : ∀ n, x ≠ .obj n) (hy : ∀ n, y ≠ .obj n) (h : cmpD op x y = some c) : cmpM op x y = .pure c := by
  funext h'
  unfold cmpM
  rw [vw_not hx, vw_not hy, h]; rfl
@[simp] theorem tr1 : truM (.bl p) = .pure p := rfl
@[simp] theorem tr2 : truM (.int a) = .pure (decide (a ≠ 0)) := rfl
@[simp] theorem tr3 : truM (.lst xs) = .pure (!xs.isEmpty) := rfl
@[simp] theorem tr4 : truM (.tup xs) = .pure (!xs.isEmpty) := rfl
@[simp] theorem tr5 : truM .non = .pure false := rfl
@[simp] theorem ng1 : negM (.int a) = .pure (.int (-a)) := rfl
@[simp] theorem bk1 : blM (.bl p) = .pure p := rfl
theorem idx_of {xs : List D} {a : Int} {d : D} (h : atI xs a = some d) : idxM (.lst xs) (.int a) = .pure d ∧ idxM (.tup xs) (.int a) = .pure d := by
  constructor <;> (funext h'; show Mx.lift ((atI xs a).map fun d => d) h' = _; rw [h]; rfl)
theorem ixL {xs : List D} {a : Int} {d : D} (h : atI xs a = some d) : idxM (.lst xs) (.int a) = .pure d := (idx_of h).1
theorem ixT {xs : List D} {a : Int} {d : D} (h : atI xs a = some d) : idxM (.tup xs) (.int a) = .pure d := (idx_of h).2
section
variable (x y z u v w : D) (xs : List D)
@[simp] theorem ia0 : atI (x :: xs) 0 = some x := atI_nat (j := 0) (by rfl)
@[simp] theorem ia1 : atI (x :: y :: xs) 1 = some y := atI_nat (j := 1) (by rfl)
@[simp] theorem ia2 : atI (x :: y :: z :: xs) 2 = some z := atI_nat (j := 2) (by rfl)
@[simp] theorem ia3 : atI (x :: y :: z :: u :: xs) 3 = some u := atI_nat (j := 3) (by rfl)
@[simp] theorem ia4 : atI (x :: y :: z :: u :: v :: xs) 4 = some v := atI_nat (j := 4) (by rfl)
@[simp] theorem ia5 : atI (x :: y :: z :: u :: v :: w :: xs) 5 = some w := atI_nat (j := 5) (by rfl)
@[simp] theorem it0 : idxM (.tup (x :: xs)) (.int 0) = .pure x := ixT (ia0 x xs)
@[simp] theorem it1 : idxM (.tup (x :: y :: xs)) (.int 1) = .pure y := ixT (ia1 x y xs)
@[simp] theorem it2 : idxM (.tup (x :: y :: z :: xs)) (.int 2) = .pure z := ixT (ia2 x y z xs)
@[simp] theorem it3 : idxM (.tup (x :: y :: z :: u :: xs)) (.int 3) = .pure u := ixT (ia3 x y z u xs)
@[simp] theorem it4 : idxM (.tup (x :: y :: z :: u :: v :: xs)) (.int 4) = .pure v := ixT (ia4 x y z u v xs)
@[simp] theorem it5 : idxM (.tup (x :: y :: z :: u :: v :: w :: xs)) (.int 5) = .pure w := ixT (ia5 x y z u v w xs)
@[simp] theorem il0 : idxM (.lst (x :: xs)) (.int 0) = .pure x := ixL (ia0 x xs)
@[simp] theorem il1 : idxM (.lst (x :: y :: xs)) (.int 1) = .pure y := ixL (ia1 x y xs)
@[simp] theorem il2 : idxM (.lst (x :: y :: z :: xs)) (.int 2) = .pure z := ixL (ia2 x y z xs)
@[simp] theorem il3 : idxM (.lst (x :: y :: z :: u :: xs)) (.int 3) = .pure u := ixL (ia3 x y z u xs)
@[simp] theorem il4 : idxM (.lst (x :: y :: z :: u :: v :: xs)) (.int 4) = .pure v := ixL (ia4 x y z u v xs)
end
@[simp] theorem sc1 (lo hi : Option Int) : slcM (.lst xs) lo hi = .pure (.lst (cutL xs lo hi)) := rfl
@[simp] theorem sc2 (lo hi : Option Int) : slcM (.tup xs) lo hi = .pure (.tup (cutL xs lo hi)) := rfl
@[simp] theorem oi1 : oiM .no x = .pure none := rfl
@[simp] theorem oi2 (c : C) : oiM (.so c) (.int a) = .pure (some a) := rfl
@[simp] theorem sq1 : seqD (.lst xs) = some xs := rfl
@[simp] theorem sq2 : seqD (.tup xs) = some xs := rfl
@[simp] theorem rv1 : revDD (.lst xs) = some xs.reverse := rfl
@[simp] theorem en1 : enumDD (.lst xs) = some (enumD 0 xs) := rfl
@[simp] theorem zp1 : zipDD (.lst xs) (.lst ys) = some (zipD xs ys) := rfl
@[simp] theorem zp2 : zipDD (.tup xs) (.tup ys) = some (zipD xs ys) := rfl
@[simp] theorem tm1 (h : xs.length ≤ LINE) : tupM xs = .pure (.tup xs) := by unfold tupM; rw [if_pos h]
@[simp] theorem lm1 (h : xs.length ≤ LINE) : lstM xs = .pure (.lst xs) := by unfold lstM; rw [if_pos h]
theorem nei {u v : String} (h : decide ((u : Str) = (v : Str)) = false) : ¬ (u : Str) = (v : Str) := of_decide_eq_false h
theorem isi_of {ty : Str} {x : D} {c : Bool} (hx : ∀ n, x ≠ .obj n) (h : isiD ty x = some c) : isiM ty x = .pure c := by
  funext h'
  unfold isiM
  rw [vw_not hx, h]; rfl
end
section
variable (a b : Int) (p q : Bool) (z1 z2 : Str) (xs ys : List D)
@[simp] theorem is1 : isiM "int" (.int a) = .pure true := isi_of (fun _ z => (by cases z)) (by unfold isiD; rw [if_pos rfl])
@[simp] theorem is2 : isiM "int" (.bl p) = .pure true := isi_of (fun _ z => (by cases z)) (by unfold isiD; rw [if_pos rfl])
@[simp] theorem is3 : isiM "int" (.lst xs) = .pure false := isi_of (fun _ z => (by cases z)) (by unfold isiD; rw [if_pos rfl])
@[simp] theorem is4 : isiM "int" (.tup xs) = .pure false := isi_of (fun _ z => (by cases z)) (by unfold isiD; rw [if_pos rfl])
@[simp] theorem is5 : isiM "int" .non = .pure false := isi_of (fun _ z => (by cases z)) (by unfold isiD; rw [if_pos rfl])
@[simp] theorem is6 : isiM "int" (.str z1) = .pure false := isi_of (fun _ z => (by cases z)) (by unfold isiD; rw [if_pos rfl])
@[simp] theorem is7 : isiM "bool" (.int a) = .pure false := isi_of (fun _ z => (by cases z)) (by unfold isiD; rw [if_neg (nei (by decide +kernel)), if_pos rfl])
@[simp] theorem is8 : isiM "bool" (.bl p) = .pure true := isi_of (fun _ z => (by cases z)) (by unfold isiD; rw [if_neg (nei (by decide +kernel)), if_pos rfl])
@[simp] theorem is9 : isiM "bool" (.lst xs) = .pure false := isi_of (fun _ z => (by cases z)) (by unfold isiD; rw [if_neg (nei (by decide +kernel)), if_pos rfl])
@[simp] theorem is10 : isiM "bool" (.tup xs) = .pure false := isi_of (fun _ z => (by cases z)) (by unfold isiD; rw [if_neg (nei (by decide +kernel)), if_pos rfl])
@[simp] theorem is11 : isiM "bool" .non = .pure false := isi_of (fun _ z => (by cases z)) (by unfold isiD; rw [if_neg (nei (by decide +kernel)), if_pos rfl])
@[simp] theorem is12 : isiM "bool" (.str z1) = .pure false := isi_of (fun _ z => (by cases z)) (by unfold isiD; rw [if_neg (nei (by decide +kernel)), if_pos rfl])
@[simp] theorem is13 : isiM "str" (.int a) = .pure false := isi_of (fun _ z => (by cases z)) (by unfold isiD; rw [if_neg (nei (by decide +kernel)), if_neg (nei (by decide +kernel)), if_pos rfl])
@[simp] theorem is14 : isiM "str" (.bl p) = .pure false := isi_of (fun _ z => (by cases z)) (by unfold isiD; rw [if_neg (nei (by decide +kernel)), if_neg (nei (by decide +kernel)), if_pos rfl])
@[simp] theorem is15 : isiM "str" (.lst xs) = .pure false := isi_of (fun _ z => (by cases z)) (by unfold isiD; rw [if_neg (nei (by decide +kernel)), if_neg (nei (by decide +kernel)), if_pos rfl])
@[simp] theorem is16 : isiM "str" (.tup xs) = .pure false := isi_of (fun _ z => (by cases z)) (by unfold isiD; rw [if_neg (nei (by decide +kernel)), if_neg (nei (by decide +kernel)), if_pos rfl])
@[simp] theorem is17 : isiM "str" .non = .pure false := isi_of (fun _ z => (by cases z)) (by unfold isiD; rw [if_neg (nei (by decide +kernel)), if_neg (nei (by decide +kernel)), if_pos rfl])
@[simp] theorem is18 : isiM "str" (.str z1) = .pure true := isi_of (fun _ z => (by cases z)) (by unfold isiD; rw [if_neg (nei (by decide +kernel)), if_neg (nei (by decide +kernel)), if_pos rfl])
@[simp] theorem is19 : isiM "tuple" (.int a) = .pure false := isi_of (fun _ z => (by cases z)) (by unfold isiD; rw [if_neg (nei (by decide +kernel)), if_neg (nei (by decide +kernel)), if_neg (nei (by decide +kernel)), if_pos rfl])
@[simp] theorem is20 : isiM "tuple" (.bl p) = .pure false := isi_of (fun _ z => (by cases z)) (by unfold isiD; rw [if_neg (nei (by decide +kernel)), if_neg (nei (by decide +kernel)), if_neg (nei (by decide +kernel)), if_pos rfl])
@[simp] theorem is21 : isiM "tuple" (.lst xs) = .pure false := isi_of (fun _ z => (by cases z)) (by unfold isiD; rw [if_neg (nei (by decide +kernel)), if_neg (nei (by decide +kernel)), if_neg (nei (by decide +kernel)), if_pos rfl])
@[simp] theorem is22 : isiM "tuple" (.tup xs) = .pure true := isi_of (fun _ z => (by cases z)) (by unfold isiD; rw [if_neg (nei (by decide +kernel)), if_neg (nei (by decide +kernel)), if_neg (nei (by decide +kernel)), if_pos rfl])
@[simp] theorem is23 : isiM "tuple" .non = .pure false := isi_of (fun _ z => (by cases z)) (by unfold isiD; rw [if_neg (nei (by decide +kernel)), if_neg (nei (by decide +kernel)), if_neg (nei (by decide +kernel)), if_pos rfl])
@[simp] theorem is24 : isiM "tuple" (.str z1) = .pure false := isi_of (fun _ z => (by cases z)) (by unfold isiD; rw [if_neg (nei (by decide +kernel)), if_neg (nei (by decide +kernel)), if_neg (nei (by decide +kernel)), if_pos rfl])
@[simp] theorem is25 : isiM "list" (.int a) = .pure false := isi_of (fun _ z => (by cases z)) (by unfold isiD; rw [if_neg (nei (by decide +kernel)), if_neg (nei (by decide +kernel)), if_neg (nei (by decide +kernel)), if_neg (nei (by decide +kernel)), if_pos rfl])
@[simp] theorem is26 : isiM "list" (.bl p) = .pure false := isi_of (fun _ z => (by cases z)) (by unfold isiD; rw [if_neg (nei (by decide +kernel)), if_neg (nei (by decide +kernel)), if_neg (nei (by decide +kernel)), if_neg (nei (by decide +kernel)), if_pos rfl])
@[simp] theorem is27 : isiM "list" (.lst xs) = .pure true := isi_of (fun _ z => (by cases z)) (by unfold isiD; rw [if_neg (nei (by decide +kernel)), if_neg (nei (by decide +kernel)), if_neg (nei (by decide +kernel)), if_neg (nei (by decide +kernel)), if_pos rfl])
@[simp] theorem is28 : isiM "list" (.tup xs) = .pure false := isi_of (fun _ z => (by cases z)) (by unfold isiD; rw [if_neg (nei (by decide +kernel)), if_neg (nei (by decide +kernel)), if_neg (nei (by decide +kernel)), if_neg (nei (by decide +kernel)), if_pos rfl])
@[simp] theorem is29 : isiM "list" .non = .pure false := isi_of (fun _ z => (by cases z)) (by unfold isiD; rw [if_neg (nei (by decide +kernel)), if_neg (nei (by decide +kernel)), if_neg (nei (by decide +kernel)), if_neg (nei (by decide +kernel)), if_pos rfl])
@[simp] theorem is30 : isiM "list" (.str z1) = .pure false := isi_of (fun _ z => (by cases z)) (by unfold isiD; rw [if_neg (nei (by decide +kernel)), if_neg (nei (by decide +kernel)), if_neg (nei (by decide +kernel)), if_neg (nei (by decide +kernel)), if_pos rfl])
@[simp] theorem bi1 : biM "len" [.lst xs] = .pure (.int xs.length) := by
  funext h
  show Mx.lift (biD "len" [.lst xs]) h = _
  unfold biD; rw [if_pos rfl]; rfl
@[simp] theorem bi2 : biM "len" [.tup xs] = .pure (.int xs.length) := by
  funext h
  show Mx.lift (biD "len" [.tup xs]) h = _
  unfold biD; rw [if_pos rfl]; rfl
@[simp] theorem bi3 : biM "list" [.lst xs] = .pure (.lst xs) := by
  funext h
  show Mx.lift (biD "list" [.lst xs]) h = _
  unfold biD; rw [if_neg (nei (by decide +kernel)), if_pos rfl]; rfl
@[simp] theorem bi4 : biM "list" [.tup xs] = .pure (.lst xs) := by
  funext h
  show Mx.lift (biD "list" [.tup xs]) h = _
  unfold biD; rw [if_neg (nei (by decide +kernel)), if_pos rfl]; rfl
@[simp] theorem bi5 : biM "tuple" [.lst xs] = .pure (.tup xs) := by
  funext h
  show Mx.lift (biD "tuple" [.lst xs]) h = _
  unfold biD; rw [if_neg (nei (by decide +kernel)), if_neg (nei (by decide +kernel)), if_pos rfl]; rfl
@[simp] theorem bi6 : biM "tuple" [.tup xs] = .pure (.tup xs) := by
  funext h
  show Mx.lift (biD "tuple" [.tup xs]) h = _
  unfold biD; rw [if_neg (nei (by decide +kernel)), if_neg (nei (by decide +kernel)), if_pos rfl]; rfl
@[simp] theorem bi7 : biM "max" [.int a, .int b] = .pure (.int (if b > a then b else a)) := by
  funext h
  show Mx.lift (biD "max" [.int a, .int b]) h = _
  unfold biD; rw [if_neg (nei (by decide +kernel)), if_neg (nei (by decide +kernel)), if_neg (nei (by decide +kernel)), if_neg (nei (by decide +kernel)), if_pos rfl]; rfl
@[simp] theorem bi8 : biM "min" [.int a, .int b] = .pure (.int (if b < a then b else a)) := by
  funext h
  show Mx.lift (biD "min" [.int a, .int b]) h = _
  unfold biD; rw [if_neg (nei (by decide +kernel)), if_neg (nei (by decide +kernel)), if_neg (nei (by decide +kernel)), if_neg (nei (by decide +kernel)), if_neg (nei (by decide +kernel)), if_pos rfl]; rfl
@[simp] theorem bi11 : biM "int" [.int a] = .pure (.int a) := by
  funext h
  show Mx.lift (biD "int" [.int a]) h = _
  unfold biD; rw [if_neg (nei (by decide +kernel)), if_neg (nei (by decide +kernel)), if_neg (nei (by decide +kernel)), if_pos rfl]; rfl
@[simp] theorem bi12 : biM "int" [.bl p] = .pure (.int (if p then 1 else 0)) := by
  funext h
  show Mx.lift (biD "int" [.bl p]) h = _
  unfold biD; rw [if_neg (nei (by decide +kernel)), if_neg (nei (by decide +kernel)), if_neg (nei (by decide +kernel)), if_pos rfl]; rfl
end
section
variable {σ α : Type} {f : D → RS → MS Fl} (emb : σ → RS)
end
section
variable {σ : Type} {f : D → RS → MS Fl} (emb : σ → RS)
end
section
variable {c : RS → M Bool} {b : RS → MS Fl} {s s' : RS} {d : D} {fr : Bool}
end
section
variable {α : Type} {f : D → M (Option D)}
end
/-- the ints of a script -/
theorem atI_ints {ns : List Int} {k : Int} (h0 : 0 ≤ k) (h1 : k < ns.length) : ∃ z, atI (ns.map D.int) k = some (.int z) := by
  obtain ⟨j, rfl⟩ : ∃ j : Nat, k = (j : Int) := ⟨k.toNat, by omega⟩
  have hj : j < ns.length := by omega
  exact ⟨ns[j], atI_nat (by rw [List.getElem?_map, List.getElem?_eq_getElem hj]; rfl)⟩
theorem cut_ints (ns : List Int) (lo hi : Option Int) : cutL (ns.map D.int) lo hi = (cutL ns lo hi).map D.int := by
  unfold cutL
  rw [List.length_map, List.map_take, List.map_drop]
theorem log_lt {i : Int} {k : Nat} (h0 : 0 < k) (h : i.natAbs < 2 ^ k) : i.natAbs.log2 < k := by
  by_cases h2 : i.natAbs = 0
  · rw [h2]; simpa using h0
  · exact (Nat.log2_lt h2).mpr h
theorem mul_ok {i j : Int} (h1 : i.natAbs < 2 ^ 1000) (h2 : j.natAbs < 2 ^ 1000) : mulOk i j = true := by
  unfold mulOk
  have a := log_lt (by decide) h1
  have b := log_lt (by decide) h2
  rw [Bool.or_eq_true, Bool.or_eq_true]
  exact .inr (by rw [decide_eq_true_eq]; omega)
@[simp] theorem mul_r {i j : Int} (h1 : -18446744073709551616 < j) (h2 : j < 18446744073709551616) : mulOk i j = true := by
  unfold mulOk
  rw [Bool.or_eq_true, Bool.or_eq_true]
  exact .inl (.inr (by rw [decide_eq_true_eq]; omega))
@[simp] theorem mul_l {i j : Int} (h1 : -18446744073709551616 < i) (h2 : i < 18446744073709551616) : mulOk i j = true := by
  unfold mulOk
  rw [Bool.or_eq_true, Bool.or_eq_true]
  exact .inl (.inl (by rw [decide_eq_true_eq]; omega))
theorem cut_len (ns : List Int) (m : Nat) : (cutL ns none (some (m : Int))).length ≤ m := by
  unfold cutL
  rw [List.length_take]
  have : HT.sIx ns.length ns.length (some (m : Int)) - HT.sIx ns.length 0 none ≤ m := by
    simp only [HT.sIx]
    split <;> simp <;> omega
  omega
end RR

namespace RR
open PySem L2
mutual
/-- data that == may look into: of some depth, whole texts -/
def okD : Nat → D → Bool
  | _, .non => true
  | _, .bl _ => true
  | _, .int _ => true
  | _, .str z => PyData.strOk z
  | n + 1, .tup xs => okDs n xs
  | n + 1, .lst xs => okDs n xs
  | _, _ => false
def okDs : Nat → List D → Bool
  | _, [] => true
  | n, x :: xs => okD n x && okDs n xs
end
mutual
theorem okD_lay : ∀ (d : D) (n : Nat), okD n d = true → d.pd.canLay0 = true ∧ d.pd.depth ≤ n ∧ PyData.eqv d.pd d.pd = true
  | .non, n, h => ⟨rfl, by simp [D.pd, PyData.depth], by simp [D.pd, PyData.eqv]⟩
  | .bl b, n, h => ⟨rfl, by simp [D.pd, PyData.depth], by simp [D.pd, PyData.eqv]⟩
  | .int i, n, h => ⟨rfl, by simp [D.pd, PyData.depth], by simp [D.pd, PyData.eqv]⟩
  | .str z, n, h => ⟨by simpa [D.pd, PyData.canLay0, okD] using h, by simp [D.pd, PyData.depth], by simp [D.pd, PyData.eqv]⟩
  | .tup xs, 0, h => by simp [okD] at h
  | .lst xs, 0, h => by simp [okD] at h
  | .tup xs, n + 1, h => by
    obtain ⟨a, b, c⟩ := okDs_lay xs n (by simpa [okD] using h)
    exact ⟨by simpa [D.pd, PyData.canLay0] using a, by simp [D.pd, PyData.depth]; exact b, by simpa [D.pd, PyData.eqv] using c⟩
  | .lst xs, n + 1, h => by
    obtain ⟨a, b, c⟩ := okDs_lay xs n (by simpa [okD] using h)
    exact ⟨by simpa [D.pd, PyData.canLay0] using a, by simp [D.pd, PyData.depth]; exact b, by simpa [D.pd, PyData.eqv] using c⟩
  | .dic _, n, h => by cases n <;> simp [okD] at h
  | .obj _, n, h => by cases n <;> simp [okD] at h
  | .xn _ _, n, h => by cases n <;> simp [okD] at h
theorem okDs_lay : ∀ (ds : List D) (n : Nat), okDs n ds = true → PyData.canLayAll0 (pds ds) = true ∧ PyData.depthAll (pds ds) ≤ n ∧ PyData.eqvAll (pds ds) (pds ds) = true
  | [], n, h => ⟨rfl, by simp [pds, PyData.depthAll], by simp [pds, PyData.eqvAll]⟩
  | d :: ds, n, h => by
    simp only [okDs, Bool.and_eq_true] at h
    obtain ⟨a, b, c⟩ := okD_lay d n h.1
    obtain ⟨a2, b2, c2⟩ := okDs_lay ds n h.2
    refine ⟨by simp [pds, PyData.canLayAll0, a, a2], ?_, by simp [pds, PyData.eqvAll, c, c2]⟩
    simp only [pds, PyData.depthAll]
    exact Nat.max_le.mpr ⟨b, b2⟩
end
theorem okD_shaped {d : D} {n : Nat} (hn : n ≤ 64) (h : okD n d = true) : SeqAt.shaped d.pd = true := by
  obtain ⟨a, b, _⟩ := okD_lay d n h
  unfold SeqAt.shaped
  rw [a, Bool.true_and, decide_eq_true_eq]
  omega
theorem okDs_all {n : Nat} : ∀ {xs : List D}, (∀ x ∈ xs, okD n x = true) → okDs n xs = true
  | [], _ => rfl
  | x :: xs, h => by rw [okDs, h x List.mem_cons_self, okDs_all fun y hy => h y (List.mem_cons_of_mem _ hy)]; rfl
/-- a list is itself -/
theorem eqL_self {xs : List D} {n : Nat} (hn : n < 64) (h : okDs n xs = true) : eqD (.lst xs) (.lst xs) = some true := by
  have o : okD (n + 1) (.lst xs) = true := by rw [okD]; exact h
  have s := okD_shaped (by omega) o
  show (if SeqAt.shaped (D.lst xs).pd && SeqAt.shaped (D.lst xs).pd then some (PyData.eqv (D.lst xs).pd (D.lst xs).pd) else none) = _
  rw [s, (okD_lay _ _ o).2.2]
  rfl
theorem eqT_self {xs : List D} {n : Nat} (hn : n < 64) (h : okDs n xs = true) : eqD (.tup xs) (.tup xs) = some true := by
  have o : okD (n + 1) (.tup xs) = true := by rw [okD]; exact h
  have s := okD_shaped (by omega) o
  show (if SeqAt.shaped (D.tup xs).pd && SeqAt.shaped (D.tup xs).pd then some (PyData.eqv (D.tup xs).pd (D.tup xs).pd) else none) = _
  rw [s, (okD_lay _ _ o).2.2]
  rfl
theorem eq_lst {xs : List D} {n : Nat} (hn : n < 64) (h : okDs n xs = true) : cmpM .Eq (.lst xs) (.lst xs) = .pure true := cmp_of (fun _ z => (by cases z)) (fun _ z => (by cases z)) (eqL_self hn h)
theorem ne_lst {xs : List D} {n : Nat} (hn : n < 64) (h : okDs n xs = true) : cmpM .NotEq (.lst xs) (.lst xs) = .pure false := cmp_of (fun _ z => (by cases z)) (fun _ z => (by cases z)) (by show (eqD _ _).map (!·) = _; rw [eqL_self hn h]; rfl)
theorem eq_tup {xs : List D} {n : Nat} (hn : n < 64) (h : okDs n xs = true) : cmpM .Eq (.tup xs) (.tup xs) = .pure true := cmp_of (fun _ z => (by cases z)) (fun _ z => (by cases z)) (eqT_self hn h)
/-- == of lists, of tuples: by eqv -/
theorem eqv_cmp {x y : D} {n : Nat} (hn : n ≤ 64) (hx : okD n x = true) (hy : okD n y = true) (sx : x.flat = false ∨ y.flat = false) : eqD x y = some (PyData.eqv x.pd y.pd) := by
  have h1 := okD_shaped hn hx
  have h2 := okD_shaped hn hy
  have key : (if SeqAt.shaped x.pd && SeqAt.shaped y.pd then some (PyData.eqv x.pd y.pd) else none) = some (PyData.eqv x.pd y.pd) := by rw [h1, h2]; rfl
  rcases sx with s | s <;> (cases x <;> cases y <;> first | exact key | (simp [D.flat] at s; done))
theorem noobj {x : D} {n : Nat} (h : okD n x = true) : ∀ k, x ≠ .obj k := fun k z => by subst z; cases n <;> simp [okD] at h
theorem atI_map {α : Type} {f : α → D} {xs : List α} {k : Int} {x : α} (h0 : 0 ≤ k) (h : xs[k.toNat]? = some x) : atI (xs.map f) k = some (f x) := by
  obtain ⟨j, rfl⟩ : ∃ j : Nat, k = (j : Int) := ⟨k.toNat, by omega⟩
  rw [Int.toNat_natCast] at h
  exact atI_nat (by rw [List.getElem?_map, h]; rfl)
theorem atI_mapN {α : Type} {f : α → D} {xs : List α} {k : Nat} {x : α} (h : xs[k]? = some x) : atI (xs.map f) (k : Int) = some (f x) := atI_map (by omega) (by simpa using h)
theorem ix_mapN {α : Type} {f : α → D} {xs : List α} {k : Nat} {x : α} (h : xs[k]? = some x) : idxM (.lst (xs.map f)) (.int (k : Int)) = .pure (f x) := ixL (atI_mapN h)
end RR

namespace RR
open PySem L2
-- is_under: 0 makes 1 c 2 other
def ct0is_under : C := (.cmp .IsNot (.pk 1) .non)
def cb1is_under : Ss := (.cons (.ite (.cmp .Eq (.pk 1) (.pk 2)) (.cons (.ret (.bl true)) .nil) .nil) (.cons (.set 1 (.idx (.idx (.pk 0) (.var 1)) (.int 0))) .nil))
def cis_under : Fn := ⟨3, false, ["makes", "c", "other"],
  (.cons (.whl ct0is_under cb1is_under) (.cons (.kill [1]) (.cons (.ret (.bl false)) .nil)))⟩
-- _law_draw: 0 script 1 k 2 cell 3 other
def cr0_law_draw : Ss := (.cons (.ret (.bin .Mod (.bin .Add (.bin .Mult (.pk 2) (.int 6364136223846793005)) (.bin .Mult (.int 1442695040888963407) (.pk 1))) (.int 2305843009213693951))) .nil)
def c_law_draw : Fn := ⟨2, false, ["_law_script", "_law_k", "_law_cell", "_law_other"],
  (.cons (.set 2 (.bin .Mult (.int 40503) (.pk 1))) (.cons (.ite (.cmp .Lt (.pk 1) (.bi "len" (.cons (.pk 0) .nil))) (.cons (.set 2 (.idx (.pk 0) (.var 1))) (.cons (.kill [3]) .nil)) (.cons (.ite (.cmp .Gt (.bi "len" (.cons (.pk 0) .nil)) (.int 0)) (.cons (.set 3 (.idx (.pk 0) (.bin .Mod (.bin .Add (.bin .Mult (.int 3) (.pk 1)) (.int 1)) (.bi "len" (.cons (.pk 0) .nil))))) (.cons (.set 2 (.bin .Add (.bin .Add (.pk 2) (.idx (.pk 0) (.bin .Mod (.pk 1) (.bi "len" (.cons (.pk 0) .nil))))) (.bin .Mult (.int 31) (.bin .Mod (.pk 3) (.int 1000033))))) (.cons (.kill [3]) .nil))) (.cons (.kill [3]) .nil)) (.cons (.kill [3]) .nil))) cr0_law_draw))⟩
-- _law_kind: 0 cell 1 sizes 2 c
def c_law_kind : Fn := ⟨2, false, ["_law_cell", "_law_sizes", "_law_c"],
  (.cons (.set 2 (.bin .Mod (.bin .FloorDiv (.pk 0) (.int 4)) (.bi "len" (.cons (.pk 1) .nil)))) (.cons (.ite (.cmp .Eq (.bin .Mod (.pk 0) (.int 4)) (.int 0)) (.cons (.ret (.tup (.cons (.str "any") .nil))) .nil) .nil) (.cons (.ite (.cmp .Eq (.bin .Mod (.pk 0) (.int 4)) (.int 1)) (.cons (.ret (.tup (.cons (.str "number") .nil))) .nil) .nil) (.cons (.ite (.cmp .Eq (.bin .Mod (.pk 0) (.int 4)) (.int 2)) (.cons (.ret (.tup (.cons (.str "whole") (.cons (.var 2) .nil)))) .nil) .nil) (.cons (.ret (.tup (.cons (.str "raw") (.cons (.var 2) (.cons (.bin .Mod (.bin .FloorDiv (.pk 0) (.int 32)) (.bin .LShift (.int 1) (.idx (.pk 1) (.var 2)))) .nil))))) .nil)))))⟩
-- _law_makes: 0 script 1 at 2 shapes 3 sizes 4 c 5 makes_here 6 cell 7 elder 8 own 9 k
def ce0_law_makes : C := (.call "_law_kind" (.cons (.call "_law_draw" (.cons (.var 0) (.cons (.bin .Add (.bin .Add (.bin .Add (.pk 1) (.int 8)) (.bin .Mult (.int 6) (.pk 4))) (.pk 9)) .nil))) (.cons (.var 3) .nil)))
def cb1_law_makes : Ss := (.cons (.set 8 (.lc ce0_law_makes (.nm 9) (.rng (.cons (.idx (.idx (.pk 2) (.var 4)) (.int 1)) .nil)) .no)) (.cons (.app 5 (.tup (.cons (.idx (.idx (.pk 2) (.var 4)) (.int 0)) (.cons (.var 8) .nil)))) (.cons (.kill [4, 8]) .nil)))
def cr2_law_makes : Ss := (.cons (.app 2 (.tup (.cons (.var 7) (.cons (.bin .Mod (.bin .FloorDiv (.pk 6) (.int 8)) (.bin .Sub (.int 7) (.idx (.pk 3) (.var 7)))) .nil)))) (.cons (.app 3 (.bin .Add (.idx (.pk 3) (.var 7)) (.idx (.idx (.pk 2) (.var 4)) (.int 1)))) (.cons (.kill [4, 6, 7]) .nil)))
def cb3_law_makes : Ss := (.cons (.set 6 (.call "_law_draw" (.cons (.var 0) (.cons (.bin .Add (.pk 1) (.pk 4)) .nil)))) (.cons (.set 7 (.bin .Mod (.pk 6) (.pk 4))) (.cons (.ite (.cmp .Eq (.bin .Mod (.bin .FloorDiv (.call "_law_draw" (.cons (.var 0) (.cons (.var 1) .nil))) (.int 8)) (.int 3)) (.int 1)) (.cons (.set 7 (.bin .Sub (.pk 4) (.int 1))) .nil) .nil) cr2_law_makes)))
def c_law_makes : Fn := ⟨2, true, ["_law_script", "_law_at", "_law_shapes", "_law_sizes", "_law_c", "_law_makes_here", "_law_cell", "_law_elder", "_law_own", "_law_k"],
  (.cons (.seto 2 (.lst (.cons (.tup (.cons .non (.cons (.int 0) .nil))) .nil))) (.cons (.seto 3 (.lst (.cons (.int 0) .nil))) (.cons (.for (.nm 4) (.rng (.cons (.int 1) (.cons (.bin .Add (.int 1) (.bin .Mod (.call "_law_draw" (.cons (.var 0) (.cons (.var 1) .nil))) (.int 8))) .nil))) cb3_law_makes) (.cons (.frz 2) (.cons (.frz 3) (.cons (.seto 5 (.lst .nil)) (.cons (.kill [4]) (.cons (.for (.nm 4) (.rng (.cons (.bi "len" (.cons (.pk 2) .nil)) .nil)) cb1_law_makes) (.cons (.retv 5) .nil)))))))))⟩
-- _law_elders: 0 makes_here 1 c 2 found
def ct0_law_elders : C := (.cmp .IsNot (.pk 1) .non)
def cb1_law_elders : Ss := (.cons (.app 2 (.var 1)) (.cons (.set 1 (.idx (.idx (.pk 0) (.var 1)) (.int 0))) .nil))
def c_law_elders : Fn := ⟨2, true, ["_law_makes_here", "_law_c", "_law_found"],
  (.cons (.seto 2 (.lst .nil)) (.cons (.whl ct0_law_elders cb1_law_elders) (.cons (.kill [1]) (.cons (.retv 2) .nil))))⟩
-- _law_copy: 0 makes_here 1 elder 2 own
def ce0_law_copy : C := (.tup (.cons (.var 1) (.cons (.bi "list" (.cons (.pk 2) .nil)) .nil)))
def c_law_copy : Fn := ⟨1, true, ["_law_makes_here", "_law_elder", "_law_own"],
  (.cons (.retf (.lc ce0_law_copy (.tp [1, 2]) (.seq (.var 0)) .no)) .nil)⟩
-- _law_is: 0 found 1 due
def c_law_is : Fn := ⟨2, false, ["_law_found", "_law_due"],
  (.cons (.ite (.pk 1) (.cons (.ret (.cmp .Is (.pk 0) (.bl true))) .nil) .nil) (.cons (.ret (.cmp .Is (.pk 0) (.bl false))) .nil))⟩
def elD : Option Nat → D
  | none => .non
  | some j => .int (j : Int)
def mkD (m : Option Nat × List D) : D := .tup [elD m.1, .lst m.2]
abbrev Mks := List (Option Nat × List D)
abbrev msD (ms : Mks) : D := .lst (ms.map mkD)
/-- the elder of a make stands before it -/
def WF (ms : Mks) : Prop := 0 < ms.length ∧ ms.length ≤ 8 ∧ ∀ (c : Nat) (m : Option Nat × List D), ms[c]? = some m → (c = 0 ∧ m.1 = none) ∨ ∃ j, m.1 = some j ∧ j < c
/-- a make and the makes above it -/
def eld (ms : Mks) : Nat → Nat → List Nat
  | 0, _ => []
  | f + 1, c => c :: (match ms[c]? with
    | some (some j, _) => eld ms f j
    | _ => [])
def elds (ms : Mks) (c : Nat) : List Nat := eld ms (c + 1) c
section
variable {T : Tb} {ms : Mks}
theorem WF.get (w : WF ms) {c : Nat} (h : c < ms.length) : ∃ m, ms[c]? = some m ∧ ((c = 0 ∧ m.1 = none) ∨ ∃ j, m.1 = some j ∧ j < c) := ⟨ms[c], List.getElem?_eq_getElem h, w.2.2 c _ (List.getElem?_eq_getElem h)⟩
abbrev ixs (sz : List Nat) : D := .lst (sz.map fun (k : Nat) => .int (k : Int))
def KindOk (sz : List Nat) (d : D) : Prop := d = .tup [.str "any"] ∨ d = .tup [.str "number"] ∨ (∃ c : Nat, c < sz.length ∧ d = .tup [.str "whole", .int (c : Int)]) ∨ ∃ c b s : Nat, sz[c]? = some s ∧ b < 2 ^ s ∧ d = .tup [.str "raw", .int (c : Int), .int (b : Int)]
def shD (e : Option Nat × Nat) : D := .tup [elD e.1, .int (e.2 : Int)]
/-- the shapes and the sizes that are drawn first -/
structure Shp (sh : List (Option Nat × Nat)) (sz : List Nat) : Prop where
  len : sz.length = sh.length
  up : ∀ (c : Nat) (e : Option Nat × Nat), sh[c]? = some e → (c = 0 ∧ e = (none, 0)) ∨ ∃ j a, e.1 = some j ∧ j < c ∧ sz[j]? = some a ∧ sz[c]? = some (a + e.2)
  le : ∀ s ∈ sz, s ≤ 6
  z0 : sz[0]? = some 0
/-- makes as they are drawn: sz the fields of each, its elders' among them -/
structure Good (ms : Mks) (sz : List Nat) : Prop where
  wf : WF ms
  len : sz.length = ms.length
  kd : ∀ (c : Nat) (m : Option Nat × List D), ms[c]? = some m → ∀ d ∈ m.2, KindOk sz d
  up : ∀ (c : Nat) (m : Option Nat × List D), ms[c]? = some m → (c = 0 ∧ m.2 = []) ∨ ∃ j a, m.1 = some j ∧ j < c ∧ sz[j]? = some a ∧ sz[c]? = some (a + m.2.length)
  le : ∀ s ∈ sz, s ≤ 6
  z0 : sz[0]? = some 0
/-- what == sees of makes -/
theorem kind_ok {sz : List Nat} {d : D} (h : KindOk sz d) : okD 2 d = true := by
  have a : PyData.strOk ("any" : Str) = true := by decide +kernel
  have b : PyData.strOk ("number" : Str) = true := by decide +kernel
  have c : PyData.strOk ("whole" : Str) = true := by decide +kernel
  have d : PyData.strOk ("raw" : Str) = true := by decide +kernel
  rcases h with rfl | rfl | ⟨_, _, rfl⟩ | ⟨_, _, _, _, _, rfl⟩ <;> simp [okD, okDs, a, b, c, d]
theorem Good.ok {sz : List Nat} (g : Good ms sz) : ∀ m ∈ ms, ∀ d ∈ m.2, okD 2 d = true := by
  intro m hm d hd
  obtain ⟨c, hc⟩ := List.getElem?_of_mem hm
  exact kind_ok (g.kd c m hc d hd)
end
end RR

namespace RR
open PySem L2
-- beneath: 0 makes 1 kind 2 other
def cbeneath : Fn := ⟨3, false, ["makes", "kind", "other"],
  (.cons (.ite (.cmp .Eq (.idx (.pk 2) (.int 0)) (.str "any")) (.cons (.ret (.bl true)) .nil) .nil) (.cons (.ite (.cmp .NotEq (.idx (.pk 1) (.int 0)) (.idx (.pk 2) (.int 0))) (.cons (.ret (.bl false)) .nil) .nil) (.cons (.ite (.cmp .Eq (.idx (.pk 1) (.int 0)) (.str "whole")) (.cons (.ret (.call "is_under" (.cons (.var 0) (.cons (.idx (.pk 1) (.int 1)) (.cons (.idx (.pk 2) (.int 1)) .nil))))) .nil) .nil) (.cons (.ite (.cmp .Eq (.idx (.pk 1) (.int 0)) (.str "raw")) (.cons (.ret (.and (.cons (.cmp .Eq (.idx (.pk 1) (.int 1)) (.idx (.pk 2) (.int 1))) (.cons (.cmp .Eq (.bin .BitAnd (.idx (.pk 1) (.int 2)) (.idx (.pk 2) (.int 2))) (.idx (.pk 2) (.int 2))) .nil)))) .nil) .nil) (.cons (.ret (.bl true)) .nil)))))⟩
-- _law_fields: 0 makes_here 1 c 2 found 3 one
def cb0_law_fields : Ss := (.cons (.set 2 (.bin .Add (.pk 2) (.idx (.idx (.pk 0) (.var 3)) (.int 1)))) (.cons (.kill [3]) .nil))
def c_law_fields : Fn := ⟨2, false, ["_law_makes_here", "_law_c", "_law_found", "_law_one"],
  (.cons (.set 2 (.lst .nil)) (.cons (.for (.nm 3) (.rev (.call "_law_elders" (.cons (.var 0) (.cons (.var 1) .nil)))) cb0_law_fields) (.cons (.ret (.var 2)) .nil)))⟩
-- _law_below: 0 makes_here 1 kind_here 2 other
def c_law_below : Fn := ⟨3, false, ["_law_makes_here", "_law_kind_here", "_law_other"],
  (.cons (.ite (.cmp .Eq (.pk 2) (.tup (.cons (.str "any") .nil))) (.cons (.ret (.bl true)) .nil) .nil) (.cons (.ite (.cmp .NotEq (.idx (.pk 1) (.int 0)) (.idx (.pk 2) (.int 0))) (.cons (.ret (.bl false)) .nil) .nil) (.cons (.ite (.cmp .Eq (.idx (.pk 1) (.int 0)) (.str "whole")) (.cons (.ret (.cmp .In (.idx (.pk 2) (.int 1)) (.call "_law_elders" (.cons (.var 0) (.cons (.idx (.pk 1) (.int 1)) .nil))))) .nil) .nil) (.cons (.ite (.cmp .Eq (.idx (.pk 1) (.int 0)) (.str "raw")) (.cons (.ret (.and (.cons (.cmp .Eq (.idx (.pk 1) (.int 1)) (.idx (.pk 2) (.int 1))) (.cons (.cmp .Eq (.bin .BitAnd (.idx (.pk 1) (.int 2)) (.idx (.pk 2) (.int 2))) (.idx (.pk 2) (.int 2))) .nil)))) .nil) .nil) (.cons (.ret (.bl true)) .nil)))))⟩
-- _law_above: 0 makes_here 1 kind_here 2 cell 3 some
def c_law_above : Fn := ⟨3, false, ["_law_makes_here", "_law_kind_here", "_law_cell", "_law_some"],
  (.cons (.ite (.cmp .Eq (.idx (.pk 1) (.int 0)) (.str "whole")) (.cons (.set 3 (.call "_law_elders" (.cons (.var 0) (.cons (.idx (.pk 1) (.int 1)) .nil)))) (.cons (.ret (.tup (.cons (.str "whole") (.cons (.idx (.pk 3) (.bin .Mod (.pk 2) (.bi "len" (.cons (.pk 3) .nil)))) .nil)))) .nil)) .nil) (.cons (.ite (.cmp .Eq (.idx (.pk 1) (.int 0)) (.str "raw")) (.cons (.ret (.tup (.cons (.str "raw") (.cons (.idx (.pk 1) (.int 1)) (.cons (.bin .BitAnd (.idx (.pk 1) (.int 2)) (.bin .Mod (.pk 2) (.int 64))) .nil))))) .nil) .nil) (.cons (.ret (.var 1)) .nil)))⟩
-- nearest: 0 makes 1 c 2 other
def ct0nearest : C := (.not (.call "is_under" (.cons (.var 0) (.cons (.var 2) (.cons (.var 1) .nil)))))
def cb1nearest : Ss := (.cons (.set 1 (.idx (.idx (.pk 0) (.var 1)) (.int 0))) .nil)
def cnearest : Fn := ⟨3, false, ["makes", "c", "other"],
  (.cons (.whl ct0nearest cb1nearest) (.cons (.ret (.var 1)) .nil))⟩
-- joined: 0 makes 1 kind 2 other
def cjoined : Fn := ⟨3, false, ["makes", "kind", "other"],
  (.cons (.ite (.cmp .NotEq (.idx (.pk 1) (.int 0)) (.idx (.pk 2) (.int 0))) (.cons (.ret (.tup (.cons (.str "any") .nil))) .nil) .nil) (.cons (.ite (.cmp .Eq (.idx (.pk 1) (.int 0)) (.str "whole")) (.cons (.ret (.tup (.cons (.str "whole") (.cons (.call "nearest" (.cons (.var 0) (.cons (.idx (.pk 1) (.int 1)) (.cons (.idx (.pk 2) (.int 1)) .nil)))) .nil)))) .nil) .nil) (.cons (.ite (.cmp .Eq (.idx (.pk 1) (.int 0)) (.str "raw")) (.cons (.ite (.cmp .NotEq (.idx (.pk 1) (.int 1)) (.idx (.pk 2) (.int 1))) (.cons (.ret (.tup (.cons (.str "any") .nil))) .nil) .nil) (.cons (.ret (.tup (.cons (.str "raw") (.cons (.idx (.pk 1) (.int 1)) (.cons (.bin .BitAnd (.idx (.pk 1) (.int 2)) (.idx (.pk 2) (.int 2))) .nil))))) .nil)) .nil) (.cons (.ret (.var 1)) .nil))))⟩
-- _law_same_kind: 0 found 1 due 2 part
def ce0_law_same_kind : C := (.and (.cons (.isi "int" (.pk 2)) (.cons (.not (.isi "bool" (.pk 2))) .nil)))
def c_law_same_kind : Fn := ⟨2, false, ["_law_found", "_law_due", "_law_part"],
  (.cons (.ite (.or (.cons (.not (.isi "tuple" (.pk 0))) (.cons (.cmp .NotEq (.pk 0) (.pk 1)) .nil))) (.cons (.ret (.bl false)) .nil) .nil) (.cons (.ret (.bi "all" (.cons (.lc ce0_law_same_kind (.nm 2) (.seq (.slc (.pk 0) (.so (.int 1)) .no)) .no) .nil))) .nil))⟩
-- _law_beside: 0 makes_here 1 kind_here 2 cell
def c_law_beside : Fn := ⟨3, false, ["_law_makes_here", "_law_kind_here", "_law_cell"],
  (.cons (.ite (.cmp .Eq (.idx (.pk 1) (.int 0)) (.str "whole")) (.cons (.ret (.tup (.cons (.str "whole") (.cons (.bin .Mod (.pk 2) (.bi "len" (.cons (.pk 0) .nil))) .nil)))) .nil) .nil) (.cons (.ite (.cmp .Eq (.idx (.pk 1) (.int 0)) (.str "raw")) (.cons (.ret (.tup (.cons (.str "raw") (.cons (.idx (.pk 1) (.int 1)) (.cons (.bin .Mod (.pk 2) (.bin .LShift (.int 1) (.bi "len" (.cons (.call "_law_fields" (.cons (.var 0) (.cons (.idx (.pk 1) (.int 1)) .nil))) .nil)))) .nil))))) .nil) .nil) (.cons (.ret (.var 1)) .nil)))⟩
inductive KK where
  | any | num | whole (c : Nat) | raw (c : Nat) (b : Int)
def KK.d : KK → D
  | .any => .tup [.str "any"] | .num => .tup [.str "number"]
  | .whole c => .tup [.str "whole", .int (c : Int)] | .raw c b => .tup [.str "raw", .int (c : Int), .int b]
/-- a kind speaks of a make that there is -/
def KK.ok (m : Nat) : KK → Prop
  | .whole c => c < m | .raw c _ => c < m | _ => True
def bel (ms : Mks) (k o : KK) : Bool := match k, o with
  | _, .any => true
  | .num, .num => true
  | .whole c, .whole e => (elds ms c).any fun k => (k : Int) == (e : Int)
  | .raw c b, .raw e f => decide ((c : Int) = (e : Int)) && decide (Builtin.bitAnd b f = f)
  | _, _ => false
theorem sne1 : ¬ ("number" : Str) = "any" := nei (by decide +kernel)
theorem sne2 : ¬ ("whole" : Str) = "any" := nei (by decide +kernel)
theorem sne3 : ¬ ("raw" : Str) = "any" := nei (by decide +kernel)
theorem sne4 : ¬ ("any" : Str) = "number" := nei (by decide +kernel)
theorem sne5 : ¬ ("any" : Str) = "whole" := nei (by decide +kernel)
theorem sne6 : ¬ ("any" : Str) = "raw" := nei (by decide +kernel)
theorem sne7 : ¬ ("number" : Str) = "whole" := nei (by decide +kernel)
theorem sne8 : ¬ ("number" : Str) = "raw" := nei (by decide +kernel)
theorem sne9 : ¬ ("whole" : Str) = "number" := nei (by decide +kernel)
theorem sne10 : ¬ ("whole" : Str) = "raw" := nei (by decide +kernel)
theorem sne11 : ¬ ("raw" : Str) = "number" := nei (by decide +kernel)
theorem sne12 : ¬ ("raw" : Str) = "whole" := nei (by decide +kernel)
theorem KK.okD (k : KK) : RR.okD 1 k.d = true := by
  have a : PyData.strOk ("any" : Str) = true := by decide +kernel
  have b : PyData.strOk ("number" : Str) = true := by decide +kernel
  have c : PyData.strOk ("whole" : Str) = true := by decide +kernel
  have d : PyData.strOk ("raw" : Str) = true := by decide +kernel
  cases k <;> simp [KK.d, RR.okD, okDs, a, b, c, d]
theorem KK.noobj (k : KK) : ∀ n, k.d ≠ .obj n := fun n => by cases k <;> simp [KK.d]
section
variable {T : Tb} {ms : Mks} {sz : List Nat}
/-- all fields of a make, the eldest's first -/
def flds (ms : Mks) (c : Nat) : List D := (elds ms c).reverse.flatMap fun k => (ms.getD k (none, [])).2
/-- a kind that is one: its mask fits its make's fields -/
def KB (ms : Mks) : KK → Prop
  | .whole c => c < ms.length
  | .raw c b => c < ms.length ∧ ∃ m : Nat, b = (m : Int) ∧ m < 2 ^ (flds ms c).length
  | _ => True
theorem KB.ok {k : KK} (h : KB ms k) : k.ok ms.length := by
  cases k with
  | any => trivial
  | num => trivial
  | whole c => exact h
  | raw c b => exact h.1
def KN : KK → Prop
  | .raw _ b => ∃ m : Nat, b = (m : Int)
  | _ => True
def eqK : KK → KK → Bool
  | .any, .any => true
  | .num, .num => true
  | .whole c, .whole e => decide ((c : Int) = (e : Int))
  | .raw c b, .raw e f => decide ((c : Int) = (e : Int)) && decide (b = f)
  | _, _ => false
theorem eq_kk (k o : KK) : eqD k.d o.d = some (eqK k o) := by
  have h1 := okD_shaped (by decide) k.okD
  have h2 := okD_shaped (by decide) o.okD
  have : eqD k.d o.d = (if SeqAt.shaped k.d.pd && SeqAt.shaped o.d.pd then some (PyData.eqv k.d.pd o.d.pd) else none) := by cases k <;> cases o <;> rfl
  rw [this, h1, h2]
  cases k <;> cases o <;> simp [KK.d, D.pd, pds, PyData.eqv, PyData.eqvAll, eqK, sne1, sne2, sne3, sne4, sne5, sne6, sne7, sne8, sne9, sne10, sne11, sne12] <;> rfl
theorem cmp_kk (k o : KK) : cmpM .Eq k.d o.d = .pure (eqK k o) := cmp_of k.noobj o.noobj (eq_kk k o)
theorem cmp_nkk (k o : KK) : cmpM .NotEq k.d o.d = .pure (!eqK k o) := cmp_of k.noobj o.noobj (by show (eqD _ _).map (!·) = _; rw [eq_kk]; rfl)
end
end RR

namespace RR
open PySem L2
section
variable {Γ : Cfg} {a : S} {b : Ss} {s s' : RS} {d : D} {fr : Bool}
theorem ss_nx (h : evS Γ a s = .pure (.nx s')) : evSs Γ (.cons a b) s = evSs Γ b s' := by rw [evSs, h, th1]
theorem run_rt {fn : Fn} {as : List D} (hl : as.length = fn.ps) (h : evSs Γ fn.body (as.map .val ++ List.replicate (fn.N.length - fn.ps) .un) = .pure (.rt d fn.fr)) : runF Γ fn as = .pure d := by
  unfold runF
  rw [if_pos hl, h, Mx.pure_bind, fi2, Mx.tell_pure]
theorem for_run {tg : Tg} {it : It} {b : Ss} {xs : List D} {r : MS Fl} (hi : evIt Γ it s = .pure xs) (q : forL (forStep tg (evSs Γ b)) xs s = r) : evS Γ (.for tg it b) s = r := by
  rw [evS, hi, at1, Mx.pure_bind, q]
end
end RR

namespace RR
open PySem L2
-- _law_signs: 0 some
def c_law_signs : Fn := ⟨0, true, ["_law_some"],
  (.cons (.set 0 (.str "push load store dup swap drop add sub mul div rem less same jump zero kin make fill begin get put call")) (.cons (.retf (.spl (.bin .Add (.pk 0) (.str " toss say give")) (.str " "))) .nil))⟩
-- _law_row: 0 cell 1 sizes 2 parts 3 boxes 4 many 5 sign 6 rest 7 c
def c_law_row : Fn := ⟨5, false, ["_law_cell", "_law_sizes", "_law_parts", "_law_boxes", "_law_many", "_law_sign", "_law_rest", "_law_c"],
  (.cons (.set 5 (.idx (.call "_law_signs" .nil) (.bin .Mod (.pk 0) (.int 25)))) (.cons (.set 6 (.bin .FloorDiv (.pk 0) (.int 25))) (.cons (.set 7 (.bin .Mod (.pk 6) (.bi "len" (.cons (.pk 1) .nil)))) (.cons (.ite (.cmp .Eq (.pk 5) (.str "push")) (.cons (.ret (.tup (.cons (.var 5) (.cons (.bin .Sub (.bin .Mod (.pk 6) (.int 4294967296)) (.int 2147483648)) .nil)))) .nil) .nil) (.cons (.ite (.cmp .In (.pk 5) (.tup (.cons (.str "load") (.cons (.str "store") .nil)))) (.cons (.ret (.idx (.lst (.cons (.tup (.cons (.var 5) (.cons (.bin .Mod (.pk 6) (.bi "max" (.cons (.pk 3) (.cons (.int 1) .nil)))) .nil))) (.cons (.tup (.cons (.str "drop") .nil)) .nil))) (.bi "int" (.cons (.cmp .Eq (.pk 3) (.int 0)) .nil)))) .nil) .nil) (.cons (.ite (.cmp .In (.pk 5) (.tup (.cons (.str "jump") (.cons (.str "zero") .nil)))) (.cons (.ret (.tup (.cons (.var 5) (.cons (.bin .Mod (.pk 6) (.pk 4)) .nil)))) .nil) .nil) (.cons (.ite (.cmp .Eq (.pk 5) (.str "kin")) (.cons (.ret (.tup (.cons (.var 5) (.cons (.var 7) (.cons (.bin .Mod (.bin .FloorDiv (.pk 6) (.int 8)) (.pk 4)) .nil))))) .nil) .nil) (.cons (.ite (.cmp .Eq (.pk 5) (.str "call")) (.cons (.ret (.tup (.cons (.var 5) (.cons (.bin .Mod (.pk 6) (.pk 2)) .nil)))) .nil) .nil) (.cons (.ite (.and (.cons (.cmp .In (.pk 5) (.tup (.cons (.str "fill") (.cons (.str "get") (.cons (.str "put") .nil))))) (.cons (.cmp .Gt (.idx (.pk 1) (.var 7)) (.int 0)) .nil))) (.cons (.ret (.tup (.cons (.var 5) (.cons (.var 7) (.cons (.bin .Mod (.bin .FloorDiv (.pk 6) (.int 8)) (.idx (.pk 1) (.var 7))) .nil))))) .nil) .nil) (.cons (.ite (.cmp .In (.pk 5) (.tup (.cons (.str "make") (.cons (.str "fill") (.cons (.str "begin") (.cons (.str "get") (.cons (.str "put") .nil))))))) (.cons (.ret (.tup (.cons (.idx (.lst (.cons (.str "make") (.cons (.str "begin") .nil))) (.bin .Mod (.pk 6) (.int 2))) (.cons (.var 7) .nil)))) .nil) .nil) (.cons (.ret (.tup (.cons (.var 5) .nil))) .nil)))))))))))⟩
-- _law_last: 0 cell 1 many
def c_law_last : Fn := ⟨2, false, ["_law_cell", "_law_many"],
  (.cons (.ret (.idx (.lst (.cons (.tup (.cons (.str "jump") (.cons (.bin .Mod (.bin .FloorDiv (.pk 0) (.int 3)) (.pk 1)) .nil))) (.cons (.tup (.cons (.str "toss") .nil)) (.cons (.tup (.cons (.str "give") .nil)) .nil)))) (.bin .Mod (.pk 0) (.int 3)))) .nil)⟩
-- _law_stretch: 0 cell 1 other 2 many 3 first
def c_law_stretch : Fn := ⟨3, false, ["_law_cell", "_law_other", "_law_many", "_law_first"],
  (.cons (.set 3 (.bin .Mod (.pk 0) (.pk 2))) (.cons (.ret (.tup (.cons (.var 3) (.cons (.bin .Add (.bin .Add (.pk 3) (.int 1)) (.bin .Mod (.bin .FloorDiv (.pk 0) (.int 100)) (.bin .Sub (.pk 2) (.pk 3)))) (.cons (.bin .Mod (.pk 1) (.pk 2)) .nil))))) .nil))⟩
-- _law_part: 0 script 1 at 2 sizes 3 parts 4 cell 5 many 6 boxes 7 takes 8 gives 9 seed 10 cells 11 rows 12 stretches 13 k 14 one
def cb0_law_part : Ss := (.cons (.app 12 (.call "_law_stretch" (.cons (.call "_law_draw" (.cons (.var 0) (.cons (.bin .Add (.bin .Add (.pk 1) (.int 4)) (.pk 13)) .nil))) (.cons (.bin .FloorDiv (.call "_law_draw" (.cons (.var 0) (.cons (.bin .Add (.bin .Add (.pk 1) (.int 5)) (.pk 13)) .nil))) (.int 3)) (.cons (.var 5) .nil))))) .nil)
def ce1_law_part : C := (.call "_law_row" (.cons (.var 14) (.cons (.var 2) (.cons (.var 3) (.cons (.var 6) (.cons (.var 5) .nil))))))
def ce2_law_part : C := (.bin .Add (.call "_law_draw" (.cons (.var 0) (.cons (.bin .Add (.bin .Add (.pk 1) (.int 3)) (.pk 13)) .nil))) (.bin .Mod (.bin .Mult (.pk 9) (.bin .Mult (.bin .FloorDiv (.pk 13) (.int 6)) (.pk 13))) (.int 1000033)))
def ce3_law_part : C := (.call "_law_kind" (.cons (.call "_law_draw" (.cons (.var 0) (.cons (.bin .Add (.bin .Add (.pk 1) (.int 2)) (.pk 13)) .nil))) (.cons (.var 2) .nil)))
def cr4_law_part : Ss := (.cons (.set 6 (.bin .Mod (.bin .FloorDiv (.pk 4) (.int 2000)) (.int 9))) (.cons (.set 7 (.lc ce3_law_part (.nm 13) (.rng (.cons (.bin .Mod (.bin .FloorDiv (.pk 4) (.int 18000)) (.bin .Add (.pk 6) (.int 1))) .nil)) .no)) (.cons (.set 8 (.call "_law_kind" (.cons (.call "_law_draw" (.cons (.var 0) (.cons (.bin .Add (.pk 1) (.int 1)) .nil))) (.cons (.var 2) .nil)))) (.cons (.set 9 (.bin .Mod (.call "_law_draw" (.cons (.var 0) (.cons (.bin .Add (.pk 1) (.int 1)) .nil))) (.int 1000003))) (.cons (.set 10 (.lc ce2_law_part (.nm 13) (.rng (.cons (.bin .Sub (.pk 5) (.int 1)) .nil)) .no)) (.cons (.set 11 (.bin .Add (.lc ce1_law_part (.nm 14) (.seq (.var 10)) .no) (.lst (.cons (.call "_law_last" (.cons (.var 9) (.cons (.var 5) .nil))) .nil)))) (.cons (.seto 12 (.lst .nil)) (.cons (.for (.nm 13) (.rng (.cons (.bin .Mod (.call "_law_draw" (.cons (.var 0) (.cons (.bin .Add (.pk 1) (.int 2)) .nil))) (.int 9)) .nil)) cb0_law_part) (.cons (.frz 12) (.cons (.ret (.tup (.cons (.var 7) (.cons (.var 8) (.cons (.var 6) (.cons (.bin .Add (.int 1) (.bin .Mod (.bin .FloorDiv (.pk 4) (.int 7)) (.int 8))) (.cons (.var 11) (.cons (.var 12) .nil)))))))) .nil))))))))))
def c_law_part : Fn := ⟨4, false, ["_law_script", "_law_at", "_law_sizes", "_law_parts", "_law_cell", "_law_many", "_law_boxes", "_law_takes", "_law_gives", "_law_seed", "_law_cells", "_law_rows", "_law_stretches", "_law_k", "_law_one"],
  (.cons (.set 4 (.call "_law_draw" (.cons (.var 0) (.cons (.var 1) .nil)))) (.cons (.set 5 (.bin .Add (.int 1) (.bin .Mod (.pk 4) (.int 6)))) (.cons (.ite (.cmp .Eq (.bin .Mod (.bin .FloorDiv (.pk 4) (.int 6)) (.int 8)) (.int 1)) (.cons (.set 5 (.bin .Sub (.int 100) (.bin .Mod (.bin .FloorDiv (.pk 4) (.int 48)) (.int 40)))) .nil) .nil) cr4_law_part)))⟩
-- _law_book: 0 script 1 at 2 makes_here 3 sizes 4 parts 5 c 6 p
def ce0_law_book : C := (.call "_law_part" (.cons (.var 0) (.cons (.bin .Add (.bin .Add (.pk 1) (.int 1)) (.bin .Mult (.int 9) (.pk 6))) (.cons (.var 3) (.cons (.var 4) .nil)))))
def ce1_law_book : C := (.bi "len" (.cons (.call "_law_fields" (.cons (.var 2) (.cons (.var 5) .nil))) .nil))
def c_law_book : Fn := ⟨2, false, ["_law_script", "_law_at", "_law_makes_here", "_law_sizes", "_law_parts", "_law_c", "_law_p"],
  (.cons (.set 2 (.call "_law_makes" (.cons (.var 0) (.cons (.bin .Add (.pk 1) (.int 8)) .nil)))) (.cons (.set 3 (.lc ce1_law_book (.nm 5) (.rng (.cons (.bi "len" (.cons (.pk 2) .nil)) .nil)) .no)) (.cons (.set 4 (.bin .Add (.int 1) (.bin .Mod (.call "_law_draw" (.cons (.var 0) (.cons (.var 1) .nil))) (.int 8)))) (.cons (.ret (.tup (.cons (.var 2) (.cons (.lc ce0_law_book (.nm 6) (.rng (.cons (.pk 4) .nil)) .no) .nil)))) .nil))))⟩
-- _law_copied: 0 book_here 1 parts 2 takes 3 gives 4 boxes 5 height 6 rows 7 stretches
def cb0_law_copied : Ss := (.cons (.app 1 (.tup (.cons (.bi "list" (.cons (.pk 2) .nil)) (.cons (.var 3) (.cons (.var 4) (.cons (.var 5) (.cons (.bi "list" (.cons (.pk 6) .nil)) (.cons (.bi "list" (.cons (.pk 7) .nil)) .nil)))))))) (.cons (.kill [2, 3, 4, 5, 6, 7]) .nil))
def c_law_copied : Fn := ⟨1, false, ["_law_book_here", "_law_parts", "_law_takes", "_law_gives", "_law_boxes", "_law_height", "_law_rows", "_law_stretches"],
  (.cons (.seto 1 (.lst .nil)) (.cons (.for (.tp [2, 3, 4, 5, 6, 7]) (.seq (.idx (.pk 0) (.int 1))) cb0_law_copied) (.cons (.frz 1) (.cons (.ret (.tup (.cons (.call "_law_copy" (.cons (.idx (.pk 0) (.int 0)) .nil)) (.cons (.var 1) .nil)))) .nil))))⟩
def crow_rest : Ss := (.cons (.ite (.cmp .Eq (.pk 5) (.str "push")) (.cons (.ret (.tup (.cons (.var 5) (.cons (.bin .Sub (.bin .Mod (.pk 6) (.int 4294967296)) (.int 2147483648)) .nil)))) .nil) .nil) (.cons (.ite (.cmp .In (.pk 5) (.tup (.cons (.str "load") (.cons (.str "store") .nil)))) (.cons (.ret (.idx (.lst (.cons (.tup (.cons (.var 5) (.cons (.bin .Mod (.pk 6) (.bi "max" (.cons (.pk 3) (.cons (.int 1) .nil)))) .nil))) (.cons (.tup (.cons (.str "drop") .nil)) .nil))) (.bi "int" (.cons (.cmp .Eq (.pk 3) (.int 0)) .nil)))) .nil) .nil) (.cons (.ite (.cmp .In (.pk 5) (.tup (.cons (.str "jump") (.cons (.str "zero") .nil)))) (.cons (.ret (.tup (.cons (.var 5) (.cons (.bin .Mod (.pk 6) (.pk 4)) .nil)))) .nil) .nil) (.cons (.ite (.cmp .Eq (.pk 5) (.str "kin")) (.cons (.ret (.tup (.cons (.var 5) (.cons (.var 7) (.cons (.bin .Mod (.bin .FloorDiv (.pk 6) (.int 8)) (.pk 4)) .nil))))) .nil) .nil) (.cons (.ite (.cmp .Eq (.pk 5) (.str "call")) (.cons (.ret (.tup (.cons (.var 5) (.cons (.bin .Mod (.pk 6) (.pk 2)) .nil)))) .nil) .nil) (.cons (.ite (.and (.cons (.cmp .In (.pk 5) (.tup (.cons (.str "fill") (.cons (.str "get") (.cons (.str "put") .nil))))) (.cons (.cmp .Gt (.idx (.pk 1) (.var 7)) (.int 0)) .nil))) (.cons (.ret (.tup (.cons (.var 5) (.cons (.var 7) (.cons (.bin .Mod (.bin .FloorDiv (.pk 6) (.int 8)) (.idx (.pk 1) (.var 7))) .nil))))) .nil) .nil) (.cons (.ite (.cmp .In (.pk 5) (.tup (.cons (.str "make") (.cons (.str "fill") (.cons (.str "begin") (.cons (.str "get") (.cons (.str "put") .nil))))))) (.cons (.ret (.tup (.cons (.idx (.lst (.cons (.str "make") (.cons (.str "begin") .nil))) (.bin .Mod (.pk 6) (.int 2))) (.cons (.var 7) .nil)))) .nil) .nil) (.cons (.ret (.tup (.cons (.var 5) .nil))) .nil))))))))
theorem toNat_inj : ∀ {a b : List Char}, a.map Char.toNat = b.map Char.toNat → a = b
  | [], [], _ => rfl
  | [], _ :: _, h => by simp at h
  | _ :: _, [], h => by simp at h
  | x :: a, y :: b, h => by
    simp only [List.map_cons, List.cons.injEq] at h
    have hx : x = y := Char.ext (UInt32.toNat_inj.mp h.1)
    rw [hx, toNat_inj h.2]
/-- texts of the program compared -/
@[simp] theorem str_inj {a b : String} : (Str.ofString a = Str.ofString b) ↔ a = b := by
  constructor
  · intro h
    rw [Str.ofString_eq_toList, Str.ofString_eq_toList] at h
    have h2 : (a.toList.map Char.toNat).toArray = (b.toList.map Char.toNat).toArray := by injection h
    exact String.toList_inj.mp (toNat_inj (by simpa using h2))
  · rintro rfl; rfl
theorem in_strs (s : Str) (zs : List Str) : cmpM .In (.str s) (.tup (zs.map D.str)) = .pure (zs.any fun z => decide (z = s)) := by
  refine cmp_of (fun _ z => (by cases z)) (fun _ z => (by cases z)) ?_
  have a : (zs.map D.str).all D.flat = true := by
    rw [List.all_eq_true]
    intro d hd
    obtain ⟨k, _, rfl⟩ := List.mem_map.mp hd
    rfl
  show (if (D.str s).flat && (zs.map D.str).all D.flat then some ((zs.map D.str).any fun z => PyData.eqv z.pd (D.str s).pd) else _) = _
  rw [a]
  show some _ = some _
  rw [List.any_map]
  congr 2
section
variable (s a b c d e f g h : Str)
@[simp] theorem ins2 : cmpM .In (.str s) (.tup [.str a, .str b]) = .pure (decide (a = s) || decide (b = s)) := (in_strs s [a, b]).trans (by simp)
@[simp] theorem ins3 : cmpM .In (.str s) (.tup [.str a, .str b, .str c]) = .pure (decide (a = s) || (decide (b = s) || decide (c = s))) := (in_strs s [a, b, c]).trans (by simp)
@[simp] theorem ins4 : cmpM .In (.str s) (.tup [.str a, .str b, .str c, .str d]) = .pure (decide (a = s) || (decide (b = s) || (decide (c = s) || decide (d = s)))) := (in_strs s [a, b, c, d]).trans (by simp)
@[simp] theorem ins5 : cmpM .In (.str s) (.tup [.str a, .str b, .str c, .str d, .str e]) = .pure (decide (a = s) || (decide (b = s) || (decide (c = s) || (decide (d = s) || decide (e = s))))) := (in_strs s [a, b, c, d, e]).trans (by simp)
@[simp] theorem ins7 : cmpM .In (.str s) (.tup [.str a, .str b, .str c, .str d, .str e, .str f, .str g]) = .pure (decide (a = s) || (decide (b = s) || (decide (c = s) || (decide (d = s) || (decide (e = s) || (decide (f = s) || decide (g = s))))))) := (in_strs s [a, b, c, d, e, f, g]).trans (by simp)
@[simp] theorem ins8 : cmpM .In (.str s) (.tup [.str a, .str b, .str c, .str d, .str e, .str f, .str g, .str h]) = .pure (decide (a = s) || (decide (b = s) || (decide (c = s) || (decide (d = s) || (decide (e = s) || (decide (f = s) || (decide (g = s) || decide (h = s)))))))) := (in_strs s [a, b, c, d, e, f, g, h]).trans (by simp)
end
def SIGNS : List Str := ["push", "load", "store", "dup", "swap", "drop", "add", "sub", "mul", "div", "rem", "less", "same", "jump", "zero", "kin", "make", "fill", "begin", "get", "put", "call", "toss", "say", "give"]
section
variable {T : Tb} {ms : Mks}
inductive Op7 | add | sub | mul | div | rem | less | same
def Op7.s : Op7 → Str
  | .add => "add" | .sub => "sub" | .mul => "mul" | .div => "div" | .rem => "rem" | .less => "less" | .same => "same"
inductive Rw
  | push (z : Int) | load (k : Nat) | store (k : Nat) | op (o : Op7) | dup | swap | drop | toss | say | give
  | jump (k : Nat) | zero (k : Nat) | kin (c k : Nat) | make (c : Nat) | fill (c f : Nat) | begin (c : Nat) | get (c f : Nat) | put (c f : Nat) | call (p : Nat)
def Rw.d : Rw → D
  | .push z => .tup [.str "push", .int z]
  | .load k => .tup [.str "load", .int (k : Int)]
  | .store k => .tup [.str "store", .int (k : Int)]
  | .op o => .tup [.str o.s]
  | .dup => .tup [.str "dup"]
  | .swap => .tup [.str "swap"]
  | .drop => .tup [.str "drop"]
  | .toss => .tup [.str "toss"]
  | .say => .tup [.str "say"]
  | .give => .tup [.str "give"]
  | .jump k => .tup [.str "jump", .int (k : Int)]
  | .zero k => .tup [.str "zero", .int (k : Int)]
  | .kin c k => .tup [.str "kin", .int (c : Int), .int (k : Int)]
  | .make c => .tup [.str "make", .int (c : Int)]
  | .fill c f => .tup [.str "fill", .int (c : Int), .int (f : Int)]
  | .begin c => .tup [.str "begin", .int (c : Int)]
  | .get c f => .tup [.str "get", .int (c : Int), .int (f : Int)]
  | .put c f => .tup [.str "put", .int (c : Int), .int (f : Int)]
  | .call p => .tup [.str "call", .int (p : Int)]
/-- a row's numbers lie in their ranges -/
def Rw.ok (sz : List Nat) (parts boxes many : Nat) : Rw → Prop
  | .push z => -2147483648 ≤ z ∧ z ≤ 2147483647
  | .load k => k < boxes
  | .store k => k < boxes
  | .jump k => k < many
  | .zero k => k < many
  | .kin c k => c < sz.length ∧ k < many
  | .make c => c < sz.length
  | .begin c => c < sz.length
  | .fill c f => ∃ s, sz[c]? = some s ∧ f < s
  | .get c f => ∃ s, sz[c]? = some s ∧ f < s
  | .put c f => ∃ s, sz[c]? = some s ∧ f < s
  | .call p => p < parts
  | _ => True
theorem mod_nat (z : Int) {m : Nat} (h : 0 < m) : ∃ k : Nat, z % (m : Int) = (k : Int) ∧ k < m := by
  have m1 := Int.emod_nonneg z (show (m : Int) ≠ 0 by omega)
  have m2 := Int.emod_lt_of_pos z (show (0 : Int) < m by omega)
  exact ⟨(z % (m : Int)).toNat, by omega, by omega⟩
def OpLast : Rw → Prop
  | .jump _ => True | .toss => True | .give => True | _ => False
structure Str3 where
  a : Nat
  b : Nat
  p : Nat
def Str3.d (q : Str3) : D := .tup [.int (q.a : Int), .int (q.b : Int), .int (q.p : Int)]
def Str3.ok (many : Nat) (q : Str3) : Prop := q.a < q.b ∧ q.b ≤ many ∧ q.p < many
structure Pt where
  takes : List D
  gives : D
  boxes : Nat
  height : Nat
  rows : List Rw
  sts : List Str3
def Pt.d (p : Pt) : D := .tup [.lst p.takes, p.gives, .int (p.boxes : Int), .int (p.height : Int), .lst (p.rows.map Rw.d), .lst (p.sts.map Str3.d)]
structure Pt.ok (sz : List Nat) (parts : Nat) (p : Pt) : Prop where
  takes : ∀ d ∈ p.takes, KindOk sz d
  tl : p.takes.length ≤ p.boxes
  gives : KindOk sz p.gives
  boxes : p.boxes ≤ 8
  h1 : 1 ≤ p.height
  h8 : p.height ≤ 8
  rows : ∀ r ∈ p.rows, r.ok sz parts p.boxes p.rows.length
  r1 : 1 ≤ p.rows.length
  r100 : p.rows.length ≤ 100
  sts : ∀ q ∈ p.sts, q.ok p.rows.length
  sl : p.sts.length ≤ 8
  last : ∃ r, p.rows[p.rows.length - 1]? = some r ∧ OpLast r
section
variable (hd : Lk T "_law_draw" c_law_draw) (hk : Lk T "_law_kind" c_law_kind) (hsg : Lk T "_law_signs" c_law_signs) (hr : Lk T "_law_row" c_law_row) (hla : Lk T "_law_last" c_law_last) (hst : Lk T "_law_stretch" c_law_stretch)
include hd hk hsg hr hla hst
end
/-- how many fields each make has -/
def fls (ms : Mks) : List Nat := (List.range ms.length).map fun k => (flds ms k).length
@[simp] theorem fls_len : (fls ms).length = ms.length := by simp [fls]
def bkD (ms : Mks) (ps : List Pt) : D := .tup [msD ms, .lst (ps.map Pt.d)]
structure BkOk (ms : Mks) (ps : List Pt) : Prop where
  l1 : 1 ≤ ps.length
  l8 : ps.length ≤ 8
  ok : ∀ p ∈ ps, p.ok (fls ms) ps.length
section
variable (hd : Lk T "_law_draw" c_law_draw) (hk : Lk T "_law_kind" c_law_kind) (hsg : Lk T "_law_signs" c_law_signs) (hr : Lk T "_law_row" c_law_row) (hla : Lk T "_law_last" c_law_last) (hst : Lk T "_law_stretch" c_law_stretch)
  (hpa : Lk T "_law_part" c_law_part) (hm : Lk T "_law_makes" c_law_makes) (hel : Lk T "_law_elders" c_law_elders) (hfl : Lk T "_law_fields" c_law_fields)
include hd hk hsg hr hla hst hpa hm hel hfl
end
theorem Rw.okD (r : Rw) : RR.okD 1 r.d = true := by
  have a : ∀ z ∈ SIGNS, PyData.strOk z = true := by decide +kernel
  cases r <;> simp only [Rw.d, RR.okD, okDs, Bool.and_true, Bool.and_eq_true] <;> first
    | (rename_i o; cases o <;> exact a _ (by simp [SIGNS, Op7.s]; done))
    | exact a _ (by simp [SIGNS]; done)
    | exact ⟨a _ (by simp [SIGNS]; done), trivial⟩
    | trivial
end
end RR

namespace RR
open PySem L2
section
variable {Γ : Cfg} {a : S} {b : Ss} {s s' : RS} {d : D} {fr : Bool} {h h' : HP}
theorem at_ok {α : Type} {m : M α} {x : α} (e : m h = .ok x h') : at_ s m h = .ok x h' := by
  unfold at_ Mx.tell
  rw [e]
theorem run_rth {fn : Fn} {as : List D} (hl : as.length = fn.ps) (e : evSs Γ fn.body (as.map .val ++ List.replicate (fn.N.length - fn.ps) .un) h = .ok (.rt d fn.fr) h') : runF Γ fn as h = .ok d h' := by
  unfold runF
  rw [if_pos hl]
  unfold Mx.tell
  rw [bind_ok e, fi2]
  rfl
theorem for_runh {tg : Tg} {it : It} {b : Ss} {xs : List D} {r : Re (D × RS) Fl} (hi : evIt Γ it s h = .ok xs h') (q : forL (forStep tg (evSs Γ b)) xs s h' = r) : evS Γ (.for tg it b) s h = r := by
  rw [evS, bind_ok (at_ok hi), q]
end
section
variable {h : HP} {k : Nat} {xs : List D}
theorem vw_o (e : h[k]? = some (.lst xs)) : vw h (.obj k) = .lst xs := by unfold vw; simp only [e]
end
mutual
theorem okD_noO : ∀ (n : Nat) (d : D), okD n d = true → d.noO = true
  | _, .non, _ => rfl
  | _, .bl _, _ => rfl
  | _, .int _, _ => rfl
  | _, .str _, _ => rfl
  | n + 1, .tup xs, h => by rw [D.noO]; exact okDs_noO n xs (by simpa [okD] using h)
  | n + 1, .lst xs, h => by rw [D.noO]; exact okDs_noO n xs (by simpa [okD] using h)
  | 0, .tup xs, h => by simp [okD] at h
  | 0, .lst xs, h => by simp [okD] at h
  | _, .dic _, h => by simp [okD] at h
  | _, .xn _ _, h => by simp [okD] at h
  | _, .obj _, h => by simp [okD] at h
theorem okDs_noO : ∀ (n : Nat) (xs : List D), okDs n xs = true → noOs xs = true
  | _, [], _ => rfl
  | n, x :: xs, h => by
    rw [okDs, Bool.and_eq_true] at h
    rw [noOs, okD_noO n x h.1, okDs_noO n xs h.2]
    rfl
end
mutual
theorem rsv_noO : ∀ (n : Nat) (h : HP) (d : D), d.noO = true → rsv n h d = d
  | 0, _, _, _ => by rw [rsv]
  | n + 1, h, .tup xs, e => by rw [rsv, rsvs_noO n h xs (by simpa [D.noO] using e)]
  | n + 1, h, .lst xs, e => by rw [rsv, rsvs_noO n h xs (by simpa [D.noO] using e)]
  | _ + 1, _, .non, _ => rfl
  | _ + 1, _, .bl _, _ => rfl
  | _ + 1, _, .int _, _ => rfl
  | _ + 1, _, .str _, _ => rfl
  | _ + 1, _, .dic _, _ => rfl
  | _ + 1, _, .xn _ _, _ => rfl
  | _ + 1, _, .obj _, e => by simp [D.noO] at e
theorem rsvs_noO : ∀ (n : Nat) (h : HP) (xs : List D), noOs xs = true → xs.map (rsv n h) = xs
  | _, _, [], _ => rfl
  | n, h, x :: xs, e => by
    rw [noOs, Bool.and_eq_true] at e
    rw [List.map_cons, rsv_noO n h x e.1, rsvs_noO n h xs e.2]
end
section
variable {Γ : Cfg} {a : S} {b : Ss} {s s' : RS} {d : D} {fr : Bool} {h h' : HP} {k : Nat} {xs : List D}
theorem cmp_o {op : CmpOp} {y : D} {c : Bool} (e : h[k]? = some (.lst xs)) (q : cmpM op (.lst xs) y = .pure c) : cmpM op (.obj k) y h = .ok c h := by
  have := congrFun q h
  unfold cmpM at this ⊢
  rw [vw_o e]
  exact this
theorem isi_o {ty : Str} {c : Bool} (e : h[k]? = some (.lst xs)) (q : isiM ty (.lst xs) = .pure c) : isiM ty (.obj k) h = .ok c h := by
  have := congrFun q h
  unfold isiM at this ⊢
  rw [vw_o e]
  exact this
end
end RR

namespace RR
open PySem L2
section
variable {ε α β : Type} {h h1 h2 h3 : HP}
def Mx.run (m : Mx ε α) (h : HP) : Re ε α := m h
theorem run_of {m : Mx ε α} {a : α} (e : m = .pure a) : m.run h = .ok a h := by subst e; rfl
theorem run_h {m : Mx ε α} {r : Re ε α} (e : m h = r) : m.run h = r := e
theorem at_run {α : Type} {s : RS} {m : M α} {x : α} {h h' : HP} (e : m.run h = .ok x h') : at_ s m h = .ok x h' := at_ok e
theorem bo {m : Mx ε α} {k : α → Mx ε β} {a : α} {r : Re ε β} (e : (m).run h = .ok a h1) (q : (k a).run h1 = r) : (m.bind k).run h = r := (bind_ok e).trans q
theorem lift_ok {o : Option α} {a : α} (e : o = some a) : ((Mx.lift o : Mx ε α)).run h = .ok a h := by subst e; rfl
theorem pure_ok (a : α) : ((Mx.pure a : Mx ε α)).run h = .ok a h := rfl
end
section
variable {Γ : Cfg} {s s1 s2 : RS} {h h1 h2 h3 h4 : HP} {a b c d : C} {as : Cs} {x y z u : D} {i : Nat} {p q : Bool} {xs ys : List D}
theorem G0 {v : Sl} {l : RS} : (v :: l)[0]? = some v := rfl
theorem GS {v w : Sl} {l : RS} {n : Nat} (e : l[n]? = some w) : (v :: l)[n + 1]? = some w := by simpa using e
theorem Z0 {v w : Sl} {l : RS} : (v :: l).set 0 w = w :: l := rfl
theorem ZS {v w : Sl} {l l2 : RS} {n : Nat} (e : l.set n w = l2) : (v :: l).set (n + 1) w = v :: l2 := by rw [List.set_cons_succ, e]
theorem X_int {i : Int} : (evE Γ (.int i) s).run h = .ok (.int i) h := by rw [evE]; rfl
theorem X_str {t : Str} : (evE Γ (.str t) s).run h = .ok (.str t) h := by rw [evE]; rfl
theorem X_bl {t : Bool} : (evE Γ (.bl t) s).run h = .ok (.bl t) h := by rw [evE]; rfl
theorem X_non : (evE Γ .non s).run h = .ok .non h := by rw [evE]; rfl
theorem X_var (e : s[i]? = some (.val x)) : (evE Γ (.var i) s).run h = .ok x h := by rw [evE]; unfold slotV; rw [e]; rfl
theorem X_pk (e : s[i]? = some (.val x)) : (evE Γ (.pk i) s).run h = .ok x h := by rw [evE]; unfold slotP; rw [e]; rfl
theorem X_pko (e : s[i]? = some (.own x)) : (evE Γ (.pk i) s).run h = .ok x h := by rw [evE]; unfold slotP; rw [e]; rfl
def slD : Sl → Option D
  | .val d => some d | .own d => some d | .un => none
theorem SD1 : slD (.val x) = some x := rfl
theorem X_pkv {v : Sl} (e : s[i]? = some v) (e2 : slD v = some x) : (evE Γ (.pk i) s).run h = .ok x h := by
  cases v with
  | un => cases e2
  | val d => cases e2; exact X_pk e
  | own d => cases e2; exact X_pko e
theorem X_glob {t : Str} (e : glM Γ t = .pure x) : (evE Γ (.glob t) s).run h = .ok x h := by rw [evE, e]; rfl
theorem X_bin {op : Operator} (e1 : (evE Γ a s).run h = .ok x h1) (e2 : (evE Γ b s).run h1 = .ok y h2) (e3 : (binM op x y).run h2 = .ok z h3) : (evE Γ (.bin op a b) s).run h = .ok z h3 := by
  rw [evE]; exact bo e1 (bo e2 e3)
theorem X_neg {i : Int} (e1 : (evE Γ a s).run h = .ok (.int i) h1) : (evE Γ (.neg a) s).run h = .ok (.int (-i)) h1 := by rw [evE]; exact bo e1 rfl
theorem X_not (e1 : (evE Γ a s).run h = .ok x h1) (e2 : (truM x).run h1 = .ok p h2) : (evE Γ (.not a) s).run h = .ok (.bl (!p)) h2 := by rw [evE]; exact bo e1 (bo e2 rfl)
theorem X_cmp {op : CmpOp} (e1 : (evE Γ a s).run h = .ok x h1) (e2 : (evE Γ b s).run h1 = .ok y h2) (e3 : (cmpM op x y).run h2 = .ok p h3) : (evE Γ (.cmp op a b) s).run h = .ok (.bl p) h3 := by
  rw [evE]; exact bo e1 (bo e2 (bo e3 rfl))
theorem X_tup (e1 : (evCs Γ as s).run h = .ok xs h1) (hl : xs.length ≤ LINE) : (evE Γ (.tup as) s).run h = .ok (.tup xs) h1 := by rw [evE]; exact bo e1 (by rw [tm1 _ hl]; rfl)
theorem X_lst (e1 : (evCs Γ as s).run h = .ok xs h1) (hl : xs.length ≤ LINE) : (evE Γ (.lst as) s).run h = .ok (.lst xs) h1 := by rw [evE]; exact bo e1 (by rw [lm1 _ hl]; rfl)
theorem X_idx (e1 : (evE Γ a s).run h = .ok x h1) (e2 : (evE Γ b s).run h1 = .ok y h2) (e3 : (idxM x y).run h2 = .ok z h3) : (evE Γ (.idx a b) s).run h = .ok z h3 := by rw [evE]; exact bo e1 (bo e2 e3)
theorem X_slc01 {j : Int} (e1 : (evE Γ a s).run h = .ok x h1) (e2 : (evE Γ b s).run h1 = .ok (.int j) h2) (e4 : (slcM x none (some j)).run h2 = .ok z h3) : (evE Γ (.slc a .no (.so b)) s).run h = .ok z h3 := by rw [evE]; exact bo e1 (bo (a := .non) (by rw [evOc]; rfl) (bo (a := none) rfl (bo (by rw [evOc]; exact e2) (bo (a := some j) rfl e4))))
theorem X_call {f : Str} (e1 : (evCs Γ as s).run h = .ok xs h1) (e2 : (Γ.call f xs).run h1 = .ok z h2) : (evE Γ (.call f as) s).run h = .ok z h2 := by rw [evE]; exact bo e1 e2
theorem X_bi {f : Str} (e1 : (evCs Γ as s).run h = .ok xs h1) (e2 : (biM f xs).run h1 = .ok z h2) : (evE Γ (.bi f as) s).run h = .ok z h2 := by rw [evE]; exact bo e1 e2
theorem X_isi {t : Str} (e1 : (evE Γ a s).run h = .ok x h1) (e2 : (isiM t x).run h1 = .ok p h2) : (evE Γ (.isi t a) s).run h = .ok (.bl p) h2 := by rw [evE]; exact bo e1 (bo e2 rfl)
theorem X_new (e1 : (evE Γ a s).run h = .ok (.lst xs) h1) (e2 : frC Γ a (.lst xs) = true) : (evE Γ (.new a) s).run h = .ok (.obj h1.length) (h1 ++ [.lst xs]) := by rw [evE]; exact bo e1 (by rw [e2]; rfl)
theorem X_dnew : (evE Γ .dnew s).run h = .ok (.dic []) h := by rw [evE]; rfl
theorem X_dget (e1 : (evE Γ a s).run h = .ok x h1) (e2 : (evE Γ b s).run h1 = .ok y h2) (e3 : (dgetM x y).run h2 = .ok z h3) : (evE Γ (.dget a b) s).run h = .ok z h3 := by rw [evE]; exact bo e1 (bo e2 e3)
theorem X_fld {f : Str} (e1 : (evE Γ a s).run h = .ok x h1) (e2 : (fldM Γ f x).run h1 = .ok z h2) : (evE Γ (.fld a f) s).run h = .ok z h2 := by rw [evE]; exact bo e1 e2
theorem X_isx {f : Str} (e1 : (evE Γ a s).run h = .ok x h1) (e2 : (isxM Γ f x).run h1 = .ok z h2) : (evE Γ (.isx f a) s).run h = .ok z h2 := by rw [evE]; exact bo e1 e2
theorem X_ni {cl : Str} {gs : List Str} (e1 : Γ.ins cl = some gs) (e2 : Γ.lv ≠ 0) (e3 : (evCs Γ as s).run h = .ok xs h1) (e4 : (Γ.mkc cl (.obj h1.length :: xs)).run (h1 ++ [.inst cl []]) = .ok .non h2) : (evE Γ (.ni cl as) s).run h = .ok (.obj h1.length) h2 := by
  rw [evE]
  unfold raiG
  rw [if_pos (by simp [e1, e2])]
  refine bo e3 ?_
  show niM _ _ _ _ = _
  unfold niM
  simp only [e1, show Γ.mkc cl (.obj h1.length :: xs) (h1 ++ [.inst cl []]) = .ok .non h2 from e4]
theorem X_nil : (evCs Γ .nil s).run h = .ok [] h := by rw [evCs]; rfl
theorem X_cons (e1 : (evE Γ a s).run h = .ok x h1) (e2 : (evCs Γ as s).run h1 = .ok xs h2) : (evCs Γ (.cons a as) s).run h = .ok (x :: xs) h2 := by rw [evCs]; exact bo e1 (bo e2 rfl)
theorem T_cmp {op : CmpOp} (e1 : (evE Γ a s).run h = .ok x h1) (e2 : (evE Γ b s).run h1 = .ok y h2) (e3 : (cmpM op x y).run h2 = .ok p h3) : (evT Γ (.cmp op a b) s).run h = .ok p h3 := by rw [evT]; exact bo e1 (bo e2 e3)
theorem T_not (e1 : (evT Γ a s).run h = .ok p h1) : (evT Γ (.not a) s).run h = .ok (!p) h1 := by rw [evT]; exact bo e1 rfl
theorem T_and (e : (evTAnd Γ as s).run h = .ok p h1) : (evT Γ (.and as) s).run h = .ok p h1 := by rw [evT]; exact e
theorem T_or (e : (evTOr Γ as s).run h = .ok p h1) : (evT Γ (.or as) s).run h = .ok p h1 := by rw [evT]; exact e
theorem T_and1 (e : (evT Γ a s).run h = .ok p h1) : (evTAnd Γ (.cons a .nil) s).run h = .ok p h1 := by rw [evTAnd]; exact e
theorem T_or1 (e : (evT Γ a s).run h = .ok p h1) : (evTOr Γ (.cons a .nil) s).run h = .ok p h1 := by rw [evTOr]; exact e
theorem V_and (e : (evAnd Γ as s).run h = .ok x h1) : (evE Γ (.and as) s).run h = .ok x h1 := by rw [evE]; exact e
theorem V_and1 (e : (evE Γ a s).run h = .ok x h1) : (evAnd Γ (.cons a .nil) s).run h = .ok x h1 := by rw [evAnd]; exact e
/-- a test by a value -/
theorem T_val (hc : evT Γ a s = (evE Γ a s).bind truM) (e : (evE Γ a s).run h = .ok x h1) (e2 : (truM x).run h1 = .ok p h2) : (evT Γ a s).run h = .ok p h2 := by rw [hc]; exact bo e e2
theorem t_pk : evT Γ (.pk i) s = (evE Γ (.pk i) s).bind truM := by rw [evT]; all_goals simp
theorem t_call {f : Str} : evT Γ (.call f as) s = (evE Γ (.call f as) s).bind truM := by rw [evT]; all_goals simp
theorem t_isi {f : Str} : evT Γ (.isi f a) s = (evE Γ (.isi f a) s).bind truM := by rw [evT]; all_goals simp
end
section
/-- one or the other -/
def sel {α : Type} (p : Bool) (a b : α) : α := match p with | true => a | false => b
theorem sel_t {ε α : Type} {p : Bool} {a b : Mx ε α} {h : HP} {r : Re ε α} (hp : p = true) (q : a.run h = r) : (sel p a b).run h = r := by subst hp; exact q
theorem sel_f {ε α : Type} {p : Bool} {a b : Mx ε α} {h : HP} {r : Re ε α} (hp : p = false) (q : b.run h = r) : (sel p a b).run h = r := by subst hp; exact q
variable {Γ : Cfg} {s s1 s2 : RS} {h h1 h2 h3 h4 : HP} {a b c d : C} {as : Cs} {x y z u : D} {i : Nat} {p q : Bool}
def chn2 (Γ : Cfg) (op : CmpOp) (y : D) (c : C) (s : RS) : M Bool := (evE Γ c s).bind fun z => cmpM op y z
theorem C2 {op : CmpOp} (e1 : (evE Γ c s).run h = .ok z h1) (e2 : (cmpM op y z).run h1 = .ok q h2) : (chn2 Γ op y c s).run h = .ok q h2 := bo e1 e2
theorem T_chn {op op' : CmpOp} (e1 : (evE Γ a s).run h = .ok x h1) (e2 : (evE Γ b s).run h1 = .ok y h2) (e3 : (cmpM op x y).run h2 = .ok p h3) (e5 : (sel p (chn2 Γ op' y c s) (.pure false)).run h3 = .ok q h4) : (evT Γ (.chn op op' a b c) s).run h = .ok q h4 := by
  rw [evT]; refine bo e1 (bo e2 (bo e3 ?_)); cases p <;> exact e5
theorem T_andS {b : C} (e : (evT Γ a s).run h = .ok p h1) (e2 : (sel p (evTAnd Γ (.cons b as) s) (.pure false)).run h1 = .ok q h2) : (evTAnd Γ (.cons a (.cons b as)) s).run h = .ok q h2 := by
  rw [evTAnd]
  · refine bo e ?_
    cases p <;> exact e2
  · simp
theorem T_orS {b : C} (e : (evT Γ a s).run h = .ok p h1) (e2 : (sel p (.pure true) (evTOr Γ (.cons b as) s)).run h1 = .ok q h2) : (evTOr Γ (.cons a (.cons b as)) s).run h = .ok q h2 := by
  rw [evTOr]
  · refine bo e ?_
    cases p <;> exact e2
  · simp
theorem V_andS {b : C} (e : (evE Γ a s).run h = .ok (.bl p) h1) (e2 : (sel p (evAnd Γ (.cons b as) s) (.pure (.bl false))).run h1 = .ok x h2) : (evAnd Γ (.cons a (.cons b as)) s).run h = .ok x h2 := by
  rw [evAnd]
  · refine bo e (bo (a := p) rfl ?_)
    cases p <;> exact e2
  · simp
end
section
variable {Γ : Cfg} {s s1 s3 : RS} {h h1 h2 h3 : HP} {elt cc : C} {tg : Tg} {it : It} {cd : Oc} {x d : D} {xs ys : List D} {p : Bool}
theorem nox_ok {ε α : Type} {m : Mx ε α} {a : α} (e : m.run h = .ok a h1) : (m.nox).run h = .ok a h1 := by
  show Mx.nox m h = _
  unfold Mx.nox
  rw [show m h = _ from e]
theorem X_lc (hi : (evIt Γ it s).run h = .ok xs h1) (hf : freeAt s tg.ix = true) (hw : wipeR s tg.ix = s1) (hb : (it.sz || decide (xs.length ≤ LINE)) = true) (q : (lcL (lcStep s1 tg (evOcT Γ cd) (evE Γ elt)) xs []).run h1 = .ok ys h2) : (evE Γ (.lc elt tg it cd) s).run h = .ok (.lst ys) h2 := by
  rw [evE]
  refine bo hi ?_
  unfold lcM
  rw [hf, Bool.true_and, if_pos hb, hw]
  exact bo q rfl
theorem L_lc (w : asg tg x s = some s3) (e : (evE Γ elt s3).run h = .ok d h1) : (lcStep s tg (evOcT Γ .no) (evE Γ elt) x).run h = .ok (some d) h1 := by
  unfold lcStep
  rw [w]
  refine bo (a := true) (h1 := h) (nox_ok (by rw [evOcT]; rfl)) ?_
  exact bo (nox_ok e) rfl
theorem L_lcT (w : asg tg x s = some s3) (c : (evT Γ cc s3).run h = .ok p h1) (hp : p = true) (e : (evE Γ elt s3).run h1 = .ok d h2) : (lcStep s tg (evOcT Γ (.so cc)) (evE Γ elt) x).run h = .ok (some d) h2 := by
  subst hp
  unfold lcStep
  rw [w]
  refine bo (nox_ok (by rw [evOcT]; exact c)) ?_
  exact bo (nox_ok e) rfl
theorem L_lcF (w : asg tg x s = some s3) (c : (evT Γ cc s3).run h = .ok p h1) (hp : p = false) : (lcStep s tg (evOcT Γ (.so cc)) (evE Γ elt) x).run h = .ok none h1 := by
  subst hp
  unfold lcStep
  rw [w]
  exact bo (nox_ok (by rw [evOcT]; exact c)) rfl
theorem lc_mapH {α : Type} {f : D → M (Option D)} (g v : α → D) : ∀ (xs : List α) (acc : List D), (∀ x ∈ xs, (f (g x)).run h = .ok (some (v x)) h) → (lcL f (xs.map g) acc).run h = .ok (acc ++ xs.map v) h
  | [], acc, _ => by simp [lcL]; rfl
  | x :: xs, acc, e => by
    rw [List.map_cons, lcL]
    refine bo (e x List.mem_cons_self) ?_
    rw [lc_mapH g v xs (acc ++ [v x]) fun y hy => e y (List.mem_cons_of_mem _ hy)]
    simp
theorem lc_filH {α : Type} {f : D → M (Option D)} (g : α → D) (P : α → Bool) (v : α → D) : ∀ (xs : List α) (acc : List D), (∀ x ∈ xs, (f (g x)).run h = .ok (if P x then some (v x) else none) h) → (lcL f (xs.map g) acc).run h = .ok (acc ++ (xs.filter P).map v) h
  | [], acc, _ => by simp [lcL]; rfl
  | x :: xs, acc, e => by
    rw [List.map_cons, lcL]
    refine bo (e x List.mem_cons_self) ?_
    have ih := fun acc => lc_filH g P v xs acc fun y hy => e y (List.mem_cons_of_mem _ hy)
    cases q : P x with
    | true => simp only [if_true]; rw [ih]; simp [q]
    | false => simp only [Bool.false_eq_true, if_false]; rw [ih]; simp [q]
end
section
variable {Γ : Cfg} {s s1 s2 s3 : RS} {h h1 h2 h3 h4 : HP} {a b c : C} {as : Cs} {x y z : D} {i j : Nat} {p q fr : Bool} {xs ys : List D} {k : RS → MS Fl} {r : Re (D × RS) Fl} {st : S} {b1 b2 rest : Ss}
theorem thn_nx {m : MS Fl} (e : (m).run h = .ok (.nx s1) h1) : (thn m k).run h = (k s1).run h1 := by
  show thn m k h = k s1 h1
  unfold thn; rw [bind_ok (show m h = _ from e)]
theorem thn_rt {m : MS Fl} (e : (m).run h = .ok (.rt x fr) h1) : (thn m k).run h = .ok (.rt x fr) h1 := by
  show thn m k h = _
  unfold thn; rw [bind_ok (show m h = _ from e)]; rfl
theorem thn_as {m : MS Fl} {k2 : RS → MS Fl} : thn (thn m k) k2 = thn m fun s => thn (k s) k2 := by
  funext h
  unfold thn
  rw [Mx.bind_assoc]
  simp only [Mx.bind]
  cases m h with
  | ok f h1 => cases f <;> rfl
  | exc x h1 => rfl
  | stuck => rfl
theorem thn_id {m : MS Fl} : thn m (fun s => .pure (.nx s)) = m := by
  funext h
  unfold thn
  simp only [Mx.bind]
  cases m h with
  | ok f h1 => cases f <;> rfl
  | exc x h1 => rfl
  | stuck => rfl
theorem K_run (e : (thn (evSs Γ b1 s) (fun s => .pure (.nx s))).run h = r) : evSs Γ b1 s h = r := by rw [thn_id] at e; exact e
theorem K_nil (e : (k s).run h = r) : (thn (evSs Γ .nil s) k).run h = r := by rw [evSs]; exact e
theorem K_st (e : (evS Γ st s).run h = .ok (.nx s1) h1) (q : (thn (evSs Γ rest s1) k).run h1 = r) : (thn (evSs Γ (.cons st rest) s) k).run h = r := by
  rw [evSs, thn_as, thn_nx e]; exact q
theorem K_rt (e : (evS Γ st s).run h = .ok (.rt x fr) h1) (q : r = .ok (.rt x fr) h1) : (thn (evSs Γ (.cons st rest) s) k).run h = r := by
  rw [evSs, thn_as, thn_rt e, q]
theorem K_set (e : (evE Γ c s).run h = .ok x h1) (w : s.set i (.val x) = s1) (q : (thn (evSs Γ rest s1) k).run h1 = r) : (thn (evSs Γ (.cons (.set i c) rest) s) k).run h = r :=
  K_st (run_h <| by rw [evS, bind_ok (at_run e), w]; rfl) q
theorem K_seto (e : (evE Γ c s).run h = .ok x h1) (f : (frC Γ c x && x.isC) = true) (w : s.set i (.own x) = s1) (q : (thn (evSs Γ rest s1) k).run h1 = r) : (thn (evSs Γ (.cons (.seto i c) rest) s) k).run h = r :=
  K_st (run_h <| by rw [evS, bind_ok (at_run e), if_pos f, w]; rfl) q
theorem K_unp {ts : List Nat} (e : (evE Γ c s).run h = .ok x h1) (w : asg (.tp ts) x s = some s1) (q : (thn (evSs Γ rest s1) k).run h1 = r) : (thn (evSs Γ (.cons (.unp ts c) rest) s) k).run h = r :=
  K_st (run_h <| by rw [evS, bind_ok (at_run e), w]; rfl) q
theorem K_ex (e : (evE Γ c s).run h = .ok x h1) (q : (thn (evSs Γ rest s) k).run h1 = r) : (thn (evSs Γ (.cons (.ex c) rest) s) k).run h = r :=
  K_st (run_h <| by rw [evS, bind_ok (at_run e)]; rfl) q
theorem K_kill {is : List Nat} (w : wipeR s is = s1) (q : (thn (evSs Γ rest s1) k).run h = r) : (thn (evSs Γ (.cons (.kill is) rest) s) k).run h = r :=
  K_st (run_h <| by rw [evS, w]; rfl) q
theorem K_frz (g : s[i]? = some (.own x)) (w : s.set i (.val x) = s1) (q : (thn (evSs Γ rest s1) k).run h = r) : (thn (evSs Γ (.cons (.frz i) rest) s) k).run h = r :=
  K_st (run_h <| by rw [evS]; unfold frzS; rw [g]; simp only; rw [w]; rfl) q
theorem K_app (g : s[i]? = some (.own (.lst xs))) (e : (evE Γ c s).run h = .ok x h1) (l : xs.length < LINE) (w : s.set i (.own (.lst (xs ++ [x]))) = s1) (q : (thn (evSs Γ rest s1) k).run h1 = r) : (thn (evSs Γ (.cons (.app i c) rest) s) k).run h = r :=
  K_st (run_h <| by
    rw [evS]; unfold ownAt; rw [g]; simp only
    rw [bind_ok (at_run e)]; unfold appS; rw [g]; simp only; rw [if_pos l, w]; rfl) q
theorem K_ret (q : r = .ok (.rt x false) h1) (e : (evE Γ c s).run h = .ok x h1) : (thn (evSs Γ (.cons (.ret c) rest) s) k).run h = r :=
  K_rt (run_h <| by rw [evS, bind_ok (at_run e)]; rfl) q
theorem K_ite_t (e : (evT Γ c s).run h = .ok p h1) (hp : p = true) (q : (thn (evSs Γ b1 s) (fun s => thn (evSs Γ rest s) k)).run h1 = r) : (thn (evSs Γ (.cons (.ite c b1 b2) rest) s) k).run h = r := by
  subst hp; rw [evSs, thn_as, evS]
  unfold thn at q ⊢
  rw [Mx.bind_assoc]
  exact (bind_ok (at_run e)).trans q
theorem K_ite_f (e : (evT Γ c s).run h = .ok p h1) (hp : p = false) (q : (thn (evSs Γ b2 s) (fun s => thn (evSs Γ rest s) k)).run h1 = r) : (thn (evSs Γ (.cons (.ite c b1 b2) rest) s) k).run h = r := by
  subst hp; rw [evSs, thn_as, evS]
  unfold thn at q ⊢
  rw [Mx.bind_assoc]
  exact (bind_ok (at_run e)).trans q
theorem K_ite (e : (evT Γ c s).run h = .ok p h1) (q : (sel p (thn (evSs Γ b1 s) (fun s => thn (evSs Γ rest s) k)) (thn (evSs Γ b2 s) (fun s => thn (evSs Γ rest s) k))).run h1 = r) : (thn (evSs Γ (.cons (.ite c b1 b2) rest) s) k).run h = r := by
  cases p
  · exact K_ite_f e rfl q
  · exact K_ite_t e rfl q
theorem K_fset {f : Str} (e1 : (evE Γ b s).run h = .ok x h1) (e2 : (evE Γ c s).run h1 = .ok y h2) (e3 : (fsetM Γ f y x).run h2 = .ok () h3) (q : (thn (evSs Γ rest s) k).run h3 = r) : (thn (evSs Γ (.cons (.fset c f b) rest) s) k).run h = r :=
  K_st (run_h <| by rw [evS, bind_ok (at_run e1), bind_ok (at_run e2), bind_ok (at_run e3)]; rfl) q
theorem frC_lst {as : Cs} {d : D} : frC Γ (.lst as) d = true := rfl
section
variable {i1 i2 i3 i4 i5 i6 : Nat} {x1 x2 x3 x4 x5 x6 : D} {t0 t1 t2 t3 t4 t5 t6 : RS}
theorem A2 (e1 : t0.set i1 (.val x1) = t1) (e2 : t1.set i2 (.val x2) = t2) : asg (.tp [i1, i2]) (.tup [x1, x2]) t0 = some t2 := by subst e1 e2; rfl
theorem A3 (e1 : t0.set i1 (.val x1) = t1) (e2 : t1.set i2 (.val x2) = t2) (e3 : t2.set i3 (.val x3) = t3) : asg (.tp [i1, i2, i3]) (.tup [x1, x2, x3]) t0 = some t3 := by subst e1 e2 e3; rfl
theorem A4 (e1 : t0.set i1 (.val x1) = t1) (e2 : t1.set i2 (.val x2) = t2) (e3 : t2.set i3 (.val x3) = t3) (e4 : t3.set i4 (.val x4) = t4) : asg (.tp [i1, i2, i3, i4]) (.tup [x1, x2, x3, x4]) t0 = some t4 := by subst e1 e2 e3 e4; rfl
end
/-- how a statement ended, and what comes behind -/
def thnF (f : Fl) (k : RS → MS Fl) : MS Fl := match f with
  | .nx s => k s | .rt d fr => .pure (.rt d fr) | .bk s => .pure (.bk s) | .ct s => .pure (.ct s)
theorem N_nx (e : (k s).run h = r) : (thnF (.nx s) k).run h = r := e
theorem N_rt (e : r = .ok (.rt x fr) h) : (thnF (.rt x fr) k).run h = r := e.symm
theorem thn_F {m : MS Fl} {fl : Fl} (e : m.run h = .ok fl h1) : (thn m k).run h = (thnF fl k).run h1 := by
  show thn m k h = thnF fl k h1
  unfold thn
  rw [bind_ok (show m h = _ from e)]
  cases fl <;> rfl
theorem K_any {fl : Fl} (e : (evS Γ st s).run h = .ok fl h1) (q : (thnF fl fun s => thn (evSs Γ rest s) k).run h1 = r) : (thn (evSs Γ (.cons st rest) s) k).run h = r := by
  rw [evSs, thn_as, thn_F e]; exact q
theorem K_for {fl : Fl} {tg : Tg} {it : It} (hi : (evIt Γ it s).run h = .ok xs h1) (e : (forL (forStep tg (evSs Γ b1)) xs s).run h1 = .ok fl h2) (q : (thnF fl fun s => thn (evSs Γ rest s) k).run h2 = r) : (thn (evSs Γ (.cons (.for tg it b1) rest) s) k).run h = r :=
  K_any (run_h (for_runh hi e)) q
theorem I_seq {d : D} (e : (evE Γ c s).run h = .ok d h1) (q : seqD d = some xs) : (evIt Γ (.seq c) s).run h = .ok xs h1 := by rw [evIt]; exact bo e (lift_ok q)
theorem I_rng {ds : List D} (e : (evCs Γ as s).run h = .ok ds h1) (q : rngD ds = some xs) : (evIt Γ (.rng as) s).run h = .ok xs h1 := by rw [evIt]; exact bo e (lift_ok q)
theorem I_zip (e : (evE Γ a s).run h = .ok x h1) (e2 : (evE Γ b s).run h1 = .ok y h2) (q : zipDD x y = some xs) : (evIt Γ (.zip a b) s).run h = .ok xs h2 := by rw [evIt]; exact bo e (bo e2 (lift_ok q))
/-- try: what goes well; what returns; what is raised -/
theorem K_tryN {hs : Hs} (e : (thn (evSs Γ b1 s) fun s => .pure (.nx s)).run h = .ok (.nx s1) h1) (q : (thn (evSs Γ b2 s1) fun s => thn (evSs Γ rest s) k).run h1 = r) : (thn (evSs Γ (.cons (.try b1 hs b2) rest) s) k).run h = r := by
  rw [thn_id] at e
  rw [evSs, thn_as, evS]
  refine Eq.trans ?_ q
  show thn _ _ h = thn _ _ h1
  have : tryM (evSs Γ b1 s) (evHs Γ hs) (evSs Γ b2) h = evSs Γ b2 s1 h1 := by
    unfold tryM
    rw [show evSs Γ b1 s h = _ from e]
  unfold thn
  simp only [Mx.bind, this]
theorem K_tryX {hs : Hs} {y : D} (e : (thn (evSs Γ b1 s) fun s => .pure (.nx s)).run h = .exc (y, s1) h1) (q : (thn (evHs Γ hs y s1) fun s => thn (evSs Γ rest s) k).run h1 = r) : (thn (evSs Γ (.cons (.try b1 hs b2) rest) s) k).run h = r := by
  rw [thn_id] at e
  rw [evSs, thn_as, evS]
  refine Eq.trans ?_ q
  show thn _ _ h = thn _ _ h1
  have : tryM (evSs Γ b1 s) (evHs Γ hs) (evSs Γ b2) h = evHs Γ hs y s1 h1 := by
    unfold tryM
    rw [show evSs Γ b1 s h = _ from e]
  unfold thn
  simp only [Mx.bind, this]
/-- what is raised goes through -/
theorem K_exc {y : D} (e : (evS Γ st s).run h = .exc (y, s1) h1) (q : r = .exc (y, s1) h1) : (thn (evSs Γ (.cons st rest) s) k).run h = r := by
  rw [evSs, thn_as, q]
  show thn _ _ h = _
  unfold thn
  rw [bind_exc (show evS Γ st s h = _ from e)]
theorem F_exc {fn : Fn} {y : D} (hl : xs.length = fn.ps) (e : (thn (evSs Γ fn.body (xs.map .val ++ List.replicate (fn.N.length - fn.ps) .un)) (fun s => .pure (.nx s))).run h = .exc (y, s1) h1) : (runF Γ fn xs).run h = .exc y h1 := by
  rw [thn_id] at e
  show runF Γ fn xs h = _
  unfold runF
  rw [if_pos hl]
  unfold Mx.tell
  rw [bind_exc (show evSs Γ fn.body (xs.map .val ++ List.replicate (fn.N.length - fn.ps) .un) h = _ from e)]
/-- a turn of a loop -/
theorem L_nx {f : D → RS → MS Fl} (e : (f x s).run h = .ok (.nx s1) h1) (q : (forL f xs s1).run h1 = r) : (forL f (x :: xs) s).run h = r := by rw [forL]; exact bo e q
theorem L_rt {f : D → RS → MS Fl} (e : (f x s).run h = .ok (.rt y fr) h1) : (forL f (x :: xs) s).run h = .ok (.rt y fr) h1 := by rw [forL]; exact bo e rfl
theorem L_step {tg : Tg} (w : asg tg x s = some s1) (q : (thn (evSs Γ b1 s1) fun s => .pure (.nx s)).run h = r) : (forStep tg (evSs Γ b1) x s).run h = r := by
  unfold forStep; rw [w]; rw [thn_id] at q; exact q
theorem A1 {i1 : Nat} {s0 : RS} (e : s0.set i1 (.val x) = s1) : asg (.nm i1) x s0 = some s1 := by subst e; rfl
/-- a call, its code gone through -/
theorem F_rt {fn : Fn} {d : D} (hl : xs.length = fn.ps) (e : (thn (evSs Γ fn.body (xs.map .val ++ List.replicate (fn.N.length - fn.ps) .un)) (fun s => .pure (.nx s))).run h = .ok (.rt d fn.fr) h1) : (runF Γ fn xs).run h = .ok d h1 := by
  rw [thn_id] at e; exact run_h (run_rth hl e)
theorem F_nx {fn : Fn} (hl : xs.length = fn.ps) (hf : fn.fr = false) (e : (thn (evSs Γ fn.body (xs.map .val ++ List.replicate (fn.N.length - fn.ps) .un)) (fun s => .pure (.nx s))).run h = .ok (.nx s1) h1) : (runF Γ fn xs).run h = .ok .non h1 := by
  rw [thn_id] at e
  show runF Γ fn xs h = _
  unfold runF
  rw [if_pos hl]
  unfold Mx.tell
  rw [bind_ok (show evSs Γ fn.body (xs.map .val ++ List.replicate (fn.N.length - fn.ps) .un) h = _ from e), hf]
  rfl
theorem W0 : wipeR s [] = s := rfl
theorem WN (w : s.set i .un = s2) : wipeR s (Tg.nm i).ix = s2 := w
theorem WTp {is : List Nat} (e : wipeR s is = s2) : wipeR s (Tg.tp is).ix = s2 := e
theorem WS {is : List Nat} (e : wipeR s is = s1) (w : s1.set i .un = s2) : wipeR s (i :: is) = s2 := by rw [wipeR, e, w]
end
end RR

namespace RR
open PySem L2
/-- a loop, with what holds ahead of each turn -/
theorem for_gL {f : D → RS → MS Fl} {d : D} {fr : Bool} (P : Nat → RS → HP → Prop) (Q : HP → Prop) : ∀ (xs : List D) (a : Nat), (∀ i x s h, xs[i]? = some x → P (a + i) s h → (∃ s' h', (f x s).run h = .ok (.nx s') h' ∧ P (a + i + 1) s' h') ∨ ∃ h', (f x s).run h = .ok (.rt d fr) h' ∧ Q h') → ∀ s h, P a s h → (∃ s' h', (forL f xs s).run h = .ok (.nx s') h' ∧ P (a + xs.length) s' h') ∨ ∃ h', (forL f xs s).run h = .ok (.rt d fr) h' ∧ Q h'
  | [], a, _, s, h, p => .inl ⟨s, h, by rw [forL]; rfl, p⟩
  | x :: xs, a, hs, s, h, p => by
    rcases hs 0 x s h rfl p with ⟨s1, h1, e, p1⟩ | ⟨h1, e, q⟩
    · have p1 : P (a + 1) s1 h1 := p1
      rcases for_gL P Q xs (a + 1) (fun i y s h hy hp => by
        have := hs (i + 1) y s h (by simpa using hy) (by rw [show a + (i + 1) = a + 1 + i by omega]; exact hp)
        rw [show a + (i + 1) + 1 = a + 1 + i + 1 by omega] at this
        exact this) s1 h1 p1 with ⟨s2, h2, e2, p2⟩ | ⟨h2, e2, q⟩
      · exact .inl ⟨s2, h2, L_nx e e2, by rw [List.length_cons, show a + (xs.length + 1) = a + 1 + xs.length by omega]; exact p2⟩
      · exact .inr ⟨h2, L_nx e e2, q⟩
    · exact .inr ⟨h1, L_rt e, q⟩
/-- a loop over numbers that goes to its end, the heap as it was -/
theorem for_rng {f : D → RS → MS Fl} {σ : Type} {h : HP} (emb : σ → RS) (I : Nat → σ → Prop) (m : Nat) (v : σ) (h0 : I 0 v) (hs : ∀ i v, i < m → I i v → ∃ v', (f (.int (i : Int)) (emb v)).run h = .ok (.nx (emb v')) h ∧ I (i + 1) v') : ∃ v', (forL f ((List.range m).map fun (j : Nat) => .int (j : Int)) (emb v)).run h = .ok (.nx (emb v')) h ∧ I m v' := by
  rcases for_gL (f := f) (d := .non) (fr := false) (fun i s g => g = h ∧ ∃ v, s = emb v ∧ I i v) (fun _ => False) ((List.range m).map fun (j : Nat) => .int (j : Int)) 0 (fun i x s g hx p => by
    obtain ⟨rfl, v, rfl, hi⟩ := p
    have li : i < m := by have := (List.getElem?_eq_some_iff.mp hx).1; simpa using this
    rw [List.getElem?_map, List.getElem?_range li] at hx
    cases hx
    rw [Nat.zero_add] at hi ⊢
    obtain ⟨v', e, h'⟩ := hs i v li hi
    exact .inl ⟨_, _, e, rfl, v', rfl, h'⟩) (emb v) h ⟨rfl, v, rfl, h0⟩ with ⟨s', h', e, rfl, v', rfl, i⟩ | ⟨_, _, q⟩
  · exact ⟨v', e, by simpa using i⟩
  · exact q.elim
/-- over any list -/
theorem for_xs {f : D → RS → MS Fl} {σ : Type} {h : HP} (emb : σ → RS) (I : Nat → σ → Prop) (xs : List D) (v : σ) (h0 : I 0 v) (hs : ∀ i x v, xs[i]? = some x → I i v → ∃ v', (f x (emb v)).run h = .ok (.nx (emb v')) h ∧ I (i + 1) v') : ∃ v', (forL f xs (emb v)).run h = .ok (.nx (emb v')) h ∧ I xs.length v' := by
  rcases for_gL (f := f) (d := .non) (fr := false) (fun i s g => g = h ∧ ∃ v, s = emb v ∧ I i v) (fun _ => False) xs 0 (fun i x s g hx p => by
    obtain ⟨rfl, v, rfl, hi⟩ := p
    rw [Nat.zero_add] at hi ⊢
    obtain ⟨v', e, h'⟩ := hs i x v hx hi
    exact .inl ⟨_, _, e, rfl, v', rfl, h'⟩) (emb v) h ⟨rfl, v, rfl, h0⟩ with ⟨s', h', e, rfl, v', rfl, i⟩ | ⟨_, _, q⟩
  · exact ⟨v', e, by simpa using i⟩
  · exact q.elim
theorem rgN {k : Nat} (hk : k ≤ 1000) : rngD [.int (k : Int)] = some ((List.range k).map fun j : Nat => D.int (j : Int)) := by
  simp [rngD]; omega
end RR

namespace RR
open PySem L2
def bodyAt (i : Nat) : Stmt := PySem.Challenge.pw_stackwarden_k60_doors.main.body.getD i (.Pass ⟨0, 0, 0, 0⟩)
def clsAt (i j : Nat) : Stmt := match bodyAt i with
  | .ClassDef _ _ _ body _ _ _ _ _ _ _ => body.getD j (.Pass ⟨0, 0, 0, 0⟩)
  | _ => .Pass ⟨0, 0, 0, 0⟩
-- is_under: 0 makes 1 c 2 other
def t0is_under : C := (.cmp .IsNot (.pk 1) .non)
def b1is_under : Ss := (.cons (.ite (.cmp .Eq (.pk 1) (.pk 2)) (.cons (.ret (.bl true)) .nil) .nil) (.cons (.set 1 (.idx (.idx (.pk 0) (.var 1)) (.int 0))) .nil))
def fis_under : Fn := ⟨3, false, ["makes", "c", "other"],
  (.cons (.whl t0is_under b1is_under) (.cons (.kill [1]) (.cons (.ret (.bl false)) .nil)))⟩
-- wrapped: 0 number 1 low
def r0wrapped : Ss := (.cons (.ret (.var 1)) .nil)
def fwrapped : Fn := ⟨1, false, ["number", "low"],
  (.cons (.set 1 (.bin .BitAnd (.pk 0) (.bin .Sub (.glob "SPAN") (.int 1)))) (.cons (.ite (.cmp .GtE (.pk 1) (.glob "HALF")) (.cons (.aug 1 .Sub (.glob "SPAN")) .nil) .nil) r0wrapped))⟩
-- reckoned: 0 sign 1 one 2 other 3 whole 4 rest
def freckoned : Fn := ⟨3, false, ["sign", "one", "other", "whole", "rest"],
  (.cons (.ite (.cmp .Eq (.pk 0) (.str "add")) (.cons (.ret (.call "wrapped" (.cons (.bin .Add (.pk 1) (.pk 2)) .nil))) .nil) .nil) (.cons (.ite (.cmp .Eq (.pk 0) (.str "sub")) (.cons (.ret (.call "wrapped" (.cons (.bin .Sub (.pk 1) (.pk 2)) .nil))) .nil) .nil) (.cons (.ite (.cmp .Eq (.pk 0) (.str "mul")) (.cons (.ret (.call "wrapped" (.cons (.bin .Mult (.pk 1) (.pk 2)) .nil))) .nil) .nil) (.cons (.ite (.cmp .Eq (.pk 0) (.str "less")) (.cons (.ret (.bi "int" (.cons (.cmp .Lt (.pk 1) (.pk 2)) .nil))) .nil) .nil) (.cons (.ite (.cmp .Eq (.pk 0) (.str "same")) (.cons (.ret (.bi "int" (.cons (.cmp .Eq (.pk 1) (.pk 2)) .nil))) .nil) .nil) (.cons (.ite (.cmp .Eq (.pk 2) (.int 0)) (.cons (.rai "Nought" (.cons (.str "divided by nought") .nil)) .nil) .nil) (.cons (.unp [3, 4] (.bi "divmod" (.cons (.pk 1) (.cons (.pk 2) .nil)))) (.cons (.ite (.cmp .Eq (.pk 0) (.str "div")) (.cons (.ret (.call "wrapped" (.cons (.var 3) .nil))) .nil) .nil) (.cons (.ret (.var 4)) .nil)))))))))⟩
-- reckoned_or_tossed: 0 sign 1 one 2 other 3 found
def y0reckoned_or_tossed : Ss := (.cons (.set 3 (.call "reckoned" (.cons (.var 0) (.cons (.var 1) (.cons (.var 2) .nil))))) .nil)
def z1reckoned_or_tossed : Ss := (.cons (.ret (.var 3)) .nil)
def x2reckoned_or_tossed : Ss := (.cons .nev .nil)
def freckoned_or_tossed : Fn := ⟨3, false, ["sign", "one", "other", "found"],
  (.cons (.try y0reckoned_or_tossed (.cons "Nought" none x2reckoned_or_tossed .nil) z1reckoned_or_tossed) (.cons (.kill [3]) .nil))⟩
-- values_of: 0 run 1 frame 2 some 3 e
def e0values_of : C := (.call "value_of" (.cons (.var 0) (.cons (.var 1) (.cons (.var 3) .nil))))
def fvalues_of : Fn := ⟨3, true, ["run", "frame", "some", "e"],
  (.cons (.retf (.lc e0values_of (.nm 3) (.seq (.var 2)) .no)) .nil)⟩
-- called: 0 run 1 frame 2 e 3 values
def fcalled : Fn := ⟨3, false, ["run", "frame", "e", "values"],
  (.cons (.set 3 (.call "values_of" (.cons (.var 0) (.cons (.var 1) (.cons (.idx (.pk 2) (.int 2)) .nil))))) (.cons (.ex (.mth false (.var 0) "pay" .nil)) (.cons (.ite (.cmp .Eq (.fld (.var 1) "deep") (.glob "FRAMES")) (.cons .nev .nil) .nil) (.cons (.ret (.call "part_given" (.cons (.var 0) (.cons (.idx (.pk 2) (.int 1)) (.cons (.var 3) (.cons (.bin .Add (.fld (.var 1) "deep") (.int 1)) .nil)))))) .nil))))⟩
-- value_of: 0 run 1 frame 2 e 3 word 4 one
def fvalue_of : Fn := ⟨3, false, ["run", "frame", "e", "word", "one"],
  (.cons (.set 3 (.idx (.pk 2) (.int 0))) (.cons (.ite (.cmp .Eq (.pk 3) (.str "num")) (.cons (.ret (.idx (.pk 2) (.int 1))) .nil) .nil) (.cons (.ite (.cmp .Eq (.pk 3) (.str "var")) (.cons (.ret (.dget (.fld (.var 1) "names") (.idx (.pk 2) (.int 1)))) .nil) .nil) (.cons (.ite (.cmp .Eq (.pk 3) (.str "new")) (.cons (.ret (.mth false (.var 0) "born" (.cons (.idx (.pk 2) (.int 1)) (.cons (.call "values_of" (.cons (.var 0) (.cons (.var 1) (.cons (.idx (.pk 2) (.int 2)) .nil)))) .nil)))) .nil) .nil) (.cons (.ite (.cmp .Eq (.pk 3) (.str "get")) (.cons (.ret (.idx (.idx (.idx (.fld (.var 0) "records") (.call "value_of" (.cons (.var 0) (.cons (.var 1) (.cons (.idx (.pk 2) (.int 3)) .nil))))) (.int 1)) (.idx (.pk 2) (.int 2)))) .nil) .nil) (.cons (.ite (.cmp .Eq (.pk 3) (.str "call")) (.cons (.ret (.call "called" (.cons (.var 0) (.cons (.var 1) (.cons (.var 2) .nil))))) .nil) .nil) (.cons (.ite (.cmp .Eq (.pk 3) (.str "either")) (.cons (.ite (.cmp .NotEq (.call "value_of" (.cons (.var 0) (.cons (.var 1) (.cons (.idx (.pk 2) (.int 1)) .nil)))) (.int 0)) (.cons (.ret (.call "value_of" (.cons (.var 0) (.cons (.var 1) (.cons (.idx (.pk 2) (.int 2)) .nil))))) .nil) .nil) (.cons (.ret (.call "value_of" (.cons (.var 0) (.cons (.var 1) (.cons (.idx (.pk 2) (.int 3)) .nil))))) .nil)) .nil) (.cons (.set 4 (.call "value_of" (.cons (.var 0) (.cons (.var 1) (.cons (.idx (.pk 2) (.int 1)) .nil))))) (.cons (.ret (.call "reckoned_or_tossed" (.cons (.var 3) (.cons (.var 4) (.cons (.call "value_of" (.cons (.var 0) (.cons (.var 1) (.cons (.idx (.pk 2) (.int 2)) .nil)))) .nil))))) .nil)))))))))⟩
-- while_done: 0 run 1 frame 2 s 3 given
def t0while_done : C := (.cmp .NotEq (.call "value_of" (.cons (.var 0) (.cons (.var 1) (.cons (.idx (.pk 2) (.int 1)) .nil)))) (.int 0))
def b1while_done : Ss := (.cons (.set 3 (.call "list_done" (.cons (.var 0) (.cons (.var 1) (.cons (.idx (.pk 2) (.int 2)) .nil))))) (.cons (.ite (.cmp .IsNot (.pk 3) .non) (.cons (.ret (.var 3)) .nil) .nil) (.cons (.ex (.mth false (.var 0) "pay" .nil)) (.cons (.kill [3]) .nil))))
def fwhile_done : Fn := ⟨3, false, ["run", "frame", "s", "given"],
  (.cons (.whl t0while_done b1while_done) (.cons (.ret .non) .nil))⟩
-- kin_done: 0 run 1 frame 2 s 3 record
def fkin_done : Fn := ⟨3, false, ["run", "frame", "s", "record"],
  (.cons (.set 3 (.call "value_of" (.cons (.var 0) (.cons (.var 1) (.cons (.idx (.pk 2) (.int 3)) .nil))))) (.cons (.ite (.call "is_under" (.cons (.fld (.var 0) "makes") (.cons (.idx (.idx (.fld (.var 0) "records") (.var 3)) (.int 0)) (.cons (.idx (.pk 2) (.int 1)) .nil)))) (.cons (.hset (.fld (.var 1) "names") (.idx (.pk 2) (.int 2)) (.var 3)) (.cons (.ret (.call "list_done" (.cons (.var 0) (.cons (.var 1) (.cons (.idx (.pk 2) (.int 4)) .nil))))) .nil)) .nil) (.cons (.ret (.call "list_done" (.cons (.var 0) (.cons (.var 1) (.cons (.idx (.pk 2) (.int 5)) .nil))))) .nil)))⟩
-- try_done: 0 run 1 frame 2 s 3 fault
def ftry_done : Fn := ⟨3, false, ["run", "frame", "s", "fault"],
  (.cons .nev (.cons (.ret (.call "list_done" (.cons (.var 0) (.cons (.var 1) (.cons (.idx (.pk 2) (.int 3)) .nil))))) .nil))⟩
-- branch_done: 0 run 1 frame 2 s
def fbranch_done : Fn := ⟨3, false, ["run", "frame", "s"],
  (.cons (.ite (.cmp .Eq (.idx (.pk 2) (.int 0)) (.str "while")) (.cons (.ret (.call "while_done" (.cons (.var 0) (.cons (.var 1) (.cons (.var 2) .nil))))) .nil) .nil) (.cons (.ite (.cmp .Eq (.idx (.pk 2) (.int 0)) (.str "kin")) (.cons (.ret (.call "kin_done" (.cons (.var 0) (.cons (.var 1) (.cons (.var 2) .nil))))) .nil) .nil) (.cons (.ite (.cmp .Eq (.idx (.pk 2) (.int 0)) (.str "try")) (.cons (.ret (.call "try_done" (.cons (.var 0) (.cons (.var 1) (.cons (.var 2) .nil))))) .nil) .nil) (.cons (.ite (.cmp .NotEq (.call "value_of" (.cons (.var 0) (.cons (.var 1) (.cons (.idx (.pk 2) (.int 1)) .nil)))) (.int 0)) (.cons (.ret (.call "list_done" (.cons (.var 0) (.cons (.var 1) (.cons (.idx (.pk 2) (.int 2)) .nil))))) .nil) .nil) (.cons (.ret (.call "list_done" (.cons (.var 0) (.cons (.var 1) (.cons (.idx (.pk 2) (.int 3)) .nil))))) .nil)))))⟩
-- statement_done: 0 run 1 frame 2 s 3 word 4 record
def r0statement_done : Ss := (.cons (.ret .non) .nil)
def fstatement_done : Fn := ⟨3, false, ["run", "frame", "s", "word", "record"],
  (.cons (.set 3 (.idx (.pk 2) (.int 0))) (.cons (.ite (.cmp .Eq (.pk 3) (.str "let")) (.cons (.hset (.fld (.var 1) "names") (.idx (.pk 2) (.int 1)) (.call "value_of" (.cons (.var 0) (.cons (.var 1) (.cons (.idx (.pk 2) (.int 3)) .nil))))) (.cons (.kill [4]) .nil)) (.cons (.ite (.cmp .Eq (.pk 3) (.str "set")) (.cons (.hset (.fld (.var 1) "names") (.idx (.pk 2) (.int 1)) (.call "value_of" (.cons (.var 0) (.cons (.var 1) (.cons (.idx (.pk 2) (.int 2)) .nil))))) (.cons (.kill [4]) .nil)) (.cons (.ite (.cmp .Eq (.pk 3) (.str "put")) (.cons (.set 4 (.call "value_of" (.cons (.var 0) (.cons (.var 1) (.cons (.idx (.pk 2) (.int 3)) .nil))))) (.cons (.hset (.idx (.idx (.fld (.var 0) "records") (.var 4)) (.int 1)) (.idx (.pk 2) (.int 2)) (.call "value_of" (.cons (.var 0) (.cons (.var 1) (.cons (.idx (.pk 2) (.int 4)) .nil))))) (.cons (.kill [4]) .nil))) (.cons (.ite (.cmp .Eq (.pk 3) (.str "say")) (.cons (.ex (.mut "append" (.fld (.var 0) "said") (.cons (.call "value_of" (.cons (.var 0) (.cons (.var 1) (.cons (.idx (.pk 2) (.int 1)) .nil)))) .nil))) .nil) (.cons (.ite (.cmp .Eq (.pk 3) (.str "toss")) (.cons .nev .nil) (.cons (.ite (.cmp .Eq (.pk 3) (.str "drop")) (.cons (.ex (.call "value_of" (.cons (.var 0) (.cons (.var 1) (.cons (.idx (.pk 2) (.int 1)) .nil))))) .nil) (.cons (.ite (.cmp .Eq (.pk 3) (.str "give")) (.cons (.ret (.tup (.cons (.call "value_of" (.cons (.var 0) (.cons (.var 1) (.cons (.idx (.pk 2) (.int 1)) .nil)))) .nil))) .nil) (.cons (.ret (.call "branch_done" (.cons (.var 0) (.cons (.var 1) (.cons (.var 2) .nil))))) .nil)) .nil)) .nil)) .nil)) (.cons (.kill [4]) .nil))) (.cons (.kill [4]) .nil))) (.cons (.kill [4]) .nil))) r0statement_done))⟩
-- list_done: 0 run 1 frame 2 some 3 s 4 given
def b0list_done : Ss := (.cons (.set 4 (.call "statement_done" (.cons (.var 0) (.cons (.var 1) (.cons (.var 3) .nil))))) (.cons (.ite (.cmp .IsNot (.pk 4) .non) (.cons (.ret (.var 4)) .nil) .nil) (.cons (.kill [3, 4]) .nil)))
def flist_done : Fn := ⟨3, false, ["run", "frame", "some", "s", "given"],
  (.cons (.for (.nm 3) (.seq (.var 2)) b0list_done) (.cons (.ret .non) .nil))⟩
-- part_given: 0 run 1 number 2 values 3 deep 4 names 5 frame 6 given 7 takes 8 gives 9 body 10 answer 11 take 12 value
def b0part_given : Ss := (.cons (.dset 4 (.idx (.pk 11) (.int 0)) (.var 12)) (.cons (.kill [11, 12]) .nil))
def fpart_given : Fn := ⟨4, false, ["run", "number", "values", "deep", "names", "frame", "given", "takes", "gives", "body", "answer", "take", "value"],
  (.cons (.unp [7, 8, 9, 10] (.idx (.fld (.var 0) "parts") (.var 1))) (.cons (.seto 4 .dnew) (.cons (.for (.tp [11, 12]) (.zip (.var 7) (.var 2)) b0part_given) (.cons (.frz 4) (.cons (.set 5 (.ni "Frame" (.cons (.var 3) (.cons (.var 4) .nil)))) (.cons (.set 6 (.call "list_done" (.cons (.var 0) (.cons (.var 5) (.cons (.var 9) .nil))))) (.cons (.ite (.cmp .Is (.pk 6) .non) (.cons (.ret (.call "value_of" (.cons (.var 0) (.cons (.var 5) (.cons (.var 10) .nil))))) .nil) .nil) (.cons (.ret (.idx (.pk 6) (.int 0))) .nil))))))))⟩
-- need_door: 0 parts 1 number 2 inputs 3 kinds 4 kind 5 name
def b0need_door : Ss := (.cons (.ite (.cmp .NotEq (.pk 4) (.glob "NUMBER")) (.cons (.rai "NoDoor" (.cons (.str "no door") .nil)) .nil) .nil) .nil)
def e1need_door : C := (.var 4)
def fneed_door : Fn := ⟨3, false, ["parts", "number", "inputs", "kinds", "kind", "name"],
  (.cons (.ite (.not (.chn .LtE .Lt (.int 0) (.pk 1) (.bi "len" (.cons (.pk 0) .nil)))) (.cons (.rai "NoDoor" (.cons (.str "no part") .nil)) .nil) .nil) (.cons (.set 3 (.bin .Add (.lc e1need_door (.tp [5, 4]) (.seq (.idx (.idx (.pk 0) (.var 1)) (.int 0))) .no) (.lst (.cons (.idx (.idx (.pk 0) (.var 1)) (.int 1)) .nil)))) (.cons (.for (.nm 4) (.seq (.var 3)) b0need_door) (.cons (.ite (.cmp .NotEq (.bi "len" (.cons (.pk 2) .nil)) (.bin .Sub (.bi "len" (.cons (.pk 3) .nil)) (.int 1))) (.cons (.rai "NoDoor" (.cons (.str "another number of inputs") .nil)) .nil) .nil) .nil))))⟩
-- plain_run: 0 program 1 part 2 inputs 3 budget 4 run 5 fault 6 given 7 end
def y0plain_run : Ss := (.cons (.set 6 (.call "part_given" (.cons (.var 4) (.cons (.var 1) (.cons (.var 2) (.cons (.int 1) .nil)))))) .nil)
def z1plain_run : Ss := (.cons (.set 7 (.tup (.cons (.str "gave") (.cons (.var 6) .nil)))) .nil)
def x2plain_run : Ss := (.cons (.set 7 (.tup (.cons (.str "weary") .nil))) .nil)
def x3plain_run : Ss := (.cons (.set 7 (.tup (.cons (.str "fault") (.cons (.fld (.var 5) "number") .nil)))) .nil)
def fplain_run : Fn := ⟨4, false, ["program", "part", "inputs", "budget", "run", "fault", "given", "end"],
  (.cons (.ex (.call "need_door" (.cons (.idx (.pk 0) (.int 1)) (.cons (.var 1) (.cons (.var 2) .nil))))) (.cons (.set 4 (.ni "Reading" (.cons (.var 0) (.cons (.var 3) .nil)))) (.cons (.try y0plain_run (.cons "Tossed" (some 5) x3plain_run (.cons "Worn" none x2plain_run .nil)) z1plain_run) (.cons (.kill [6]) (.cons (.ret (.tup (.cons (.var 7) (.cons (.fld (.var 4) "said") (.cons (.fld (.var 4) "left") .nil))))) .nil)))))⟩
-- _law_cell: 0 script 1 k 2 far 3 cell_here
def b0_law_cell : Ss := (.cons (.set 2 (.bin .Add (.bin .Mult (.pk 2) (.int 31)) (.bin .Mod (.pk 3) (.int 1000033)))) (.cons (.kill [3]) .nil))
def f_law_cell : Fn := ⟨2, false, ["_law_script", "_law_k", "_law_far", "_law_cell_here"],
  (.cons (.ite (.cmp .Lt (.pk 1) (.bi "len" (.cons (.pk 0) .nil))) (.cons (.ret (.idx (.pk 0) (.var 1))) .nil) .nil) (.cons (.set 2 (.bin .Mult (.int 1000003) (.bin .Add (.pk 1) (.int 1)))) (.cons (.for (.nm 3) (.seq (.slc (.pk 0) .no (.so (.int 8)))) b0_law_cell) (.cons (.ret (.bin .Mod (.bin .Mult (.pk 2) (.pk 2)) (.int 998244353))) .nil))))⟩
-- _law_whole: 0 found
def f_law_whole : Fn := ⟨1, false, ["_law_found"],
  (.cons (.ret (.and (.cons (.isi "int" (.pk 0)) (.cons (.not (.isi "bool" (.pk 0))) .nil)))) .nil)⟩
-- _law_word: 0 cell_here
def f_law_word : Fn := ⟨1, false, ["_law_cell_here"],
  (.cons (.ite (.cmp .Eq (.bin .Mod (.pk 0) (.int 3)) (.int 0)) (.cons (.ret (.bin .Sub (.bin .Mod (.bin .FloorDiv (.pk 0) (.int 3)) (.int 9)) (.int 4))) .nil) .nil) (.cons (.ret (.bin .Sub (.bin .Mod (.bin .Mult (.bin .FloorDiv (.pk 0) (.int 3)) (.int 2654435761)) (.int 4294967296)) (.int 2147483648))) .nil))⟩
-- _law_part: 0 cell_here 1 door 2 names 3 k 4 answer 5 some 6 many 7 kind 8 way 9 name
def r0_law_part : Ss := (.cons (.ite (.and (.cons (.cmp .Eq (.pk 8) (.int 0)) (.cons (.not (.pk 1)) .nil))) (.cons (.ret (.tup (.cons (.var 2) (.cons (.tup (.cons (.str "whole") (.cons (.int 0) .nil))) (.cons (.lst .nil) (.cons (.tup (.cons (.str "new") (.cons (.int 1) (.cons (.lst (.cons (.var 4) .nil)) .nil)))) .nil)))))) .nil) .nil) (.cons (.ret (.tup (.cons (.var 2) (.cons (.tup (.cons (.str "number") .nil)) (.cons (.lst .nil) (.cons (.var 4) .nil)))))) .nil))
def c1_law_part : C := (.cmp .Eq (.pk 7) (.tup (.cons (.str "number") .nil)))
def e2_law_part : C := (.var 9)
def r3_law_part : Ss := (.cons (.app 2 (.tup (.cons (.bin .Add (.bin .Add (.slc (.str "aaa") .no (.so (.var 8))) (.idx (.str "bcdefghijklmnopqrstu") (.var 3))) (.slc (.str "zzzz") .no (.so (.bin .Mod (.pk 0) (.int 5))))) (.cons (.var 7) .nil)))) (.cons (.kill [3, 8]) .nil))
def b4_law_part : Ss := (.cons (.unp [0, 8] (.bi "divmod" (.cons (.pk 0) (.cons (.int 4) .nil)))) (.cons (.set 7 (.idx (.lst (.cons (.tup (.cons (.str "number") .nil)) (.cons (.tup (.cons (.str "number") .nil)) (.cons (.tup (.cons (.str "number") .nil)) (.cons (.tup (.cons (.str "whole") (.cons (.bin .Mod (.pk 8) (.int 2)) .nil))) .nil))))) (.var 8))) (.cons (.ite (.pk 1) (.cons (.set 7 (.tup (.cons (.str "number") .nil))) .nil) .nil) r3_law_part)))
def r5_law_part : Ss := (.cons (.seto 2 (.lst .nil)) (.cons (.for (.nm 3) (.rng (.cons (.pk 6) .nil)) b4_law_part) (.cons (.frz 2) (.cons (.unp [0, 8] (.bi "divmod" (.cons (.pk 0) (.cons (.int 3) .nil)))) (.cons (.set 4 (.tup (.cons (.str "num") (.cons (.call "_law_word" (.cons (.var 0) .nil)) .nil)))) (.cons (.set 5 (.lc e2_law_part (.tp [9, 7]) (.seq (.var 2)) (.so c1_law_part))) (.cons (.ite (.and (.cons (.cmp .NotEq (.pk 5) (.lst .nil)) (.cons (.cmp .Gt (.bin .Mod (.pk 0) (.int 4)) (.int 0)) .nil))) (.cons (.set 4 (.tup (.cons (.str "var") (.cons (.idx (.pk 5) (.bin .Mod (.bin .FloorDiv (.pk 0) (.int 4)) (.bi "len" (.cons (.pk 5) .nil)))) .nil)))) .nil) .nil) r0_law_part)))))))
def f_law_part : Fn := ⟨2, false, ["_law_cell_here", "_law_door", "_law_names", "_law_k", "_law_answer", "_law_some", "_law_many", "_law_kind", "_law_way", "_law_name"],
  (.cons (.unp [0, 6] (.bi "divmod" (.cons (.pk 0) (.cons (.int 5) .nil)))) (.cons (.ite (.cmp .Eq (.bin .Mod (.pk 0) (.int 7)) (.int 3)) (.cons (.set 6 (.bin .Sub (.int 20) (.bin .Mod (.bin .FloorDiv (.pk 0) (.int 7)) (.int 9)))) .nil) .nil) r5_law_part))⟩
-- _law_due: 0 part_here 1 inputs 2 name 3 kind 4 pair 5 word_here
def b0_law_due : Ss := (.cons (.ite (.cmp .Eq (.idx (.pk 4) (.int 0)) (.idx (.idx (.pk 0) (.int 3)) (.int 1))) (.cons (.ret (.var 5)) .nil) .nil) (.cons (.kill [4, 5]) .nil))
def b1_law_due : Ss := (.cons (.ite (.cmp .NotEq (.pk 3) (.tup (.cons (.str "number") .nil))) (.cons (.ret .non) .nil) .nil) (.cons (.kill [2, 3]) .nil))
def f_law_due : Fn := ⟨2, false, ["_law_part_here", "_law_inputs", "_law_name", "_law_kind", "_law_pair", "_law_word_here"],
  (.cons (.for (.tp [2, 3]) (.seq (.idx (.pk 0) (.int 0))) b1_law_due) (.cons (.ite (.or (.cons (.cmp .NotEq (.idx (.pk 0) (.int 1)) (.tup (.cons (.str "number") .nil))) (.cons (.cmp .NotEq (.bi "len" (.cons (.pk 1) .nil)) (.bi "len" (.cons (.idx (.pk 0) (.int 0)) .nil))) .nil))) (.cons (.ret .non) .nil) .nil) (.cons (.ite (.cmp .Eq (.idx (.idx (.pk 0) (.int 3)) (.int 0)) (.str "num")) (.cons (.ret (.idx (.idx (.pk 0) (.int 3)) (.int 1))) .nil) .nil) (.cons (.for (.tp [4, 5]) (.zip (.idx (.pk 0) (.int 0)) (.var 1)) b0_law_due) (.cons (.ret .non) .nil)))))⟩
-- _law_told: 0 program 1 p 2 inputs 3 budget 4 told_here 5 e 6 found 7 above
def y0_law_told : Ss := (.cons (.set 6 (.call "plain_run" (.cons (.var 0) (.cons (.var 1) (.cons (.var 2) (.cons (.var 3) .nil)))))) .nil)
def z1_law_told : Ss := (.cons (.set 4 (.var 6)) .nil)
def x2_law_told : Ss := (.cons (.set 7 (.and (.cons (.isx "WardenError" (.var 5)) (.cons (.isx "ValueError" (.var 5)) .nil)))) (.cons (.set 4 (.tup (.cons (.str "door") (.cons (.and (.cons (.var 7) (.cons (.not (.isx "NoBook" (.var 5))) (.cons (.not (.isx "NoTree" (.var 5))) .nil)))) (.cons (.int 0) .nil))))) .nil))
def f_law_told : Fn := ⟨4, false, ["_law_program", "_law_p", "_law_inputs", "_law_budget", "_law_told_here", "e", "_law_found", "_law_above"],
  (.cons (.set 4 (.tup (.cons (.str "none") (.cons (.lst .nil) (.cons (.int 0) .nil))))) (.cons (.try y0_law_told (.cons "NoDoor" (some 5) x2_law_told .nil) z1_law_told) (.cons (.kill [6, 7]) (.cons (.ret (.var 4)) .nil))))⟩
-- _law_right: 0 told_here 1 due_here 2 budget 3 end 4 said 5 left
def f_law_right : Fn := ⟨3, false, ["_law_told_here", "_law_due_here", "_law_budget", "_law_end", "_law_said", "_law_left"],
  (.cons (.ite (.or (.cons (.not (.isi "tuple" (.pk 0))) (.cons (.cmp .NotEq (.bi "len" (.cons (.pk 0) .nil)) (.int 3)) .nil))) (.cons (.ret (.bl false)) .nil) .nil) (.cons (.ite (.cmp .Is (.pk 1) .non) (.cons (.ret (.cmp .Eq (.pk 0) (.tup (.cons (.str "door") (.cons (.bl true) (.cons (.int 0) .nil)))))) .nil) .nil) (.cons (.unp [3, 4, 5] (.var 0)) (.cons (.ite (.or (.cons (.not (.isi "tuple" (.pk 3))) (.cons (.cmp .NotEq (.bi "len" (.cons (.pk 3) .nil)) (.int 2)) (.cons (.not (.call "_law_whole" (.cons (.idx (.pk 3) (.int 1)) .nil))) (.cons (.not (.call "_law_whole" (.cons (.var 5) .nil))) .nil))))) (.cons (.ret (.bl false)) .nil) .nil) (.cons (.ret (.and (.cons (.cmp .Eq (.pk 3) (.tup (.cons (.str "gave") (.cons (.var 1) .nil)))) (.cons (.isi "list" (.pk 4)) (.cons (.cmp .Eq (.pk 4) (.lst .nil)) (.cons (.cmp .Eq (.pk 5) (.pk 2)) .nil)))))) .nil)))))⟩
-- law: 0 script 1 many 2 door 3 parts 4 program 5 kept 6 k 7 cell_here 8 p 9 count 10 inputs 11 budget 12 due_here 13 handed 14 way 15 part_here 16 j
def r0law : Ss := (.cons (.set 13 (.bi "list" (.cons (.pk 10) .nil))) (.cons (.ite (.or (.cons (.not (.call "_law_right" (.cons (.call "_law_told" (.cons (.var 4) (.cons (.var 8) (.cons (.var 13) (.cons (.var 11) .nil))))) (.cons (.var 12) (.cons (.var 11) .nil))))) (.cons (.cmp .NotEq (.pk 13) (.pk 10)) .nil))) (.cons (.ret (.bl false)) .nil) .nil) (.cons (.kill [6, 7, 9, 10, 11, 12, 13, 14]) .nil)))
def e1law : C := (.call "_law_word" (.cons (.bin .Add (.call "_law_cell" (.cons (.var 0) (.cons (.bin .Add (.int 10) (.pk 16)) .nil))) (.bin .Mult (.bin .Mod (.pk 7) (.bin .Pow (.int 10) (.int 6))) (.pk 16))) .nil))
def r2law : Ss := (.cons (.set 10 (.lc e1law (.nm 16) (.rng (.cons (.pk 9) .nil)) .no)) (.cons (.set 11 (.idx (.lst (.cons (.bin .Mod (.pk 7) (.int 10001)) (.cons (.bin .Mod (.pk 7) (.int 2)) .nil))) (.bin .Mod (.bin .FloorDiv (.pk 7) (.int 16)) (.int 2)))) (.cons (.set 12 .non) (.cons (.ite (.chn .LtE .Lt (.int 0) (.pk 8) (.pk 1)) (.cons (.set 12 (.call "_law_due" (.cons (.idx (.pk 3) (.var 8)) (.cons (.var 10) .nil)))) .nil) .nil) r0law))))
def r3law : Ss := (.cons (.ite (.cmp .Eq (.pk 14) (.int 3)) (.cons (.set 9 (.bi "max" (.cons (.int 0) (.cons (.bin .Add (.pk 9) (.idx (.lst (.cons (.neg (.int 2)) (.cons (.neg (.int 1)) (.cons (.int 1) (.cons (.int 2) .nil))))) (.bin .Mod (.pk 7) (.int 4)))) .nil)))) .nil) .nil) r2law)
def r4law : Ss := (.cons (.set 9 (.int 0)) (.cons (.ite (.chn .LtE .Lt (.int 0) (.pk 8) (.pk 1)) (.cons (.set 9 (.bi "len" (.cons (.idx (.idx (.pk 3) (.var 8)) (.int 0)) .nil))) .nil) .nil) r3law))
def r5law : Ss := (.cons (.ite (.cmp .Eq (.pk 14) (.int 2)) (.cons (.set 8 (.idx (.lst (.cons (.bin .Add (.pk 1) (.bin .Mod (.pk 7) (.int 3))) (.cons (.bin .Sub (.neg (.int 1)) (.bin .Mod (.pk 7) (.int 3))) .nil))) (.bin .Mod (.bin .FloorDiv (.pk 7) (.int 3)) (.int 2)))) .nil) .nil) r4law)
def b6law : Ss := (.cons (.set 7 (.call "_law_cell" (.cons (.var 0) (.cons (.bin .Add (.int 1) (.idx (.lst (.cons (.int 0) (.cons (.int 1) (.cons (.int 0) .nil)))) (.var 6))) .nil)))) (.cons (.unp [7, 14] (.bi "divmod" (.cons (.pk 7) (.cons (.int 8) .nil)))) (.cons (.set 8 (.var 2)) (.cons (.ite (.cmp .Eq (.pk 14) (.int 1)) (.cons (.set 8 (.bin .Mod (.pk 7) (.pk 1))) .nil) .nil) r5law))))
def e7law : C := (.tup (.cons (.bi "list" (.cons (.idx (.pk 15) (.int 0)) .nil)) (.cons (.idx (.pk 15) (.int 1)) (.cons (.lst .nil) (.cons (.idx (.pk 15) (.int 3)) .nil)))))
def e8law : C := (.call "_law_part" (.cons (.bin .Mod (.call "_law_cell" (.cons (.var 0) (.cons (.bin .Add (.int 4) (.pk 8)) .nil))) (.bin .Pow (.int 10) (.int 15))) (.cons (.cmp .Eq (.pk 8) (.pk 2)) .nil)))
def flaw : Fn := ⟨1, false, ["_law_script", "_law_many", "_law_door", "_law_parts", "_law_program", "_law_kept", "_law_k", "_law_cell_here", "_law_p", "_law_count", "_law_inputs", "_law_budget", "_law_due_here", "_law_handed", "_law_way", "_law_part_here", "_law_j"],
  (.cons (.set 1 (.bin .Add (.int 1) (.bin .Mod (.call "_law_cell" (.cons (.var 0) (.cons (.int 0) .nil))) (.int 8)))) (.cons (.set 2 (.bin .Mod (.bin .FloorDiv (.call "_law_cell" (.cons (.var 0) (.cons (.int 0) .nil))) (.int 8)) (.pk 1))) (.cons (.set 3 (.lc e8law (.nm 8) (.rng (.cons (.pk 1) .nil)) .no)) (.cons (.set 4 (.tup (.cons (.lst (.cons (.tup (.cons .non (.cons (.lst .nil) .nil))) (.cons (.tup (.cons (.int 0) (.cons (.lst (.cons (.tup (.cons (.str "number") .nil)) .nil)) .nil))) .nil))) (.cons (.var 3) .nil)))) (.cons (.set 5 (.tup (.cons (.lst (.cons (.tup (.cons .non (.cons (.lst .nil) .nil))) (.cons (.tup (.cons (.int 0) (.cons (.lst (.cons (.tup (.cons (.str "number") .nil)) .nil)) .nil))) .nil))) (.cons (.lc e7law (.nm 15) (.seq (.var 3)) .no) .nil)))) (.cons (.for (.nm 6) (.rng (.cons (.int 3) .nil)) b6law) (.cons (.ret (.cmp .Eq (.pk 4) (.pk 5))) .nil)))))))⟩
-- Reading.__init__: 0 self 1 program 2 budget
def fReading___init__ : Fn := ⟨3, false, ["self", "program", "budget"],
  (.cons (.fset (.var 0) "makes" (.idx (.pk 1) (.int 0))) (.cons (.fset (.var 0) "parts" (.idx (.pk 1) (.int 1))) (.cons (.fset (.var 0) "records" (.new (.lst .nil))) (.cons (.fset (.var 0) "said" (.new (.lst .nil))) (.cons (.fset (.var 0) "left" (.var 2)) .nil)))))⟩
-- Reading.pay: 0 self
def fReading_pay : Fn := ⟨1, false, ["self"],
  (.cons (.ite (.cmp .Eq (.fld (.var 0) "left") (.int 0)) (.cons .nev .nil) .nil) (.cons (.fset (.var 0) "left" (.bin .Sub (.fld (.var 0) "left") (.int 1))) .nil))⟩
-- Reading.born: 0 self 1 c 2 fields
def fReading_born : Fn := ⟨3, false, ["self", "c", "fields"],
  (.cons (.ex (.mut "append" (.fld (.var 0) "records") (.cons (.tup (.cons (.var 1) (.cons (.var 2) .nil))) .nil))) (.cons (.ret (.bin .Sub (.bi "len" (.cons (.fld (.var 0) "records") .nil)) (.int 1))) .nil))⟩
-- Frame.__init__: 0 self 1 deep 2 names
def fFrame___init__ : Fn := ⟨3, false, ["self", "deep", "names"],
  (.cons (.fset (.var 0) "deep" (.var 1)) (.cons (.fset (.var 0) "names" (.var 2)) .nil))⟩
def isa_NoDoor : Str → Option Bool := fun x => if x = "NoBook" then some false else if x = "NoDoor" then some true else if x = "NoTree" then some false else if x = "Nought" then some false else if x = "Tossed" then some false else if x = "ValueError" then some true else if x = "WardenError" then some true else if x = "Worn" then some false else none
def isa_Nought : Str → Option Bool := fun x => if x = "NoBook" then some false else if x = "NoDoor" then some false else if x = "NoTree" then some false else if x = "Nought" then some true else if x = "Tossed" then some false else if x = "ValueError" then some true else if x = "WardenError" then some true else if x = "Worn" then some false else none
def mt_Frame : Str → Option Str := fun x => none
def mt_Reading : Str → Option Str := fun x => if x = "born" then some ("Reading.born" : Str) else if x = "pay" then some ("Reading.pay" : Str) else none
def tb : Tb := ⟨fun x => if x = "is_under" then some fis_under else if x = "wrapped" then some fwrapped else if x = "reckoned" then some freckoned else if x = "reckoned_or_tossed" then some freckoned_or_tossed else if x = "values_of" then some fvalues_of else if x = "called" then some fcalled else if x = "value_of" then some fvalue_of else if x = "while_done" then some fwhile_done else if x = "kin_done" then some fkin_done else if x = "try_done" then some ftry_done else if x = "branch_done" then some fbranch_done else if x = "statement_done" then some fstatement_done else if x = "list_done" then some flist_done else if x = "part_given" then some fpart_given else if x = "need_door" then some fneed_door else if x = "plain_run" then some fplain_run else if x = "_law_cell" then some f_law_cell else if x = "_law_whole" then some f_law_whole else if x = "_law_word" then some f_law_word else if x = "_law_part" then some f_law_part else if x = "_law_due" then some f_law_due else if x = "_law_told" then some f_law_told else if x = "_law_right" then some f_law_right else if x = "law" then some flaw else if x = "Reading.__init__" then some fReading___init__ else if x = "Reading.pay" then some fReading_pay else if x = "Reading.born" then some fReading_born else if x = "Frame.__init__" then some fFrame___init__ else none, fun x => if x = "FRAMES" then some (.int 12) else if x = "HALF" then some (.int 2147483648) else if x = "NUMBER" then some (.tup [(.str "number")]) else if x = "SPAN" then some (.int 4294967296) else none, fun x => if x = "NoDoor" then isa_NoDoor else if x = "Nought" then isa_Nought else fun _ => none, fun x => if x = "NoDoor" then some ([] : List Str) else if x = "Nought" then some ([] : List Str) else none, fun x => none, fun x => if x = "Frame" then some (["deep", "names"] : List Str) else if x = "Reading" then some (["makes", "parts", "records", "said", "left"] : List Str) else none, fun x => if x = "Frame" then mt_Frame else if x = "Reading" then mt_Reading else fun _ => none, fun x => if x = "Frame" then some ("Frame.__init__" : Str) else if x = "Reading" then some ("Reading.__init__" : Str) else none⟩
theorem tn_Frame : tb.ins "Frame" = some (["deep", "names"] : List Str) := by
  unfold tb; simp only
  rw [if_pos trivial]
theorem tk_Frame : tb.ini "Frame" = some ("Frame.__init__" : Str) := by
  unfold tb; simp only
  rw [if_pos trivial]
theorem tM_Frame : tb.mth "Frame" = mt_Frame := by
  unfold tb; simp only
  rw [if_pos trivial]
theorem tn_Reading : tb.ins "Reading" = some (["makes", "parts", "records", "said", "left"] : List Str) := by
  unfold tb; simp only
  rw [if_neg (by decide +kernel), if_pos trivial]
theorem tk_Reading : tb.ini "Reading" = some ("Reading.__init__" : Str) := by
  unfold tb; simp only
  rw [if_neg (by decide +kernel), if_pos trivial]
theorem tM_Reading : tb.mth "Reading" = mt_Reading := by
  unfold tb; simp only
  rw [if_neg (by decide +kernel), if_pos trivial]
theorem tm_Reading_born : tb.mth "Reading" "born" = some ("Reading.born" : Str) := by
  rw [tM_Reading]; unfold mt_Reading; simp only
  rw [if_pos trivial]
theorem tm_Reading_pay : tb.mth "Reading" "pay" = some ("Reading.pay" : Str) := by
  rw [tM_Reading]; unfold mt_Reading; simp only
  rw [if_neg (by decide +kernel), if_pos trivial]
theorem tI_NoDoor : tb.isa "NoDoor" = isa_NoDoor := by
  unfold tb; simp only
  rw [if_pos trivial]
theorem tx_NoDoor : tb.xfs "NoDoor" = some ([] : List Str) := by
  unfold tb; simp only
  rw [if_pos trivial]
theorem ti_NoDoor_NoBook : tb.isa "NoDoor" "NoBook" = some false := by
  rw [tI_NoDoor]; unfold isa_NoDoor; simp only
  rw [if_pos trivial]
theorem ti_NoDoor_NoDoor : tb.isa "NoDoor" "NoDoor" = some true := by
  rw [tI_NoDoor]; unfold isa_NoDoor; simp only
  rw [if_neg (by decide +kernel), if_pos trivial]
theorem ti_NoDoor_NoTree : tb.isa "NoDoor" "NoTree" = some false := by
  rw [tI_NoDoor]; unfold isa_NoDoor; simp only
  rw [if_neg (by decide +kernel), if_neg (by decide +kernel), if_pos trivial]
theorem ti_NoDoor_Nought : tb.isa "NoDoor" "Nought" = some false := by
  rw [tI_NoDoor]; unfold isa_NoDoor; simp only
  rw [if_neg (by decide +kernel), if_neg (by decide +kernel), if_neg (by decide +kernel), if_pos trivial]
theorem ti_NoDoor_Tossed : tb.isa "NoDoor" "Tossed" = some false := by
  rw [tI_NoDoor]; unfold isa_NoDoor; simp only
  rw [if_neg (by decide +kernel), if_neg (by decide +kernel), if_neg (by decide +kernel), if_neg (by decide +kernel), if_pos trivial]
theorem ti_NoDoor_ValueError : tb.isa "NoDoor" "ValueError" = some true := by
  rw [tI_NoDoor]; unfold isa_NoDoor; simp only
  rw [if_neg (by decide +kernel), if_neg (by decide +kernel), if_neg (by decide +kernel), if_neg (by decide +kernel), if_neg (by decide +kernel), if_pos trivial]
theorem ti_NoDoor_WardenError : tb.isa "NoDoor" "WardenError" = some true := by
  rw [tI_NoDoor]; unfold isa_NoDoor; simp only
  rw [if_neg (by decide +kernel), if_neg (by decide +kernel), if_neg (by decide +kernel), if_neg (by decide +kernel), if_neg (by decide +kernel), if_neg (by decide +kernel), if_pos trivial]
theorem ti_NoDoor_Worn : tb.isa "NoDoor" "Worn" = some false := by
  rw [tI_NoDoor]; unfold isa_NoDoor; simp only
  rw [if_neg (by decide +kernel), if_neg (by decide +kernel), if_neg (by decide +kernel), if_neg (by decide +kernel), if_neg (by decide +kernel), if_neg (by decide +kernel), if_neg (by decide +kernel), if_pos trivial]
theorem tI_Nought : tb.isa "Nought" = isa_Nought := by
  unfold tb; simp only
  rw [if_neg (by decide +kernel), if_pos trivial]
theorem tx_Nought : tb.xfs "Nought" = some ([] : List Str) := by
  unfold tb; simp only
  rw [if_neg (by decide +kernel), if_pos trivial]
theorem ti_Nought_NoBook : tb.isa "Nought" "NoBook" = some false := by
  rw [tI_Nought]; unfold isa_Nought; simp only
  rw [if_pos trivial]
theorem ti_Nought_NoDoor : tb.isa "Nought" "NoDoor" = some false := by
  rw [tI_Nought]; unfold isa_Nought; simp only
  rw [if_neg (by decide +kernel), if_pos trivial]
theorem ti_Nought_NoTree : tb.isa "Nought" "NoTree" = some false := by
  rw [tI_Nought]; unfold isa_Nought; simp only
  rw [if_neg (by decide +kernel), if_neg (by decide +kernel), if_pos trivial]
theorem ti_Nought_Nought : tb.isa "Nought" "Nought" = some true := by
  rw [tI_Nought]; unfold isa_Nought; simp only
  rw [if_neg (by decide +kernel), if_neg (by decide +kernel), if_neg (by decide +kernel), if_pos trivial]
theorem ti_Nought_Tossed : tb.isa "Nought" "Tossed" = some false := by
  rw [tI_Nought]; unfold isa_Nought; simp only
  rw [if_neg (by decide +kernel), if_neg (by decide +kernel), if_neg (by decide +kernel), if_neg (by decide +kernel), if_pos trivial]
theorem ti_Nought_ValueError : tb.isa "Nought" "ValueError" = some true := by
  rw [tI_Nought]; unfold isa_Nought; simp only
  rw [if_neg (by decide +kernel), if_neg (by decide +kernel), if_neg (by decide +kernel), if_neg (by decide +kernel), if_neg (by decide +kernel), if_pos trivial]
theorem ti_Nought_WardenError : tb.isa "Nought" "WardenError" = some true := by
  rw [tI_Nought]; unfold isa_Nought; simp only
  rw [if_neg (by decide +kernel), if_neg (by decide +kernel), if_neg (by decide +kernel), if_neg (by decide +kernel), if_neg (by decide +kernel), if_neg (by decide +kernel), if_pos trivial]
theorem ti_Nought_Worn : tb.isa "Nought" "Worn" = some false := by
  rw [tI_Nought]; unfold isa_Nought; simp only
  rw [if_neg (by decide +kernel), if_neg (by decide +kernel), if_neg (by decide +kernel), if_neg (by decide +kernel), if_neg (by decide +kernel), if_neg (by decide +kernel), if_neg (by decide +kernel), if_pos trivial]
theorem te_is_under : tb.fn "is_under" = some fis_under := by
  unfold tb; simp only
  rw [if_pos trivial]
theorem te_wrapped : tb.fn "wrapped" = some fwrapped := by
  unfold tb; simp only
  rw [if_neg (by decide +kernel), if_pos trivial]
theorem te_reckoned : tb.fn "reckoned" = some freckoned := by
  unfold tb; simp only
  rw [if_neg (by decide +kernel), if_neg (by decide +kernel), if_pos trivial]
theorem te_reckoned_or_tossed : tb.fn "reckoned_or_tossed" = some freckoned_or_tossed := by
  unfold tb; simp only
  rw [if_neg (by decide +kernel), if_neg (by decide +kernel), if_neg (by decide +kernel), if_pos trivial]
theorem te_values_of : tb.fn "values_of" = some fvalues_of := by
  unfold tb; simp only
  rw [if_neg (by decide +kernel), if_neg (by decide +kernel), if_neg (by decide +kernel), if_neg (by decide +kernel), if_pos trivial]
theorem te_called : tb.fn "called" = some fcalled := by
  unfold tb; simp only
  rw [if_neg (by decide +kernel), if_neg (by decide +kernel), if_neg (by decide +kernel), if_neg (by decide +kernel), if_neg (by decide +kernel), if_pos trivial]
theorem te_value_of : tb.fn "value_of" = some fvalue_of := by
  unfold tb; simp only
  rw [if_neg (by decide +kernel), if_neg (by decide +kernel), if_neg (by decide +kernel), if_neg (by decide +kernel), if_neg (by decide +kernel), if_neg (by decide +kernel), if_pos trivial]
theorem te_while_done : tb.fn "while_done" = some fwhile_done := by
  unfold tb; simp only
  rw [if_neg (by decide +kernel), if_neg (by decide +kernel), if_neg (by decide +kernel), if_neg (by decide +kernel), if_neg (by decide +kernel), if_neg (by decide +kernel), if_neg (by decide +kernel), if_pos trivial]
theorem te_kin_done : tb.fn "kin_done" = some fkin_done := by
  unfold tb; simp only
  rw [if_neg (by decide +kernel), if_neg (by decide +kernel), if_neg (by decide +kernel), if_neg (by decide +kernel), if_neg (by decide +kernel), if_neg (by decide +kernel), if_neg (by decide +kernel), if_neg (by decide +kernel), if_pos trivial]
theorem te_try_done : tb.fn "try_done" = some ftry_done := by
  unfold tb; simp only
  rw [if_neg (by decide +kernel), if_neg (by decide +kernel), if_neg (by decide +kernel), if_neg (by decide +kernel), if_neg (by decide +kernel), if_neg (by decide +kernel), if_neg (by decide +kernel), if_neg (by decide +kernel), if_neg (by decide +kernel), if_pos trivial]
theorem te_branch_done : tb.fn "branch_done" = some fbranch_done := by
  unfold tb; simp only
  rw [if_neg (by decide +kernel), if_neg (by decide +kernel), if_neg (by decide +kernel), if_neg (by decide +kernel), if_neg (by decide +kernel), if_neg (by decide +kernel), if_neg (by decide +kernel), if_neg (by decide +kernel), if_neg (by decide +kernel), if_neg (by decide +kernel), if_pos trivial]
theorem te_statement_done : tb.fn "statement_done" = some fstatement_done := by
  unfold tb; simp only
  rw [if_neg (by decide +kernel), if_neg (by decide +kernel), if_neg (by decide +kernel), if_neg (by decide +kernel), if_neg (by decide +kernel), if_neg (by decide +kernel), if_neg (by decide +kernel), if_neg (by decide +kernel), if_neg (by decide +kernel), if_neg (by decide +kernel), if_neg (by decide +kernel), if_pos trivial]
theorem te_list_done : tb.fn "list_done" = some flist_done := by
  unfold tb; simp only
  rw [if_neg (by decide +kernel), if_neg (by decide +kernel), if_neg (by decide +kernel), if_neg (by decide +kernel), if_neg (by decide +kernel), if_neg (by decide +kernel), if_neg (by decide +kernel), if_neg (by decide +kernel), if_neg (by decide +kernel), if_neg (by decide +kernel), if_neg (by decide +kernel), if_neg (by decide +kernel), if_pos trivial]
theorem te_part_given : tb.fn "part_given" = some fpart_given := by
  unfold tb; simp only
  rw [if_neg (by decide +kernel), if_neg (by decide +kernel), if_neg (by decide +kernel), if_neg (by decide +kernel), if_neg (by decide +kernel), if_neg (by decide +kernel), if_neg (by decide +kernel), if_neg (by decide +kernel), if_neg (by decide +kernel), if_neg (by decide +kernel), if_neg (by decide +kernel), if_neg (by decide +kernel), if_neg (by decide +kernel), if_pos trivial]
theorem te_need_door : tb.fn "need_door" = some fneed_door := by
  unfold tb; simp only
  rw [if_neg (by decide +kernel), if_neg (by decide +kernel), if_neg (by decide +kernel), if_neg (by decide +kernel), if_neg (by decide +kernel), if_neg (by decide +kernel), if_neg (by decide +kernel), if_neg (by decide +kernel), if_neg (by decide +kernel), if_neg (by decide +kernel), if_neg (by decide +kernel), if_neg (by decide +kernel), if_neg (by decide +kernel), if_neg (by decide +kernel), if_pos trivial]
theorem te_plain_run : tb.fn "plain_run" = some fplain_run := by
  unfold tb; simp only
  rw [if_neg (by decide +kernel), if_neg (by decide +kernel), if_neg (by decide +kernel), if_neg (by decide +kernel), if_neg (by decide +kernel), if_neg (by decide +kernel), if_neg (by decide +kernel), if_neg (by decide +kernel), if_neg (by decide +kernel), if_neg (by decide +kernel), if_neg (by decide +kernel), if_neg (by decide +kernel), if_neg (by decide +kernel), if_neg (by decide +kernel), if_neg (by decide +kernel), if_pos trivial]
theorem te__law_cell : tb.fn "_law_cell" = some f_law_cell := by
  unfold tb; simp only
  rw [if_neg (by decide +kernel), if_neg (by decide +kernel), if_neg (by decide +kernel), if_neg (by decide +kernel), if_neg (by decide +kernel), if_neg (by decide +kernel), if_neg (by decide +kernel), if_neg (by decide +kernel), if_neg (by decide +kernel), if_neg (by decide +kernel), if_neg (by decide +kernel), if_neg (by decide +kernel), if_neg (by decide +kernel), if_neg (by decide +kernel), if_neg (by decide +kernel), if_neg (by decide +kernel), if_pos trivial]
theorem te__law_whole : tb.fn "_law_whole" = some f_law_whole := by
  unfold tb; simp only
  rw [if_neg (by decide +kernel), if_neg (by decide +kernel), if_neg (by decide +kernel), if_neg (by decide +kernel), if_neg (by decide +kernel), if_neg (by decide +kernel), if_neg (by decide +kernel), if_neg (by decide +kernel), if_neg (by decide +kernel), if_neg (by decide +kernel), if_neg (by decide +kernel), if_neg (by decide +kernel), if_neg (by decide +kernel), if_neg (by decide +kernel), if_neg (by decide +kernel), if_neg (by decide +kernel), if_neg (by decide +kernel), if_pos trivial]
theorem te__law_word : tb.fn "_law_word" = some f_law_word := by
  unfold tb; simp only
  rw [if_neg (by decide +kernel), if_neg (by decide +kernel), if_neg (by decide +kernel), if_neg (by decide +kernel), if_neg (by decide +kernel), if_neg (by decide +kernel), if_neg (by decide +kernel), if_neg (by decide +kernel), if_neg (by decide +kernel), if_neg (by decide +kernel), if_neg (by decide +kernel), if_neg (by decide +kernel), if_neg (by decide +kernel), if_neg (by decide +kernel), if_neg (by decide +kernel), if_neg (by decide +kernel), if_neg (by decide +kernel), if_neg (by decide +kernel), if_pos trivial]
theorem te__law_part : tb.fn "_law_part" = some f_law_part := by
  unfold tb; simp only
  rw [if_neg (by decide +kernel), if_neg (by decide +kernel), if_neg (by decide +kernel), if_neg (by decide +kernel), if_neg (by decide +kernel), if_neg (by decide +kernel), if_neg (by decide +kernel), if_neg (by decide +kernel), if_neg (by decide +kernel), if_neg (by decide +kernel), if_neg (by decide +kernel), if_neg (by decide +kernel), if_neg (by decide +kernel), if_neg (by decide +kernel), if_neg (by decide +kernel), if_neg (by decide +kernel), if_neg (by decide +kernel), if_neg (by decide +kernel), if_neg (by decide +kernel), if_pos trivial]
theorem te__law_due : tb.fn "_law_due" = some f_law_due := by
  unfold tb; simp only
  rw [if_neg (by decide +kernel), if_neg (by decide +kernel), if_neg (by decide +kernel), if_neg (by decide +kernel), if_neg (by decide +kernel), if_neg (by decide +kernel), if_neg (by decide +kernel), if_neg (by decide +kernel), if_neg (by decide +kernel), if_neg (by decide +kernel), if_neg (by decide +kernel), if_neg (by decide +kernel), if_neg (by decide +kernel), if_neg (by decide +kernel), if_neg (by decide +kernel), if_neg (by decide +kernel), if_neg (by decide +kernel), if_neg (by decide +kernel), if_neg (by decide +kernel), if_neg (by decide +kernel), if_pos trivial]
theorem te__law_told : tb.fn "_law_told" = some f_law_told := by
  unfold tb; simp only
  rw [if_neg (by decide +kernel), if_neg (by decide +kernel), if_neg (by decide +kernel), if_neg (by decide +kernel), if_neg (by decide +kernel), if_neg (by decide +kernel), if_neg (by decide +kernel), if_neg (by decide +kernel), if_neg (by decide +kernel), if_neg (by decide +kernel), if_neg (by decide +kernel), if_neg (by decide +kernel), if_neg (by decide +kernel), if_neg (by decide +kernel), if_neg (by decide +kernel), if_neg (by decide +kernel), if_neg (by decide +kernel), if_neg (by decide +kernel), if_neg (by decide +kernel), if_neg (by decide +kernel), if_neg (by decide +kernel), if_pos trivial]
theorem te__law_right : tb.fn "_law_right" = some f_law_right := by
  unfold tb; simp only
  rw [if_neg (by decide +kernel), if_neg (by decide +kernel), if_neg (by decide +kernel), if_neg (by decide +kernel), if_neg (by decide +kernel), if_neg (by decide +kernel), if_neg (by decide +kernel), if_neg (by decide +kernel), if_neg (by decide +kernel), if_neg (by decide +kernel), if_neg (by decide +kernel), if_neg (by decide +kernel), if_neg (by decide +kernel), if_neg (by decide +kernel), if_neg (by decide +kernel), if_neg (by decide +kernel), if_neg (by decide +kernel), if_neg (by decide +kernel), if_neg (by decide +kernel), if_neg (by decide +kernel), if_neg (by decide +kernel), if_neg (by decide +kernel), if_pos trivial]
theorem te_law : tb.fn "law" = some flaw := by
  unfold tb; simp only
  rw [if_neg (by decide +kernel), if_neg (by decide +kernel), if_neg (by decide +kernel), if_neg (by decide +kernel), if_neg (by decide +kernel), if_neg (by decide +kernel), if_neg (by decide +kernel), if_neg (by decide +kernel), if_neg (by decide +kernel), if_neg (by decide +kernel), if_neg (by decide +kernel), if_neg (by decide +kernel), if_neg (by decide +kernel), if_neg (by decide +kernel), if_neg (by decide +kernel), if_neg (by decide +kernel), if_neg (by decide +kernel), if_neg (by decide +kernel), if_neg (by decide +kernel), if_neg (by decide +kernel), if_neg (by decide +kernel), if_neg (by decide +kernel), if_neg (by decide +kernel), if_pos trivial]
theorem te_Reading___init__ : tb.fn "Reading.__init__" = some fReading___init__ := by
  unfold tb; simp only
  rw [if_neg (by decide +kernel), if_neg (by decide +kernel), if_neg (by decide +kernel), if_neg (by decide +kernel), if_neg (by decide +kernel), if_neg (by decide +kernel), if_neg (by decide +kernel), if_neg (by decide +kernel), if_neg (by decide +kernel), if_neg (by decide +kernel), if_neg (by decide +kernel), if_neg (by decide +kernel), if_neg (by decide +kernel), if_neg (by decide +kernel), if_neg (by decide +kernel), if_neg (by decide +kernel), if_neg (by decide +kernel), if_neg (by decide +kernel), if_neg (by decide +kernel), if_neg (by decide +kernel), if_neg (by decide +kernel), if_neg (by decide +kernel), if_neg (by decide +kernel), if_neg (by decide +kernel), if_pos trivial]
theorem te_Reading_pay : tb.fn "Reading.pay" = some fReading_pay := by
  unfold tb; simp only
  rw [if_neg (by decide +kernel), if_neg (by decide +kernel), if_neg (by decide +kernel), if_neg (by decide +kernel), if_neg (by decide +kernel), if_neg (by decide +kernel), if_neg (by decide +kernel), if_neg (by decide +kernel), if_neg (by decide +kernel), if_neg (by decide +kernel), if_neg (by decide +kernel), if_neg (by decide +kernel), if_neg (by decide +kernel), if_neg (by decide +kernel), if_neg (by decide +kernel), if_neg (by decide +kernel), if_neg (by decide +kernel), if_neg (by decide +kernel), if_neg (by decide +kernel), if_neg (by decide +kernel), if_neg (by decide +kernel), if_neg (by decide +kernel), if_neg (by decide +kernel), if_neg (by decide +kernel), if_neg (by decide +kernel), if_pos trivial]
theorem te_Reading_born : tb.fn "Reading.born" = some fReading_born := by
  unfold tb; simp only
  rw [if_neg (by decide +kernel), if_neg (by decide +kernel), if_neg (by decide +kernel), if_neg (by decide +kernel), if_neg (by decide +kernel), if_neg (by decide +kernel), if_neg (by decide +kernel), if_neg (by decide +kernel), if_neg (by decide +kernel), if_neg (by decide +kernel), if_neg (by decide +kernel), if_neg (by decide +kernel), if_neg (by decide +kernel), if_neg (by decide +kernel), if_neg (by decide +kernel), if_neg (by decide +kernel), if_neg (by decide +kernel), if_neg (by decide +kernel), if_neg (by decide +kernel), if_neg (by decide +kernel), if_neg (by decide +kernel), if_neg (by decide +kernel), if_neg (by decide +kernel), if_neg (by decide +kernel), if_neg (by decide +kernel), if_neg (by decide +kernel), if_pos trivial]
theorem te_Frame___init__ : tb.fn "Frame.__init__" = some fFrame___init__ := by
  unfold tb; simp only
  rw [if_neg (by decide +kernel), if_neg (by decide +kernel), if_neg (by decide +kernel), if_neg (by decide +kernel), if_neg (by decide +kernel), if_neg (by decide +kernel), if_neg (by decide +kernel), if_neg (by decide +kernel), if_neg (by decide +kernel), if_neg (by decide +kernel), if_neg (by decide +kernel), if_neg (by decide +kernel), if_neg (by decide +kernel), if_neg (by decide +kernel), if_neg (by decide +kernel), if_neg (by decide +kernel), if_neg (by decide +kernel), if_neg (by decide +kernel), if_neg (by decide +kernel), if_neg (by decide +kernel), if_neg (by decide +kernel), if_neg (by decide +kernel), if_neg (by decide +kernel), if_neg (by decide +kernel), if_neg (by decide +kernel), if_neg (by decide +kernel), if_neg (by decide +kernel), if_pos trivial]
theorem tg_FRAMES : tb.glob "FRAMES" = some (.int 12) := by
  unfold tb; simp only
  rw [if_pos trivial]
theorem tg_HALF : tb.glob "HALF" = some (.int 2147483648) := by
  unfold tb; simp only
  rw [if_neg (by decide +kernel), if_pos trivial]
theorem tg_NUMBER : tb.glob "NUMBER" = some (.tup [(.str "number")]) := by
  unfold tb; simp only
  rw [if_neg (by decide +kernel), if_neg (by decide +kernel), if_pos trivial]
theorem tg_SPAN : tb.glob "SPAN" = some (.int 4294967296) := by
  unfold tb; simp only
  rw [if_neg (by decide +kernel), if_neg (by decide +kernel), if_neg (by decide +kernel), if_pos trivial]
theorem tb_is_under : Lk tb "is_under" fis_under := lk te_is_under
theorem tb_wrapped : Lk tb "wrapped" fwrapped := lk te_wrapped
theorem tb_reckoned : Lk tb "reckoned" freckoned := lk te_reckoned
theorem tb_reckoned_or_tossed : Lk tb "reckoned_or_tossed" freckoned_or_tossed := lk te_reckoned_or_tossed
theorem tb_values_of : Lk tb "values_of" fvalues_of := lk te_values_of
theorem tb_called : Lk tb "called" fcalled := lk te_called
theorem tb_value_of : Lk tb "value_of" fvalue_of := lk te_value_of
theorem tb_while_done : Lk tb "while_done" fwhile_done := lk te_while_done
theorem tb_kin_done : Lk tb "kin_done" fkin_done := lk te_kin_done
theorem tb_try_done : Lk tb "try_done" ftry_done := lk te_try_done
theorem tb_branch_done : Lk tb "branch_done" fbranch_done := lk te_branch_done
theorem tb_statement_done : Lk tb "statement_done" fstatement_done := lk te_statement_done
theorem tb_list_done : Lk tb "list_done" flist_done := lk te_list_done
theorem tb_part_given : Lk tb "part_given" fpart_given := lk te_part_given
theorem tb_need_door : Lk tb "need_door" fneed_door := lk te_need_door
theorem tb_plain_run : Lk tb "plain_run" fplain_run := lk te_plain_run
theorem tb__law_cell : Lk tb "_law_cell" f_law_cell := lk te__law_cell
theorem tb__law_whole : Lk tb "_law_whole" f_law_whole := lk te__law_whole
theorem tb__law_word : Lk tb "_law_word" f_law_word := lk te__law_word
theorem tb__law_part : Lk tb "_law_part" f_law_part := lk te__law_part
theorem tb__law_due : Lk tb "_law_due" f_law_due := lk te__law_due
theorem tb__law_told : Lk tb "_law_told" f_law_told := lk te__law_told
theorem tb__law_right : Lk tb "_law_right" f_law_right := lk te__law_right
theorem tb_law : Lk tb "law" flaw := lk te_law
theorem tb_Reading___init__ : Lk tb "Reading.__init__" fReading___init__ := lk te_Reading___init__
theorem tb_Reading_pay : Lk tb "Reading.pay" fReading_pay := lk te_Reading_pay
theorem tb_Reading_born : Lk tb "Reading.born" fReading_born := lk te_Reading_born
theorem tb_Frame___init__ : Lk tb "Frame.__init__" fFrame___init__ := lk te_Frame___init__
@[simp] theorem fr_is_under : tb.fresh "is_under" = false := fresh_of tb_is_under
@[simp] theorem fr_wrapped : tb.fresh "wrapped" = false := fresh_of tb_wrapped
@[simp] theorem fr_reckoned : tb.fresh "reckoned" = false := fresh_of tb_reckoned
@[simp] theorem fr_reckoned_or_tossed : tb.fresh "reckoned_or_tossed" = false := fresh_of tb_reckoned_or_tossed
@[simp] theorem fr_values_of : tb.fresh "values_of" = true := fresh_of tb_values_of
@[simp] theorem fr_called : tb.fresh "called" = false := fresh_of tb_called
@[simp] theorem fr_value_of : tb.fresh "value_of" = false := fresh_of tb_value_of
@[simp] theorem fr_while_done : tb.fresh "while_done" = false := fresh_of tb_while_done
@[simp] theorem fr_kin_done : tb.fresh "kin_done" = false := fresh_of tb_kin_done
@[simp] theorem fr_try_done : tb.fresh "try_done" = false := fresh_of tb_try_done
@[simp] theorem fr_branch_done : tb.fresh "branch_done" = false := fresh_of tb_branch_done
@[simp] theorem fr_statement_done : tb.fresh "statement_done" = false := fresh_of tb_statement_done
@[simp] theorem fr_list_done : tb.fresh "list_done" = false := fresh_of tb_list_done
@[simp] theorem fr_part_given : tb.fresh "part_given" = false := fresh_of tb_part_given
@[simp] theorem fr_need_door : tb.fresh "need_door" = false := fresh_of tb_need_door
@[simp] theorem fr_plain_run : tb.fresh "plain_run" = false := fresh_of tb_plain_run
@[simp] theorem fr__law_cell : tb.fresh "_law_cell" = false := fresh_of tb__law_cell
@[simp] theorem fr__law_whole : tb.fresh "_law_whole" = false := fresh_of tb__law_whole
@[simp] theorem fr__law_word : tb.fresh "_law_word" = false := fresh_of tb__law_word
@[simp] theorem fr__law_part : tb.fresh "_law_part" = false := fresh_of tb__law_part
@[simp] theorem fr__law_due : tb.fresh "_law_due" = false := fresh_of tb__law_due
@[simp] theorem fr__law_told : tb.fresh "_law_told" = false := fresh_of tb__law_told
@[simp] theorem fr__law_right : tb.fresh "_law_right" = false := fresh_of tb__law_right
@[simp] theorem fr_law : tb.fresh "law" = false := fresh_of tb_law
@[simp] theorem fr_Reading___init__ : tb.fresh "Reading.__init__" = false := fresh_of tb_Reading___init__
@[simp] theorem fr_Reading_pay : tb.fresh "Reading.pay" = false := fresh_of tb_Reading_pay
@[simp] theorem fr_Reading_born : tb.fresh "Reading.born" = false := fresh_of tb_Reading_born
@[simp] theorem fr_Frame___init__ : tb.fresh "Frame.__init__" = false := fresh_of tb_Frame___init__
@[simp] theorem gl_FRAMES (n : Nat) : glM (tb.cfg n) "FRAMES" = .pure (.int 12) := by unfold glM; simp only [tg_FRAMES, Mx.lift_some]
@[simp] theorem gl_HALF (n : Nat) : glM (tb.cfg n) "HALF" = .pure (.int 2147483648) := by unfold glM; simp only [tg_HALF, Mx.lift_some]
@[simp] theorem gl_NUMBER (n : Nat) : glM (tb.cfg n) "NUMBER" = .pure (.tup [(.str "number")]) := by unfold glM; simp only [tg_NUMBER, Mx.lift_some]
@[simp] theorem gl_SPAN (n : Nat) : glM (tb.cfg n) "SPAN" = .pure (.int 4294967296) := by unfold glM; simp only [tg_SPAN, Mx.lift_some]
theorem ck_is_under : chkF tb.has fis_under ["makes", "c", "other"] (bodyAt 7) = true := by decide +kernel
theorem ck_wrapped : chkF tb.has fwrapped ["number"] (bodyAt 11) = true := by decide +kernel
theorem ck_reckoned : chkF tb.has freckoned ["sign", "one", "other"] (bodyAt 12) = true := by decide +kernel
theorem ck_reckoned_or_tossed : chkF tb.has freckoned_or_tossed ["sign", "one", "other"] (bodyAt 22) = true := by decide +kernel
theorem ck_values_of : chkF tb.has fvalues_of ["run", "frame", "some"] (bodyAt 23) = true := by decide +kernel
theorem ck_called : chkF tb.has fcalled ["run", "frame", "e"] (bodyAt 24) = true := by decide +kernel
theorem ck_value_of : chkF tb.has fvalue_of ["run", "frame", "e"] (bodyAt 25) = true := by decide +kernel
theorem ck_while_done : chkF tb.has fwhile_done ["run", "frame", "s"] (bodyAt 26) = true := by decide +kernel
theorem ck_kin_done : chkF tb.has fkin_done ["run", "frame", "s"] (bodyAt 27) = true := by decide +kernel
theorem ck_try_done : chkF tb.has ftry_done ["run", "frame", "s"] (bodyAt 28) = true := by decide +kernel
theorem ck_branch_done : chkF tb.has fbranch_done ["run", "frame", "s"] (bodyAt 29) = true := by decide +kernel
theorem ck_statement_done : chkF tb.has fstatement_done ["run", "frame", "s"] (bodyAt 30) = true := by decide +kernel
theorem ck_list_done : chkF tb.has flist_done ["run", "frame", "some"] (bodyAt 31) = true := by decide +kernel
theorem ck_part_given : chkF tb.has fpart_given ["run", "number", "values", "deep"] (bodyAt 32) = true := by decide +kernel
theorem ck_need_door : chkF tb.has fneed_door ["parts", "number", "inputs"] (bodyAt 33) = true := by decide +kernel
theorem ck_plain_run : chkF tb.has fplain_run ["program", "part", "inputs", "budget"] (bodyAt 34) = true := by decide +kernel
theorem ck__law_cell : chkF tb.has f_law_cell ["_law_script", "_law_k"] (bodyAt 36) = true := by decide +kernel
theorem ck__law_whole : chkF tb.has f_law_whole ["_law_found"] (bodyAt 37) = true := by decide +kernel
theorem ck__law_word : chkF tb.has f_law_word ["_law_cell_here"] (bodyAt 38) = true := by decide +kernel
theorem ck__law_part : chkF tb.has f_law_part ["_law_cell_here", "_law_door"] (bodyAt 39) = true := by decide +kernel
theorem ck__law_due : chkF tb.has f_law_due ["_law_part_here", "_law_inputs"] (bodyAt 40) = true := by decide +kernel
theorem ck__law_told : chkF tb.has f_law_told ["_law_program", "_law_p", "_law_inputs", "_law_budget"] (bodyAt 41) = true := by decide +kernel
theorem ck__law_right : chkF tb.has f_law_right ["_law_told_here", "_law_due_here", "_law_budget"] (bodyAt 42) = true := by decide +kernel
theorem ck_law : chkF tb.has flaw ["_law_script"] (bodyAt 43) = true := by decide +kernel
theorem ck_Reading___init__ : chkF tb.has fReading___init__ ["self", "program", "budget"] (clsAt 20 0) = true := by decide +kernel
theorem ck_Reading_pay : chkF tb.has fReading_pay ["self"] (clsAt 20 1) = true := by decide +kernel
theorem ck_Reading_born : chkF tb.has fReading_born ["self", "c", "fields"] (clsAt 20 2) = true := by decide +kernel
theorem ck_Frame___init__ : chkF tb.has fFrame___init__ ["self", "deep", "names"] (clsAt 21 0) = true := by decide +kernel
end RR

namespace RR
open PySem L2
theorem pow_mono {b c : Nat} (h : b ≤ c) : (2 : Int) ^ b ≤ 2 ^ c := by
  have := Nat.pow_le_pow_right (by decide : 0 < 2) h
  exact_mod_cast this
theorem cell_loop (n : Nat) (S : D) (x1 : Sl) : ∀ (cs : List Int) (f : Int) (b : Nat), 0 ≤ f → f < 2 ^ b → 30 ≤ b → ∃ g : Int, 0 ≤ g ∧ g < 2 ^ (b + 6 * cs.length) ∧ forL (forStep (.nm 3) (evSs (tb.cfg n) b0_law_cell)) (cs.map .int) [.val S, x1, .val (.int f), .un] = .pure (.nx [.val S, x1, .val (.int g), .un])
  | [], f, b, h0, h1, _ => ⟨f, h0, by simpa using h1, rfl⟩
  | c :: cs, f, b, h0, h1, hb => by
    have c1 := Int.emod_nonneg c (show (1000033 : Int) ≠ 0 by decide)
    have c2 := Int.emod_lt_of_pos c (show (0 : Int) < 1000033 by decide)
    have hp : (1000033 : Int) < 2 ^ b := Int.lt_of_lt_of_le (show (1000033 : Int) < 2 ^ 30 by decide) (pow_mono hb)
    obtain ⟨g, g0, g1, q⟩ := cell_loop n S x1 cs (f * 31 + c % 1000033) (b + 6) (by omega) (by
      rw [Int.pow_add]
      have : (2 : Int) ^ 6 = 64 := by decide
      omega) (by omega)
    refine ⟨g, g0, by rw [List.length_cons]; rw [show b + 6 * (cs.length + 1) = b + 6 + 6 * cs.length by omega]; exact g1, ?_⟩
    have e : forStep (.nm 3) (evSs (tb.cfg n) b0_law_cell) (.int c) [.val S, x1, .val (.int f), .un] = .pure (.nx [.val S, x1, .val (.int (f * 31 + c % 1000033)), .un]) := by
      simp [ownDAt, dsetS, spopS, popA, runF, evSs, evS, evE, evT, evCs, evOc, evOcT, evIt, evAnd, evOr, evTAnd, evTOr, valAt, ownAt, augS, appS, popS, setS, retS, frzS, nxo, asg, Tg.ix, wipeR, lcM, freeAt, frC, D.isC, D.isL, C.isPk, Cs.hasPk, It.sz, LINE, forStep, b0_law_cell]
    rw [List.map_cons, forL, e, Mx.pure_bind]
    exact q
theorem v_cell (n : Nat) (ns : List Int) {k : Nat} (hk : k ≤ 200) : ∃ z, callF tb (n + 1) "_law_cell" [.lst (ns.map .int), .int (k : Int)] = .pure (.int z) := by
  rw [callF_succ tb__law_cell]
  by_cases h : (k : Int) < ns.length
  · obtain ⟨z, e⟩ := atI_ints (ns := ns) (k := (k : Int)) (by omega) h
    have e2 := ixL e
    exact ⟨z, by simp [ownDAt, dsetS, spopS, popA, runF, evSs, evS, evE, evT, evCs, evOc, evOcT, evIt, evAnd, evOr, evTAnd, evTOr, valAt, ownAt, augS, appS, popS, setS, retS, frzS, nxo, asg, Tg.ix, wipeR, lcM, freeAt, frC, D.isC, D.isL, C.isPk, Cs.hasPk, It.sz, LINE, f_law_cell, h, e2]⟩
  · obtain ⟨g, g0, g1, q⟩ := cell_loop n (.lst (ns.map .int)) (.val (.int (k : Int))) (cutL ns none (some 8)) (1000003 * ((k : Int) + 1)) 40 (by omega) (by omega) (by decide)
    have hl : (cutL ns none (some 8)).length ≤ 8 := cut_len ns 8
    have hm : mulOk g g = true := mul_ok (Nat.lt_of_lt_of_le (by
      have h2 : g < 2 ^ 88 := Int.lt_of_lt_of_le g1 (pow_mono (by omega))
      have h3 : (2 : Int) ^ 88 = ((2 ^ 88 : Nat) : Int) := by decide
      omega) (Nat.pow_le_pow_right (by decide) (by decide : 88 ≤ 1000))) (Nat.lt_of_lt_of_le (by
      have h2 : g < 2 ^ 88 := Int.lt_of_lt_of_le g1 (pow_mono (by omega))
      have h3 : (2 : Int) ^ 88 = ((2 ^ 88 : Nat) : Int) := by decide
      omega) (Nat.pow_le_pow_right (by decide) (by decide : 88 ≤ 1000)))
    refine ⟨g * g % 998244353, ?_⟩
    refine run_rt rfl ?_; simp only [List.length, Nat.reduceAdd, Nat.reduceSub, Nat.sub_self, List.replicate, List.map, List.cons_append, List.nil_append, f_law_cell]
    refine (ss_nx (by simp [ownDAt, dsetS, spopS, popA, runF, evSs, evS, evE, evT, evCs, evOc, evOcT, evIt, evAnd, evOr, evTAnd, evTOr, valAt, ownAt, augS, appS, popS, setS, retS, frzS, nxo, asg, Tg.ix, wipeR, lcM, freeAt, frC, D.isC, D.isL, C.isPk, Cs.hasPk, It.sz, LINE, h]; exact rfl)).trans ?_
    refine (ss_nx (by simp [ownDAt, dsetS, spopS, popA, runF, evSs, evS, evE, evT, evCs, evOc, evOcT, evIt, evAnd, evOr, evTAnd, evTOr, valAt, ownAt, augS, appS, popS, setS, retS, frzS, nxo, asg, Tg.ix, wipeR, lcM, freeAt, frC, D.isC, D.isL, C.isPk, Cs.hasPk, It.sz, LINE]; exact rfl)).trans ?_
    refine Eq.trans (ss_nx (for_run (by simp [ownDAt, dsetS, spopS, popA, runF, evSs, evS, evE, evT, evCs, evOc, evOcT, evIt, evAnd, evOr, evTAnd, evTOr, valAt, ownAt, augS, appS, popS, setS, retS, frzS, nxo, asg, Tg.ix, wipeR, lcM, freeAt, frC, D.isC, D.isL, C.isPk, Cs.hasPk, It.sz, LINE, cut_ints]) q)) ?_
    simp [ownDAt, dsetS, spopS, popA, runF, evSs, evS, evE, evT, evCs, evOc, evOcT, evIt, evAnd, evOr, evTAnd, evTOr, valAt, ownAt, augS, appS, popS, setS, retS, frzS, nxo, asg, Tg.ix, wipeR, lcM, freeAt, frC, D.isC, D.isL, C.isPk, Cs.hasPk, It.sz, LINE, hm]
section
variable {Γ : Cfg} {s s1 : RS} {h h1 : HP} {a c : C} {as : Cs} {x y : D} {i : Nat} {f m cls : Str} {fr : Bool} {oi : Option Nat} {b : Ss} {r : Hs}
theorem XX_callX {xs : List D} (e : (evCs Γ as s).run h = .ok xs h) (e2 : (Γ.call f xs).run h = .exc y h1) : (evE Γ (.call f as) s).run h = .exc y h1 := by
  show evE Γ (.call f as) s h = _
  rw [evE]; exact (bind_ok (show evCs Γ as s h = _ from e)).trans e2
theorem atX {m : M D} (e : m.run h = .exc y h1) : at_ s m h = .exc (y, s) h1 := by
  unfold at_ Mx.tell
  rw [show m h = _ from e]
theorem SX_set (e : (evE Γ c s).run h = .exc y h1) : (evS Γ (.set i c) s).run h = .exc (y, s) h1 := by
  show evS Γ (.set i c) s h = _
  rw [evS]; exact bind_exc (atX e)
theorem H_hit (q : isX Γ x cls = some true) (e : (evSs Γ b (onI oi x s)).run h = .ok (.nx s1) h1) : (evHs Γ (.cons cls oi b r) x s).run h = .ok (.nx (offI oi s1)) h1 := by
  show evHs Γ (.cons cls oi b r) x s h = _
  rw [evHs]
  simp only [q]
  exact (bind_ok (show evSs Γ b (onI oi x s) h = _ from e)).trans rfl
end
abbrev XD : D := .xn "NoDoor" []
theorem isx_of (n : Nat) {c : Str} {v : Bool} (e : tb.isa "NoDoor" c = some v) : isxM (tb.cfg n) c XD = .pure (.bl v) := by
  unfold isxM
  show (Mx.lift (tb.isa "NoDoor" c)).bind _ = _
  rw [e]; rfl
theorem nmA : ∀ w : Nat, w < 4 → slcM (.str "aaa") none (some (w : Int)) = .pure (.str ⟨(List.replicate w 97).toArray⟩) := by
  intro w hw
  have sl : slcM (.str "aaa") none (some (w : Int)) = .pure (.str (cutS "aaa" none (some (w : Int)))) := by
    have e : slcD (.str "aaa") none (some (w : Int)) = some (.str (cutS "aaa" none (some (w : Int)))) := by
      simp only [slcD]
      rw [if_pos (show (Str.ofString "aaa").length ≤ LINE by decide +kernel)]
    funext h
    show Mx.lift (slcD (.str "aaa") none (some (w : Int))) h = _
    rw [e]
    rfl
  rw [sl]
  rcases (by omega : w = 0 ∨ w = 1 ∨ w = 2 ∨ w = 3) with rfl | rfl | rfl | rfl <;> (refine congrArg (fun s => Mx.pure (D.str s)) ?_; decide +kernel)
theorem nmZ : ∀ w : Nat, w < 5 → slcM (.str "zzzz") none (some (w : Int)) = .pure (.str ⟨(List.replicate w 122).toArray⟩) := by
  intro w hw
  have sl : slcM (.str "zzzz") none (some (w : Int)) = .pure (.str (cutS "zzzz" none (some (w : Int)))) := by
    have e : slcD (.str "zzzz") none (some (w : Int)) = some (.str (cutS "zzzz" none (some (w : Int)))) := by
      simp only [slcD]
      rw [if_pos (show (Str.ofString "zzzz").length ≤ LINE by decide +kernel)]
    funext h
    show Mx.lift (slcD (.str "zzzz") none (some (w : Int))) h = _
    rw [e]
    rfl
  rw [sl]
  rcases (by omega : w = 0 ∨ w = 1 ∨ w = 2 ∨ w = 3 ∨ w = 4) with rfl | rfl | rfl | rfl | rfl <;> (refine congrArg (fun s => Mx.pure (D.str s)) ?_; decide +kernel)
theorem nmL : ∀ k : Nat, k < 20 → idxM (.str "bcdefghijklmnopqrstu") (.int (k : Int)) = .pure (.str ⟨[98 + k].toArray⟩) := by
  intro k hk
  have L : ∀ k : Nat, k < 20 → (idxD (.str "bcdefghijklmnopqrstu") (.int (k : Int))).map (fun d => match d with | .str s => s.cps.toList | _ => []) = some [98 + k] := by decide +kernel
  have := L k hk
  cases e : idxD (.str "bcdefghijklmnopqrstu") (.int (k : Int)) with
  | none => rw [e] at this; cases this
  | some d =>
    have hd : ∃ c, d = .str ⟨#[c]⟩ := by
      simp only [idxD] at e
      split at e
      · cases q : atI (Str.ofString "bcdefghijklmnopqrstu").cps.toList (k : Int) with
        | none => rw [q] at e; cases e
        | some c => rw [q] at e; simp only [Option.map_some, Option.some.injEq] at e; exact ⟨c, e.symm⟩
      · cases e
    obtain ⟨c, rfl⟩ := hd
    rw [e] at this
    simp only [Option.map_some, Option.some.injEq] at this
    have hc : c = 98 + k := by simpa using this
    subst hc
    funext h
    show Mx.lift (idxD (.str "bcdefghijklmnopqrstu") (.int (k : Int))) h = _
    rw [e]
    rfl
def nmS (w k m : Nat) : Str := ⟨(List.replicate w 97 ++ (98 + k) :: List.replicate m 122).toArray⟩
theorem nm_add {xs ys : List Nat} (h : xs.length + ys.length ≤ 1000) : binM .Add (.str ⟨xs.toArray⟩) (.str ⟨ys.toArray⟩) = .pure (.str ⟨(xs ++ ys).toArray⟩) := by
  have : (⟨xs.toArray⟩ ++ ⟨ys.toArray⟩ : Str) = ⟨(xs ++ ys).toArray⟩ := by
    show (⟨xs.toArray ++ ys.toArray⟩ : Str) = _
    congr 1
    simp
  rw [bm13, this]
  have l1 : (⟨xs.toArray⟩ : Str).length = xs.length := by show xs.toArray.size = _; simp
  have l2 : (⟨ys.toArray⟩ : Str).length = ys.length := by show ys.toArray.size = _; simp
  rw [l1, l2]
  simp only [LINE]
  omega
theorem nm_inj {w k m w' k' m' : Nat} (h : nmS w k m = nmS w' k' m') : k = k' := by
  have f : ∀ w k m : Nat, (nmS w k m).cps.toList.find? (fun x => decide (x ≠ 97)) = some (98 + k) := by
    intro w k m
    simp only [nmS]
    induction w with
    | zero => simp; omega
    | succ w ih => rw [List.replicate_succ, List.cons_append]; simpa using ih
  have a := f w k m
  rw [h, f w' k' m'] at a
  simp only [Option.some.injEq] at a
  omega
theorem nm_ok (w k m : Nat) (hk : k < 20) : PyData.strOk (nmS w k m) = true := by
  simp only [PyData.strOk, nmS, List.all_toArray, List.all_append, List.all_cons, List.all_replicate]
  simp
  omega
theorem dm_ok (a : Int) {b : Int} (h0 : 0 < b) (h1 : b < 1000) : biM "divmod" [.int a, .int b] = .pure (.tup [.int (a / b), .int (a % b)]) := by
  have lg : b.natAbs.log2 < 9000 := log_fits _ h0 (by omega)
  have np : Builtin.divisionGoesByPylong a b = false := PyProof.noPylong_of_log2 lg
  funext hh
  show Mx.lift (biD "divmod" [.int a, .int b]) hh = _
  unfold biD
  rw [if_neg (nei (by decide +kernel)), if_neg (nei (by decide +kernel)), if_neg (nei (by decide +kernel)), if_neg (nei (by decide +kernel)), if_neg (nei (by decide +kernel)), if_neg (nei (by decide +kernel)), if_neg (nei (by decide +kernel)), if_neg (nei (by decide +kernel)), if_pos rfl]
  simp only [np]
  rw [if_pos (by simp; omega), Int.fdiv_eq_ediv_of_nonneg _ (by omega), Int.fmod_eq_emod_of_nonneg _ (by omega)]
  rfl
theorem v_word60 (n : Nat) (z : Int) {h : HP} : ∃ w : Int, (callF tb (n + 1) "_law_word" [.int z]).run h = .ok (.int w) h := by
  rw [callF_succ tb__law_word]
  by_cases c : z % 3 = 0
  · refine ⟨z / 3 % 9 - 4, ?_⟩
    refine F_rt rfl ?_; simp only [List.length, Nat.reduceAdd, Nat.reduceSub, Nat.sub_self, List.replicate, List.map_cons, List.map_nil, List.cons_append, List.nil_append, f_law_word]
    (repeat' (first | (with_reducible show _[_]? = _; first | with_reducible exact G0) | (with_reducible show Mx.run (thn _ _) _ = _; first | with_reducible apply K_ite | with_reducible refine K_ret rfl ?_) | (with_reducible show Mx.run (evE _ _ _) _ = _; first | with_reducible exact X_int | with_reducible apply X_pkv | with_reducible apply X_bin) | (with_reducible show Mx.run (evT _ _ _) _ = _; first | with_reducible apply T_cmp) | (with_reducible show Mx.run (sel _ _ _) _ = _; first | (with_reducible apply sel_t; focus (simp [c]; done))) | with_reducible exact SD1 | (with_reducible apply run_of; simp [c]; first | done | exact rfl)))
  · have mo : mulOk (z / 3) 2654435761 = true := by simp [mulOk]
    have mu : binM .Mult (.int (z / 3)) (.int 2654435761) = .pure (.int (z / 3 * 2654435761)) := by rw [bm3, if_pos mo]
    obtain ⟨q, hq⟩ : ∃ q : Int, q = z / 3 * 2654435761 := ⟨_, rfl⟩
    rw [← hq] at mu
    refine ⟨q % 4294967296 - 2147483648, ?_⟩
    refine F_rt rfl ?_; simp only [List.length, Nat.reduceAdd, Nat.reduceSub, Nat.sub_self, List.replicate, List.map_cons, List.map_nil, List.cons_append, List.nil_append, f_law_word]
    (repeat' (first | (with_reducible show _[_]? = _; first | with_reducible exact G0) | (with_reducible show Mx.run (thn _ _) _ = _; first | with_reducible apply K_ite | with_reducible refine K_ret rfl ?_ | with_reducible apply K_nil) | (with_reducible show Mx.run (evE _ _ _) _ = _; first | with_reducible exact X_int | with_reducible apply X_pkv | with_reducible apply X_bin) | (with_reducible show Mx.run (evT _ _ _) _ = _; first | with_reducible apply T_cmp) | (with_reducible show Mx.run (sel _ _ _) _ = _; first | (with_reducible apply sel_f; focus (simp [c]; done))) | with_reducible exact SD1 | with_reducible exact run_of mu | (with_reducible apply run_of; simp [c]; first | done | exact rfl)))
abbrev k6N : D := .tup [.str "number"]
abbrev k6W (k : Int) : D := .tup [.str "whole", .int k]
def k6D (b : Bool) : D := if b then k6N else k6W 1
def n6D (p : Str × Bool) : D := .tup [.str p.1, k6D p.2]
inductive An | num (w : Int) | var (x : Str)
def An.d : An → D
  | .num w => .tup [.str "num", .int w] | .var x => .tup [.str "var", .str x]
structure P6 where
  nm : List (Str × Bool)
  gv : Bool
  an : An
def P6.d (p : P6) : D := .tup [.lst (p.nm.map n6D), if p.gv then k6N else k6W 0, .lst [], if p.gv then p.an.d else .tup [.str "new", .int 1, .lst [p.an.d]]]
/-- the i-th name bears the i-th letter -/
def NmOk (nm : List (Str × Bool)) : Prop := ∀ (i : Nat) (p : Str × Bool), nm[i]? = some p → ∃ w m : Nat, p.1 = nmS w i m
structure P6.ok (p : P6) : Prop where
  len : p.nm.length ≤ 20
  nm : NmOk p.nm
  an : ∀ x, p.an = .var x → (x, true) ∈ p.nm
theorem names_loop (n : Nat) (door : Bool) (x1' x3 x4 x5 : Sl) (M : Nat) (hM : M ≤ 20) (c0 : Int) (s7 : Sl) (fr7 : s7 = .un) {h : HP} : ∃ (nm : List (Str × Bool)) (c : Int) (s7 : Sl), (forL (forStep (.nm 3) (evSs (tb.cfg n) b4_law_part)) ((List.range M).map fun j : Nat => D.int (j : Int)) [.val (.int c0), .val (.bl door), .own (.lst []), .un, .un, .un, .val (.int (M : Int)), .un, .un, .un]).run h = .ok (.nx [.val (.int c), .val (.bl door), .own (.lst (nm.map n6D)), .un, .un, .un, .val (.int (M : Int)), s7, .un, .un]) h ∧ nm.length = M ∧ NmOk nm ∧ (door = true → ∀ p ∈ nm, p.2 = true) ∧ (s7 = .un ∨ ∃ d, s7 = .val d) := by
  obtain ⟨⟨nm, c, s7⟩, e, h1, h2, h3, h4⟩ := for_rng (h := h) (f := forStep (.nm 3) (evSs (tb.cfg n) b4_law_part)) (fun v : List (Str × Bool) × Int × Sl => [.val (.int v.2.1), .val (.bl door), .own (.lst (v.1.map n6D)), .un, .un, .un, .val (.int (M : Int)), v.2.2, .un, .un]) (fun i v => v.1.length = i ∧ NmOk v.1 ∧ (door = true → ∀ p ∈ v.1, p.2 = true) ∧ (v.2.2 = .un ∨ ∃ d, v.2.2 = .val d)) M ([], c0, .un) ⟨rfl, fun i p e => (by cases e), fun _ p hp => (by cases hp), .inl rfl⟩ (fun i v hi ⟨h1, h2, h3, h4⟩ => by
    obtain ⟨nm, c, s7⟩ := v
    dsimp only at h1 h2 h3 h4 ⊢
    have dm := dm_ok c (b := 4) (by decide) (by decide)
    obtain ⟨w, hw, hw4⟩ := mod_nat c (by decide : 0 < 4)
    have hw : c % 4 = (w : Int) := hw
    rw [hw] at dm
    obtain ⟨m, hm, hm5⟩ := mod_nat (c / 4) (by decide : 0 < 5)
    have hm : c / 4 % 5 = (m : Int) := hm
    have sA := nmA w hw4
    have sZ := nmZ m hm5
    have sL := nmL i (by omega)
    have a1 := nm_add (xs := List.replicate w 97) (ys := [98 + i]) (by simp; omega)
    have a2 := nm_add (xs := List.replicate w 97 ++ [98 + i]) (ys := List.replicate m 122) (by simp; omega)
    rw [List.append_assoc, List.singleton_append] at a2
    obtain ⟨A, hA⟩ : ∃ A : Str, A = ⟨(List.replicate w 97).toArray⟩ := ⟨_, rfl⟩
    obtain ⟨B, hB⟩ : ∃ A : Str, A = ⟨[98 + i].toArray⟩ := ⟨_, rfl⟩
    obtain ⟨C, hC⟩ : ∃ A : Str, A = ⟨(List.replicate w 97 ++ [98 + i]).toArray⟩ := ⟨_, rfl⟩
    obtain ⟨Z, hZ⟩ : ∃ A : Str, A = ⟨(List.replicate m 122).toArray⟩ := ⟨_, rfl⟩
    obtain ⟨S, hS⟩ : ∃ A : Str, A = nmS w i m := ⟨_, rfl⟩
    have hS' : S = ⟨(List.replicate w 97 ++ (98 + i) :: List.replicate m 122).toArray⟩ := hS
    rw [← hA] at sA
    rw [← hZ] at sZ
    rw [← hB] at sL
    rw [← hA, ← hB, ← hC] at a1
    rw [← hC, ← hZ, ← hS'] at a2
    obtain ⟨b, hb⟩ : ∃ b : Bool, b = (door || decide (w < 3)) := ⟨_, rfl⟩
    have kx : ∃ d, idxM (.lst [.tup [.str "number"], .tup [.str "number"], .tup [.str "number"], .tup [.str "whole", .int ((w : Int) % 2)]]) (.int (w : Int)) = .pure d ∧ (door = false → d = k6D b) := by
      rcases (by omega : w = 0 ∨ w = 1 ∨ w = 2 ∨ w = 3) with rfl | rfl | rfl | rfl
      · exact ⟨_, ixL rfl, fun q => by rw [hb, q]; rfl⟩
      · exact ⟨_, ixL rfl, fun q => by rw [hb, q]; rfl⟩
      · exact ⟨_, ixL rfl, fun q => by rw [hb, q]; rfl⟩
      · exact ⟨_, ixL rfl, fun q => by rw [hb, q]; rfl⟩
    obtain ⟨d, kx, kd⟩ := kx
    obtain ⟨ND, hND⟩ : ∃ ND, ND = nm.map n6D := ⟨_, rfl⟩
    have ll : ND.length < 16777216 := by rw [hND, List.length_map]; omega
    have md : (nm ++ [(S, b)]).map n6D = ND ++ [.tup [.str S, k6D b]] := by rw [List.map_append, hND]; rfl
    obtain ⟨c4, hc4⟩ : ∃ y : Int, y = c / 4 := ⟨_, rfl⟩
    rw [← hc4] at dm hm
    refine ⟨(nm ++ [(S, b)], c4, .val (k6D b)), ?_, by simp [h1], ?_, ?_, .inr ⟨_, rfl⟩⟩
    · dsimp only
      rw [md, ← hND]
      cases door with
      | false =>
        have kd := kd rfl
        subst kd
        rcases h4 with rfl | ⟨d', rfl⟩
        · apply L_step
          · (repeat' (first | (with_reducible show List.set _ _ _ = _; first | with_reducible exact Z0 | with_reducible apply ZS) | with_reducible apply A1))
          · rw [b4_law_part, r3_law_part]
            (repeat' (first | (with_reducible show _[_]? = _; first | with_reducible exact G0 | with_reducible apply GS) | (with_reducible show List.set _ _ _ = _; first | with_reducible exact Z0 | with_reducible apply ZS) | (with_reducible show Mx.run (thn _ _) _ = _; first | with_reducible apply K_set | with_reducible apply K_ite | with_reducible apply K_kill | with_reducible apply K_nil | with_reducible apply K_unp | with_reducible apply K_app) | (with_reducible show Mx.run (evE _ _ _) _ = _; first | with_reducible exact X_int | with_reducible exact X_str | with_reducible apply X_var | with_reducible apply X_pkv | with_reducible apply X_bin | with_reducible apply X_tup | with_reducible apply X_lst | with_reducible apply X_idx | with_reducible apply X_slc01 | with_reducible apply X_bi) | (with_reducible show Mx.run (evCs _ _ _) _ = _; first | with_reducible exact X_nil | with_reducible apply X_cons) | (with_reducible show Mx.run (evT _ _ _) _ = _; first | with_reducible apply T_val t_pk) | (with_reducible show Mx.run (sel _ _ _) _ = _; first | (with_reducible apply sel_f; focus (simp [hm, ll]; done))) | with_reducible exact SD1 | with_reducible exact W0 | with_reducible apply WS | with_reducible exact run_of dm | with_reducible exact run_of sA | with_reducible exact run_of sZ | with_reducible exact run_of sL | with_reducible exact run_of a1 | with_reducible exact run_of a2 | with_reducible exact run_of kx | with_reducible apply A2 | with_reducible exact pure_ok _ | (with_reducible apply run_of; simp [hm, ll]; first | done | exact rfl) | (simp [frC, D.isC, D.isL, LINE, hm, ll]; done)))
        · apply L_step
          · (repeat' (first | (with_reducible show List.set _ _ _ = _; first | with_reducible exact Z0 | with_reducible apply ZS) | with_reducible apply A1))
          · rw [b4_law_part, r3_law_part]
            (repeat' (first | (with_reducible show _[_]? = _; first | with_reducible exact G0 | with_reducible apply GS) | (with_reducible show List.set _ _ _ = _; first | with_reducible exact Z0 | with_reducible apply ZS) | (with_reducible show Mx.run (thn _ _) _ = _; first | with_reducible apply K_set | with_reducible apply K_ite | with_reducible apply K_kill | with_reducible apply K_nil | with_reducible apply K_unp | with_reducible apply K_app) | (with_reducible show Mx.run (evE _ _ _) _ = _; first | with_reducible exact X_int | with_reducible exact X_str | with_reducible apply X_var | with_reducible apply X_pkv | with_reducible apply X_bin | with_reducible apply X_tup | with_reducible apply X_lst | with_reducible apply X_idx | with_reducible apply X_slc01 | with_reducible apply X_bi) | (with_reducible show Mx.run (evCs _ _ _) _ = _; first | with_reducible exact X_nil | with_reducible apply X_cons) | (with_reducible show Mx.run (evT _ _ _) _ = _; first | with_reducible apply T_val t_pk) | (with_reducible show Mx.run (sel _ _ _) _ = _; first | (with_reducible apply sel_f; focus (simp [hm, ll]; done))) | with_reducible exact SD1 | with_reducible exact W0 | with_reducible apply WS | with_reducible exact run_of dm | with_reducible exact run_of sA | with_reducible exact run_of sZ | with_reducible exact run_of sL | with_reducible exact run_of a1 | with_reducible exact run_of a2 | with_reducible exact run_of kx | with_reducible apply A2 | with_reducible exact pure_ok _ | (with_reducible apply run_of; simp [hm, ll]; first | done | exact rfl) | (simp [frC, D.isC, D.isL, LINE, hm, ll]; done)))
      | true =>
        have hb : b = true := hb
        subst hb
        rw [show k6D true = .tup [.str "number"] from rfl]
        rcases h4 with rfl | ⟨d', rfl⟩
        · apply L_step
          · (repeat' (first | (with_reducible show List.set _ _ _ = _; first | with_reducible exact Z0 | with_reducible apply ZS) | with_reducible apply A1))
          · rw [b4_law_part, r3_law_part]
            (repeat' (first | (with_reducible show _[_]? = _; first | with_reducible exact G0 | with_reducible apply GS) | (with_reducible show List.set _ _ _ = _; first | with_reducible exact Z0 | with_reducible apply ZS) | (with_reducible show Mx.run (thn _ _) _ = _; first | with_reducible apply K_set | with_reducible apply K_ite | with_reducible apply K_kill | with_reducible apply K_nil | with_reducible apply K_unp | with_reducible apply K_app) | (with_reducible show Mx.run (evE _ _ _) _ = _; first | with_reducible exact X_int | with_reducible exact X_str | with_reducible apply X_var | with_reducible apply X_pkv | with_reducible apply X_bin | with_reducible apply X_tup | with_reducible apply X_lst | with_reducible apply X_idx | with_reducible apply X_slc01 | with_reducible apply X_bi) | (with_reducible show Mx.run (evCs _ _ _) _ = _; first | with_reducible exact X_nil | with_reducible apply X_cons) | (with_reducible show Mx.run (evT _ _ _) _ = _; first | with_reducible apply T_val t_pk) | (with_reducible show Mx.run (sel _ _ _) _ = _; first | (with_reducible apply sel_t; focus (simp [hm, ll]; done))) | with_reducible exact SD1 | with_reducible exact W0 | with_reducible apply WS | with_reducible exact run_of dm | with_reducible exact run_of sA | with_reducible exact run_of sZ | with_reducible exact run_of sL | with_reducible exact run_of a1 | with_reducible exact run_of a2 | with_reducible exact run_of kx | with_reducible apply A2 | with_reducible exact pure_ok _ | (with_reducible apply run_of; simp [hm, ll]; first | done | exact rfl) | (simp [frC, D.isC, D.isL, LINE, hm, ll]; done)))
        · apply L_step
          · (repeat' (first | (with_reducible show List.set _ _ _ = _; first | with_reducible exact Z0 | with_reducible apply ZS) | with_reducible apply A1))
          · rw [b4_law_part, r3_law_part]
            (repeat' (first | (with_reducible show _[_]? = _; first | with_reducible exact G0 | with_reducible apply GS) | (with_reducible show List.set _ _ _ = _; first | with_reducible exact Z0 | with_reducible apply ZS) | (with_reducible show Mx.run (thn _ _) _ = _; first | with_reducible apply K_set | with_reducible apply K_ite | with_reducible apply K_kill | with_reducible apply K_nil | with_reducible apply K_unp | with_reducible apply K_app) | (with_reducible show Mx.run (evE _ _ _) _ = _; first | with_reducible exact X_int | with_reducible exact X_str | with_reducible apply X_var | with_reducible apply X_pkv | with_reducible apply X_bin | with_reducible apply X_tup | with_reducible apply X_lst | with_reducible apply X_idx | with_reducible apply X_slc01 | with_reducible apply X_bi) | (with_reducible show Mx.run (evCs _ _ _) _ = _; first | with_reducible exact X_nil | with_reducible apply X_cons) | (with_reducible show Mx.run (evT _ _ _) _ = _; first | with_reducible apply T_val t_pk) | (with_reducible show Mx.run (sel _ _ _) _ = _; first | (with_reducible apply sel_t; focus (simp [hm, ll]; done))) | with_reducible exact SD1 | with_reducible exact W0 | with_reducible apply WS | with_reducible exact run_of dm | with_reducible exact run_of sA | with_reducible exact run_of sZ | with_reducible exact run_of sL | with_reducible exact run_of a1 | with_reducible exact run_of a2 | with_reducible exact run_of kx | with_reducible apply A2 | with_reducible exact pure_ok _ | (with_reducible apply run_of; simp [hm, ll]; first | done | exact rfl) | (simp [frC, D.isC, D.isL, LINE, hm, ll]; done)))
    · intro j p hp
      by_cases q : j < nm.length
      · rw [List.getElem?_append_left q] at hp
        exact h2 j p hp
      · have lj := (List.getElem?_eq_some_iff.mp hp).1
        simp at lj
        have : j = nm.length := by omega
        subst this
        simp at hp
        subst hp
        exact ⟨w, m, by rw [hS, h1]⟩
    · intro dr p hp
      rcases List.mem_append.mp hp with q | q
      · exact h3 dr p q
      · rw [List.mem_singleton] at q
        subst q
        show b = true
        rw [hb, dr]
        rfl)
  exact ⟨nm, c, s7, e, h1, h2, h3, h4⟩
@[simp] theorem str_beq {a b : String} : (Str.ofString a == Str.ofString b) = decide (a = b) := by
  by_cases h : a = b
  · subst h; simp
  · rw [decide_eq_false h]
    exact beq_eq_false_iff_ne.mpr fun q => h (str_inj.mp q)
section
variable {T : Tb} {n k : Nat} {c f m g : Str} {fs : List (Str × D)} {gs : List Str} {d x : D} {h h1 : HP} {rest : HP} {xs : List D} {S : RS} {as : Cs}
theorem H_fld (e : h[k]? = some (.inst c fs)) (i : T.ins c = some gs) (q : gs.contains f = true) (l : fs.lookup f = some d) : (fldM (T.cfg n) f (.obj k)).run h = .ok d h := by
  show objFld (T.cfg n) f k h = _
  unfold objFld
  simp only [e]
  show (match T.ins c with | some gs => _ | none => _) = _
  rw [i]
  simp only [q, if_true, l]
  rfl
theorem H_fset (e : h[k]? = some (.inst c fs)) (i : T.ins c = some gs) (q : gs.contains f = true) (l : fs.length < 1000) : (fsetM (T.cfg n) f (.obj k) d).run h = .ok () (h.set k (.inst c (putFD f d fs))) := by
  show fsetM (T.cfg n) f (.obj k) d h = _
  unfold fsetM
  simp only [e]
  show (match T.ins c with | some gs => _ | none => _) = _
  rw [i]
  simp only [q, l, decide_true, Bool.and_self, if_true]
theorem I_at : (h ++ Ob.inst c fs :: rest)[h.length]? = some (.inst c fs) := by
  rw [List.getElem?_append_right (Nat.le_refl _)]; simp
theorem I_fset (i : T.ins c = some gs) (q : gs.contains f = true) (l : fs.length < 1000) : (fsetM (T.cfg n) f (.obj h.length) d).run (h ++ Ob.inst c fs :: rest) = .ok () (h ++ Ob.inst c (putFD f d fs) :: rest) := by
  rw [H_fset I_at i q l, List.set_append_right _ _ (Nat.le_refl _), Nat.sub_self]
  rfl
theorem I_fsetN (i : T.ins c = some gs) (q : gs.contains f = true) (l : fs.length < 1000) : (fsetM (T.cfg n) f (.obj h.length) (.obj (h ++ Ob.inst c fs :: rest).length)).run ((h ++ Ob.inst c fs :: rest) ++ [Ob.lst []]) = .ok () (h ++ Ob.inst c (putFD f (.obj (h.length + (rest.length + 1))) fs) :: (rest ++ [Ob.lst []])) := by
  rw [List.append_assoc, List.cons_append, List.length_append, List.length_cons]
  exact I_fset i q l
theorem rai_run {cls : Str} {ds : List D} (x : T.xfs cls = some []) (e : (evCs (T.cfg n) as S).run h = .ok ds h1) (l : ds.length ≤ LINE) : (evS (T.cfg n) (.rai cls as) S).run h = .exc (.xn cls [], S) h1 := by
  show evS (T.cfg n) (.rai cls as) S h = _
  rw [evS]
  have g : mkG (T.cfg n) cls = 1 := by
    unfold mkG
    show (match T.xfs cls with | some [] => 1 | some (_ :: _) => _ | none => 0) = 1
    rw [x]
  unfold raiG
  rw [g, if_pos (by decide), bind_ok (at_run e)]
  have mk : mkX (T.cfg n) cls ds = some (.xn cls []) := by
    unfold mkX
    show (match T.xfs cls with | some fs => (if (fs = [] ∧ ds.length ≤ LINE) ∨ (fs ≠ [] ∧ ds.length = fs.length ∧ ds.length ≤ 100) then some (D.xn cls (fs.zip ds).reverse) else none) | none => none) = _
    rw [x]
    simp [l]
  unfold raiS
  rw [mk]
  rfl
end
theorem pure_of {ε α : Type} {m : Mx ε α} {a : α} (e : ∀ h, m.run h = .ok a h) : m = .pure a := funext e
/-- a loop that raises -/
theorem for_excL {f : D → RS → MS Fl} {y : D} {h : HP} (emb : Sl → RS) : ∀ (xs : List D) (v : Sl), (∀ x ∈ xs, ∀ v, (∃ v', (f x (emb v)).run h = .ok (.nx (emb v')) h) ∨ ∃ s1, (f x (emb v)).run h = .exc (y, s1) h) → (∃ x ∈ xs, ∀ v, ∃ s1, (f x (emb v)).run h = .exc (y, s1) h) → ∃ s1, (forL f xs (emb v)).run h = .exc (y, s1) h
  | [], v, _, ⟨x, hx, _⟩ => by cases hx
  | x :: xs, v, hs, he => by
    rcases hs x List.mem_cons_self v with ⟨v', e⟩ | ⟨s1, e⟩
    · obtain ⟨z, hz, hez⟩ := he
      rcases List.mem_cons.mp hz with rfl | hz
      · obtain ⟨s1, e2⟩ := hez v
        rw [e] at e2
        cases e2
      · obtain ⟨s1, e2⟩ := for_excL emb xs v' (fun y hy => hs y (List.mem_cons_of_mem _ hy)) ⟨z, hz, hez⟩
        exact ⟨s1, L_nx e e2⟩
    · refine ⟨s1, ?_⟩
      show forL f (x :: xs) (emb v) h = _
      rw [forL]
      exact bind_exc e
theorem zip_map {α β : Type} (f : α → D) (g : β → D) : ∀ (a : List α) (b : List β), zipD (a.map f) (b.map g) = (a.zip b).map fun q => .tup [f q.1, g q.2]
  | [], _ => rfl
  | _ :: _, [] => rfl
  | x :: a, y :: b => by simp only [List.map_cons, List.zip_cons_cons, zipD, zip_map f g a b]
section
variable {α : Type} {f : D → RS → MS Fl}
theorem for_find (h : α → D) (P : α → Bool) (r : α → D) (s : RS) : ∀ (xs : List α), (∀ x ∈ xs, P x = false → f (h x) s = .pure (.nx s)) → (∀ x ∈ xs, P x = true → f (h x) s = .pure (.rt (r x) false)) → forL f (xs.map h) s = match xs.find? P with | some x => .pure (.rt (r x) false) | none => .pure (.nx s)
  | [], _, _ => rfl
  | x :: xs, h1, h2 => by
    rw [List.map_cons, forL]
    have ih := for_find h P r s xs (fun y hy => h1 y (List.mem_cons_of_mem _ hy)) fun y hy => h2 y (List.mem_cons_of_mem _ hy)
    cases q : P x with
    | false => rw [h1 x List.mem_cons_self q, Mx.pure_bind, List.find?_cons_of_neg (by simp [q])]; exact ih
    | true => rw [h2 x List.mem_cons_self q, Mx.pure_bind, List.find?_cons_of_pos q]
end
theorem kd_eq (b : Bool) : cmpM .Eq (k6D b) (.tup [.str "number"]) = .pure b := by
  have e := cmp_kk (if b then KK.num else .whole 1) KK.num
  have h1 : (if b then KK.num else .whole 1).d = k6D b := by cases b <;> rfl
  rw [h1] at e
  cases b <;> exact e
theorem kd_ne (b : Bool) : cmpM .NotEq (k6D b) (.tup [.str "number"]) = .pure (!b) := by
  have e := cmp_nkk (if b then KK.num else .whole 1) KK.num
  have h1 : (if b then KK.num else .whole 1).d = k6D b := by cases b <;> rfl
  rw [h1] at e
  cases b <;> exact e
theorem gv_ne (b : Bool) : cmpM .NotEq (if b then k6N else k6W 0) (.tup [.str "number"]) = .pure (!b) := by
  have e := cmp_nkk (if b then KK.num else .whole 0) KK.num
  have h1 : (if b then KK.num else .whole 0).d = (if b then k6N else k6W 0) := by cases b <;> rfl
  rw [h1] at e
  cases b <;> exact e
theorem nm_sok {nm : List (Str × Bool)} (h : NmOk nm) (hl : nm.length ≤ 20) : ∀ p ∈ nm, PyData.strOk p.1 = true := fun p hp => by
  obtain ⟨i, hi⟩ := List.getElem?_of_mem hp
  obtain ⟨w, m, e⟩ := h i p hi
  have := (List.getElem?_eq_some_iff.mp hi).1
  rw [e]
  exact nm_ok w i m (by omega)
theorem ne_nil (x : D) (xs : List D) (h : okDs 2 (x :: xs) = true) : cmpM .NotEq (.lst (x :: xs)) (.lst []) = .pure true := by
  refine cmp_of (fun _ z => (by cases z)) (fun _ z => (by cases z)) ?_
  show (eqD _ _).map (!·) = _
  rw [eqv_cmp (n := 3) (by decide) (show okD 3 (.lst (x :: xs)) = true from h) rfl (.inl rfl)]
  rfl
theorem nil_ne : cmpM .NotEq (.lst []) (.lst []) = .pure false := ne_lst (n := 2) (by decide) rfl
theorem part_end (n : Nat) (c : Int) (door : Bool) (nm : List (Str × Bool)) (an : An) (x5 s6 s7 : Sl) (way : Int) {h : HP} : (evSs (tb.cfg n) r0_law_part [.val (.int c), .val (.bl door), .val (.lst (nm.map n6D)), .un, .val an.d, x5, s6, s7, .val (.int way), .un]).run h = .ok (.rt (P6.d ⟨nm, !(decide (way = 0) && !door), an⟩) false) h := by
  obtain ⟨ND, hND⟩ : ∃ ND, ND = nm.map n6D := ⟨_, rfl⟩
  obtain ⟨AD, hAD⟩ : ∃ AD, AD = an.d := ⟨_, rfl⟩
  unfold P6.d
  dsimp only
  rw [← hND, ← hAD]
  apply K_run
  rw [r0_law_part]
  by_cases w : way = 0
  · cases door with
    | false =>
      rw [decide_eq_true w]
      show Mx.run _ h = Re.ok (Fl.rt (D.tup [.lst ND, .tup [.str "whole", .int 0], .lst [], .tup [.str "new", .int 1, .lst [AD]]]) false) h
      (repeat' (first | (with_reducible show _[_]? = _; first | with_reducible exact G0 | with_reducible apply GS) | (with_reducible show Mx.run (thn _ _) _ = _; first | with_reducible apply K_ite | with_reducible refine K_ret rfl ?_) | (with_reducible show Mx.run (evE _ _ _) _ = _; first | with_reducible exact X_int | with_reducible exact X_str | with_reducible apply X_var | with_reducible apply X_pkv | with_reducible apply X_tup | with_reducible apply X_lst) | (with_reducible show Mx.run (evCs _ _ _) _ = _; first | with_reducible exact X_nil | with_reducible apply X_cons) | (with_reducible show Mx.run (evT _ _ _) _ = _; first | with_reducible apply T_cmp | with_reducible apply T_not | with_reducible apply T_and | with_reducible apply T_val t_pk) | (with_reducible show Mx.run (sel _ _ _) _ = _; first | (with_reducible apply sel_t; focus (simp [w]; done))) | with_reducible exact SD1 | with_reducible apply T_and1 | with_reducible apply T_andS | (with_reducible apply run_of; simp [w]; first | done | exact rfl) | (simp [frC, D.isC, D.isL, LINE, w]; done)))
    | true =>
      rw [decide_eq_true w]
      show Mx.run _ h = Re.ok (Fl.rt (D.tup [.lst ND, .tup [.str "number"], .lst [], AD]) false) h
      (repeat' (first | (with_reducible show _[_]? = _; first | with_reducible exact G0 | with_reducible apply GS) | (with_reducible show Mx.run (thn _ _) _ = _; first | with_reducible apply K_ite | with_reducible refine K_ret rfl ?_ | with_reducible apply K_nil) | (with_reducible show Mx.run (evE _ _ _) _ = _; first | with_reducible exact X_int | with_reducible exact X_str | with_reducible apply X_var | with_reducible apply X_pkv | with_reducible apply X_tup | with_reducible apply X_lst) | (with_reducible show Mx.run (evCs _ _ _) _ = _; first | with_reducible exact X_nil | with_reducible apply X_cons) | (with_reducible show Mx.run (evT _ _ _) _ = _; first | with_reducible apply T_cmp | with_reducible apply T_not | with_reducible apply T_and | with_reducible apply T_val t_pk) | (with_reducible show Mx.run (sel _ _ _) _ = _; first | (with_reducible apply sel_t; focus (simp [w]; done)) | (with_reducible apply sel_f; focus (simp [w]; done))) | with_reducible exact SD1 | with_reducible apply T_and1 | with_reducible apply T_andS | (with_reducible apply run_of; simp [w]; first | done | exact rfl) | (simp [frC, D.isC, D.isL, LINE, w]; done)))
  · rw [decide_eq_false w]
    show Mx.run _ h = Re.ok (Fl.rt (D.tup [.lst ND, .tup [.str "number"], .lst [], AD]) false) h
    (repeat' (first | (with_reducible show _[_]? = _; first | with_reducible exact G0 | with_reducible apply GS) | (with_reducible show Mx.run (thn _ _) _ = _; first | with_reducible apply K_ite | with_reducible refine K_ret rfl ?_ | with_reducible apply K_nil) | (with_reducible show Mx.run (evE _ _ _) _ = _; first | with_reducible exact X_int | with_reducible exact X_str | with_reducible apply X_var | with_reducible apply X_pkv | with_reducible apply X_tup | with_reducible apply X_lst) | (with_reducible show Mx.run (evCs _ _ _) _ = _; first | with_reducible exact X_nil | with_reducible apply X_cons) | (with_reducible show Mx.run (evT _ _ _) _ = _; first | with_reducible apply T_cmp | with_reducible apply T_and) | (with_reducible show Mx.run (sel _ _ _) _ = _; first | (with_reducible apply sel_f; focus (simp [w]; done))) | with_reducible exact SD1 | with_reducible apply T_andS | with_reducible exact pure_ok _ | (with_reducible apply run_of; simp [w]; first | done | exact rfl) | (simp [frC, D.isC, D.isL, LINE, w]; done)))
theorem v_part6 (n : Nat) (z : Int) (door : Bool) {h : HP} : ∃ p : P6, (callF tb (n + 2) "_law_part" [.int z, .bl door]).run h = .ok p.d h ∧ p.ok ∧ (door = true → p.gv = true ∧ ∀ q ∈ p.nm, q.2 = true) := by
  have d5 := dm_ok z (b := 5) (by decide) (by decide)
  obtain ⟨c1, hc1⟩ : ∃ y : Int, y = z / 5 := ⟨_, rfl⟩
  obtain ⟨m5, hm5, hm5'⟩ := mod_nat z (by decide : 0 < 5)
  have hm5 : z % 5 = (m5 : Int) := hm5
  rw [← hc1, hm5] at d5
  obtain ⟨m9, hm9, hm9'⟩ := mod_nat (c1 / 7) (by decide : 0 < 9)
  have hm9 : c1 / 7 % 9 = (m9 : Int) := hm9
  obtain ⟨M, hM⟩ : ∃ M : Nat, M = if c1 % 7 = 3 then 20 - m9 else m5 := ⟨_, rfl⟩
  have hM20 : M ≤ 20 := by rw [hM]; split <;> omega
  obtain ⟨nm, c, s7, lp, hl, ho, hd, hs7⟩ := names_loop (h := h) (n + 1) door .un .un .un .un M hM20 c1 .un rfl
  have rg := rgN (k := M) (by omega)
  have d3 := dm_ok c (b := 3) (by decide) (by decide)
  obtain ⟨c2, hc2⟩ : ∃ y : Int, y = c / 3 := ⟨_, rfl⟩
  obtain ⟨wy, hwy⟩ : ∃ y : Int, y = c % 3 := ⟨_, rfl⟩
  rw [← hc2, ← hwy] at d3
  obtain ⟨w, ew⟩ := v_word60 n c2 (h := h)
  -- the names of numbers
  have lcF := lc_filH (h := h) (f := lcStep [.val (.int c2), .val (.bl door), .val (.lst (nm.map n6D)), .un, .val (An.num w).d, .un, .val (.int (M : Int)), .un, .val (.int wy), .un] (.tp [9, 7]) (evOcT (tb.cfg (n + 1)) (.so c1_law_part)) (evE (tb.cfg (n + 1)) e2_law_part)) n6D (fun p => p.2) (fun p => .str p.1) nm [] (fun p hp => by
    have ke := kd_eq p.2
    obtain ⟨KD, hKD⟩ : ∃ KD, KD = k6D p.2 := ⟨_, rfl⟩
    rw [n6D, ← hKD]
    rw [← hKD] at ke
    cases q : p.2 with
    | true =>
      rw [q] at ke
      rw [if_pos rfl]
      refine L_lcT (h1 := h) (p := true) (s3 := [.val (.int c2), .val (.bl door), .val (.lst (nm.map n6D)), .un, .val (An.num w).d, .un, .val (.int (M : Int)), .val KD, .val (.int wy), .val (.str p.1)]) rfl ?_ rfl ?_
      · rw [c1_law_part]
        (repeat' (first | (with_reducible show _[_]? = _; first | with_reducible exact G0 | with_reducible apply GS) | (with_reducible show Mx.run (evE _ _ _) _ = _; first | with_reducible exact X_str | with_reducible apply X_pkv | with_reducible apply X_tup) | (with_reducible show Mx.run (evCs _ _ _) _ = _; first | with_reducible exact X_nil | with_reducible apply X_cons) | (with_reducible show Mx.run (evT _ _ _) _ = _; first | with_reducible apply T_cmp) | with_reducible exact SD1 | with_reducible exact run_of ke | (simp [frC, D.isC, D.isL, LINE]; done)))
      · rw [e2_law_part]
        (repeat' (first | (with_reducible show _[_]? = _; first | with_reducible exact G0 | with_reducible apply GS) | (with_reducible show Mx.run (evE _ _ _) _ = _; first | with_reducible apply X_var)))
    | false =>
      rw [q] at ke
      rw [if_neg (by simp)]
      refine L_lcF (h1 := h) (p := false) (s3 := [.val (.int c2), .val (.bl door), .val (.lst (nm.map n6D)), .un, .val (An.num w).d, .un, .val (.int (M : Int)), .val KD, .val (.int wy), .val (.str p.1)]) rfl ?_ rfl
      rw [c1_law_part]
      (repeat' (first | (with_reducible show _[_]? = _; first | with_reducible exact G0 | with_reducible apply GS) | (with_reducible show Mx.run (evE _ _ _) _ = _; first | with_reducible exact X_str | with_reducible apply X_pkv | with_reducible apply X_tup) | (with_reducible show Mx.run (evCs _ _ _) _ = _; first | with_reducible exact X_nil | with_reducible apply X_cons) | (with_reducible show Mx.run (evT _ _ _) _ = _; first | with_reducible apply T_cmp) | with_reducible exact SD1 | with_reducible exact run_of ke | (simp [frC, D.isC, D.isL, LINE]; done))))
  rw [List.nil_append] at lcF
  obtain ⟨sm, hsm⟩ : ∃ sm, sm = (nm.filter fun p => p.2).map fun p => D.str p.1 := ⟨_, rfl⟩
  rw [← hsm] at lcF
  have sml : sm.length ≤ 20 := by rw [hsm, List.length_map]; exact Nat.le_trans (List.length_filter_le _ _) (by omega)
  have sok : okDs 2 sm = true := okDs_all fun d hd => by
    rw [hsm] at hd
    obtain ⟨p, hp, rfl⟩ := List.mem_map.mp hd
    exact nm_sok ho (by omega) p (List.mem_filter.mp hp).1
  have lcE : (evE (tb.cfg (n + 1)) (.lc e2_law_part (.tp [9, 7]) (.seq (.var 2)) (.so c1_law_part)) [.val (.int c2), .val (.bl door), .val (.lst (nm.map n6D)), .un, .val (An.num w).d, .un, .val (.int (M : Int)), s7, .val (.int wy), .un]).run h = .ok (.lst sm) h := by
    rcases hs7 with rfl | ⟨d, rfl⟩
    · refine X_lc (xs := nm.map n6D) ?_ rfl rfl (by simp [LINE]; omega) lcF
      exact I_seq (X_var rfl) rfl
    · refine X_lc (xs := nm.map n6D) ?_ rfl rfl (by simp [LINE]; omega) lcF
      exact I_seq (X_var rfl) rfl
  have r0 := fun an s5 => part_end (n + 1) c2 door nm an s5 (.val (.int (M : Int))) s7 wy (h := h)
  have fin : ∀ an, (∀ x, an = An.var x → (x, true) ∈ nm) → P6.ok ⟨nm, !(decide (wy = 0) && !door), an⟩ ∧ (door = true → (!(decide (wy = 0) && !door)) = true ∧ ∀ q ∈ nm, q.2 = true) := fun an ha =>
    ⟨⟨by show nm.length ≤ 20; omega, ho, ha⟩, fun dr => ⟨by rw [dr]; simp, hd dr⟩⟩
  have key : ∃ an, (∀ x, an = An.var x → (x, true) ∈ nm) ∧ (callF tb (n + 2) "_law_part" [.int z, .bl door]).run h = .ok (P6.d ⟨nm, !(decide (wy = 0) && !door), an⟩) h := by
    rw [callF_succ tb__law_part]
    obtain ⟨ND, hND⟩ : ∃ ND, ND = nm.map n6D := ⟨_, rfl⟩
    rw [← hND] at lp lcE r0
    obtain ⟨RG, hRG⟩ : ∃ RG, RG = (List.range M).map fun j : Nat => D.int (j : Int) := ⟨_, rfl⟩
    rw [← hRG] at lp rg
    have lcE : (evE (tb.cfg (n + 1)) (.lc e2_law_part (.tp [9, 7]) (.seq (.var 2)) (.so c1_law_part)) [.val (.int c2), .val (.bl door), .val (.lst ND), .un, .val (.tup [.str "num", .int w]), .un, .val (.int (M : Int)), s7, .val (.int wy), .un]).run h = .ok (.lst sm) h := lcE
    obtain ⟨MI, hMI⟩ : ∃ MI : Int, MI = (M : Int) := ⟨_, rfl⟩
    rw [← hMI] at rg lp lcE r0
    have run : ∀ (an : An) (PD : D), PD = P6.d ⟨nm, !(decide (wy = 0) && !door), an⟩ → (∀ sb5 : binM .Sub (.int 20) (.int (m9 : Int)) = .pure (.int MI), c1 % 7 = 3 → (runF (tb.cfg (n + 1)) f_law_part [.int z, .bl door]).run h = .ok PD h) → (¬ c1 % 7 = 3 → biM "divmod" [.int z, .int 5] = .pure (.tup [.int c1, .int MI]) → (runF (tb.cfg (n + 1)) f_law_part [.int z, .bl door]).run h = .ok PD h) → (runF (tb.cfg (n + 1)) f_law_part [.int z, .bl door]).run h = .ok (P6.d ⟨nm, !(decide (wy = 0) && !door), an⟩) h := by
      intro an PD e a b
      rw [← e]
      by_cases c7 : c1 % 7 = 3
      · rw [if_pos c7] at hM
        exact a (by rw [bm2, hMI, hM]; congr 2; omega) c7
      · rw [if_neg c7] at hM
        rw [← hM, ← hMI] at d5
        exact b c7 d5
    by_cases se : sm = []
    · refine ⟨.num w, fun x e => (by cases e), run _ _ rfl ?_ ?_⟩
      all_goals
        have nn := nil_ne
        have r0 := r0 (.num w) (.val (.lst sm))
        obtain ⟨PD, hPD⟩ : ∃ PD, PD = P6.d ⟨nm, !(decide (wy = 0) && !door), .num w⟩ := ⟨_, rfl⟩
        rw [← hPD] at r0 ⊢
        have r0 : (evSs (tb.cfg (n + 1)) r0_law_part [.val (.int c2), .val (.bl door), .val (.lst ND), .un, .val (.tup [.str "num", .int w]), .val (.lst sm), .val (.int MI), s7, .val (.int wy), .un]).run h = .ok (.rt PD false) h := r0
        subst se
      · intro sb c7
        refine F_rt rfl ?_; simp only [List.length, Nat.reduceAdd, Nat.reduceSub, Nat.sub_self, List.replicate, List.map_cons, List.map_nil, List.cons_append, List.nil_append, f_law_part, r5_law_part]
        (repeat' (first | with_reducible exact lcE | with_reducible apply (thn_rt r0) | (with_reducible show _[_]? = _; first | with_reducible exact G0 | with_reducible apply GS) | (with_reducible show List.set _ _ _ = _; first | with_reducible exact Z0 | with_reducible apply ZS) | (with_reducible show Mx.run (thn _ _) _ = _; first | with_reducible apply K_set | with_reducible apply K_ite | with_reducible apply K_nil | with_reducible apply K_for | with_reducible apply K_unp | with_reducible apply K_seto | with_reducible apply K_frz) | (with_reducible show Mx.run (evE _ _ _) _ = _; first | with_reducible exact X_int | with_reducible exact X_str | with_reducible apply X_var | with_reducible apply X_pkv | with_reducible apply X_bin | with_reducible apply X_tup | with_reducible apply X_lst | with_reducible apply X_call | with_reducible apply X_bi) | (with_reducible show Mx.run (evCs _ _ _) _ = _; first | with_reducible exact X_nil | with_reducible apply X_cons) | (with_reducible show Mx.run (evT _ _ _) _ = _; first | with_reducible apply T_cmp | with_reducible apply T_and) | (with_reducible show Mx.run (evIt _ _ _) _ = _; first | with_reducible apply I_rng) | (with_reducible show Mx.run (thnF _ _) _ = _; first | with_reducible apply N_nx) | (with_reducible show Mx.run (sel _ _ _) _ = _; first | (with_reducible apply sel_t; focus (simp [c7, hm9]; done)) | (with_reducible apply sel_f; focus (simp [c7, hm9]; done))) | with_reducible exact SD1 | with_reducible exact run_of d5 | with_reducible exact run_of d3 | with_reducible exact rg | with_reducible exact lp | with_reducible exact ew | with_reducible exact run_of sb | with_reducible exact run_of nn | with_reducible apply A2 | with_reducible apply T_andS | with_reducible exact pure_ok _ | (with_reducible apply run_of; simp [c7, hm9]; first | done | exact rfl) | (simp [frC, D.isC, D.isL, LINE, c7, hm9]; done)))
      · intro c7 d5
        refine F_rt rfl ?_; simp only [List.length, Nat.reduceAdd, Nat.reduceSub, Nat.sub_self, List.replicate, List.map_cons, List.map_nil, List.cons_append, List.nil_append, f_law_part, r5_law_part]
        (repeat' (first | with_reducible exact lcE | with_reducible apply (thn_rt r0) | (with_reducible show _[_]? = _; first | with_reducible exact G0 | with_reducible apply GS) | (with_reducible show List.set _ _ _ = _; first | with_reducible exact Z0 | with_reducible apply ZS) | (with_reducible show Mx.run (thn _ _) _ = _; first | with_reducible apply K_set | with_reducible apply K_ite | with_reducible apply K_nil | with_reducible apply K_for | with_reducible apply K_unp | with_reducible apply K_seto | with_reducible apply K_frz) | (with_reducible show Mx.run (evE _ _ _) _ = _; first | with_reducible exact X_int | with_reducible exact X_str | with_reducible apply X_var | with_reducible apply X_pkv | with_reducible apply X_bin | with_reducible apply X_tup | with_reducible apply X_lst | with_reducible apply X_call | with_reducible apply X_bi) | (with_reducible show Mx.run (evCs _ _ _) _ = _; first | with_reducible exact X_nil | with_reducible apply X_cons) | (with_reducible show Mx.run (evT _ _ _) _ = _; first | with_reducible apply T_cmp | with_reducible apply T_and) | (with_reducible show Mx.run (evIt _ _ _) _ = _; first | with_reducible apply I_rng) | (with_reducible show Mx.run (thnF _ _) _ = _; first | with_reducible apply N_nx) | (with_reducible show Mx.run (sel _ _ _) _ = _; first | (with_reducible apply sel_f; focus (simp [c7]; done))) | with_reducible exact SD1 | with_reducible exact run_of d5 | with_reducible exact run_of d3 | with_reducible exact rg | with_reducible exact lp | with_reducible exact ew | with_reducible exact run_of nn | with_reducible apply A2 | with_reducible apply T_andS | with_reducible exact pure_ok _ | (with_reducible apply run_of; simp [c7]; first | done | exact rfl) | (simp [frC, D.isC, D.isL, LINE, c7]; done)))
    · obtain ⟨x, xs, se⟩ : ∃ x xs, sm = x :: xs := by
        cases sm with
        | nil => exact absurd rfl se
        | cons x xs => exact ⟨x, xs, rfl⟩
      have nn := ne_nil x xs (by rw [← se]; exact sok)
      rw [← se] at nn
      by_cases c4 : 0 < c2 % 4
      · obtain ⟨j, hj, hj2⟩ := mod_nat (c2 / 4) (show 0 < sm.length by rw [se]; simp)
        have ln : biM "len" [.lst sm] = .pure (.int (sm.length : Int)) := bi1 sm
        have mo : binM .Mod (.int (c2 / 4)) (.int (sm.length : Int)) = .pure (.int (j : Int)) := by rw [bm5 _ _ (by omega), hj]
        obtain ⟨p, hp, hpx⟩ : ∃ p ∈ nm, p.2 = true ∧ sm[j]? = some (D.str p.1) := by
          have hm := List.getElem_mem hj2
          obtain ⟨p, hp, e⟩ : ∃ p ∈ nm.filter (fun p => p.2), D.str p.1 = sm[j] := by
            have : sm[j] ∈ (nm.filter fun p => p.2).map fun p => D.str p.1 := hsm ▸ hm
            obtain ⟨p, hp, e⟩ := List.mem_map.mp this
            exact ⟨p, hp, e⟩
          exact ⟨p, (List.mem_filter.mp hp).1, by simpa using (List.mem_filter.mp hp).2, by rw [List.getElem?_eq_getElem hj2, e]⟩
        have ix : idxM (.lst sm) (.int (j : Int)) = .pure (.str p.1) := ixL (atI_nat hpx.2)
        obtain ⟨LN, hLN⟩ : ∃ LN : Int, LN = (sm.length : Int) := ⟨_, rfl⟩
        rw [← hLN] at ln mo
        obtain ⟨jj, hjj⟩ : ∃ jj : Int, jj = (j : Int) := ⟨_, rfl⟩
        rw [← hjj] at mo ix
        refine ⟨.var p.1, fun x e => (by cases e; rw [← hpx.1]; exact hp), run _ _ rfl ?_ ?_⟩
        all_goals
          have r0 := r0 (.var p.1) (.val (.lst sm))
          obtain ⟨PD, hPD⟩ : ∃ PD, PD = P6.d ⟨nm, !(decide (wy = 0) && !door), .var p.1⟩ := ⟨_, rfl⟩
          rw [← hPD] at r0 ⊢
          have r0 : (evSs (tb.cfg (n + 1)) r0_law_part [.val (.int c2), .val (.bl door), .val (.lst ND), .un, .val (.tup [.str "var", .str p.1]), .val (.lst sm), .val (.int MI), s7, .val (.int wy), .un]).run h = .ok (.rt PD false) h := r0
        · intro sb c7
          refine F_rt rfl ?_; simp only [List.length, Nat.reduceAdd, Nat.reduceSub, Nat.sub_self, List.replicate, List.map_cons, List.map_nil, List.cons_append, List.nil_append, f_law_part, r5_law_part]
          (repeat' (first | with_reducible exact lcE | with_reducible apply (thn_rt r0) | (with_reducible show _[_]? = _; first | with_reducible exact G0 | with_reducible apply GS) | (with_reducible show List.set _ _ _ = _; first | with_reducible exact Z0 | with_reducible apply ZS) | (with_reducible show Mx.run (thn _ _) _ = _; first | with_reducible apply K_set | with_reducible apply K_ite | with_reducible apply K_nil | with_reducible apply K_for | with_reducible apply K_unp | with_reducible apply K_seto | with_reducible apply K_frz) | (with_reducible show Mx.run (evE _ _ _) _ = _; first | with_reducible exact X_int | with_reducible exact X_str | with_reducible apply X_var | with_reducible apply X_pkv | with_reducible apply X_bin | with_reducible apply X_tup | with_reducible apply X_lst | with_reducible apply X_idx | with_reducible apply X_call | with_reducible apply X_bi) | (with_reducible show Mx.run (evCs _ _ _) _ = _; first | with_reducible exact X_nil | with_reducible apply X_cons) | (with_reducible show Mx.run (evT _ _ _) _ = _; first | with_reducible apply T_cmp | with_reducible apply T_and) | (with_reducible show Mx.run (evIt _ _ _) _ = _; first | with_reducible apply I_rng) | (with_reducible show Mx.run (thnF _ _) _ = _; first | with_reducible apply N_nx) | (with_reducible show Mx.run (sel _ _ _) _ = _; first | (with_reducible apply sel_t; focus (simp [c7, hm9, c4]; done))) | with_reducible exact SD1 | with_reducible exact run_of d5 | with_reducible exact run_of d3 | with_reducible exact rg | with_reducible exact lp | with_reducible exact ew | with_reducible exact run_of sb | with_reducible exact run_of nn | with_reducible exact run_of ln | with_reducible exact run_of mo | with_reducible exact run_of ix | with_reducible apply A2 | with_reducible apply T_and1 | with_reducible apply T_andS | (with_reducible apply run_of; simp [c7, hm9, c4]; first | done | exact rfl) | (simp [frC, D.isC, D.isL, LINE, c7, hm9, c4]; done)))
        · intro c7 d5
          refine F_rt rfl ?_; simp only [List.length, Nat.reduceAdd, Nat.reduceSub, Nat.sub_self, List.replicate, List.map_cons, List.map_nil, List.cons_append, List.nil_append, f_law_part, r5_law_part]
          (repeat' (first | with_reducible exact lcE | with_reducible apply (thn_rt r0) | (with_reducible show _[_]? = _; first | with_reducible exact G0 | with_reducible apply GS) | (with_reducible show List.set _ _ _ = _; first | with_reducible exact Z0 | with_reducible apply ZS) | (with_reducible show Mx.run (thn _ _) _ = _; first | with_reducible apply K_set | with_reducible apply K_ite | with_reducible apply K_nil | with_reducible apply K_for | with_reducible apply K_unp | with_reducible apply K_seto | with_reducible apply K_frz) | (with_reducible show Mx.run (evE _ _ _) _ = _; first | with_reducible exact X_int | with_reducible exact X_str | with_reducible apply X_var | with_reducible apply X_pkv | with_reducible apply X_bin | with_reducible apply X_tup | with_reducible apply X_lst | with_reducible apply X_idx | with_reducible apply X_call | with_reducible apply X_bi) | (with_reducible show Mx.run (evCs _ _ _) _ = _; first | with_reducible exact X_nil | with_reducible apply X_cons) | (with_reducible show Mx.run (evT _ _ _) _ = _; first | with_reducible apply T_cmp | with_reducible apply T_and) | (with_reducible show Mx.run (evIt _ _ _) _ = _; first | with_reducible apply I_rng) | (with_reducible show Mx.run (thnF _ _) _ = _; first | with_reducible apply N_nx) | (with_reducible show Mx.run (sel _ _ _) _ = _; first | (with_reducible apply sel_t; focus (simp [c7, c4]; done)) | (with_reducible apply sel_f; focus (simp [c7, c4]; done))) | with_reducible exact SD1 | with_reducible exact run_of d5 | with_reducible exact run_of d3 | with_reducible exact rg | with_reducible exact lp | with_reducible exact ew | with_reducible exact run_of nn | with_reducible exact run_of ln | with_reducible exact run_of mo | with_reducible exact run_of ix | with_reducible apply A2 | with_reducible apply T_and1 | with_reducible apply T_andS | (with_reducible apply run_of; simp [c7, c4]; first | done | exact rfl) | (simp [frC, D.isC, D.isL, LINE, c7, c4]; done)))
      · refine ⟨.num w, fun x e => (by cases e), run _ _ rfl ?_ ?_⟩
        all_goals
          have r0 := r0 (.num w) (.val (.lst sm))
          obtain ⟨PD, hPD⟩ : ∃ PD, PD = P6.d ⟨nm, !(decide (wy = 0) && !door), .num w⟩ := ⟨_, rfl⟩
          rw [← hPD] at r0 ⊢
          have r0 : (evSs (tb.cfg (n + 1)) r0_law_part [.val (.int c2), .val (.bl door), .val (.lst ND), .un, .val (.tup [.str "num", .int w]), .val (.lst sm), .val (.int MI), s7, .val (.int wy), .un]).run h = .ok (.rt PD false) h := r0
        · intro sb c7
          refine F_rt rfl ?_; simp only [List.length, Nat.reduceAdd, Nat.reduceSub, Nat.sub_self, List.replicate, List.map_cons, List.map_nil, List.cons_append, List.nil_append, f_law_part, r5_law_part]
          (repeat' (first | with_reducible exact lcE | with_reducible apply (thn_rt r0) | (with_reducible show _[_]? = _; first | with_reducible exact G0 | with_reducible apply GS) | (with_reducible show List.set _ _ _ = _; first | with_reducible exact Z0 | with_reducible apply ZS) | (with_reducible show Mx.run (thn _ _) _ = _; first | with_reducible apply K_set | with_reducible apply K_ite | with_reducible apply K_nil | with_reducible apply K_for | with_reducible apply K_unp | with_reducible apply K_seto | with_reducible apply K_frz) | (with_reducible show Mx.run (evE _ _ _) _ = _; first | with_reducible exact X_int | with_reducible exact X_str | with_reducible apply X_var | with_reducible apply X_pkv | with_reducible apply X_bin | with_reducible apply X_tup | with_reducible apply X_lst | with_reducible apply X_call | with_reducible apply X_bi) | (with_reducible show Mx.run (evCs _ _ _) _ = _; first | with_reducible exact X_nil | with_reducible apply X_cons) | (with_reducible show Mx.run (evT _ _ _) _ = _; first | with_reducible apply T_cmp | with_reducible apply T_and) | (with_reducible show Mx.run (evIt _ _ _) _ = _; first | with_reducible apply I_rng) | (with_reducible show Mx.run (thnF _ _) _ = _; first | with_reducible apply N_nx) | (with_reducible show Mx.run (sel _ _ _) _ = _; first | (with_reducible apply sel_t; focus (simp [c7, hm9, c4]; done)) | (with_reducible apply sel_f; focus (simp [c7, hm9, c4]; done))) | with_reducible exact SD1 | with_reducible exact run_of d5 | with_reducible exact run_of d3 | with_reducible exact rg | with_reducible exact lp | with_reducible exact ew | with_reducible exact run_of sb | with_reducible exact run_of nn | with_reducible apply A2 | with_reducible apply T_and1 | with_reducible apply T_andS | (with_reducible apply run_of; simp [c7, hm9, c4]; first | done | exact rfl) | (simp [frC, D.isC, D.isL, LINE, c7, hm9, c4]; done)))
        · intro c7 d5
          refine F_rt rfl ?_; simp only [List.length, Nat.reduceAdd, Nat.reduceSub, Nat.sub_self, List.replicate, List.map_cons, List.map_nil, List.cons_append, List.nil_append, f_law_part, r5_law_part]
          (repeat' (first | with_reducible exact lcE | with_reducible apply (thn_rt r0) | (with_reducible show _[_]? = _; first | with_reducible exact G0 | with_reducible apply GS) | (with_reducible show List.set _ _ _ = _; first | with_reducible exact Z0 | with_reducible apply ZS) | (with_reducible show Mx.run (thn _ _) _ = _; first | with_reducible apply K_set | with_reducible apply K_ite | with_reducible apply K_nil | with_reducible apply K_for | with_reducible apply K_unp | with_reducible apply K_seto | with_reducible apply K_frz) | (with_reducible show Mx.run (evE _ _ _) _ = _; first | with_reducible exact X_int | with_reducible exact X_str | with_reducible apply X_var | with_reducible apply X_pkv | with_reducible apply X_bin | with_reducible apply X_tup | with_reducible apply X_lst | with_reducible apply X_call | with_reducible apply X_bi) | (with_reducible show Mx.run (evCs _ _ _) _ = _; first | with_reducible exact X_nil | with_reducible apply X_cons) | (with_reducible show Mx.run (evT _ _ _) _ = _; first | with_reducible apply T_cmp | with_reducible apply T_and) | (with_reducible show Mx.run (evIt _ _ _) _ = _; first | with_reducible apply I_rng) | (with_reducible show Mx.run (thnF _ _) _ = _; first | with_reducible apply N_nx) | (with_reducible show Mx.run (sel _ _ _) _ = _; first | (with_reducible apply sel_t; focus (simp [c7, c4]; done)) | (with_reducible apply sel_f; focus (simp [c7, c4]; done))) | with_reducible exact SD1 | with_reducible exact run_of d5 | with_reducible exact run_of d3 | with_reducible exact rg | with_reducible exact lp | with_reducible exact ew | with_reducible exact run_of nn | with_reducible apply A2 | with_reducible apply T_and1 | with_reducible apply T_andS | (with_reducible apply run_of; simp [c7, c4]; first | done | exact rfl) | (simp [frC, D.isC, D.isL, LINE, c7, c4]; done)))
  obtain ⟨an, ha, e⟩ := key
  exact ⟨_, e, (fin an ha).1, (fin an ha).2⟩
def dr6 (p : P6) (m : Nat) : Bool := p.nm.all (·.2) && p.gv && decide (m = p.nm.length)
def val6 (p : P6) (ins : List Int) : Option Int := match p.an with
  | .num w => some w
  | .var x => ((p.nm.zip ins).find? fun q => decide (q.1.1 = x)).map (·.2)
def duD (p : P6) (ins : List Int) : D := if dr6 p ins.length then (match val6 p ins with | some v => .int v | none => .non) else .non
theorem v_due6 (n : Nat) (p : P6) (hl : p.nm.length ≤ 20) (ins : List Int) {h : HP} : (callF tb (n + 1) "_law_due" [p.d, .lst (ins.map .int)]).run h = .ok (duD p ins) h := by
  obtain ⟨nm, gv, an⟩ := p
  dsimp only at hl
  obtain ⟨GD, hGD⟩ : ∃ GD, GD = (if gv then k6N else k6W 0) := ⟨_, rfl⟩
  obtain ⟨AD, hAD⟩ : ∃ AD, AD = (if gv then an.d else .tup [.str "new", .int 1, .lst [an.d]]) := ⟨_, rfl⟩
  have pd : P6.d ⟨nm, gv, an⟩ = .tup [.lst (nm.map n6D), GD, .lst [], AD] := by rw [hGD, hAD]; rfl
  have ge := gv_ne gv
  rw [← hGD] at ge
  have l1 : forL (forStep (.tp [2, 3]) (evSs (tb.cfg n) b1_law_due)) (nm.map n6D) [.val (P6.d ⟨nm, gv, an⟩), .val (.lst (ins.map .int)), .un, .un, .un, .un] = _ := for_find n6D (fun p => !p.2) (fun _ => .non) _ nm (fun p hp q => pure_of fun h => by
    have q : p.2 = true := by simpa using q
    have ke := kd_ne p.2
    obtain ⟨KD, hKD⟩ : ∃ KD, KD = k6D p.2 := ⟨_, rfl⟩
    rw [n6D, ← hKD]
    rw [← hKD, q] at ke
    apply L_step
    · (repeat' (first | (with_reducible show List.set _ _ _ = _; first | with_reducible exact Z0 | with_reducible apply ZS) | with_reducible apply A2))
    · rw [b1_law_due]
      (repeat' (first | (with_reducible show _[_]? = _; first | with_reducible exact G0 | with_reducible apply GS) | (with_reducible show List.set _ _ _ = _; first | with_reducible exact Z0 | with_reducible apply ZS) | (with_reducible show Mx.run (thn _ _) _ = _; first | with_reducible apply K_ite | with_reducible apply K_kill | with_reducible apply K_nil) | (with_reducible show Mx.run (evE _ _ _) _ = _; first | with_reducible exact X_str | with_reducible apply X_pkv | with_reducible apply X_tup) | (with_reducible show Mx.run (evCs _ _ _) _ = _; first | with_reducible exact X_nil | with_reducible apply X_cons) | (with_reducible show Mx.run (evT _ _ _) _ = _; first | with_reducible apply T_cmp) | (with_reducible show Mx.run (sel _ _ _) _ = _; first | (with_reducible apply sel_f; focus (simp []; done))) | with_reducible exact SD1 | with_reducible exact W0 | with_reducible apply WS | with_reducible exact run_of ke | with_reducible exact pure_ok _ | (simp [frC, D.isC, D.isL, LINE]; done)))) (fun p hp q => pure_of fun h => by
    have q : p.2 = false := by simpa using q
    have ke := kd_ne p.2
    obtain ⟨KD, hKD⟩ : ∃ KD, KD = k6D p.2 := ⟨_, rfl⟩
    rw [n6D, ← hKD]
    rw [← hKD, q] at ke
    apply L_step
    · (repeat' (first | (with_reducible show List.set _ _ _ = _; first | with_reducible exact Z0 | with_reducible apply ZS) | with_reducible apply A2))
    · rw [b1_law_due]
      (repeat' (first | (with_reducible show _[_]? = _; first | with_reducible exact G0 | with_reducible apply GS) | (with_reducible show Mx.run (thn _ _) _ = _; first | with_reducible apply K_ite | with_reducible refine K_ret rfl ?_) | (with_reducible show Mx.run (evE _ _ _) _ = _; first | with_reducible exact X_str | with_reducible exact X_non | with_reducible apply X_pkv | with_reducible apply X_tup) | (with_reducible show Mx.run (evCs _ _ _) _ = _; first | with_reducible exact X_nil | with_reducible apply X_cons) | (with_reducible show Mx.run (evT _ _ _) _ = _; first | with_reducible apply T_cmp) | (with_reducible show Mx.run (sel _ _ _) _ = _; first | (with_reducible apply sel_t; focus (simp []; done))) | with_reducible exact SD1 | with_reducible exact run_of ke | (simp [frC, D.isC, D.isL, LINE]; done))))
  have ln : biM "len" [.lst (nm.map n6D)] = .pure (.int (nm.length : Int)) := by simp
  have li : biM "len" [.lst (ins.map D.int)] = .pure (.int (ins.length : Int)) := by simp
  rw [callF_succ tb__law_due]
  obtain ⟨ND, hND⟩ : ∃ ND, ND = nm.map n6D := ⟨_, rfl⟩
  obtain ⟨IN, hIN⟩ : ∃ IN, IN = ins.map D.int := ⟨_, rfl⟩
  obtain ⟨L1, hL1⟩ : ∃ L1 : Int, L1 = (nm.length : Int) := ⟨_, rfl⟩
  obtain ⟨L2, hL2⟩ : ∃ L2 : Int, L2 = (ins.length : Int) := ⟨_, rfl⟩
  rw [pd, ← hND, ← hIN] at l1
  rw [← hND, ← hL1] at ln
  rw [← hIN, ← hL2] at li
  rw [pd, ← hND, ← hIN]
  unfold duD dr6
  dsimp only
  cases ha : nm.all (·.2) with
  | false =>
    have : nm.find? (fun p => !p.2) ≠ none := fun e => by
      rw [List.find?_eq_none] at e
      rw [List.all_eq_false] at ha
      obtain ⟨x, hx, hx2⟩ := ha
      exact e x hx (by simpa using hx2)
    cases hf : nm.find? (fun p => !p.2) with
    | none => exact absurd hf this
    | some x =>
      rw [hf] at l1
      dsimp only at l1
      show Mx.run _ h = Re.ok D.non h
      refine F_rt rfl ?_; simp only [List.length, Nat.reduceAdd, Nat.reduceSub, Nat.sub_self, List.replicate, List.map_cons, List.map_nil, List.cons_append, List.nil_append, f_law_due]
      (repeat' (first | (with_reducible show _[_]? = _; first | with_reducible exact G0) | (with_reducible show Mx.run (thn _ _) _ = _; first | with_reducible apply K_for) | (with_reducible show Mx.run (evE _ _ _) _ = _; first | with_reducible exact X_int | with_reducible apply X_pkv | with_reducible apply X_idx) | (with_reducible show Mx.run (evIt _ _ _) _ = _; first | with_reducible apply I_seq) | (with_reducible show Mx.run (thnF _ _) _ = _; first | with_reducible refine N_rt rfl) | with_reducible exact SD1 | with_reducible exact run_of l1 | (with_reducible apply run_of; simp []; first | done | exact rfl) | with_reducible apply sq1))
  | true =>
    have hf : nm.find? (fun p => !p.2) = none := by
      rw [List.find?_eq_none]
      intro x hx
      have := List.all_eq_true.mp ha x hx
      simpa using this
    rw [hf] at l1
    dsimp only at l1
    cases gv with
    | false =>
      show Mx.run _ h = Re.ok D.non h
      refine F_rt rfl ?_; simp only [List.length, Nat.reduceAdd, Nat.reduceSub, Nat.sub_self, List.replicate, List.map_cons, List.map_nil, List.cons_append, List.nil_append, f_law_due]
      (repeat' (first | (with_reducible show _[_]? = _; first | with_reducible exact G0) | (with_reducible show Mx.run (thn _ _) _ = _; first | with_reducible apply K_ite | with_reducible refine K_ret rfl ?_ | with_reducible apply K_for) | (with_reducible show Mx.run (evE _ _ _) _ = _; first | with_reducible exact X_int | with_reducible exact X_str | with_reducible exact X_non | with_reducible apply X_pkv | with_reducible apply X_tup | with_reducible apply X_idx) | (with_reducible show Mx.run (evCs _ _ _) _ = _; first | with_reducible exact X_nil | with_reducible apply X_cons) | (with_reducible show Mx.run (evT _ _ _) _ = _; first | with_reducible apply T_cmp | with_reducible apply T_or) | (with_reducible show Mx.run (evIt _ _ _) _ = _; first | with_reducible apply I_seq) | (with_reducible show Mx.run (thnF _ _) _ = _; first | with_reducible apply N_nx) | (with_reducible show Mx.run (sel _ _ _) _ = _; first | (with_reducible apply sel_t; focus (simp []; done))) | with_reducible exact SD1 | with_reducible exact run_of l1 | with_reducible exact run_of ge | with_reducible apply T_orS | with_reducible exact pure_ok _ | (with_reducible apply run_of; simp []; first | done | exact rfl) | (simp [frC, D.isC, D.isL, LINE]; done) | with_reducible apply sq1))
    | true =>
      by_cases hm : ins.length = nm.length
      · rw [decide_eq_true hm]
        have e12 : L2 = L1 := by omega
        subst e12
        cases an with
        | num w =>
          show Mx.run _ h = Re.ok (D.int w) h
          have hAD : AD = .tup [.str "num", .int w] := hAD
          subst hAD
          refine F_rt rfl ?_; simp only [List.length, Nat.reduceAdd, Nat.reduceSub, Nat.sub_self, List.replicate, List.map_cons, List.map_nil, List.cons_append, List.nil_append, f_law_due]
          (repeat' (first | (with_reducible show _[_]? = _; first | with_reducible exact G0 | with_reducible apply GS) | (with_reducible show Mx.run (thn _ _) _ = _; first | with_reducible apply K_ite | with_reducible refine K_ret rfl ?_ | with_reducible apply K_nil | with_reducible apply K_for) | (with_reducible show Mx.run (evE _ _ _) _ = _; first | with_reducible exact X_int | with_reducible exact X_str | with_reducible apply X_pkv | with_reducible apply X_tup | with_reducible apply X_idx | with_reducible apply X_bi) | (with_reducible show Mx.run (evCs _ _ _) _ = _; first | with_reducible exact X_nil | with_reducible apply X_cons) | (with_reducible show Mx.run (evT _ _ _) _ = _; first | with_reducible apply T_cmp | with_reducible apply T_or) | (with_reducible show Mx.run (evIt _ _ _) _ = _; first | with_reducible apply I_seq) | (with_reducible show Mx.run (thnF _ _) _ = _; first | with_reducible apply N_nx) | (with_reducible show Mx.run (sel _ _ _) _ = _; first | (with_reducible apply sel_t; focus (simp []; done)) | (with_reducible apply sel_f; focus (simp []; done))) | with_reducible exact SD1 | with_reducible exact run_of l1 | with_reducible exact run_of ge | with_reducible exact run_of ln | with_reducible exact run_of li | with_reducible apply T_or1 | with_reducible apply T_orS | (with_reducible apply run_of; simp []; first | done | exact rfl) | (simp [frC, D.isC, D.isL, LINE]; done) | with_reducible apply sq1))
        | var x =>
          have hAD : AD = .tup [.str "var", .str x] := hAD
          subst hAD
          have l2 : forL (forStep (.tp [4, 5]) (evSs (tb.cfg n) b0_law_due)) ((nm.zip ins).map fun q => .tup [n6D q.1, .int q.2]) [.val (.tup [.lst ND, GD, .lst [], .tup [.str "var", .str x]]), .val (.lst IN), .un, .un, .un, .un] = _ := for_find _ (fun q => decide (q.1.1 = x)) (fun q => .int q.2) _ _ (fun q hq e => pure_of fun h => by
            have e : ¬ q.1.1 = x := by simpa using e
            rw [n6D]
            obtain ⟨KD, hKD⟩ : ∃ KD, KD = k6D q.1.2 := ⟨_, rfl⟩
            rw [← hKD]
            have cc : cmpM .Eq (.str q.1.1) (.str x) = .pure false := by rw [ce3, decide_eq_false e]
            apply L_step
            · (repeat' (first | (with_reducible show List.set _ _ _ = _; first | with_reducible exact Z0 | with_reducible apply ZS) | with_reducible apply A2))
            · rw [b0_law_due]
              (repeat' (first | (with_reducible show _[_]? = _; first | with_reducible exact G0 | with_reducible apply GS) | (with_reducible show List.set _ _ _ = _; first | with_reducible exact Z0 | with_reducible apply ZS) | (with_reducible show Mx.run (thn _ _) _ = _; first | with_reducible apply K_ite | with_reducible apply K_kill | with_reducible apply K_nil) | (with_reducible show Mx.run (evE _ _ _) _ = _; first | with_reducible exact X_int | with_reducible apply X_pkv | with_reducible apply X_idx) | (with_reducible show Mx.run (evT _ _ _) _ = _; first | with_reducible apply T_cmp) | (with_reducible show Mx.run (sel _ _ _) _ = _; first | (with_reducible apply sel_f; focus (simp []; done))) | with_reducible exact SD1 | with_reducible exact W0 | with_reducible apply WS | with_reducible exact run_of cc | with_reducible exact pure_ok _ | (with_reducible apply run_of; simp []; first | done | exact rfl)))) (fun q hq e => pure_of fun h => by
            have e : q.1.1 = x := by simpa using e
            rw [n6D]
            obtain ⟨KD, hKD⟩ : ∃ KD, KD = k6D q.1.2 := ⟨_, rfl⟩
            rw [← hKD]
            have cc : cmpM .Eq (.str q.1.1) (.str x) = .pure true := by rw [ce3, decide_eq_true e]
            apply L_step
            · (repeat' (first | (with_reducible show List.set _ _ _ = _; first | with_reducible exact Z0 | with_reducible apply ZS) | with_reducible apply A2))
            · rw [b0_law_due]
              (repeat' (first | (with_reducible show _[_]? = _; first | with_reducible exact G0 | with_reducible apply GS) | (with_reducible show Mx.run (thn _ _) _ = _; first | with_reducible apply K_ite | with_reducible refine K_ret rfl ?_) | (with_reducible show Mx.run (evE _ _ _) _ = _; first | with_reducible exact X_int | with_reducible apply X_var | with_reducible apply X_pkv | with_reducible apply X_idx) | (with_reducible show Mx.run (evT _ _ _) _ = _; first | with_reducible apply T_cmp) | (with_reducible show Mx.run (sel _ _ _) _ = _; first | (with_reducible apply sel_t; focus (simp []; done))) | with_reducible exact SD1 | with_reducible exact run_of cc | (with_reducible apply run_of; simp []; first | done | exact rfl))))
          have zz : zipDD (.lst ND) (.lst IN) = some ((nm.zip ins).map fun q => .tup [n6D q.1, .int q.2]) := by
            rw [hND, hIN]
            exact congrArg some (zip_map n6D D.int nm ins)
          obtain ⟨ZD, hZD⟩ : ∃ ZD, ZD = (nm.zip ins).map fun q => D.tup [n6D q.1, .int q.2] := ⟨_, rfl⟩
          rw [← hZD] at l2 zz
          unfold val6
          dsimp only
          cases hz : (nm.zip ins).find? fun q => decide (q.1.1 = x) with
          | none =>
            rw [hz] at l2
            dsimp only at l2
            show Mx.run _ h = Re.ok D.non h
            refine F_rt rfl ?_; simp only [List.length, Nat.reduceAdd, Nat.reduceSub, Nat.sub_self, List.replicate, List.map_cons, List.map_nil, List.cons_append, List.nil_append, f_law_due]
            (repeat' (first | (with_reducible show _[_]? = _; first | with_reducible exact G0 | with_reducible apply GS) | (with_reducible show Mx.run (thn _ _) _ = _; first | with_reducible apply K_ite | with_reducible refine K_ret rfl ?_ | with_reducible apply K_nil | with_reducible apply K_for) | (with_reducible show Mx.run (evE _ _ _) _ = _; first | with_reducible exact X_int | with_reducible exact X_str | with_reducible exact X_non | with_reducible apply X_var | with_reducible apply X_pkv | with_reducible apply X_tup | with_reducible apply X_idx | with_reducible apply X_bi) | (with_reducible show Mx.run (evCs _ _ _) _ = _; first | with_reducible exact X_nil | with_reducible apply X_cons) | (with_reducible show Mx.run (evT _ _ _) _ = _; first | with_reducible apply T_cmp | with_reducible apply T_or) | (with_reducible show Mx.run (evIt _ _ _) _ = _; first | with_reducible apply I_seq | with_reducible apply I_zip) | (with_reducible show Mx.run (thnF _ _) _ = _; first | with_reducible apply N_nx) | (with_reducible show Mx.run (sel _ _ _) _ = _; first | (with_reducible apply sel_f; focus (simp []; done))) | with_reducible exact SD1 | with_reducible exact run_of l1 | with_reducible exact run_of l2 | with_reducible exact run_of ge | with_reducible exact run_of ln | with_reducible exact run_of li | with_reducible exact zz | with_reducible apply T_or1 | with_reducible apply T_orS | (with_reducible apply run_of; simp []; first | done | exact rfl) | (simp [frC, D.isC, D.isL, LINE]; done) | with_reducible apply sq1))
          | some q =>
            rw [hz] at l2
            dsimp only at l2
            show Mx.run _ h = Re.ok (D.int q.2) h
            refine F_rt rfl ?_; simp only [List.length, Nat.reduceAdd, Nat.reduceSub, Nat.sub_self, List.replicate, List.map_cons, List.map_nil, List.cons_append, List.nil_append, f_law_due]
            (repeat' (first | (with_reducible show _[_]? = _; first | with_reducible exact G0 | with_reducible apply GS) | (with_reducible show Mx.run (thn _ _) _ = _; first | with_reducible apply K_ite | with_reducible apply K_nil | with_reducible apply K_for) | (with_reducible show Mx.run (evE _ _ _) _ = _; first | with_reducible exact X_int | with_reducible exact X_str | with_reducible apply X_var | with_reducible apply X_pkv | with_reducible apply X_tup | with_reducible apply X_idx | with_reducible apply X_bi) | (with_reducible show Mx.run (evCs _ _ _) _ = _; first | with_reducible exact X_nil | with_reducible apply X_cons) | (with_reducible show Mx.run (evT _ _ _) _ = _; first | with_reducible apply T_cmp | with_reducible apply T_or) | (with_reducible show Mx.run (evIt _ _ _) _ = _; first | with_reducible apply I_seq | with_reducible apply I_zip) | (with_reducible show Mx.run (thnF _ _) _ = _; first | with_reducible apply N_nx | with_reducible refine N_rt rfl) | (with_reducible show Mx.run (sel _ _ _) _ = _; first | (with_reducible apply sel_f; focus (simp []; done))) | with_reducible exact SD1 | with_reducible exact run_of l1 | with_reducible exact run_of l2 | with_reducible exact run_of ge | with_reducible exact run_of ln | with_reducible exact run_of li | with_reducible exact zz | with_reducible apply T_or1 | with_reducible apply T_orS | (with_reducible apply run_of; simp []; first | done | exact rfl) | (simp [frC, D.isC, D.isL, LINE]; done) | with_reducible apply sq1))
      · rw [decide_eq_false hm]
        have e12 : ¬ L2 = L1 := by omega
        show Mx.run _ h = Re.ok D.non h
        refine F_rt rfl ?_; simp only [List.length, Nat.reduceAdd, Nat.reduceSub, Nat.sub_self, List.replicate, List.map_cons, List.map_nil, List.cons_append, List.nil_append, f_law_due]
        (repeat' (first | (with_reducible show _[_]? = _; first | with_reducible exact G0 | with_reducible apply GS) | (with_reducible show Mx.run (thn _ _) _ = _; first | with_reducible apply K_ite | with_reducible refine K_ret rfl ?_ | with_reducible apply K_for) | (with_reducible show Mx.run (evE _ _ _) _ = _; first | with_reducible exact X_int | with_reducible exact X_str | with_reducible exact X_non | with_reducible apply X_pkv | with_reducible apply X_tup | with_reducible apply X_idx | with_reducible apply X_bi) | (with_reducible show Mx.run (evCs _ _ _) _ = _; first | with_reducible exact X_nil | with_reducible apply X_cons) | (with_reducible show Mx.run (evT _ _ _) _ = _; first | with_reducible apply T_cmp | with_reducible apply T_or) | (with_reducible show Mx.run (evIt _ _ _) _ = _; first | with_reducible apply I_seq) | (with_reducible show Mx.run (thnF _ _) _ = _; first | with_reducible apply N_nx) | (with_reducible show Mx.run (sel _ _ _) _ = _; first | (with_reducible apply sel_t; focus (simp [e12]; done)) | (with_reducible apply sel_f; focus (simp [e12]; done))) | with_reducible exact SD1 | with_reducible exact run_of l1 | with_reducible exact run_of ge | with_reducible exact run_of ln | with_reducible exact run_of li | with_reducible apply T_or1 | with_reducible apply T_orS | (with_reducible apply run_of; simp [e12]; first | done | exact rfl) | (simp [frC, D.isC, D.isL, LINE, e12]; done) | with_reducible apply sq1))
def ms6 : D := .lst [.tup [.non, .lst []], .tup [.int 0, .lst [.tup [.str "number"]]]]
def pgD (ps : List P6) : D := .tup [ms6, .lst (ps.map P6.d)]
/-- may a run start there? -/
def door6 (ps : List P6) (p : Int) (m : Nat) : Bool := if 0 ≤ p ∧ p < (ps.length : Int) then (match ps[p.toNat]? with | some q => dr6 q m | none => false) else false
section
variable {ps : List P6}
theorem p6_at {i : Nat} {q : P6} (h : ps[i]? = some q) : idxM (.lst (ps.map P6.d)) (.int (i : Int)) = .pure (.tup [.lst (q.nm.map n6D), if q.gv then k6N else k6W 0, .lst [], if q.gv then q.an.d else .tup [.str "new", .int 1, .lst [q.an.d]]]) := ix_mapN (f := P6.d) h
abbrev nums6 (q : P6) : List D := q.nm.map (fun p => k6D p.2) ++ [if q.gv then k6N else k6W 0]
theorem need_kinds (n : Nat) {i : Nat} {q : P6} (hq : ps[i]? = some q) (hl : q.nm.length ≤ 20) (IN : D) {h : HP} : (evE (tb.cfg n) (.bin .Add (.lc e1need_door (.tp [5, 4]) (.seq (.idx (.idx (.pk 0) (.var 1)) (.int 0))) .no) (.lst (.cons (.idx (.idx (.pk 0) (.var 1)) (.int 1)) .nil))) [.val (.lst (ps.map P6.d)), .val (.int (i : Int)), .val IN, .un, .un, .un]).run h = .ok (.lst (nums6 q)) h := by
  have ix := p6_at hq
  have lc := lc_mapH (h := h) (f := lcStep [.val (.lst (ps.map P6.d)), .val (.int (i : Int)), .val IN, .un, .un, .un] (.tp [5, 4]) (evOcT (tb.cfg n) .no) (evE (tb.cfg n) e1need_door)) n6D (fun p => k6D p.2) q.nm [] (fun p hp => by
    obtain ⟨KD, hKD⟩ : ∃ KD, KD = k6D p.2 := ⟨_, rfl⟩
    rw [n6D, ← hKD]
    refine L_lc (s3 := [.val (.lst (ps.map P6.d)), .val (.int (i : Int)), .val IN, .un, .val KD, .val (.str p.1)]) rfl ?_
    rw [e1need_door]
    (repeat' (first | (with_reducible show _[_]? = _; first | with_reducible exact G0 | with_reducible apply GS) | (with_reducible show Mx.run (evE _ _ _) _ = _; first | with_reducible apply X_var))))
  rw [List.nil_append] at lc
  obtain ⟨GD, hGD⟩ : ∃ GD, GD = (if q.gv then k6N else k6W 0) := ⟨_, rfl⟩
  obtain ⟨PD, hPD⟩ : ∃ PD, PD = ps.map P6.d := ⟨_, rfl⟩
  obtain ⟨ND, hND⟩ : ∃ ND, ND = q.nm.map n6D := ⟨_, rfl⟩
  obtain ⟨KS, hKS⟩ : ∃ KS, KS = q.nm.map (fun p => k6D p.2) := ⟨_, rfl⟩
  have ad : binM .Add (.lst KS) (.lst [GD]) = .pure (.lst (nums6 q)) := by
    rw [hKS, hGD]
    exact bm11 _ _ (by simp [LINE]; omega)
  rw [← hPD, ← hGD, ← hND] at ix
  rw [← hPD, ← hND, ← hKS] at lc
  rw [← hPD]
  (repeat' (first | (with_reducible show _[_]? = _; first | with_reducible exact G0 | with_reducible apply GS) | (with_reducible show List.set _ _ _ = _; first | with_reducible exact Z0 | with_reducible apply ZS) | (with_reducible show Mx.run (evE _ _ _) _ = _; first | with_reducible exact X_int | with_reducible apply X_var | with_reducible apply X_pkv | with_reducible apply X_bin | with_reducible apply X_lst | with_reducible apply X_idx | with_reducible apply X_lc) | (with_reducible show Mx.run (evCs _ _ _) _ = _; first | with_reducible exact X_nil | with_reducible apply X_cons) | (with_reducible show Mx.run (evIt _ _ _) _ = _; first | with_reducible apply I_seq) | (show freeAt _ _ = true; exact rfl) | (show (It.sz _ || _) = true; exact rfl) | with_reducible exact SD1 | with_reducible exact W0 | with_reducible apply WS | with_reducible apply WTp | with_reducible exact run_of ix | with_reducible exact lc | with_reducible exact run_of ad | (with_reducible apply run_of; simp []; first | done | exact rfl) | (simp [frC, D.isC, D.isL, LINE]; done) | with_reducible apply sq1))
theorem k6_ne (q : P6) : ∀ x ∈ nums6 q, ∃ b : Bool, cmpM .NotEq x (.tup [.str "number"]) = .pure (!b) ∧ ((q.nm.all (·.2) && q.gv) = true → b = true) := fun x hx => by
  rcases List.mem_append.mp hx with h | h
  · obtain ⟨p, hp, rfl⟩ := List.mem_map.mp h
    exact ⟨p.2, kd_ne p.2, fun a => by
      rw [Bool.and_eq_true] at a
      exact List.all_eq_true.mp a.1 p hp⟩
  · rw [List.mem_singleton] at h
    subst h
    exact ⟨q.gv, gv_ne q.gv, fun a => by
      rw [Bool.and_eq_true] at a
      exact a.2⟩
theorem need_turn (n : Nat) (x0 x1 x2 x3 x5 : Sl) {x : D} {b : Bool} (hb : cmpM .NotEq x (.tup [.str "number"]) = .pure (!b)) (v : Sl) {h : HP} : (b = true → (forStep (.nm 4) (evSs (tb.cfg n) b0need_door) x [x0, x1, x2, x3, v, x5]).run h = .ok (.nx [x0, x1, x2, x3, .val x, x5]) h) ∧ (b = false → ∃ s1, (forStep (.nm 4) (evSs (tb.cfg n) b0need_door) x [x0, x1, x2, x3, v, x5]).run h = .exc (XD, s1) h) := by
  have gl : glM (tb.cfg n) "NUMBER" = .pure (.tup [.str "number"]) := rfl
  constructor
  · intro e
    rw [e] at hb
    have hb : cmpM .NotEq x (.tup [.str "number"]) = .pure false := hb
    apply L_step
    · (repeat' (first | (with_reducible show List.set _ _ _ = _; first | with_reducible exact Z0 | with_reducible apply ZS) | with_reducible apply A1))
    · rw [b0need_door]
      (repeat' (first | (with_reducible show _[_]? = _; first | with_reducible exact G0 | with_reducible apply GS) | (with_reducible show Mx.run (thn _ _) _ = _; first | with_reducible apply K_ite | with_reducible apply K_nil) | (with_reducible show Mx.run (evE _ _ _) _ = _; first | with_reducible apply X_pkv | with_reducible apply X_glob) | (with_reducible show Mx.run (evT _ _ _) _ = _; first | with_reducible apply T_cmp) | (with_reducible show Mx.run (sel _ _ _) _ = _; first | (with_reducible apply sel_f; focus (simp []; done))) | with_reducible exact SD1 | with_reducible exact run_of hb | with_reducible exact gl | with_reducible exact pure_ok _))
  · intro e
    rw [e] at hb
    have hb : cmpM .NotEq x (.tup [.str "number"]) = .pure true := hb
    have rr := rai_run (T := tb) (n := n) (h := h) (h1 := h) (cls := "NoDoor") (S := [x0, x1, x2, x3, .val x, x5]) (as := .cons (.str "no door") .nil) (ds := [.str "no door"]) rfl (by (repeat' (first | (with_reducible show Mx.run (evE _ _ _) _ = _; first | with_reducible exact X_str) | (with_reducible show Mx.run (evCs _ _ _) _ = _; first | with_reducible exact X_nil | with_reducible apply X_cons)))) (by simp [LINE])
    refine ⟨[x0, x1, x2, x3, .val x, x5], ?_⟩
    apply L_step
    · (repeat' (first | (with_reducible show List.set _ _ _ = _; first | with_reducible exact Z0 | with_reducible apply ZS) | with_reducible apply A1))
    · rw [b0need_door]
      apply K_ite (p := true)
      · (repeat' (first | (with_reducible show _[_]? = _; first | with_reducible exact G0 | with_reducible apply GS) | (with_reducible show Mx.run (evE _ _ _) _ = _; first | with_reducible apply X_pkv | with_reducible apply X_glob) | (with_reducible show Mx.run (evT _ _ _) _ = _; first | with_reducible apply T_cmp) | with_reducible exact SD1 | with_reducible exact run_of hb | with_reducible exact gl))
      · apply sel_t rfl
        exact K_exc rr rfl
theorem v_need (n : Nat) (hp : ∀ q ∈ ps, q.ok) (p : Int) (ins : List Int) {h : HP} : (door6 ps p ins.length = true → (callF tb (n + 1) "need_door" [.lst (ps.map P6.d), .int p, .lst (ins.map .int)]).run h = .ok .non h) ∧ (door6 ps p ins.length = false → (callF tb (n + 1) "need_door" [.lst (ps.map P6.d), .int p, .lst (ins.map .int)]).run h = .exc XD h) := by
  have lp : biM "len" [.lst (ps.map P6.d)] = .pure (.int (ps.length : Int)) := by simp
  have li : biM "len" [.lst (ins.map D.int)] = .pure (.int (ins.length : Int)) := by simp
  obtain ⟨LP, hLP⟩ : ∃ LP : Int, LP = (ps.length : Int) := ⟨_, rfl⟩
  by_cases c : 0 ≤ p ∧ p < (ps.length : Int)
  · obtain ⟨i, rfl⟩ : ∃ i : Nat, p = (i : Int) := ⟨p.toNat, by omega⟩
    obtain ⟨q, hq⟩ : ∃ q, ps[i]? = some q := ⟨_, List.getElem?_eq_getElem (by omega)⟩
    have hd : door6 ps (i : Int) ins.length = dr6 q ins.length := by
      unfold door6
      rw [if_pos c, Int.toNat_natCast, hq]
    have ok := hp q (List.mem_of_getElem? hq)
    have nk := need_kinds n hq ok.len (.lst (ins.map .int)) (h := h)
    have lk : biM "len" [.lst (nums6 q)] = .pure (.int ((q.nm.length + 1 : Nat) : Int)) := by simp
    have sb : binM .Sub (.int ((q.nm.length + 1 : Nat) : Int)) (.int 1) = .pure (.int (q.nm.length : Int)) := by rw [bm2]; congr 2; omega
    have c0 : (0 : Int) ≤ (i : Int) := c.1
    have c1 : (i : Int) < LP := by rw [hLP]; exact c.2
    rw [hd]
    obtain ⟨PD, hPD⟩ : ∃ PD, PD = ps.map P6.d := ⟨_, rfl⟩
    obtain ⟨IN, hIN⟩ : ∃ IN, IN = ins.map D.int := ⟨_, rfl⟩
    obtain ⟨KS, hKS⟩ : ∃ KS, KS = nums6 q := ⟨_, rfl⟩
    obtain ⟨L1, hL1⟩ : ∃ L1 : Int, L1 = ((q.nm.length + 1 : Nat) : Int) := ⟨_, rfl⟩
    obtain ⟨L2, hL2⟩ : ∃ L2 : Int, L2 = (q.nm.length : Int) := ⟨_, rfl⟩
    obtain ⟨L3, hL3⟩ : ∃ L3 : Int, L3 = (ins.length : Int) := ⟨_, rfl⟩
    obtain ⟨II, hII⟩ : ∃ II : Int, II = (i : Int) := ⟨_, rfl⟩
    rw [← hPD, ← hIN, ← hKS, ← hII] at nk
    rw [← hPD, ← hLP] at lp
    rw [← hIN, ← hL3] at li
    rw [← hKS, ← hL1] at lk
    rw [← hL1, ← hL2] at sb
    rw [← hII] at c0 c1
    rw [← hPD, ← hIN, ← hII]
    by_cases a : (q.nm.all (·.2) && q.gv) = true
    · obtain ⟨v, lo, _⟩ := for_xs (h := h) (f := forStep (.nm 4) (evSs (tb.cfg n) b0need_door)) (fun v : Sl => [.val (.lst PD), .val (.int II), .val (.lst IN), .val (.lst KS), v, .un]) (fun _ _ => True) KS .un trivial (fun i x v hx _ => by
        obtain ⟨b, hb, hb2⟩ := k6_ne q x (hKS ▸ List.mem_of_getElem? hx)
        exact ⟨.val x, (need_turn n _ _ _ _ _ hb v).1 (hb2 a), trivial⟩)
      have dd : dr6 q ins.length = decide (ins.length = q.nm.length) := by unfold dr6; rw [a, Bool.true_and]
      rw [dd]
      by_cases e : ins.length = q.nm.length
      · have e2 : L3 = L2 := by omega
        refine ⟨fun _ => ?_, fun z => (by rw [decide_eq_true e] at z; cases z)⟩
        rw [callF_succ tb_need_door]
        apply F_nx rfl rfl; simp only [List.length, Nat.reduceAdd, Nat.reduceSub, Nat.sub_self, List.replicate, List.map_cons, List.map_nil, List.cons_append, List.nil_append, fneed_door]
        (repeat' (first | with_reducible exact nk | (with_reducible show _[_]? = _; first | with_reducible exact G0 | with_reducible apply GS) | (with_reducible show List.set _ _ _ = _; first | with_reducible exact Z0 | with_reducible apply ZS) | (with_reducible show Mx.run (thn _ _) _ = _; first | with_reducible apply K_set | with_reducible apply K_ite | with_reducible apply K_nil | with_reducible apply K_for) | (with_reducible show Mx.run (evE _ _ _) _ = _; first | with_reducible exact X_int | with_reducible apply X_var | with_reducible apply X_pkv | with_reducible apply X_bin | with_reducible apply X_bi) | (with_reducible show Mx.run (evCs _ _ _) _ = _; first | with_reducible exact X_nil | with_reducible apply X_cons) | (with_reducible show Mx.run (evT _ _ _) _ = _; first | with_reducible apply T_cmp | with_reducible apply T_not | with_reducible apply T_chn) | (with_reducible show Mx.run (evIt _ _ _) _ = _; first | with_reducible apply I_seq) | (with_reducible show Mx.run (thnF _ _) _ = _; first | with_reducible apply N_nx) | (with_reducible show Mx.run (sel _ _ _) _ = _; first | (with_reducible apply sel_t; focus (simp [c0, c1, e2]; done)) | (with_reducible apply sel_f; focus (simp [c0, c1, e2]; done))) | with_reducible exact SD1 | with_reducible exact run_of lp | with_reducible exact run_of li | with_reducible exact run_of lk | with_reducible exact run_of sb | with_reducible exact lo | with_reducible apply C2 | with_reducible exact pure_ok _ | (with_reducible apply run_of; simp [c0, c1, e2]; first | done | exact rfl) | with_reducible apply sq1))
      · have e2 : ¬ L3 = L2 := by omega
        refine ⟨fun z => (by rw [decide_eq_false e] at z; cases z), fun _ => ?_⟩
        rw [callF_succ tb_need_door]
        have rr := rai_run (T := tb) (n := n) (h := h) (h1 := h) (cls := "NoDoor") (S := [.val (.lst PD), .val (.int II), .val (.lst IN), .val (.lst KS), v, .un]) (as := .cons (.str "another number of inputs") .nil) (ds := [.str "another number of inputs"]) rfl (by (repeat' (first | (with_reducible show Mx.run (evE _ _ _) _ = _; first | with_reducible exact X_str) | (with_reducible show Mx.run (evCs _ _ _) _ = _; first | with_reducible exact X_nil | with_reducible apply X_cons)))) (by simp [LINE])
        apply F_exc rfl
        simp only [fneed_door, List.length, Nat.reduceAdd, Nat.reduceSub, Nat.sub_self, List.replicate, List.map_cons, List.map_nil, List.cons_append, List.nil_append]
        (repeat' (first | with_reducible exact nk | with_reducible apply (K_exc rr rfl) | (with_reducible show _[_]? = _; first | with_reducible exact G0 | with_reducible apply GS) | (with_reducible show List.set _ _ _ = _; first | with_reducible exact Z0 | with_reducible apply ZS) | (with_reducible show Mx.run (thn _ _) _ = _; first | with_reducible apply K_set | with_reducible apply K_ite | with_reducible apply K_nil | with_reducible apply K_for) | (with_reducible show Mx.run (evE _ _ _) _ = _; first | with_reducible exact X_int | with_reducible apply X_var | with_reducible apply X_pkv | with_reducible apply X_bin | with_reducible apply X_bi) | (with_reducible show Mx.run (evCs _ _ _) _ = _; first | with_reducible exact X_nil | with_reducible apply X_cons) | (with_reducible show Mx.run (evT _ _ _) _ = _; first | with_reducible apply T_cmp | with_reducible apply T_not | with_reducible apply T_chn) | (with_reducible show Mx.run (evIt _ _ _) _ = _; first | with_reducible apply I_seq) | (with_reducible show Mx.run (thnF _ _) _ = _; first | with_reducible apply N_nx) | (with_reducible show Mx.run (sel _ _ _) _ = _; first | (with_reducible apply sel_t; focus (simp [c0, c1, e2]; done)) | (with_reducible apply sel_f; focus (simp [c0, c1, e2]; done))) | with_reducible exact SD1 | with_reducible exact run_of lp | with_reducible exact run_of li | with_reducible exact run_of lk | with_reducible exact run_of sb | with_reducible exact lo | with_reducible apply C2 | (with_reducible apply run_of; simp [c0, c1, e2]; first | done | exact rfl) | with_reducible apply sq1))
    · have dd : dr6 q ins.length = false := by
        unfold dr6
        rw [Bool.not_eq_true] at a
        rw [a, Bool.false_and]
      rw [dd]
      refine ⟨fun z => (by cases z), fun _ => ?_⟩
      obtain ⟨s1, lx⟩ := for_excL (h := h) (f := forStep (.nm 4) (evSs (tb.cfg n) b0need_door)) (y := XD) (fun v : Sl => [.val (.lst PD), .val (.int II), .val (.lst IN), .val (.lst KS), v, .un]) KS .un (fun x hx v => by
        obtain ⟨b, hb, hb2⟩ := k6_ne q x (hKS ▸ hx)
        cases b with
        | true => exact .inl ⟨_, (need_turn n _ _ _ _ _ hb v).1 rfl⟩
        | false => exact .inr ((need_turn n _ _ _ _ _ hb v).2 rfl)) (by
        have : ∃ x ∈ nums6 q, cmpM .NotEq x (.tup [.str "number"]) = .pure (!false) := by
          by_cases g : q.gv = true
          · rw [g, Bool.and_true, Bool.not_eq_true, List.all_eq_false] at a
            obtain ⟨p, hp, e⟩ := a
            have e : p.2 = false := by simpa using e
            have k := kd_ne p.2
            rw [e] at k
            exact ⟨k6D p.2, List.mem_append_left _ (List.mem_map.mpr ⟨p, hp, rfl⟩), by rw [e]; exact k⟩
          · have g : q.gv = false := by simpa using g
            have k := gv_ne q.gv
            refine ⟨_, List.mem_append_right _ (List.mem_singleton.mpr rfl), ?_⟩
            rw [k, g]
        obtain ⟨x, hx, hc⟩ := this
        exact ⟨x, hKS ▸ hx, fun v => (need_turn n _ _ _ _ _ hc v).2 rfl⟩)
      have fx : (evS (tb.cfg n) (.for (.nm 4) (.seq (.var 3)) b0need_door) [.val (.lst PD), .val (.int II), .val (.lst IN), .val (.lst KS), .un, .un]).run h = .exc (XD, s1) h := for_runh (xs := KS) (I_seq (X_var rfl) rfl) lx
      rw [callF_succ tb_need_door]
      apply F_exc rfl
      simp only [fneed_door, List.length, Nat.reduceAdd, Nat.reduceSub, Nat.sub_self, List.replicate, List.map_cons, List.map_nil, List.cons_append, List.nil_append]
      (repeat' (first | with_reducible exact nk | with_reducible apply (K_exc fx rfl) | (with_reducible show _[_]? = _; first | with_reducible exact G0 | with_reducible apply GS) | (with_reducible show List.set _ _ _ = _; first | with_reducible exact Z0 | with_reducible apply ZS) | (with_reducible show Mx.run (thn _ _) _ = _; first | with_reducible apply K_set | with_reducible apply K_ite | with_reducible apply K_nil) | (with_reducible show Mx.run (evE _ _ _) _ = _; first | with_reducible exact X_int | with_reducible apply X_pkv | with_reducible apply X_bi) | (with_reducible show Mx.run (evCs _ _ _) _ = _; first | with_reducible exact X_nil | with_reducible apply X_cons) | (with_reducible show Mx.run (evT _ _ _) _ = _; first | with_reducible apply T_not | with_reducible apply T_chn) | (with_reducible show Mx.run (sel _ _ _) _ = _; first | (with_reducible apply sel_t; focus (simp [c0, c1]; done)) | (with_reducible apply sel_f; focus (simp [c0, c1]; done))) | with_reducible exact SD1 | with_reducible exact run_of lp | with_reducible apply C2 | (with_reducible apply run_of; simp [c0, c1]; first | done | exact rfl)))
  · have hd : door6 ps p ins.length = false := by unfold door6; rw [if_neg c]
    rw [hd]
    refine ⟨fun z => (by cases z), fun _ => ?_⟩
    obtain ⟨PD, hPD⟩ : ∃ PD, PD = ps.map P6.d := ⟨_, rfl⟩
    obtain ⟨IN, hIN⟩ : ∃ IN, IN = ins.map D.int := ⟨_, rfl⟩
    rw [← hPD, ← hLP] at lp
    rw [← hPD, ← hIN]
    rw [callF_succ tb_need_door]
    have rr := rai_run (T := tb) (n := n) (h := h) (h1 := h) (cls := "NoDoor") (S := [.val (.lst PD), .val (.int p), .val (.lst IN), .un, .un, .un]) (as := .cons (.str "no part") .nil) (ds := [.str "no part"]) rfl (by (repeat' (first | (with_reducible show Mx.run (evE _ _ _) _ = _; first | with_reducible exact X_str) | (with_reducible show Mx.run (evCs _ _ _) _ = _; first | with_reducible exact X_nil | with_reducible apply X_cons)))) (by simp [LINE])
    apply F_exc rfl
    simp only [fneed_door, List.length, Nat.reduceAdd, Nat.reduceSub, Nat.sub_self, List.replicate, List.map_cons, List.map_nil, List.cons_append, List.nil_append]
    by_cases c0 : 0 ≤ p
    · have c1 : ¬ p < LP := fun z => c ⟨c0, by omega⟩
      (repeat' (first | with_reducible apply (K_exc rr rfl) | (with_reducible show _[_]? = _; first | with_reducible exact G0 | with_reducible apply GS) | (with_reducible show Mx.run (thn _ _) _ = _; first | with_reducible apply K_ite) | (with_reducible show Mx.run (evE _ _ _) _ = _; first | with_reducible exact X_int | with_reducible apply X_pkv | with_reducible apply X_bi) | (with_reducible show Mx.run (evCs _ _ _) _ = _; first | with_reducible exact X_nil | with_reducible apply X_cons) | (with_reducible show Mx.run (evT _ _ _) _ = _; first | with_reducible apply T_not | with_reducible apply T_chn) | (with_reducible show Mx.run (sel _ _ _) _ = _; first | (with_reducible apply sel_t; focus (simp [c0, c1]; done))) | with_reducible exact SD1 | with_reducible exact run_of lp | with_reducible apply C2 | (with_reducible apply run_of; simp [c0, c1]; first | done | exact rfl)))
    · (repeat' (first | with_reducible apply (K_exc rr rfl) | (with_reducible show _[_]? = _; first | with_reducible exact G0 | with_reducible apply GS) | (with_reducible show Mx.run (thn _ _) _ = _; first | with_reducible apply K_ite) | (with_reducible show Mx.run (evE _ _ _) _ = _; first | with_reducible exact X_int | with_reducible apply X_pkv) | (with_reducible show Mx.run (evT _ _ _) _ = _; first | with_reducible apply T_not | with_reducible apply T_chn) | (with_reducible show Mx.run (sel _ _ _) _ = _; first | (with_reducible apply sel_t; focus (simp [c0]; done)) | (with_reducible apply sel_f; focus (simp [c0]; done))) | with_reducible exact SD1 | with_reducible exact pure_ok _ | (with_reducible apply run_of; simp [c0]; first | done | exact rfl)))
end
section
variable {ps : List P6} {h : HP}
def kv6 (l : List ((Str × Bool) × Int)) : List (Key × D) := l.map fun q => (.inr q.1.1, .int q.2)
theorem kv_put {l : List ((Str × Bool) × Int)} {x : Str} {w : Int} {b : Bool} (hx : ∀ q ∈ l, q.1.1 ≠ x) : putD (kv6 l) (.inr x) (.int w) = kv6 (l ++ [((x, b), w)]) := by
  unfold putD
  rw [if_neg]
  · simp [kv6]
  · rw [List.any_eq_true]
    rintro ⟨p, hp, e⟩
    obtain ⟨q, hq, rfl⟩ := List.mem_map.mp hp
    have e : (Sum.inr q.1.1 : Key) = .inr x := by simpa using e
    injection e with e
    exact hx q hq e
theorem kv_get (x : Str) : ∀ (l : List ((Str × Bool) × Int)), getD_ (kv6 l) (.str x) = (l.find? fun q => decide (q.1.1 = x)).map fun q => D.int q.2
  | [] => rfl
  | q :: l => by
    have ih := kv_get x l
    unfold getD_ at ih ⊢
    show ((kv6 (q :: l)).find? fun p => decide (p.1 = (.inr x : Key))).map (·.2) = _
    have ih : ((kv6 l).find? fun p => decide (p.1 = (.inr x : Key))).map (·.2) = _ := ih
    unfold kv6 at ih ⊢
    rw [List.map_cons]
    by_cases e : q.1.1 = x
    · rw [List.find?_cons_of_pos (by simp [e]), List.find?_cons_of_pos (by simp [e])]
      rfl
    · have e' : ¬ (Sum.inr q.1.1 : Key) = .inr x := fun z => e (by injection z)
      rw [List.find?_cons_of_neg (by simpa using e'), List.find?_cons_of_neg (by simp [e])]
      exact ih
theorem K_dset {Γ : Cfg} {s s1 : RS} {i : Nat} {a c : C} {rest : Ss} {k : RS → MS Fl} {x y : D} {h1 h2 : HP} {kvs : List (Key × D)} {key : Key} {r : Re (D × RS) Fl} (e1 : (evE Γ c s).run h = .ok x h1) (g : s[i]? = some (.own (.dic kvs))) (e2 : (evE Γ a s).run h1 = .ok y h2) (hk : keyD y = some key) (hl : kvs.length < LINE) (w : s.set i (.own (.dic (putD kvs key x))) = s1) (q : (thn (evSs Γ rest s1) k).run h2 = r) : (thn (evSs Γ (.cons (.dset i a c) rest) s) k).run h = r := by
  refine K_st ?_ q
  show evS Γ (.dset i a c) s h = _
  rw [evS, bind_ok (at_run e1)]
  unfold ownDAt
  simp only [g]
  rw [bind_ok (at_run e2)]
  unfold dsetS
  simp only [g, hk]
  rw [if_pos hl, w]
  rfl
theorem zip_nm {nm : List (Str × Bool)} (hn : NmOk nm) (ins : List Int) {i : Nat} {q : (Str × Bool) × Int} (hq : (nm.zip ins)[i]? = some q) : ∀ p ∈ (nm.zip ins).take i, p.1.1 ≠ q.1.1 := fun p hp e => by
  obtain ⟨j, hj⟩ := List.getElem?_of_mem hp
  have lj := (List.getElem?_eq_some_iff.mp hj).1
  rw [List.length_take] at lj
  rw [List.getElem?_take_of_lt (by omega)] at hj
  rw [List.getElem?_zip_eq_some] at hj hq
  obtain ⟨w, m, e1⟩ := hn j p.1 hj.1
  obtain ⟨w', m', e2⟩ := hn i q.1 hq.1
  rw [e1, e2] at e
  have := nm_inj e
  omega
theorem dict_loop (n : Nat) {nm : List (Str × Bool)} (hn : NmOk nm) (hl : nm.length ≤ 20) (ins : List Int) (x0 x1 x2 x3 x5 x6 x7 x8 x9 x10 : Sl) : (forL (forStep (.tp [11, 12]) (evSs (tb.cfg n) b0part_given)) ((nm.zip ins).map fun q => .tup [n6D q.1, .int q.2]) [x0, x1, x2, x3, .own (.dic []), x5, x6, x7, x8, x9, x10, .un, .un]).run h = .ok (.nx [x0, x1, x2, x3, .own (.dic (kv6 (nm.zip ins))), x5, x6, x7, x8, x9, x10, .un, .un]) h := by
  obtain ⟨l, e, hl'⟩ := for_xs (h := h) (f := forStep (.tp [11, 12]) (evSs (tb.cfg n) b0part_given)) (fun l : List ((Str × Bool) × Int) => [x0, x1, x2, x3, .own (.dic (kv6 l)), x5, x6, x7, x8, x9, x10, .un, .un]) (fun i l => l = (nm.zip ins).take i) ((nm.zip ins).map fun q => .tup [n6D q.1, .int q.2]) [] rfl (fun i x l hx e => by
    subst e
    rw [List.getElem?_map, Option.map_eq_some_iff] at hx
    obtain ⟨q, hq, rfl⟩ := hx
    have hp := kv_put (b := q.1.2) (w := q.2) (zip_nm hn ins hq)
    have li := (List.getElem?_eq_some_iff.mp hq).1
    have tk : (nm.zip ins).take i ++ [((q.1.1, q.1.2), q.2)] = (nm.zip ins).take (i + 1) := by
      rw [List.take_succ, hq]
      rfl
    rw [tk] at hp
    refine ⟨(nm.zip ins).take (i + 1), ?_, rfl⟩
    have kl : (kv6 ((nm.zip ins).take i)).length < 16777216 := by
      rw [kv6, List.length_map, List.length_take, List.length_zip]
      omega
    try dsimp only
    obtain ⟨KD, hKD⟩ : ∃ KD, KD = k6D q.1.2 := ⟨_, rfl⟩
    rw [n6D, ← hKD]
    have kk : keyD (.str q.1.1) = some (.inr q.1.1) := rfl
    rw [← hp]
    obtain ⟨K1, hK1⟩ : ∃ K1, K1 = kv6 ((nm.zip ins).take i) := ⟨_, rfl⟩
    rw [← hK1] at kl ⊢
    apply L_step
    · (repeat' (first | (with_reducible show List.set _ _ _ = _; first | with_reducible exact Z0 | with_reducible apply ZS) | with_reducible apply A2))
    · rw [b0part_given]
      (repeat' (first | with_reducible apply K_dset | (with_reducible show _[_]? = _; first | with_reducible exact G0 | with_reducible apply GS) | (with_reducible show List.set _ _ _ = _; first | with_reducible exact Z0 | with_reducible apply ZS) | (with_reducible show Mx.run (thn _ _) _ = _; first | with_reducible apply K_kill | with_reducible apply K_nil) | (with_reducible show Mx.run (evE _ _ _) _ = _; first | with_reducible exact X_int | with_reducible apply X_var | with_reducible apply X_pkv | with_reducible apply X_idx) | with_reducible exact SD1 | with_reducible exact W0 | with_reducible apply WS | with_reducible exact kk | with_reducible exact pure_ok _ | (with_reducible apply run_of; simp [kl]; first | done | exact rfl) | (simp [frC, D.isC, D.isL, LINE, kl]; done))))
  rw [List.length_map, List.take_length] at hl'
  subst hl'
  exact e
theorem forL_nil {f : D → RS → MS Fl} {s : RS} : (forL f [] s).run h = .ok (.nx s) h := by rw [forL]; rfl
theorem v_finit (n : Nat) (d nm : D) : (callF tb (n + 1) "Frame.__init__" [.obj h.length, d, nm]).run (h ++ [Ob.inst "Frame" []]) = .ok .non (h ++ [Ob.inst "Frame" [("deep", d), ("names", nm)]]) := by
  have s1 : (fsetM (tb.cfg n) "deep" (.obj h.length) d).run (h ++ [Ob.inst "Frame" []]) = .ok () (h ++ [Ob.inst "Frame" [("deep", d)]]) := by
    rw [I_fset (rest := []) tn_Frame (by decide +kernel) (by simp)]; simp [putFD]
  have s2 : (fsetM (tb.cfg n) "names" (.obj h.length) nm).run (h ++ [Ob.inst "Frame" [("deep", d)]]) = .ok () (h ++ [Ob.inst "Frame" [("deep", d), ("names", nm)]]) := by
    rw [I_fset (rest := []) tn_Frame (by decide +kernel) (by simp)]; simp [putFD]
  rw [callF_succ tb_Frame___init__]
  apply F_nx rfl rfl; simp only [List.length, Nat.reduceAdd, Nat.reduceSub, Nat.sub_self, List.replicate, List.map_cons, List.map_nil, List.cons_append, List.nil_append, fFrame___init__]
  (repeat' (first | (with_reducible show _[_]? = _; first | with_reducible exact G0 | with_reducible apply GS) | (with_reducible show Mx.run (thn _ _) _ = _; first | with_reducible apply K_nil | with_reducible apply K_fset) | (with_reducible show Mx.run (evE _ _ _) _ = _; first | with_reducible apply X_var) | with_reducible exact s1 | with_reducible exact s2 | with_reducible exact pure_ok _))
theorem v_rinit (n : Nat) (ps : List P6) (b : D) : (callF tb (n + 1) "Reading.__init__" [.obj h.length, pgD ps, b]).run (h ++ [Ob.inst "Reading" []]) = .ok .non (h ++ [Ob.inst "Reading" [("makes", ms6), ("parts", .lst (ps.map P6.d)), ("records", .obj (h.length + 1)), ("said", .obj (h.length + 2)), ("left", b)], Ob.lst [], Ob.lst []]) := by
  unfold pgD
  obtain ⟨PD, hPD⟩ : ∃ PD, PD = D.lst (ps.map P6.d) := ⟨_, rfl⟩
  obtain ⟨MD, hMD⟩ : ∃ MD, MD = ms6 := ⟨_, rfl⟩
  rw [← hPD, ← hMD]
  have s1 : (fsetM (tb.cfg n) "makes" (.obj h.length) MD).run (h ++ [Ob.inst "Reading" []]) = .ok () (h ++ [Ob.inst "Reading" [("makes", MD)]]) := by
    rw [I_fset (rest := []) tn_Reading (by decide +kernel) (by simp)]; simp [putFD]
  have s2 : (fsetM (tb.cfg n) "parts" (.obj h.length) PD).run (h ++ [Ob.inst "Reading" [("makes", MD)]]) = .ok () (h ++ [Ob.inst "Reading" [("makes", MD), ("parts", PD)]]) := by
    rw [I_fset (rest := []) tn_Reading (by decide +kernel) (by simp)]; simp [putFD]
  have s3 : (fsetM (tb.cfg n) "records" (.obj h.length) (.obj (h ++ [Ob.inst "Reading" [("makes", MD), ("parts", PD)]]).length)).run ((h ++ [Ob.inst "Reading" [("makes", MD), ("parts", PD)]]) ++ [Ob.lst []]) = .ok () (h ++ [Ob.inst "Reading" [("makes", MD), ("parts", PD), ("records", .obj (h.length + 1))], Ob.lst []]) := by
    rw [I_fsetN (rest := []) tn_Reading (by decide +kernel) (by simp)]; simp [putFD]
  have s4 : (fsetM (tb.cfg n) "said" (.obj h.length) (.obj (h ++ [Ob.inst "Reading" [("makes", MD), ("parts", PD), ("records", .obj (h.length + 1))], Ob.lst []]).length)).run ((h ++ [Ob.inst "Reading" [("makes", MD), ("parts", PD), ("records", .obj (h.length + 1))], Ob.lst []]) ++ [Ob.lst []]) = .ok () (h ++ [Ob.inst "Reading" [("makes", MD), ("parts", PD), ("records", .obj (h.length + 1)), ("said", .obj (h.length + 2))], Ob.lst [], Ob.lst []]) := by
    rw [I_fsetN (rest := [Ob.lst []]) tn_Reading (by decide +kernel) (by simp)]; simp [putFD]
  have s5 : (fsetM (tb.cfg n) "left" (.obj h.length) b).run (h ++ [Ob.inst "Reading" [("makes", MD), ("parts", PD), ("records", .obj (h.length + 1)), ("said", .obj (h.length + 2))], Ob.lst [], Ob.lst []]) = .ok () (h ++ [Ob.inst "Reading" [("makes", MD), ("parts", PD), ("records", .obj (h.length + 1)), ("said", .obj (h.length + 2)), ("left", b)], Ob.lst [], Ob.lst []]) := by
    rw [I_fset (rest := [Ob.lst [], Ob.lst []]) tn_Reading (by decide +kernel) (by simp)]; simp [putFD]
  rw [callF_succ tb_Reading___init__]
  apply F_nx rfl rfl; simp only [List.length, Nat.reduceAdd, Nat.reduceSub, Nat.sub_self, List.replicate, List.map_cons, List.map_nil, List.cons_append, List.nil_append, fReading___init__]
  (repeat' (first | (with_reducible show _[_]? = _; first | with_reducible exact G0 | with_reducible apply GS) | (with_reducible show Mx.run (thn _ _) _ = _; first | with_reducible apply K_nil | with_reducible apply K_fset) | (with_reducible show Mx.run (evE _ _ _) _ = _; first | with_reducible exact X_int | with_reducible apply X_var | with_reducible apply X_pkv | with_reducible apply X_lst | with_reducible apply X_idx | with_reducible apply X_new) | (with_reducible show Mx.run (evCs _ _ _) _ = _; first | with_reducible exact X_nil) | with_reducible exact frC_lst | with_reducible exact SD1 | with_reducible exact s1 | with_reducible exact s2 | with_reducible exact s3 | with_reducible exact s4 | with_reducible exact s5 | with_reducible exact pure_ok _ | (with_reducible apply run_of; simp []; first | done | exact rfl) | (simp [frC, D.isC, D.isL, LINE]; done)))
theorem val6_ex {q : P6} (ok : q.ok) {ins : List Int} (hd : dr6 q ins.length = true) : ∃ v, val6 q ins = some v := by
  unfold val6
  cases e : q.an with
  | num w => exact ⟨w, rfl⟩
  | var x =>
    have hm := ok.an x e
    unfold dr6 at hd
    simp only [Bool.and_eq_true, decide_eq_true_eq] at hd
    obtain ⟨i, hi⟩ := List.getElem?_of_mem hm
    have li := (List.getElem?_eq_some_iff.mp hi).1
    obtain ⟨v, hv⟩ : ∃ v, ins[i]? = some v := ⟨_, List.getElem?_eq_getElem (by omega)⟩
    have hz : (q.nm.zip ins)[i]? = some ((x, true), v) := List.getElem?_zip_eq_some.mpr ⟨hi, hv⟩
    show ∃ v, ((q.nm.zip ins).find? fun z => decide (z.1.1 = x)).map (·.2) = some v
    cases f : (q.nm.zip ins).find? fun z => decide (z.1.1 = x) with
    | none =>
      rw [List.find?_eq_none] at f
      exact absurd (decide_eq_true rfl) (f _ (List.mem_of_getElem? hz))
    | some z => exact ⟨z.2, rfl⟩
theorem v_answer (n : Nat) {q : P6} {ins : List Int} {v : Int} (hv : val6 q ins = some v) (a f : Nat) {d : D} (hf : h[f]? = some (Ob.inst "Frame" [("deep", d), ("names", .dic (kv6 (q.nm.zip ins)))])) : (callF tb (n + 1) "value_of" [.obj a, .obj f, q.an.d]).run h = .ok (.int v) h := by
  have fn := H_fld (T := tb) (n := n) (f := "names") hf tn_Frame (by decide +kernel) (d := .dic (kv6 (q.nm.zip ins))) (by simp [List.lookup])
  rw [callF_succ tb_value_of]
  unfold val6 at hv
  cases e : q.an with
  | num w =>
    rw [e] at hv
    cases hv
    show Mx.run (runF (tb.cfg n) fvalue_of [.obj a, .obj f, .tup [.str "num", .int v]]) h = _
    refine F_rt rfl ?_; simp only [List.length, Nat.reduceAdd, Nat.reduceSub, Nat.sub_self, List.replicate, List.map_cons, List.map_nil, List.cons_append, List.nil_append, fvalue_of]
    (repeat' (first | (with_reducible show _[_]? = _; first | with_reducible exact G0 | with_reducible apply GS) | (with_reducible show List.set _ _ _ = _; first | with_reducible exact Z0 | with_reducible apply ZS) | (with_reducible show Mx.run (thn _ _) _ = _; first | with_reducible apply K_set | with_reducible apply K_ite | with_reducible refine K_ret rfl ?_) | (with_reducible show Mx.run (evE _ _ _) _ = _; first | with_reducible exact X_int | with_reducible exact X_str | with_reducible apply X_pkv | with_reducible apply X_idx) | (with_reducible show Mx.run (evT _ _ _) _ = _; first | with_reducible apply T_cmp) | (with_reducible show Mx.run (sel _ _ _) _ = _; first | (with_reducible apply sel_t; focus (simp []; done))) | with_reducible exact SD1 | (with_reducible apply run_of; simp []; first | done | exact rfl)))
  | var x =>
    rw [e] at hv
    have hv : ((q.nm.zip ins).find? fun z => decide (z.1.1 = x)).map (·.2) = some v := hv
    have dg : (dgetM (.dic (kv6 (q.nm.zip ins))) (.str x)).run h = .ok (.int v) h := by
      show Mx.lift (getD_ (kv6 (q.nm.zip ins)) (.str x)) h = _
      rw [kv_get]
      cases f : (q.nm.zip ins).find? fun z => decide (z.1.1 = x) with
      | none => rw [f] at hv; cases hv
      | some z => rw [f] at hv; cases hv; rfl
    show Mx.run (runF (tb.cfg n) fvalue_of [.obj a, .obj f, .tup [.str "var", .str x]]) h = _
    obtain ⟨KV, hKV⟩ : ∃ KV, KV = kv6 (q.nm.zip ins) := ⟨_, rfl⟩
    rw [← hKV] at fn dg
    refine F_rt rfl ?_; simp only [List.length, Nat.reduceAdd, Nat.reduceSub, Nat.sub_self, List.replicate, List.map_cons, List.map_nil, List.cons_append, List.nil_append, fvalue_of]
    (repeat' (first | (with_reducible show _[_]? = _; first | with_reducible exact G0 | with_reducible apply GS) | (with_reducible show List.set _ _ _ = _; first | with_reducible exact Z0 | with_reducible apply ZS) | (with_reducible show Mx.run (thn _ _) _ = _; first | with_reducible apply K_set | with_reducible apply K_ite | with_reducible refine K_ret rfl ?_ | with_reducible apply K_nil) | (with_reducible show Mx.run (evE _ _ _) _ = _; first | with_reducible exact X_int | with_reducible exact X_str | with_reducible apply X_var | with_reducible apply X_pkv | with_reducible apply X_idx | with_reducible apply X_dget | with_reducible apply X_fld) | (with_reducible show Mx.run (evT _ _ _) _ = _; first | with_reducible apply T_cmp) | (with_reducible show Mx.run (sel _ _ _) _ = _; first | (with_reducible apply sel_t; focus (simp []; done)) | (with_reducible apply sel_f; focus (simp []; done))) | with_reducible exact SD1 | with_reducible exact fn | with_reducible exact dg | (with_reducible apply run_of; simp []; first | done | exact rfl)))
theorem v_given (n : Nat) {i : Nat} {q : P6} (hq : ps[i]? = some q) (ok : q.ok) {ins : List Int} (hd : dr6 q ins.length = true) {v : Int} (hv : val6 q ins = some v) {a : Nat} {fs : List (Str × D)} (ha : h[a]? = some (Ob.inst "Reading" fs)) (hp : List.lookup ("parts" : Str) fs = some (D.lst (ps.map P6.d))) : (callF tb (n + 3) "part_given" [.obj a, .int (i : Int), .lst (ins.map .int), .int 1]).run h = .ok (.int v) (h ++ [Ob.inst "Frame" [("deep", .int 1), ("names", .dic (kv6 (q.nm.zip ins)))]]) := by
  have hg : q.gv = true := by
    unfold dr6 at hd
    simp only [Bool.and_eq_true] at hd
    exact hd.1.2
  have fp := H_fld (T := tb) (n := n + 2) (f := "parts") ha tn_Reading (by decide +kernel) hp
  have ix := p6_at hq
  rw [hg, if_pos rfl, if_pos rfl] at ix
  have dl := fun x0 x1 x2 x3 x5 x6 x7 x8 x9 x10 => dict_loop (h := h) (n + 2) ok.nm ok.len ins x0 x1 x2 x3 x5 x6 x7 x8 x9 x10
  have zz : zipDD (.lst (q.nm.map n6D)) (.lst (ins.map D.int)) = some ((q.nm.zip ins).map fun q => .tup [n6D q.1, .int q.2]) := congrArg some (zip_map n6D D.int q.nm ins)
  have ni : ∀ (S : RS) (as : Cs), (evCs (tb.cfg (n + 2)) as S).run h = .ok [.int 1, .dic (kv6 (q.nm.zip ins))] h → (evE (tb.cfg (n + 2)) (.ni "Frame" as) S).run h = .ok (.obj h.length) (h ++ [Ob.inst "Frame" [("deep", .int 1), ("names", .dic (kv6 (q.nm.zip ins)))]]) := fun S as e => X_ni tn_Frame (by show n + 2 ≠ 0; omega) e (by
    show (mkF tb (n + 2) "Frame" _).run _ = _
    unfold mkF
    rw [tk_Frame]
    exact v_finit n _ _)
  have ld : (callF tb (n + 2) "list_done" [.obj a, .obj h.length, .lst []]).run (h ++ [Ob.inst "Frame" [("deep", .int 1), ("names", .dic (kv6 (q.nm.zip ins)))]]) = .ok .non (h ++ [Ob.inst "Frame" [("deep", .int 1), ("names", .dic (kv6 (q.nm.zip ins)))]]) := by
    rw [callF_succ tb_list_done]
    refine F_rt rfl ?_; simp only [List.length, Nat.reduceAdd, Nat.reduceSub, Nat.sub_self, List.replicate, List.map_cons, List.map_nil, List.cons_append, List.nil_append, flist_done]
    (repeat' (first | with_reducible apply forL_nil | (with_reducible show _[_]? = _; first | with_reducible exact G0 | with_reducible apply GS) | (with_reducible show Mx.run (thn _ _) _ = _; first | with_reducible refine K_ret rfl ?_ | with_reducible apply K_for) | (with_reducible show Mx.run (evE _ _ _) _ = _; first | with_reducible exact X_non | with_reducible apply X_var) | (with_reducible show Mx.run (evIt _ _ _) _ = _; first | with_reducible apply I_seq) | (with_reducible show Mx.run (thnF _ _) _ = _; first | with_reducible apply N_nx) | with_reducible apply sq1))
  have an := v_answer (h := h ++ [Ob.inst "Frame" [("deep", .int 1), ("names", .dic (kv6 (q.nm.zip ins)))]]) (n + 1) hv a h.length (d := .int 1) (by rw [List.getElem?_append_right (Nat.le_refl _)]; simp)
  obtain ⟨PD, hPD⟩ : ∃ PD, PD = ps.map P6.d := ⟨_, rfl⟩
  obtain ⟨ND, hND⟩ : ∃ ND, ND = q.nm.map n6D := ⟨_, rfl⟩
  obtain ⟨IN, hIN⟩ : ∃ IN, IN = ins.map D.int := ⟨_, rfl⟩
  obtain ⟨ZD, hZD⟩ : ∃ ZD, ZD = (q.nm.zip ins).map fun q => D.tup [n6D q.1, .int q.2] := ⟨_, rfl⟩
  obtain ⟨KV, hKV⟩ : ∃ KV, KV = kv6 (q.nm.zip ins) := ⟨_, rfl⟩
  obtain ⟨AD, hAD⟩ : ∃ AD, AD = q.an.d := ⟨_, rfl⟩
  rw [← hPD] at fp ix
  rw [← hND, ← hAD] at ix
  rw [← hZD, ← hKV] at dl
  rw [← hND, ← hIN, ← hZD] at zz
  rw [← hKV] at ni ld an
  rw [← hAD] at an
  rw [← hIN, ← hKV]
  rw [callF_succ tb_part_given]
  refine F_rt rfl ?_; simp only [List.length, Nat.reduceAdd, Nat.reduceSub, Nat.sub_self, List.replicate, List.map_cons, List.map_nil, List.cons_append, List.nil_append, fpart_given]
  (repeat' (first | with_reducible apply (dl _ _ _ _ _ _ _ _ _ _) | with_reducible apply ni _ _ | (with_reducible show _[_]? = _; first | with_reducible exact G0 | with_reducible apply GS) | (with_reducible show List.set _ _ _ = _; first | with_reducible exact Z0 | with_reducible apply ZS) | (with_reducible show Mx.run (thn _ _) _ = _; first | with_reducible apply K_set | with_reducible apply K_ite | with_reducible refine K_ret rfl ?_ | with_reducible apply K_for | with_reducible apply K_unp | with_reducible apply K_seto | with_reducible apply K_frz) | (with_reducible show Mx.run (evE _ _ _) _ = _; first | with_reducible exact X_non | with_reducible apply X_var | with_reducible apply X_pkv | with_reducible apply X_idx | with_reducible apply X_call | with_reducible exact X_dnew | with_reducible apply X_fld) | (with_reducible show Mx.run (evCs _ _ _) _ = _; first | with_reducible exact X_nil | with_reducible apply X_cons) | (with_reducible show Mx.run (evT _ _ _) _ = _; first | with_reducible apply T_cmp) | (with_reducible show Mx.run (evIt _ _ _) _ = _; first | with_reducible apply I_zip) | (with_reducible show Mx.run (thnF _ _) _ = _; first | with_reducible apply N_nx) | (with_reducible show Mx.run (sel _ _ _) _ = _; first | (with_reducible apply sel_t; focus (simp []; done))) | with_reducible exact SD1 | with_reducible exact fp | with_reducible exact run_of ix | with_reducible exact zz | with_reducible exact ld | with_reducible exact an | with_reducible apply A4 | (with_reducible apply run_of; simp []; first | done | exact rfl) | (simp [frC, D.isC, D.isL, LINE]; done)))
end
theorem SX_ex {Γ : Cfg} {s : RS} {h h1 : HP} {c : C} {y : D} (e : (evE Γ c s).run h = .exc y h1) : (evS Γ (.ex c) s).run h = .exc (y, s) h1 := by
  show evS Γ (.ex c) s h = _
  rw [evS]; exact bind_exc (atX e)
theorem mkc_run {n : Nat} {c g : Str} (hi : tb.ini c = some g) {ds : List D} {h h2 : HP} (e : (callF tb (n + 1) g ds).run h = .ok .non h2) : ((tb.cfg (n + 2)).mkc c ds).run h = .ok .non h2 := by
  have q : (tb.cfg (n + 2)).mkc c ds = mkF tb (n + 2) c ds := rfl
  rw [q]
  unfold mkF
  simp only [hi]
  exact e
section
variable {ps : List P6} {h : HP}
abbrev rdO (ps : List P6) (h : HP) (b : Nat) : Ob := Ob.inst "Reading" [("makes", ms6), ("parts", .lst (ps.map P6.d)), ("records", .obj (h.length + 1)), ("said", .obj (h.length + 2)), ("left", .int (b : Int))]
theorem v_prun (n : Nat) (hp : ∀ q ∈ ps, q.ok) (p : Int) (ins : List Int) (b : Nat) :
    (∀ i q v, p = ((i : Nat) : Int) → ps[i]? = some q → dr6 q ins.length = true → val6 q ins = some v → ∃ h', (callF tb (n + 5) "plain_run" [pgD ps, .int p, .lst (ins.map .int), .int (b : Int)]).run h = .ok (.tup [.tup [.str "gave", .int v], .obj (h.length + 2), .int (b : Int)]) h' ∧ h'[h.length + 2]? = some (.lst [])) ∧
    (door6 ps p ins.length = false → (callF tb (n + 5) "plain_run" [pgD ps, .int p, .lst (ins.map .int), .int (b : Int)]).run h = .exc XD h) := by
  have pz : idxM (pgD ps) (.int 1) = .pure (.lst (ps.map P6.d)) := it1 _ _ _
  constructor
  · rintro i q v rfl hq hd hv
    have ok := hp q (List.mem_of_getElem? hq)
    have dr : door6 ps (i : Int) ins.length = true := by
      unfold door6
      have li := (List.getElem?_eq_some_iff.mp hq).1
      rw [if_pos ⟨by omega, by omega⟩, Int.toNat_natCast, hq]
      exact hd
    have nd := (v_need (h := h) (n + 3) hp (i : Int) ins).1 dr
    have ni : ∀ (S : RS) (as : Cs), (evCs (tb.cfg (n + 4)) as S).run h = .ok [pgD ps, .int (b : Int)] h → (evE (tb.cfg (n + 4)) (.ni "Reading" as) S).run h = .ok (.obj h.length) (h ++ [rdO ps h b, Ob.lst [], Ob.lst []]) := fun S as e => X_ni tn_Reading (by show n + 4 ≠ 0; omega) e (mkc_run (n := n + 2) tk_Reading (v_rinit (n + 2) ps _))
    have at1 : (h ++ [rdO ps h b, Ob.lst [], Ob.lst []])[h.length]? = some (rdO ps h b) := by
      rw [List.getElem?_append_right (Nat.le_refl _)]; simp
    obtain ⟨F, hF⟩ : ∃ F, F = Ob.inst "Frame" [("deep", .int 1), ("names", .dic (kv6 (q.nm.zip ins)))] := ⟨_, rfl⟩
    have gv := v_given (n + 1) hq ok hd hv at1 (by simp [List.lookup])
    rw [← hF] at gv
    have at2 : ((h ++ [rdO ps h b, Ob.lst [], Ob.lst []]) ++ [F])[h.length]? = some (rdO ps h b) := by
      rw [List.getElem?_append_left (by simp)]; exact at1
    have at3 : ((h ++ [rdO ps h b, Ob.lst [], Ob.lst []]) ++ [F])[h.length + 2]? = some (.lst []) := by
      rw [List.getElem?_append_left (by simp), List.getElem?_append_right (by omega)]
      simp
    have fs := H_fld (T := tb) (n := n + 4) (f := "said") at2 tn_Reading (by decide +kernel) (d := .obj (h.length + 2)) (by simp [List.lookup])
    have fl := H_fld (T := tb) (n := n + 4) (f := "left") at2 tn_Reading (by decide +kernel) (d := .int (b : Int)) (by simp [List.lookup])
    refine ⟨_, ?_, at3⟩
    obtain ⟨H1, hH1⟩ : ∃ H1, H1 = h ++ [rdO ps h b, Ob.lst [], Ob.lst []] := ⟨_, rfl⟩
    obtain ⟨H2, hH2⟩ : ∃ H2, H2 = (h ++ [rdO ps h b, Ob.lst [], Ob.lst []]) ++ [F] := ⟨_, rfl⟩
    obtain ⟨PG, hPG⟩ : ∃ PG, PG = pgD ps := ⟨_, rfl⟩
    obtain ⟨PD, hPD⟩ : ∃ PD, PD = D.lst (ps.map P6.d) := ⟨_, rfl⟩
    obtain ⟨IN, hIN⟩ : ∃ IN, IN = ins.map D.int := ⟨_, rfl⟩
    rw [← hH2] at gv fs fl ⊢
    rw [← hH1] at gv ni
    rw [← hPG] at ni pz ⊢
    rw [← hPD] at nd pz
    rw [← hIN] at nd gv ⊢
    rw [callF_succ tb_plain_run]
    have et : (thn (evSs (tb.cfg (n + 4)) y0plain_run [.val PG, .val (.int (i : Int)), .val (.lst IN), .val (.int (b : Int)), .val (.obj h.length), .un, .un, .un]) fun s => .pure (.nx s)).run H1 = .ok (.nx [.val PG, .val (.int (i : Int)), .val (.lst IN), .val (.int (b : Int)), .val (.obj h.length), .un, .val (.int v), .un]) H2 := by
      rw [y0plain_run]
      (repeat' (first | (with_reducible show _[_]? = _; first | with_reducible exact G0 | with_reducible apply GS) | (with_reducible show List.set _ _ _ = _; first | with_reducible exact Z0 | with_reducible apply ZS) | (with_reducible show Mx.run (thn _ _) _ = _; first | with_reducible apply K_set | with_reducible apply K_nil) | (with_reducible show Mx.run (evE _ _ _) _ = _; first | with_reducible exact X_int | with_reducible apply X_var | with_reducible apply X_call) | (with_reducible show Mx.run (evCs _ _ _) _ = _; first | with_reducible exact X_nil | with_reducible apply X_cons) | with_reducible exact gv | with_reducible exact pure_ok _))
    refine F_rt rfl ?_; simp only [List.length, Nat.reduceAdd, Nat.reduceSub, Nat.sub_self, List.replicate, List.map_cons, List.map_nil, List.cons_append, List.nil_append, fplain_run, z1plain_run]
    (repeat' (first | with_reducible apply ni _ _ | with_reducible apply (K_tryN et) | (with_reducible show _[_]? = _; first | with_reducible exact G0 | with_reducible apply GS) | (with_reducible show List.set _ _ _ = _; first | with_reducible exact Z0 | with_reducible apply ZS) | (with_reducible show Mx.run (thn _ _) _ = _; first | with_reducible apply K_set | with_reducible refine K_ret rfl ?_ | with_reducible apply K_kill | with_reducible apply K_nil | with_reducible apply K_ex) | (with_reducible show Mx.run (evE _ _ _) _ = _; first | with_reducible exact X_int | with_reducible exact X_str | with_reducible apply X_var | with_reducible apply X_pkv | with_reducible apply X_tup | with_reducible apply X_idx | with_reducible apply X_call | with_reducible apply X_fld) | (with_reducible show Mx.run (evCs _ _ _) _ = _; first | with_reducible exact X_nil | with_reducible apply X_cons) | with_reducible exact SD1 | with_reducible exact W0 | with_reducible apply WS | with_reducible exact nd | with_reducible exact run_of pz | with_reducible exact fs | with_reducible exact fl | (simp [frC, D.isC, D.isL, LINE]; done)))
  · intro dr
    have nd := (v_need (h := h) (n + 3) hp p ins).2 dr
    obtain ⟨PG, hPG⟩ : ∃ PG, PG = pgD ps := ⟨_, rfl⟩
    obtain ⟨PD, hPD⟩ : ∃ PD, PD = D.lst (ps.map P6.d) := ⟨_, rfl⟩
    obtain ⟨IN, hIN⟩ : ∃ IN, IN = ins.map D.int := ⟨_, rfl⟩
    rw [← hPG, ← hPD] at pz
    rw [← hPD, ← hIN] at nd
    rw [← hPG, ← hIN]
    rw [callF_succ tb_plain_run]
    apply F_exc rfl
    simp only [fplain_run, List.length, Nat.reduceAdd, Nat.reduceSub, Nat.sub_self, List.replicate, List.map_cons, List.map_nil, List.cons_append, List.nil_append]
    exact K_exc (SX_ex (XX_callX (xs := [PD, .int p, .lst IN]) (by (repeat' (first | (with_reducible show _[_]? = _; first | with_reducible exact G0 | with_reducible apply GS) | (with_reducible show Mx.run (evE _ _ _) _ = _; first | with_reducible exact X_int | with_reducible apply X_var | with_reducible apply X_pkv | with_reducible apply X_idx) | (with_reducible show Mx.run (evCs _ _ _) _ = _; first | with_reducible exact X_nil | with_reducible apply X_cons) | with_reducible exact SD1 | with_reducible exact run_of pz))) nd)) rfl
theorem v_told6 (n : Nat) (hp : ∀ q ∈ ps, q.ok) (p : Int) (ins : List Int) (b : Nat) :
    (∀ i q v, p = ((i : Nat) : Int) → ps[i]? = some q → dr6 q ins.length = true → val6 q ins = some v → ∃ h', (callF tb (n + 6) "_law_told" [pgD ps, .int p, .lst (ins.map .int), .int (b : Int)]).run h = .ok (.tup [.tup [.str "gave", .int v], .obj (h.length + 2), .int (b : Int)]) h' ∧ h'[h.length + 2]? = some (.lst [])) ∧
    (door6 ps p ins.length = false → (callF tb (n + 6) "_law_told" [pgD ps, .int p, .lst (ins.map .int), .int (b : Int)]).run h = .ok (.tup [.str "door", .bl true, .int 0]) h) := by
  constructor
  · intro i q v hpi hq hd hv
    obtain ⟨h', e, e2⟩ := (v_prun (h := h) n hp p ins b).1 i q v hpi hq hd hv
    refine ⟨h', ?_, e2⟩
    obtain ⟨PG, hPG⟩ : ∃ PG, PG = pgD ps := ⟨_, rfl⟩
    obtain ⟨IN, hIN⟩ : ∃ IN, IN = ins.map D.int := ⟨_, rfl⟩
    rw [← hPG, ← hIN] at e ⊢
    obtain ⟨R, hR⟩ : ∃ R, R = D.tup [.tup [.str "gave", .int v], .obj (h.length + 2), .int (b : Int)] := ⟨_, rfl⟩
    rw [← hR] at e ⊢
    have et : (thn (evSs (tb.cfg (n + 5)) y0_law_told [.val PG, .val (.int p), .val (.lst IN), .val (.int (b : Int)), .val (.tup [.str "none", .lst [], .int 0]), .un, .un, .un]) fun s => .pure (.nx s)).run h = .ok (.nx [.val PG, .val (.int p), .val (.lst IN), .val (.int (b : Int)), .val (.tup [.str "none", .lst [], .int 0]), .un, .val R, .un]) h' := by
      rw [y0_law_told]
      (repeat' (first | (with_reducible show _[_]? = _; first | with_reducible exact G0 | with_reducible apply GS) | (with_reducible show List.set _ _ _ = _; first | with_reducible exact Z0 | with_reducible apply ZS) | (with_reducible show Mx.run (thn _ _) _ = _; first | with_reducible apply K_set | with_reducible apply K_nil) | (with_reducible show Mx.run (evE _ _ _) _ = _; first | with_reducible apply X_var | with_reducible apply X_call) | (with_reducible show Mx.run (evCs _ _ _) _ = _; first | with_reducible exact X_nil | with_reducible apply X_cons) | with_reducible exact e | with_reducible exact pure_ok _))
    rw [callF_succ tb__law_told]
    refine F_rt rfl ?_; simp only [List.length, Nat.reduceAdd, Nat.reduceSub, Nat.sub_self, List.replicate, List.map_cons, List.map_nil, List.cons_append, List.nil_append, f_law_told, z1_law_told]
    (repeat' (first | with_reducible apply (K_tryN et) | (with_reducible show _[_]? = _; first | with_reducible exact G0 | with_reducible apply GS) | (with_reducible show List.set _ _ _ = _; first | with_reducible exact Z0 | with_reducible apply ZS) | (with_reducible show Mx.run (thn _ _) _ = _; first | with_reducible apply K_set | with_reducible refine K_ret rfl ?_ | with_reducible apply K_kill | with_reducible apply K_nil) | (with_reducible show Mx.run (evE _ _ _) _ = _; first | with_reducible exact X_int | with_reducible exact X_str | with_reducible apply X_var | with_reducible apply X_tup | with_reducible apply X_lst) | (with_reducible show Mx.run (evCs _ _ _) _ = _; first | with_reducible exact X_nil | with_reducible apply X_cons) | with_reducible exact W0 | with_reducible apply WS | (simp [frC, D.isC, D.isL, LINE]; done)))
  · intro dr
    have e := (v_prun (h := h) n hp p ins b).2 dr
    obtain ⟨PG, hPG⟩ : ∃ PG, PG = pgD ps := ⟨_, rfl⟩
    obtain ⟨IN, hIN⟩ : ∃ IN, IN = ins.map D.int := ⟨_, rfl⟩
    rw [← hPG, ← hIN] at e ⊢
    have i1 := isx_of (n + 5) (c := "WardenError") (v := true) (by decide +kernel)
    have i2 := isx_of (n + 5) (c := "ValueError") (v := true) (by decide +kernel)
    have i3 := isx_of (n + 5) (c := "NoBook") (v := false) (by decide +kernel)
    have i4 := isx_of (n + 5) (c := "NoTree") (v := false) (by decide +kernel)
    have ex : (thn (evSs (tb.cfg (n + 5)) y0_law_told [.val PG, .val (.int p), .val (.lst IN), .val (.int (b : Int)), .val (.tup [.str "none", .lst [], .int 0]), .un, .un, .un]) fun s => .pure (.nx s)).run h = .exc (XD, [.val PG, .val (.int p), .val (.lst IN), .val (.int (b : Int)), .val (.tup [.str "none", .lst [], .int 0]), .un, .un, .un]) h := by
      rw [y0_law_told]
      exact K_exc (SX_set (XX_callX (xs := [PG, .int p, .lst IN, .int (b : Int)]) (by (repeat' (first | (with_reducible show _[_]? = _; first | with_reducible exact G0 | with_reducible apply GS) | (with_reducible show Mx.run (evE _ _ _) _ = _; first | with_reducible apply X_var) | (with_reducible show Mx.run (evCs _ _ _) _ = _; first | with_reducible exact X_nil | with_reducible apply X_cons)))) e)) rfl
    have hd : (evHs (tb.cfg (n + 5)) (.cons "NoDoor" (some 5) x2_law_told .nil) XD [.val PG, .val (.int p), .val (.lst IN), .val (.int (b : Int)), .val (.tup [.str "none", .lst [], .int 0]), .un, .un, .un]).run h = .ok (.nx [.val PG, .val (.int p), .val (.lst IN), .val (.int (b : Int)), .val (.tup [.str "door", .bl true, .int 0]), .un, .un, .val (.bl true)]) h := by
      refine H_hit (s1 := [.val PG, .val (.int p), .val (.lst IN), .val (.int (b : Int)), .val (.tup [.str "door", .bl true, .int 0]), .val XD, .un, .val (.bl true)]) ?_ ?_
      · show tb.isa "NoDoor" "NoDoor" = some true
        decide +kernel
      · show (evSs (tb.cfg (n + 5)) x2_law_told [.val PG, .val (.int p), .val (.lst IN), .val (.int (b : Int)), .val (.tup [.str "none", .lst [], .int 0]), .val XD, .un, .un]).run h = _
        apply K_run
        rw [x2_law_told]
        (repeat' (first | (with_reducible show _[_]? = _; first | with_reducible exact G0 | with_reducible apply GS) | (with_reducible show List.set _ _ _ = _; first | with_reducible exact Z0 | with_reducible apply ZS) | (with_reducible show Mx.run (thn _ _) _ = _; first | with_reducible apply K_set | with_reducible apply K_nil) | (with_reducible show Mx.run (evE _ _ _) _ = _; first | with_reducible exact X_int | with_reducible exact X_str | with_reducible apply X_var | with_reducible apply X_not | with_reducible apply X_tup | with_reducible apply X_isx | with_reducible apply V_and) | (with_reducible show Mx.run (evCs _ _ _) _ = _; first | with_reducible exact X_nil | with_reducible apply X_cons) | (with_reducible show Mx.run (sel _ _ _) _ = _; first | (with_reducible apply sel_t; focus (simp []; done))) | with_reducible exact run_of i1 | with_reducible exact run_of i2 | with_reducible exact run_of i3 | with_reducible exact run_of i4 | with_reducible apply V_and1 | with_reducible apply V_andS | (with_reducible apply run_of; simp []; first | done | exact rfl) | (simp [frC, D.isC, D.isL, LINE]; done)))
    rw [callF_succ tb__law_told]
    refine F_rt rfl ?_; simp only [List.length, Nat.reduceAdd, Nat.reduceSub, Nat.sub_self, List.replicate, List.map_cons, List.map_nil, List.cons_append, List.nil_append, f_law_told]
    apply K_set
    · exact X_tup (xs := [.str "none", .lst [], .int 0]) (by (repeat' (first | (with_reducible show Mx.run (evE _ _ _) _ = _; first | with_reducible exact X_int | with_reducible exact X_str | with_reducible apply X_lst) | (with_reducible show Mx.run (evCs _ _ _) _ = _; first | with_reducible exact X_nil | with_reducible apply X_cons) | (simp [frC, D.isC, D.isL, LINE]; done)))) (by simp [LINE])
    · rfl
    · refine K_tryX ex ?_
      refine (thn_nx hd).trans ?_
      (repeat' (first | (with_reducible show _[_]? = _; first | with_reducible exact G0 | with_reducible apply GS) | (with_reducible show List.set _ _ _ = _; first | with_reducible exact Z0 | with_reducible apply ZS) | (with_reducible show Mx.run (thn _ _) _ = _; first | with_reducible refine K_ret rfl ?_ | with_reducible apply K_kill) | (with_reducible show Mx.run (evE _ _ _) _ = _; first | with_reducible apply X_var) | with_reducible exact W0 | with_reducible apply WS))
theorem v_whole (n : Nat) (z : Int) : (callF tb (n + 1) "_law_whole" [.int z]).run h = .ok (.bl true) h := by
  rw [callF_succ tb__law_whole]
  have nb : (evE (tb.cfg n) (.not (.isi "bool" (.pk 0))) [.val (.int z)]).run h = .ok (.bl true) h := X_not (p := false) (x := .bl false) (h1 := h) (by (repeat' (first | (with_reducible show _[_]? = _; first | with_reducible exact G0) | (with_reducible show Mx.run (evE _ _ _) _ = _; first | with_reducible apply X_pkv | with_reducible apply X_isi) | with_reducible exact SD1 | (with_reducible apply run_of; simp []; first | done | exact rfl)))) rfl
  refine F_rt rfl ?_; simp only [List.length, Nat.reduceAdd, Nat.reduceSub, Nat.sub_self, List.replicate, List.map_cons, List.map_nil, List.cons_append, List.nil_append, f_law_whole]
  (repeat' (first | with_reducible exact nb | (with_reducible show _[_]? = _; first | with_reducible exact G0) | (with_reducible show Mx.run (thn _ _) _ = _; first | with_reducible refine K_ret rfl ?_) | (with_reducible show Mx.run (evE _ _ _) _ = _; first | with_reducible apply X_pkv | with_reducible apply X_isi | with_reducible apply V_and) | (with_reducible show Mx.run (sel _ _ _) _ = _; first | (with_reducible apply sel_t; focus (simp []; done))) | with_reducible exact SD1 | with_reducible apply V_and1 | with_reducible apply V_andS | (with_reducible apply run_of; simp []; first | done | exact rfl)))
theorem v_rightD (n : Nat) (b : Nat) : (callF tb (n + 2) "_law_right" [.tup [.str "door", .bl true, .int 0], .non, .int (b : Int)]).run h = .ok (.bl true) h := by
  have eq : cmpM .Eq (.tup [.str "door", .bl true, .int 0]) (.tup [.str "door", .bl true, .int 0]) = .pure true := eq_tup (n := 1) (by decide) (by decide +kernel)
  have ln : biM "len" [.tup [.str "door", .bl true, .int 0]] = .pure (.int 3) := by simp
  rw [callF_succ tb__law_right]
  refine F_rt rfl ?_; simp only [List.length, Nat.reduceAdd, Nat.reduceSub, Nat.sub_self, List.replicate, List.map_cons, List.map_nil, List.cons_append, List.nil_append, f_law_right]
  (repeat' (first | (with_reducible show _[_]? = _; first | with_reducible exact G0 | with_reducible apply GS) | (with_reducible show Mx.run (thn _ _) _ = _; first | with_reducible apply K_ite | with_reducible refine K_ret rfl ?_ | with_reducible apply K_nil) | (with_reducible show Mx.run (evE _ _ _) _ = _; first | with_reducible exact X_int | with_reducible exact X_str | with_reducible exact X_bl | with_reducible exact X_non | with_reducible apply X_pkv | with_reducible apply X_cmp | with_reducible apply X_tup | with_reducible apply X_bi | with_reducible apply X_isi) | (with_reducible show Mx.run (evCs _ _ _) _ = _; first | with_reducible exact X_nil | with_reducible apply X_cons) | (with_reducible show Mx.run (evT _ _ _) _ = _; first | with_reducible apply T_cmp | with_reducible apply T_not | with_reducible apply T_or | with_reducible apply T_val t_isi) | (with_reducible show Mx.run (sel _ _ _) _ = _; first | (with_reducible apply sel_t; focus (simp []; done)) | (with_reducible apply sel_f; focus (simp []; done))) | with_reducible exact SD1 | with_reducible exact run_of eq | with_reducible exact run_of ln | with_reducible apply T_or1 | with_reducible apply T_orS | (with_reducible apply run_of; simp []; first | done | exact rfl) | (simp [frC, D.isC, D.isL, LINE]; done)))
theorem v_rightG (n : Nat) (v : Int) (b k : Nat) (hk : h[k]? = some (.lst [])) : (callF tb (n + 2) "_law_right" [.tup [.tup [.str "gave", .int v], .obj k, .int (b : Int)], .int v, .int (b : Int)]).run h = .ok (.bl true) h := by
  have sg : PyData.strOk "gave" = true := by decide +kernel
  have eq : cmpM .Eq (.tup [.str "gave", .int v]) (.tup [.str "gave", .int v]) = .pure true := eq_tup (n := 1) (by decide) (by simp [okDs, okD, sg])
  have ln : biM "len" [.tup [.tup [.str "gave", .int v], .obj k, .int (b : Int)]] = .pure (.int 3) := by simp
  have ln2 : biM "len" [.tup [.str "gave", .int v]] = .pure (.int 2) := by simp
  have il : (isiM "list" (.obj k)).run h = .ok true h := isi_o hk (by simp)
  have el : (cmpM .Eq (.obj k) (.lst [])).run h = .ok true h := cmp_o hk (eq_lst (n := 2) (by decide) rfl)
  have w1 := v_whole (h := h) n v
  have w2 := v_whole (h := h) n (b : Int)
  obtain ⟨B, hB⟩ : ∃ B : Int, B = (b : Int) := ⟨_, rfl⟩
  rw [← hB] at ln w2 ⊢
  rw [callF_succ tb__law_right]
  refine F_rt rfl ?_; simp only [List.length, Nat.reduceAdd, Nat.reduceSub, Nat.sub_self, List.replicate, List.map_cons, List.map_nil, List.cons_append, List.nil_append, f_law_right]
  (repeat' (first | (with_reducible show _[_]? = _; first | with_reducible exact G0 | with_reducible apply GS) | (with_reducible show List.set _ _ _ = _; first | with_reducible exact Z0 | with_reducible apply ZS) | (with_reducible show Mx.run (thn _ _) _ = _; first | with_reducible apply K_ite | with_reducible refine K_ret rfl ?_ | with_reducible apply K_nil | with_reducible apply K_unp) | (with_reducible show Mx.run (evE _ _ _) _ = _; first | with_reducible exact X_int | with_reducible exact X_str | with_reducible exact X_non | with_reducible apply X_var | with_reducible apply X_pkv | with_reducible apply X_cmp | with_reducible apply X_tup | with_reducible apply X_lst | with_reducible apply X_idx | with_reducible apply X_call | with_reducible apply X_bi | with_reducible apply X_isi | with_reducible apply V_and) | (with_reducible show Mx.run (evCs _ _ _) _ = _; first | with_reducible exact X_nil | with_reducible apply X_cons) | (with_reducible show Mx.run (evT _ _ _) _ = _; first | with_reducible apply T_cmp | with_reducible apply T_not | with_reducible apply T_or | with_reducible apply T_val t_call | with_reducible apply T_val t_isi) | (with_reducible show Mx.run (sel _ _ _) _ = _; first | (with_reducible apply sel_t; focus (simp []; done)) | (with_reducible apply sel_f; focus (simp []; done))) | with_reducible exact SD1 | with_reducible exact run_of eq | with_reducible exact run_of ln | with_reducible exact run_of ln2 | with_reducible exact il | with_reducible exact el | with_reducible exact w1 | with_reducible exact w2 | with_reducible apply A3 | with_reducible apply T_or1 | with_reducible apply T_orS | with_reducible apply V_and1 | with_reducible apply V_andS | (with_reducible apply run_of; simp []; first | done | exact rfl) | (simp [frC, D.isC, D.isL, LINE]; done)))
end
abbrev LEVEL : Nat := 14
theorem v_dr6 {ps : List P6} {i : Nat} {q : P6} (hq : ps[i]? = some q) (ins : List Int) : door6 ps (i : Int) ins.length = dr6 q ins.length := by
  have li := (List.getElem?_eq_some_iff.mp hq).1
  unfold door6
  rw [if_pos ⟨by omega, by omega⟩, Int.toNat_natCast, hq]
/-- a run, told, against what is due -/
theorem v_match (n : Nat) {ps : List P6} (hp : ∀ q ∈ ps, q.ok) (p : Int) (ins : List Int) (b : Nat) {h : HP} (DU : D) (h1 : ∀ i q, p = ((i : Nat) : Int) → ps[i]? = some q → DU = duD q ins) (h2 : ¬ (0 ≤ p ∧ p < (ps.length : Int)) → DU = .non) : ∃ h' td, (callF tb (n + 6) "_law_told" [pgD ps, .int p, .lst (ins.map .int), .int (b : Int)]).run h = .ok td h' ∧ (callF tb (n + 6) "_law_right" [td, DU, .int (b : Int)]).run h' = .ok (.bl true) h' := by
  by_cases c : 0 ≤ p ∧ p < (ps.length : Int)
  · obtain ⟨i, rfl⟩ : ∃ i : Nat, p = (i : Int) := ⟨p.toNat, by omega⟩
    obtain ⟨q, hq⟩ : ∃ q, ps[i]? = some q := ⟨_, List.getElem?_eq_getElem (by omega)⟩
    have du := h1 i q rfl hq
    subst du
    cases d : dr6 q ins.length with
    | true =>
      obtain ⟨v, hv⟩ := val6_ex (hp q (List.mem_of_getElem? hq)) d
      obtain ⟨h', e, e2⟩ := (v_told6 (h := h) n hp (i : Int) ins b).1 i q v rfl hq d hv
      refine ⟨h', _, e, ?_⟩
      have : duD q ins = .int v := by unfold duD; rw [d, if_pos rfl, hv]
      rw [this]
      exact v_rightG (n + 4) v b _ e2
    | false =>
      have e := (v_told6 (h := h) n hp (i : Int) ins b).2 (by rw [v_dr6 hq, d])
      refine ⟨h, _, e, ?_⟩
      have : duD q ins = .non := by unfold duD; rw [d, if_neg (by simp)]
      rw [this]
      exact v_rightD (n + 4) b
  · have dr : door6 ps p ins.length = false := by unfold door6; rw [if_neg c]
    have e := (v_told6 (h := h) n hp p ins b).2 dr
    refine ⟨h, _, e, ?_⟩
    rw [h2 c]
    exact v_rightD (n + 4) b
section
variable (ns : List Int) {ps : List P6} (hp : ∀ q ∈ ps, q.ok)
abbrev S6 (ns : List Int) (ps : List P6) (door : Int) (k : Int) (s7 s8 s9 s14 : Sl) : RS := [.val (.lst (ns.map .int)), .val (.int (ps.length : Int)), .val (.int door), .val (.lst (ps.map P6.d)), .val (pgD ps), .val (pgD ps), .val (.int k), s7, s8, s9, .un, .un, .un, .un, s14, .un, .un]
abbrev Z6 (ns : List Int) (ps : List P6) (door : Int) (s8 : Sl) : RS := [.val (.lst (ns.map .int)), .val (.int (ps.length : Int)), .val (.int door), .val (.lst (ps.map P6.d)), .val (pgD ps), .val (pgD ps), .un, .un, s8, .un, .un, .un, .un, .un, .un, .un, .un]
include hp
theorem t_r2 (door k c p : Int) {m : Nat} (hm : m ≤ 30) (s14 : Sl) {h : HP} : ∃ h', (evSs (tb.cfg 13) r2law (S6 ns ps door k (.val (.int c)) (.val (.int p)) (.val (.int (m : Int))) s14)).run h = .ok (.nx (Z6 ns ps door (.val (.int p)))) h' := by
  -- the inputs
  have cx : ∀ j : Nat, ∃ z w : Int, j ≤ 30 → callF tb 13 "_law_cell" [.lst (ns.map .int), .int (10 + (j : Int))] = .pure (.int z) ∧ (callF tb 13 "_law_word" [.int (z + c % 1000000 * (j : Int))]).run h = .ok (.int w) h := fun j => by
    by_cases hj : j ≤ 30
    · obtain ⟨z, ez⟩ := v_cell 12 ns (k := 10 + j) (by omega)
      obtain ⟨w, ew⟩ := v_word60 12 (z + c % 1000000 * (j : Int)) (h := h)
      exact ⟨z, w, fun _ => ⟨by simpa using ez, ew⟩⟩
    · exact ⟨0, 0, fun q => absurd q hj⟩
  obtain ⟨Z, hZ⟩ : ∃ Z : Nat → Int, ∀ j : Nat, ∃ w : Int, j ≤ 30 → callF tb 13 "_law_cell" [.lst (ns.map .int), .int (10 + (j : Int))] = .pure (.int (Z j)) ∧ (callF tb 13 "_law_word" [.int (Z j + c % 1000000 * (j : Int))]).run h = .ok (.int w) h := ⟨fun j => Classical.choose (cx j), fun j => Classical.choose_spec (cx j)⟩
  obtain ⟨W, hW⟩ : ∃ W : Nat → Int, ∀ j : Nat, j ≤ 30 → callF tb 13 "_law_cell" [.lst (ns.map .int), .int (10 + (j : Int))] = .pure (.int (Z j)) ∧ (callF tb 13 "_law_word" [.int (Z j + c % 1000000 * (j : Int))]).run h = .ok (.int (W j)) h := ⟨fun j => Classical.choose (hZ j), fun j => Classical.choose_spec (hZ j)⟩
  obtain ⟨ins, hins⟩ : ∃ ins, ins = (List.range m).map W := ⟨_, rfl⟩
  obtain ⟨x8, hx8⟩ : ∃ x : Sl, x = .val (.int p) := ⟨_, rfl⟩
  have lc := lc_mapH (h := h) (f := lcStep (S6 ns ps door k (.val (.int c)) x8 (.val (.int (m : Int))) s14) (.nm 16) (evOcT (tb.cfg 13) .no) (evE (tb.cfg 13) e1law)) (fun j : Nat => D.int (j : Int)) (fun j => D.int (W j)) (List.range m) [] (fun j hj => by
    have hj := List.mem_range.mp hj
    obtain ⟨e1, e2⟩ := hW j (by omega)
    have pw : binM .Pow (.int 10) (.int 6) = .pure (.int 1000000) := by rw [bm6 _ _ (by decide)]; rfl
    have mo : mulOk (c % 1000000) (j : Int) = true := by
      unfold mulOk
      rw [Bool.or_eq_true, Bool.or_eq_true]
      refine .inl (.inl ?_)
      rw [decide_eq_true_eq]
      omega
    have mu : binM .Mult (.int (c % 1000000)) (.int (j : Int)) = .pure (.int (c % 1000000 * (j : Int))) := by rw [bm3, if_pos mo]
    obtain ⟨PR, hPR⟩ : ∃ PR : Int, PR = c % 1000000 * (j : Int) := ⟨_, rfl⟩
    obtain ⟨PG, hPG⟩ : ∃ PG, PG = pgD ps := ⟨_, rfl⟩
    obtain ⟨PD, hPD⟩ : ∃ PD, PD = ps.map P6.d := ⟨_, rfl⟩
    obtain ⟨X, hX⟩ : ∃ X, X = ns.map D.int := ⟨_, rfl⟩
    rw [← hPR] at mu e2
    rw [← hX] at e1
    unfold S6
    rw [← hX, ← hPG, ← hPD]
    apply L_lc
    · (repeat' (first | (with_reducible show List.set _ _ _ = _; first | with_reducible exact Z0 | with_reducible apply ZS) | with_reducible apply A1))
    · rw [e1law]
      (repeat' (first | (with_reducible show _[_]? = _; first | with_reducible exact G0 | with_reducible apply GS) | (with_reducible show Mx.run (evE _ _ _) _ = _; first | with_reducible exact X_int | with_reducible apply X_var | with_reducible apply X_pkv | with_reducible apply X_bin | with_reducible apply X_call) | (with_reducible show Mx.run (evCs _ _ _) _ = _; first | with_reducible exact X_nil | with_reducible apply X_cons) | with_reducible exact SD1 | with_reducible exact run_of e1 | with_reducible exact e2 | with_reducible exact run_of pw | with_reducible exact run_of mu | (with_reducible apply run_of; simp []; first | done | exact rfl))))
  rw [List.nil_append, show (List.range m).map (fun j => D.int (W j)) = ins.map D.int by rw [hins, List.map_map]; rfl] at lc
  have rg := rgN (k := m) (by omega)
  -- the budget
  obtain ⟨b, hb⟩ : ∃ b : Nat, idxM (.lst [.int (c % 10001), .int (c % 2)]) (.int (c / 16 % 2)) = .pure (.int (b : Int)) := by
    rcases (by omega : c / 16 % 2 = 0 ∨ c / 16 % 2 = 1) with q | q <;> rw [q]
    · exact ⟨(c % 10001).toNat, by rw [ixL (d := .int (c % 10001)) rfl]; congr 2; omega⟩
    · exact ⟨(c % 2).toNat, by rw [ixL (d := .int (c % 2)) rfl]; congr 2; omega⟩
  -- what is due
  obtain ⟨DU, hDU⟩ : ∃ DU, DU = (if 0 ≤ p ∧ p < (ps.length : Int) then (match ps[p.toNat]? with | some q => duD q ins | none => .non) else .non) := ⟨_, rfl⟩
  obtain ⟨h', td, e1, e2⟩ := v_match (h := h) 7 hp p ins b DU (fun i q e hq => by
    subst e
    have li := (List.getElem?_eq_some_iff.mp hq).1
    rw [hDU, if_pos ⟨by omega, by omega⟩, Int.toNat_natCast, hq]) (fun q => by rw [hDU, if_neg q])
  refine ⟨h', ?_⟩
  have du : (∀ q i, p = ((i : Nat) : Int) → ps[i]? = some q → (callF tb 13 "_law_due" [q.d, .lst (ins.map .int)]).run h = .ok DU h) := fun q i e hq => by
    subst e
    have li := (List.getElem?_eq_some_iff.mp hq).1
    have := v_due6 (h := h) 12 q (hp q (List.mem_of_getElem? hq)).len ins
    rw [hDU, if_pos ⟨by omega, by omega⟩, Int.toNat_natCast, hq]
    exact this
  have ne : cmpM .NotEq (.lst (ins.map D.int)) (.lst (ins.map D.int)) = .pure false := ne_lst (n := 2) (by decide) (okDs_all fun x hx => by
    obtain ⟨k, _, rfl⟩ := List.mem_map.mp hx
    rfl)
  have li : biM "list" [.lst (ins.map D.int)] = .pure (.lst (ins.map D.int)) := by simp
  have nonD : ¬ (0 ≤ p ∧ p < (ps.length : Int)) → DU = .non := fun q => by rw [hDU, if_neg q]
  have lcE : (evE (tb.cfg 13) (.lc e1law (.nm 16) (.rng (.cons (.pk 9) .nil)) .no) (S6 ns ps door k (.val (.int c)) x8 (.val (.int (m : Int))) s14)).run h = .ok (.lst (ins.map D.int)) h := by
    refine X_lc (I_rng (X_cons (X_pkv rfl SD1) X_nil) rg) rfl rfl (by simp [It.sz]) lc
  obtain ⟨LP, hLP⟩ : ∃ LP : Int, LP = (ps.length : Int) := ⟨_, rfl⟩
  rw [← hLP] at nonD
  have ixp : ∀ q i, p = ((i : Nat) : Int) → ps[i]? = some q → idxM (.lst (ps.map P6.d)) (.int p) = .pure q.d := fun q i e hq => by subst e; exact ix_mapN hq
  have inr : 0 ≤ p → p < LP → ∃ q : P6, idxM (.lst (ps.map P6.d)) (.int p) = .pure q.d ∧ (callF tb 13 "_law_due" [q.d, .lst (ins.map .int)]).run h = .ok DU h := fun a b => by
    obtain ⟨i, e⟩ : ∃ i : Nat, p = (i : Int) := ⟨p.toNat, by omega⟩
    obtain ⟨q, hq⟩ : ∃ q, ps[i]? = some q := ⟨_, List.getElem?_eq_getElem (by omega)⟩
    exact ⟨q, ixp q i e hq, du q i e hq⟩
  unfold S6 at lcE ⊢
  unfold Z6
  rw [← hLP] at lcE ⊢
  obtain ⟨PG, hPG⟩ : ∃ PG, PG = pgD ps := ⟨_, rfl⟩
  obtain ⟨PD, hPD⟩ : ∃ PD, PD = ps.map P6.d := ⟨_, rfl⟩
  obtain ⟨X, hX⟩ : ∃ X, X = ns.map D.int := ⟨_, rfl⟩
  obtain ⟨IN, hIN⟩ : ∃ IN, IN = ins.map D.int := ⟨_, rfl⟩
  obtain ⟨BB, hBB⟩ : ∃ BB : Int, BB = (b : Int) := ⟨_, rfl⟩
  rw [← hX, ← hPG, ← hPD, ← hIN] at lcE
  rw [← hPG, ← hIN, ← hBB] at e1
  rw [← hBB] at e2 hb
  rw [← hIN] at ne li
  rw [← hPD, ← hIN] at inr
  rw [← hX, ← hPG, ← hPD]
  subst hx8
  apply K_run
  rw [r2law, r0law]
  by_cases a : 0 ≤ p
  · by_cases b' : p < LP
    · obtain ⟨q, ix, du⟩ := inr a b'
      obtain ⟨QD, hQD⟩ : ∃ QD, QD = q.d := ⟨_, rfl⟩
      rw [← hQD] at ix du
      (repeat' (first | with_reducible exact lcE | (with_reducible show _[_]? = _; first | with_reducible exact G0 | with_reducible apply GS) | (with_reducible show List.set _ _ _ = _; first | with_reducible exact Z0 | with_reducible apply ZS) | (with_reducible show Mx.run (thn _ _) _ = _; first | with_reducible apply K_set | with_reducible apply K_ite | with_reducible apply K_kill | with_reducible apply K_nil) | (with_reducible show Mx.run (evE _ _ _) _ = _; first | with_reducible exact X_int | with_reducible exact X_non | with_reducible apply X_var | with_reducible apply X_pkv | with_reducible apply X_bin | with_reducible apply X_lst | with_reducible apply X_idx | with_reducible apply X_call | with_reducible apply X_bi) | (with_reducible show Mx.run (evCs _ _ _) _ = _; first | with_reducible exact X_nil | with_reducible apply X_cons) | (with_reducible show Mx.run (evT _ _ _) _ = _; first | with_reducible apply T_cmp | with_reducible apply T_not | with_reducible apply T_chn | with_reducible apply T_or | with_reducible apply T_val t_call) | (with_reducible show Mx.run (sel _ _ _) _ = _; first | (with_reducible apply sel_t; focus (simp [a, b']; done)) | (with_reducible apply sel_f; focus (simp [a, b']; done))) | with_reducible exact SD1 | with_reducible exact W0 | with_reducible apply WS | with_reducible exact run_of hb | with_reducible exact run_of ix | with_reducible exact du | with_reducible exact e1 | with_reducible exact e2 | with_reducible exact run_of ne | with_reducible exact run_of li | with_reducible apply T_or1 | with_reducible apply T_orS | with_reducible apply C2 | with_reducible exact pure_ok _ | (with_reducible apply run_of; simp [a, b']; first | done | exact rfl) | (simp [frC, D.isC, D.isL, LINE, a, b']; done)))
    · have nd := nonD fun z => b' z.2
      rw [nd] at e2
      (repeat' (first | with_reducible exact lcE | (with_reducible show _[_]? = _; first | with_reducible exact G0 | with_reducible apply GS) | (with_reducible show List.set _ _ _ = _; first | with_reducible exact Z0 | with_reducible apply ZS) | (with_reducible show Mx.run (thn _ _) _ = _; first | with_reducible apply K_set | with_reducible apply K_ite | with_reducible apply K_kill | with_reducible apply K_nil) | (with_reducible show Mx.run (evE _ _ _) _ = _; first | with_reducible exact X_int | with_reducible exact X_non | with_reducible apply X_var | with_reducible apply X_pkv | with_reducible apply X_bin | with_reducible apply X_lst | with_reducible apply X_idx | with_reducible apply X_call | with_reducible apply X_bi) | (with_reducible show Mx.run (evCs _ _ _) _ = _; first | with_reducible exact X_nil | with_reducible apply X_cons) | (with_reducible show Mx.run (evT _ _ _) _ = _; first | with_reducible apply T_cmp | with_reducible apply T_not | with_reducible apply T_chn | with_reducible apply T_or | with_reducible apply T_val t_call) | (with_reducible show Mx.run (sel _ _ _) _ = _; first | (with_reducible apply sel_t; focus (simp [a, b']; done)) | (with_reducible apply sel_f; focus (simp [a, b']; done))) | with_reducible exact SD1 | with_reducible exact W0 | with_reducible apply WS | with_reducible exact run_of hb | with_reducible exact e1 | with_reducible exact e2 | with_reducible exact run_of ne | with_reducible exact run_of li | with_reducible apply T_or1 | with_reducible apply T_orS | with_reducible apply C2 | with_reducible exact pure_ok _ | (with_reducible apply run_of; simp [a, b']; first | done | exact rfl) | (simp [frC, D.isC, D.isL, LINE, a, b']; done)))
  · have nd := nonD fun z => a z.1
    rw [nd] at e2
    (repeat' (first | with_reducible exact lcE | (with_reducible show _[_]? = _; first | with_reducible exact G0 | with_reducible apply GS) | (with_reducible show List.set _ _ _ = _; first | with_reducible exact Z0 | with_reducible apply ZS) | (with_reducible show Mx.run (thn _ _) _ = _; first | with_reducible apply K_set | with_reducible apply K_ite | with_reducible apply K_kill | with_reducible apply K_nil) | (with_reducible show Mx.run (evE _ _ _) _ = _; first | with_reducible exact X_int | with_reducible exact X_non | with_reducible apply X_var | with_reducible apply X_pkv | with_reducible apply X_bin | with_reducible apply X_lst | with_reducible apply X_idx | with_reducible apply X_call | with_reducible apply X_bi) | (with_reducible show Mx.run (evCs _ _ _) _ = _; first | with_reducible exact X_nil | with_reducible apply X_cons) | (with_reducible show Mx.run (evT _ _ _) _ = _; first | with_reducible apply T_cmp | with_reducible apply T_not | with_reducible apply T_chn | with_reducible apply T_or | with_reducible apply T_val t_call) | (with_reducible show Mx.run (sel _ _ _) _ = _; first | (with_reducible apply sel_f; focus (simp [a]; done))) | with_reducible exact SD1 | with_reducible exact W0 | with_reducible apply WS | with_reducible exact run_of hb | with_reducible exact e1 | with_reducible exact e2 | with_reducible exact run_of ne | with_reducible exact run_of li | with_reducible apply T_or1 | with_reducible apply T_orS | with_reducible exact pure_ok _ | (with_reducible apply run_of; simp [a]; first | done | exact rfl) | (simp [frC, D.isC, D.isL, LINE, a]; done)))
theorem t_r3 (door k c p : Int) {m : Nat} (hm : m ≤ 20) (way : Int) {h : HP} : ∃ h', (evSs (tb.cfg 13) r3law (S6 ns ps door k (.val (.int c)) (.val (.int p)) (.val (.int (m : Int))) (.val (.int way)))).run h = .ok (.nx (Z6 ns ps door (.val (.int p)))) h' := by
  by_cases w : way = 3
  · obtain ⟨x, ix, hx⟩ : ∃ x : Int, idxM (.lst [.int (-2), .int (-1), .int 1, .int 2]) (.int (c % 4)) = .pure (.int x) ∧ -2 ≤ x ∧ x ≤ 2 := by
      rcases (by omega : c % 4 = 0 ∨ c % 4 = 1 ∨ c % 4 = 2 ∨ c % 4 = 3) with q | q | q | q <;> rw [q] <;> exact ⟨_, ixL rfl, by decide, by decide⟩
    obtain ⟨m', hm'⟩ : ∃ m' : Nat, (m' : Int) = (if (m : Int) + x > 0 then (m : Int) + x else 0) := ⟨(if (m : Int) + x > 0 then (m : Int) + x else 0).toNat, by split <;> omega⟩
    have mx : biM "max" [.int 0, .int ((m : Int) + x)] = .pure (.int (m' : Int)) := by rw [bi7, hm']
    obtain ⟨h', e⟩ := t_r2 ns hp door k c p (m := m') (by split at hm' <;> omega) (.val (.int way)) (h := h)
    refine ⟨h', ?_⟩
    unfold S6 Z6 at e ⊢
    obtain ⟨PG, hPG⟩ : ∃ PG, PG = pgD ps := ⟨_, rfl⟩
    obtain ⟨PD, hPD⟩ : ∃ PD, PD = ps.map P6.d := ⟨_, rfl⟩
    obtain ⟨X, hX⟩ : ∃ X, X = ns.map D.int := ⟨_, rfl⟩
    rw [← hX, ← hPG, ← hPD] at e ⊢
    apply K_run
    rw [r3law]
    subst w
    (repeat' (first | with_reducible apply ((thn_nx e).trans) | (with_reducible show _[_]? = _; first | with_reducible exact G0 | with_reducible apply GS) | (with_reducible show List.set _ _ _ = _; first | with_reducible exact Z0 | with_reducible apply ZS) | (with_reducible show Mx.run (thn _ _) _ = _; first | with_reducible apply K_set | with_reducible apply K_ite | with_reducible apply K_nil) | (with_reducible show Mx.run (evE _ _ _) _ = _; first | with_reducible exact X_int | with_reducible apply X_pkv | with_reducible apply X_bin | with_reducible apply X_neg | with_reducible apply X_lst | with_reducible apply X_idx | with_reducible apply X_bi) | (with_reducible show Mx.run (evCs _ _ _) _ = _; first | with_reducible exact X_nil | with_reducible apply X_cons) | (with_reducible show Mx.run (evT _ _ _) _ = _; first | with_reducible apply T_cmp) | (with_reducible show Mx.run (sel _ _ _) _ = _; first | (with_reducible apply sel_t; focus (simp []; done))) | with_reducible exact SD1 | with_reducible exact run_of ix | with_reducible exact run_of mx | with_reducible exact pure_ok _ | (with_reducible apply run_of; simp []; first | done | exact rfl) | (simp [frC, D.isC, D.isL, LINE]; done)))
  · obtain ⟨h', e⟩ := t_r2 ns hp door k c p (m := m) (by omega) (.val (.int way)) (h := h)
    refine ⟨h', ?_⟩
    unfold S6 Z6 at e ⊢
    obtain ⟨PG, hPG⟩ : ∃ PG, PG = pgD ps := ⟨_, rfl⟩
    obtain ⟨PD, hPD⟩ : ∃ PD, PD = ps.map P6.d := ⟨_, rfl⟩
    obtain ⟨X, hX⟩ : ∃ X, X = ns.map D.int := ⟨_, rfl⟩
    rw [← hX, ← hPG, ← hPD] at e ⊢
    apply K_run
    rw [r3law]
    (repeat' (first | with_reducible apply ((thn_nx e).trans) | (with_reducible show _[_]? = _; first | with_reducible exact G0 | with_reducible apply GS) | (with_reducible show Mx.run (thn _ _) _ = _; first | with_reducible apply K_ite | with_reducible apply K_nil) | (with_reducible show Mx.run (evE _ _ _) _ = _; first | with_reducible exact X_int | with_reducible apply X_pkv) | (with_reducible show Mx.run (evT _ _ _) _ = _; first | with_reducible apply T_cmp) | (with_reducible show Mx.run (sel _ _ _) _ = _; first | (with_reducible apply sel_f; focus (simp [w]; done))) | with_reducible exact SD1 | with_reducible exact pure_ok _ | (with_reducible apply run_of; simp [w]; first | done | exact rfl)))
theorem t_r4 (door k c p : Int) (way : Int) (s9 : Sl) {h : HP} : ∃ h', (evSs (tb.cfg 13) r4law (S6 ns ps door k (.val (.int c)) (.val (.int p)) s9 (.val (.int way)))).run h = .ok (.nx (Z6 ns ps door (.val (.int p)))) h' := by
  by_cases c1 : 0 ≤ p ∧ p < (ps.length : Int)
  · obtain ⟨i, e⟩ : ∃ i : Nat, p = (i : Int) := ⟨p.toNat, by omega⟩
    obtain ⟨q, hq⟩ : ∃ q, ps[i]? = some q := ⟨_, List.getElem?_eq_getElem (by omega)⟩
    have ix : idxM (.lst (ps.map P6.d)) (.int p) = .pure (.tup [.lst (q.nm.map n6D), if q.gv then k6N else k6W 0, .lst [], if q.gv then q.an.d else .tup [.str "new", .int 1, .lst [q.an.d]]]) := by rw [e]; exact p6_at hq
    have ln : biM "len" [.lst (q.nm.map n6D)] = .pure (.int (q.nm.length : Int)) := by simp
    obtain ⟨h', e⟩ := t_r3 ns hp door k c p (m := q.nm.length) (hp q (List.mem_of_getElem? hq)).len way (h := h)
    refine ⟨h', ?_⟩
    unfold S6 Z6 at e ⊢
    obtain ⟨PG, hPG⟩ : ∃ PG, PG = pgD ps := ⟨_, rfl⟩
    obtain ⟨LP, hLP⟩ : ∃ LP : Int, LP = (ps.length : Int) := ⟨_, rfl⟩
    obtain ⟨PD, hPD⟩ : ∃ PD, PD = ps.map P6.d := ⟨_, rfl⟩
    obtain ⟨X, hX⟩ : ∃ X, X = ns.map D.int := ⟨_, rfl⟩
    obtain ⟨NL, hNL⟩ : ∃ NL, NL = q.nm.map n6D := ⟨_, rfl⟩
    obtain ⟨G1, hG1⟩ : ∃ G, G = (if q.gv then k6N else k6W 0) := ⟨_, rfl⟩
    obtain ⟨G2, hG2⟩ : ∃ G, G = (if q.gv then q.an.d else .tup [.str "new", .int 1, .lst [q.an.d]]) := ⟨_, rfl⟩
    rw [← hX, ← hPG, ← hPD, ← hLP] at e ⊢
    rw [← hPD, ← hNL, ← hG1, ← hG2] at ix
    rw [← hNL] at ln
    rw [← hLP] at c1
    have ca := c1.1
    have cb := c1.2
    apply K_run
    rw [r4law]
    (repeat' (first | with_reducible apply ((thn_nx e).trans) | (with_reducible show _[_]? = _; first | with_reducible exact G0 | with_reducible apply GS) | (with_reducible show List.set _ _ _ = _; first | with_reducible exact Z0 | with_reducible apply ZS) | (with_reducible show Mx.run (thn _ _) _ = _; first | with_reducible apply K_set | with_reducible apply K_ite | with_reducible apply K_nil) | (with_reducible show Mx.run (evE _ _ _) _ = _; first | with_reducible exact X_int | with_reducible apply X_var | with_reducible apply X_pkv | with_reducible apply X_idx | with_reducible apply X_bi) | (with_reducible show Mx.run (evCs _ _ _) _ = _; first | with_reducible exact X_nil | with_reducible apply X_cons) | (with_reducible show Mx.run (evT _ _ _) _ = _; first | with_reducible apply T_chn) | (with_reducible show Mx.run (sel _ _ _) _ = _; first | (with_reducible apply sel_t; focus (simp [ca, cb]; done))) | with_reducible exact SD1 | with_reducible exact run_of ix | with_reducible exact run_of ln | with_reducible apply C2 | with_reducible exact pure_ok _ | (with_reducible apply run_of; simp [ca, cb]; first | done | exact rfl)))
  · obtain ⟨h', e⟩ := t_r3 ns hp door k c p (m := 0) (by omega) way (h := h)
    refine ⟨h', ?_⟩
    unfold S6 Z6 at e ⊢
    have e : (evSs (tb.cfg 13) r3law [.val (.lst (ns.map .int)), .val (.int (ps.length : Int)), .val (.int door), .val (.lst (ps.map P6.d)), .val (pgD ps), .val (pgD ps), .val (.int k), .val (.int c), .val (.int p), .val (.int 0), .un, .un, .un, .un, .val (.int way), .un, .un]).run h = _ := e
    obtain ⟨PG, hPG⟩ : ∃ PG, PG = pgD ps := ⟨_, rfl⟩
    obtain ⟨LP, hLP⟩ : ∃ LP : Int, LP = (ps.length : Int) := ⟨_, rfl⟩
    obtain ⟨PD, hPD⟩ : ∃ PD, PD = ps.map P6.d := ⟨_, rfl⟩
    obtain ⟨X, hX⟩ : ∃ X, X = ns.map D.int := ⟨_, rfl⟩
    rw [← hX, ← hPG, ← hPD, ← hLP] at e ⊢
    rw [← hLP] at c1
    apply K_run
    rw [r4law]
    by_cases ca : 0 ≤ p
    · have cb : ¬ p < LP := fun z => c1 ⟨ca, z⟩
      (repeat' (first | with_reducible apply ((thn_nx e).trans) | (with_reducible show _[_]? = _; first | with_reducible exact G0 | with_reducible apply GS) | (with_reducible show List.set _ _ _ = _; first | with_reducible exact Z0 | with_reducible apply ZS) | (with_reducible show Mx.run (thn _ _) _ = _; first | with_reducible apply K_set | with_reducible apply K_ite | with_reducible apply K_nil) | (with_reducible show Mx.run (evE _ _ _) _ = _; first | with_reducible exact X_int | with_reducible apply X_pkv) | (with_reducible show Mx.run (evT _ _ _) _ = _; first | with_reducible apply T_chn) | (with_reducible show Mx.run (sel _ _ _) _ = _; first | (with_reducible apply sel_t; focus (simp [ca, cb]; done)) | (with_reducible apply sel_f; focus (simp [ca, cb]; done))) | with_reducible exact SD1 | with_reducible apply C2 | with_reducible exact pure_ok _ | (with_reducible apply run_of; simp [ca, cb]; first | done | exact rfl)))
    · (repeat' (first | with_reducible apply ((thn_nx e).trans) | (with_reducible show _[_]? = _; first | with_reducible exact G0 | with_reducible apply GS) | (with_reducible show List.set _ _ _ = _; first | with_reducible exact Z0 | with_reducible apply ZS) | (with_reducible show Mx.run (thn _ _) _ = _; first | with_reducible apply K_set | with_reducible apply K_ite | with_reducible apply K_nil) | (with_reducible show Mx.run (evE _ _ _) _ = _; first | with_reducible exact X_int | with_reducible apply X_pkv) | (with_reducible show Mx.run (evT _ _ _) _ = _; first | with_reducible apply T_chn) | (with_reducible show Mx.run (sel _ _ _) _ = _; first | (with_reducible apply sel_f; focus (simp [ca]; done))) | with_reducible exact SD1 | with_reducible exact pure_ok _ | (with_reducible apply run_of; simp [ca]; first | done | exact rfl)))
theorem t_r5 (door k c p : Int) (way : Int) {h : HP} : ∃ h' p', (evSs (tb.cfg 13) r5law (S6 ns ps door k (.val (.int c)) (.val (.int p)) .un (.val (.int way)))).run h = .ok (.nx (Z6 ns ps door (.val (.int p')))) h' := by
  by_cases w : way = 2
  · obtain ⟨x, ix⟩ : ∃ x : Int, idxM (.lst [.int ((ps.length : Int) + c % 3), .int (-1 - c % 3)]) (.int (c / 3 % 2)) = .pure (.int x) := by
      rcases (by omega : c / 3 % 2 = 0 ∨ c / 3 % 2 = 1) with q | q <;> rw [q] <;> exact ⟨_, ixL rfl⟩
    obtain ⟨h', e⟩ := t_r4 ns hp door k c x way .un (h := h)
    refine ⟨h', x, ?_⟩
    unfold S6 Z6 at e ⊢
    obtain ⟨PG, hPG⟩ : ∃ PG, PG = pgD ps := ⟨_, rfl⟩
    obtain ⟨LP, hLP⟩ : ∃ LP : Int, LP = (ps.length : Int) := ⟨_, rfl⟩
    obtain ⟨PD, hPD⟩ : ∃ PD, PD = ps.map P6.d := ⟨_, rfl⟩
    obtain ⟨X, hX⟩ : ∃ X, X = ns.map D.int := ⟨_, rfl⟩
    rw [← hX, ← hPG, ← hPD, ← hLP] at e ⊢
    rw [← hLP] at ix
    apply K_run
    rw [r5law]
    subst w
    (repeat' (first | with_reducible apply ((thn_nx e).trans) | (with_reducible show _[_]? = _; first | with_reducible exact G0 | with_reducible apply GS) | (with_reducible show List.set _ _ _ = _; first | with_reducible exact Z0 | with_reducible apply ZS) | (with_reducible show Mx.run (thn _ _) _ = _; first | with_reducible apply K_set | with_reducible apply K_ite | with_reducible apply K_nil) | (with_reducible show Mx.run (evE _ _ _) _ = _; first | with_reducible exact X_int | with_reducible apply X_pkv | with_reducible apply X_bin | with_reducible apply X_neg | with_reducible apply X_lst | with_reducible apply X_idx) | (with_reducible show Mx.run (evCs _ _ _) _ = _; first | with_reducible exact X_nil | with_reducible apply X_cons) | (with_reducible show Mx.run (evT _ _ _) _ = _; first | with_reducible apply T_cmp) | (with_reducible show Mx.run (sel _ _ _) _ = _; first | (with_reducible apply sel_t; focus (simp []; done))) | with_reducible exact SD1 | with_reducible exact run_of ix | with_reducible exact pure_ok _ | (with_reducible apply run_of; simp []; first | done | exact rfl) | (simp [frC, D.isC, D.isL, LINE]; done)))
  · obtain ⟨h', e⟩ := t_r4 ns hp door k c p way .un (h := h)
    refine ⟨h', p, ?_⟩
    unfold S6 Z6 at e ⊢
    obtain ⟨PG, hPG⟩ : ∃ PG, PG = pgD ps := ⟨_, rfl⟩
    obtain ⟨PD, hPD⟩ : ∃ PD, PD = ps.map P6.d := ⟨_, rfl⟩
    obtain ⟨X, hX⟩ : ∃ X, X = ns.map D.int := ⟨_, rfl⟩
    rw [← hX, ← hPG, ← hPD] at e ⊢
    apply K_run
    rw [r5law]
    (repeat' (first | with_reducible apply ((thn_nx e).trans) | (with_reducible show _[_]? = _; first | with_reducible exact G0 | with_reducible apply GS) | (with_reducible show Mx.run (thn _ _) _ = _; first | with_reducible apply K_ite | with_reducible apply K_nil) | (with_reducible show Mx.run (evE _ _ _) _ = _; first | with_reducible exact X_int | with_reducible apply X_pkv) | (with_reducible show Mx.run (evT _ _ _) _ = _; first | with_reducible apply T_cmp) | (with_reducible show Mx.run (sel _ _ _) _ = _; first | (with_reducible apply sel_f; focus (simp [w]; done))) | with_reducible exact SD1 | with_reducible exact pure_ok _ | (with_reducible apply run_of; simp [w]; first | done | exact rfl)))
theorem t_turn (l1 : 0 < ps.length) (door : Int) {k : Nat} (hk : k < 3) (s8 : Sl) {h : HP} : ∃ h' p', (forStep (.nm 6) (evSs (tb.cfg 13) b6law) (.int (k : Int)) (Z6 ns ps door s8)).run h = .ok (.nx (Z6 ns ps door (.val (.int p')))) h' := by
  obtain ⟨x, ix, hx⟩ : ∃ x : Nat, idxM (.lst [.int 0, .int 1, .int 0]) (.int (k : Int)) = .pure (.int (x : Int)) ∧ x ≤ 1 := by
    rcases (by omega : k = 0 ∨ k = 1 ∨ k = 2) with rfl | rfl | rfl
    · exact ⟨0, ixL rfl, by decide⟩
    · exact ⟨1, ixL rfl, by decide⟩
    · exact ⟨0, ixL rfl, by decide⟩
  obtain ⟨z, ez⟩ := v_cell 12 ns (k := 1 + x) (by omega)
  have ez : callF tb 13 "_law_cell" [.lst (ns.map .int), .int (1 + (x : Int))] = .pure (.int z) := by simpa using ez
  have dm := dm_ok z (b := 8) (by decide) (by decide)
  obtain ⟨c, hc⟩ : ∃ c : Int, c = z / 8 := ⟨_, rfl⟩
  obtain ⟨wy, hw⟩ : ∃ c : Int, c = z % 8 := ⟨_, rfl⟩
  rw [← hc, ← hw] at dm
  have mo : binM .Mod (.int c) (.int (ps.length : Int)) = .pure (.int (c % (ps.length : Int))) := bm5 _ _ (by omega)
  obtain ⟨MD, hMD⟩ : ∃ MD : Int, MD = c % (ps.length : Int) := ⟨_, rfl⟩
  rw [← hMD] at mo
  by_cases w : wy = 1
  · obtain ⟨h', p', e⟩ := t_r5 ns hp door (k : Int) c MD wy (h := h)
    refine ⟨h', p', ?_⟩
    unfold S6 Z6 at e
    unfold Z6
    obtain ⟨PG, hPG⟩ : ∃ PG, PG = pgD ps := ⟨_, rfl⟩
    obtain ⟨LP, hLP⟩ : ∃ LP : Int, LP = (ps.length : Int) := ⟨_, rfl⟩
    obtain ⟨PD, hPD⟩ : ∃ PD, PD = ps.map P6.d := ⟨_, rfl⟩
    obtain ⟨X, hX⟩ : ∃ X, X = ns.map D.int := ⟨_, rfl⟩
    rw [← hX, ← hPG, ← hPD, ← hLP] at e ⊢
    rw [← hX] at ez
    rw [← hLP] at mo
    subst w
    apply L_step
    · (repeat' (first | (with_reducible show List.set _ _ _ = _; first | with_reducible exact Z0 | with_reducible apply ZS) | with_reducible apply A1))
    · rw [b6law]
      (repeat' (first | with_reducible apply ((thn_nx e).trans) | (with_reducible show _[_]? = _; first | with_reducible exact G0 | with_reducible apply GS) | (with_reducible show List.set _ _ _ = _; first | with_reducible exact Z0 | with_reducible apply ZS) | (with_reducible show Mx.run (thn _ _) _ = _; first | with_reducible apply K_set | with_reducible apply K_ite | with_reducible apply K_nil | with_reducible apply K_unp) | (with_reducible show Mx.run (evE _ _ _) _ = _; first | with_reducible exact X_int | with_reducible apply X_var | with_reducible apply X_pkv | with_reducible apply X_bin | with_reducible apply X_lst | with_reducible apply X_idx | with_reducible apply X_call | with_reducible apply X_bi) | (with_reducible show Mx.run (evCs _ _ _) _ = _; first | with_reducible exact X_nil | with_reducible apply X_cons) | (with_reducible show Mx.run (evT _ _ _) _ = _; first | with_reducible apply T_cmp) | (with_reducible show Mx.run (sel _ _ _) _ = _; first | (with_reducible apply sel_t; focus (simp []; done))) | with_reducible exact SD1 | with_reducible exact run_of ix | with_reducible exact run_of ez | with_reducible exact run_of dm | with_reducible exact run_of mo | with_reducible apply A2 | with_reducible exact pure_ok _ | (with_reducible apply run_of; simp []; first | done | exact rfl) | (simp [frC, D.isC, D.isL, LINE]; done)))
  · obtain ⟨h', p', e⟩ := t_r5 ns hp door (k : Int) c door wy (h := h)
    refine ⟨h', p', ?_⟩
    unfold S6 Z6 at e
    unfold Z6
    obtain ⟨PG, hPG⟩ : ∃ PG, PG = pgD ps := ⟨_, rfl⟩
    obtain ⟨LP, hLP⟩ : ∃ LP : Int, LP = (ps.length : Int) := ⟨_, rfl⟩
    obtain ⟨PD, hPD⟩ : ∃ PD, PD = ps.map P6.d := ⟨_, rfl⟩
    obtain ⟨X, hX⟩ : ∃ X, X = ns.map D.int := ⟨_, rfl⟩
    rw [← hX, ← hPG, ← hPD, ← hLP] at e ⊢
    rw [← hX] at ez
    apply L_step
    · (repeat' (first | (with_reducible show List.set _ _ _ = _; first | with_reducible exact Z0 | with_reducible apply ZS) | with_reducible apply A1))
    · rw [b6law]
      (repeat' (first | with_reducible apply ((thn_nx e).trans) | (with_reducible show _[_]? = _; first | with_reducible exact G0 | with_reducible apply GS) | (with_reducible show List.set _ _ _ = _; first | with_reducible exact Z0 | with_reducible apply ZS) | (with_reducible show Mx.run (thn _ _) _ = _; first | with_reducible apply K_set | with_reducible apply K_ite | with_reducible apply K_nil | with_reducible apply K_unp) | (with_reducible show Mx.run (evE _ _ _) _ = _; first | with_reducible exact X_int | with_reducible apply X_var | with_reducible apply X_pkv | with_reducible apply X_bin | with_reducible apply X_lst | with_reducible apply X_idx | with_reducible apply X_call | with_reducible apply X_bi) | (with_reducible show Mx.run (evCs _ _ _) _ = _; first | with_reducible exact X_nil | with_reducible apply X_cons) | (with_reducible show Mx.run (evT _ _ _) _ = _; first | with_reducible apply T_cmp) | (with_reducible show Mx.run (sel _ _ _) _ = _; first | (with_reducible apply sel_f; focus (simp [w]; done))) | with_reducible exact SD1 | with_reducible exact run_of ix | with_reducible exact run_of ez | with_reducible exact run_of dm | with_reducible apply A2 | with_reducible exact pure_ok _ | (with_reducible apply run_of; simp [w]; first | done | exact rfl) | (simp [frC, D.isC, D.isL, LINE, w]; done)))
end
mutual
theorem okD_succ : ∀ (d : D) (n : Nat), okD n d = true → okD (n + 1) d = true
  | .non, _, _ => by simp [okD]
  | .bl _, _, _ => by simp [okD]
  | .int _, _, _ => by simp [okD]
  | .str z, n, h => by cases n <;> simpa [okD] using h
  | .tup xs, 0, h => by simp [okD] at h
  | .tup xs, n + 1, h => by
    have := okDs_succ xs n (by simpa [okD] using h)
    simpa [okD] using this
  | .lst xs, 0, h => by simp [okD] at h
  | .lst xs, n + 1, h => by
    have := okDs_succ xs n (by simpa [okD] using h)
    simpa [okD] using this
  | .dic _, n, h => by cases n <;> simp [okD] at h
  | .xn _ _, n, h => by cases n <;> simp [okD] at h
  | .obj _, n, h => by cases n <;> simp [okD] at h
theorem okDs_succ : ∀ (xs : List D) (n : Nat), okDs n xs = true → okDs (n + 1) xs = true
  | [], _, _ => by simp [okDs]
  | x :: xs, n, h => by
    rw [okDs, Bool.and_eq_true] at h ⊢
    exact ⟨okD_succ x n h.1, okDs_succ xs n h.2⟩
end
theorem okD_up {d : D} {n : Nat} (h : okD n d = true) : ∀ k, okD (n + k) d = true
  | 0 => h
  | k + 1 => okD_succ d (n + k) (okD_up h k)
theorem p6_okD {q : P6} (ok : q.ok) : okD 6 q.d = true := by
  obtain ⟨nm, gv, an⟩ := q
  have sn : PyData.strOk "number" = true := by decide +kernel
  have sw : PyData.strOk "whole" = true := by decide +kernel
  have s1 : PyData.strOk "num" = true := by decide +kernel
  have s2 : PyData.strOk "var" = true := by decide +kernel
  have s3 : PyData.strOk "new" = true := by decide +kernel
  have nk := nm_sok ok.nm ok.len
  have an3 : okD 2 an.d = true := by
    cases e : an with
    | num w => simp [An.d, okD, okDs, s1]
    | var x =>
      have := nk _ (ok.an x e)
      simp [An.d, okD, okDs, s2, this]
  have hn : okDs 4 (nm.map n6D) = true := okDs_all fun d hd => by
    obtain ⟨p, hp, rfl⟩ := List.mem_map.mp hd
    have := nk p hp
    cases b : p.2 <;> simp [n6D, k6D, k6N, k6W, okD, okDs, this, b, sn, sw]
  have an5 : okD 5 an.d = true := okD_up (n := 2) an3 3
  have an4 : okD 3 an.d = true := okD_up (n := 2) an3 1
  cases gv <;> simp [P6.d, k6N, k6W, okD, okDs, hn, an5, an4, sn, sw, s3]
theorem law_ok (ns : List Int) (h : ns.length ≤ 63) : ∃ hp', callF tb LEVEL "law" [.lst (ns.map .int)] [] = .ok (.bl true) hp' := by
  obtain ⟨z0, e0⟩ := v_cell 12 ns (k := 0) (by omega)
  have e0 : callF tb 13 "_law_cell" [.lst (ns.map .int), .int 0] = .pure (.int z0) := e0
  obtain ⟨m8, hm8, hm8'⟩ := mod_nat z0 (by decide : 0 < 8)
  have hm8 : z0 % 8 = (m8 : Int) := hm8
  obtain ⟨N, hN⟩ : ∃ N : Nat, N = 1 + m8 := ⟨_, rfl⟩
  have ad : binM .Add (.int 1) (.int (m8 : Int)) = .pure (.int (N : Int)) := by rw [bm1]; congr 2; omega
  obtain ⟨d, hd, hdN⟩ := mod_nat (z0 / 8) (show 0 < N by omega)
  have mo : binM .Mod (.int (z0 / 8)) (.int (N : Int)) = .pure (.int (d : Int)) := by rw [bm5 _ _ (by omega), hd]
  -- the parts
  have cx : ∀ j : Nat, ∃ (z : Int) (q : P6), j ≤ 20 → callF tb 13 "_law_cell" [.lst (ns.map .int), .int (4 + (j : Int))] = .pure (.int z) ∧ (callF tb 13 "_law_part" [.int (z % 1000000000000000), .bl (decide ((j : Int) = (d : Int)))]).run [] = .ok q.d [] ∧ q.ok := fun j => by
    by_cases hj : j ≤ 20
    · obtain ⟨z, ez⟩ := v_cell 12 ns (k := 4 + j) (by omega)
      obtain ⟨q, eq, ok, _⟩ := v_part6 11 (z % 1000000000000000) (decide ((j : Int) = (d : Int))) (h := [])
      exact ⟨z, q, fun _ => ⟨by simpa using ez, eq, ok⟩⟩
    · exact ⟨0, ⟨[], true, .num 0⟩, fun q => absurd q hj⟩
  obtain ⟨Z, hZ⟩ : ∃ Z : Nat → Int, ∀ j : Nat, ∃ q : P6, j ≤ 20 → callF tb 13 "_law_cell" [.lst (ns.map .int), .int (4 + (j : Int))] = .pure (.int (Z j)) ∧ (callF tb 13 "_law_part" [.int (Z j % 1000000000000000), .bl (decide ((j : Int) = (d : Int)))]).run [] = .ok q.d [] ∧ q.ok := ⟨fun j => Classical.choose (cx j), fun j => Classical.choose_spec (cx j)⟩
  obtain ⟨Q, hQ⟩ : ∃ Q : Nat → P6, ∀ j : Nat, j ≤ 20 → callF tb 13 "_law_cell" [.lst (ns.map .int), .int (4 + (j : Int))] = .pure (.int (Z j)) ∧ (callF tb 13 "_law_part" [.int (Z j % 1000000000000000), .bl (decide ((j : Int) = (d : Int)))]).run [] = .ok (Q j).d [] ∧ (Q j).ok := ⟨fun j => Classical.choose (hZ j), fun j => Classical.choose_spec (hZ j)⟩
  obtain ⟨ps, hps⟩ : ∃ ps, ps = (List.range N).map Q := ⟨_, rfl⟩
  have lps : ps.length = N := by rw [hps]; simp
  have hp : ∀ q ∈ ps, q.ok := fun q hq => by
    rw [hps] at hq
    obtain ⟨j, hj, rfl⟩ := List.mem_map.mp hq
    have := List.mem_range.mp hj
    exact (hQ j (by omega)).2.2
  obtain ⟨X, hX⟩ : ∃ X, X = ns.map D.int := ⟨_, rfl⟩
  have pw : binM .Pow (.int 10) (.int 15) = .pure (.int 1000000000000000) := by rw [bm6 _ _ (by decide)]; rfl
  have l1 := lc_mapH (h := []) (f := lcStep [.val (.lst X), .val (.int (N : Int)), .val (.int (d : Int)), .un, .un, .un, .un, .un, .un, .un, .un, .un, .un, .un, .un, .un, .un] (.nm 8) (evOcT (tb.cfg 13) .no) (evE (tb.cfg 13) e8law)) (fun j : Nat => D.int (j : Int)) (fun j => (Q j).d) (List.range N) [] (fun j hj => by
    have hj := List.mem_range.mp hj
    obtain ⟨a, b, _⟩ := hQ j (by omega)
    rw [← hX] at a
    obtain ⟨QD, hQD⟩ : ∃ QD, QD = (Q j).d := ⟨_, rfl⟩
    rw [← hQD] at b ⊢
    have mm : binM .Mod (.int (Z j)) (.int 1000000000000000) = .pure (.int (Z j % 1000000000000000)) := bm5 _ _ (by decide)
    obtain ⟨ZM, hZM⟩ : ∃ ZM : Int, ZM = Z j % 1000000000000000 := ⟨_, rfl⟩
    rw [← hZM] at b mm
    apply L_lc
    · (repeat' (first | (with_reducible show List.set _ _ _ = _; first | with_reducible exact Z0 | with_reducible apply ZS) | with_reducible apply A1))
    · rw [e8law]
      (repeat' (first | (with_reducible show _[_]? = _; first | with_reducible exact G0 | with_reducible apply GS) | (with_reducible show Mx.run (evE _ _ _) _ = _; first | with_reducible exact X_int | with_reducible apply X_var | with_reducible apply X_pkv | with_reducible apply X_bin | with_reducible apply X_cmp | with_reducible apply X_call) | (with_reducible show Mx.run (evCs _ _ _) _ = _; first | with_reducible exact X_nil | with_reducible apply X_cons) | with_reducible exact SD1 | with_reducible exact run_of a | with_reducible exact b | with_reducible exact run_of pw | with_reducible exact run_of mm | (with_reducible apply run_of; simp []; first | done | exact rfl))))
  rw [List.nil_append, show (List.range N).map (fun j => (Q j).d) = ps.map P6.d by rw [hps, List.map_map]; rfl] at l1
  have l2 := lc_mapH (h := []) (f := lcStep [.val (.lst X), .val (.int (N : Int)), .val (.int (d : Int)), .val (.lst (ps.map P6.d)), .val (pgD ps), .un, .un, .un, .un, .un, .un, .un, .un, .un, .un, .un, .un] (.nm 15) (evOcT (tb.cfg 13) .no) (evE (tb.cfg 13) e7law)) P6.d P6.d ps [] (fun q hq => by
    obtain ⟨NL, hNL⟩ : ∃ NL, NL = q.nm.map n6D := ⟨_, rfl⟩
    obtain ⟨G1, hG1⟩ : ∃ G, G = (if q.gv then k6N else k6W 0) := ⟨_, rfl⟩
    obtain ⟨G2, hG2⟩ : ∃ G, G = (if q.gv then q.an.d else .tup [.str "new", .int 1, .lst [q.an.d]]) := ⟨_, rfl⟩
    have qd : q.d = .tup [.lst NL, G1, .lst [], G2] := by rw [hNL, hG1, hG2]; rfl
    rw [qd]
    have li : biM "list" [.lst NL] = .pure (.lst NL) := by simp
    apply L_lc
    · (repeat' (first | (with_reducible show List.set _ _ _ = _; first | with_reducible exact Z0 | with_reducible apply ZS) | with_reducible apply A1))
    · rw [e7law]
      (repeat' (first | (with_reducible show _[_]? = _; first | with_reducible exact G0 | with_reducible apply GS) | (with_reducible show Mx.run (evE _ _ _) _ = _; first | with_reducible exact X_int | with_reducible apply X_pkv | with_reducible apply X_tup | with_reducible apply X_lst | with_reducible apply X_idx | with_reducible apply X_bi) | (with_reducible show Mx.run (evCs _ _ _) _ = _; first | with_reducible exact X_nil | with_reducible apply X_cons) | with_reducible exact SD1 | with_reducible exact run_of li | (with_reducible apply run_of; simp []; first | done | exact rfl) | (simp [frC, D.isC, D.isL, LINE]; done))))
  rw [List.nil_append] at l2
  have rgN' := rgN (k := N) (by omega)
  have rg3 : rngD [.int 3] = some [.int 0, .int 1, .int 2] := rgN (k := 3) (by omega)
  have eqp : cmpM .Eq (pgD ps) (pgD ps) = .pure true := eq_tup (n := 8) (by decide) (by
    have sn : PyData.strOk "number" = true := by decide +kernel
    have : okDs 7 (ps.map P6.d) = true := okDs_all fun d hd => by
      obtain ⟨q, hq, rfl⟩ := List.mem_map.mp hd
      exact okD_up (n := 6) (p6_okD (hp q hq)) 1
    have m6 : okD 8 ms6 = true := by simp [ms6, okD, okDs, sn]
    show (okD 8 ms6 && (okD 8 (.lst (ps.map P6.d)) && okDs 8 [])) = true
    rw [m6]
    show (true && (okDs 7 (ps.map P6.d) && true)) = true
    rw [this]
    rfl)
  obtain ⟨ha, p1, t1⟩ := t_turn ns hp (by omega) (d : Int) (k := 0) (by decide) .un (h := [])
  obtain ⟨hb, p2, t2⟩ := t_turn ns hp (by omega) (d : Int) (k := 1) (by decide) (.val (.int p1)) (h := ha)
  obtain ⟨hc, p3, t3⟩ := t_turn ns hp (by omega) (d : Int) (k := 2) (by decide) (.val (.int p2)) (h := hb)
  have lp : (forL (forStep (.nm 6) (evSs (tb.cfg 13) b6law)) [.int 0, .int 1, .int 2] (Z6 ns ps (d : Int) .un)).run [] = .ok (.nx (Z6 ns ps (d : Int) (.val (.int p3)))) hc := L_nx t1 (L_nx t2 (L_nx t3 rfl))
  refine ⟨hc, ?_⟩
  unfold Z6 at lp
  have pgd : pgD ps = .tup [.lst [.tup [.non, .lst []], .tup [.int 0, .lst [.tup [.str "number"]]]], .lst (ps.map P6.d)] := rfl
  obtain ⟨PD, hPD⟩ : ∃ PD, PD = ps.map P6.d := ⟨_, rfl⟩
  obtain ⟨RG, hRG⟩ : ∃ RG, RG = (List.range N).map fun j : Nat => D.int (j : Int) := ⟨_, rfl⟩
  rw [pgd, ← hX, ← hPD, lps] at lp
  rw [pgd, ← hPD] at l2 eqp
  rw [← hPD, ← hRG] at l1
  rw [← hRG] at rgN'
  rw [← hX] at e0
  show Mx.run (callF tb 14 "law" [.lst (ns.map D.int)]) [] = _
  rw [callF_succ tb_law, ← hX]
  refine F_rt rfl ?_; simp only [List.length, Nat.reduceAdd, Nat.reduceSub, Nat.sub_self, List.replicate, List.map_cons, List.map_nil, List.cons_append, List.nil_append, flaw]
  (repeat' (first | (with_reducible show _[_]? = _; first | with_reducible exact G0 | with_reducible apply GS) | (with_reducible show List.set _ _ _ = _; first | with_reducible exact Z0 | with_reducible apply ZS) | (with_reducible show Mx.run (thn _ _) _ = _; first | with_reducible apply K_set | with_reducible refine K_ret rfl ?_ | with_reducible apply K_for) | (with_reducible show Mx.run (evE _ _ _) _ = _; first | with_reducible exact X_int | with_reducible exact X_str | with_reducible exact X_non | with_reducible apply X_var | with_reducible apply X_pkv | with_reducible apply X_bin | with_reducible apply X_cmp | with_reducible apply X_tup | with_reducible apply X_lst | with_reducible apply X_call | with_reducible apply X_lc) | (with_reducible show Mx.run (evCs _ _ _) _ = _; first | with_reducible exact X_nil | with_reducible apply X_cons) | (with_reducible show Mx.run (evIt _ _ _) _ = _; first | with_reducible apply I_seq | with_reducible apply I_rng) | (with_reducible show Mx.run (thnF _ _) _ = _; first | with_reducible apply N_nx) | (show freeAt _ _ = true; exact rfl) | (show (It.sz _ || _) = true; exact rfl) | with_reducible exact SD1 | with_reducible apply WN | with_reducible exact run_of e0 | with_reducible exact run_of ad | with_reducible exact run_of mo | with_reducible exact l1 | with_reducible exact l2 | with_reducible exact rgN' | with_reducible exact rg3 | with_reducible exact lp | with_reducible exact run_of eqp | (with_reducible apply run_of; simp [hm8]; first | done | exact rfl) | (simp [frC, D.isC, D.isL, LINE, hm8]; done) | with_reducible apply sq1))
end RR

namespace RR
open PySem L2
theorem mdl {K : PySem.W.Frag} {w : World} {h : Heap} {mg : Str → Option Value} {fa : Addr} (KX : K.In h) (G : h.Ns mainGlobals mg) (hfa : mg "law" = some (.ref fa))
    {v0 : Addr} {g0 : Option Addr} {h0 : Option Addr} {s0 : Array (Option Value)} {a0 b0 c0 d0 e0 r0 : Value} {v1 : Addr} {g1 : Option Addr} {h1 : Option Addr} {s1 : Array (Option Value)} {a1 b1 c1 d1 e1 r1 : Value} {v2 : Addr} {g2 : Option Addr} {h2 : Option Addr} {s2 : Array (Option Value)} {a2 b2 c2 d2 e2 r2 : Value} {v3 : Addr} {g3 : Option Addr} {h3 : Option Addr} {s3 : Array (Option Value)} {a3 b3 c3 d3 e3 r3 : Value} {v4 : Addr} {g4 : Option Addr} {h4 : Option Addr} {s4 : Array (Option Value)} {a4 b4 c4 d4 e4 r4 : Value} {v5 : Addr} {g5 : Option Addr} {h5 : Option Addr} {s5 : Array (Option Value)} {a5 b5 c5 d5 e5 r5 : Value} {v6 : Addr} {g6 : Option Addr} {h6 : Option Addr} {s6 : Array (Option Value)} {a6 b6 c6 d6 e6 r6 : Value} {v7 : Addr} {g7 : Option Addr} {h7 : Option Addr} {s7 : Array (Option Value)} {a7 b7 c7 d7 e7 r7 : Value} {v8 : Addr} {g8 : Option Addr} {h8 : Option Addr} {s8 : Array (Option Value)} {a8 b8 c8 d8 e8 r8 : Value} {v9 : Addr} {g9 : Option Addr} {h9 : Option Addr} {s9 : Array (Option Value)} {a9 b9 c9 d9 e9 r9 : Value} {v10 : Addr} {g10 : Option Addr} {h10 : Option Addr} {s10 : Array (Option Value)} {a10 b10 c10 d10 e10 r10 : Value} {v11 : Addr} {g11 : Option Addr} {h11 : Option Addr} {s11 : Array (Option Value)} {a11 b11 c11 d11 e11 r11 : Value} {v12 : Addr} {g12 : Option Addr} {h12 : Option Addr} {s12 : Array (Option Value)} {a12 b12 c12 d12 e12 r12 : Value} {v13 : Addr} {g13 : Option Addr} {h13 : Option Addr} {s13 : Array (Option Value)} {a13 b13 c13 d13 e13 r13 : Value} {v14 : Addr} {g14 : Option Addr} {h14 : Option Addr} {s14 : Array (Option Value)} {a14 b14 c14 d14 e14 r14 : Value} {v15 : Addr} {g15 : Option Addr} {h15 : Option Addr} {s15 : Array (Option Value)} {a15 b15 c15 d15 e15 r15 : Value} {v16 : Addr} {g16 : Option Addr} {h16 : Option Addr} {s16 : Array (Option Value)} {a16 b16 c16 d16 e16 r16 : Value} {v17 : Addr} {g17 : Option Addr} {h17 : Option Addr} {s17 : Array (Option Value)} {a17 b17 c17 d17 e17 r17 : Value} {v18 : Addr} {g18 : Option Addr} {h18 : Option Addr} {s18 : Array (Option Value)} {a18 b18 c18 d18 e18 r18 : Value} {v19 : Addr} {g19 : Option Addr} {h19 : Option Addr} {s19 : Array (Option Value)} {a19 b19 c19 d19 e19 r19 : Value} {v20 : Addr} {g20 : Option Addr} {h20 : Option Addr} {s20 : Array (Option Value)} {a20 b20 c20 d20 e20 r20 : Value} {v21 : Addr} {g21 : Option Addr} {h21 : Option Addr} {s21 : Array (Option Value)} {a21 b21 c21 d21 e21 r21 : Value} {v22 : Addr} {g22 : Option Addr} {h22 : Option Addr} {s22 : Array (Option Value)} {a22 b22 c22 d22 e22 r22 : Value} {v23 : Addr} {g23 : Option Addr} {h23 : Option Addr} {s23 : Array (Option Value)} {a23 b23 c23 d23 e23 r23 : Value} {v24 : Addr} {g24 : Option Addr} {h24 : Option Addr} {s24 : Array (Option Value)} {a24 b24 c24 d24 e24 r24 : Value} {v25 : Addr} {g25 : Option Addr} {h25 : Option Addr} {s25 : Array (Option Value)} {a25 b25 c25 d25 e25 r25 : Value} {v26 : Addr} {g26 : Option Addr} {h26 : Option Addr} {s26 : Array (Option Value)} {a26 b26 c26 d26 e26 r26 : Value} {v27 : Addr} {g27 : Option Addr} {h27 : Option Addr} {s27 : Array (Option Value)} {a27 b27 c27 d27 e27 r27 : Value} {O0 : Addr} {O1 : Addr} {u0 : Value} {u1 : Value} {u2 : Value} {u3 : Value} {X0 : Addr} {X1 : Addr} {X2 : Addr} {X3 : Addr} {X4 : Addr} {X5 : Addr} {X6 : Addr}
    (on0 : PySem.W.nsIn K mainGlobals "Frame" = some (some (.ref O0)))
    (on1 : PySem.W.nsIn K mainGlobals "Reading" = some (some (.ref O1)))
    (n0 : PySem.W.nsIn K mainGlobals "is_under" = some (some (.ref v0)))
    (l0 : K.lookup v0 = some ⟨a0, g0, .func (PySem.W.fnOf "is_under" "is_under" (defArgs (bodyAt 7)) (defBody (bodyAt 7)) (defScope (bodyAt 7)) .none b0 c0 d0 h0 e0 r0), s0⟩) (q0 : PySem.W.codeIn K e0 "is_under" = true) (k0 : PySem.W.keepIn K (.ref v0) = true)
    (n1 : PySem.W.nsIn K mainGlobals "wrapped" = some (some (.ref v1)))
    (l1 : K.lookup v1 = some ⟨a1, g1, .func (PySem.W.fnOf "wrapped" "wrapped" (defArgs (bodyAt 11)) (defBody (bodyAt 11)) (defScope (bodyAt 11)) .none b1 c1 d1 h1 e1 r1), s1⟩) (q1 : PySem.W.codeIn K e1 "wrapped" = true) (k1 : PySem.W.keepIn K (.ref v1) = true)
    (n2 : PySem.W.nsIn K mainGlobals "reckoned" = some (some (.ref v2)))
    (l2 : K.lookup v2 = some ⟨a2, g2, .func (PySem.W.fnOf "reckoned" "reckoned" (defArgs (bodyAt 12)) (defBody (bodyAt 12)) (defScope (bodyAt 12)) .none b2 c2 d2 h2 e2 r2), s2⟩) (q2 : PySem.W.codeIn K e2 "reckoned" = true) (k2 : PySem.W.keepIn K (.ref v2) = true)
    (n3 : PySem.W.nsIn K mainGlobals "reckoned_or_tossed" = some (some (.ref v3)))
    (l3 : K.lookup v3 = some ⟨a3, g3, .func (PySem.W.fnOf "reckoned_or_tossed" "reckoned_or_tossed" (defArgs (bodyAt 22)) (defBody (bodyAt 22)) (defScope (bodyAt 22)) .none b3 c3 d3 h3 e3 r3), s3⟩) (q3 : PySem.W.codeIn K e3 "reckoned_or_tossed" = true) (k3 : PySem.W.keepIn K (.ref v3) = true)
    (n4 : PySem.W.nsIn K mainGlobals "values_of" = some (some (.ref v4)))
    (l4 : K.lookup v4 = some ⟨a4, g4, .func (PySem.W.fnOf "values_of" "values_of" (defArgs (bodyAt 23)) (defBody (bodyAt 23)) (defScope (bodyAt 23)) .none b4 c4 d4 h4 e4 r4), s4⟩) (q4 : PySem.W.codeIn K e4 "values_of" = true) (k4 : PySem.W.keepIn K (.ref v4) = true)
    (n5 : PySem.W.nsIn K mainGlobals "called" = some (some (.ref v5)))
    (l5 : K.lookup v5 = some ⟨a5, g5, .func (PySem.W.fnOf "called" "called" (defArgs (bodyAt 24)) (defBody (bodyAt 24)) (defScope (bodyAt 24)) .none b5 c5 d5 h5 e5 r5), s5⟩) (q5 : PySem.W.codeIn K e5 "called" = true) (k5 : PySem.W.keepIn K (.ref v5) = true)
    (n6 : PySem.W.nsIn K mainGlobals "value_of" = some (some (.ref v6)))
    (l6 : K.lookup v6 = some ⟨a6, g6, .func (PySem.W.fnOf "value_of" "value_of" (defArgs (bodyAt 25)) (defBody (bodyAt 25)) (defScope (bodyAt 25)) .none b6 c6 d6 h6 e6 r6), s6⟩) (q6 : PySem.W.codeIn K e6 "value_of" = true) (k6 : PySem.W.keepIn K (.ref v6) = true)
    (n7 : PySem.W.nsIn K mainGlobals "while_done" = some (some (.ref v7)))
    (l7 : K.lookup v7 = some ⟨a7, g7, .func (PySem.W.fnOf "while_done" "while_done" (defArgs (bodyAt 26)) (defBody (bodyAt 26)) (defScope (bodyAt 26)) .none b7 c7 d7 h7 e7 r7), s7⟩) (q7 : PySem.W.codeIn K e7 "while_done" = true) (k7 : PySem.W.keepIn K (.ref v7) = true)
    (n8 : PySem.W.nsIn K mainGlobals "kin_done" = some (some (.ref v8)))
    (l8 : K.lookup v8 = some ⟨a8, g8, .func (PySem.W.fnOf "kin_done" "kin_done" (defArgs (bodyAt 27)) (defBody (bodyAt 27)) (defScope (bodyAt 27)) .none b8 c8 d8 h8 e8 r8), s8⟩) (q8 : PySem.W.codeIn K e8 "kin_done" = true) (k8 : PySem.W.keepIn K (.ref v8) = true)
    (n9 : PySem.W.nsIn K mainGlobals "try_done" = some (some (.ref v9)))
    (l9 : K.lookup v9 = some ⟨a9, g9, .func (PySem.W.fnOf "try_done" "try_done" (defArgs (bodyAt 28)) (defBody (bodyAt 28)) (defScope (bodyAt 28)) .none b9 c9 d9 h9 e9 r9), s9⟩) (q9 : PySem.W.codeIn K e9 "try_done" = true) (k9 : PySem.W.keepIn K (.ref v9) = true)
    (n10 : PySem.W.nsIn K mainGlobals "branch_done" = some (some (.ref v10)))
    (l10 : K.lookup v10 = some ⟨a10, g10, .func (PySem.W.fnOf "branch_done" "branch_done" (defArgs (bodyAt 29)) (defBody (bodyAt 29)) (defScope (bodyAt 29)) .none b10 c10 d10 h10 e10 r10), s10⟩) (q10 : PySem.W.codeIn K e10 "branch_done" = true) (k10 : PySem.W.keepIn K (.ref v10) = true)
    (n11 : PySem.W.nsIn K mainGlobals "statement_done" = some (some (.ref v11)))
    (l11 : K.lookup v11 = some ⟨a11, g11, .func (PySem.W.fnOf "statement_done" "statement_done" (defArgs (bodyAt 30)) (defBody (bodyAt 30)) (defScope (bodyAt 30)) .none b11 c11 d11 h11 e11 r11), s11⟩) (q11 : PySem.W.codeIn K e11 "statement_done" = true) (k11 : PySem.W.keepIn K (.ref v11) = true)
    (n12 : PySem.W.nsIn K mainGlobals "list_done" = some (some (.ref v12)))
    (l12 : K.lookup v12 = some ⟨a12, g12, .func (PySem.W.fnOf "list_done" "list_done" (defArgs (bodyAt 31)) (defBody (bodyAt 31)) (defScope (bodyAt 31)) .none b12 c12 d12 h12 e12 r12), s12⟩) (q12 : PySem.W.codeIn K e12 "list_done" = true) (k12 : PySem.W.keepIn K (.ref v12) = true)
    (n13 : PySem.W.nsIn K mainGlobals "part_given" = some (some (.ref v13)))
    (l13 : K.lookup v13 = some ⟨a13, g13, .func (PySem.W.fnOf "part_given" "part_given" (defArgs (bodyAt 32)) (defBody (bodyAt 32)) (defScope (bodyAt 32)) .none b13 c13 d13 h13 e13 r13), s13⟩) (q13 : PySem.W.codeIn K e13 "part_given" = true) (k13 : PySem.W.keepIn K (.ref v13) = true)
    (n14 : PySem.W.nsIn K mainGlobals "need_door" = some (some (.ref v14)))
    (l14 : K.lookup v14 = some ⟨a14, g14, .func (PySem.W.fnOf "need_door" "need_door" (defArgs (bodyAt 33)) (defBody (bodyAt 33)) (defScope (bodyAt 33)) .none b14 c14 d14 h14 e14 r14), s14⟩) (q14 : PySem.W.codeIn K e14 "need_door" = true) (k14 : PySem.W.keepIn K (.ref v14) = true)
    (n15 : PySem.W.nsIn K mainGlobals "plain_run" = some (some (.ref v15)))
    (l15 : K.lookup v15 = some ⟨a15, g15, .func (PySem.W.fnOf "plain_run" "plain_run" (defArgs (bodyAt 34)) (defBody (bodyAt 34)) (defScope (bodyAt 34)) .none b15 c15 d15 h15 e15 r15), s15⟩) (q15 : PySem.W.codeIn K e15 "plain_run" = true) (k15 : PySem.W.keepIn K (.ref v15) = true)
    (n16 : PySem.W.nsIn K mainGlobals "_law_cell" = some (some (.ref v16)))
    (l16 : K.lookup v16 = some ⟨a16, g16, .func (PySem.W.fnOf "_law_cell" "_law_cell" (defArgs (bodyAt 36)) (defBody (bodyAt 36)) (defScope (bodyAt 36)) .none b16 c16 d16 h16 e16 r16), s16⟩) (q16 : PySem.W.codeIn K e16 "_law_cell" = true) (k16 : PySem.W.keepIn K (.ref v16) = true)
    (n17 : PySem.W.nsIn K mainGlobals "_law_whole" = some (some (.ref v17)))
    (l17 : K.lookup v17 = some ⟨a17, g17, .func (PySem.W.fnOf "_law_whole" "_law_whole" (defArgs (bodyAt 37)) (defBody (bodyAt 37)) (defScope (bodyAt 37)) .none b17 c17 d17 h17 e17 r17), s17⟩) (q17 : PySem.W.codeIn K e17 "_law_whole" = true) (k17 : PySem.W.keepIn K (.ref v17) = true)
    (n18 : PySem.W.nsIn K mainGlobals "_law_word" = some (some (.ref v18)))
    (l18 : K.lookup v18 = some ⟨a18, g18, .func (PySem.W.fnOf "_law_word" "_law_word" (defArgs (bodyAt 38)) (defBody (bodyAt 38)) (defScope (bodyAt 38)) .none b18 c18 d18 h18 e18 r18), s18⟩) (q18 : PySem.W.codeIn K e18 "_law_word" = true) (k18 : PySem.W.keepIn K (.ref v18) = true)
    (n19 : PySem.W.nsIn K mainGlobals "_law_part" = some (some (.ref v19)))
    (l19 : K.lookup v19 = some ⟨a19, g19, .func (PySem.W.fnOf "_law_part" "_law_part" (defArgs (bodyAt 39)) (defBody (bodyAt 39)) (defScope (bodyAt 39)) .none b19 c19 d19 h19 e19 r19), s19⟩) (q19 : PySem.W.codeIn K e19 "_law_part" = true) (k19 : PySem.W.keepIn K (.ref v19) = true)
    (n20 : PySem.W.nsIn K mainGlobals "_law_due" = some (some (.ref v20)))
    (l20 : K.lookup v20 = some ⟨a20, g20, .func (PySem.W.fnOf "_law_due" "_law_due" (defArgs (bodyAt 40)) (defBody (bodyAt 40)) (defScope (bodyAt 40)) .none b20 c20 d20 h20 e20 r20), s20⟩) (q20 : PySem.W.codeIn K e20 "_law_due" = true) (k20 : PySem.W.keepIn K (.ref v20) = true)
    (n21 : PySem.W.nsIn K mainGlobals "_law_told" = some (some (.ref v21)))
    (l21 : K.lookup v21 = some ⟨a21, g21, .func (PySem.W.fnOf "_law_told" "_law_told" (defArgs (bodyAt 41)) (defBody (bodyAt 41)) (defScope (bodyAt 41)) .none b21 c21 d21 h21 e21 r21), s21⟩) (q21 : PySem.W.codeIn K e21 "_law_told" = true) (k21 : PySem.W.keepIn K (.ref v21) = true)
    (n22 : PySem.W.nsIn K mainGlobals "_law_right" = some (some (.ref v22)))
    (l22 : K.lookup v22 = some ⟨a22, g22, .func (PySem.W.fnOf "_law_right" "_law_right" (defArgs (bodyAt 42)) (defBody (bodyAt 42)) (defScope (bodyAt 42)) .none b22 c22 d22 h22 e22 r22), s22⟩) (q22 : PySem.W.codeIn K e22 "_law_right" = true) (k22 : PySem.W.keepIn K (.ref v22) = true)
    (n23 : PySem.W.nsIn K mainGlobals "law" = some (some (.ref v23)))
    (l23 : K.lookup v23 = some ⟨a23, g23, .func (PySem.W.fnOf "law" "law" (defArgs (bodyAt 43)) (defBody (bodyAt 43)) (defScope (bodyAt 43)) .none b23 c23 d23 h23 e23 r23), s23⟩) (q23 : PySem.W.codeIn K e23 "law" = true) (k23 : PySem.W.keepIn K (.ref v23) = true)
    (n24 : PySem.W.findIn K (.ref O1) "__init__" = some (some (.ref v24)))
    (l24 : K.lookup v24 = some ⟨a24, g24, .func (PySem.W.fnOf "__init__" "Reading.__init__" (defArgs (clsAt 20 0)) (defBody (clsAt 20 0)) (defScope (clsAt 20 0)) .none b24 c24 d24 h24 e24 r24), s24⟩) (q24 : PySem.W.codeIn K e24 "Reading.__init__" = true) (k24 : PySem.W.keepIn K (.ref v24) = true)
    (nf24 : PySem.W.isFn K (.ref v24) = true)
    (n25 : PySem.W.findIn K (.ref O1) "pay" = some (some (.ref v25)))
    (l25 : K.lookup v25 = some ⟨a25, g25, .func (PySem.W.fnOf "pay" "Reading.pay" (defArgs (clsAt 20 1)) (defBody (clsAt 20 1)) (defScope (clsAt 20 1)) .none b25 c25 d25 h25 e25 r25), s25⟩) (q25 : PySem.W.codeIn K e25 "Reading.pay" = true) (k25 : PySem.W.keepIn K (.ref v25) = true)
    (nf25 : PySem.W.isFn K (.ref v25) = true)
    (n26 : PySem.W.findIn K (.ref O1) "born" = some (some (.ref v26)))
    (l26 : K.lookup v26 = some ⟨a26, g26, .func (PySem.W.fnOf "born" "Reading.born" (defArgs (clsAt 20 2)) (defBody (clsAt 20 2)) (defScope (clsAt 20 2)) .none b26 c26 d26 h26 e26 r26), s26⟩) (q26 : PySem.W.codeIn K e26 "Reading.born" = true) (k26 : PySem.W.keepIn K (.ref v26) = true)
    (nf26 : PySem.W.isFn K (.ref v26) = true)
    (n27 : PySem.W.findIn K (.ref O0) "__init__" = some (some (.ref v27)))
    (l27 : K.lookup v27 = some ⟨a27, g27, .func (PySem.W.fnOf "__init__" "Frame.__init__" (defArgs (clsAt 21 0)) (defBody (clsAt 21 0)) (defScope (clsAt 21 0)) .none b27 c27 d27 h27 e27 r27), s27⟩) (q27 : PySem.W.codeIn K e27 "Frame.__init__" = true) (k27 : PySem.W.keepIn K (.ref v27) = true)
    (nf27 : PySem.W.isFn K (.ref v27) = true)
    (oc0 : clsB K O0 = true) (of0 : noaB K O0 (["deep", "names"] : List Str) = true) (om0 : PySem.W.makesIn K O0 = true) (ok0 : PySem.W.keepIn K (.ref O0) = true)
    (oa0_0 : PySem.W.findIn K (.ref O0) "__init__" = some (some (.ref v27)))
    (oc1 : clsB K O1 = true) (of1 : noaB K O1 (["makes", "parts", "records", "said", "left"] : List Str) = true) (om1 : PySem.W.makesIn K O1 = true) (ok1 : PySem.W.keepIn K (.ref O1) = true)
    (oa1_0 : PySem.W.findIn K (.ref O1) "born" = some (some (.ref v26)))
    (oa1_1 : PySem.W.findIn K (.ref O1) "pay" = some (some (.ref v25)))
    (oa1_2 : PySem.W.findIn K (.ref O1) "__init__" = some (some (.ref v24)))
    (m0 : PySem.W.nsIn K mainGlobals "FRAMES" = some (some u0)) (w0 : kD K 9 (.int 12) u0 = true)
    (m1 : PySem.W.nsIn K mainGlobals "HALF" = some (some u1)) (w1 : kD K 9 (.int 2147483648) u1 = true)
    (m2 : PySem.W.nsIn K mainGlobals "NUMBER" = some (some u2)) (w2 : kD K 9 (.tup [(.str "number")]) u2 = true)
    (m3 : PySem.W.nsIn K mainGlobals "SPAN" = some (some u3)) (w3 : kD K 9 (.int 4294967296) u3 = true)
    (cn0 : PySem.W.nsIn K mainGlobals "NoBook" = some (some (.ref X0)))
    (cn1 : PySem.W.nsIn K mainGlobals "NoDoor" = some (some (.ref X1)))
    (cn2 : PySem.W.nsIn K mainGlobals "NoTree" = some (some (.ref X2)))
    (cn3 : PySem.W.nsIn K mainGlobals "Nought" = some (some (.ref X3)))
    (cn4 : PySem.W.nsIn K mainGlobals "Tossed" = some (some (.ref X4)))
    (cn5 : PySem.W.nsIn K mainGlobals "WardenError" = some (some (.ref X5)))
    (cn6 : PySem.W.nsIn K mainGlobals "Worn" = some (some (.ref X6)))
    (cx1 : xcB K X1 = true) (cf1 : xfB2 K X1 [] = true) (cr1 : raiB K X1 = true) (ce1 : PySem.W.excIn K X1 [.type "ValueError", .type "Exception", .type "BaseException", .type "object"] "ValueError.__new__" = true)
    (ci1_0 : isaB K X1 (.ref X0) false = true)
    (ci1_1 : isaB K X1 (.ref X1) true = true)
    (ci1_2 : isaB K X1 (.ref X2) false = true)
    (ci1_3 : isaB K X1 (.ref X3) false = true)
    (ci1_4 : isaB K X1 (.ref X4) false = true)
    (ci1_5 : isaB K X1 (.type "ValueError") true = true)
    (ci1_6 : isaB K X1 (.ref X5) true = true)
    (ci1_7 : isaB K X1 (.ref X6) false = true)
    (cx3 : xcB K X3 = true) (cf3 : xfB2 K X3 [] = true) (cr3 : raiB K X3 = true) (ce3 : PySem.W.excIn K X3 [.type "ValueError", .type "Exception", .type "BaseException", .type "object"] "ValueError.__new__" = true)
    (ci3_0 : isaB K X3 (.ref X0) false = true)
    (ci3_1 : isaB K X3 (.ref X1) false = true)
    (ci3_2 : isaB K X3 (.ref X2) false = true)
    (ci3_3 : isaB K X3 (.ref X3) true = true)
    (ci3_4 : isaB K X3 (.ref X4) false = true)
    (ci3_5 : isaB K X3 (.type "ValueError") true = true)
    (ci3_6 : isaB K X3 (.ref X5) true = true)
    (ci3_7 : isaB K X3 (.ref X6) false = true)
    (cb0 : PySem.W.nsIn K mainGlobals "ValueError" = some none)
    (z0 : PySem.W.nsIn K mainGlobals "len" = some none)
    (z1 : PySem.W.nsIn K mainGlobals "max" = some none)
    (z2 : PySem.W.nsIn K mainGlobals "min" = some none)
    (z3 : PySem.W.nsIn K mainGlobals "all" = some none)
    (z4 : PySem.W.nsIn K mainGlobals "sum" = some none)
    (z5 : PySem.W.nsIn K mainGlobals "list" = some none)
    (z6 : PySem.W.nsIn K mainGlobals "tuple" = some none)
    (z7 : PySem.W.nsIn K mainGlobals "int" = some none)
    (z8 : PySem.W.nsIn K mainGlobals "bool" = some none)
    (z9 : PySem.W.nsIn K mainGlobals "str" = some none)
    (z10 : PySem.W.nsIn K mainGlobals "isinstance" = some none)
    (z11 : PySem.W.nsIn K mainGlobals "range" = some none)
    (z12 : PySem.W.nsIn K mainGlobals "enumerate" = some none)
    (z13 : PySem.W.nsIn K mainGlobals "zip" = some none)
    (z14 : PySem.W.nsIn K mainGlobals "reversed" = some none)
    (z15 : PySem.W.nsIn K mainGlobals "divmod" = some none)
    (z16 : PySem.W.nsIn K mainGlobals "abs" = some none)
    (z17 : PySem.W.nsIn K mainGlobals "set" = some none)
    : Mdl tb K w mg ∧ ∃ st fd, DefAt tb.has K mg "law" flaw st fa fd ["_law_script"] ∧ ∀ (s : Shared) (u : Value), BindsTo s fd ⟨[u], []⟩ [("_law_script", u)] := by
  have he : v23 = fa := by
    have z := hfa.symm.trans (PySem.W.mg_of KX G n23)
    cases z; rfl
  subst he
  have F0 := fun_mk (st := bodyAt 7) l0 q0 k0
  have B0 : bs "is_under" = "is_under" := by decide +kernel
  have D0 : DefAt tb.has K mg "is_under" fis_under (bodyAt 7) v0 _ ["makes", "c", "other"] := ⟨⟨_, _, F0⟩, fun _ => by rw [B0]; exact PySem.W.mg_of KX G n0, F0.binds (ps := ["makes", "c", "other"]) fun _ _ _ _ _ _ us hl => match us, hl with | [_, _, _], _ => rfl, ck_is_under⟩
  have F1 := fun_mk (st := bodyAt 11) l1 q1 k1
  have B1 : bs "wrapped" = "wrapped" := by decide +kernel
  have D1 : DefAt tb.has K mg "wrapped" fwrapped (bodyAt 11) v1 _ ["number"] := ⟨⟨_, _, F1⟩, fun _ => by rw [B1]; exact PySem.W.mg_of KX G n1, F1.binds (ps := ["number"]) fun _ _ _ _ _ _ us hl => match us, hl with | [_], _ => rfl, ck_wrapped⟩
  have F2 := fun_mk (st := bodyAt 12) l2 q2 k2
  have B2 : bs "reckoned" = "reckoned" := by decide +kernel
  have D2 : DefAt tb.has K mg "reckoned" freckoned (bodyAt 12) v2 _ ["sign", "one", "other"] := ⟨⟨_, _, F2⟩, fun _ => by rw [B2]; exact PySem.W.mg_of KX G n2, F2.binds (ps := ["sign", "one", "other"]) fun _ _ _ _ _ _ us hl => match us, hl with | [_, _, _], _ => rfl, ck_reckoned⟩
  have F3 := fun_mk (st := bodyAt 22) l3 q3 k3
  have B3 : bs "reckoned_or_tossed" = "reckoned_or_tossed" := by decide +kernel
  have D3 : DefAt tb.has K mg "reckoned_or_tossed" freckoned_or_tossed (bodyAt 22) v3 _ ["sign", "one", "other"] := ⟨⟨_, _, F3⟩, fun _ => by rw [B3]; exact PySem.W.mg_of KX G n3, F3.binds (ps := ["sign", "one", "other"]) fun _ _ _ _ _ _ us hl => match us, hl with | [_, _, _], _ => rfl, ck_reckoned_or_tossed⟩
  have F4 := fun_mk (st := bodyAt 23) l4 q4 k4
  have B4 : bs "values_of" = "values_of" := by decide +kernel
  have D4 : DefAt tb.has K mg "values_of" fvalues_of (bodyAt 23) v4 _ ["run", "frame", "some"] := ⟨⟨_, _, F4⟩, fun _ => by rw [B4]; exact PySem.W.mg_of KX G n4, F4.binds (ps := ["run", "frame", "some"]) fun _ _ _ _ _ _ us hl => match us, hl with | [_, _, _], _ => rfl, ck_values_of⟩
  have F5 := fun_mk (st := bodyAt 24) l5 q5 k5
  have B5 : bs "called" = "called" := by decide +kernel
  have D5 : DefAt tb.has K mg "called" fcalled (bodyAt 24) v5 _ ["run", "frame", "e"] := ⟨⟨_, _, F5⟩, fun _ => by rw [B5]; exact PySem.W.mg_of KX G n5, F5.binds (ps := ["run", "frame", "e"]) fun _ _ _ _ _ _ us hl => match us, hl with | [_, _, _], _ => rfl, ck_called⟩
  have F6 := fun_mk (st := bodyAt 25) l6 q6 k6
  have B6 : bs "value_of" = "value_of" := by decide +kernel
  have D6 : DefAt tb.has K mg "value_of" fvalue_of (bodyAt 25) v6 _ ["run", "frame", "e"] := ⟨⟨_, _, F6⟩, fun _ => by rw [B6]; exact PySem.W.mg_of KX G n6, F6.binds (ps := ["run", "frame", "e"]) fun _ _ _ _ _ _ us hl => match us, hl with | [_, _, _], _ => rfl, ck_value_of⟩
  have F7 := fun_mk (st := bodyAt 26) l7 q7 k7
  have B7 : bs "while_done" = "while_done" := by decide +kernel
  have D7 : DefAt tb.has K mg "while_done" fwhile_done (bodyAt 26) v7 _ ["run", "frame", "s"] := ⟨⟨_, _, F7⟩, fun _ => by rw [B7]; exact PySem.W.mg_of KX G n7, F7.binds (ps := ["run", "frame", "s"]) fun _ _ _ _ _ _ us hl => match us, hl with | [_, _, _], _ => rfl, ck_while_done⟩
  have F8 := fun_mk (st := bodyAt 27) l8 q8 k8
  have B8 : bs "kin_done" = "kin_done" := by decide +kernel
  have D8 : DefAt tb.has K mg "kin_done" fkin_done (bodyAt 27) v8 _ ["run", "frame", "s"] := ⟨⟨_, _, F8⟩, fun _ => by rw [B8]; exact PySem.W.mg_of KX G n8, F8.binds (ps := ["run", "frame", "s"]) fun _ _ _ _ _ _ us hl => match us, hl with | [_, _, _], _ => rfl, ck_kin_done⟩
  have F9 := fun_mk (st := bodyAt 28) l9 q9 k9
  have B9 : bs "try_done" = "try_done" := by decide +kernel
  have D9 : DefAt tb.has K mg "try_done" ftry_done (bodyAt 28) v9 _ ["run", "frame", "s"] := ⟨⟨_, _, F9⟩, fun _ => by rw [B9]; exact PySem.W.mg_of KX G n9, F9.binds (ps := ["run", "frame", "s"]) fun _ _ _ _ _ _ us hl => match us, hl with | [_, _, _], _ => rfl, ck_try_done⟩
  have F10 := fun_mk (st := bodyAt 29) l10 q10 k10
  have B10 : bs "branch_done" = "branch_done" := by decide +kernel
  have D10 : DefAt tb.has K mg "branch_done" fbranch_done (bodyAt 29) v10 _ ["run", "frame", "s"] := ⟨⟨_, _, F10⟩, fun _ => by rw [B10]; exact PySem.W.mg_of KX G n10, F10.binds (ps := ["run", "frame", "s"]) fun _ _ _ _ _ _ us hl => match us, hl with | [_, _, _], _ => rfl, ck_branch_done⟩
  have F11 := fun_mk (st := bodyAt 30) l11 q11 k11
  have B11 : bs "statement_done" = "statement_done" := by decide +kernel
  have D11 : DefAt tb.has K mg "statement_done" fstatement_done (bodyAt 30) v11 _ ["run", "frame", "s"] := ⟨⟨_, _, F11⟩, fun _ => by rw [B11]; exact PySem.W.mg_of KX G n11, F11.binds (ps := ["run", "frame", "s"]) fun _ _ _ _ _ _ us hl => match us, hl with | [_, _, _], _ => rfl, ck_statement_done⟩
  have F12 := fun_mk (st := bodyAt 31) l12 q12 k12
  have B12 : bs "list_done" = "list_done" := by decide +kernel
  have D12 : DefAt tb.has K mg "list_done" flist_done (bodyAt 31) v12 _ ["run", "frame", "some"] := ⟨⟨_, _, F12⟩, fun _ => by rw [B12]; exact PySem.W.mg_of KX G n12, F12.binds (ps := ["run", "frame", "some"]) fun _ _ _ _ _ _ us hl => match us, hl with | [_, _, _], _ => rfl, ck_list_done⟩
  have F13 := fun_mk (st := bodyAt 32) l13 q13 k13
  have B13 : bs "part_given" = "part_given" := by decide +kernel
  have D13 : DefAt tb.has K mg "part_given" fpart_given (bodyAt 32) v13 _ ["run", "number", "values", "deep"] := ⟨⟨_, _, F13⟩, fun _ => by rw [B13]; exact PySem.W.mg_of KX G n13, F13.binds (ps := ["run", "number", "values", "deep"]) fun _ _ _ _ _ _ us hl => match us, hl with | [_, _, _, _], _ => rfl, ck_part_given⟩
  have F14 := fun_mk (st := bodyAt 33) l14 q14 k14
  have B14 : bs "need_door" = "need_door" := by decide +kernel
  have D14 : DefAt tb.has K mg "need_door" fneed_door (bodyAt 33) v14 _ ["parts", "number", "inputs"] := ⟨⟨_, _, F14⟩, fun _ => by rw [B14]; exact PySem.W.mg_of KX G n14, F14.binds (ps := ["parts", "number", "inputs"]) fun _ _ _ _ _ _ us hl => match us, hl with | [_, _, _], _ => rfl, ck_need_door⟩
  have F15 := fun_mk (st := bodyAt 34) l15 q15 k15
  have B15 : bs "plain_run" = "plain_run" := by decide +kernel
  have D15 : DefAt tb.has K mg "plain_run" fplain_run (bodyAt 34) v15 _ ["program", "part", "inputs", "budget"] := ⟨⟨_, _, F15⟩, fun _ => by rw [B15]; exact PySem.W.mg_of KX G n15, F15.binds (ps := ["program", "part", "inputs", "budget"]) fun _ _ _ _ _ _ us hl => match us, hl with | [_, _, _, _], _ => rfl, ck_plain_run⟩
  have F16 := fun_mk (st := bodyAt 36) l16 q16 k16
  have B16 : bs "_law_cell" = "_law_cell" := by decide +kernel
  have D16 : DefAt tb.has K mg "_law_cell" f_law_cell (bodyAt 36) v16 _ ["_law_script", "_law_k"] := ⟨⟨_, _, F16⟩, fun _ => by rw [B16]; exact PySem.W.mg_of KX G n16, F16.binds (ps := ["_law_script", "_law_k"]) fun _ _ _ _ _ _ us hl => match us, hl with | [_, _], _ => rfl, ck__law_cell⟩
  have F17 := fun_mk (st := bodyAt 37) l17 q17 k17
  have B17 : bs "_law_whole" = "_law_whole" := by decide +kernel
  have D17 : DefAt tb.has K mg "_law_whole" f_law_whole (bodyAt 37) v17 _ ["_law_found"] := ⟨⟨_, _, F17⟩, fun _ => by rw [B17]; exact PySem.W.mg_of KX G n17, F17.binds (ps := ["_law_found"]) fun _ _ _ _ _ _ us hl => match us, hl with | [_], _ => rfl, ck__law_whole⟩
  have F18 := fun_mk (st := bodyAt 38) l18 q18 k18
  have B18 : bs "_law_word" = "_law_word" := by decide +kernel
  have D18 : DefAt tb.has K mg "_law_word" f_law_word (bodyAt 38) v18 _ ["_law_cell_here"] := ⟨⟨_, _, F18⟩, fun _ => by rw [B18]; exact PySem.W.mg_of KX G n18, F18.binds (ps := ["_law_cell_here"]) fun _ _ _ _ _ _ us hl => match us, hl with | [_], _ => rfl, ck__law_word⟩
  have F19 := fun_mk (st := bodyAt 39) l19 q19 k19
  have B19 : bs "_law_part" = "_law_part" := by decide +kernel
  have D19 : DefAt tb.has K mg "_law_part" f_law_part (bodyAt 39) v19 _ ["_law_cell_here", "_law_door"] := ⟨⟨_, _, F19⟩, fun _ => by rw [B19]; exact PySem.W.mg_of KX G n19, F19.binds (ps := ["_law_cell_here", "_law_door"]) fun _ _ _ _ _ _ us hl => match us, hl with | [_, _], _ => rfl, ck__law_part⟩
  have F20 := fun_mk (st := bodyAt 40) l20 q20 k20
  have B20 : bs "_law_due" = "_law_due" := by decide +kernel
  have D20 : DefAt tb.has K mg "_law_due" f_law_due (bodyAt 40) v20 _ ["_law_part_here", "_law_inputs"] := ⟨⟨_, _, F20⟩, fun _ => by rw [B20]; exact PySem.W.mg_of KX G n20, F20.binds (ps := ["_law_part_here", "_law_inputs"]) fun _ _ _ _ _ _ us hl => match us, hl with | [_, _], _ => rfl, ck__law_due⟩
  have F21 := fun_mk (st := bodyAt 41) l21 q21 k21
  have B21 : bs "_law_told" = "_law_told" := by decide +kernel
  have D21 : DefAt tb.has K mg "_law_told" f_law_told (bodyAt 41) v21 _ ["_law_program", "_law_p", "_law_inputs", "_law_budget"] := ⟨⟨_, _, F21⟩, fun _ => by rw [B21]; exact PySem.W.mg_of KX G n21, F21.binds (ps := ["_law_program", "_law_p", "_law_inputs", "_law_budget"]) fun _ _ _ _ _ _ us hl => match us, hl with | [_, _, _, _], _ => rfl, ck__law_told⟩
  have F22 := fun_mk (st := bodyAt 42) l22 q22 k22
  have B22 : bs "_law_right" = "_law_right" := by decide +kernel
  have D22 : DefAt tb.has K mg "_law_right" f_law_right (bodyAt 42) v22 _ ["_law_told_here", "_law_due_here", "_law_budget"] := ⟨⟨_, _, F22⟩, fun _ => by rw [B22]; exact PySem.W.mg_of KX G n22, F22.binds (ps := ["_law_told_here", "_law_due_here", "_law_budget"]) fun _ _ _ _ _ _ us hl => match us, hl with | [_, _, _], _ => rfl, ck__law_right⟩
  have F23 := fun_mk (st := bodyAt 43) l23 q23 k23
  have B23 : bs "law" = "law" := by decide +kernel
  have D23 : DefAt tb.has K mg "law" flaw (bodyAt 43) v23 _ ["_law_script"] := ⟨⟨_, _, F23⟩, fun _ => by rw [B23]; exact PySem.W.mg_of KX G n23, F23.binds (ps := ["_law_script"]) fun _ _ _ _ _ _ us hl => match us, hl with | [_], _ => rfl, ck_law⟩
  have F24 := fun_mk (st := clsAt 20 0) l24 q24 k24
  have D24 : DefAt tb.has K mg "Reading.__init__" fReading___init__ (clsAt 20 0) v24 _ ["self", "program", "budget"] := ⟨⟨_, _, F24⟩, fun z => absurd z (by decide +kernel), F24.binds (ps := ["self", "program", "budget"]) fun _ _ _ _ _ _ us hl => match us, hl with | [_, _, _], _ => rfl, ck_Reading___init__⟩
  have F25 := fun_mk (st := clsAt 20 1) l25 q25 k25
  have D25 : DefAt tb.has K mg "Reading.pay" fReading_pay (clsAt 20 1) v25 _ ["self"] := ⟨⟨_, _, F25⟩, fun z => absurd z (by decide +kernel), F25.binds (ps := ["self"]) fun _ _ _ _ _ _ us hl => match us, hl with | [_], _ => rfl, ck_Reading_pay⟩
  have F26 := fun_mk (st := clsAt 20 2) l26 q26 k26
  have D26 : DefAt tb.has K mg "Reading.born" fReading_born (clsAt 20 2) v26 _ ["self", "c", "fields"] := ⟨⟨_, _, F26⟩, fun z => absurd z (by decide +kernel), F26.binds (ps := ["self", "c", "fields"]) fun _ _ _ _ _ _ us hl => match us, hl with | [_, _, _], _ => rfl, ck_Reading_born⟩
  have F27 := fun_mk (st := clsAt 21 0) l27 q27 k27
  have D27 : DefAt tb.has K mg "Frame.__init__" fFrame___init__ (clsAt 21 0) v27 _ ["self", "deep", "names"] := ⟨⟨_, _, F27⟩, fun z => absurd z (by decide +kernel), F27.binds (ps := ["self", "deep", "names"]) fun _ _ _ _ _ _ us hl => match us, hl with | [_, _, _], _ => rfl, ck_Frame___init__⟩
  refine ⟨⟨fun f fn hf => ?_, fun x d hx => ?_, fun x hx => ?_, fun x kvs hx => ?_, fun c1 c2 b hi => ?_, fun c fs hi => ?_, fun c hi => ?_, fun c fd fs hi => ?_, fun c fs hi => ?_, fun c mm f hi => ?_, fun c gs hi => ?_⟩, ?_⟩
  · skip
    by_cases h0 : f = "is_under"
    · subst h0; rw [te_is_under] at hf; cases hf; exact ⟨_, _, _, _, D0⟩
    by_cases h1 : f = "wrapped"
    · subst h1; rw [te_wrapped] at hf; cases hf; exact ⟨_, _, _, _, D1⟩
    by_cases h2 : f = "reckoned"
    · subst h2; rw [te_reckoned] at hf; cases hf; exact ⟨_, _, _, _, D2⟩
    by_cases h3 : f = "reckoned_or_tossed"
    · subst h3; rw [te_reckoned_or_tossed] at hf; cases hf; exact ⟨_, _, _, _, D3⟩
    by_cases h4 : f = "values_of"
    · subst h4; rw [te_values_of] at hf; cases hf; exact ⟨_, _, _, _, D4⟩
    by_cases h5 : f = "called"
    · subst h5; rw [te_called] at hf; cases hf; exact ⟨_, _, _, _, D5⟩
    by_cases h6 : f = "value_of"
    · subst h6; rw [te_value_of] at hf; cases hf; exact ⟨_, _, _, _, D6⟩
    by_cases h7 : f = "while_done"
    · subst h7; rw [te_while_done] at hf; cases hf; exact ⟨_, _, _, _, D7⟩
    by_cases h8 : f = "kin_done"
    · subst h8; rw [te_kin_done] at hf; cases hf; exact ⟨_, _, _, _, D8⟩
    by_cases h9 : f = "try_done"
    · subst h9; rw [te_try_done] at hf; cases hf; exact ⟨_, _, _, _, D9⟩
    by_cases h10 : f = "branch_done"
    · subst h10; rw [te_branch_done] at hf; cases hf; exact ⟨_, _, _, _, D10⟩
    by_cases h11 : f = "statement_done"
    · subst h11; rw [te_statement_done] at hf; cases hf; exact ⟨_, _, _, _, D11⟩
    by_cases h12 : f = "list_done"
    · subst h12; rw [te_list_done] at hf; cases hf; exact ⟨_, _, _, _, D12⟩
    by_cases h13 : f = "part_given"
    · subst h13; rw [te_part_given] at hf; cases hf; exact ⟨_, _, _, _, D13⟩
    by_cases h14 : f = "need_door"
    · subst h14; rw [te_need_door] at hf; cases hf; exact ⟨_, _, _, _, D14⟩
    by_cases h15 : f = "plain_run"
    · subst h15; rw [te_plain_run] at hf; cases hf; exact ⟨_, _, _, _, D15⟩
    by_cases h16 : f = "_law_cell"
    · subst h16; rw [te__law_cell] at hf; cases hf; exact ⟨_, _, _, _, D16⟩
    by_cases h17 : f = "_law_whole"
    · subst h17; rw [te__law_whole] at hf; cases hf; exact ⟨_, _, _, _, D17⟩
    by_cases h18 : f = "_law_word"
    · subst h18; rw [te__law_word] at hf; cases hf; exact ⟨_, _, _, _, D18⟩
    by_cases h19 : f = "_law_part"
    · subst h19; rw [te__law_part] at hf; cases hf; exact ⟨_, _, _, _, D19⟩
    by_cases h20 : f = "_law_due"
    · subst h20; rw [te__law_due] at hf; cases hf; exact ⟨_, _, _, _, D20⟩
    by_cases h21 : f = "_law_told"
    · subst h21; rw [te__law_told] at hf; cases hf; exact ⟨_, _, _, _, D21⟩
    by_cases h22 : f = "_law_right"
    · subst h22; rw [te__law_right] at hf; cases hf; exact ⟨_, _, _, _, D22⟩
    by_cases h23 : f = "law"
    · subst h23; rw [te_law] at hf; cases hf; exact ⟨_, _, _, _, D23⟩
    by_cases h24 : f = "Reading.__init__"
    · subst h24; rw [te_Reading___init__] at hf; cases hf; exact ⟨_, _, _, _, D24⟩
    by_cases h25 : f = "Reading.pay"
    · subst h25; rw [te_Reading_pay] at hf; cases hf; exact ⟨_, _, _, _, D25⟩
    by_cases h26 : f = "Reading.born"
    · subst h26; rw [te_Reading_born] at hf; cases hf; exact ⟨_, _, _, _, D26⟩
    by_cases h27 : f = "Frame.__init__"
    · subst h27; rw [te_Frame___init__] at hf; cases hf; exact ⟨_, _, _, _, D27⟩
    unfold tb at hf; (try dsimp only at hf)
    rw [if_neg h0, if_neg h1, if_neg h2, if_neg h3, if_neg h4, if_neg h5, if_neg h6, if_neg h7, if_neg h8, if_neg h9, if_neg h10, if_neg h11, if_neg h12, if_neg h13, if_neg h14, if_neg h15, if_neg h16, if_neg h17, if_neg h18, if_neg h19, if_neg h20, if_neg h21, if_neg h22, if_neg h23, if_neg h24, if_neg h25, if_neg h26, if_neg h27] at hf
    cases hf
  · skip
    by_cases h0 : x = "FRAMES"
    · subst h0; rw [tg_FRAMES] at hx; cases hx; exact ⟨_, PySem.W.mg_of KX G m0, w0⟩
    by_cases h1 : x = "HALF"
    · subst h1; rw [tg_HALF] at hx; cases hx; exact ⟨_, PySem.W.mg_of KX G m1, w1⟩
    by_cases h2 : x = "NUMBER"
    · subst h2; rw [tg_NUMBER] at hx; cases hx; exact ⟨_, PySem.W.mg_of KX G m2, w2⟩
    by_cases h3 : x = "SPAN"
    · subst h3; rw [tg_SPAN] at hx; cases hx; exact ⟨_, PySem.W.mg_of KX G m3, w3⟩
    unfold tb at hx; (try dsimp only at hx)
    rw [if_neg h0, if_neg h1, if_neg h2, if_neg h3] at hx
    cases hx
  · simp only [bltNames, List.mem_cons, List.mem_nil_iff, or_false] at hx
    rcases hx with rfl | rfl | rfl | rfl | rfl | rfl | rfl | rfl | rfl | rfl | rfl | rfl | rfl | rfl | rfl | rfl | rfl | rfl
    · exact PySem.W.mg_none_of KX G z0
    · exact PySem.W.mg_none_of KX G z1
    · exact PySem.W.mg_none_of KX G z2
    · exact PySem.W.mg_none_of KX G z3
    · exact PySem.W.mg_none_of KX G z4
    · exact PySem.W.mg_none_of KX G z5
    · exact PySem.W.mg_none_of KX G z6
    · exact PySem.W.mg_none_of KX G z7
    · exact PySem.W.mg_none_of KX G z8
    · exact PySem.W.mg_none_of KX G z9
    · exact PySem.W.mg_none_of KX G z10
    · exact PySem.W.mg_none_of KX G z11
    · exact PySem.W.mg_none_of KX G z12
    · exact PySem.W.mg_none_of KX G z13
    · exact PySem.W.mg_none_of KX G z14
    · exact PySem.W.mg_none_of KX G z15
    · exact PySem.W.mg_none_of KX G z16
    · exact PySem.W.mg_none_of KX G z17
  · skip
    unfold tb at hx; (try dsimp only at hx)
    cases hx
  · skip
    by_cases h0 : c1 = "NoDoor"
    · subst h0
      by_cases g0 : c2 = "NoBook"
      · subst g0; rw [ti_NoDoor_NoBook] at hi; cases hi; exact ⟨_, cmOf_at cn1, isa_at cx1 ci1_0 (cls_own (PySem.W.mg_of KX G cn0)).1 (cls_own (PySem.W.mg_of KX G cn0)).2⟩
      by_cases g1 : c2 = "NoDoor"
      · subst g1; rw [ti_NoDoor_NoDoor] at hi; cases hi; exact ⟨_, cmOf_at cn1, isa_at cx1 ci1_1 (cls_own (PySem.W.mg_of KX G cn1)).1 (cls_own (PySem.W.mg_of KX G cn1)).2⟩
      by_cases g2 : c2 = "NoTree"
      · subst g2; rw [ti_NoDoor_NoTree] at hi; cases hi; exact ⟨_, cmOf_at cn1, isa_at cx1 ci1_2 (cls_own (PySem.W.mg_of KX G cn2)).1 (cls_own (PySem.W.mg_of KX G cn2)).2⟩
      by_cases g3 : c2 = "Nought"
      · subst g3; rw [ti_NoDoor_Nought] at hi; cases hi; exact ⟨_, cmOf_at cn1, isa_at cx1 ci1_3 (cls_own (PySem.W.mg_of KX G cn3)).1 (cls_own (PySem.W.mg_of KX G cn3)).2⟩
      by_cases g4 : c2 = "Tossed"
      · subst g4; rw [ti_NoDoor_Tossed] at hi; cases hi; exact ⟨_, cmOf_at cn1, isa_at cx1 ci1_4 (cls_own (PySem.W.mg_of KX G cn4)).1 (cls_own (PySem.W.mg_of KX G cn4)).2⟩
      by_cases g5 : c2 = "ValueError"
      · subst g5; rw [ti_NoDoor_ValueError] at hi; cases hi; exact ⟨_, cmOf_at cn1, isa_at cx1 ci1_5 (cls_ty (m := "ValueError") (PySem.W.mg_none_of KX G cb0) (by decide +kernel) (by decide +kernel)).1 (cls_ty (m := "ValueError") (PySem.W.mg_none_of KX G cb0) (by decide +kernel) (by decide +kernel)).2⟩
      by_cases g6 : c2 = "WardenError"
      · subst g6; rw [ti_NoDoor_WardenError] at hi; cases hi; exact ⟨_, cmOf_at cn1, isa_at cx1 ci1_6 (cls_own (PySem.W.mg_of KX G cn5)).1 (cls_own (PySem.W.mg_of KX G cn5)).2⟩
      by_cases g7 : c2 = "Worn"
      · subst g7; rw [ti_NoDoor_Worn] at hi; cases hi; exact ⟨_, cmOf_at cn1, isa_at cx1 ci1_7 (cls_own (PySem.W.mg_of KX G cn6)).1 (cls_own (PySem.W.mg_of KX G cn6)).2⟩
      rw [tI_NoDoor] at hi; unfold isa_NoDoor at hi; (try dsimp only at hi)
      rw [if_neg g0, if_neg g1, if_neg g2, if_neg g3, if_neg g4, if_neg g5, if_neg g6, if_neg g7] at hi
      cases hi
    by_cases h1 : c1 = "Nought"
    · subst h1
      by_cases g0 : c2 = "NoBook"
      · subst g0; rw [ti_Nought_NoBook] at hi; cases hi; exact ⟨_, cmOf_at cn3, isa_at cx3 ci3_0 (cls_own (PySem.W.mg_of KX G cn0)).1 (cls_own (PySem.W.mg_of KX G cn0)).2⟩
      by_cases g1 : c2 = "NoDoor"
      · subst g1; rw [ti_Nought_NoDoor] at hi; cases hi; exact ⟨_, cmOf_at cn3, isa_at cx3 ci3_1 (cls_own (PySem.W.mg_of KX G cn1)).1 (cls_own (PySem.W.mg_of KX G cn1)).2⟩
      by_cases g2 : c2 = "NoTree"
      · subst g2; rw [ti_Nought_NoTree] at hi; cases hi; exact ⟨_, cmOf_at cn3, isa_at cx3 ci3_2 (cls_own (PySem.W.mg_of KX G cn2)).1 (cls_own (PySem.W.mg_of KX G cn2)).2⟩
      by_cases g3 : c2 = "Nought"
      · subst g3; rw [ti_Nought_Nought] at hi; cases hi; exact ⟨_, cmOf_at cn3, isa_at cx3 ci3_3 (cls_own (PySem.W.mg_of KX G cn3)).1 (cls_own (PySem.W.mg_of KX G cn3)).2⟩
      by_cases g4 : c2 = "Tossed"
      · subst g4; rw [ti_Nought_Tossed] at hi; cases hi; exact ⟨_, cmOf_at cn3, isa_at cx3 ci3_4 (cls_own (PySem.W.mg_of KX G cn4)).1 (cls_own (PySem.W.mg_of KX G cn4)).2⟩
      by_cases g5 : c2 = "ValueError"
      · subst g5; rw [ti_Nought_ValueError] at hi; cases hi; exact ⟨_, cmOf_at cn3, isa_at cx3 ci3_5 (cls_ty (m := "ValueError") (PySem.W.mg_none_of KX G cb0) (by decide +kernel) (by decide +kernel)).1 (cls_ty (m := "ValueError") (PySem.W.mg_none_of KX G cb0) (by decide +kernel) (by decide +kernel)).2⟩
      by_cases g6 : c2 = "WardenError"
      · subst g6; rw [ti_Nought_WardenError] at hi; cases hi; exact ⟨_, cmOf_at cn3, isa_at cx3 ci3_6 (cls_own (PySem.W.mg_of KX G cn5)).1 (cls_own (PySem.W.mg_of KX G cn5)).2⟩
      by_cases g7 : c2 = "Worn"
      · subst g7; rw [ti_Nought_Worn] at hi; cases hi; exact ⟨_, cmOf_at cn3, isa_at cx3 ci3_7 (cls_own (PySem.W.mg_of KX G cn6)).1 (cls_own (PySem.W.mg_of KX G cn6)).2⟩
      rw [tI_Nought] at hi; unfold isa_Nought at hi; (try dsimp only at hi)
      rw [if_neg g0, if_neg g1, if_neg g2, if_neg g3, if_neg g4, if_neg g5, if_neg g6, if_neg g7] at hi
      cases hi
    unfold tb at hi; (try dsimp only at hi)
    rw [if_neg h0, if_neg h1] at hi
    cases hi
  · skip
    by_cases h0 : c = "NoDoor"
    · subst h0; rw [tx_NoDoor] at hi; cases hi; exact ⟨_, cmOf_at cn1, xf_at cx1 cf1⟩
    by_cases h1 : c = "Nought"
    · subst h1; rw [tx_Nought] at hi; cases hi; exact ⟨_, cmOf_at cn3, xf_at cx3 cf3⟩
    unfold tb at hi; (try dsimp only at hi)
    rw [if_neg h0, if_neg h1] at hi
    cases hi
  · skip
    by_cases h0 : c = "NoDoor"
    · subst h0; exact ⟨_, cmOf_at cn1, rai_at (PySem.W.mg_of KX G cn1) cr1 ce1⟩
    by_cases h1 : c = "Nought"
    · subst h1; exact ⟨_, cmOf_at cn3, rai_at (PySem.W.mg_of KX G cn3) cr3 ce3⟩
    unfold tb at hi; (try dsimp only at hi)
    rw [if_neg h0, if_neg h1] at hi
    cases hi
  · skip
    by_cases h0 : c = "NoDoor"
    · subst h0; rw [tx_NoDoor] at hi; cases hi
    by_cases h1 : c = "Nought"
    · subst h1; rw [tx_Nought] at hi; cases hi
    unfold tb at hi; (try dsimp only at hi)
    rw [if_neg h0, if_neg h1] at hi
    cases hi
  · skip
    by_cases h0 : c = "Frame"
    · subst h0
      rw [tn_Frame] at hi; cases hi; exact ⟨_, cmOf_at on0, cls_at oc0, noa_at of0⟩
    by_cases h1 : c = "Reading"
    · subst h1
      rw [tn_Reading] at hi; cases hi; exact ⟨_, cmOf_at on1, cls_at oc1, noa_at of1⟩
    unfold tb at hi; (try dsimp only at hi)
    rw [if_neg h0, if_neg h1] at hi
    cases hi
  · skip
    by_cases h0 : c = "Frame"
    · subst h0
      rw [tM_Frame] at hi; unfold mt_Frame at hi; (try dsimp only at hi)
      cases hi
    by_cases h1 : c = "Reading"
    · subst h1
      by_cases g0 : mm = "born"
      · subst g0; rw [tm_Reading_born] at hi; cases hi; exact ⟨_, _, _, _, _, _, cmOf_at on1, cls_at oc1, ⟨oa1_0, nf26, k26⟩, te_Reading_born, D26⟩
      by_cases g1 : mm = "pay"
      · subst g1; rw [tm_Reading_pay] at hi; cases hi; exact ⟨_, _, _, _, _, _, cmOf_at on1, cls_at oc1, ⟨oa1_1, nf25, k25⟩, te_Reading_pay, D25⟩
      rw [tM_Reading] at hi; unfold mt_Reading at hi; (try dsimp only at hi)
      rw [if_neg g0, if_neg g1] at hi
      cases hi
    unfold tb at hi; (try dsimp only at hi)
    rw [if_neg h0, if_neg h1] at hi
    cases hi
  · skip
    by_cases h0 : c = "Frame"
    · subst h0
      exact ⟨_, _, _, _, _, _, _, tk_Frame, cmOf_at on0, PySem.W.mg_of KX G on0, ⟨om0, oa0_0, nf27, ok0⟩, te_Frame___init__, D27⟩
    by_cases h1 : c = "Reading"
    · subst h1
      exact ⟨_, _, _, _, _, _, _, tk_Reading, cmOf_at on1, PySem.W.mg_of KX G on1, ⟨om1, oa1_2, nf24, ok1⟩, te_Reading___init__, D24⟩
    unfold tb at hi; (try dsimp only at hi)
    rw [if_neg h0, if_neg h1] at hi
    cases hi
  · exact ⟨_, _, D23, fun s v => .of_eq rfl⟩
end RR
open PySem PySem.W PyProof.Rows
set_option maxRecDepth 100000 in
set_option maxHeartbeats 0 in
theorem PySem.Challenge.cw_stackwarden_k60_doors_holds : PySem.Challenge.rw_stackwarden_k60_doors.Holds := by
  w_on; o_law; k_head; (case hw => w_witness2)
  k_fill
  refine RR.walk (T := RR.tb) (fn := RR.flaw) (k := RR.LEVEL) (l := PySem.Challenge.rw_stackwarden_k60_doors) (x := "_law_script") RR.te_law rfl rfl rfl ⟨rfl, by decide, by decide⟩ (fun w h Y => PySem.W.kIn_of Y) ?F RR.law_ok
  case F =>
    intro w mg fa h KX G hmg
    refine' RR.mdl (w := w) KX G hmg ?on0 ?on1 ?n0 ?l0 ?q0 ?k0 ?n1 ?l1 ?q1 ?k1 ?n2 ?l2 ?q2 ?k2 ?n3 ?l3 ?q3 ?k3 ?n4 ?l4 ?q4 ?k4 ?n5 ?l5 ?q5 ?k5 ?n6 ?l6 ?q6 ?k6 ?n7 ?l7 ?q7 ?k7 ?n8 ?l8 ?q8 ?k8 ?n9 ?l9 ?q9 ?k9 ?n10 ?l10 ?q10 ?k10 ?n11 ?l11 ?q11 ?k11 ?n12 ?l12 ?q12 ?k12 ?n13 ?l13 ?q13 ?k13 ?n14 ?l14 ?q14 ?k14 ?n15 ?l15 ?q15 ?k15 ?n16 ?l16 ?q16 ?k16 ?n17 ?l17 ?q17 ?k17 ?n18 ?l18 ?q18 ?k18 ?n19 ?l19 ?q19 ?k19 ?n20 ?l20 ?q20 ?k20 ?n21 ?l21 ?q21 ?k21 ?n22 ?l22 ?q22 ?k22 ?n23 ?l23 ?q23 ?k23 ?n24 ?l24 ?q24 ?k24 ?nf24 ?n25 ?l25 ?q25 ?k25 ?nf25 ?n26 ?l26 ?q26 ?k26 ?nf26 ?n27 ?l27 ?q27 ?k27 ?nf27 ?oc0 ?of0 ?om0 ?ok0 ?oa0_0 ?oc1 ?of1 ?om1 ?ok1 ?oa1_0 ?oa1_1 ?oa1_2 ?m0 ?w0 ?m1 ?w1 ?m2 ?w2 ?m3 ?w3 ?cn0 ?cn1 ?cn2 ?cn3 ?cn4 ?cn5 ?cn6 ?cx1 ?cf1 ?cr1 ?ce1 ?ci1_0 ?ci1_1 ?ci1_2 ?ci1_3 ?ci1_4 ?ci1_5 ?ci1_6 ?ci1_7 ?cx3 ?cf3 ?cr3 ?ce3 ?ci3_0 ?ci3_1 ?ci3_2 ?ci3_3 ?ci3_4 ?ci3_5 ?ci3_6 ?ci3_7 ?cb0 ?z0 ?z1 ?z2 ?z3 ?z4 ?z5 ?z6 ?z7 ?z8 ?z9 ?z10 ?z11 ?z12 ?z13 ?z14 ?z15 ?z16 ?z17
    (case on0 => k_is)
    (case on1 => k_is)
    (case n0 => k_is)
    (case l0 => k_is)
    (case q0 => k_is)
    (case k0 => k_is)
    (case n1 => k_is)
    (case l1 => k_is)
    (case q1 => k_is)
    (case k1 => k_is)
    (case n2 => k_is)
    (case l2 => k_is)
    (case q2 => k_is)
    (case k2 => k_is)
    (case n3 => k_is)
    (case l3 => k_is)
    (case q3 => k_is)
    (case k3 => k_is)
    (case n4 => k_is)
    (case l4 => k_is)
    (case q4 => k_is)
    (case k4 => k_is)
    (case n5 => k_is)
    (case l5 => k_is)
    (case q5 => k_is)
    (case k5 => k_is)
    (case n6 => k_is)
    (case l6 => k_is)
    (case q6 => k_is)
    (case k6 => k_is)
    (case n7 => k_is)
    (case l7 => k_is)
    (case q7 => k_is)
    (case k7 => k_is)
    (case n8 => k_is)
    (case l8 => k_is)
    (case q8 => k_is)
    (case k8 => k_is)
    (case n9 => k_is)
    (case l9 => k_is)
    (case q9 => k_is)
    (case k9 => k_is)
    (case n10 => k_is)
    (case l10 => k_is)
    (case q10 => k_is)
    (case k10 => k_is)
    (case n11 => k_is)
    (case l11 => k_is)
    (case q11 => k_is)
    (case k11 => k_is)
    (case n12 => k_is)
    (case l12 => k_is)
    (case q12 => k_is)
    (case k12 => k_is)
    (case n13 => k_is)
    (case l13 => k_is)
    (case q13 => k_is)
    (case k13 => k_is)
    (case n14 => k_is)
    (case l14 => k_is)
    (case q14 => k_is)
    (case k14 => k_is)
    (case n15 => k_is)
    (case l15 => k_is)
    (case q15 => k_is)
    (case k15 => k_is)
    (case n16 => k_is)
    (case l16 => k_is)
    (case q16 => k_is)
    (case k16 => k_is)
    (case n17 => k_is)
    (case l17 => k_is)
    (case q17 => k_is)
    (case k17 => k_is)
    (case n18 => k_is)
    (case l18 => k_is)
    (case q18 => k_is)
    (case k18 => k_is)
    (case n19 => k_is)
    (case l19 => k_is)
    (case q19 => k_is)
    (case k19 => k_is)
    (case n20 => k_is)
    (case l20 => k_is)
    (case q20 => k_is)
    (case k20 => k_is)
    (case n21 => k_is)
    (case l21 => k_is)
    (case q21 => k_is)
    (case k21 => k_is)
    (case n22 => k_is)
    (case l22 => k_is)
    (case q22 => k_is)
    (case k22 => k_is)
    (case n23 => k_is)
    (case l23 => k_is)
    (case q23 => k_is)
    (case k23 => k_is)
    (case n24 => k_is)
    (case l24 => k_is)
    (case q24 => k_is)
    (case k24 => k_is)
    (case nf24 => k_is)
    (case n25 => k_is)
    (case l25 => k_is)
    (case q25 => k_is)
    (case k25 => k_is)
    (case nf25 => k_is)
    (case n26 => k_is)
    (case l26 => k_is)
    (case q26 => k_is)
    (case k26 => k_is)
    (case nf26 => k_is)
    (case n27 => k_is)
    (case l27 => k_is)
    (case q27 => k_is)
    (case k27 => k_is)
    (case nf27 => k_is)
    (case oc0 => exact (Eq.refl true))
    (case of0 => exact (Eq.refl true))
    (case om0 => k_is)
    (case ok0 => k_is)
    (case oa0_0 => k_is)
    (case oc1 => exact (Eq.refl true))
    (case of1 => exact (Eq.refl true))
    (case om1 => k_is)
    (case ok1 => k_is)
    (case oa1_0 => k_is)
    (case oa1_1 => k_is)
    (case oa1_2 => k_is)
    (case m0 => k_is)
    (case w0 => exact (Eq.refl true))
    (case m1 => k_is)
    (case w1 => exact (Eq.refl true))
    (case m2 => k_is)
    (case w2 => exact (Eq.refl true))
    (case m3 => k_is)
    (case w3 => exact (Eq.refl true))
    (case cn0 => k_is)
    (case cn1 => k_is)
    (case cn2 => k_is)
    (case cn3 => k_is)
    (case cn4 => k_is)
    (case cn5 => k_is)
    (case cn6 => k_is)
    (case cx1 => exact (Eq.refl true))
    (case cf1 => exact (Eq.refl true))
    (case cr1 => exact (Eq.refl true))
    (case ce1 => k_exc)
    (case ci1_0 => exact (Eq.refl true))
    (case ci1_1 => exact (Eq.refl true))
    (case ci1_2 => exact (Eq.refl true))
    (case ci1_3 => exact (Eq.refl true))
    (case ci1_4 => exact (Eq.refl true))
    (case ci1_5 => exact (Eq.refl true))
    (case ci1_6 => exact (Eq.refl true))
    (case ci1_7 => exact (Eq.refl true))
    (case cx3 => exact (Eq.refl true))
    (case cf3 => exact (Eq.refl true))
    (case cr3 => exact (Eq.refl true))
    (case ce3 => k_exc)
    (case ci3_0 => exact (Eq.refl true))
    (case ci3_1 => exact (Eq.refl true))
    (case ci3_2 => exact (Eq.refl true))
    (case ci3_3 => exact (Eq.refl true))
    (case ci3_4 => exact (Eq.refl true))
    (case ci3_5 => exact (Eq.refl true))
    (case ci3_6 => exact (Eq.refl true))
    (case ci3_7 => exact (Eq.refl true))
    (case cb0 => k_is)
    (case z0 => k_is)
    (case z1 => k_is)
    (case z2 => k_is)
    (case z3 => k_is)
    (case z4 => k_is)
    (case z5 => k_is)
    (case z6 => k_is)
    (case z7 => k_is)
    (case z8 => k_is)
    (case z9 => k_is)
    (case z10 => k_is)
    (case z11 => k_is)
    (case z12 => k_is)
    (case z13 => k_is)
    (case z14 => k_is)
    (case z15 => k_is)
    (case z16 => k_is)
    (case z17 => k_is)

