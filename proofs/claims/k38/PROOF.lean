import PyProof.Rows.All
import HandS.ForMost
import HandS.EndBits
import HandS.Exc
import HandS.TryOnly
import HandS.ExcOwn
import HandS.WordsExc
import HandS.Deep
import HandS.Wide
import HandS.TupAny
import HandS.Walk
import HandS.RevRange
import HandS.WideBits
import HandS.IsInst
import KE.KRevSl
import KE.SortData
import KE.DataCmp
import HandS.More
import KE.GoesEnum
import KE.GoesMore
import HandS.Ends
import PySem.Challenge.RW_neveropposed_k38_products_judged
set_option Elab.async false
section
set_option Elab.async false
set_option linter.all false
set_option maxRecDepth 100000
/-! VA: a small language of values for the part of Python that this program and its laws use, and what its terms are worth. -/
namespace VF
open PySem L2

abbrev D := PyData
/-- what the slots hold, as far as it is known -/
abbrev Rho := List (Option D)
structure Exn where
  cls : Str
  fs : List (Str × D)
inductive R (α : Type) where
  | ok (a : α) (ρ : Rho)
  | ex (e : Exn) (ρ : Rho)
abbrev M (α : Type) := Rho → Option (R α)
def M.ret {α : Type} (a : α) : M α := fun ρ => some (.ok a ρ)
def M.bnd {α β : Type} (x : M α) (f : α → M β) : M β := fun ρ => match x ρ with
  | none => none
  | some (.ex e ρ') => some (.ex e ρ')
  | some (.ok a ρ') => f a ρ'
def M.lift {α : Type} (o : Option α) : M α := fun ρ => match o with
  | none => none
  | some a => some (.ok a ρ)

/-! ### operators by values -/
inductive Op2 where | add | cat | rep | sub | mul | fdiv | mod | pow | shl | shr | band | bor | bxor
  deriving DecidableEq
inductive Cm where | eq | ne | lt | le | gt | ge | isin | nin
  deriving DecidableEq
inductive Bt where | len | int | str | tuple | list | listS | sorted | sum | min | max | min2 | max2 | abs | any | all
  deriving DecidableEq
inductive Mt where | join | index | split | startswith
  deriving DecidableEq
inductive Mm where | append | pop | reverse | insert | clear
  deriving DecidableEq

def okLen (n : Nat) : Bool := decide (n ≤ 16777216)
def opD : Op2 → D → D → Option D
  | .add, .int a, .int b => some (.int (a + b))
  | .add, .str a, .str b => if okLen (a.length + b.length) then some (.str (a ++ b)) else none
  | .add, .list a, .list b => if okLen (a.length + b.length) then some (.list (a ++ b)) else none
  | .add, .tuple a, .tuple b => if okLen (a.length + b.length) then some (.tuple (a ++ b)) else none
  | .cat, .list a, .list b => if okLen (a.length + b.length) then some (.list (a ++ b)) else none
  | .sub, .int a, .int b => some (.int (a - b))
  | .mul, .int a, .int b => if Builtin.Int.intBits a + Builtin.Int.intBits b ≤ 134217728 then some (.int (a * b)) else none
  | .rep, .list a, .int k => if 0 ≤ k ∧ k < 16777216 ∧ okLen (a.length * k.toNat) then some (.list (List.replicate k.toNat a).flatten) else none
  | .fdiv, .int a, .int b => if 0 < b ∧ b.natAbs.log2 < 9000 then some (.int (a / b)) else none
  | .mod, .int a, .int b => if 0 < b then some (.int (a % b)) else none
  | .pow, .int a, .int b => if 0 ≤ b ∧ b ≤ 1000000 ∧ a.natAbs < 2 ^ 64 then some (.int (a ^ b.toNat)) else none
  | _, _, _ => none
def ltS (a b : Str) : Bool := decide (a.cps.toList < b.cps.toList)
def tupOk (a b : List D) : Bool := PySem.W.alike (.tuple a) (.tuple b) && SeqAt.shaped (.tuple a) && SeqAt.shaped (.tuple b)
def cmD : Cm → D → D → Option Bool
  | .eq, a, b => if SeqAt.shaped a && SeqAt.shaped b then some (PyData.eqv a b) else none
  | .ne, a, b => if SeqAt.shaped a && SeqAt.shaped b then some (!PyData.eqv a b) else none
  | .lt, .int a, .int b => some (decide (a < b))
  | .le, .int a, .int b => some (decide (a ≤ b))
  | .gt, .int a, .int b => some (decide (b < a))
  | .ge, .int a, .int b => some (decide (b ≤ a))
  | .lt, .str a, .str b => some (ltS a b)
  | .le, .str a, .str b => some (!ltS b a)
  | .gt, .str a, .str b => some (ltS b a)
  | .ge, .str a, .str b => some (!ltS a b)
  | .lt, .tuple a, .tuple b => if tupOk a b then some (PySem.W.dataLt (.tuple a) (.tuple b)) else none
  | .le, .tuple a, .tuple b => if tupOk a b then some (!PySem.W.dataLt (.tuple b) (.tuple a)) else none
  | .gt, .tuple a, .tuple b => if tupOk a b then some (PySem.W.dataLt (.tuple b) (.tuple a)) else none
  | .ge, .tuple a, .tuple b => if tupOk a b then some (!PySem.W.dataLt (.tuple a) (.tuple b)) else none
  | .isin, .str a, .str b => some (!(Builtin.Str.occurrences b a 0 b.length 1).isEmpty)
  | .nin, .str a, .str b => some (!(!(Builtin.Str.occurrences b a 0 b.length 1).isEmpty))
  | .isin, a, .list b => if SeqAt.shaped a && SeqAt.shaped (.list b) then some (b.any fun z => PyData.eqv z a) else none
  | .nin, a, .list b => if SeqAt.shaped a && SeqAt.shaped (.list b) then some (!b.any fun z => PyData.eqv z a) else none
  | .isin, a, .tuple b => if SeqAt.shaped a && SeqAt.shaped (.tuple b) then some (b.any fun z => PyData.eqv z a) else none
  | .nin, a, .tuple b => if SeqAt.shaped a && SeqAt.shaped (.tuple b) then some (!b.any fun z => PyData.eqv z a) else none
  | _, _, _ => none
def isNon : D → Bool
  | .none => true
  | _ => false
def ixD : D → D → Option D
  | .list a, .int i => atI a i
  | .tuple a, .int i => atI a i
  | .str a, .int i => (atI a.cps.toList i).map fun c => .str ⟨#[c]⟩
  | _, _ => none
def cutD {α : Type} (xs : List α) (lo hi : Option Int) : List α := (xs.drop (HT.sIx xs.length 0 lo)).take (HT.sIx xs.length xs.length hi - HT.sIx xs.length 0 lo)
def slD : D → Option Int → Option Int → Option D
  | .list a, lo, hi => some (.list (cutD a lo hi))
  | .tuple a, lo, hi => some (.tuple (cutD a lo hi))
  | .str a, lo, hi => some (.str (cutS a lo hi))
  | _, _, _ => none
/-- the items of a list of ints, of texts, of bools -/
def intsD : List D → Option (List Int)
  | [] => some []
  | .int i :: r => (intsD r).map (i :: ·)
  | _ => none
def strsD : List D → Option (List Str)
  | [] => some []
  | .str i :: r => (strsD r).map (i :: ·)
  | _ => none
def boolsD : List D → Option (List Bool)
  | [] => some []
  | .bool i :: r => (boolsD r).map (i :: ·)
  | _ => none
/-- sorted is at home here: one kind, all tuples with an item or none a tuple -/
def sortOk (xs : List D) : Bool := (xs.all fun x => xs.all fun y => PySem.W.alike x y) && ((xs.all fun x => match x with | .tuple (_ :: _) => true | _ => false) || (xs.all fun x => match x with | .int _ => true | .str _ => true | _ => false)) && SeqAt.shaped (.list xs)
def sortD (xs : List D) : List D := xs.mergeSort (PySem.W.dataLe false id)
def maxL : List Int → Option Int
  | [] => none
  | x :: xs => some (xs.foldl (fun a b => if b > a then b else a) x)
def minL : List Int → Option Int
  | [] => none
  | x :: xs => some (xs.foldl (fun a b => if b < a then b else a) x)
def btD : Bt → List D → Option D
  | .len, [.list a] => some (.int a.length)
  | .len, [.tuple a] => some (.int a.length)
  | .len, [.str a] => some (.int a.length)
  | .int, [.int i] => some (.int i)
  | .int, [.bool b] => some (.int (if b then 1 else 0))
  | .int, [.str a] => if a.length ≤ 640 then (intText? a).map .int else none
  | .str, [.int i] => if i.natAbs.log2 < 1920 ∧ okLen (Str.length (toString i : String)) then some (.str (toString i : String)) else none
  | .tuple, [.list a] => some (.tuple a)
  | .tuple, [.tuple a] => some (.tuple a)
  | .list, [.list a] => some (.list a)
  | .list, [.tuple a] => some (.list a)
  | .listS, [.str a] => some (.list (a.cps.toList.map fun c => .str ⟨#[c]⟩))
  | .sorted, [.list a] => if sortOk a then some (.list (sortD a)) else none
  | .sum, [.list a] => (intsD a).map fun l => .int l.sum
  | .max, [.list a] => (intsD a).bind fun l => (maxL l).map .int
  | .min, [.list a] => (intsD a).bind fun l => (minL l).map .int
  | .max2, [.int a, .int b] => some (.int (if b > a then b else a))
  | .min2, [.int a, .int b] => some (.int (if b < a then b else a))
  | .abs, [.int a] => some (.int (if a < 0 then -a else a))
  | .any, [.list a] => (boolsD a).map fun l => .bool (l.any id)
  | .all, [.list a] => (boolsD a).map fun l => .bool (l.all id)
  | _, _ => none
def mtD : Mt → D → List D → Option D
  | .join, .str a, [.list ys] => (strsD ys).bind fun l => if okLen ((l.map (·.length)).sum + l.length * a.length) && okLen (Txt.join a l).length then some (.str (Txt.join a l)) else none
  | .join, .str a, [.tuple ys] => (strsD ys).bind fun l => if okLen ((l.map (·.length)).sum + l.length * a.length) && okLen (Txt.join a l).length then some (.str (Txt.join a l)) else none
  | .index, .list a, [x] => if SeqAt.shaped x && SeqAt.shaped (.list a) then (a.findIdx? fun z => PyData.eqv z x).map fun n => .int n else none
  | .split, .str a, [.str b] => if b.length != 0 && okLen (a.length + 2) then some (.list ((Txt.split a b).map .str)) else none
  | .startswith, .str a, [.str b] => some (.bool (Txt.startswith a b))
  | _, _, _ => none
/-- whose method it is -/
def mtOk : Mt → D → Bool
  | .join, .str _ => true
  | .index, .list _ => true
  | .split, .str _ => true
  | .startswith, .str _ => true
  | _, _ => false
/-- a method that changes the list at hand: what it gives back, what the list is behind it -/
def mmD : Mm → List D → List D → Option (D × List D)
  | .append, xs, [y] => if xs.length < 16777216 then some (.none, xs ++ [y]) else none
  | .pop, xs, [] => match xs[xs.length - 1]? with
    | some y => some (y, xs.dropLast)
    | none => none
  | .reverse, xs, [] => some (.none, xs.reverse)
  | .insert, xs, [.int i, y] => if 0 ≤ i ∧ i < 9223372036854775808 ∧ xs.length < 16777216 then some (.none, xs.take i.toNat ++ [y] ++ xs.drop i.toNat) else none
  | .clear, _, [] => some (.none, [])
  | _, _, _ => none

/-- isinstance(x, T) -/
inductive Kd where | int | bool | str | tup | lst
  deriving DecidableEq
def isKd : Kd → D → Option Bool
  | _, .dict _ => none
  | .int, .int _ => some true
  | .int, .bool _ => some true
  | .bool, .bool _ => some true
  | .str, .str _ => some true
  | .tup, .tuple _ => some true
  | .lst, .list _ => some true
  | _, _ => some false
/-- t[::-1] -/
def revD : D → Option D
  | .tuple a => some (.tuple a.reverse)
  | _ => none

/-! ### the terms -/
inductive Tg where
  | nm (i : Nat)
  | tp (ts : List Tg)
mutual
inductive E where
  | var (i : Nat)
  | con (d : D)
  | glo (x : Str) (d : D)
  | tup (es : List E)
  | lst (es : List E)
  | op (o : Op2) (a b : E)
  | neg (a : E)
  | cmp (o : Cm) (a b : E)
  | isN (ng : Bool) (a : E)
  | and (a b : E)
  | or (a b : E)
  | not (a : E)
  | ite (c a b : E)
  | fn (f : Nat) (es : List E)
  | bi (b : Bt) (es : List E)
  | me (m : Mt) (o : E) (es : List E)
  | mu (m : Mm) (i : Nat) (es : List E)
  | ix (a b : E)
  | sl (a : E) (lo hi : Option E)
  | comp (el : E) (tg : Tg) (it : I) (c : Option E) (vs : List Nat)
  | eqR (a b : E)
  | isi (k : Kd) (a : E)
  | chn (o o' : Cm) (a b c : E)
  | rev (a : E)
inductive I where
  | seq (e : E)
  | rng1 (b : E)
  | rng2 (a b : E)
  | enum (e : E)
  | zip2 (a b : E)
  | zip3 (a b c : E)
  | rev1 (b : E)
  | rev2 (a b : E)
end
inductive S where
  | asg (tg : Tg) (e : E)
  | set (i : Nat) (ix e : E)
  | ex (e : E)
  | ret (e : E)
  | retN
  | ife (c : E) (a b : List S)
  | fr (tg : Tg) (it : I) (b : List S) (lp : List Bool)
  | whl (c : E) (b : List S) (lp : List Bool)
  | brk
  | cnt
  | pas
  | kill (is : List Nat)

/-! ### what they are worth -/
inductive CR where
  | ok (d : D) (outs : List D)
  | ex (e : Exn) (outs : List D)
structure Ctx where
  C : Nat → List D → Option CR
  sg : Nat → List Bool
inductive Pd where
  | s (i : Nat)
  | d (x : D)
def rdP : Pd → M D
  | .d x => M.ret x
  | .s i => fun ρ => match ρ[i]? with
    | some (some d) => some (.ok d ρ)
    | _ => none
def rdPs : List Pd → M (List D)
  | [] => M.ret []
  | p :: ps => M.bnd (rdP p) fun d => M.bnd (rdPs ps) fun ds => M.ret (d :: ds)
/-- an operand: a name is looked up when all operands stand -/
def opnd (e : E) (m : M D) : M Pd := match e with
  | .var i => fun ρ => match ρ[i]? with
    | some (some _) => some (.ok (.s i) ρ)
    | _ => none
  | _ => M.bnd m fun d => M.ret (.d d)
def outsTo : List Bool → List Pd → List D → Rho → Option Rho
  | true :: ms, .s i :: ps, d :: ds, ρ => outsTo ms ps ds (ρ.set i (some d))
  | true :: _, _, _, _ => none
  | false :: ms, _ :: ps, ds, ρ => outsTo ms ps ds ρ
  | false :: _, [], _, _ => none
  | [], _, _, ρ => some ρ
def callM (X : Ctx) (f : Nat) (ps : List Pd) : M D := M.bnd (rdPs ps) fun ds ρ => match X.C f ds with
  | none => none
  | some (.ok d outs) => (outsTo (X.sg f) ps outs ρ).map fun ρ' => .ok d ρ'
  | some (.ex e outs) => (outsTo (X.sg f) ps outs ρ).map fun ρ' => .ex e ρ'
mutual
def bindT : Tg → D → Rho → Option Rho
  | .nm i, d, ρ => if i < ρ.length then some (ρ.set i (some d)) else none
  | .tp ts, .tuple ds, ρ => bindTs ts ds ρ
  | .tp ts, .list ds, ρ => bindTs ts ds ρ
  | .tp _, _, _ => none
def bindTs : List Tg → List D → Rho → Option Rho
  | [], [], ρ => some ρ
  | t :: ts, d :: ds, ρ => (bindT t d ρ).bind fun ρ' => bindTs ts ds ρ'
  | [], _ :: _, _ => none
  | _ :: _, [], _ => none
end
def wipeR (ρ : Rho) : List Nat → Rho
  | [] => ρ
  | v :: vs => (wipeR ρ vs).set v none
def backR (ρ0 : Rho) : List Nat → Rho → Rho
  | [], ρ => ρ
  | v :: vs, ρ => (backR ρ0 vs ρ).set v (ρ0[v]?.getD none)
def asB : D → M Bool
  | .bool b => M.ret b
  | _ => fun _ => none
/-- the turns of a comprehension; an error out of one is not served -/
def compL (bnd : D → Rho → Option Rho) (c : Option (M Bool)) (el : M D) (vs : List Nat) : List D → Rho → Option (List D × Rho)
  | [], ρ => some ([], ρ)
  | x :: xs, ρ => match bnd x ρ with
    | none => none
    | some ρ1 => match (match c with | none => some (R.ok true ρ1) | some m => m ρ1) with
      | some (.ok false ρ2) => compL bnd c el vs xs (wipeR ρ2 vs)
      | some (.ok true ρ2) => match el ρ2 with
        | some (.ok y ρ3) => (compL bnd c el vs xs (wipeR ρ3 vs)).map fun r => (y :: r.1, r.2)
        | _ => none
      | _ => none
def itemsD : D → Option (List D)
  | .list a => some a
  | .tuple a => some a
  | .str a => some (a.cps.toList.map fun c => .str ⟨#[c]⟩)
  | _ => none
def rngD (lo hi : Int) : List D := (List.range (hi - lo).toNat).map fun (i : Nat) => .int (lo + i)
def bnd62 (i : Int) : Bool := decide (-4611686018427387904 ≤ i ∧ i < 4611686018427387904)
def rg1 : D → Option (List D)
  | .int b => if bnd62 b then some (rngD 0 b) else none
  | _ => none
def rg2 : D → D → Option (List D)
  | .int a, .int b => if bnd62 a && bnd62 b then some (rngD a b) else none
  | _, _ => none
def enumD (k : Nat) : List D → List D
  | [] => []
  | x :: xs => .tuple [.int k, x] :: enumD (k + 1) xs
def zipD : List D → List D → List D
  | x :: xs, y :: ys => .tuple [x, y] :: zipD xs ys
  | _, _ => []
def zip3D : List D → List D → List D → List D
  | x :: xs, y :: ys, z :: zs => .tuple [x, y, z] :: zip3D xs ys zs
  | _, _, _ => []
def partD : Option D → Option (Option Int)
  | none => some none
  | some (.int i) => some (some i)
  | some _ => none
/-- repr of it may be asked -/
def shwOk (x : D) : Bool := SeqAt.shaped x && PyData.showable x && okLen (PyData.shown x).length
mutual
def evE (X : Ctx) : E → M D
  | .var i => rdP (.s i)
  | .con d => M.ret d
  | .glo _ d => M.ret d
  | .tup es => M.bnd (evEs X es) fun ds => if okLen ds.length then M.ret (.tuple ds) else fun _ => none
  | .lst es => M.bnd (evEs X es) fun ds => if okLen ds.length then M.ret (.list ds) else fun _ => none
  | .op o a b => M.bnd (opnd a (evE X a)) fun p => M.bnd (opnd b (evE X b)) fun q => M.bnd (rdP p) fun x => M.bnd (rdP q) fun y => M.lift (opD o x y)
  | .neg a => M.bnd (evE X a) fun x => match x with
    | .int i => M.ret (.int (-i))
    | _ => fun _ => none
  | .cmp o a b => M.bnd (opnd a (evE X a)) fun p => M.bnd (opnd b (evE X b)) fun q => M.bnd (rdP p) fun x => M.bnd (rdP q) fun y => M.lift ((cmD o x y).map .bool)
  | .isN ng a => M.bnd (evE X a) fun x => M.ret (.bool (if ng then !isNon x else isNon x))
  | .and a b => M.bnd (M.bnd (evE X a) asB) fun c => if c then M.bnd (M.bnd (evE X b) asB) fun c => M.ret (.bool c) else M.ret (.bool false)
  | .or a b => M.bnd (M.bnd (evE X a) asB) fun c => if c then M.ret (.bool true) else M.bnd (M.bnd (evE X b) asB) fun c => M.ret (.bool c)
  | .not a => M.bnd (M.bnd (evE X a) asB) fun c => M.ret (.bool (!c))
  | .ite c a b => M.bnd (M.bnd (evE X c) asB) fun c => if c then evE X a else evE X b
  | .fn f es => M.bnd (evAs X (X.sg f) es) fun ps => callM X f ps
  | .bi b es => M.bnd (evPs X es) fun ps => M.bnd (rdPs ps) fun ds => M.lift (btD b ds)
  | .me m o es => M.bnd (evE X o) fun x => if mtOk m x then M.bnd (evPs X es) fun ps => M.bnd (rdPs ps) fun ds => M.lift (mtD m x ds) else fun _ => none
  | .mu m i es => fun ρ0 => match ρ0[i]? with
    | some (some (.list _)) => M.bnd (evEs X es) (fun ds ρ => match ρ[i]? with
      | some (some (.list xs)) => match mmD m xs ds with
        | some (y, xs') => some (.ok y (ρ.set i (some (.list xs'))))
        | none => none
      | _ => none) ρ0
    | _ => none
  | .ix a b => M.bnd (opnd a (evE X a)) fun p => M.bnd (evE X b) fun y => M.bnd (rdP p) fun x => M.lift (ixD x y)
  | .sl a lo hi => M.bnd (opnd a (evE X a)) fun p => M.bnd (evO X lo) fun l => M.bnd (evO X hi) fun h => M.bnd (rdP p) fun x => M.lift (slD x l h)
  | .comp el tg it c vs => M.bnd (evI X it) fun ds ρ => if okLen ds.length then
      match compL (bindT tg) (match c with | none => none | some e => some (M.bnd (evE X e) asB)) (evE X el) vs ds (wipeR ρ vs) with
      | none => none
      | some (ys, ρ') => some (.ok (.list ys) (backR ρ vs ρ'))
    else none
  | .eqR a b => M.bnd (evE X a) fun x => if shwOk x then M.bnd (evE X b) fun y => if shwOk y then M.ret (.bool (decide (PyData.shown x = PyData.shown y))) else fun _ => none else fun _ => none
  | .isi k a => M.bnd (evE X a) fun x => M.lift ((isKd k x).map .bool)
  | .chn o o' a b c => M.bnd (evE X a) fun x => M.bnd (evE X b) fun y => M.bnd (M.lift (cmD o x y)) fun t => if t then M.bnd (evE X c) fun z => M.lift ((cmD o' y z).map .bool) else M.ret (.bool false)
  | .rev a => M.bnd (evE X a) fun x => M.lift (revD x)
def evEs (X : Ctx) : List E → M (List D)
  | [] => M.ret []
  | e :: es => M.bnd (evE X e) fun d => M.bnd (evEs X es) fun ds => M.ret (d :: ds)
def evPs (X : Ctx) : List E → M (List Pd)
  | [] => M.ret []
  | e :: es => M.bnd (opnd e (evE X e)) fun d => M.bnd (evPs X es) fun ds => M.ret (d :: ds)
/-- the arguments of a call: a name that the callee may change is handed by its slot -/
def evAs (X : Ctx) : List Bool → List E → M (List Pd)
  | _, [] => M.ret []
  | true :: ms, e :: es => M.bnd (opnd e (evE X e)) fun d => M.bnd (evAs X ms es) fun ds => M.ret (d :: ds)
  | ms, e :: es => M.bnd (evE X e) fun d => M.bnd (evAs X (ms.drop 1) es) fun ds => M.ret (.d d :: ds)
def evO (X : Ctx) : Option E → M (Option Int)
  | none => M.ret none
  | some e => M.bnd (evE X e) fun x => match x with
    | .int i => M.ret (some i)
    | _ => fun _ => none
def evI (X : Ctx) : I → M (List D)
  | .seq e => M.bnd (evE X e) fun d => M.lift (itemsD d)
  | .rng1 b => M.bnd (evE X b) fun y => M.lift (rg1 y)
  | .rng2 a b => M.bnd (evE X a) fun x => M.bnd (evE X b) fun y => M.lift (rg2 x y)
  | .enum e => M.bnd (evE X e) fun d => M.lift ((itemsD d).map (enumD 0))
  | .zip2 a b => M.bnd (evE X a) fun x => M.bnd (evE X b) fun y => M.lift ((itemsD x).bind fun u => (itemsD y).map fun v => zipD u v)
  | .zip3 a b c => M.bnd (evE X a) fun x => M.bnd (evE X b) fun y => M.bnd (evE X c) fun z => M.lift ((itemsD x).bind fun u => (itemsD y).bind fun v => (itemsD z).map fun t => zip3D u v t)
  | .rev1 b => M.bnd (evE X b) fun y => M.lift ((rg1 y).map List.reverse)
  | .rev2 a b => M.bnd (evE X a) fun x => M.bnd (evE X b) fun y => M.lift ((rg2 x y).map List.reverse)
end

/-! ### statements -/
inductive Out where
  | nx (ρ : Rho)
  | bk (ρ : Rho)
  | ct (ρ : Rho)
  | rt (d : D) (ρ : Rho)
  | ex (e : Exn) (ρ : Rho)
def forL (bnd : D → Rho → Option Rho) (body : Rho → Option Out) : List D → Rho → Option Out
  | [], ρ => some (.nx ρ)
  | x :: xs, ρ => match bnd x ρ with
    | none => none
    | some ρ1 => match body ρ1 with
      | some (.nx ρ2) => forL bnd body xs ρ2
      | some (.ct ρ2) => forL bnd body xs ρ2
      | some (.bk ρ2) => some (.nx ρ2)
      | r => r
def whlL (c : M Bool) (body : Rho → Option Out) : Nat → Rho → Option Out
  | 0, _ => none
  | n + 1, ρ => match c ρ with
    | some (.ok true ρ1) => match body ρ1 with
      | some (.nx ρ2) => whlL c body n ρ2
      | some (.ct ρ2) => whlL c body n ρ2
      | some (.bk ρ2) => some (.nx ρ2)
      | r => r
    | some (.ok false ρ1) => some (.nx ρ1)
    | some (.ex e ρ1) => some (.ex e ρ1)
    | none => none
/-- turns of a while: as many as any run here takes -/
def fuelW : Nat := 1000000000
def thenO {α : Type} (x : Option (R α)) (f : α → Rho → Option Out) : Option Out := match x with
  | none => none
  | some (.ex e ρ) => some (.ex e ρ)
  | some (.ok a ρ) => f a ρ
mutual
def exS (X : Ctx) : S → Rho → Option Out
  | .asg tg e, ρ => thenO (evE X e ρ) fun d ρ1 => (bindT tg d ρ1).map .nx
  | .set i ix e, ρ => thenO (evE X e ρ) fun d ρ1 => thenO (match ρ1[i]? with | some (some _) => evE X ix ρ1 | _ => none) fun k ρ2 => match ρ2[i]?, k with
    | some (some (.list xs)), .int n => match ixN xs.length n with
      | some j => some (.nx (ρ2.set i (some (.list (xs.set j d)))))
      | none => none
    | _, _ => none
  | .ex e, ρ => thenO (evE X e ρ) fun _ ρ1 => some (.nx ρ1)
  | .ret e, ρ => thenO (evE X e ρ) fun d ρ1 => some (.rt d ρ1)
  | .retN, ρ => some (.rt .none ρ)
  | .ife c a b, ρ => thenO (M.bnd (evE X c) asB ρ) fun t ρ1 => if t then exSs X a ρ1 else exSs X b ρ1
  | .fr tg it b _, ρ => thenO (evI X it ρ) fun ds ρ1 => forL (bindT tg) (exSs X b) ds ρ1
  | .whl c b _, ρ => whlL (M.bnd (evE X c) asB) (exSs X b) fuelW ρ
  | .brk, ρ => some (.bk ρ)
  | .cnt, ρ => some (.ct ρ)
  | .pas, ρ => some (.nx ρ)
  | .kill is, ρ => some (.nx (wipeR ρ is))
def exSs (X : Ctx) : List S → Rho → Option Out
  | [], ρ => some (.nx ρ)
  | s :: ss, ρ => match exS X s ρ with
    | some (.nx ρ1) => exSs X ss ρ1
    | r => r
end

/-! ### a text of defs -/
structure Fn where
  name : Str
  ps : List Str
  N : List Str
  mu : List Bool
  own : Bool
  body : List S
def mutOuts : List Bool → List (Option D) → Option (List D)
  | true :: ms, some d :: r => (mutOuts ms r).map (d :: ·)
  | true :: _, _ => none
  | false :: ms, _ :: r => mutOuts ms r
  | false :: _, [] => none
  | [], _ => some []
def outCR (own : Bool) (ms : List Bool) : Out → Option CR
  | .rt d ρ => (mutOuts ms ρ).map fun o => .ok d o
  | .nx ρ => if own then none else (mutOuts ms ρ).map fun o => .ok .none o
  | .ex e ρ => (mutOuts ms ρ).map fun o => .ex e o
  | _ => none
def startR (f : Fn) (ds : List D) : Rho := ds.map some ++ List.replicate (f.N.length - ds.length) none
def ctxN (C : Nat → List D → Option CR) (T : List Fn) : Ctx := { C := C, sg := fun g => (T[g]?.map (·.mu)).getD [] }
def callN (T : List Fn) : Nat → Nat → List D → Option CR
  | 0, _, _ => none
  | n + 1, f, ds => match T[f]? with
    | none => none
    | some fn => if ds.length = fn.ps.length then (exSs (ctxN (callN T n) T) fn.body (startR fn ds)).bind (outCR fn.own fn.mu) else none
end VF

end
section
set_option Elab.async false
set_option linter.all false
set_option autoImplicit false
set_option maxRecDepth 100000
set_option maxHeartbeats 1000000
/-! VB: what a value of the heap stands for, what the slots hold, and how that lasts. -/
namespace VF
open PySem PySem.Spec L2

mutual
def szD : D → Bool
  | .list xs => okLen xs.length && szDs xs
  | .tuple xs => okLen xs.length && szDs xs
  | .str x => okLen x.length
  | .dict _ => false
  | _ => true
def szDs : List D → Bool
  | [] => true
  | x :: xs => szD x && szDs xs
end
theorem szDs_iff : ∀ {xs : List D}, szDs xs = true ↔ ∀ x ∈ xs, szD x = true
  | [] => by simp [szDs]
  | x :: xs => by simp [szDs, szDs_iff (xs := xs)]
theorem okLen_iff {n : Nat} : okLen n = true ↔ n ≤ sizeLine := by rw [sizeLine_eq]; simp [okLen]

open Classical in
noncomputable def hid (H : Hp) (S : Addr → Prop) : Hp := fun a => if S a then none else H a
theorem hid_out {H : Hp} {S : Addr → Prop} {a : Addr} (h : ¬ S a) : hid H S a = H a := by unfold hid; rw [if_neg h]
theorem hid_in {H : Hp} {S : Addr → Prop} {a : Addr} (h : S a) : hid H S a = none := by unfold hid; rw [if_pos h]
theorem hid_some {H : Hp} {S : Addr → Prop} {a : Addr} {o : HO} (h : hid H S a = some o) : ¬ S a ∧ H a = some o := by
  unfold hid at h
  split at h
  · cases h
  · exact ⟨by assumption, h⟩
theorem hid_le {H : Hp} {S : Addr → Prop} : Same (hid H S) H := fun _ _ e => (hid_some e).2
theorem hid_mono {H : Hp} {S S' : Addr → Prop} (h : ∀ a, S' a → S a) : Same (hid H S) (hid H S') := fun a o e => by
  obtain ⟨n, e⟩ := hid_some e
  rw [hid_out fun z => n (h a z)]; exact e

section
variable {K : PySem.W.Frag} {B B' : Hp}
theorem sqT_mono {a : Addr} {xs : List V} (e : Same B B') (h : SqT K B a xs) : SqT K B' a xs := by
  rcases h with (h | ⟨o, h⟩) | h
  · exact .inl (.inl (e _ _ h))
  · exact .inl (.inr ⟨o, e _ _ h⟩)
  · exact .inr h
mutual
theorem dp_mono (e : Same B B') : ∀ {d : D} {v : V}, Dp K B v d → Dp K B' v d
  | .none, _, h => by cases h; exact .non
  | .bool _, _, h => by cases h; exact .bl _
  | .int _, _, h => by cases h; exact .int _
  | .str _, _, h => by cases h; exact .str _
  | .list ds, _, h => by cases h with | lst s r => exact .lst (e.seq s) (dpAll_mono e r)
  | .tuple ds, _, h => by cases h with | tup s r => exact .tup (sqT_mono e s) (dpAll_mono e r)
  | .dict _, _, h => by cases h
theorem dpAll_mono (e : Same B B') : ∀ {ds : List D} {vs : List V}, DpAll K B vs ds → DpAll K B' vs ds
  | [], _, h => by cases h; exact .nil
  | _ :: _, _, h => by cases h with | cons a r => exact .cons (dp_mono e a) (dpAll_mono e r)
end
theorem dpAll_len : ∀ {ds : List D} {vs : List V}, DpAll K B vs ds → vs.length = ds.length
  | [], _, h => by cases h; rfl
  | _ :: _, _, h => by cases h with | cons a r => simp [dpAll_len r]
theorem dpAll_get : ∀ {ds : List D} {vs : List V} {i : Nat} {d : D}, DpAll K B vs ds → ds[i]? = some d → ∃ v, vs[i]? = some v ∧ Dp K B v d
  | [], _, _, _, _, e => by simp at e
  | _ :: _, _, 0, _, h, e => by
    cases h with | cons a r => simp at e; subst e; exact ⟨_, rfl, a⟩
  | _ :: ds, _, i + 1, d, h, e => by
    cases h with
    | cons a r =>
      obtain ⟨v, h1, h2⟩ := dpAll_get (i := i) r (by simpa using e)
      exact ⟨v, by simpa using h1, h2⟩
theorem dpAll_append : ∀ {ds es : List D} {vs us : List V}, DpAll K B vs ds → DpAll K B us es → DpAll K B (vs ++ us) (ds ++ es)
  | [], _, _, _, h, g => by cases h; exact g
  | _ :: _, _, _, _, h, g => by cases h with | cons a r => exact .cons a (dpAll_append r g)
theorem dpAll_take : ∀ {ds : List D} {vs : List V} (n : Nat), DpAll K B vs ds → DpAll K B (vs.take n) (ds.take n)
  | _, _, 0, _ => by simp; exact .nil
  | [], _, _ + 1, h => by cases h; exact .nil
  | _ :: _, _, n + 1, h => by cases h with | cons a r => exact .cons a (dpAll_take n r)
theorem dpAll_drop : ∀ {ds : List D} {vs : List V} (n : Nat), DpAll K B vs ds → DpAll K B (vs.drop n) (ds.drop n)
  | _, _, 0, h => h
  | [], _, _ + 1, h => by cases h; exact .nil
  | _ :: _, _, n + 1, h => by cases h with | cons a r => exact dpAll_drop n r
theorem dpAll_reverse : ∀ {ds : List D} {vs : List V}, DpAll K B vs ds → DpAll K B vs.reverse ds.reverse
  | [], _, h => by cases h; exact .nil
  | _ :: _, _, h => by
    cases h with
    | cons a r => rw [List.reverse_cons, List.reverse_cons]; exact dpAll_append (dpAll_reverse r) (.cons a .nil)
theorem dpAll_set : ∀ {ds : List D} {vs : List V} {d : D} {v : V} (n : Nat), DpAll K B vs ds → Dp K B v d → DpAll K B (vs.set n v) (ds.set n d)
  | [], _, _, _, _, h, _ => by cases h; exact .nil
  | _ :: _, _, _, _, 0, h, g => by cases h with | cons a r => exact .cons g r
  | _ :: _, _, _, _, n + 1, h, g => by cases h with | cons a r => exact .cons a (dpAll_set n r g)
theorem dpAll_rep {ds : List D} {vs : List V} (h : DpAll K B vs ds) : ∀ n : Nat, DpAll K B (List.replicate n vs).flatten (List.replicate n ds).flatten
  | 0 => .nil
  | n + 1 => by rw [List.replicate_succ, List.replicate_succ, List.flatten_cons, List.flatten_cons]; exact dpAll_append h (dpAll_rep h n)
end

/-- the value v stands for d, by what B holds -/
structure Rp (K : PySem.W.Frag) (B : Hp) (v : V) (d : D) : Prop where
  dp : Dp K B v d
  sz : szD d = true
structure RpAll (K : PySem.W.Frag) (B : Hp) (vs : List V) (ds : List D) : Prop where
  dp : DpAll K B vs ds
  sz : szDs ds = true
section
variable {K : PySem.W.Frag} {B B' : Hp} {v : V} {d : D} {vs us : List V} {ds es : List D}
theorem Rp.mono (h : Rp K B v d) (e : Same B B') : Rp K B' v d := ⟨dp_mono e h.dp, h.sz⟩
theorem RpAll.mono (h : RpAll K B vs ds) (e : Same B B') : RpAll K B' vs ds := ⟨dpAll_mono e h.dp, h.sz⟩
theorem RpAll.len (h : RpAll K B vs ds) : vs.length = ds.length := dpAll_len h.dp
theorem RpAll.nil : RpAll K B [] [] := ⟨.nil, rfl⟩
theorem RpAll.cons (h : Rp K B v d) (g : RpAll K B vs ds) : RpAll K B (v :: vs) (d :: ds) := ⟨.cons h.dp g.dp, by simp [szDs, h.sz, g.sz]⟩
theorem RpAll.uncons {d : D} {ds : List D} (h : RpAll K B vs (d :: ds)) : ∃ v us, vs = v :: us ∧ Rp K B v d ∧ RpAll K B us ds := by
  obtain ⟨h, s⟩ := h
  simp [szDs] at s
  cases h with | cons a r => exact ⟨_, _, rfl, ⟨a, s.1⟩, ⟨r, s.2⟩⟩
theorem RpAll.unnil (h : RpAll K B vs []) : vs = [] := by cases h.dp; rfl
theorem RpAll.get {i : Nat} (h : RpAll K B vs ds) (e : ds[i]? = some d) : ∃ v, vs[i]? = some v ∧ Rp K B v d := by
  obtain ⟨v, h1, h2⟩ := dpAll_get h.dp e
  exact ⟨v, h1, h2, szDs_iff.mp h.sz d (List.mem_of_getElem? e)⟩
theorem RpAll.append (h : RpAll K B vs ds) (g : RpAll K B us es) : RpAll K B (vs ++ us) (ds ++ es) :=
  ⟨dpAll_append h.dp g.dp, szDs_iff.mpr fun x hx => (List.mem_append.mp hx).elim (szDs_iff.mp h.sz x) (szDs_iff.mp g.sz x)⟩
theorem RpAll.take (h : RpAll K B vs ds) (n : Nat) : RpAll K B (vs.take n) (ds.take n) := ⟨dpAll_take n h.dp, szDs_iff.mpr fun x hx => szDs_iff.mp h.sz x (List.mem_of_mem_take hx)⟩
theorem RpAll.drop (h : RpAll K B vs ds) (n : Nat) : RpAll K B (vs.drop n) (ds.drop n) := ⟨dpAll_drop n h.dp, szDs_iff.mpr fun x hx => szDs_iff.mp h.sz x (List.mem_of_mem_drop hx)⟩
theorem RpAll.reverse (h : RpAll K B vs ds) : RpAll K B vs.reverse ds.reverse := ⟨dpAll_reverse h.dp, szDs_iff.mpr fun x hx => szDs_iff.mp h.sz x (List.mem_reverse.mp hx)⟩
theorem RpAll.set (h : RpAll K B vs ds) (g : Rp K B v d) (n : Nat) : RpAll K B (vs.set n v) (ds.set n d) :=
  ⟨dpAll_set n h.dp g.dp, szDs_iff.mpr fun x hx => (List.mem_or_eq_of_mem_set hx).elim (szDs_iff.mp h.sz x) fun e => e ▸ g.sz⟩
theorem RpAll.rep (h : RpAll K B vs ds) (n : Nat) : RpAll K B (List.replicate n vs).flatten (List.replicate n ds).flatten :=
  ⟨dpAll_rep h.dp n, szDs_iff.mpr fun x hx => by
    obtain ⟨l, hl, hx⟩ := List.mem_flatten.mp hx
    rw [List.eq_of_mem_replicate hl] at hx
    exact szDs_iff.mp h.sz x hx⟩
theorem Rp.non : Rp K B .non .none := ⟨.non, rfl⟩
theorem Rp.bl {b : Bool} : Rp K B (.bl b) (.bool b) := ⟨.bl b, rfl⟩
theorem Rp.int {i : Int} : Rp K B (.int i) (.int i) := ⟨.int i, rfl⟩
theorem Rp.str {x : Str} (h : okLen x.length = true) : Rp K B (.str x) (.str x) := ⟨.str x, h⟩
theorem Rp.lst {a : Addr} (s : SqL K B a vs) (r : RpAll K B vs ds) (h : okLen ds.length = true) : Rp K B (.ref a) (.list ds) := ⟨.lst s r.dp, by simp [szD, h, r.sz]⟩
theorem Rp.tup {a : Addr} (s : SqT K B a vs) (r : RpAll K B vs ds) (h : okLen ds.length = true) : Rp K B (.ref a) (.tuple ds) := ⟨.tup s r.dp, by simp [szD, h, r.sz]⟩
theorem Rp.unint {i : Int} (h : Rp K B v (.int i)) : v = .int i := by cases h.dp; rfl
theorem Rp.unbool {i : Bool} (h : Rp K B v (.bool i)) : v = .bl i := by cases h.dp; rfl
theorem Rp.unnone (h : Rp K B v .none) : v = .non := by cases h.dp; rfl
theorem Rp.unstr {i : Str} (h : Rp K B v (.str i)) : v = .str i ∧ i.length ≤ sizeLine := by cases h.dp; exact ⟨rfl, okLen_iff.mp h.sz⟩
theorem Rp.unlst (h : Rp K B v (.list ds)) : ∃ a vs, v = .ref a ∧ SqL K B a vs ∧ RpAll K B vs ds ∧ ds.length ≤ sizeLine := by
  obtain ⟨h, s⟩ := h
  simp [szD] at s
  cases h with | lst q r => exact ⟨_, _, rfl, q, ⟨r, s.2⟩, okLen_iff.mp s.1⟩
theorem Rp.untup (h : Rp K B v (.tuple ds)) : ∃ a vs, v = .ref a ∧ SqT K B a vs ∧ RpAll K B vs ds ∧ ds.length ≤ sizeLine := by
  obtain ⟨h, s⟩ := h
  simp [szD] at s
  cases h with | tup q r => exact ⟨_, _, rfl, q, ⟨r, s.2⟩, okLen_iff.mp s.1⟩
end

/-- the surroundings of a def's run: addresses of others, the heap at the entry, the lists that it may change, the names of such, error classes -/
structure Wd where
  K : PySem.W.Frag
  F : Addr → Prop
  Z : Addr → HO → Prop
  H0 : Hp
  pa : Nat → Option Addr
  lk : List Bool
  xc : Str → Option Addr
/-- the lists that may be changed -/
def Wd.ps (w : Wd) (a : Addr) : Prop := ∃ i, w.pa i = some a
structure WdOk (w : Wd) : Prop where
  ph : ∀ i a, w.pa i = some a → w.H0 a ≠ none
  lkp : ∀ i : Nat, w.lk[i]? = some true ↔ (w.pa i).isSome = true
  zf : ∀ a o, w.Z a o → w.F a
/-- one address more that the names have nothing to do with -/
def Wd.plus (w : Wd) (p : Addr) : Wd := { w with F := fun a => w.F a ∨ a = p }
/-- one object more that nobody changes -/
def Wd.pin (w : Wd) (p : Addr) (o : HO) : Wd := { w with F := fun a => w.F a ∨ a = p, Z := fun a u => w.Z a u ∨ (a = p ∧ u = o) }
abbrev Ow := Nat → Option Addr
def OF (w : Wd) (ow : Ow) : Addr → Prop := fun a => w.F a ∨ ∃ i, ow i = some a
noncomputable abbrev vis (w : Wd) (ow : Ow) (H : Hp) : Hp := hid H (OF w ow)
/-- the list that a name owns -/
def OwnAt (w : Wd) (ow : Ow) (H : Hp) (p : Addr) (d : D) : Prop := ∃ ds vs, d = .list ds ∧ H p = some (.lst vs) ∧ RpAll w.K (vis w ow H) vs ds ∧ ds.length ≤ sizeLine
structure Rel (w : Wd) (Γ : List Bool) (ρ : Rho) (ow : Ow) (σ : St) (H : Hp) : Prop where
  len : σ.length = ρ.length
  sh : ∀ (i : Nat) (d : D), ρ[i]? = some (some d) → Γ[i]? ≠ some true → ∃ v, σ[i]? = some (some v) ∧ Rp w.K (vis w ow H) v d
  own : ∀ (i : Nat) (d : D), ρ[i]? = some (some d) → Γ[i]? = some true → ∃ p, ow i = some p ∧ σ[i]? = some (some (.ref p)) ∧ OwnAt w ow H p d
  inj : ∀ i j p, ow i = some p → ow j = some p → i = j
  ne : ∀ i p, ow i = some p → ¬ w.F p ∧ (w.ps p ∨ w.H0 p = none) ∧ H p ≠ none
  ext : ∀ a o, ¬ w.ps a → w.H0 a = some o → H a = some o
  dom : ∀ a, w.H0 a ≠ none → H a ≠ none
  fd : ∀ a, w.F a → H a ≠ none
  lkd : ∀ i p, w.pa i = some p → ow i = some p
  fz : ∀ a o, w.Z a o → H a = some o

/-- what an operand stands for, at the time of the operation -/
def RpT (K : PySem.W.Frag) (H B : Hp) (v : V) (d : D) : Prop := Rp K B v d ∨ ∃ p ds vs, v = .ref p ∧ d = .list ds ∧ H p = some (.lst vs) ∧ RpAll K B vs ds ∧ ds.length ≤ sizeLine
section
variable {K : PySem.W.Frag} {H B : Hp} {v : V} {d : D} {ds : List D}
theorem RpT.of (h : Rp K B v d) : RpT K H B v d := .inl h
theorem RpT.dp (h : RpT K H B v d) (e : Same B H) : Dp K H v d := by
  rcases h with h | ⟨p, ds, vs, rfl, rfl, hp, r, _⟩
  · exact dp_mono e h.dp
  · exact .lst (.of hp) (dpAll_mono e r.dp)
theorem RpT.unlst (h : RpT K H B v (.list ds)) (e : Same B H) : ∃ a vs, v = .ref a ∧ SqL K H a vs ∧ RpAll K B vs ds ∧ ds.length ≤ sizeLine := by
  rcases h with h | ⟨p, es, vs, rfl, q, hp, r, z⟩
  · obtain ⟨a, vs, rfl, s, r, z⟩ := h.unlst
    exact ⟨a, vs, rfl, e.seq s, r, z⟩
  · cases q
    exact ⟨p, vs, rfl, .of hp, r, z⟩
theorem RpT.untup (h : RpT K H B v (.tuple ds)) (e : Same B H) : ∃ a vs, v = .ref a ∧ SqT K H a vs ∧ RpAll K B vs ds ∧ ds.length ≤ sizeLine := by
  rcases h with h | ⟨p, es, vs, rfl, q, hp, r, z⟩
  · obtain ⟨a, vs, rfl, s, r, z⟩ := h.untup
    exact ⟨a, vs, rfl, sqT_mono e s, r, z⟩
  · cases q
theorem RpT.unint {i : Int} (h : RpT K H B v (.int i)) : v = .int i := by
  rcases h with h | ⟨p, es, vs, rfl, q, _⟩
  · exact h.unint
  · cases q
theorem RpT.unbool {i : Bool} (h : RpT K H B v (.bool i)) : v = .bl i := by
  rcases h with h | ⟨p, es, vs, rfl, q, _⟩
  · exact h.unbool
  · cases q
theorem RpT.unstr {i : Str} (h : RpT K H B v (.str i)) : v = .str i ∧ i.length ≤ sizeLine := by
  rcases h with h | ⟨p, es, vs, rfl, q, _⟩
  · exact h.unstr
  · cases q
end

section
variable {w : Wd} {Γ Γ' : List Bool} {ρ ρ' : Rho} {ow ow' : Ow} {σ σ' : St} {H H' : Hp}
theorem vis_le : Same (vis w ow H) H := hid_le
/-- a new object -/
theorem Rel.alloc {p : Addr} {o : HO} (wk : WdOk w) (r : Rel w Γ ρ ow σ H) (hp : H p = none) : Rel w Γ ρ ow σ (upd H p o) ∧ ¬ OF w ow p ∧ w.H0 p = none ∧ ¬ w.ps p ∧ Same (vis w ow H) (vis w ow (upd H p o)) := by
  have n0 : w.H0 p = none := by
    cases q : w.H0 p with
    | none => rfl
    | some o => exact absurd hp (r.dom p (by rw [q]; simp))
  have nf : ¬ OF w ow p := by
    rintro (h | ⟨i, h⟩)
    · exact r.fd p h hp
    · exact (r.ne i p h).2.2 hp
  have np : ¬ w.ps p := fun ⟨i, h⟩ => wk.ph i p h n0
  have le : Same H (upd H p o) := fun a u e => by rw [upd_ne (ne_of_none e hp)]; exact e
  have lv : Same (vis w ow H) (vis w ow (upd H p o)) := fun a u e => by
    obtain ⟨n, e⟩ := hid_some e
    show hid _ _ _ = _
    rw [hid_out n]; exact le a u e
  have keep : ∀ {a : Addr}, H a ≠ none → upd H p o a ≠ none := fun {a} n z => by
    cases u : H a with
    | none => exact n u
    | some x => rw [le _ _ u] at z; cases z
  refine ⟨⟨r.len, fun i d e g => ?_, fun i d e g => ?_, r.inj, fun i q e => ?_, fun a u n e => le _ _ (r.ext a u n e), fun a n => keep (r.dom a n), fun a n => keep (r.fd a n), r.lkd, fun a u z => le _ _ (r.fz a u z)⟩, nf, n0, np, lv⟩
  · obtain ⟨v, h1, h2⟩ := r.sh i d e g
    exact ⟨v, h1, h2.mono lv⟩
  · obtain ⟨q, h1, h2, ds, vs, rfl, h3, h4, h5⟩ := r.own i d e g
    exact ⟨q, h1, h2, ds, vs, rfl, le _ _ h3, h4.mono lv, h5⟩
  · obtain ⟨h1, h2, h3⟩ := r.ne i q e
    exact ⟨h1, h2, keep h3⟩
/-- the visible part grows: forgetting that a name owns -/
theorem vis_drop {k : Nat} : Same (vis w ow H) (vis w (fun i => if i = k then none else ow i) H) := hid_mono fun a h => by
  rcases h with h | ⟨i, h⟩
  · exact .inl h
  · by_cases e : i = k
    · simp [e] at h
    · simp [e] at h; exact .inr ⟨i, h⟩
theorem get_setF {Γ : List Bool} {i k : Nat} : (Γ.set k false)[i]? ≠ some true ↔ (i = k ∨ Γ[i]? ≠ some true) := by
  by_cases e : i = k
  · subst e
    refine ⟨fun _ => .inl rfl, fun _ => ?_⟩
    by_cases h : i < Γ.length
    · rw [List.getElem?_set_self h]; simp
    · rw [List.getElem?_eq_none (by simpa using h)]; simp
  · rw [List.getElem?_set_ne (Ne.symm e)]
    exact ⟨.inr, fun h => h.elim (absurd · e) id⟩
theorem get_setF_t {Γ : List Bool} {i k : Nat} : (Γ.set k false)[i]? = some true ↔ (i ≠ k ∧ Γ[i]? = some true) := by
  have := @get_setF Γ i k
  constructor
  · intro h
    exact ⟨fun e => (this.mpr (.inl e)) h, Classical.byContradiction fun n => (this.mpr (.inr n)) h⟩
  · rintro ⟨h1, h2⟩
    exact Classical.byContradiction fun n => (this.mp n).elim h1 (fun z => z h2)
/-- what a name owns is laid open to all: from here on nobody changes it -/
theorem Rel.freeze (r : Rel w Γ ρ ow σ H) (k : Nat) (hk : w.pa k = none) : ∃ ow', Rel w (Γ.set k false) ρ ow' σ H ∧ Same (vis w ow H) (vis w ow' H) := by
  have lkd' : ∀ i p, w.pa i = some p → (if i = k then none else ow i) = some p := fun i p h => by
    have ik : i ≠ k := fun z => by rw [z, hk] at h; cases h
    rw [if_neg ik]; exact r.lkd i p h
  refine ⟨fun i => if i = k then none else ow i, ⟨r.len, fun i d e g => ?_, fun i d e g => ?_, fun i j p a b => ?_, fun i p a => ?_, r.ext, r.dom, r.fd, lkd', r.fz⟩, vis_drop⟩
  · by_cases ge : Γ[i]? = some true
    · have ik : i = k := (get_setF.mp g).resolve_right fun z => z ge
      subst ik
      obtain ⟨p, h1, h2, ds, vs, rfl, h3, h4, h5⟩ := r.own i d e ge
      refine ⟨.ref p, h2, .lst (.of ?_) (h4.mono vis_drop) (okLen_iff.mpr h5)⟩
      show hid _ _ _ = _
      rw [hid_out]
      · exact h3
      · rintro (h | ⟨j, h⟩)
        · exact (r.ne i p h1).1 h
        · by_cases e : j = i
          · simp [e] at h
          · simp [e] at h
            exact e (r.inj j i p h h1)
    · obtain ⟨v, h1, h2⟩ := r.sh i d e ge
      exact ⟨v, h1, h2.mono vis_drop⟩
  · obtain ⟨ik, ge⟩ := get_setF_t.mp g
    obtain ⟨p, h1, h2, ds, vs, rfl, h3, h4, h5⟩ := r.own i d e ge
    exact ⟨p, by simp [ik, h1], h2, ds, vs, rfl, h3, h4.mono vis_drop, h5⟩
  · by_cases e1 : i = k
    · simp [e1] at a
    · by_cases e2 : j = k
      · simp [e2] at b
      · simp [e1] at a; simp [e2] at b; exact r.inj i j p a b
  · by_cases e1 : i = k
    · simp [e1] at a
    · simp [e1] at a; exact r.ne i p a
def leG (Γ' Γ : List Bool) : Bool := Γ'.length == Γ.length && (Γ'.zip Γ).all fun p => !p.1 || p.2
theorem leG_get {Γ' Γ : List Bool} (h : leG Γ' Γ = true) : ∀ i : Nat, Γ'[i]? = some true → Γ[i]? = some true := by
  intro i hi
  simp [leG] at h
  obtain ⟨hl, ha⟩ := h
  obtain ⟨h1, e1⟩ := List.getElem?_eq_some_iff.mp hi
  have h2 : i < Γ.length := by omega
  have : (true, Γ[i]) ∈ Γ'.zip Γ := by
    refine List.mem_of_getElem? (i := i) ?_
    rw [List.getElem?_zip_eq_some]
    exact ⟨hi, List.getElem?_eq_getElem h2⟩
  rw [List.getElem?_eq_getElem h2]
  cases q : Γ[i] with
  | true => rfl
  | false => rw [q] at this; exact absurd this ha
/-- a lesser knowledge of who owns -/
theorem Rel.weak (r : Rel w Γ ρ ow σ H) (h : ∀ i : Nat, Γ'[i]? = some true → Γ[i]? = some true) (hl : ∀ i p, w.pa i = some p → Γ'[i]? = some true) : ∃ ow', Rel w Γ' ρ ow' σ H ∧ Same (vis w ow H) (vis w ow' H) := by
  have : Same (vis w ow H) (vis w (fun i => if Γ'[i]? = some true then ow i else none) H) := hid_mono fun a h => by
    rcases h with h | ⟨i, h⟩
    · exact .inl h
    · by_cases e : Γ'[i]? = some true
      · simp [e] at h; exact .inr ⟨i, h⟩
      · simp [e] at h
  refine ⟨fun i => if Γ'[i]? = some true then ow i else none, ⟨r.len, fun i d e g => ?_, fun i d e g => ?_, fun i j p a b => ?_, fun i p a => ?_, r.ext, r.dom, r.fd, fun i p e => by rw [if_pos (hl i p e)]; exact r.lkd i p e, r.fz⟩, this⟩
  · by_cases ge : Γ[i]? = some true
    · obtain ⟨p, h1, h2, ds, vs, rfl, h3, h4, h5⟩ := r.own i d e ge
      refine ⟨.ref p, h2, .lst (.of ?_) (h4.mono this) (okLen_iff.mpr h5)⟩
      show hid _ _ _ = _
      rw [hid_out]
      · exact h3
      · rintro (h | ⟨j, hj⟩)
        · exact (r.ne i p h1).1 h
        · by_cases ej : Γ'[j]? = some true
          · simp [ej] at hj
            have ji := r.inj j i p hj h1
            rw [ji] at ej
            exact g ej
          · simp [ej] at hj
    · obtain ⟨v, h1, h2⟩ := r.sh i d e ge
      exact ⟨v, h1, h2.mono this⟩
  · obtain ⟨p, h1, h2, ds, vs, rfl, h3, h4, h5⟩ := r.own i d e (h i g)
    exact ⟨p, by simp [g, h1], h2, ds, vs, rfl, h3, h4.mono this, h5⟩
  · by_cases e1 : Γ'[i]? = some true
    · by_cases e2 : Γ'[j]? = some true
      · simp [e1] at a; simp [e2] at b; exact r.inj i j p a b
      · simp [e2] at b
    · simp [e1] at a
  · by_cases e1 : Γ'[i]? = some true
    · simp [e1] at a; exact r.ne i p a
    · simp [e1] at a
/-- a name of what is laid open takes another value -/
theorem Rel.setSh {i : Nat} {d : D} {v : V} (r : Rel w Γ ρ ow σ H) (h : Rp w.K (vis w ow H) v d) (hi : i < ρ.length) (hk : w.pa i = none) :
    ∃ ow', Rel w (Γ.set i false) (ρ.set i (some d)) ow' (σ.set i (some v)) H ∧ Same (vis w ow H) (vis w ow' H) := by
  refine ⟨fun j => if j = i then none else ow j, ⟨by simp [r.len], fun j e q g => ?_, fun j e q g => ?_, fun j k p a b => ?_, fun j p a => ?_, r.ext, r.dom, r.fd, fun j p e => by
    have ji : j ≠ i := fun z => by rw [z, hk] at e; cases e
    rw [if_neg ji]; exact r.lkd j p e, r.fz⟩, vis_drop⟩
  · by_cases ji : j = i
    · subst ji
      rw [List.getElem?_set_self hi] at q
      cases q
      exact ⟨v, List.getElem?_set_self (by rw [r.len]; exact hi), h.mono vis_drop⟩
    · rw [List.getElem?_set_ne (Ne.symm ji)] at q
      obtain ⟨u, h1, h2⟩ := r.sh j e q ((get_setF.mp g).resolve_left ji)
      exact ⟨u, by rw [List.getElem?_set_ne (Ne.symm ji)]; exact h1, h2.mono vis_drop⟩
  · obtain ⟨ji, ge⟩ := get_setF_t.mp g
    rw [List.getElem?_set_ne (Ne.symm ji)] at q
    obtain ⟨p, h1, h2, ds, vs, rfl, h3, h4, h5⟩ := r.own j e q ge
    exact ⟨p, by simp [ji, h1], by rw [List.getElem?_set_ne (Ne.symm ji)]; exact h2, ds, vs, rfl, h3, h4.mono vis_drop, h5⟩
  · by_cases e1 : j = i
    · simp [e1] at a
    · by_cases e2 : k = i
      · simp [e2] at b
      · simp [e1] at a; simp [e2] at b; exact r.inj j k p a b
  · by_cases e1 : j = i
    · simp [e1] at a
    · simp [e1] at a; exact r.ne j p a
/-- a name takes a list that nobody else has -/
theorem Rel.setOwn {i : Nat} {ds : List D} {p : Addr} {vs : List V} (r : Rel (w.plus p) Γ ρ ow σ H) (hp : H p = some (.lst vs)) (hr : RpAll w.K (vis (w.plus p) ow H) vs ds) (hz : ds.length ≤ sizeLine) (hn : ¬ OF w ow p) (h0 : w.H0 p = none)
    (hi : i < ρ.length) (hg : i < Γ.length) (hk : w.pa i = none) : ∃ ow', Rel w (Γ.set i true) (ρ.set i (some (.list ds))) ow' (σ.set i (some (.ref p))) H ∧ Same (vis (w.plus p) ow H) (vis w ow' H) := by
  have le1 : Same (vis (w.plus p) ow H) (vis w (fun j => if j = i then some p else ow j) H) := hid_mono fun a h => by
    rcases h with h | ⟨j, h⟩
    · exact .inl (.inl h)
    · by_cases e : j = i
      · simp [e] at h; exact .inl (.inr h.symm)
      · simp [e] at h; exact .inr ⟨j, h⟩
  have gt : ∀ j : Nat, (Γ.set i true)[j]? ≠ some true → j ≠ i ∧ Γ[j]? ≠ some true := fun j h => by
    by_cases e : j = i
    · subst e; rw [List.getElem?_set_self hg] at h; exact absurd rfl h
    · rw [List.getElem?_set_ne (Ne.symm e)] at h; exact ⟨e, h⟩
  have gt' : ∀ j : Nat, j ≠ i → (Γ.set i true)[j]? = some true → Γ[j]? = some true := fun j e h => by
    rw [List.getElem?_set_ne (Ne.symm e)] at h; exact h
  refine ⟨_, ⟨by simp [r.len], fun j e q g => ?_, fun j e q g => ?_, fun j k a h1 h2 => ?_, fun j a h1 => ?_, r.ext, r.dom, fun a h => r.fd a (.inl h), fun j a e => by
    have ji : j ≠ i := fun z => by rw [z, hk] at e; cases e
    show (if j = i then some p else ow j) = some a
    rw [if_neg ji]; exact r.lkd j a e, r.fz⟩, le1⟩
  · obtain ⟨ji, gj⟩ := gt j g
    rw [List.getElem?_set_ne (Ne.symm ji)] at q
    obtain ⟨u, h1, h2⟩ := r.sh j e q gj
    exact ⟨u, by rw [List.getElem?_set_ne (Ne.symm ji)]; exact h1, h2.mono le1⟩
  · by_cases ji : j = i
    · subst ji
      rw [List.getElem?_set_self hi] at q
      cases q
      exact ⟨p, by simp, List.getElem?_set_self (by rw [r.len]; exact hi), ds, vs, rfl, hp, hr.mono le1, hz⟩
    · rw [List.getElem?_set_ne (Ne.symm ji)] at q
      obtain ⟨a, h1, h2, es, us, rfl, h3, h4, h5⟩ := r.own j e q (gt' j ji g)
      exact ⟨a, by simp [ji, h1], by rw [List.getElem?_set_ne (Ne.symm ji)]; exact h2, es, us, rfl, h3, h4.mono le1, h5⟩
  · by_cases e1 : j = i
    · by_cases e2 : k = i
      · rw [e1, e2]
      · simp [e1] at h1; simp [e2] at h2
        subst h1
        exact absurd (.inr ⟨k, h2⟩) hn
    · by_cases e2 : k = i
      · simp [e1] at h1; simp [e2] at h2
        subst h2
        exact absurd (.inr ⟨j, h1⟩) hn
      · simp [e1] at h1; simp [e2] at h2; exact r.inj j k a h1 h2
  · by_cases e1 : j = i
    · simp [e1] at h1
      subst h1
      exact ⟨fun z => hn (.inl z), .inr h0, by rw [hp]; simp⟩
    · simp [e1] at h1
      obtain ⟨x1, x2, x3⟩ := r.ne j a h1
      exact ⟨fun z => x1 (.inl z), x2, x3⟩
/-- one address less that is barred -/
theorem Rel.unplus {p : Addr} (r : Rel (w.plus p) Γ ρ ow σ H) : Rel w Γ ρ ow σ H ∧ Same (vis (w.plus p) ow H) (vis w ow H) := by
  have le1 : Same (vis (w.plus p) ow H) (vis w ow H) := hid_mono fun a h => h.elim (fun z => .inl (.inl z)) .inr
  refine ⟨⟨r.len, fun j e q g => ?_, fun j e q g => ?_, r.inj, fun j a h1 => ?_, r.ext, r.dom, fun a h => r.fd a (.inl h), r.lkd, r.fz⟩, le1⟩
  · obtain ⟨u, h1, h2⟩ := r.sh j e q g
    exact ⟨u, h1, h2.mono le1⟩
  · obtain ⟨a, h1, h2, es, us, rfl, h3, h4, h5⟩ := r.own j e q g
    exact ⟨a, h1, h2, es, us, rfl, h3, h4.mono le1, h5⟩
  · obtain ⟨x1, x2, x3⟩ := r.ne j a h1
    exact ⟨fun z => x1 (.inl z), x2, x3⟩
/-- a new object that stays barred -/
theorem Rel.allocP {p : Addr} {o : HO} (wk : WdOk w) (r : Rel w Γ ρ ow σ H) (hp : H p = none) : Rel (w.plus p) Γ ρ ow σ (upd H p o) ∧ ¬ OF w ow p ∧ w.H0 p = none ∧ Same (vis w ow H) (vis (w.plus p) ow (upd H p o)) := by
  obtain ⟨r2, nf, n0, np, lv⟩ := r.alloc (o := o) wk hp
  have le1 : Same (vis w ow H) (vis (w.plus p) ow (upd H p o)) := fun a u e => by
    have ap : a ≠ p := fun z => by
      obtain ⟨_, e2⟩ := hid_some e
      rw [z, hp] at e2; cases e2
    obtain ⟨n, e2⟩ := hid_some (lv a u e)
    show hid _ _ _ = _
    rw [hid_out]
    · exact e2
    · rintro ((z | z) | z)
      · exact n (.inl z)
      · exact ap z
      · exact n (.inr z)
  refine ⟨⟨r.len, fun j e q g => ?_, fun j e q g => ?_, r.inj, fun j a h1 => ?_, r2.ext, r2.dom, fun a h => ?_, r.lkd, r2.fz⟩, nf, n0, le1⟩
  · obtain ⟨u, h1, h2⟩ := r.sh j e q g
    exact ⟨u, h1, h2.mono le1⟩
  · obtain ⟨a, h1, h2, es, us, rfl, h3, h4, h5⟩ := r.own j e q g
    refine ⟨a, h1, h2, es, us, rfl, ?_, h4.mono le1, h5⟩
    rw [upd_ne (ne_of_none h3 hp)]; exact h3
  · obtain ⟨x1, x2, x3⟩ := r2.ne j a h1
    refine ⟨fun z => ?_, x2, x3⟩
    rcases z with z | z
    · exact x1 z
    · exact nf (.inr ⟨j, z ▸ h1⟩)
  · rcases h with h | h
    · exact r2.fd a h
    · rw [h, upd_same]; simp
/-- the list that a name owns is changed -/
theorem Rel.mutate {i : Nat} {ds : List D} {p : Addr} {vs : List V} (wk : WdOk w) (r : Rel w Γ ρ ow σ H) (hg : Γ[i]? = some true) (ho : ow i = some p) (hr : RpAll w.K (vis w ow H) vs ds) (hz : ds.length ≤ sizeLine) (hi : σ[i]? = some (some (.ref p))) :
    Rel w Γ (ρ.set i (some (.list ds))) ow σ (upd H p (.lst vs)) ∧ Same (vis w ow H) (vis w ow (upd H p (.lst vs))) := by
  have lv : Same (vis w ow H) (vis w ow (upd H p (.lst vs))) := fun a u e => by
    obtain ⟨n, e2⟩ := hid_some e
    show hid _ _ _ = _
    rw [hid_out n, upd_ne fun (z : a = p) => n (.inr ⟨i, z ▸ ho⟩)]
    exact e2
  have keep : ∀ {a : Addr}, H a ≠ none → upd H p (.lst vs) a ≠ none := fun {a} n => by
    by_cases e : a = p
    · rw [e, upd_same]; simp
    · rw [upd_ne e]; exact n
  refine ⟨⟨by simp [r.len], fun j e q g => ?_, fun j e q g => ?_, r.inj, fun j a h1 => ?_, fun a u n e => ?_, fun a n => keep (r.dom a n), fun a n => keep (r.fd a n), r.lkd, fun a u z => ?_⟩, lv⟩
  · have ji : j ≠ i := fun z => g (z ▸ hg)
    rw [List.getElem?_set_ne (Ne.symm ji)] at q
    obtain ⟨u, h1, h2⟩ := r.sh j e q g
    exact ⟨u, h1, h2.mono lv⟩
  · by_cases ji : j = i
    · subst ji
      have hl : j < ρ.length := by
        rw [← r.len]
        exact (List.getElem?_eq_some_iff.mp hi).1
      rw [List.getElem?_set_self hl] at q
      cases q
      exact ⟨p, ho, hi, ds, vs, rfl, upd_same, hr.mono lv, hz⟩
    · rw [List.getElem?_set_ne (Ne.symm ji)] at q
      obtain ⟨a, h1, h2, es, us, rfl, h3, h4, h5⟩ := r.own j e q g
      refine ⟨a, h1, h2, es, us, rfl, ?_, h4.mono lv, h5⟩
      rw [upd_ne fun (z : a = p) => ji (r.inj j i a h1 (z ▸ ho))]; exact h3
  · obtain ⟨x1, x2, x3⟩ := r.ne j a h1
    exact ⟨x1, x2, keep x3⟩
  · rw [upd_ne fun z => ?_]
    · exact r.ext a u n e
    · subst z
      rcases (r.ne i a ho).2.1 with h | h
      · exact n h
      · rw [h] at e; cases e
  · rw [upd_ne fun (x : a = p) => (r.ne i p ho).1 (x ▸ wk.zf a u z)]
    exact r.fz a u z
/-- names are forgotten -/
theorem Rel.kill (r : Rel w Γ ρ ow σ H) : ∀ is : List Nat, Rel w Γ (wipeR ρ is) ow σ H
  | [] => r
  | i :: is => by
    have r := r.kill is
    have hget : ∀ {j : Nat} {e : D}, ((wipeR ρ is).set i none)[j]? = some (some e) → (wipeR ρ is)[j]? = some (some e) := fun {j e} q => by
      by_cases ji : j = i
      · subst ji
        by_cases hl : j < (wipeR ρ is).length
        · rw [List.getElem?_set_self hl] at q; cases q
        · rw [List.getElem?_eq_none (by simpa using hl)] at q; cases q
      · rw [List.getElem?_set_ne (Ne.symm ji)] at q; exact q
    exact ⟨by show _ = ((wipeR ρ is).set i none).length; simp [r.len], fun j e q g => r.sh j e (hget q) g, fun j e q g => r.own j e (hget q) g, r.inj, r.ne, r.ext, r.dom, r.fd, r.lkd, r.fz⟩
theorem WdOk.plus (wk : WdOk w) {p : Addr} : WdOk (w.plus p) := ⟨wk.ph, wk.lkp, fun a o z => .inl (wk.zf a o z)⟩
theorem WdOk.pin (wk : WdOk w) {p : Addr} {o : HO} : WdOk (w.pin p o) := ⟨wk.ph, wk.lkp, fun a u z => z.elim (fun z => .inl (wk.zf a u z)) fun z => .inr z.1⟩
theorem Rel.topin {p : Addr} {o : HO} (r : Rel (w.plus p) Γ ρ ow σ H) (h : H p = some o) : Rel (w.pin p o) Γ ρ ow σ H :=
  ⟨r.len, r.sh, r.own, r.inj, r.ne, r.ext, r.dom, r.fd, r.lkd, fun a u z => z.elim (r.fz a u) fun z => by rw [z.1, z.2]; exact h⟩
theorem Rel.unpin {p : Addr} {o : HO} (r : Rel (w.pin p o) Γ ρ ow σ H) : Rel (w.plus p) Γ ρ ow σ H ∧ H p = some o :=
  ⟨⟨r.len, r.sh, r.own, r.inj, r.ne, r.ext, r.dom, r.fd, r.lkd, fun a u z => r.fz a u (.inl z)⟩, r.fz p o (.inr ⟨rfl, rfl⟩)⟩
/-- an object that the names have nothing to do with is changed -/
theorem Rel.updF {p : Addr} {o : HO} (wk : WdOk w) (r : Rel (w.plus p) Γ ρ ow σ H) (hn : ¬ w.F p) (h0 : w.H0 p = none) : Rel (w.plus p) Γ ρ ow σ (upd H p o) ∧ Same (vis (w.plus p) ow H) (vis (w.plus p) ow (upd H p o)) := by
  have lv : Same (vis (w.plus p) ow H) (vis (w.plus p) ow (upd H p o)) := fun a u e => by
    obtain ⟨n, e2⟩ := hid_some e
    show hid _ _ _ = _
    rw [hid_out n, upd_ne fun (z : a = p) => n (.inl (.inr z))]
    exact e2
  have keep : ∀ {a : Addr}, H a ≠ none → upd H p o a ≠ none := fun {a} n => by
    by_cases e : a = p
    · rw [e, upd_same]; simp
    · rw [upd_ne e]; exact n
  refine ⟨⟨r.len, fun j e q g => ?_, fun j e q g => ?_, r.inj, fun j a h1 => ?_, fun a u n e => ?_, fun a n => keep (r.dom a n), fun a n => keep (r.fd a n), r.lkd, fun a u z => ?_⟩, lv⟩
  · obtain ⟨u, h1, h2⟩ := r.sh j e q g
    exact ⟨u, h1, h2.mono lv⟩
  · obtain ⟨a, h1, h2, es, us, rfl, h3, h4, h5⟩ := r.own j e q g
    refine ⟨a, h1, h2, es, us, rfl, ?_, h4.mono lv, h5⟩
    rw [upd_ne fun (z : a = p) => (r.ne j a h1).1 (.inr z)]; exact h3
  · obtain ⟨x1, x2, x3⟩ := r.ne j a h1
    exact ⟨x1, x2, keep x3⟩
  · rw [upd_ne fun z => ?_]
    · exact r.ext a u n e
    · subst z
      have e : w.H0 a = some u := e
      rw [h0] at e; cases e
  · rw [upd_ne fun (x : a = p) => hn (x ▸ wk.zf a u z)]
    exact r.fz a u z
theorem wipe_get {σ : St} {i : Nat} : ∀ {vs : List Nat}, (wipe σ vs)[i]? = if i ∈ vs then (if i < σ.length then some none else none) else σ[i]?
  | [] => by simp [wipe]
  | v :: vs => by
    unfold wipe
    by_cases h : v = i
    · subst h
      by_cases hl : v < σ.length
      · rw [List.getElem?_set_self (by rw [wipe_length]; exact hl)]; simp [hl]
      · rw [List.getElem?_eq_none (by rw [List.length_set, wipe_length]; omega)]; simp [hl]
    · rw [List.getElem?_set_ne h, wipe_get (vs := vs)]
      simp [Ne.symm h]
/-- the names of a block are forgotten, on both sides -/
theorem wipeR_get {ρ : Rho} {i : Nat} : ∀ {vs : List Nat}, (wipeR ρ vs)[i]? = if i ∈ vs then (if i < ρ.length then some none else none) else ρ[i]?
  | [] => by simp [wipeR]
  | v :: vs => by
    have hlen : ∀ (vs : List Nat), (wipeR ρ vs).length = ρ.length := fun vs => by
      induction vs with
      | nil => rfl
      | cons v vs ih => unfold wipeR; rw [List.length_set, ih]
    unfold wipeR
    by_cases h : v = i
    · subst h
      by_cases hl : v < ρ.length
      · rw [List.getElem?_set_self (by rw [hlen]; exact hl)]; simp [hl]
      · rw [List.getElem?_eq_none (by rw [List.length_set, hlen]; omega)]; simp [hl]
    · rw [List.getElem?_set_ne h, wipeR_get (vs := vs)]
      simp [Ne.symm h]
theorem wipeR_length {ρ : Rho} : ∀ (vs : List Nat), (wipeR ρ vs).length = ρ.length
  | [] => rfl
  | v :: vs => by unfold wipeR; rw [List.length_set, wipeR_length]
theorem Rel.wipe (r : Rel w Γ ρ ow σ H) (vs : List Nat) : Rel w Γ (wipeR ρ vs) ow (wipe σ vs) H := by
  have hget : ∀ {j : Nat} {e : D}, (wipeR ρ vs)[j]? = some (some e) → j ∉ vs ∧ ρ[j]? = some (some e) := fun {j e} q => by
    rw [wipeR_get] at q
    split at q
    · split at q <;> cases q
    · exact ⟨by assumption, q⟩
  refine ⟨by rw [wipe_length, wipeR_length, r.len], fun j e q g => ?_, fun j e q g => ?_, r.inj, r.ne, r.ext, r.dom, r.fd, r.lkd, r.fz⟩
  · obtain ⟨nv, q⟩ := hget q
    obtain ⟨v, h1, h2⟩ := r.sh j e q g
    exact ⟨v, by rw [wipe_get, if_neg nv]; exact h1, h2⟩
  · obtain ⟨nv, q⟩ := hget q
    obtain ⟨p, h1, h2, h3⟩ := r.own j e q g
    exact ⟨p, h1, by rw [wipe_get, if_neg nv]; exact h2, h3⟩
end
end VF

end
section
set_option Elab.async false
set_option linter.all false
set_option autoImplicit false
set_option maxRecDepth 100000
set_option maxHeartbeats 1000000
/-! VC: the rules of operators, tests, subscripts, calls and methods, said of the data that the values stand for. -/
namespace VF
open PySem PySem.Spec L2

/-- what is wanted of a result: a value that stands for it, or a new list or tuple of its items -/
structure Fin (K : PySem.W.Frag) (B H : Hp) (d : D) (Q : VK) : Prop where
  val : ∀ v, Rp K B v d → Q v H
  lst : ∀ ds p vs, d = .list ds → H p = none → RpAll K B vs ds → ds.length ≤ sizeLine → Q (.ref p) (upd H p (.lst vs))
  tup : ∀ ds p vs, d = .tuple ds → H p = none → RpAll K B vs ds → ds.length ≤ sizeLine → Q (.ref p) (upd H p (.tup vs))
/-- the same of a result that is a new list -/
def FinO (K : PySem.W.Frag) (B H : Hp) (d : D) (Q : VK) : Prop := ∃ ds, d = .list ds ∧ ∀ p vs, H p = none → RpAll K B vs ds → ds.length ≤ sizeLine → Q (.ref p) (upd H p (.lst vs))
def rD2 (K : PySem.W.Frag) (g : D → D → Option D) : R2 := fun x y H Q => ∃ B a b d, Same B H ∧ RpT K H B x a ∧ RpT K H B y b ∧ g a b = some d ∧ Fin K B H d Q
def rD2O (K : PySem.W.Frag) (g : D → D → Option D) : R2 := fun x y H Q => ∃ B a b d, Same B H ∧ RpT K H B x a ∧ RpT K H B y b ∧ g a b = some d ∧ FinO K B H d Q
inductive RpTs (K : PySem.W.Frag) (H B : Hp) : List V → List D → Prop
  | nil : RpTs K H B [] []
  | cons {v : V} {d : D} {vs : List V} {ds : List D} : RpT K H B v d → RpTs K H B vs ds → RpTs K H B (v :: vs) (d :: ds)
def rDC (K : PySem.W.Frag) (g : List D → Option D) : List V → Hp → VK → Prop := fun xs H Q => ∃ B as d, Same B H ∧ RpTs K H B xs as ∧ g as = some d ∧ Fin K B H d Q
def rDCO (K : PySem.W.Frag) (g : List D → Option D) : List V → Hp → VK → Prop := fun xs H Q => ∃ B as d, Same B H ∧ RpTs K H B xs as ∧ g as = some d ∧ FinO K B H d Q
def rDM (K : PySem.W.Frag) (g : D → List D → Option D) : V → List V → Hp → VK → Prop := fun x xs H Q => ∃ B a as d, Same B H ∧ RpT K H B x a ∧ RpTs K H B xs as ∧ g a as = some d ∧ Fin K B H d Q
def rDS (K : PySem.W.Frag) : V → Option Int → Option Int → Hp → VK → Prop := fun x lo hi H Q => ∃ B a d, Same B H ∧ RpT K H B x a ∧ slD a lo hi = some d ∧ Fin K B H d Q
/-- what must hold of where the code runs -/
structure Roomy (X : Cx) : Prop where
  un : X.A.units + 100 < cLine
  gd : X.A.guards = some []
section
variable {X : Cx} {K : PySem.W.Frag} {H B : Hp} {v : V} {d : D} {Q : VK}
theorem RpT.sz (h : RpT K H B v d) : szD d = true := by
  rcases h with h | ⟨p, ds, vs, rfl, rfl, hp, r, z⟩
  · exact h.sz
  · simp [szD, r.sz, okLen_iff.mpr z]
theorem RpT.tupR {ds : List D} (h : RpT K H B v (.tuple ds)) : Rp K B v (.tuple ds) := by
  rcases h with h | ⟨p, es, vs, rfl, q, hp, r, z⟩
  · exact h
  · cases q
theorem okLen_le {n m : Nat} (h : okLen n = true) (e : m ≤ n) : okLen m = true := okLen_iff.mpr (Nat.le_trans e (okLen_iff.mp h))

/-! ### + of lists, whoever holds them -/
theorem cat_lists {pins : List (Addr × Obj)} {s : Shared} {σ : St} {l b : Addr} {xs ys : List V} {E : Value → Shared → Prop} (I : Inv X pins σ H s) (hl : SqL X.K H l xs) (hb : SqL X.K H b ys) (hz : xs.length + ys.length ≤ sizeLine)
    (h : ∀ p, H p = none → Q (.ref p) (upd H p (.lst (xs ++ ys)))) : wpAny (model X.prog X.w) X.A (binaryOp .Add (.ref l) (.ref b)) (EP X pins σ Q) E s := by
  obtain ⟨us, ru, ⟨⟨c1, d1, t1, l1⟩, n1, o1, rfl, rfl, rfl⟩, _⟩ := I.list hl
  obtain ⟨ws, rw_, ⟨⟨c2, d2, t2, l2⟩, n2, o2, rfl, rfl, rfl⟩, _⟩ := I.list hb
  have e1 := ru.length
  have e2 := rw_.length
  refine PySem.concat_meets ⟨_, o1, rfl⟩ ⟨_, o2, rfl⟩ noFill_list_add seq_list_add PySem.F.slot_list_add PySem.F.entry_list_add (PySem.F.args_list_add_2 _ _)
    (PyProof.Rows.list_addW l b us.toArray ws.toArray n1 n2 none none l1 l2 (by simp; omega)) ⟨o1, o2, ?_⟩
  have ea : us.toArray ++ ws.toArray = (us ++ ws).toArray := by simp
  rw [ea]
  exact ⟨.ref _, _, I.lnew (t' := s.toks) (ru.append rw_) (by rw [List.length_append]; omega), rfl, h _ I.fresh⟩
theorem od_cat : OpR X (binaryOp .Add) (rD2O X.K (opD .cat)) := by
  intro pins s σ H x y v u Q I rx ry ⟨B, a, b, d, le, ha, hb, e, f⟩
  cases a <;> cases b <;> simp [opD] at e
  obtain ⟨hz, rfl⟩ := e
  obtain ⟨ds, e, f⟩ := f
  cases e
  obtain ⟨l, xs, rfl, sl, r1, z1⟩ := ha.unlst le
  obtain ⟨m, ys, rfl, sm, r2, z2⟩ := hb.unlst le
  cases rx; cases ry
  have h1 := r1.len
  have h2 := r2.len
  have hz' := okLen_iff.mp hz
  exact cat_lists I sl sm (by omega) fun p hp => f p _ hp (r1.append r2) (by rw [List.length_append]; omega)
theorem od_add : OpR X (binaryOp .Add) (rD2 X.K (opD .add)) := by
  intro pins s σ H x y v u Q I rx ry ⟨B, a, b, d, le, ha, hb, e, f⟩
  cases a <;> cases b <;> simp [opD] at e
  · rename_i i j
    subst e
    exact op_add pins s σ H x y v u Q I rx ry ⟨i, j, ha.unint, hb.unint, f.val _ .int⟩
  · rename_i i j
    obtain ⟨hz, rfl⟩ := e
    exact op_add_str pins s σ H x y v u Q I rx ry ⟨i, j, ha.unstr.1, hb.unstr.1, okLen_iff.mp hz, f.val _ (.str (okLen_le hz (Nat.le_of_eq (PySem.Str.length_append _ _))))⟩
  · obtain ⟨hz, rfl⟩ := e
    obtain ⟨l, xs, rfl, sl, r1, z1⟩ := ha.unlst le
    obtain ⟨m, ys, rfl, sm, r2, z2⟩ := hb.unlst le
    cases rx; cases ry
    have h1 := r1.len
    have h2 := r2.len
    have hz' := okLen_iff.mp hz
    exact cat_lists I sl sm (by omega) fun p hp => f.lst _ p _ rfl hp (r1.append r2) (by rw [List.length_append]; omega)
  · obtain ⟨hz, rfl⟩ := e
    obtain ⟨l, xs, rfl, sl, r1, z1⟩ := ha.untup le
    obtain ⟨m, ys, rfl, sm, r2, z2⟩ := hb.untup le
    have h1 := r1.len
    have h2 := r2.len
    have hz' := okLen_iff.mp hz
    refine op_catA pins s σ H _ _ v u Q I rx ry ⟨l, m, xs, ys, rfl, rfl, sl, sm, by omega, fun e => ?_, fun _ e => ?_, fun _ _ p hp => ?_⟩
    · have e0 : xs.length = 0 := by rw [e]; rfl
      rename_i as bs
      have : as = [] := List.length_eq_zero_iff.mp (by omega)
      subst this
      exact f.val _ hb.tupR
    · have e0 : ys.length = 0 := by rw [e]; rfl
      rename_i as bs _
      have : bs = [] := List.length_eq_zero_iff.mp (by omega)
      subst this
      rw [List.append_nil] at f
      exact f.val _ ha.tupR
    · exact f.tup _ p _ rfl hp (r1.append r2) (by rw [List.length_append]; omega)

theorem od_sub : OpR X (binaryOp .Sub) (rD2 X.K (opD .sub)) := by
  intro pins s σ H x y v u Q I rx ry ⟨B, a, b, d, le, ha, hb, e, f⟩
  cases a <;> cases b <;> simp [opD] at e
  rename_i i j
  subst e
  exact op_sub pins s σ H x y v u Q I rx ry ⟨i, j, ha.unint, hb.unint, f.val _ .int⟩
theorem od_fdiv : OpR X (binaryOp .FloorDiv) (rD2 X.K (opD .fdiv)) := by
  intro pins s σ H x y v u Q I rx ry ⟨B, a, b, d, le, ha, hb, e, f⟩
  cases a <;> cases b <;> simp [opD] at e
  rename_i i j
  obtain ⟨⟨h1, h2⟩, rfl⟩ := e
  exact op_fdivW pins s σ H x y v u Q I rx ry ⟨i, j, ha.unint, hb.unint, ⟨h1, h2⟩, f.val _ .int⟩
theorem od_mod : OpR X (binaryOp .Mod) (rD2 X.K (opD .mod)) := by
  intro pins s σ H x y v u Q I rx ry ⟨B, a, b, d, le, ha, hb, e, f⟩
  cases a <;> cases b <;> simp [opD] at e
  rename_i i j
  obtain ⟨h1, rfl⟩ := e
  exact op_mod pins s σ H x y v u Q I rx ry ⟨i, j, ha.unint, hb.unint, h1, f.val _ .int⟩
theorem od_pow : OpR X (binaryOp .Pow) (rD2 X.K (opD .pow)) := by
  intro pins s σ H x y v u Q I rx ry ⟨B, a, b, d, le, ha, hb, e, f⟩
  cases a <;> cases b <;> simp [opD] at e
  rename_i i j
  obtain ⟨⟨h1, h2, h3⟩, rfl⟩ := e
  exact op_pow pins s σ H x y v u Q I rx ry ⟨i, j, ha.unint, hb.unint, ⟨h1, h2, h3⟩, f.val _ .int⟩
theorem od_mul : OpR X (binaryOp .Mult) (rD2 X.K (opD .mul)) := by
  intro pins s σ H x y v u Q I rx ry ⟨B, a, b, d, le, ha, hb, e, f⟩
  cases a <;> cases b <;> simp [opD] at e
  rename_i i j
  obtain ⟨h1, rfl⟩ := e
  exact op_mulX pins s σ H x y v u Q I rx ry ⟨i, j, ha.unint, hb.unint, by unfold CMulX; omega, f.val _ .int⟩

/-! ### comparisons -/
theorem od_eq (R : Roomy X) : OpR X (compareOp .Eq) (rD2 X.K (fun a b => (cmD .eq a b).map .bool)) := by
  intro pins s σ H x y v u Q I rx ry ⟨B, a, b, d, le, ha, hb, e, f⟩
  simp [cmD] at e
  obtain ⟨⟨h1, h2⟩, rfl⟩ := e
  exact op_eqD (by have := R.un; omega) pins s σ H x y v u Q I rx ry ⟨a, b, ha.dp le, hb.dp le, h1, h2, f.val _ .bl⟩
theorem od_ne (R : Roomy X) : OpR X (compareOp .NotEq) (rD2 X.K (fun a b => (cmD .ne a b).map .bool)) := by
  intro pins s σ H x y v u Q I rx ry ⟨B, a, b, d, le, ha, hb, e, f⟩
  simp [cmD] at e
  obtain ⟨⟨h1, h2⟩, rfl⟩ := e
  exact op_neD (by have := R.un; omega) pins s σ H x y v u Q I rx ry ⟨a, b, ha.dp le, hb.dp le, h1, h2, f.val _ .bl⟩
theorem tupOk_is {a b : List D} (h : tupOk a b = true) : PySem.W.alike (.tuple a) (.tuple b) = true ∧ SeqAt.shaped (.tuple a) = true ∧ SeqAt.shaped (.tuple b) = true := by
  unfold tupOk at h
  simp only [Bool.and_eq_true] at h
  exact ⟨h.1.1, h.1.2, h.2⟩
theorem roomD (R : Roomy X) {a b : D} (h : SeqAt.shaped a = true) : X.A.units + min a.depth b.depth < cLine := by
  have h1 := SeqAt.depth_of_shaped h
  have h2 : min a.depth b.depth ≤ a.depth := Nat.min_le_left _ _
  have := R.un
  omega
theorem od_lt (R : Roomy X) : OpR X (compareOp .Lt) (rD2 X.K (fun a b => (cmD .lt a b).map .bool)) := by
  intro pins s σ H x y v u Q I rx ry ⟨B, a, b, d, le, ha, hb, e, f⟩
  cases a <;> cases b <;> simp [cmD] at e
  · subst e
    exact op_lt pins s σ H x y v u Q I rx ry ⟨_, _, ha.unint, hb.unint, f.val _ .bl⟩
  · subst e
    exact op_lt_str pins s σ H x y v u Q I rx ry ⟨_, _, ha.unstr.1, hb.unstr.1, f.val _ .bl⟩
  · obtain ⟨h1, rfl⟩ := e
    obtain ⟨as, rd1⟩ := Dp.reads I _ x v (ha.dp le) rx
    obtain ⟨bs, rd2⟩ := Dp.reads I _ y u (hb.dp le) ry
    obtain ⟨h2, h3, h4⟩ := tupOk_is h1
    exact PySem.W.lt_data rd1 rd2 h2 (by intro z; cases z) (roomD R h3) ⟨.bl _, H, I, rfl, f.val _ .bl⟩
theorem od_le (R : Roomy X) : OpR X (compareOp .LtE) (rD2 X.K (fun a b => (cmD .le a b).map .bool)) := by
  intro pins s σ H x y v u Q I rx ry ⟨B, a, b, d, le, ha, hb, e, f⟩
  cases a <;> cases b <;> simp [cmD] at e
  · subst e
    exact op_le pins s σ H x y v u Q I rx ry ⟨_, _, ha.unint, hb.unint, f.val _ .bl⟩
  · subst e
    exact op_le_str pins s σ H x y v u Q I rx ry ⟨_, _, ha.unstr.1, hb.unstr.1, f.val _ .bl⟩
  · obtain ⟨h1, rfl⟩ := e
    obtain ⟨as, rd1⟩ := Dp.reads I _ x v (ha.dp le) rx
    obtain ⟨bs, rd2⟩ := Dp.reads I _ y u (hb.dp le) ry
    obtain ⟨h2, h3, h4⟩ := tupOk_is h1
    exact PySem.W.le_data rd1 rd2 h2 (by intro z; cases z) (roomD R h3) ⟨.bl _, H, I, rfl, f.val _ .bl⟩
theorem od_gt (R : Roomy X) : OpR X (compareOp .Gt) (rD2 X.K (fun a b => (cmD .gt a b).map .bool)) := by
  intro pins s σ H x y v u Q I rx ry ⟨B, a, b, d, le, ha, hb, e, f⟩
  cases a <;> cases b <;> simp [cmD] at e
  · subst e
    exact op_gt pins s σ H x y v u Q I rx ry ⟨_, _, ha.unint, hb.unint, f.val _ .bl⟩
  · subst e
    exact op_gt_str pins s σ H x y v u Q I rx ry ⟨_, _, ha.unstr.1, hb.unstr.1, f.val _ .bl⟩
  · obtain ⟨h1, rfl⟩ := e
    obtain ⟨as, rd1⟩ := Dp.reads I _ x v (ha.dp le) rx
    obtain ⟨bs, rd2⟩ := Dp.reads I _ y u (hb.dp le) ry
    obtain ⟨h2, h3, h4⟩ := tupOk_is h1
    exact PySem.W.gt_data rd1 rd2 h2 (by intro z; cases z) (roomD R h3) ⟨.bl _, H, I, rfl, f.val _ .bl⟩
theorem od_ge (R : Roomy X) : OpR X (compareOp .GtE) (rD2 X.K (fun a b => (cmD .ge a b).map .bool)) := by
  intro pins s σ H x y v u Q I rx ry ⟨B, a, b, d, le, ha, hb, e, f⟩
  cases a <;> cases b <;> simp [cmD] at e
  · subst e
    exact op_ge pins s σ H x y v u Q I rx ry ⟨_, _, ha.unint, hb.unint, f.val _ .bl⟩
  · subst e
    exact op_ge_str pins s σ H x y v u Q I rx ry ⟨_, _, ha.unstr.1, hb.unstr.1, f.val _ .bl⟩
  · obtain ⟨h1, rfl⟩ := e
    obtain ⟨as, rd1⟩ := Dp.reads I _ x v (ha.dp le) rx
    obtain ⟨bs, rd2⟩ := Dp.reads I _ y u (hb.dp le) ry
    obtain ⟨h2, h3, h4⟩ := tupOk_is h1
    exact PySem.W.ge_data rd1 rd2 h2 (by intro z; cases z) (roomD R h3) ⟨.bl _, H, I, rfl, f.val _ .bl⟩
theorem inRoom {d : D} {ds : List D} (h : SeqAt.shaped d = true) (hu : X.A.units + 100 < cLine) : X.A.units + 1 + min (PyData.depthAll ds) d.depth < cLine := by
  have h1 := SeqAt.depth_of_shaped h
  have h2 : min (PyData.depthAll ds) d.depth ≤ d.depth := Nat.min_le_right _ _
  omega
theorem od_in (R : Roomy X) : OpR X (compareOp .In) (rD2 X.K (fun a b => (cmD .isin a b).map .bool)) := by
  intro pins s σ H x y v u Q I rx ry ⟨B, a, b, d, le, ha, hb, e, f⟩
  cases b with
  | str z =>
    cases a <;> simp [cmD] at e
    subst e
    exact op_in_str pins s σ H x y v u Q I rx ry ⟨_, _, ha.unstr.1, hb.unstr.1, f.val _ (by simpa using .bl)⟩
  | list ds =>
    have e' : (cmD .isin a (.list ds)) = if SeqAt.shaped a && SeqAt.shaped (.list ds) then some (ds.any fun z => PyData.eqv z a) else none := by cases a <;> rfl
    simp only [e', Option.map_eq_some_iff] at e
    obtain ⟨c, e, rfl⟩ := e
    split at e
    · rename_i hs
      simp only [Bool.and_eq_true] at hs
      cases e
      obtain ⟨_, r1⟩ := Dp.reads I a x v (ha.dp le) rx
      obtain ⟨_, r2⟩ := Dp.reads I (.list ds) y u (hb.dp le) ry
      exact SeqAt.in_list_reads r2 r1 (SeqAt.canLay_of_shaped hs.2) (SeqAt.canLay_of_shaped hs.1) (inRoom hs.1 R.un) ⟨.bl _, H, I, rfl, f.val _ .bl⟩
    · cases e
  | tuple ds =>
    have e' : (cmD .isin a (.tuple ds)) = if SeqAt.shaped a && SeqAt.shaped (.tuple ds) then some (ds.any fun z => PyData.eqv z a) else none := by cases a <;> rfl
    simp only [e', Option.map_eq_some_iff] at e
    obtain ⟨c, e, rfl⟩ := e
    split at e
    · rename_i hs
      simp only [Bool.and_eq_true] at hs
      cases e
      obtain ⟨_, r1⟩ := Dp.reads I a x v (ha.dp le) rx
      obtain ⟨_, r2⟩ := Dp.reads I (.tuple ds) y u (hb.dp le) ry
      exact SeqAt.in_tuple_reads r2 r1 (SeqAt.canLay_of_shaped hs.2) (SeqAt.canLay_of_shaped hs.1) (inRoom hs.1 R.un) ⟨.bl _, H, I, rfl, f.val _ .bl⟩
    · cases e
  | _ => cases a <;> simp [cmD] at e
theorem od_nin (R : Roomy X) : OpR X (compareOp .NotIn) (rD2 X.K (fun a b => (cmD .nin a b).map .bool)) := by
  intro pins s σ H x y v u Q I rx ry ⟨B, a, b, d, le, ha, hb, e, f⟩
  cases b with
  | str z =>
    cases a <;> simp [cmD] at e
    subst e
    exact op_notin_str pins s σ H x y v u Q I rx ry ⟨_, _, ha.unstr.1, hb.unstr.1, f.val _ (by simpa using .bl)⟩
  | list ds =>
    have e' : (cmD .nin a (.list ds)) = if SeqAt.shaped a && SeqAt.shaped (.list ds) then some (!ds.any fun z => PyData.eqv z a) else none := by cases a <;> rfl
    simp only [e', Option.map_eq_some_iff] at e
    obtain ⟨c, e, rfl⟩ := e
    split at e
    · rename_i hs
      simp only [Bool.and_eq_true] at hs
      cases e
      obtain ⟨_, r1⟩ := Dp.reads I a x v (ha.dp le) rx
      obtain ⟨_, r2⟩ := Dp.reads I (.list ds) y u (hb.dp le) ry
      exact SeqAt.notIn_list_reads r2 r1 (SeqAt.canLay_of_shaped hs.2) (SeqAt.canLay_of_shaped hs.1) (inRoom hs.1 R.un) ⟨.bl _, H, I, rfl, f.val _ .bl⟩
    · cases e
  | tuple ds =>
    have e' : (cmD .nin a (.tuple ds)) = if SeqAt.shaped a && SeqAt.shaped (.tuple ds) then some (!ds.any fun z => PyData.eqv z a) else none := by cases a <;> rfl
    simp only [e', Option.map_eq_some_iff] at e
    obtain ⟨c, e, rfl⟩ := e
    split at e
    · rename_i hs
      simp only [Bool.and_eq_true] at hs
      cases e
      obtain ⟨_, r1⟩ := Dp.reads I a x v (ha.dp le) rx
      obtain ⟨_, r2⟩ := Dp.reads I (.tuple ds) y u (hb.dp le) ry
      exact SeqAt.notIn_tuple_reads r2 r1 (SeqAt.canLay_of_shaped hs.2) (SeqAt.canLay_of_shaped hs.1) (inRoom hs.1 R.un) ⟨.bl _, H, I, rfl, f.val _ .bl⟩
    · cases e
  | _ => cases a <;> simp [cmD] at e

/-! ### subscripts, slices -/
theorem atI_some {α : Type} {xs : List α} {i : Int} {a : α} (h : atI xs i = some a) : ∃ j : Nat, xs[j]? = some a ∧ ixN xs.length i = some j := by
  unfold atI at h
  cases e : ixN xs.length i with
  | none => rw [e] at h; cases h
  | some j => rw [e] at h; exact ⟨j, h, rfl⟩
theorem atI_of {α β : Type} {xs : List α} {ys : List β} {i : Int} {j : Nat} {b : β} (hl : xs.length = ys.length) (h : ixN xs.length i = some j) (e : ys[j]? = some b) : atI ys i = some b := by
  unfold atI
  rw [← hl, h]
  exact e
theorem xd_ix : IxR X (rD2 X.K ixD) := by
  intro va sl pins s σ H x y v u Q I rx ry ⟨B, a, b, d, le, ha, hb, e, f⟩ hs
  cases b <;> cases a <;> simp only [ixD] at e <;> try (cases e; done)
  · simp only [Option.map_eq_some_iff] at e
    obtain ⟨c, e, rfl⟩ := e
    exact ix_str va sl pins s σ H x y v u Q I rx ry ⟨_, _, c, ha.unstr.1, hb.unint, ha.unstr.2, e, f.val _ (.str (by show okLen 1 = true; decide))⟩ hs
  · obtain ⟨l, xs, rfl, q, r, _⟩ := ha.unlst le
    obtain ⟨j, e1, e2⟩ := atI_some e
    obtain ⟨z, e3, rz⟩ := r.get e1
    exact ix_list va sl pins s σ H _ y v u Q I rx ry ⟨l, xs, _, z, rfl, hb.unint, q, atI_of r.len.symm e2 e3, f.val _ rz⟩ hs
  · obtain ⟨l, xs, rfl, q, r, _⟩ := ha.untup le
    obtain ⟨j, e1, e2⟩ := atI_some e
    obtain ⟨z, e3, rz⟩ := r.get e1
    exact ix_tup va sl pins s σ H _ y v u Q I rx ry ⟨l, xs, _, z, rfl, hb.unint, q, atI_of r.len.symm e2 e3, f.val _ rz⟩ hs
theorem RpAll.cut {vs : List V} {ds : List D} (r : RpAll K B vs ds) (lo hi : Option Int) : RpAll K B (cutV vs lo hi) (cutD ds lo hi) := by
  unfold cutV cutD
  rw [r.len]
  exact (r.drop _).take _
theorem cutD_len {α : Type} (xs : List α) (lo hi : Option Int) : (cutD xs lo hi).length ≤ xs.length := by
  unfold cutD
  simp only [List.length_take, List.length_drop]
  omega
theorem cutD_all {α : Type} {xs : List α} {lo hi : Option Int} (h1 : HT.sIx xs.length 0 lo = 0) (h2 : HT.sIx xs.length xs.length hi = xs.length) : cutD xs lo hi = xs := by
  unfold cutD
  rw [h1, h2]
  simp
theorem sd_any : SlR X (rDS X.K) := by
  intro pins s σ H x v vl vu lo hi sl Q I rx is pl pu ⟨B, a, d, le, ha, e, f⟩
  cases a <;> simp [slD] at e
  · subst e
    refine sl_str pins s σ H x v vl vu lo hi sl Q I rx is pl pu ⟨_, ha.unstr.1, ha.unstr.2, f.val _ (.str (okLen_le (okLen_iff.mpr ha.unstr.2) ?_))⟩
    show ((((_ : Str).cps.toList.drop _).take _).toArray).size ≤ _
    simp only [List.size_toArray, List.length_take, List.length_drop, Array.length_toList]
    show _ ≤ (_ : Array Nat).size
    omega
  · subst e
    obtain ⟨l, xs, rfl, q, r, z⟩ := ha.unlst le
    exact sl_list pins s σ H _ v vl vu lo hi sl Q I rx is pl pu ⟨l, xs, rfl, q, fun p hp => f.lst _ p _ rfl hp (r.cut lo hi) (Nat.le_trans (cutD_len _ _ _) z)⟩
  · subst e
    obtain ⟨l, xs, rfl, q, r, z⟩ := ha.untup le
    refine sl_tupA pins s σ H _ v vl vu lo hi sl Q I rx is pl pu ⟨l, xs, rfl, q, fun ⟨h1, h2⟩ => ?_, fun _ p hp => f.tup _ p _ rfl hp (r.cut lo hi) (Nat.le_trans (cutD_len _ _ _) z)⟩
    rw [r.len] at h1 h2
    have e := cutD_all h1 h2
    rw [e] at f
    exact f.val _ ha.tupR

/-! ### calls of builtins -/
section
variable {xs : List V} {ds : List D}
theorem RpTs.one {d : D} (h : RpTs K H B xs [d]) : ∃ x, xs = [x] ∧ RpT K H B x d := by
  cases h with | cons a r => cases r; exact ⟨_, rfl, a⟩
theorem RpTs.two {d e : D} (h : RpTs K H B xs [d, e]) : ∃ x y, xs = [x, y] ∧ RpT K H B x d ∧ RpT K H B y e := by
  cases h with | cons a r => cases r with | cons b r => cases r; exact ⟨_, _, rfl, a, b⟩
theorem RpTs.nil' (h : RpTs K H B xs []) : xs = [] := by cases h; rfl
theorem vals_ints : ∀ {ds : List D} {vs : List V} {ns : List Int}, RpAll K B vs ds → intsD ds = some ns → vs = ns.map V.int
  | [], _, _, r, e => by cases e; exact r.unnil
  | d :: ds, _, ns, r, e => by
    obtain ⟨v, us, rfl, h1, h2⟩ := r.uncons
    cases d <;> simp [intsD] at e
    obtain ⟨ms, e, rfl⟩ := e
    rw [h1.unint, vals_ints h2 e]; rfl
theorem vals_strs : ∀ {ds : List D} {vs : List V} {ns : List Str}, RpAll K B vs ds → strsD ds = some ns → vs = ns.map V.str
  | [], _, _, r, e => by cases e; exact r.unnil
  | d :: ds, _, ns, r, e => by
    obtain ⟨v, us, rfl, h1, h2⟩ := r.uncons
    cases d <;> simp [strsD] at e
    obtain ⟨ms, e, rfl⟩ := e
    rw [h1.unstr.1, vals_strs h2 e]; rfl
theorem vals_bools : ∀ {ds : List D} {vs : List V} {ns : List Bool}, RpAll K B vs ds → boolsD ds = some ns → vs = ns.map V.bl
  | [], _, _, r, e => by cases e; exact r.unnil
  | d :: ds, _, ns, r, e => by
    obtain ⟨v, us, rfl, h1, h2⟩ := r.uncons
    cases d <;> simp [boolsD] at e
    obtain ⟨ms, e, rfl⟩ := e
    rw [h1.unbool, vals_bools h2 e]; rfl
end
theorem bd_len : CallR X (.builtin "len") (rDC X.K (btD .len)) := by
  intro pins s σ H xs us Q I r ⟨B, as, d, le, ha0, e0, f⟩
  match as, e0, ha0 with
  | [.list a], e, ha =>
    cases e
    obtain ⟨x, rfl, hx⟩ := ha.one
    obtain ⟨l, ys, rfl, q, r1, _⟩ := hx.unlst le
    exact call_len_seq pins s σ H _ us Q I r ⟨l, ys, rfl, .inl q, by rw [r1.len]; exact f.val _ .int⟩
  | [.tuple a], e, ha =>
    cases e
    obtain ⟨x, rfl, hx⟩ := ha.one
    obtain ⟨l, ys, rfl, q, r1, _⟩ := hx.untup le
    exact call_len_seq pins s σ H _ us Q I r ⟨l, ys, rfl, .inr q, by rw [r1.len]; exact f.val _ .int⟩
  | [.str a], e, ha =>
    cases e
    obtain ⟨x, rfl, hx⟩ := ha.one
    exact call_len_str pins s σ H _ us Q I r ⟨a, by rw [hx.unstr.1], hx.unstr.2, f.val _ .int⟩
theorem bd_int : CallR X (.type "int") (rDC X.K (btD .int)) := by
  intro pins s σ H xs us Q I r ⟨B, as, d, le, ha0, e0, f⟩
  match as, e0, ha0 with
  | [.int a], e, ha =>
    cases e
    obtain ⟨x, rfl, hx⟩ := ha.one
    exact call_int1 pins s σ H _ us Q I r (.inl ⟨a, by rw [hx.unint], f.val _ .int⟩)
  | [.bool a], e, ha =>
    cases e
    obtain ⟨x, rfl, hx⟩ := ha.one
    exact call_int1 pins s σ H _ us Q I r (.inr ⟨a, by rw [hx.unbool], f.val _ .int⟩)
  | [.str a], e, ha =>
    simp [btD] at e
    obtain ⟨h1, n, e, rfl⟩ := e
    obtain ⟨x, rfl, hx⟩ := ha.one
    exact call_int_str pins s σ H _ us Q I r ⟨a, n, by rw [hx.unstr.1], e, h1, f.val _ .int⟩
theorem bd_str : CallR X (.type "str") (rDC X.K (btD .str)) := by
  intro pins s σ H xs us Q I r ⟨B, as, d, le, ha0, e0, f⟩
  match as, e0, ha0 with
  | [.int a], e, ha =>
    simp [btD] at e
    obtain ⟨⟨h1, h2⟩, rfl⟩ := e
    obtain ⟨x, rfl, hx⟩ := ha.one
    exact call_str_int pins s σ H _ us Q I r ⟨a, by rw [hx.unint], h1, f.val _ (.str h2)⟩
theorem bd_tuple : CallR X (.type "tuple") (rDC X.K (btD .tuple)) := by
  intro pins s σ H xs us Q I r ⟨B, as, d, le, ha0, e0, f⟩
  match as, e0, ha0 with
  | [.list a], e, ha =>
    cases e
    obtain ⟨x, rfl, hx⟩ := ha.one
    obtain ⟨l, ys, rfl, q, r1, z⟩ := hx.unlst le
    exact call_tuple_of pins s σ H _ us Q I r ⟨l, ys, rfl, .inl ⟨q, fun p hp => f.tup _ p _ rfl hp r1 z⟩⟩
  | [.tuple a], e, ha =>
    cases e
    obtain ⟨x, rfl, hx⟩ := ha.one
    have hx' := hx.tupR
    obtain ⟨l, ys, rfl, q, r1, z⟩ := hx.untup le
    exact call_tuple_of pins s σ H _ us Q I r ⟨l, ys, rfl, .inr ⟨q, f.val _ hx'⟩⟩
/-- the signs of a text as values -/
def signsV (a : Str) : List V := a.cps.toList.map fun c => .str ⟨#[c]⟩
theorem signs_rp {a : Str} : RpAll K B (signsV a) (a.cps.toList.map fun c => .str ⟨#[c]⟩) := by
  unfold signsV
  induction a.cps.toList with
  | nil => exact .nil
  | cons c l ih => exact .cons (.str (by show okLen 1 = true; decide)) ih
theorem bd_list : CallR X (.type "list") (rDCO X.K (btD .list)) := by
  intro pins s σ H xs us Q I r ⟨B, as, d, le, ha0, e0, f⟩
  match as, e0, ha0 with
  | [.list a], e, ha =>
    cases e
    obtain ⟨x, rfl, hx⟩ := ha.one
    obtain ⟨l, ys, rfl, q, r1, z⟩ := hx.unlst le
    obtain ⟨_, e, f⟩ := f
    cases e
    exact call_list_of pins s σ H _ us Q I r ⟨l, ys, rfl, .inl q, fun p hp => f p _ hp r1 z⟩
  | [.tuple a], e, ha =>
    cases e
    obtain ⟨x, rfl, hx⟩ := ha.one
    obtain ⟨l, ys, rfl, q, r1, z⟩ := hx.untup le
    obtain ⟨_, e, f⟩ := f
    cases e
    exact call_list_of pins s σ H _ us Q I r ⟨l, ys, rfl, .inr q, fun p hp => f p _ hp r1 z⟩
theorem bd_sum (hc : X.calm = true) : CallR X (.builtin "sum") (rDC X.K (btD .sum)) := by
  intro pins s σ H xs us Q I r ⟨B, as, d, le, ha0, e0, f⟩
  match as, e0, ha0 with
  | [.list a], e, ha =>
    simp [btD] at e
    obtain ⟨n, e, rfl⟩ := e
    obtain ⟨x, rfl, hx⟩ := ha.one
    obtain ⟨l, ys, rfl, q, r1, z⟩ := hx.unlst le
    have := vals_ints r1 e
    subst this
    exact cr_sum hc pins s σ H _ us Q I r ⟨l, n, rfl, q, f.val _ .int⟩
theorem maxL_spec : ∀ {l : List Int} {x : Int}, let m := l.foldl (fun a b => if b > a then b else a) x
    (m = x ∨ m ∈ l) ∧ x ≤ m ∧ ∀ y ∈ l, y ≤ m
  | [], x => ⟨.inl rfl, Int.le_refl _, by simp⟩
  | y :: l, x => by
    have ih := @maxL_spec l (if y > x then y else x)
    obtain ⟨h1, h2, h3⟩ := ih
    simp only [List.foldl_cons]
    refine ⟨?_, ?_, ?_⟩
    · rcases h1 with h | h
      · rw [h]
        by_cases c : y > x
        · rw [if_pos c]; exact .inr List.mem_cons_self
        · rw [if_neg c]; exact .inl rfl
      · exact .inr (List.mem_cons_of_mem _ h)
    · refine Int.le_trans ?_ h2
      split <;> omega
    · intro z hz
      rcases List.mem_cons.mp hz with rfl | hz
      · refine Int.le_trans ?_ h2
        split <;> omega
      · exact h3 z hz
theorem minL_spec : ∀ {l : List Int} {x : Int}, let m := l.foldl (fun a b => if b < a then b else a) x
    (m = x ∨ m ∈ l) ∧ m ≤ x ∧ ∀ y ∈ l, m ≤ y
  | [], x => ⟨.inl rfl, Int.le_refl _, by simp⟩
  | y :: l, x => by
    have ih := @minL_spec l (if y < x then y else x)
    obtain ⟨h1, h2, h3⟩ := ih
    simp only [List.foldl_cons]
    refine ⟨?_, ?_, ?_⟩
    · rcases h1 with h | h
      · rw [h]
        by_cases c : y < x
        · rw [if_pos c]; exact .inr List.mem_cons_self
        · rw [if_neg c]; exact .inl rfl
      · exact .inr (List.mem_cons_of_mem _ h)
    · refine Int.le_trans h2 ?_
      split <;> omega
    · intro z hz
      rcases List.mem_cons.mp hz with rfl | hz
      · refine Int.le_trans h2 ?_
        split <;> omega
      · exact h3 z hz
theorem maxL_is {l : List Int} {m : Int} (h : maxL l = some m) : 0 < l.length ∧ m ∈ l ∧ ∀ y ∈ l, y ≤ m := by
  cases l with
  | nil => cases h
  | cons x l =>
    have e : l.foldl (fun a b => if b > a then b else a) x = m := Option.some.inj h
    obtain ⟨h1, h2, h3⟩ := @maxL_spec l x
    rw [e] at h1 h2 h3
    exact ⟨by simp, h1.elim (fun z => z ▸ List.mem_cons_self) (List.mem_cons_of_mem _), fun y hy => (List.mem_cons.mp hy).elim (fun z => z ▸ h2) (h3 y)⟩
theorem minL_is {l : List Int} {m : Int} (h : minL l = some m) : 0 < l.length ∧ m ∈ l ∧ ∀ y ∈ l, m ≤ y := by
  cases l with
  | nil => cases h
  | cons x l =>
    have e : l.foldl (fun a b => if b < a then b else a) x = m := Option.some.inj h
    obtain ⟨h1, h2, h3⟩ := @minL_spec l x
    rw [e] at h1 h2 h3
    exact ⟨by simp, h1.elim (fun z => z ▸ List.mem_cons_self) (List.mem_cons_of_mem _), fun y hy => (List.mem_cons.mp hy).elim (fun z => z ▸ h2) (h3 y)⟩
theorem bd_max (hc : X.calm = true) : CallR X (.builtin "max") (rDC X.K (btD .max)) := by
  intro pins s σ H xs us Q I r ⟨B, as, d, le, ha0, e0, f⟩
  match as, e0, ha0 with
  | [.list a], e, ha =>
    simp only [btD, Option.bind_eq_some_iff, Option.map_eq_some_iff] at e
    obtain ⟨n, e, m, e2, rfl⟩ := e
    obtain ⟨x, rfl, hx⟩ := ha.one
    obtain ⟨l, ys, rfl, q, r1, z⟩ := hx.unlst le
    have := vals_ints r1 e
    subst this
    obtain ⟨h1, h2, h3⟩ := maxL_is e2
    refine cr_max hc pins s σ H _ us Q I r ⟨l, n, rfl, q, h1, fun k hk hm => ?_⟩
    have : k = m := Int.le_antisymm (h3 k hk) (hm m h2)
    rw [this]
    exact f.val _ .int
theorem bd_min (hc : X.calm = true) : CallR X (.builtin "min") (rDC X.K (btD .min)) := by
  intro pins s σ H xs us Q I r ⟨B, as, d, le, ha0, e0, f⟩
  match as, e0, ha0 with
  | [.list a], e, ha =>
    simp only [btD, Option.bind_eq_some_iff, Option.map_eq_some_iff] at e
    obtain ⟨n, e, m, e2, rfl⟩ := e
    obtain ⟨x, rfl, hx⟩ := ha.one
    obtain ⟨l, ys, rfl, q, r1, z⟩ := hx.unlst le
    have := vals_ints r1 e
    subst this
    obtain ⟨h1, h2, h3⟩ := minL_is e2
    refine cr_min hc pins s σ H _ us Q I r ⟨l, n, rfl, q, h1, fun k hk hm => ?_⟩
    have : k = m := Int.le_antisymm (hm m h2) (h3 k hk)
    rw [this]
    exact f.val _ .int
theorem bd_max2 (hc : X.calm = true) : CallR X (.builtin "max") (rDC X.K (btD .max2)) := by
  intro pins s σ H xs us Q I r ⟨B, as, d, le, ha0, e0, f⟩
  match as, e0, ha0 with
  | [.int a, .int b], e, ha =>
    cases e
    obtain ⟨x, y, rfl, hx, hy⟩ := ha.two
    exact call_max2 hc pins s σ H _ us Q I r ⟨a, b, by rw [hx.unint, hy.unint], f.val _ .int⟩
theorem bd_min2 (hc : X.calm = true) : CallR X (.builtin "min") (rDC X.K (btD .min2)) := by
  intro pins s σ H xs us Q I r ⟨B, as, d, le, ha0, e0, f⟩
  match as, e0, ha0 with
  | [.int a, .int b], e, ha =>
    cases e
    obtain ⟨x, y, rfl, hx, hy⟩ := ha.two
    exact call_min2 hc pins s σ H _ us Q I r ⟨a, b, by rw [hx.unint, hy.unint], f.val _ .int⟩
theorem bd_abs : CallR X (.builtin "abs") (rDC X.K (btD .abs)) := by
  intro pins s σ H xs us Q I r ⟨B, as, d, le, ha0, e0, f⟩
  match as, e0, ha0 with
  | [.int a], e, ha =>
    cases e
    obtain ⟨x, rfl, hx⟩ := ha.one
    exact call_abs pins s σ H _ us Q I r ⟨a, by rw [hx.unint], f.val _ .int⟩
theorem bd_any (hc : X.calm = true) : CallR X (.builtin "any") (rDC X.K (btD .any)) := by
  intro pins s σ H xs us Q I r ⟨B, as, d, le, ha0, e0, f⟩
  match as, e0, ha0 with
  | [.list a], e, ha =>
    simp [btD] at e
    obtain ⟨n, e, rfl⟩ := e
    obtain ⟨x, rfl, hx⟩ := ha.one
    obtain ⟨l, ys, rfl, q, r1, z⟩ := hx.unlst le
    have := vals_bools r1 e
    subst this
    exact cr_any hc pins s σ H _ us Q I r ⟨l, n, rfl, q, f.val _ .bl⟩
theorem bd_all (hc : X.calm = true) : CallR X (.builtin "all") (rDC X.K (btD .all)) := by
  intro pins s σ H xs us Q I r ⟨B, as, d, le, ha0, e0, f⟩
  match as, e0, ha0 with
  | [.list a], e, ha =>
    simp [btD] at e
    obtain ⟨n, e, rfl⟩ := e
    obtain ⟨x, rfl, hx⟩ := ha.one
    obtain ⟨l, ys, rfl, q, r1, z⟩ := hx.unlst le
    have := vals_bools r1 e
    subst this
    exact cr_all hc pins s σ H _ us Q I r ⟨l, n, rfl, q, f.val _ .bl⟩
/-! ### methods that change nothing -/
theorem md_join : MtR X "str.join" (rDM X.K (mtD .join)) := by
  intro pins s σ H x xs v us Q I rx r ⟨B, a0, as, d, le, hx0, ha0, e0, f⟩
  match a0, as, e0, hx0, ha0 with
  | .str a, [.list ys], e, hx, ha =>
    simp only [mtD, Option.bind_eq_some_iff] at e
    obtain ⟨n, e, e2⟩ := e
    split at e2 <;> cases e2
    rename_i h12
    simp only [Bool.and_eq_true] at h12
    obtain ⟨h1, h2⟩ := h12
    obtain ⟨y, rfl, hy⟩ := ha.one
    obtain ⟨l, zs, rfl, q, r1, z⟩ := hy.unlst le
    have := vals_strs r1 e
    subst this
    have h1' : (n.map (·.length)).sum + n.length * a.length ≤ 16777216 := by simpa [okLen] using h1
    exact mt_join pins s σ H x _ v us Q I rx r ⟨a, l, n, hx.unstr.1, rfl, .inl q, h1', f.val _ (.str h2)⟩
  | .str a, [.tuple ys], e, hx, ha =>
    simp only [mtD, Option.bind_eq_some_iff] at e
    obtain ⟨n, e, e2⟩ := e
    split at e2 <;> cases e2
    rename_i h12
    simp only [Bool.and_eq_true] at h12
    obtain ⟨h1, h2⟩ := h12
    obtain ⟨y, rfl, hy⟩ := ha.one
    obtain ⟨l, zs, rfl, q, r1, z⟩ := hy.untup le
    have := vals_strs r1 e
    subst this
    have h1' : (n.map (·.length)).sum + n.length * a.length ≤ 16777216 := by simpa [okLen] using h1
    exact mt_join pins s σ H x _ v us Q I rx r ⟨a, l, n, hx.unstr.1, rfl, .inr q, h1', f.val _ (.str h2)⟩
/-! ### repr, and whether two are alike -/
theorem bd_repr (R : Roomy X) : CallR X (.builtin "repr") (fun xs H Q => ∃ B x d, xs = [x] ∧ Same B H ∧ RpT X.K H B x d ∧ SeqAt.shaped d = true ∧ d.showable = true ∧ d.shown.length ≤ sizeLine ∧ Q (.str d.shown) H) := by
  intro pins s σ H xs us Q I r ⟨B, x, d, e, le, hx, h1, h2, h3, q⟩
  subst e
  cases r with
  | cons rx rn =>
    rename_i u ut
    cases rn
    have dp := hx.dp le
    obtain ⟨as, rd⟩ := Dp.reads I d x u dp rx
    have hnd : d.hasDict = false := PyData.hasDict_of_canLay d (SeqAt.canLay_of_shaped h1)
    have hdep := SeqAt.depth_of_shaped h1
    cases dp with
    | non => cases rx; exact PySem.P.repr_of_none ⟨.str "None", H, I.tok _, ⟨_, rfl⟩, q⟩
    | bl b =>
      cases rx
      cases b
      · exact PySem.P.repr_of_bool ⟨.str "False", H, I.tok _, ⟨_, rfl⟩, q⟩
      · exact PySem.P.repr_of_bool ⟨.str "True", H, I.tok _, ⟨_, rfl⟩, q⟩
    | int i =>
      obtain ⟨t, rfl⟩ := rx
      exact PySem.P.repr_of_int (of_decide_eq_true h2) ⟨.str (toString i), H, I.tok _, ⟨_, rfl⟩, q⟩
    | str z =>
      obtain ⟨t, rfl⟩ := rx
      exact PySem.P.repr_of_str ⟨.str (reprText z), H, I.tok _, ⟨_, rfl⟩, q⟩ h3
    | lst sq al =>
      cases rx
      exact PySem.repr_of_reads' rd h2 (by rw [hnd]; intro z; cases z) R.gd (by have := R.un; omega) (fun _ _ e => e) (fun h' t tk k => ⟨.str _, H, I.kept k, ⟨_, rfl⟩, q⟩) h3
    | tup sq al =>
      cases rx
      exact PySem.repr_of_reads' rd h2 (by rw [hnd]; intro z; cases z) R.gd (by have := R.un; omega) (fun _ _ e => e) (fun h' t tk k => ⟨.str _, H, I.kept k, ⟨_, rfl⟩, q⟩) h3
/-! ### sorted -/
theorem depth_mem : ∀ {xs : List D} {d : D}, d ∈ xs → d.depth ≤ PyData.depthAll xs
  | x :: xs, d, h => by
    unfold PyData.depthAll
    rcases List.mem_cons.mp h with h | h
    · rw [h]; omega
    · have := depth_mem h; omega
theorem each_of {P : V → D → Prop} : ∀ {ys : List V} {its : List Value} {ds : List D}, Vals ys its → (∀ (i : Nat) (y : V) (d : D), ys[i]? = some y → ds[i]? = some d → P y d) → ys.length = ds.length → PySem.W.EachIs (fun v d => ∃ y, RelV y v ∧ P y d) its ds
  | [], _, [], r, _, _ => by cases r; exact .nil
  | [], _, _ :: _, _, _, h => by simp at h
  | _ :: _, _, [], _, _, h => by simp at h
  | y :: ys, _, d :: ds, r, h, hl => by
    cases r with
    | cons a t => exact .cons ⟨y, a, h 0 y d rfl rfl⟩ (each_of t (fun i y' d' e1 e2 => h (i + 1) y' d' (by simpa using e1) (by simpa using e2)) (by simpa using hl))
theorem of_each {B : Hp} : ∀ {out : List Value} {ds : List D}, PySem.W.EachIs (fun v d => ∃ y, RelV y v ∧ Rp K B y d) out ds → ∃ zs, Vals zs out ∧ RpAll K B zs ds
  | _, _, .nil => ⟨[], .nil, .nil⟩
  | _, _, .cons ⟨y, a, b⟩ t =>
    let ⟨zs, c, d⟩ := of_each t
    ⟨y :: zs, .cons a c, .cons b d⟩
theorem sortOk_is {a : List D} (h : sortOk a = true) : PySem.W.AllAlike a ∧ PySem.W.Sortable a ∧ SeqAt.shaped (.list a) = true := by
  unfold sortOk at h
  simp only [Bool.and_eq_true, Bool.or_eq_true, List.all_eq_true] at h
  obtain ⟨⟨h1, h2⟩, h3⟩ := h
  refine ⟨h1, ?_, h3⟩
  rcases h2 with h2 | h2
  · refine .inl fun d hd => ?_
    have := h2 d hd
    split at this
    · exact ⟨_, _, rfl⟩
    · cases this
  · refine .inr fun d hd => ?_
    have := h2 d hd
    split at this
    · exact ⟨(fun z => by cases z), (fun xs z => by cases z)⟩
    · exact ⟨(fun z => by cases z), (fun xs z => by cases z)⟩
    · cases this
theorem sortD_len {a : List D} : (sortD a).length = a.length := List.length_mergeSort _
theorem bd_sorted (R : Roomy X) : CallR X (.builtin "sorted") (rDCO X.K (btD .sorted)) := by
  intro pins s σ H xs us Q I r ⟨B, as, d, le, ha0, e0, f⟩
  match as, e0, ha0 with
  | [.list a], e, ha =>
    simp only [btD] at e
    split at e <;> cases e
    rename_i hok
    obtain ⟨h1, h2, h3⟩ := sortOk_is hok
    obtain ⟨x, rfl, hx⟩ := ha.one
    obtain ⟨l, ys, rfl, q, r1, z⟩ := hx.unlst le
    obtain ⟨ds, ed, f⟩ := f
    cases ed
    obtain ⟨u, rfl, ru⟩ := vals1 r
    obtain rfl : u = Value.ref l := ru
    obtain ⟨its, rv, pl, hz⟩ := I.list q
    have ee : PySem.W.EachIs (fun v d => ∃ y, RelV y v ∧ Rp X.K B y d) its a := each_of rv (fun i y d e1 e2 => by
      obtain ⟨v, e3, e4⟩ := r1.get e2
      rw [e1] at e3; cases e3; exact e4) r1.len
    refine PySem.W.sorted_data (enc := id) pl.isList ee (ee.mono fun v d ⟨y, a1, a2⟩ => Dp.reads I d y v (dp_mono le a2.dp) a1) (by rw [List.map_id]; exact h1) (by rw [List.map_id]; exact h2) z (fun d hd => ?_) fun out hlen ho => ?_
    · have g1 := SeqAt.depth_of_shaped h3
      have g2 := depth_mem hd
      have g3 : PyData.depth (.list a) = 1 + PyData.depthAll a ∨ PyData.depth (.list a) = PyData.depthAll a + 1 ∨ PyData.depth (.list a) = PyData.depthAll a := by
        first | exact .inl rfl | exact .inr (.inl rfl) | exact .inr (.inr rfl)
      have := R.un
      show X.A.units + 2 + d.depth < _
      omega
    · obtain ⟨zs, z1, z2⟩ := of_each ho
      have hl : zs.length ≤ sizeLine := by rw [z2.len]; show (sortD a).length ≤ _; rw [sortD_len]; exact z
      obtain ⟨n, hn⟩ := PyProof.Rows.sortedAll_at s.heap its out.toArray
      exact ⟨.ref _, upd H _ (.lst zs), I.laid (t' := s.toks) (fun b o e => PyProof.Rows.sortedAll_old e) (Nat.le_succ _) ⟨hl, out, n, z1, hn⟩, rfl, f _ zs (I.hok.fresh (Nat.le_succ _)) z2 (by rw [sortD_len]; exact z)⟩
end

/-! ### isinstance, t[::-1] -/
def tyD : D → String
  | .none => "NoneType"
  | .bool _ => "bool"
  | .int _ => "int"
  | .str _ => "str"
  | .list _ => "list"
  | .tuple _ => "tuple"
  | .dict _ => "dict"
def Kd.nm : Kd → String
  | .int => "int"
  | .bool => "bool"
  | .str => "str"
  | .tup => "tuple"
  | .lst => "list"
theorem kit_kd {K : PySem.W.Frag} {k : Kd} {d : D} {b : Bool} (h : isKd k d = some b) : PySem.W.kitOne K (.type (tyD d)) (.type k.nm) = some b := by
  cases k <;> cases d <;> simp [isKd] at h <;> subst h <;> simp only [tyD, Kd.nm] <;> exact kit_ty (by decide +kernel)
theorem ty_rp {K : PySem.W.Frag} {B H : Hp} {v : V} {d : D} (e : Same B H) (h : Rp K B v d) : TyX K H v (.type (tyD d)) := by
  have h2 := dp_mono e h.dp
  cases h2 with
  | non => exact .base .non
  | bl b => exact .base (.bl b)
  | int i => exact .base (.int i)
  | str x => exact .base (.str x)
  | lst q r =>
    rcases q with (q | ⟨o, q⟩) | ⟨o, its, n, h1, h2, _⟩
    · exact .base (.lst q)
    · exact .base (.frz q)
    · exact .kList h1 h2
  | tup q r =>
    rcases q with (q | ⟨o, q⟩) | ⟨o, its, n, h1, h2, _⟩
    · exact .base (.tup q)
    · exact .fTuple q
    · exact .kTuple h1 h2
end VF

end
section
set_option Elab.async false
set_option linter.all false
set_option autoImplicit false
set_option maxRecDepth 100000
set_option maxHeartbeats 4000000
/-! VCs: list of a text. -/
namespace VF
open PySem PySem.Spec PyProof.Rows
section
variable {prog : Program} {w : World} {A : Around} {s : Shared}
theorem hint_text {E : Value → Shared → Prop} {z : Str} {tz : Tok} {Q : Bool → Shared → Prop} (h : Q false s) : wpAny (model prog w) A (Builtin.List.listLengthHint (.str z tz)) Q E s := by
  have ty : s.TypeIs (.str z tz) "str" := typeIs_str s z tz
  unfold Builtin.List.listLengthHint
  refine wpAny_bind (wpAny_specialOf ty F.slot_str_len.lookup ?_)
  generalize hi : ("str.__len__" : String) = idl
  wp_delta
  rw [show splitId idl = some ("str", "__len__") from by subst hi; decide +kernel]
  subst hi
  refine wpAny_bind (wpAny_isInstance (T := "str") (b := true) ty (by rw [isSubtype_type]; kernel_rfl) ?_)
  refine wpAny_ite_split (fun k => absurd k (by decide)) fun _ => ?_
  refine wpAny_ite_split (fun _ => ?_) fun k => absurd (by decide +kernel) k
  exact wpAny_bind (wpAny_typeOf ty (wpAny_pure h))
/-- where the new list stands when all signs are in -/
def SignsIn (z : Str) (s : Shared) (L : Addr) (g : Heap) (ac : Array Value) (cc : Nat) : Prop :=
  (∀ b o, b ≠ L → s.heap.get? b = some o → g.get? b = some o) ∧ g.get? L = some { cls := .type "list", dict := none, data := .seq ac cc, slots := #[] } ∧ ItemsOf (SignAt z) ac z.cps.size
abbrev Fo (prog : Program) (w : World) (A : Around) (R : Result → Shared → Prop) : PySem.Fin → Shared → Prop := fun f t => match f with
  | .done r => R (.ok r) t
  | .again c => c.quiet = true ∧ codeAny (model prog w) A c R t
theorem extend_text {R : Result → Shared → Prop} (hh : A.handled = none) (z : Str) (tz : Tok) (L : Addr) (v : Value) (c0 : Nat) (hL : s.heap.get? L = some { cls := .type "list", data := .seq #[] c0 })
    (hR : ∀ g k ac cc, SignsIn z s L g ac cc → R (.ok (.ret v)) { s with heap := g, toks := k }) (hz : z.cps.size ≤ sizeLine) :
    wpAny (model prog w) A.in1 (Builtin.List.listExtendWith (.ref L) (.str z tz) v) (Fo prog w A R) (fun e t => R (.error e) t) s := by
  have n1 : L ≠ s.heap.objs.size := Nat.ne_of_lt (Heap.lt_size hL)
  have n2 : L ∉ [s.heap.objs.size] := fun q => n1 (List.mem_singleton.mp q)
  unfold Builtin.List.listExtendWith
  refine wpAny_bind (wpAny_typeOf (T := "str") (v := .str z tz) (typeIs_str s z tz) ?_)
  have b1 : Builtin.List.listSameRef (.ref L) (.str z tz) = false := rfl
  have b2 : (Value.type "str" == Value.type "list") = false := by decide
  have b3 : (Value.type "str" == Value.type "tuple") = false := by decide
  simp only [b1, b2, b3, Bool.or_false, Bool.false_eq_true, if_false]
  refine wpAny_bind (wpAny_pyIter_strU (wpAny_bind (wpAny_holding (hint_text ?_))))
  rw [if_neg (by first | decide | decide +kernel)]
  have fin : ∀ (ty : String) (W : Walks prog w A.in1 s.heap.objs.size [s.heap.objs.size] [s.heap.objs.size] z.cps.size (SignAt z) fun i h => h.IsStrIter s.heap.objs.size ty z tz i), ty = strIterType z →
      wpAny (model prog w) A.in1 (pure (PySem.Fin.again (.builtin "list.extend.loop" ⟨[.ref L, .ref s.heap.objs.size, v], []⟩))) (Fo prog w A R) (fun e t => R (.error e) t)
        { s with heap := s.heap.push { cls := .type (strIterType z), data := .fields #[.str z tz, .int 0 0] } } := fun ty W ety => by
    have st : (s.heap.push { cls := .type (strIterType z), data := .fields #[.str z tz, .int 0 0] }).IsStrIter s.heap.objs.size ty z tz 0 := by
      rw [ety]
      exact ⟨_, Heap.get?_push_size _ rfl, rfl, rfl⟩
    refine wpAny_pure ⟨plainId_quiet F.plain_extend_loop _, codeAny_extend_loopS W.toS hz _ n2 _ z.cps.size 0 _ _ _ rfl (Nat.zero_le _) st (Heap.get?_push_of_some _ hL) (ItemsOf.nil _) fun t ac cc mv at_ its => ?_⟩
    rw [Moved.eq_with mv]
    refine hR t.heap t.toks ac cc ⟨fun b o nb e => mv.heap b o (fun q => ?_) (Heap.get?_push_of_some _ e), at_, its⟩
    rcases List.mem_cons.mp q with q | q
    · exact nb q
    · exact absurd (Heap.lt_size e) (by rw [List.mem_singleton.mp q]; exact Nat.lt_irrefl _)
  by_cases ha : z.cps.all (· < 128) = true
  · exact fin _ (Walks.strAscii (A := A.in1) hh _ z tz) (by unfold strIterType; rw [if_pos ha])
  · exact fin _ (Walks.strWide (A := A.in1) hh _ z tz) (by unfold strIterType; rw [if_neg ha])
theorem init_text {R : Result → Shared → Prop} (hh : A.handled = none) (z : Str) (tz : Tok) (L : Addr) (hL : s.heap.get? L = some { cls := .type "list", data := .seq #[] })
    (hR : ∀ g k ac cc, SignsIn z s L g ac cc → R (.ok (.ret .none)) { s with heap := g, toks := k }) (hz : z.cps.size ≤ sizeLine) :
    wpAny (model prog w) A.in1 (Builtin.«list.__init__» ⟨[.ref L, .str z tz], []⟩) (Fo prog w A R) (fun e t => R (.error e) t) s := by
  show wpAny _ _ (do
    let old ← Builtin.List.listItems (.ref L)
    Builtin.List.listUpdate (.ref L) (fun _ => #[])
    letGo old.toList.reverse
    Builtin.List.listExtendWith (.ref L) (.str z tz) .none) _ _ s
  refine wpAny_bind ?_
  unfold Builtin.List.listItems
  refine wpAny_bind (wpAny_seqItems hL rfl (wpAny_pure ?_))
  refine wpAny_bind (m := updateSeq L fun _ => #[]) (wpAny_updateSeq hL rfl (wpAny_bind (wpAny_letGo ?_)))
  have h2 := Heap.get?_update_self (Obj.mapSeq (fun _ => (#[] : Array Value))) hL rfl
  have rest : ∀ b o, b ≠ L → s.heap.get? b = some o → (s.heap.update L (Obj.mapSeq (fun _ => (#[] : Array Value)))).get? b = some o :=
    fun b o nb e => (Heap.get?_update_other _ _ nb.symm).trans e
  exact extend_text hh z tz L .none _ h2 (fun g k ac cc q => hR g k ac cc ⟨fun b o nb e => q.1 b o nb (rest b o nb e), q.2⟩) hz
theorem call_list_text {E : Value → Shared → Prop} {z : Str} {tz : Tok} {Q : Value → Shared → Prop} (hh : A.handled = none) (hz : z.cps.size ≤ sizeLine)
    (hQ : ∀ g k ac cc, (∀ b o, s.heap.get? b = some o → g.get? b = some o) → g.get? s.heap.objs.size = some { cls := .type "list", dict := none, data := .seq ac cc, slots := #[] } →
      ItemsOf (SignAt z) ac z.cps.size → Q (.ref s.heap.objs.size) { s with heap := g, toks := k }) : wpAny (model prog w) A (call (.type "list") [.str z tz]) Q E s := by
  refine callType_codes (Q₁ := fun ob t => ob = .ref s.heap.objs.size ∧ t = { s with heap := s.heap.push { cls := .type "list", data := .seq #[] } }) F.called_list
    (F.typeCall_list_1 _) F.entry_list_init (code_list_new _ ⟨rfl, rfl⟩) fun ob t ht => ?_
  obtain ⟨rfl, rfl⟩ := ht
  have hL : (s.heap.push { cls := .type "list", data := .seq #[] }).get? s.heap.objs.size = some { cls := .type "list", data := .seq #[] } := Heap.get?_push_size _ rfl
  refine ⟨⟨_, hL, rfl⟩, F.args_list_init_2 _ _, init_text (A := A.in1) hh z tz _ hL (fun g k ac cc q => ?_) hz⟩
  exact ⟨rfl, hQ g k ac cc (fun b o e => q.1 b o (Nat.ne_of_lt (Heap.lt_size e)) (Heap.get?_push_of_some _ e)) q.2.1 q.2.2⟩
end
theorem bd_listS {X : L2.Cx} (hc : X.calm = true) : L2.CallR X (.type "list") (rDCO X.K (btD .listS)) := by
  intro pins s σ H xs us Q I r ⟨B, as, d, le, ha0, e0, f⟩
  match as, e0, ha0 with
  | [.str z], e, ha =>
    cases e
    obtain ⟨x, rfl, hx⟩ := ha.one
    obtain ⟨rfl, hz⟩ := hx.unstr
    obtain ⟨ds, ed, f⟩ := f
    cases ed
    obtain ⟨u, rfl, ru⟩ := L2.vals1 r
    obtain ⟨tz, rfl⟩ := ru
    refine call_list_text (I.ok.hd hc) hz fun g k ac cc hk e hi => ?_
    have hl : (signsV z).length = z.cps.size := by simp [signsV]
    refine ⟨.ref s.heap.objs.size, L2.upd H s.heap.objs.size (.lst (signsV z)), I.laid hk (Nat.le_refl _) ⟨by rw [hl]; exact hz, ac.toList, cc, ?_, by rw [Array.toArray_toList]; exact e⟩, rfl,
      f _ _ (I.hok.fresh (Nat.le_refl _)) signs_rp (by rw [List.length_map]; exact hz)⟩
    refine L2.vals_of_idx _ _ (by rw [hl, Array.length_toList]; exact hi.1) fun j u hj => ?_
    obtain ⟨c, tc, h1, rfl⟩ := hi.2 j u (by rw [← Array.getElem?_toList]; exact hj)
    exact ⟨.str ⟨#[c]⟩, by unfold signsV; rw [List.getElem?_map, Array.getElem?_toList, h1]; rfl, ⟨_, rfl⟩⟩
end VF

end
section
set_option Elab.async false
set_option linter.all false
set_option autoImplicit false
set_option maxRecDepth 100000
set_option maxHeartbeats 1000000
/-! VD: what an evaluation of the small language leaves, and how such evaluations follow one another. -/
namespace VF
open PySem PySem.Spec L2

/-- an error of the program, as it stands in the heap -/
def ExRep (w : Wd) (B : Hp) (e : Exn) (cls : Value) (dd : Option Addr) (H : Hp) : Prop :=
  ∃ C dx fs, w.xc e.cls = some C ∧ cls = .ref C ∧ dd = some dx ∧ H dx = some (.xd fs) ∧ ∀ f d, e.fs.lookup f = some d → ∃ v, fs.lookup f = some v ∧ Rp w.K B v d
/-- what is wanted when an error leaves -/
def XW (w : Wd) (W : WX) (e : Exn) (ρ : Rho) (σ : St) : Prop := ∀ cls dd H ow, Rel w w.lk ρ ow σ H → ExRep w (vis w ow H) e cls dd H → W cls dd σ H
def Post {α β : Type} (w : Wd) (W : WX) (Γ : List Bool) (Rs : St → Ow → Hp → β → α → Prop) (B : Hp) (r : Option (R α)) (σ : St) (Q : β → Hp → Prop) : Prop := match r with
  | none => False
  | some (.ok a ρ) => ∀ b H ow, Rel w Γ ρ ow σ H → Same B (vis w ow H) → Rs σ ow H b a → Q b H
  | some (.ex e ρ) => XW w W e ρ σ
/-- the reading of an evaluation -/
def tM {α β : Type} (w : Wd) (W : WX) (Γ Γ' : List Bool) (Rs : St → Ow → Hp → β → α → Prop) (x : M α) : St → Hp → (β → Hp → Prop) → Prop := fun σ H Q =>
  ∃ ρ ow, Rel w Γ ρ ow σ H ∧ Post w W Γ' Rs (vis w ow H) (x ρ) σ Q
/-- of an evaluation that makes a new list -/
def PostO (w : Wd) (W : WX) (Γ : List Bool) (B : Hp) (r : Option (R D)) (σ : St) (Q : VK) : Prop := match r with
  | none => False
  | some (.ok a ρ) => ∀ p ds vs H ow, a = .list ds → Rel (w.plus p) Γ ρ ow σ H → ¬ OF w ow p → w.H0 p = none → H p = some (.lst vs) → RpAll w.K (vis (w.plus p) ow H) vs ds → ds.length ≤ sizeLine → Same B (vis (w.plus p) ow H) → Q (.ref p) H
  | some (.ex e ρ) => XW w W e ρ σ
def tO (w : Wd) (W : WX) (Γ Γ' : List Bool) (x : M D) : TE := fun σ H Q => ∃ ρ ow, Rel w Γ ρ ow σ H ∧ PostO w W Γ' (vis w ow H) (x ρ) σ Q
def RD (w : Wd) : St → Ow → Hp → V → D → Prop := fun _ ow H v d => Rp w.K (vis w ow H) v d
def RDs (w : Wd) : St → Ow → Hp → List V → List D → Prop := fun _ ow H v d => RpAll w.K (vis w ow H) v d
def RP1 (w : Wd) (σ : St) (ow : Ow) (H : Hp) (v : V) : Pd → Prop
  | .d d => Rp w.K (vis w ow H) v d
  | .s i => σ[i]? = some (some v)
def RP (w : Wd) : St → Ow → Hp → V → Pd → Prop := fun σ ow H v p => RP1 w σ ow H v p
inductive RPs (w : Wd) : St → Ow → Hp → List V → List Pd → Prop
  | nil {σ : St} {ow : Ow} {H : Hp} : RPs w σ ow H [] []
  | cons {σ : St} {ow : Ow} {H : Hp} {v : V} {p : Pd} {vs : List V} {ps : List Pd} : RP1 w σ ow H v p → RPs w σ ow H vs ps → RPs w σ ow H (v :: vs) (p :: ps)
def RE {α : Type} : St → Ow → Hp → α → α → Prop := fun _ _ _ b a => b = a

section
variable {w : Wd} {W : WX} {Γ Γ' Γ1 Γ2 : List Bool} {α α' β β' : Type} {ρ : Rho} {ow : Ow} {σ : St} {H B B' : Hp}
theorem post_bnd {Rs : St → Ow → Hp → β → α → Prop} {Rs' : St → Ow → Hp → β' → α' → Prop} {x : M α} {f : α → M α'} {Q : β' → Hp → Prop} {K : β → Hp → Prop}
    (h : Post w W Γ' Rs' B (M.bnd x f ρ) σ Q) (k : ∀ a ρ1 b H1 ow1, x ρ = some (.ok a ρ1) → Post w W Γ' Rs' B (f a ρ1) σ Q → Rel w Γ1 ρ1 ow1 σ H1 → Same B' (vis w ow1 H1) → Rs σ ow1 H1 b a → K b H1) :
    Post w W Γ1 Rs B' (x ρ) σ K := by
  unfold M.bnd at h
  cases e : x ρ with
  | none => rw [e] at h; exact h
  | some r =>
    rw [e] at h
    cases r with
    | ok a ρ1 => exact fun b H1 ow1 r1 s1 q => k a ρ1 b H1 ow1 e h r1 s1 q
    | ex e ρ1 => exact h
theorem postO_bnd {Rs : St → Ow → Hp → β → α → Prop} {x : M α} {f : α → M D} {Q : VK} {K : β → Hp → Prop}
    (h : PostO w W Γ' B (M.bnd x f ρ) σ Q) (k : ∀ a ρ1 b H1 ow1, x ρ = some (.ok a ρ1) → PostO w W Γ' B (f a ρ1) σ Q → Rel w Γ1 ρ1 ow1 σ H1 → Same B' (vis w ow1 H1) → Rs σ ow1 H1 b a → K b H1) :
    Post w W Γ1 Rs B' (x ρ) σ K := by
  unfold M.bnd at h
  cases e : x ρ with
  | none => rw [e] at h; exact h
  | some r =>
    rw [e] at h
    cases r with
    | ok a ρ1 => exact fun b H1 ow1 r1 s1 q => k a ρ1 b H1 ow1 e h r1 s1 q
    | ex e ρ1 => exact h
theorem RP1.mono {ow' : Ow} {H' : Hp} {v : V} {p : Pd} (h : RP1 w σ ow H v p) (e : Same (vis w ow H) (vis w ow' H')) : RP1 w σ ow' H' v p := by
  cases p with
  | d d => exact Rp.mono h e
  | s i => exact h
theorem RPs.mono {ow' : Ow} {H' : Hp} : ∀ {vs : List V} {ps : List Pd}, RPs w σ ow H vs ps → Same (vis w ow H) (vis w ow' H') → RPs w σ ow' H' vs ps
  | _, _, .nil, _ => .nil
  | _, _, .cons a r, e => .cons (a.mono e) (r.mono e)
/-- what a slot holds -/
theorem Rel.look (r : Rel w Γ ρ ow σ H) {i : Nat} {d : D} (e : ρ[i]? = some (some d)) : ∃ v, σ[i]? = some (some v) ∧ RpT w.K H (vis w ow H) v d := by
  by_cases g : Γ[i]? = some true
  · obtain ⟨p, _, h2, ds, vs, rfl, h3, h4, h5⟩ := r.own i d e g
    exact ⟨_, h2, .inr ⟨p, ds, vs, rfl, rfl, h3, h4, h5⟩⟩
  · obtain ⟨v, h1, h2⟩ := r.sh i d e g
    exact ⟨v, h1, .inl h2⟩
theorem rdP_look {p : Pd} {v : V} (r : Rel w Γ ρ ow σ H) (h : RP1 w σ ow H v p) : (∃ d, rdP p ρ = some (.ok d ρ) ∧ RpT w.K H (vis w ow H) v d) ∨ rdP p ρ = none := by
  cases p with
  | d d => exact .inl ⟨d, rfl, .inl h⟩
  | s i =>
    have hr : rdP (.s i) ρ = (match ρ[i]? with | some (some d) => some (.ok d ρ) | _ => none) := rfl
    rw [hr]
    cases e : ρ[i]? with
    | none => exact .inr rfl
    | some o =>
      cases o with
      | none => exact .inr rfl
      | some d =>
        obtain ⟨u, h1, h2⟩ := r.look e
        have h : σ[i]? = some (some v) := h
        rw [h] at h1
        cases h1
        exact .inl ⟨d, rfl, h2⟩
theorem post_rd {Rs : St → Ow → Hp → β → α → Prop} {p : Pd} {v : V} {f : D → M α} {Q : β → Hp → Prop} (r : Rel w Γ ρ ow σ H) (hp : RP1 w σ ow H v p) (h : Post w W Γ' Rs B (M.bnd (rdP p) f ρ) σ Q) :
    ∃ d, RpT w.K H (vis w ow H) v d ∧ Post w W Γ' Rs B (f d ρ) σ Q := by
  unfold M.bnd at h
  rcases rdP_look r hp with ⟨d, e, q⟩ | e
  · rw [e] at h; exact ⟨d, q, h⟩
  · rw [e] at h; exact h.elim
theorem postO_rd {p : Pd} {v : V} {f : D → M D} {Q : VK} (r : Rel w Γ ρ ow σ H) (hp : RP1 w σ ow H v p) (h : PostO w W Γ' B (M.bnd (rdP p) f ρ) σ Q) :
    ∃ d, RpT w.K H (vis w ow H) v d ∧ PostO w W Γ' B (f d ρ) σ Q := by
  unfold M.bnd at h
  rcases rdP_look r hp with ⟨d, e, q⟩ | e
  · rw [e] at h; exact ⟨d, q, h⟩
  · rw [e] at h; exact h.elim
theorem rdPs_look : ∀ {ps : List Pd} {vs : List V}, Rel w Γ ρ ow σ H → RPs w σ ow H vs ps → (∃ ds, rdPs ps ρ = some (.ok ds ρ) ∧ RpTs w.K H (vis w ow H) vs ds) ∨ rdPs ps ρ = none
  | [], _, _, h => by cases h; exact .inl ⟨[], rfl, .nil⟩
  | p :: ps, _, r, h => by
    cases h with
    | cons a t =>
      unfold rdPs M.bnd
      rcases rdP_look r a with ⟨d, e, q⟩ | e
      · rw [e]
        show (∃ ds, M.bnd (rdPs ps) _ ρ = _ ∧ _) ∨ M.bnd (rdPs ps) _ ρ = none
        unfold M.bnd
        rcases rdPs_look r t with ⟨ds, e2, q2⟩ | e2
        · rw [e2]; exact .inl ⟨d :: ds, rfl, .cons q q2⟩
        · rw [e2]; exact .inr rfl
      · rw [e]; exact .inr rfl
theorem post_rds {Rs : St → Ow → Hp → β → α → Prop} {ps : List Pd} {vs : List V} {f : List D → M α} {Q : β → Hp → Prop} (r : Rel w Γ ρ ow σ H) (hp : RPs w σ ow H vs ps) (h : Post w W Γ' Rs B (M.bnd (rdPs ps) f ρ) σ Q) :
    ∃ ds, RpTs w.K H (vis w ow H) vs ds ∧ Post w W Γ' Rs B (f ds ρ) σ Q := by
  unfold M.bnd at h
  rcases rdPs_look r hp with ⟨d, e, q⟩ | e
  · rw [e] at h; exact ⟨d, q, h⟩
  · rw [e] at h; exact h.elim
theorem postO_rds {ps : List Pd} {vs : List V} {f : List D → M D} {Q : VK} (r : Rel w Γ ρ ow σ H) (hp : RPs w σ ow H vs ps) (h : PostO w W Γ' B (M.bnd (rdPs ps) f ρ) σ Q) :
    ∃ ds, RpTs w.K H (vis w ow H) vs ds ∧ PostO w W Γ' B (f ds ρ) σ Q := by
  unfold M.bnd at h
  rcases rdPs_look r hp with ⟨d, e, q⟩ | e
  · rw [e] at h; exact ⟨d, q, h⟩
  · rw [e] at h; exact h.elim
/-- the end of an operation -/
theorem post_fin (wk : WdOk w) {o : Option D} {Q : VK} (r : Rel w Γ ρ ow σ H) (s : Same B (vis w ow H)) (h : Post w W Γ (RD w) B (M.lift o ρ) σ Q) : ∃ d, o = some d ∧ Fin w.K (vis w ow H) H d Q := by
  cases o with
  | none => exact h.elim
  | some d =>
    have h : ∀ b H ow, Rel w Γ ρ ow σ H → Same B (vis w ow H) → RD w σ ow H b d → Q b H := h
    refine ⟨d, rfl, ⟨fun v q => h v H ow r s q, fun ds p vs e hp q z => ?_, fun ds p vs e hp q z => ?_⟩⟩
    · subst e
      obtain ⟨r2, nf, n0, np, lv⟩ := r.alloc (o := .lst vs) wk hp
      refine h _ _ ow r2 (s.trans lv) (.lst (.of ?_) (q.mono lv) (okLen_iff.mpr z))
      show hid _ _ _ = _
      rw [hid_out nf, upd_same]
    · subst e
      obtain ⟨r2, nf, n0, np, lv⟩ := r.alloc (o := .tup vs) wk hp
      refine h _ _ ow r2 (s.trans lv) (.tup (.of ?_) (q.mono lv) (okLen_iff.mpr z))
      show hid _ _ _ = _
      rw [hid_out nf, upd_same]
theorem post_finO (wk : WdOk w) {o : Option D} {Q : VK} (hl : ∀ d, o = some d → ∃ ds, d = .list ds) (r : Rel w Γ ρ ow σ H) (s : Same B (vis w ow H)) (h : PostO w W Γ B (M.lift o ρ) σ Q) : ∃ d, o = some d ∧ FinO w.K (vis w ow H) H d Q := by
  cases o with
  | none => exact h.elim
  | some d =>
    obtain ⟨ds, rfl⟩ := hl d rfl
    refine ⟨_, rfl, ds, rfl, fun p vs hp q z => ?_⟩
    obtain ⟨r2, nf, n0, lv⟩ := r.allocP (o := .lst vs) wk hp
    exact h p ds vs _ ow rfl r2 nf n0 upd_same (q.mono lv) z (s.trans lv)
/-- a new list may be laid open to all -/
theorem tO_val {x : M D} {Q : VK} (hl : ∀ ρ d ρ', x ρ = some (.ok d ρ') → ∃ ds, d = .list ds) (h : tM w W Γ Γ' (RD w) x σ H Q) : tO w W Γ Γ' x σ H Q := by
  obtain ⟨ρ, ow, r, h⟩ := h
  refine ⟨ρ, ow, r, ?_⟩
  cases e : x ρ with
  | none => rw [e] at h; exact h
  | some y =>
    rw [e] at h
    cases y with
    | ex e ρ1 => exact h
    | ok d ρ1 =>
      intro p ds vs H1 ow1 ed r1 nf n0 hp q z s
      subst ed
      obtain ⟨r2, lv⟩ := r1.unplus
      refine h _ _ ow1 r2 (s.trans lv) (.lst (.of ?_) (q.mono lv) (okLen_iff.mpr z))
      show hid _ _ _ = _
      rw [hid_out nf, hp]
end
theorem PE.imp {X : Cx} {e : Expr} {t t' : TE} (h : PE X e t) (i : ∀ σ H Q, t' σ H Q → t σ H Q) : PE X e t' := ⟨fun pins s σ H Q I q => h.run pins s σ H Q I (i σ H Q q)⟩
theorem PT.imp {X : Cx} {e : Expr} {t t' : TT} (h : PT X e t) (i : ∀ σ H Q, t' σ H Q → t σ H Q) : PT X e t' := ⟨fun pins s σ H Q I q => h.run pins s σ H Q I (i σ H Q q)⟩
theorem PW.imp {X : Cx} {e : Expr} {t t' : TT} (h : PW X e t) (i : ∀ σ H Q, t' σ H Q → t σ H Q) : PW X e t' := ⟨fun wh pins s σ H Q I q => h.run wh pins s σ H Q I (i σ H Q q)⟩
theorem PA.imp {X : Cx} {e : List Expr} {t t' : TA} (h : PA X e t) (i : ∀ σ H Q, t' σ H Q → t σ H Q) : PA X e t' := ⟨fun pos pins s σ H Q I q => h.run pos pins s σ H Q I (i σ H Q q)⟩
theorem PS.imp {X : Cx} {e : Stmt} {t t' : TS} (h : PS X e t) (i : ∀ D σ H, t' D σ H → t D σ H) : PS X e t' := ⟨fun pins s σ H D I q => h.run pins s σ H D I (i D σ H q)⟩
theorem PSs.imp {X : Cx} {e : List Stmt} {t t' : TS} (h : PSs X e t) (i : ∀ D σ H, t' D σ H → t D σ H) : PSs X e t' := ⟨fun pins s σ H D I q => h.run pins s σ H D I (i D σ H q)⟩

/-! ### the judgements of an expression -/
/-- in value position, as an operand, as a new list, as a test -/
def JE (X : Cx) (w : Wd) (W : WX) (e : Expr) (Γ Γ' : List Bool) (x : M D) : Prop := PE X e (tM w W Γ Γ' (RD w) x)
def JP (X : Cx) (w : Wd) (W : WX) (e : Expr) (Γ Γ' : List Bool) (x : M Pd) : Prop := PE X e (tM w W Γ Γ' (RP w) x)
def JO (X : Cx) (w : Wd) (W : WX) (e : Expr) (Γ Γ' : List Bool) (x : M D) : Prop := PE X e (tO w W Γ Γ' x)
def JT (X : Cx) (w : Wd) (W : WX) (e : Expr) (Γ Γ' : List Bool) (x : M Bool) : Prop := PT X e (tM w W Γ Γ' RE x)
def JEs (X : Cx) (w : Wd) (W : WX) (e : List Expr) (Γ Γ' : List Bool) (x : M (List D)) : Prop := PA X e (tM w W Γ Γ' (RDs w) x)
def JPs (X : Cx) (w : Wd) (W : WX) (e : List Expr) (Γ Γ' : List Bool) (x : M (List Pd)) : Prop := PA X e (tM w W Γ Γ' (RPs w) x)
section
variable {X : Cx} {w : Wd} {W : WX} {Γ Γ' Γ1 Γ2 : List Bool} {e a b : Expr} {pos : Pos}
theorem JE.opnd {t : E} {x : M D} (h : JE X w W e Γ Γ' x) (ht : ∀ i, t ≠ .var i) : JP X w W e Γ Γ' (opnd t x) := by
  have : VF.opnd t x = M.bnd x fun d => M.ret (.d d) := by cases t <;> first | rfl | exact absurd rfl (ht _)
  rw [this]
  refine PE.imp h fun σ H Q ⟨ρ, ow, r, q⟩ => ⟨ρ, ow, r, ?_⟩
  exact post_bnd q fun d ρ1 v H1 ow1 _ q r1 s1 rs => q v H1 ow1 r1 s1 rs
theorem JP.var {i : Nat} {x : M D} (h : PE X e (tVar i)) : JP X w W e Γ Γ (opnd (.var i) x) := by
  refine PE.imp h fun σ H Q ⟨ρ, ow, r, q⟩ => ?_
  have hr : VF.opnd (.var i) x ρ = (match ρ[i]? with | some (some _) => some (.ok (.s i) ρ) | _ => none) := rfl
  rw [hr] at q
  cases e : ρ[i]? with
  | none => rw [e] at q; exact q.elim
  | some o =>
    cases o with
    | none => rw [e] at q; exact q.elim
    | some d =>
      rw [e] at q
      obtain ⟨v, h1, h2⟩ := r.look e
      exact ⟨v, h1, q v H ow r (Same.refl _) h1⟩
/-- a name whose list nobody else has is laid open when it is handed on -/
theorem JE.var {i : Nat} (h : PE X e (tVar i)) (hk : w.pa i = none) : JE X w W e Γ (Γ.set i false) (rdP (.s i)) := by
  refine PE.imp h fun σ H Q ⟨ρ, ow, r, q⟩ => ?_
  have hr : rdP (.s i) ρ = (match ρ[i]? with | some (some d) => some (.ok d ρ) | _ => none) := rfl
  rw [hr] at q
  cases e : ρ[i]? with
  | none => rw [e] at q; exact q.elim
  | some o =>
    cases o with
    | none => rw [e] at q; exact q.elim
    | some d =>
      rw [e] at q
      obtain ⟨ow', r', s'⟩ := r.freeze i hk
      obtain ⟨v, h1, h2⟩ := r'.sh i d e (get_setF.mpr (.inl rfl))
      exact ⟨v, h1, q v H ow' r' s' h2⟩
theorem JE.varS {i : Nat} (h : PE X e (tVar i)) (g : Γ[i]? ≠ some true) : JE X w W e Γ Γ (rdP (.s i)) := by
  refine PE.imp h fun σ H Q ⟨ρ, ow, r, q⟩ => ?_
  have hr : rdP (.s i) ρ = (match ρ[i]? with | some (some d) => some (.ok d ρ) | _ => none) := rfl
  rw [hr] at q
  cases e : ρ[i]? with
  | none => rw [e] at q; exact q.elim
  | some o =>
    cases o with
    | none => rw [e] at q; exact q.elim
    | some d =>
      rw [e] at q
      obtain ⟨v, h1, h2⟩ := r.sh i d e g
      exact ⟨v, h1, q v H ow r (Same.refl _) h2⟩
theorem JE.con {v : V} {d : D} (h : PE X e (tC v)) (r : ∀ B, Rp w.K B v d) : JE X w W e Γ Γ (M.ret d) :=
  PE.imp h fun σ H Q ⟨ρ, ow, r', q⟩ => q v H ow r' (Same.refl _) (r _)
theorem JEs.nil : JEs X w W [] Γ Γ (M.ret []) := PA.imp pa_nil fun σ H Q ⟨ρ, ow, r, q⟩ => q [] H ow r (Same.refl _) .nil
theorem JEs.cons {x : M D} {es : List Expr} {y : M (List D)} (h : JE X w W e Γ Γ1 x) (g : JEs X w W es Γ1 Γ2 y) (hs : starEach (e :: es) X.env = (false, eval e X.env) :: starEach es X.env) :
    JEs X w W (e :: es) Γ Γ2 (M.bnd x fun d => M.bnd y fun ds => M.ret (d :: ds)) :=
  PA.imp (pa_cons h g hs) fun σ H Q ⟨ρ, ow, r, q⟩ => ⟨ρ, ow, r, post_bnd q fun d ρ1 v H1 ow1 _ q r1 s1 rs => ⟨ρ1, ow1, r1, post_bnd q fun ds ρ2 vs H2 ow2 _ q r2 s2 rs2 => q (v :: vs) H2 ow2 r2 (s1.trans s2) (.cons (rs.mono s2) rs2)⟩⟩
theorem JPs.nil : JPs X w W [] Γ Γ (M.ret []) := PA.imp pa_nil fun σ H Q ⟨ρ, ow, r, q⟩ => q [] H ow r (Same.refl _) .nil
theorem JPs.cons {x : M Pd} {es : List Expr} {y : M (List Pd)} (h : JP X w W e Γ Γ1 x) (g : JPs X w W es Γ1 Γ2 y) (hs : starEach (e :: es) X.env = (false, eval e X.env) :: starEach es X.env) :
    JPs X w W (e :: es) Γ Γ2 (M.bnd x fun d => M.bnd y fun ds => M.ret (d :: ds)) :=
  PA.imp (pa_cons h g hs) fun σ H Q ⟨ρ, ow, r, q⟩ => ⟨ρ, ow, r, post_bnd q fun d ρ1 v H1 ow1 _ q r1 s1 rs => ⟨ρ1, ow1, r1, post_bnd q fun ds ρ2 vs H2 ow2 _ q r2 s2 rs2 => q (v :: vs) H2 ow2 r2 (s1.trans s2) (.cons (RP1.mono rs s2) rs2)⟩⟩
/-- the value of an operand handed by a name -/
theorem JPs.consD {x : M D} {es : List Expr} {y : M (List Pd)} (h : JE X w W e Γ Γ1 x) (g : JPs X w W es Γ1 Γ2 y) (hs : starEach (e :: es) X.env = (false, eval e X.env) :: starEach es X.env) :
    JPs X w W (e :: es) Γ Γ2 (M.bnd x fun d => M.bnd y fun ds => M.ret (.d d :: ds)) :=
  PA.imp (pa_cons h g hs) fun σ H Q ⟨ρ, ow, r, q⟩ => ⟨ρ, ow, r, post_bnd q fun d ρ1 v H1 ow1 _ q r1 s1 rs => ⟨ρ1, ow1, r1, post_bnd q fun ds ρ2 vs H2 ow2 _ q r2 s2 rs2 => q (v :: vs) H2 ow2 r2 (s1.trans s2) (.cons (Rp.mono rs s2) rs2)⟩⟩

/-! ### operators -/
theorem JE.op2 (wk : WdOk w) (hK : X.K = w.K) {x y : M Pd} {g : D → D → Option D} {e : Expr} (hp : ∀ {ta tb : TE}, PE X a ta → PE X b tb → PE X e (tOp (rD2 X.K g) ta tb)) (ha : JP X w W a Γ Γ1 x) (hb : JP X w W b Γ1 Γ2 y) :
    JE X w W e Γ Γ2 (M.bnd x fun p => M.bnd y fun q => M.bnd (rdP p) fun u => M.bnd (rdP q) fun v => M.lift (g u v)) := by
  refine PE.imp (hp ha hb) fun σ H Q ⟨ρ, ow, r, q⟩ => ⟨ρ, ow, r, post_bnd q fun p ρ1 v H1 ow1 _ q r1 s1 rs => ⟨ρ1, ow1, r1, post_bnd q fun p2 ρ2 u H2 ow2 _ q r2 s2 rs2 => ?_⟩⟩
  obtain ⟨c, h1, q⟩ := post_rd r2 (RP1.mono rs s2) q
  obtain ⟨d, h2, q⟩ := post_rd r2 rs2 q
  obtain ⟨z, e, f⟩ := post_fin wk r2 (s1.trans s2) q
  rw [hK]
  exact ⟨_, c, d, z, vis_le, h1, h2, e, f⟩
theorem JO.op2 (wk : WdOk w) (hK : X.K = w.K) {x y : M Pd} {g : D → D → Option D} {e : Expr} (hl : ∀ a b d, g a b = some d → ∃ ds, d = .list ds) (hp : ∀ {ta tb : TE}, PE X a ta → PE X b tb → PE X e (tOp (rD2O X.K g) ta tb))
    (ha : JP X w W a Γ Γ1 x) (hb : JP X w W b Γ1 Γ2 y) : JO X w W e Γ Γ2 (M.bnd x fun p => M.bnd y fun q => M.bnd (rdP p) fun u => M.bnd (rdP q) fun v => M.lift (g u v)) := by
  refine PE.imp (hp ha hb) fun σ H Q ⟨ρ, ow, r, q⟩ => ⟨ρ, ow, r, postO_bnd q fun p ρ1 v H1 ow1 _ q r1 s1 rs => ⟨ρ1, ow1, r1, postO_bnd q fun p2 ρ2 u H2 ow2 _ q r2 s2 rs2 => ?_⟩⟩
  obtain ⟨c, h1, q⟩ := postO_rd r2 (RP1.mono rs s2) q
  obtain ⟨d, h2, q⟩ := postO_rd r2 rs2 q
  obtain ⟨z, e, f⟩ := post_finO wk (hl c d) r2 (s1.trans s2) q
  rw [hK]
  exact ⟨_, c, d, z, vis_le, h1, h2, e, f⟩
/-- a subscript: the place is a value -/
theorem JE.ix (wk : WdOk w) (hK : X.K = w.K) {x : M Pd} {y : M D} {g : D → D → Option D} {e : Expr} (hp : ∀ {ta tb : TE}, PE X a ta → PE X b tb → PE X e (tOp (rD2 X.K g) ta tb)) (ha : JP X w W a Γ Γ1 x) (hb : JE X w W b Γ1 Γ2 y) :
    JE X w W e Γ Γ2 (M.bnd x fun p => M.bnd y fun v => M.bnd (rdP p) fun u => M.lift (g u v)) := by
  refine PE.imp (hp ha hb) fun σ H Q ⟨ρ, ow, r, q⟩ => ⟨ρ, ow, r, post_bnd q fun p ρ1 v H1 ow1 _ q r1 s1 rs => ⟨ρ1, ow1, r1, post_bnd q fun p2 ρ2 u H2 ow2 _ q r2 s2 rs2 => ?_⟩⟩
  obtain ⟨c, h1, q⟩ := post_rd r2 (RP1.mono rs s2) q
  obtain ⟨z, e, f⟩ := post_fin wk r2 (s1.trans s2) q
  rw [hK]
  exact ⟨_, c, p2, z, vis_le, h1, .inl rs2, e, f⟩
theorem JE.call (wk : WdOk w) (hK : X.K = w.K) {es : List Expr} {y : M (List Pd)} {g : List D → Option D} {e : Expr} (hp : ∀ {ta : TA}, PA X es ta → PE X e (tCB (rDC X.K g) ta)) (ha : JPs X w W es Γ Γ1 y) :
    JE X w W e Γ Γ1 (M.bnd y fun ps => M.bnd (rdPs ps) fun ds => M.lift (g ds)) := by
  refine PE.imp (hp ha) fun σ H Q ⟨ρ, ow, r, q⟩ => ⟨ρ, ow, r, post_bnd q fun p ρ1 v H1 ow1 _ q r1 s1 rs => ?_⟩
  obtain ⟨c, h1, q⟩ := post_rds r1 rs q
  obtain ⟨z, e, f⟩ := post_fin wk r1 s1 q
  rw [hK]
  exact ⟨_, c, z, vis_le, h1, e, f⟩
theorem JO.call (wk : WdOk w) (hK : X.K = w.K) {es : List Expr} {y : M (List Pd)} {g : List D → Option D} {e : Expr} (hl : ∀ a d, g a = some d → ∃ ds, d = .list ds) (hp : ∀ {ta : TA}, PA X es ta → PE X e (tCB (rDCO X.K g) ta)) (ha : JPs X w W es Γ Γ1 y) :
    JO X w W e Γ Γ1 (M.bnd y fun ps => M.bnd (rdPs ps) fun ds => M.lift (g ds)) := by
  refine PE.imp (hp ha) fun σ H Q ⟨ρ, ow, r, q⟩ => ⟨ρ, ow, r, postO_bnd q fun p ρ1 v H1 ow1 _ q r1 s1 rs => ?_⟩
  obtain ⟨c, h1, q⟩ := postO_rds r1 rs q
  obtain ⟨z, e, f⟩ := post_finO wk (hl c) r1 s1 q
  rw [hK]
  exact ⟨_, c, z, vis_le, h1, e, f⟩
end
end VF

end
section
set_option Elab.async false
set_option linter.all false
set_option autoImplicit false
set_option maxRecDepth 100000
set_option maxHeartbeats 1000000
/-! VE: further expressions: tests, displays, slices, methods, comprehensions. -/
namespace VF
open PySem PySem.Spec L2

section
variable {X : Cx} {w : Wd} {W : WX} {Γ Γ' Γ1 Γ2 Γ3 : List Bool} {e a b c : Expr} {pos : Pos}
theorem Rp.isNon {K : PySem.W.Frag} {B : Hp} {v : V} {d : D} (h : Rp K B v d) : decide (v = .non) = VF.isNon d := by
  obtain ⟨h, _⟩ := h
  cases h <;> rfl
theorem JE.isN {x : M D} (h : JE X w W a Γ Γ' x) {j pos'} : JE X w W (.Compare a [.Is] [.Constant .none j pos'] pos) Γ Γ' (M.bnd x fun d => M.ret (.bool (if false then !isNon d else isNon d))) :=
  PE.imp (pe_cmp (pc_isN h)) fun σ H Q ⟨ρ, ow, r, q⟩ => ⟨ρ, ow, r, post_bnd q fun d ρ1 v H1 ow1 _ q r1 s1 rs => q _ H1 ow1 r1 s1 (by rw [rs.isNon]; exact .bl)⟩
theorem JE.notN {x : M D} (h : JE X w W a Γ Γ' x) {j pos'} : JE X w W (.Compare a [.IsNot] [.Constant .none j pos'] pos) Γ Γ' (M.bnd x fun d => M.ret (.bool (if true then !isNon d else isNon d))) :=
  PE.imp (pe_cmp (pc_notN h)) fun σ H Q ⟨ρ, ow, r, q⟩ => ⟨ρ, ow, r, post_bnd q fun d ρ1 v H1 ow1 _ q r1 s1 rs => q _ H1 ow1 r1 s1 (by rw [rs.isNon]; exact .bl)⟩
theorem JE.neg {x : M D} (h : JE X w W a Γ Γ' x) : JE X w W (.UnaryOp .USub a pos) Γ Γ' (M.bnd x fun d => match d with
    | .int i => M.ret (.int (-i))
    | _ => fun _ => none) :=
  PE.imp (pe_un un_neg h) fun σ H Q ⟨ρ, ow, r, q⟩ => ⟨ρ, ow, r, post_bnd q fun d ρ1 v H1 ow1 _ q r1 s1 rs => by
    cases d with
    | int i => exact ⟨i, rs.unint, q _ H1 ow1 r1 s1 .int⟩
    | _ => exact q.elim⟩
/-! ### tests -/
theorem JT.val {x : M D} (h : JE X w W e Γ Γ' x) (he : ∀ whole, isTrue e X.env whole = (do let v ← whole; standAt e.pos; holding [v] (truthy v))) : JT X w W e Γ Γ' (M.bnd x asB) :=
  PT.imp (pt_val h he) fun σ H Q ⟨ρ, ow, r, q⟩ => ⟨ρ, ow, r, post_bnd q fun d ρ1 v H1 ow1 _ q r1 s1 rs => by
    cases d with
    | bool b => exact ⟨b, rs.unbool, q _ H1 ow1 r1 s1 rfl⟩
    | _ => exact q.elim⟩
/-- a value whose reading is known, as a test -/
theorem JT.of_tB {t : TE} {x : M D} (h : PT X e (tB t)) (hi : ∀ σ H Q, tM w W Γ Γ' (RD w) x σ H Q → t σ H Q) : JT X w W e Γ Γ' (M.bnd x asB) :=
  PT.imp h fun σ H Q ⟨ρ, ow, r, q⟩ => hi _ _ _ ⟨ρ, ow, r, post_bnd q fun d ρ1 v H1 ow1 _ q r1 s1 rs => by
    cases d with
    | bool b => exact ⟨b, rs.unbool, q _ H1 ow1 r1 s1 rfl⟩
    | _ => exact q.elim⟩
theorem JT.cmp (wk : WdOk w) (hK : X.K = w.K) {x y : M Pd} {g : D → D → Option D} {op : CmpOp} (ho : OpR X (compareOp op) (rD2 X.K g)) (ha : JP X w W a Γ Γ1 x) (hb : JP X w W b Γ1 Γ2 y) (hm : behindInMarks op b = false) :
    JT X w W (.Compare a [op] [b] pos) Γ Γ2 (M.bnd (M.bnd x fun p => M.bnd y fun q => M.bnd (rdP p) fun u => M.bnd (rdP q) fun v => M.lift (g u v)) asB) :=
  JT.of_tB (pt_cmpR ho ha hb hm) fun σ H Q ⟨ρ, ow, r, q⟩ => ⟨ρ, ow, r, post_bnd q fun p ρ1 v H1 ow1 _ q r1 s1 rs => ⟨ρ1, ow1, r1, post_bnd q fun p2 ρ2 u H2 ow2 _ q r2 s2 rs2 => by
    obtain ⟨c, h1, q⟩ := post_rd r2 (RP1.mono rs s2) q
    obtain ⟨d, h2, q⟩ := post_rd r2 rs2 q
    obtain ⟨z, e, f⟩ := post_fin wk r2 (s1.trans s2) q
    rw [hK]
    exact ⟨_, c, d, z, vis_le, h1, h2, e, f⟩⟩⟩
theorem JT.isN {x : M D} (h : JE X w W a Γ Γ' x) {j pos'} : JT X w W (.Compare a [.Is] [.Constant .none j pos'] pos) Γ Γ' (M.bnd (M.bnd x fun d => M.ret (.bool (if false then !isNon d else isNon d))) asB) :=
  JT.of_tB (pt_cmp (pc_isN h)) fun σ H Q ⟨ρ, ow, r, q⟩ => ⟨ρ, ow, r, post_bnd q fun d ρ1 v H1 ow1 _ q r1 s1 rs => q _ H1 ow1 r1 s1 (by rw [rs.isNon]; exact .bl)⟩
theorem JT.notN {x : M D} (h : JE X w W a Γ Γ' x) {j pos'} : JT X w W (.Compare a [.IsNot] [.Constant .none j pos'] pos) Γ Γ' (M.bnd (M.bnd x fun d => M.ret (.bool (if true then !isNon d else isNon d))) asB) :=
  JT.of_tB (pt_cmp (pc_notN h)) fun σ H Q ⟨ρ, ow, r, q⟩ => ⟨ρ, ow, r, post_bnd q fun d ρ1 v H1 ow1 _ q r1 s1 rs => q _ H1 ow1 r1 s1 (by rw [rs.isNon]; exact .bl)⟩
def JW (X : Cx) (w : Wd) (W : WX) (e : Expr) (Γ Γ' : List Bool) (x : M Bool) : Prop := PW X e (tM w W Γ Γ' RE x)
def andM (x y : M Bool) : M Bool := M.bnd x fun c => if c then y else M.ret false
def orM (x y : M Bool) : M Bool := M.bnd x fun c => if c then M.ret true else y
theorem bnd_assoc {α β γ : Type} (x : M α) (f : α → M β) (g : β → M γ) : M.bnd (M.bnd x f) g = M.bnd x fun a => M.bnd (f a) g := by
  funext ρ
  unfold M.bnd
  cases x ρ with
  | none => rfl
  | some r => cases r <;> rfl
theorem ret_bnd {α β : Type} (a : α) (f : α → M β) : M.bnd (M.ret a) f = f a := rfl
theorem bnd_ret (x : M Bool) : (M.bnd x fun c => M.ret c) = x := by
  funext ρ
  unfold M.bnd M.ret
  cases x ρ with
  | none => rfl
  | some r => cases r <;> rfl
theorem and_asB (x y : M Bool) : M.bnd (M.bnd x fun c => if c then M.bnd y fun c => M.ret (.bool c) else M.ret (.bool false)) asB = andM x y := by
  rw [bnd_assoc]
  unfold andM
  congr 1
  funext c
  cases c
  · rfl
  · show M.bnd (M.bnd y fun c => M.ret (PyData.bool c)) asB = y
    rw [bnd_assoc]
    exact bnd_ret y
theorem or_asB (x y : M Bool) : M.bnd (M.bnd x fun c => if c then M.ret (.bool true) else M.bnd y fun c => M.ret (.bool c)) asB = orM x y := by
  rw [bnd_assoc]
  unfold orM
  congr 1
  funext c
  cases c
  · show M.bnd (M.bnd y fun c => M.ret (PyData.bool c)) asB = y
    rw [bnd_assoc]
    exact bnd_ret y
  · rfl
theorem not_asB (x : M Bool) : M.bnd (M.bnd x fun c => M.ret (.bool (!c))) asB = M.bnd x fun c => M.ret (!c) := by
  rw [bnd_assoc]; rfl
variable {x y : M Bool} {rest : List Expr}
theorem JW.and1 (h : JT X w W a Γ Γ' x) : JW X w W (.BoolOp .And [a] pos) Γ Γ' x := pw_and1 h
theorem JW.or1 (h : JT X w W a Γ Γ' x) : JW X w W (.BoolOp .Or [a] pos) Γ Γ' x := pw_or1 h
theorem JW.and (h : JT X w W a Γ Γ1 x) (g : JW X w W (.BoolOp .And (b :: rest) pos) Γ1 Γ1 y) : JW X w W (.BoolOp .And (a :: b :: rest) pos) Γ Γ1 (andM x y) :=
  PW.imp (pw_and h g) fun σ H Q ⟨ρ, ow, r, q⟩ => ⟨ρ, ow, r, post_bnd q fun d ρ1 v H1 ow1 _ q r1 s1 rs => by
    obtain rfl : v = d := rs
    cases v with
    | false => exact iteF (q false H1 ow1 r1 s1 rfl)
    | true => exact iteT ⟨ρ1, ow1, r1, by
        have q : Post w W Γ1 RE (vis w ow H) (y ρ1) σ Q := q
        cases e : y ρ1 with
        | none => rw [e] at q; exact q
        | some z => rw [e] at q; cases z with
          | ex => exact q
          | ok c ρ2 => exact fun b H ow r s => q b H ow r (s1.trans s)⟩⟩
theorem JW.or (h : JT X w W a Γ Γ1 x) (g : JW X w W (.BoolOp .Or (b :: rest) pos) Γ1 Γ1 y) : JW X w W (.BoolOp .Or (a :: b :: rest) pos) Γ Γ1 (orM x y) :=
  PW.imp (pw_or h g) fun σ H Q ⟨ρ, ow, r, q⟩ => ⟨ρ, ow, r, post_bnd q fun d ρ1 v H1 ow1 _ q r1 s1 rs => by
    obtain rfl : v = d := rs
    cases v with
    | true => exact iteT (q true H1 ow1 r1 s1 rfl)
    | false => exact iteF ⟨ρ1, ow1, r1, by
        have q : Post w W Γ1 RE (vis w ow H) (y ρ1) σ Q := q
        cases e : y ρ1 with
        | none => rw [e] at q; exact q
        | some z => rw [e] at q; cases z with
          | ex => exact q
          | ok c ρ2 => exact fun b H ow r s => q b H ow r (s1.trans s)⟩⟩
theorem JT.not (h : JT X w W a Γ Γ' x) : JT X w W (.UnaryOp .Not a pos) Γ Γ' (M.bnd x fun c => M.ret (!c)) :=
  PT.imp (pt_not h) fun σ H Q ⟨ρ, ow, r, q⟩ => ⟨ρ, ow, r, post_bnd q fun d ρ1 v H1 ow1 _ q r1 s1 rs => by
    obtain rfl : v = d := rs
    exact q _ H1 ow1 r1 s1 rfl⟩
/-- the same base, later -/
theorem post_base {α β : Type} {Rs : St → Ow → Hp → β → α → Prop} {B B' : Hp} {r : Option (R α)} {σ : St} {Q : β → Hp → Prop} (s : Same B B') (q : Post w W Γ Rs B r σ Q) : Post w W Γ Rs B' r σ Q := by
  cases r with
  | none => exact q
  | some z => cases z with
    | ex => exact q
    | ok c ρ2 => exact fun b H ow r s' => q b H ow r (s.trans s')
/-! values of and, or, not -/
variable {u v : M D}
theorem tM_asB (h : JE X w W e Γ Γ' u) : PE X e (tM w W Γ Γ' (fun σ ow H (b : V) (c : Bool) => b = .bl c) (M.bnd u asB)) :=
  PE.imp h fun σ H Q ⟨ρ, ow, r, q⟩ => ⟨ρ, ow, r, post_bnd q fun d ρ1 v H1 ow1 _ q r1 s1 rs => by
    cases d with
    | bool b => exact q _ H1 ow1 r1 s1 rs.unbool
    | _ => exact q.elim⟩
theorem JE.and (h : JE X w W a Γ Γ1 u) (g : JE X w W (.BoolOp .And (b :: rest) pos) Γ1 Γ1 v) : JE X w W (.BoolOp .And (a :: b :: rest) pos) Γ Γ1 (M.bnd (M.bnd u asB) fun c => if c then M.bnd (M.bnd v asB) fun c => M.ret (.bool c) else M.ret (.bool false)) :=
  PE.imp (pe_and (tM_asB h) (tM_asB g)) fun σ H Q ⟨ρ, ow, r, q⟩ => ⟨ρ, ow, r, post_bnd q fun d ρ1 v H1 ow1 _ q r1 s1 rs => ⟨d, rs, by
    cases d with
    | false => exact iteF (q _ H1 ow1 r1 s1 .bl)
    | true => exact iteT ⟨ρ1, ow1, r1, post_bnd (post_base s1 q) fun d ρ2 v H2 ow2 _ q r2 s2 rs2 => by
        rw [rs2]; exact q _ H2 ow2 r2 s2 .bl⟩⟩⟩
theorem JE.or (h : JE X w W a Γ Γ1 u) (g : JE X w W (.BoolOp .Or (b :: rest) pos) Γ1 Γ1 v) : JE X w W (.BoolOp .Or (a :: b :: rest) pos) Γ Γ1 (M.bnd (M.bnd u asB) fun c => if c then M.ret (.bool true) else M.bnd (M.bnd v asB) fun c => M.ret (.bool c)) :=
  PE.imp (pe_or (tM_asB h) (tM_asB g)) fun σ H Q ⟨ρ, ow, r, q⟩ => ⟨ρ, ow, r, post_bnd q fun d ρ1 v H1 ow1 _ q r1 s1 rs => ⟨d, rs, by
    cases d with
    | true => exact iteT (q _ H1 ow1 r1 s1 .bl)
    | false => exact iteF ⟨ρ1, ow1, r1, post_bnd (post_base s1 q) fun d ρ2 v H2 ow2 _ q r2 s2 rs2 => by
        rw [rs2]; exact q _ H2 ow2 r2 s2 .bl⟩⟩⟩
theorem JE.one {op : BoolOp} (h : JE X w W a Γ Γ1 u) : JE X w W (.BoolOp op [a] pos) Γ Γ1 u := pe_one h
theorem JE.not (h : JE X w W a Γ Γ1 u) : JE X w W (.UnaryOp .Not a pos) Γ Γ1 (M.bnd (M.bnd u asB) fun c => M.ret (.bool (!c))) :=
  PE.imp (pe_not (tM_asB h)) fun σ H Q ⟨ρ, ow, r, q⟩ => ⟨ρ, ow, r, post_bnd q fun d ρ1 v H1 ow1 _ q r1 s1 rs => ⟨d, rs, q _ H1 ow1 r1 s1 .bl⟩⟩
theorem JE.ite (hc : JT X w W c Γ Γ1 x) (ha : JE X w W a Γ1 Γ2 u) (hb : JE X w W b Γ1 Γ2 v) : JE X w W (.IfExp c a b pos) Γ Γ2 (M.bnd x fun c => if c then u else v) :=
  PE.imp (pe_ifExp hc ha hb) fun σ H Q ⟨ρ, ow, r, q⟩ => ⟨ρ, ow, r, post_bnd q fun d ρ1 k H1 ow1 _ q r1 s1 rs => by
    obtain rfl : k = d := rs
    cases k with
    | true => exact iteT ⟨ρ1, ow1, r1, post_base s1 q⟩
    | false => exact iteF ⟨ρ1, ow1, r1, post_base s1 q⟩⟩
/-! ### displays -/
variable {es : List Expr} {ys : M (List D)}
theorem JE.tup (wk : WdOk w) {k : Nat} (h : JEs X w W es Γ Γ1 ys) : JE X w W (.Tuple es k pos) Γ Γ1 (M.bnd ys fun ds => if okLen ds.length then M.ret (.tuple ds) else fun _ => none) :=
  PE.imp (pe_tup h) fun σ H Q ⟨ρ, ow, r, q⟩ => ⟨ρ, ow, r, post_bnd q fun ds ρ1 vs H1 ow1 _ q r1 s1 rs => by
    by_cases z : okLen ds.length = true
    · simp only [z, if_true] at q
      refine ⟨by rw [rs.len]; exact okLen_iff.mp z, fun p hp => ?_⟩
      obtain ⟨r2, nf, n0, np, lv⟩ := r1.alloc (o := .tup vs) wk hp
      refine q _ _ ow1 r2 (s1.trans lv) (.tup (.of ?_) (rs.mono lv) z)
      show hid _ _ _ = _
      rw [hid_out nf, upd_same]
    · rw [if_neg z] at q; exact q.elim⟩
theorem JO.lst (wk : WdOk w) (h : JEs X w W es Γ Γ1 ys) : JO X w W (.List es pos) Γ Γ1 (M.bnd ys fun ds => if okLen ds.length then M.ret (.list ds) else fun _ => none) :=
  PE.imp (pe_lst h) fun σ H Q ⟨ρ, ow, r, q⟩ => ⟨ρ, ow, r, postO_bnd q fun ds ρ1 vs H1 ow1 _ q r1 s1 rs => by
    by_cases z : okLen ds.length = true
    · simp only [z, if_true] at q
      refine ⟨by rw [rs.len]; exact okLen_iff.mp z, fun p hp => ?_⟩
      obtain ⟨r2, nf, n0, lv⟩ := r1.allocP (o := .lst vs) wk hp
      exact q p ds vs _ ow1 rfl r2 nf n0 upd_same (rs.mono lv) (okLen_iff.mp z) (s1.trans lv)
    · rw [if_neg z] at q; exact q.elim⟩
/-! ### slices -/
def JOp (X : Cx) (w : Wd) (W : WX) (e : Option Expr) (Γ Γ' : List Bool) (x : M (Option Int)) : Prop := PO X e (tM w W Γ Γ' RE x)
theorem JOp.no : JOp X w W none Γ Γ (M.ret none) := ⟨fun pins s σ H Q I ⟨ρ, ow, r, q⟩ => po_none.run pins s σ H Q I (q _ H ow r (Same.refl _) rfl)⟩
theorem JOp.so (h : JE X w W e Γ Γ1 u) : JOp X w W (some e) Γ Γ1 (M.bnd u fun x => match x with
    | .int i => M.ret (some i)
    | _ => fun _ => none) := ⟨fun pins s σ H Q I ⟨ρ, ow, r, q⟩ => (po_some h).run pins s σ H Q I ⟨ρ, ow, r, post_bnd q fun d ρ1 v H1 ow1 _ q r1 s1 rs => by
    cases d with
    | int i => exact ⟨i, rs.unint, q _ H1 ow1 r1 s1 rfl⟩
    | _ => exact q.elim⟩⟩
theorem JE.sl (wk : WdOk w) (hK : X.K = w.K) {p2 : Pos} {lo hi : Option Expr} {xa : M Pd} {l h : M (Option Int)} (ha : JP X w W a Γ Γ1 xa) (hl : JOp X w W lo Γ1 Γ2 l) (hh : JOp X w W hi Γ2 Γ3 h) :
    JE X w W (.Subscript a (.Slice lo hi none p2) pos) Γ Γ3 (M.bnd xa fun p => M.bnd l fun l => M.bnd h fun h => M.bnd (rdP p) fun x => M.lift (slD x l h)) :=
  PE.imp (pe_slice sd_any ha hl hh) fun σ H Q ⟨ρ, ow, r, q⟩ => ⟨ρ, ow, r, post_bnd q fun p ρ1 v H1 ow1 _ q r1 s1 rs => ⟨ρ1, ow1, r1, post_bnd q fun o1 ρ2 o1' H2 ow2 _ q r2 s2 rs2 => ⟨ρ2, ow2, r2, post_bnd q fun o2 ρ3 o2' H3 ow3 _ q r3 s3 rs3 => by
    obtain rfl : o1' = o1 := rs2
    obtain rfl : o2' = o2 := rs3
    obtain ⟨c, h1, q⟩ := post_rd r3 (RP1.mono (RP1.mono rs s2) s3) q
    obtain ⟨z, e, f⟩ := post_fin wk r3 (s1.trans (s2.trans s3)) q
    rw [hK]
    exact ⟨_, c, z, vis_le, h1, e, f⟩⟩⟩⟩
/-! ### methods -/
theorem tyStr {K : PySem.W.Frag} {B H : Hp} {v : V} {s : Str} (h : Rp K B v (.str s)) : tyV K "str" v H := by rw [h.unstr.1]; rfl
theorem tyLst {K : PySem.W.Frag} {B H : Hp} {v : V} {ds : List D} (h : Rp K B v (.list ds)) (e : Same B H) : tyV K "list" v H := by
  obtain ⟨l, xs, rfl, q, r, _⟩ := h.unlst
  exact .inl ⟨rfl, xs, e.seq q⟩
theorem JE.me (wk : WdOk w) (hK : X.K = w.K) {T : String} {m : Mt} {ps : M (List Pd)} {e : Expr} (hty : ∀ B H v d, Same B H → Rp X.K B v d → mtOk m d = true → tyV X.K T v H)
    (hp : ∀ {to : TE} {ta : TA}, PE X a to → PA X es ta → PE X e (tBM X.K T (rDM X.K (mtD m)) to ta)) (ho : JE X w W a Γ Γ1 u) (ha : JPs X w W es Γ1 Γ2 ps) :
    JE X w W e Γ Γ2 (M.bnd u fun x => if mtOk m x then M.bnd ps fun ps => M.bnd (rdPs ps) fun ds => M.lift (mtD m x ds) else fun _ => none) :=
  PE.imp (hp ho ha) fun σ H Q ⟨ρ, ow, r, q⟩ => ⟨ρ, ow, r, post_bnd q fun x ρ1 v H1 ow1 _ q r1 s1 rs => by
    by_cases z : mtOk m x = true
    · simp only [z, if_true] at q
      refine ⟨hty _ _ v x vis_le (by rw [hK]; exact rs) z, ρ1, ow1, r1, post_bnd q fun p ρ2 us H2 ow2 _ q r2 s2 rs2 => ?_⟩
      obtain ⟨c, h1, q⟩ := post_rds r2 rs2 q
      obtain ⟨z, e, f⟩ := post_fin wk r2 (s1.trans s2) q
      rw [hK]
      exact ⟨_, x, c, z, vis_le, .inl (Rp.mono rs s2), h1, e, f⟩
    · rw [if_neg z] at q; exact q.elim⟩
/-- a method that changes the list that a name owns -/
theorem JE.mu (wk : WdOk w) (hK : X.K = w.K) {m : Mm} {i : Nat} {e : Expr} {rm : V → List V → Hp → VK → Prop} (hg : Γ1[i]? = some true)
    (hr : ∀ p xs vs ds us d ds' H B Q, mmD m ds us = some (d, ds') → H p = some (.lst xs) → RpAll w.K B xs ds → RpAll w.K B vs us → ds.length ≤ sizeLine →
      (∀ v xs', Rp w.K B v d → RpAll w.K B xs' ds' → ds'.length ≤ sizeLine → Q v (upd H p (.lst xs'))) → rm (.ref p) vs H Q)
    (hp : ∀ {ta : TA}, PA X es ta → PE X e (tBM X.K "list" rm (tVar i) ta)) (ha : JEs X w W es Γ Γ1 ys) :
    JE X w W e Γ Γ1 (fun ρ0 => match ρ0[i]? with
    | some (some (.list _)) => M.bnd ys (fun ds ρ => match ρ[i]? with
      | some (some (.list xs)) => match mmD m xs ds with
        | some (y, xs') => some (.ok y (ρ.set i (some (.list xs'))))
        | none => none
      | _ => none) ρ0
    | _ => none) := by
  refine PE.imp (hp ha) fun σ H Q ⟨ρ, ow, r, q⟩ => ?_
  cases e0 : ρ[i]? with
  | none => simp only [e0] at q; exact q.elim
  | some o =>
    cases o with
    | none => simp only [e0] at q; exact q.elim
    | some d =>
      cases d with
      | list l0 =>
        simp only [e0] at q
        obtain ⟨v, h1, h2⟩ := r.look e0
        obtain ⟨p0, xs0, rfl, sq0, _, _⟩ := h2.unlst vis_le
        refine ⟨_, h1, .inl ⟨rfl, xs0, by rw [hK]; exact sq0⟩, ρ, ow, r, post_bnd q fun ds ρ1 vs H1 ow1 _ q r1 s1 rs => ?_⟩
        cases e1 : ρ1[i]? with
        | none => simp only [e1] at q; exact q.elim
        | some o =>
          cases o with
          | none => simp only [e1] at q; exact q.elim
          | some d =>
            cases d with
            | list l1 =>
              simp only [e1] at q
              cases e2 : mmD m l1 ds with
              | none => simp only [e2] at q; exact q.elim
              | some yx =>
                obtain ⟨y, xs'⟩ := yx
                simp only [e2] at q
                obtain ⟨p, g1, g2, es, us, ee, g3, g4, g5⟩ := r1.own i _ e1 hg
                cases ee
                rw [h1] at g2
                cases g2
                refine hr p0 us vs l1 ds y xs' H1 _ Q e2 g3 g4 rs g5 fun v zs q1 q2 q3 => ?_
                obtain ⟨r2, s2⟩ := r1.mutate wk hg g1 q2 q3 h1
                exact q v _ ow1 r2 (s1.trans s2) (q1.mono s2)
            | _ => simp only [e1] at q; exact q.elim
      | _ => simp only [e0] at q; exact q.elim
theorem JE.mu0 (wk : WdOk w) (hK : X.K = w.K) {m : Mm} {i : Nat} {e : Expr} {rm : V → List V → Hp → VK → Prop} (hg : Γ[i]? = some true)
    (hr : ∀ p xs vs ds us d ds' H B Q, mmD m ds us = some (d, ds') → H p = some (.lst xs) → RpAll w.K B xs ds → RpAll w.K B vs us → ds.length ≤ sizeLine →
      (∀ v xs', Rp w.K B v d → RpAll w.K B xs' ds' → ds'.length ≤ sizeLine → Q v (upd H p (.lst xs'))) → rm (.ref p) vs H Q)
    (hp : PE X e (tBM0 X.K "list" rm (tVar i))) :
    JE X w W e Γ Γ (fun ρ0 => match ρ0[i]? with
    | some (some (.list _)) => M.bnd (M.ret []) (fun ds ρ => match ρ[i]? with
      | some (some (.list xs)) => match mmD m xs ds with
        | some (y, xs') => some (.ok y (ρ.set i (some (.list xs'))))
        | none => none
      | _ => none) ρ0
    | _ => none) := by
  refine PE.imp hp fun σ H Q ⟨ρ, ow, r, q⟩ => ?_
  cases e0 : ρ[i]? with
  | none => simp only [e0] at q; exact q.elim
  | some o =>
    cases o with
    | none => simp only [e0] at q; exact q.elim
    | some d =>
      cases d with
      | list l1 =>
        simp only [e0] at q
        have q : Post w W Γ (RD w) (vis w ow H) (match ρ[i]? with
          | some (some (.list xs)) => match mmD m xs [] with
            | some (y, xs') => some (.ok y (ρ.set i (some (.list xs'))))
            | none => none
          | _ => none) σ Q := q
        simp only [e0] at q
        cases e2 : mmD m l1 [] with
        | none => simp only [e2] at q; exact q.elim
        | some yx =>
          obtain ⟨y, xs'⟩ := yx
          simp only [e2] at q
          obtain ⟨p, g1, g2, es, us, ee, g3, g4, g5⟩ := r.own i _ e0 hg
          cases ee
          refine ⟨_, g2, .inl ⟨rfl, us, .of g3⟩, ?_⟩
          refine hr p us [] l1 [] y xs' H _ Q e2 g3 g4 .nil g5 fun v zs q1 q2 q3 => ?_
          obtain ⟨r2, s2⟩ := r.mutate wk hg g1 q2 q3 g2
          exact q v _ ow r2 s2 (q1.mono s2)
      | _ => simp only [e0] at q; exact q.elim
end
/-! ### the changing methods, one by one -/
theorem RpAll.dropLast {K : PySem.W.Frag} {B : Hp} {vs : List V} {ds : List D} (h : RpAll K B vs ds) : RpAll K B vs.dropLast ds.dropLast := by
  rw [List.dropLast_eq_take, List.dropLast_eq_take, h.len]
  exact h.take _
theorem mm_append {w : Wd} : ∀ p xs vs ds us d ds' H B Q, mmD .append ds us = some (d, ds') → H p = some (.lst xs) → RpAll w.K B xs ds → RpAll w.K B vs us → ds.length ≤ sizeLine →
      (∀ v xs', Rp w.K B v d → RpAll w.K B xs' ds' → ds'.length ≤ sizeLine → Q v (upd H p (.lst xs'))) → rAppend (.ref p) vs H Q := by
  intro p xs vs ds us d ds' H B Q e hp r1 r2 z k
  match us, e, r2 with
  | [y], e, r2 =>
    simp only [mmD] at e
    split at e <;> cases e
    rename_i hl
    obtain ⟨v, t, rfl, r3, r4⟩ := r2.uncons
    obtain rfl := r4.unnil
    exact ⟨p, xs, v, rfl, rfl, hp, by rw [r1.len, sizeLine_eq]; exact hl, k _ _ .non (r1.append (.cons r3 .nil)) (by rw [sizeLine_eq, List.length_append]; simp; omega)⟩
theorem mm_pop {w : Wd} : ∀ p xs vs ds us d ds' H B Q, mmD .pop ds us = some (d, ds') → H p = some (.lst xs) → RpAll w.K B xs ds → RpAll w.K B vs us → ds.length ≤ sizeLine →
      (∀ v xs', Rp w.K B v d → RpAll w.K B xs' ds' → ds'.length ≤ sizeLine → Q v (upd H p (.lst xs'))) → rPop (.ref p) vs H Q := by
  intro p xs vs ds us d ds' H B Q e hp r1 r2 z k
  match us, e, r2 with
  | [], e, r2 =>
    simp only [mmD] at e
    split at e <;> cases e
    rename_i hl
    obtain rfl := r2.unnil
    obtain ⟨v, e3, r3⟩ := r1.get hl
    exact ⟨p, xs, v, rfl, rfl, hp, by rw [r1.len]; exact e3, k _ _ r3 r1.dropLast (by simp; omega)⟩
theorem mm_reverse {w : Wd} : ∀ p xs vs ds us d ds' H B Q, mmD .reverse ds us = some (d, ds') → H p = some (.lst xs) → RpAll w.K B xs ds → RpAll w.K B vs us → ds.length ≤ sizeLine →
      (∀ v xs', Rp w.K B v d → RpAll w.K B xs' ds' → ds'.length ≤ sizeLine → Q v (upd H p (.lst xs'))) → rReverse (.ref p) vs H Q := by
  intro p xs vs ds us d ds' H B Q e hp r1 r2 z k
  match us, e, r2 with
  | [], e, r2 =>
    cases e
    obtain rfl := r2.unnil
    exact ⟨p, xs, rfl, rfl, hp, k _ _ .non r1.reverse (by simpa using z)⟩
theorem mm_clear {w : Wd} : ∀ p xs vs ds us d ds' H B Q, mmD .clear ds us = some (d, ds') → H p = some (.lst xs) → RpAll w.K B xs ds → RpAll w.K B vs us → ds.length ≤ sizeLine →
      (∀ v xs', Rp w.K B v d → RpAll w.K B xs' ds' → ds'.length ≤ sizeLine → Q v (upd H p (.lst xs'))) → rClear (.ref p) vs H Q := by
  intro p xs vs ds us d ds' H B Q e hp r1 r2 z k
  match us, e, r2 with
  | [], e, r2 =>
    cases e
    obtain rfl := r2.unnil
    exact ⟨p, xs, rfl, rfl, hp, k _ _ .non .nil (Nat.zero_le _)⟩
def rInsert : V → List V → Hp → VK → Prop := fun x vs H Q => ∃ (l : Addr) (xs : List V) (i : Int) (y : V), x = .ref l ∧ vs = [.int i, y] ∧ H l = some (.lst xs) ∧ xs.length < sizeLine ∧ 0 ≤ i ∧ i < 2 ^ 63 ∧ Q .non (upd H l (.lst (xs.take i.toNat ++ [y] ++ xs.drop i.toNat)))
theorem mm_insert {w : Wd} : ∀ p xs vs ds us d ds' H B Q, mmD .insert ds us = some (d, ds') → H p = some (.lst xs) → RpAll w.K B xs ds → RpAll w.K B vs us → ds.length ≤ sizeLine →
      (∀ v xs', Rp w.K B v d → RpAll w.K B xs' ds' → ds'.length ≤ sizeLine → Q v (upd H p (.lst xs'))) → rInsert (.ref p) vs H Q := by
  intro p xs vs ds us d ds' H B Q e hp r1 r2 z k
  match us, e, r2 with
  | [.int i, y], e, r2 =>
    simp only [mmD] at e
    split at e <;> cases e
    rename_i hl
    obtain ⟨v, t, rfl, r3, r4⟩ := r2.uncons
    obtain ⟨u, t, rfl, r5, r6⟩ := r4.uncons
    obtain rfl := r6.unnil
    have := r3.unint
    subst this
    refine ⟨p, xs, i, u, rfl, rfl, hp, by rw [r1.len, sizeLine_eq]; exact hl.2.2, hl.1, hl.2.1, k _ _ .non (((r1.take _).append (.cons r5 .nil)).append (r1.drop _)) ?_⟩
    rw [sizeLine_eq]
    simp only [List.length_append, List.length_take, List.length_drop, List.length_cons, List.length_nil]
    omega

section
variable {X : Cx} {w : Wd} {W : WX} {Γ Γ1 Γ2 Γ3 : List Bool} {a b c : Expr} {p p2 pos : Pos}
/-! ### isinstance(e, T) -/
theorem JE.isi {k : Kd} (hK : X.K = w.K) (wk : WdOk w) (hg : Gl X "isinstance") (hm : X.mg "isinstance" = none) (g2 : Gl X (k.nm : Str)) (m2 : X.mg (k.nm : Str) = none) {x : M D} (h : JE X w W a Γ Γ1 x) (ha : starEach [a, .Name k.nm p2] X.env = (false, eval a X.env) :: starEach [.Name k.nm p2] X.env) :
    JE X w W (.Call (.Name "isinstance" p) [a, .Name k.nm p2] [] pos) Γ Γ1 (M.bnd x fun d => M.lift ((isKd k d).map .bool)) := by
  have hb : bootBuiltins (k.nm : Str) = some (.type k.nm) := by cases k <;> rfl
  have hn : (k.nm : Str) ≠ "__name__" := by cases k <;> decide
  have hd : ((k.nm : Str) == ("__debug__" : Str)) = false := by cases k <;> decide
  refine PE.imp (pe_callB call_isi hg hm rfl (pa_cons h (pa_cons (pe_bltn (v := .ty k.nm) g2 m2 hb rfl hn hd) pa_nil) ha) (by decide) (by decide) ha) fun σ H Q ⟨ρ, ow, r, q⟩ => ⟨ρ, ow, r, post_bnd q fun d ρ1 v H1 ow1 _ q r1 s1 rs => ?_⟩
  cases e : isKd k d with
  | none => rw [e] at q; exact q.elim
  | some t =>
    rw [e] at q
    refine ⟨v, .ty k.nm, .type (tyD d), .type k.nm, t, rfl, .ty _, ?_, kit_kd e, q _ H1 ow1 r1 s1 .bl⟩
    rw [hK]
    exact ty_rp vis_le rs
/-! ### a < b < c -/
theorem fin_bool {K : PySem.W.Frag} {B H : Hp} {k : Bool} {Q : VK} (h : Q (.bl k) H) : Fin K B H (.bool k) Q := ⟨fun v rv => (by rw [rv.unbool]; exact h), fun _ _ _ e => (by cases e), fun _ _ _ e => (by cases e)⟩
end
/-! ### t[::-1] -/
section
open PyProof.Rows
variable {prog : Program} {w0 : World} {A : Around} {E : Value → Shared → Prop} {s : Shared}
theorem places_rev (n : Nat) : Builtin.Slice.slicePlaces ((n : Int) - 1) (-1) (-1) = n := by
  unfold Builtin.Slice.slicePlaces
  rw [if_neg (by decide)]
  by_cases h : (n : Int) - 1 > -1
  · rw [if_pos h]; first | (simp; done) | (simp; omega)
  · rw [if_neg h]; omega
theorem sliceApplied_rev {sl : Addr} {vl vu vs : Value} {n : Nat} {Q : Int × Int × Nat → Shared → Prop} (hs : s.heap.IsSliceOf sl vl vu vs) (pl : IsPart vl none) (pu : IsPart vu none) (pst : IsPart vs (some (-1)))
    (h : Q ((n : Int) - 1, -1, n) s) : wpAny (model prog w0) A (Builtin.Slice.sliceApplied (.ref sl) (pure (n : Int))) Q E s := by
  obtain ⟨os, hos, hcs, hds⟩ := id hs
  unfold Builtin.Slice.sliceApplied Builtin.Slice.sliceFields
  refine wpAny_bind (wpAny_bind (wpAny_field hos hds (x := vl) rfl (wpAny_bind (wpAny_field hos hds (x := vu) rfl (wpAny_bind (wpAny_field hos hds (x := vs) rfl (wpAny_pure ?_)))))))
  refine wpAny_bind (HT.slicePart_ pst ?_)
  show wpAny _ _ (if ((-1 : Int) == 0) = true then _ else _) _ _ s
  rw [if_neg (by decide)]
  refine wpAny_bind (HT.slicePart_ pl (wpAny_bind (HT.slicePart_ pu (wpAny_bind (wpAny_pure ?_)))))
  show wpAny _ _ (match Builtin.Slice.sliceAdjust none none (-1) (n : Int) with | (lo, hi) => pure (lo, (-1 : Int), Builtin.Slice.slicePlaces lo hi (-1))) _ _ s
  have e : Builtin.Slice.sliceAdjust none none (-1) (n : Int) = ((n : Int) - 1, -1) := rfl
  rw [e]
  show wpAny _ _ (pure ((n : Int) - 1, (-1 : Int), Builtin.Slice.slicePlaces ((n : Int) - 1) (-1) (-1))) _ _ s
  rw [places_rev]
  exact wpAny_pure h
theorem pick_rev (xs : Array Value) : ((List.range xs.size).filterMap fun (m : Nat) => xs[(((xs.size : Int) - 1) + (m : Int) * (-1)).toNat]?).toArray = xs.toList.reverse.toArray := by
  congr 1
  have e1 : ((List.range xs.size).filterMap fun (m : Nat) => xs[(((xs.size : Int) - 1) + (m : Int) * (-1)).toNat]?) = ((List.range xs.size).map fun k => xs.size - 1 - k).filterMap (xs[·]?) := by
    rw [List.filterMap_map]
    congr 1
    funext m
    have : (((xs.size : Int) - 1) + (m : Int) * (-1)).toNat = xs.size - 1 - m := by omega
    rw [this]
    rfl
  rw [e1, PySem.W.krv_range, List.filterMap_reverse, PySem.W.krv_all]
theorem getItem_tuple_rev {t sl : Addr} {items : Array Value} {vl vu vs : Value} {Q : Value → Shared → Prop} (ht : IsTup s.heap t items) (hs : s.heap.IsSliceOf sl vl vu vs) (pl : IsPart vl none) (pu : IsPart vu none) (pst : IsPart vs (some (-1)))
    (h : Q (.ref s.heap.objs.size) { s with heap := s.heap.push { cls := .type "tuple", data := .seq items.toList.reverse.toArray } })
    (hsz : items.size ≤ sizeLine) : wpAny (model prog w0) A (getItem (.ref t) (.ref sl)) Q E s := by
  have htake : sizeOk (.seq items.toList.reverse.toArray) := by
    show items.toList.reverse.toArray.size ≤ sizeLine
    rw [List.size_toArray, List.length_reverse, Array.length_toList]
    omega
  obtain ⟨os, hos, hcs, hds⟩ := id hs
  have hTs : s.TypeIs (.ref sl) "slice" := ⟨os, hos, hcs⟩
  unfold getItem
  try with_reducible refine wpAny_holding ?_
  first | refine wpAny_bind (wpAny_pure ?_) | skip
  refine wpAny_bind (wpAny_sequenceKey ht.typeIs (by decide) ?_)
  refine wpAny_bind (wpAny_callSpecial?_slot (name := Str.ofString "__getitem__") ht.typeIs PyProof.Rows.slot_tuple_getitem
    (wpAny_call_entry PyProof.Rows.slot_tuple_getitem ht.typeIs entry_tuple_getitem ?_ (args_tuple_getitem _ _)))
  show wpAny _ _ (Builtin.Tuple.tupleItemsOf (.ref t) >>= _) _ _ s
  refine wpAny_bind (tupleItemsOf_ ht ?_)
  refine wpAny_bind (wpAny_typeOf hTs ?_)
  rw [if_pos (by decide)]
  refine wpAny_bind (sliceApplied_rev hs pl pu pst ?_)
  have hno : ¬ ((((items.size : Int) - 1) == 0 && (-1 : Int) == 1 && items.size == items.size) = true) := by
    intro q
    rw [Bool.and_eq_true, Bool.and_eq_true] at q
    exact absurd q.1.2 (by decide)
  show wpAny _ _ (if ((((items.size : Int) - 1) == 0 && (-1 : Int) == 1 && items.size == items.size) = true) then _ else _) _ _ s
  rw [if_neg hno, pick_rev]
  first
    | exact wpAny_bind (m := Builtin.Tuple.tupleExact _) (wpAny_newObj_type (wpAny_pure ⟨_, rfl, wpAny_pure h⟩) htake)
    | exact wpAny_bind (m := Builtin.Tuple.tupleExact _) (wpAny_newObj_type (wpAny_bind (wpAny_pure (wpAny_pure ⟨_, rfl, wpAny_pure h⟩))) htake)
    | exact wpAny_bind (wpAny_bind (m := Builtin.Tuple.tupleExact _) (wpAny_newObj_type (wpAny_pure (wpAny_pure ⟨_, rfl, wpAny_pure h⟩)) htake))
    | exact wpAny_bind (wpAny_bind (m := Builtin.Tuple.tupleExact _) (wpAny_newObj_type (wpAny_pure ⟨_, rfl, wpAny_pure h⟩) htake))
end
def tRevT (K : PySem.W.Frag) (te : TE) : TE := fun σ H Q => te σ H fun x H1 => ∃ a xs, x = .ref a ∧ SqT K H1 a xs ∧ ∀ p, H1 p = none → Q (.ref p) (upd H1 p (.tup xs.reverse))
open PyProof.Rows in
theorem pe_revT {X : Cx} {e : Expr} {te : TE} {k : Nat} {p1 p2 p3 pos : Pos} (he : PE X e te) : PE X (.Subscript e (.Slice none none (some (.UnaryOp .USub (.Constant (.int 1) k p1) p2)) p3) pos) (tRevT X.K te) := by
  refine ⟨fun pins s σ H Q I h => ?_⟩
  refine Subscript_ (thn (he.run pins s σ H _ I h) fun v s1 ⟨x, H1, I1, r1, q1⟩ => ?_)
  obtain ⟨a, xs, ex, hx, q⟩ := q1
  subst ex
  cases r1
  have hst : PO X (some (.UnaryOp .USub (.Constant (.int 1) k p1) p2)) (tPart (tUn (rU fun i => .int (-i)) (tC (.int 1)))) := po_some (pe_un un_neg pe_int)
  refine wpAny_Slice (thn (po_none.run pins s1 σ H1 (fun o H2 => o = none ∧ H2 = H1) I1 ⟨rfl, rfl⟩) fun vl s2 ⟨l, H2, I2, pl, el, e2⟩ => ?_)
  subst el e2
  refine thn (po_none.run pins s2 σ H2 (fun o H3 => o = none ∧ H3 = H2) I2 ⟨rfl, rfl⟩) fun vu s3 ⟨u, H3, I3, pu, eu, e3⟩ => ?_
  subst eu e3
  refine thn (hst.run pins s3 σ H3 (fun o H4 => o = some (-1) ∧ H4 = H3) I3 ⟨1, rfl, -1, rfl, rfl, rfl⟩) fun vs s4 ⟨o, H4, I4, ps, eo, e4⟩ => ?_
  subst eo e4
  have I5 : Inv X pins σ H4 { s4 with heap := s4.heap.push { cls := .type "slice", data := .fields #[vl, vu, vs] } } := I4.kept (t' := s4.toks) fun b ob q => Heap.get?_push_of_some _ q
  obtain ⟨its, r, ht, hz⟩ := I5.tuple hx
  have hlen := r.length
  show wpAny (model X.prog X.w) X.A (subscriptTail e (.Slice none none (some (.UnaryOp .USub (.Constant (.int 1) k p1) p2)) p3) (.ref a) (.ref s4.heap.objs.size)) (EP X pins σ Q) X.xe { s4 with heap := s4.heap.push { cls := .type "slice", data := .fields #[vl, vu, vs] } }
  refine tail_any (ops := [.ref a, .ref s4.heap.objs.size]) ht.typeIs (PyProof.Rows.slot_tuple_getitem.lookup) ?_ (by with_unfolding_all rfl)
  refine getItem_tuple_rev ht (Heap.IsSliceOf.new _ vl vu vs) pl pu ps ?_ (by rw [List.size_toArray]; omega)
  refine ⟨.ref _, _, I5.laid (t' := s4.toks) (o := .tup xs.reverse) (fun b ob q => Heap.get?_push_of_some _ q) (Nat.le_refl _) ?_, rfl, q _ (I5.hok.fresh (Nat.le_refl _))⟩
  exact ⟨by rw [List.length_reverse]; exact hz, _, r.reverse, PyProof.Rows.IsTup.new _ _⟩
theorem JE.revT {X : Cx} {w : Wd} {W : WX} {Γ Γ1 : List Bool} {a : Expr} {k : Nat} {p1 p2 p3 pos : Pos} (wk : WdOk w) (hK : X.K = w.K) {x : M D} (h : JE X w W a Γ Γ1 x) :
    JE X w W (.Subscript a (.Slice none none (some (.UnaryOp .USub (.Constant (.int 1) k p1) p2)) p3) pos) Γ Γ1 (M.bnd x fun d => M.lift (revD d)) :=
  PE.imp (pe_revT h) fun σ H Q ⟨ρ, ow, r, q⟩ => ⟨ρ, ow, r, post_bnd q fun d ρ1 v H1 ow1 _ q r1 s1 rs => by
    cases d with
    | tuple ds =>
      obtain ⟨p, vs, rfl, sq, ra, z⟩ := rs.untup
      refine ⟨p, vs, rfl, by rw [hK]; exact sqT_mono vis_le sq, fun p hp => ?_⟩
      obtain ⟨d, e, f⟩ := post_fin wk r1 s1 q
      cases e
      exact f.tup _ p _ rfl hp ra.reverse (by rw [List.length_reverse]; exact z)
    | _ => exact q.elim⟩
end VF

end
section
set_option Elab.async false
set_option linter.all false
set_option autoImplicit false
set_option maxRecDepth 100000
set_option maxHeartbeats 1000000
/-! VI: what a loop or a comprehension walks: lists, tuples, texts, ranges; enumerate and zip of such, in any mix. -/
namespace VF
open PySem PySem.Spec L2

/-! ### what is drawn item by item -/
inductive Sr where
  | L (a : Addr)
  | T (a : Addr)
  | X (z : Str) (t : Tok)
def Sr.val : Sr → Value
  | .L a => .ref a
  | .T a => .ref a
  | .X z t => .str z t
def Sr.ext : Sr → List Addr
  | .L a => [a]
  | .T a => [a]
  | .X _ _ => []
def Sr.obj : Sr → Obj
  | .L a => { cls := .type "list_iterator", data := .fields #[.ref a, .int 0 0] }
  | .T a => { cls := .type "tuple_iterator", data := .fields #[.ref a, .int 0 0] }
  | .X z t => { cls := .type (strIterType z), data := .fields #[.str z t, .int 0 0] }
def Sr.go : Sr → Addr → Nat → Heap → Prop
  | .L a, it, i, h => h.IsListIter it a i
  | .T a, it, i, h => h.IsTupleIter it a i
  | .X z t, it, i, h => h.IsStrIter it (strIterType z) z t i
def Sr.has (K : PySem.W.Frag) (H : Hp) : Sr → List V → Prop
  | .L a, xs => SqL K H a xs
  | .T a, xs => SqT K H a xs
  | .X z _, xs => xs = signsV z
theorem Sr.go_obj {sr : Sr} {it : Addr} {i : Nat} {h : Heap} (g : sr.go it i h) : ∃ o, h.get? it = some o ∧ ∀ v, o.data ≠ .cell v := by
  cases sr with
  | L a => obtain ⟨o, e, c, d⟩ := g; exact ⟨o, e, fun v z => by rw [d] at z; cases z⟩
  | T a => obtain ⟨o, e, c, d⟩ := g; exact ⟨o, e, fun v z => by rw [d] at z; cases z⟩
  | X z t => obtain ⟨o, e, c, d⟩ := g; exact ⟨o, e, fun v z => by rw [d] at z; cases z⟩
theorem Sr.go_at {sr : Sr} {it : Addr} {i : Nat} {h h' : Heap} (g : sr.go it i h) (k : ∀ o, h.get? it = some o → h'.get? it = some o) : sr.go it i h' := by
  cases sr with
  | L a => obtain ⟨o, e, r⟩ := g; exact ⟨o, k o e, r⟩
  | T a => obtain ⟨o, e, r⟩ := g; exact ⟨o, k o e, r⟩
  | X z t => obtain ⟨o, e, r⟩ := g; exact ⟨o, k o e, r⟩
theorem Sr.go_start {sr : Sr} {it : Addr} {h : Heap} (e : h.get? it = some sr.obj) : sr.go it 0 h := by
  cases sr with
  | L a => exact ⟨_, e, rfl, rfl⟩
  | T a => exact ⟨_, e, rfl, rfl⟩
  | X z t => exact ⟨_, e, rfl, rfl⟩
section
variable {X : Cx} {pins : List (Addr × Obj)} {σ : St} {H : Hp} {s : Shared}
theorem Sr.begins (I : Inv X pins σ H s) {sr : Sr} {xs : List V} (h : sr.has X.K H xs) : ∃ G, Begins sr.val sr.obj G ∧ G s.heap := by
  cases sr with
  | L a =>
    obtain ⟨its, rv, p, hz⟩ := I.list h
    exact ⟨_, begins_list a its.toArray, p.isList⟩
  | T a =>
    obtain ⟨its, rv, p, hz⟩ := I.tuple h
    exact ⟨_, begins_tuple a its.toArray, show s.heap.IsTuple a its.toArray from p⟩
  | X z t => exact ⟨_, begins_text z t, trivial⟩
theorem Sr.ext_lt (I : Inv X pins σ H s) {sr : Sr} {xs : List V} (h : sr.has X.K H xs) : ∀ b ∈ sr.ext, b < s.heap.objs.size := by
  cases sr with
  | L a =>
    obtain ⟨its, rv, p, hz⟩ := I.list h
    intro b hb
    have : b = a := by simpa [Sr.ext] using hb
    subst this
    exact p.lt
  | T a =>
    obtain ⟨its, rv, p, hz⟩ := I.tuple h
    intro b hb
    have : b = a := by simpa [Sr.ext] using hb
    subst this
    exact p.lt
  | X z t => intro b hb; simp [Sr.ext] at hb
theorem Sr.inj (I : Inv X pins σ H s) {sr : Sr} {xs ys : List V} (h : sr.has X.K H xs) (g : sr.has X.K H ys) : xs = ys := by
  cases sr with
  | L a => exact I.list_inj h g
  | T a => exact I.tuple_inj h g
  | X z t => rw [h, g]
theorem Sr.draws (I : Inv X pins σ H s) {A : Around} (hh : A.handled = none) {sr : Sr} {xs : List V} (h : sr.has X.K H xs) {it : Addr} (ne : it ∉ sr.ext) :
    ∃ P St, Draws X.prog X.w A it (it :: sr.ext) xs.length P St ∧ (∀ i v, P i v → ∃ x, xs[i]? = some x ∧ RelV x v) ∧ (∀ i, sr.go it i s.heap → St i s.heap) ∧ ∀ i h, St i h → sr.go it i h := by
  cases sr with
  | L a =>
    obtain ⟨its, rv, p, hz⟩ := I.list h
    have hl := rv.length
    have hne : a ≠ it := fun z => ne (by simp [Sr.ext, z])
    have D := Draws.list (prog := X.prog) (w := X.w) hh it a hne its.toArray
    rw [List.size_toArray, ← hl] at D
    refine ⟨_, _, D, fun i v e => ?_, fun i g => ⟨g, p.isList⟩, fun i h g => g.1⟩
    have e : its[i]? = some v := by simpa using e
    obtain ⟨hi, e⟩ := List.getElem?_eq_some_iff.mp e
    obtain ⟨u, e1, e2⟩ := rv.get (List.getElem?_eq_getElem (show i < xs.length by omega))
    rw [List.getElem?_eq_getElem hi, e] at e1
    cases e1
    exact ⟨_, List.getElem?_eq_getElem (by omega), e2⟩
  | T a =>
    obtain ⟨its, rv, p, hz⟩ := I.tuple h
    have hl := rv.length
    have hne : a ≠ it := fun z => ne (by simp [Sr.ext, z])
    have D := Draws.tuple (prog := X.prog) (w := X.w) hh it a hne its.toArray
    rw [List.size_toArray, ← hl] at D
    refine ⟨_, _, D, fun i v e => ?_, fun i g => ⟨g, show s.heap.IsTuple a its.toArray from p⟩, fun i h g => g.1⟩
    have e : its[i]? = some v := by simpa using e
    obtain ⟨hi, e⟩ := List.getElem?_eq_some_iff.mp e
    obtain ⟨u, e1, e2⟩ := rv.get (List.getElem?_eq_getElem (show i < xs.length by omega))
    rw [List.getElem?_eq_getElem hi, e] at e1
    cases e1
    exact ⟨_, List.getElem?_eq_getElem (by omega), e2⟩
  | X z t =>
    have D := Draws.text (prog := X.prog) (w := X.w) hh it z t
    have hl : xs.length = z.cps.size := by rw [h]; simp [signsV]
    rw [← hl] at D
    refine ⟨_, _, D, fun i v ⟨c, u, e, ev⟩ => ⟨.str ⟨#[c]⟩, ?_, u, ev⟩, fun i g => g, fun i h g => g⟩
    have h : xs = signsV z := h
    rw [h]
    unfold signsV
    rw [List.getElem?_map, Array.getElem?_toList, e]
    rfl
end

/-! ### rows of items -/
/-- R H n row: by H there are n rows; the i-th is row i -/
def ItR (R : Hp → Nat → (Nat → List V) → Prop) : It :=
  ⟨fun i H => ∃ n row, R H n row ∧ i < n, fun i H x H' => ∃ T vs, x = .ref T ∧ H T = none ∧ H' = upd H T (.tup vs) ∧ ∀ n row, R H n row → i < n → row i = vs, fun i H => ∃ row, R H i row⟩
theorem turn_gen {P : Program} {w : World} {K : PySem.W.Frag} {elts : List Expr} {kk : Nat} {tpos : Pos} {fp wr : List Addr} {it : Addr} {tn : Nat → Heap → Prop} {R : Hp → Nat → (Nat → List V) → Prop}
    (hmem : it ∈ fp) (hwr : ∀ b ∈ wr, b ∈ fp) (hobj : ∀ i h, tn i h → ∀ b ∈ fp, ∃ o, h.get? b = some o ∧ ∀ v, o.data ≠ .cell v)
    (hkeep : ∀ i h h', tn i h → (∀ b ∈ fp, ∀ o, h.get? b = some o → h'.get? b = some o) → tn i h')
    (prov : ∀ X : Cx, X.prog = P → X.w = w → X.K = K → X.calm = true → ∀ (pins : List (Addr × Obj)) (s : Shared) (σ : St) (H : Hp) (i : Nat), Inv X pins σ H s → tn i s.heap → ∀ n row, R H n row →
      ∃ fp' Pt St Mid, WalksT X.prog X.w X.A it fp' wr n Pt St Mid ∧ St i s.heap ∧ (∀ i h, St i h → tn i h) ∧ ∀ i vals, i < n → Pt i vals → Vals (row i) vals.toList ∧ (row i).length ≤ sizeLine)
    (inj : ∀ X : Cx, X.K = K → ∀ (pins : List (Addr × Obj)) (s : Shared) (σ : St) (H : Hp), Inv X pins σ H s → ∀ n row n' row', R H n row → R H n' row' → n = n' ∧ ∀ i, i < n → row i = row' i)
    (hself : ∀ (A : Around) (i : Nat) (s : Shared) (Q : Value → Shared → Prop) (E : Value → Shared → Prop), tn i s.heap → Q (.ref it) s → wpAny (model P w) A (pyIter (.ref it)) Q E s) :
    Turn P w K (.Tuple elts kk tpos) (ItR R) fp it tn where
  mem := hmem
  obj := hobj
  keep := hkeep
  item := by
    intro X hP hw hK hc i pins s σ H E I hf st ⟨n, row, hR, hi⟩
    subst hP hw hK
    obtain ⟨fp', Pt, St', Mid, W, st', hst, hrow⟩ := prov X rfl rfl rfl hc pins s σ H i I st n row hR
    refine W.item i s _ _ hi st' fun T vals h' tk pt le isT mid k => ⟨_, rfl, W.go elts kk tpos i T _ _ _ mid fun h'' st'' k2 => ?_⟩
    obtain ⟨rv, rl⟩ := hrow i vals hi pt
    have isT2 : h''.IsTuple T vals := isT.at fun o e => k2 T o (W.apart i T h' mid) e
    have isT3 : PyProof.Rows.IsTup h'' T vals := isT2
    have new : ObjOk X.prog X.w (upd H T (.tup (row i))) h'' T (.tup (row i)) := ⟨rl, vals.toList, rv, by simpa using isT3⟩
    have I1 : Inv X pins σ (upd H T (.tup (row i))) { s with heap := h'', toks := tk } :=
      I.turnedNew (ch := fp) (fun b o hb e => k2 b o (fun z => hb (hwr b z)) (k b o (fun z => hb (hwr b z)) e)) hf le new
    refine ⟨.ref T, _, I1, rfl, ⟨T, row i, rfl, I.hok.fresh le, rfl, fun n' row' h' hi' => ?_⟩, hst _ _ st'', fun b hb => ?_⟩
    · exact ((inj X rfl pins s σ H I n row n' row' hR h').2 i hi).symm
    · obtain ⟨o, ho, _⟩ := hobj i s.heap st b hb
      rw [upd_ne (Nat.ne_of_lt (Nat.lt_of_lt_of_le (Heap.lt_size ho) le))]
      exact (hf b hb).1
  done := by
    intro X hP hw hK hc i pins s σ H E I hf st ⟨row, hR⟩
    subst hP hw hK
    obtain ⟨fp', Pt, St', Mid, W, st', hst, hrow⟩ := prov X rfl rfl rfl hc pins s σ H i I st i row hR
    exact W.done s _ _ st' fun h' tk k => ⟨rfl, I.turnedL (ch := fp) (fun b o hb e => k b o (fun z => hb (hwr b z)) e) hf⟩
  self := hself

/-! ### enumerate -/
def REn (K : PySem.W.Frag) (sr : Sr) : Hp → Nat → (Nat → List V) → Prop := fun H n row => ∃ xs, sr.has K H xs ∧ n = xs.length ∧ row = fun i => [.int (i : Nat), xs[i]?.getD .non]
theorem turn_enumS {P : Program} {w : World} {K : PySem.W.Frag} {elts : List Expr} {kk : Nat} {tpos : Pos} {sr : Sr} {e it : Addr} (hei : e ≠ it) (h1 : e ∉ sr.ext) (h2 : it ∉ sr.ext) :
    Turn P w K (.Tuple elts kk tpos) (ItR (REn K sr)) [e, it] e (fun i h => (∃ old, IsEnum h e it ((i : Nat) : Int) old) ∧ sr.go it i h) := by
  refine turn_gen (wr := [e, it]) (by simp) (fun b h => h) (fun i h st b hb => ?_) (fun i h h' st k => ?_) (fun X hP hw hK hc pins s σ H i I st n row hR => ?_) (fun X hK pins s σ H I n row n' row' hR hR' => ?_) (fun A i s Q E st h => ?_)
  · obtain ⟨⟨old, he⟩, g⟩ := st
    have hb : b = e ∨ b = it := by simpa using hb
    rcases hb with rfl | rfl
    · exact ⟨_, he, fun v q => nomatch q⟩
    · exact Sr.go_obj (sr := sr) g
  · obtain ⟨⟨old, he⟩, g⟩ := st
    exact ⟨⟨old, k e (by simp) _ he⟩, Sr.go_at (sr := sr) g fun o q => k it (by simp) o q⟩
  · subst hP hw hK
    obtain ⟨xs, hx, rfl, rfl⟩ := hR
    obtain ⟨he, g⟩ := st
    obtain ⟨P, St, D, hp, s1, s2⟩ := Sr.draws I (A := X.A.in1) (I.ok.hd hc) hx h2
    refine ⟨_, _, _, _, WalksT.enumFrom 0 D e hei (fun z => ?_) (by simp), ⟨?_, s1 _ g⟩, fun i h ⟨⟨old, a⟩, b⟩ => ⟨⟨old, ?_⟩, s2 _ _ b⟩, fun i vals hi ⟨t, x, px, ev⟩ => ?_⟩
    · rcases List.mem_cons.mp z with z | z
      · exact hei z
      · exact h1 z
    · obtain ⟨old, he⟩ := he
      exact ⟨old, by rw [Int.zero_add]; exact he⟩
    · rw [Int.zero_add] at a; exact a
    · subst ev
      obtain ⟨y, e1, e2⟩ := hp i x px
      refine ⟨?_, by show 2 ≤ sizeLine; decide⟩
      show Vals [V.int i, xs[i]?.getD .non] [_, _]
      rw [e1]
      exact .cons ⟨t, by rw [Int.zero_add]⟩ (.cons e2 .nil)
  · subst hK
    obtain ⟨xs, hx, rfl, rfl⟩ := hR
    obtain ⟨ys, hy, rfl, rfl⟩ := hR'
    have := Sr.inj I hx hy
    subst this
    exact ⟨rfl, fun _ _ => rfl⟩
  · obtain ⟨⟨old, he⟩, g⟩ := st
    exact wpAny_pyIter_enum he h
/-! ### zip of two, of three -/
def RZ2 (K : PySem.W.Frag) (s1 s2 : Sr) : Hp → Nat → (Nat → List V) → Prop := fun H n row => ∃ xs ys, s1.has K H xs ∧ s2.has K H ys ∧ n = min xs.length ys.length ∧ row = fun i => [xs[i]?.getD .non, ys[i]?.getD .non]
def RZ3 (K : PySem.W.Frag) (s1 s2 s3 : Sr) : Hp → Nat → (Nat → List V) → Prop := fun H n row => ∃ xs ys zs, s1.has K H xs ∧ s2.has K H ys ∧ s3.has K H zs ∧ n = min (min xs.length ys.length) zs.length ∧ row = fun i => [xs[i]?.getD .non, ys[i]?.getD .non, zs[i]?.getD .non]
theorem turn_zip2S {P : Program} {w : World} {K : PySem.W.Frag} {elts : List Expr} {kk : Nat} {tpos : Pos} {s1 s2 : Sr} {N : Addr} (h1 : ∀ b ∈ s1.ext, b < N) (h2 : ∀ b ∈ s2.ext, b < N) :
    Turn P w K (.Tuple elts kk tpos) (ItR (RZ2 K s1 s2)) [N + 4, N + 2, N + 3, N, N + 1] (N + 4) (fun i h => IsZip h (N + 4) (N + 2) (N + 3) .none ∧ IsTupOf2 h (N + 2) (.ref N) (.ref (N + 1)) ∧ (∃ a1 a2, IsTupOf2 h (N + 3) a1 a2) ∧ s1.go N i h ∧ s2.go (N + 1) i h) := by
  refine turn_gen (wr := [N + 4, N + 3, N, N + 1]) (by simp) (fun b h => ?_) (fun i h st b hb => ?_) (fun i h h' st k => ?_) (fun X hP hw hK hc pins s σ H i I st n row hR => ?_) (fun X hK pins s σ H I n row n' row' hR hR' => ?_) (fun A i s Q E st h => ?_)
  · simp at h ⊢
    rcases h with h | h | h | h <;> simp [h]
  · obtain ⟨hz, hTI, ⟨a1, a2, hTO⟩, g1, g2⟩ := st
    have hb : b = N + 4 ∨ b = N + 2 ∨ b = N + 3 ∨ b = N ∨ b = N + 1 := by simpa using hb
    rcases hb with rfl | rfl | rfl | rfl | rfl
    · exact ⟨_, hz, fun v q => nomatch q⟩
    · exact ⟨_, hTI, fun v q => nomatch q⟩
    · exact ⟨_, hTO, fun v q => nomatch q⟩
    · exact Sr.go_obj (sr := s1) g1
    · exact Sr.go_obj (sr := s2) g2
  · obtain ⟨hz, hTI, ⟨a1, a2, hTO⟩, g1, g2⟩ := st
    exact ⟨k _ (by simp) _ hz, k _ (by simp) _ hTI, ⟨a1, a2, k _ (by simp) _ hTO⟩, Sr.go_at (sr := s1) g1 fun o q => k _ (by simp) o q, Sr.go_at (sr := s2) g2 fun o q => k _ (by simp) o q⟩
  · subst hP hw hK
    obtain ⟨xs, ys, hx, hy, rfl, rfl⟩ := hR
    obtain ⟨hz, hTI, hTO, g1, g2⟩ := st
    obtain ⟨P1, St1, D1, p1, q1, t1⟩ := Sr.draws I (A := X.A.in1) (I.ok.hd hc) hx (it := N) fun z => Nat.lt_irrefl _ (h1 _ z)
    obtain ⟨P2, St2, D2, p2, q2, t2⟩ := Sr.draws I (A := X.A.in1) (I.ok.hd hc) hy (it := N + 1) fun z => Nat.lt_irrefl _ (Nat.lt_trans (Nat.lt_succ_self _) (h2 _ z))
    refine ⟨_, _, _, _, WalksT.zipD2 (zip_sep2 h1 h2) D1 D2, ⟨hz, hTI, hTO, q1 _ g1, q2 _ g2⟩, fun i h ⟨a, b, c, d, e⟩ => ⟨a, b, c, t1 _ _ d, t2 _ _ e⟩, fun i vals hi ⟨x1, x2, e1, e2, ev⟩ => ?_⟩
    subst ev
    obtain ⟨y1, e3, e4⟩ := p1 i x1 e1
    obtain ⟨y2, e5, e6⟩ := p2 i x2 e2
    refine ⟨?_, by show 2 ≤ sizeLine; decide⟩
    show Vals [xs[i]?.getD .non, ys[i]?.getD .non] [_, _]
    rw [e3, e5]
    exact .cons e4 (.cons e6 .nil)
  · subst hK
    obtain ⟨xs, ys, hx, hy, rfl, rfl⟩ := hR
    obtain ⟨xs', ys', hx', hy', rfl, rfl⟩ := hR'
    have e1 := Sr.inj I hx hx'
    have e2 := Sr.inj I hy hy'
    subst e1 e2
    exact ⟨rfl, fun _ _ => rfl⟩
  · exact wpAny_pyIter_zip st.1 h
theorem turn_zip3S {P : Program} {w : World} {K : PySem.W.Frag} {elts : List Expr} {kk : Nat} {tpos : Pos} {s1 s2 s3 : Sr} {N : Addr} (h1 : ∀ b ∈ s1.ext, b < N) (h2 : ∀ b ∈ s2.ext, b < N) (h3 : ∀ b ∈ s3.ext, b < N) :
    Turn P w K (.Tuple elts kk tpos) (ItR (RZ3 K s1 s2 s3)) [N + 5, N + 3, N + 4, N, N + 1, N + 2] (N + 5) (fun i h => IsZip h (N + 5) (N + 3) (N + 4) .none ∧ IsTupOf3 h (N + 3) (.ref N) (.ref (N + 1)) (.ref (N + 2)) ∧ (∃ a1 a2 a3, IsTupOf3 h (N + 4) a1 a2 a3) ∧ s1.go N i h ∧ s2.go (N + 1) i h ∧ s3.go (N + 2) i h) := by
  refine turn_gen (wr := [N + 5, N + 4, N, N + 1, N + 2]) (by simp) (fun b h => ?_) (fun i h st b hb => ?_) (fun i h h' st k => ?_) (fun X hP hw hK hc pins s σ H i I st n row hR => ?_) (fun X hK pins s σ H I n row n' row' hR hR' => ?_) (fun A i s Q E st h => ?_)
  · simp at h ⊢
    rcases h with h | h | h | h | h <;> simp [h]
  · obtain ⟨hz, hTI, ⟨a1, a2, a3, hTO⟩, g1, g2, g3⟩ := st
    have hb : b = N + 5 ∨ b = N + 3 ∨ b = N + 4 ∨ b = N ∨ b = N + 1 ∨ b = N + 2 := by simpa using hb
    rcases hb with rfl | rfl | rfl | rfl | rfl | rfl
    · exact ⟨_, hz, fun v q => nomatch q⟩
    · exact ⟨_, hTI, fun v q => nomatch q⟩
    · exact ⟨_, hTO, fun v q => nomatch q⟩
    · exact Sr.go_obj (sr := s1) g1
    · exact Sr.go_obj (sr := s2) g2
    · exact Sr.go_obj (sr := s3) g3
  · obtain ⟨hz, hTI, ⟨a1, a2, a3, hTO⟩, g1, g2, g3⟩ := st
    exact ⟨k _ (by simp) _ hz, k _ (by simp) _ hTI, ⟨a1, a2, a3, k _ (by simp) _ hTO⟩, Sr.go_at (sr := s1) g1 fun o q => k _ (by simp) o q, Sr.go_at (sr := s2) g2 fun o q => k _ (by simp) o q, Sr.go_at (sr := s3) g3 fun o q => k _ (by simp) o q⟩
  · subst hP hw hK
    obtain ⟨xs, ys, zs, hx, hy, hz', rfl, rfl⟩ := hR
    obtain ⟨hz, hTI, hTO, g1, g2, g3⟩ := st
    obtain ⟨P1, St1, D1, p1, q1, t1⟩ := Sr.draws I (A := X.A.in1) (I.ok.hd hc) hx (it := N) fun z => Nat.lt_irrefl _ (h1 _ z)
    obtain ⟨P2, St2, D2, p2, q2, t2⟩ := Sr.draws I (A := X.A.in1) (I.ok.hd hc) hy (it := N + 1) fun z => Nat.lt_irrefl _ (Nat.lt_trans (Nat.lt_succ_self _) (h2 _ z))
    obtain ⟨P3, St3, D3, p3, q3, t3⟩ := Sr.draws I (A := X.A.in1) (I.ok.hd hc) hz' (it := N + 2) fun z => Nat.lt_irrefl _ (Nat.lt_trans (Nat.lt_succ_of_lt (Nat.lt_succ_self _)) (h3 _ z))
    refine ⟨_, _, _, _, WalksT.zipD3 (zip_sep3 h1 h2 h3) D1 D2 D3, ⟨hz, hTI, hTO, q1 _ g1, q2 _ g2, q3 _ g3⟩, fun i h ⟨a, b, c, d, e, f⟩ => ⟨a, b, c, t1 _ _ d, t2 _ _ e, t3 _ _ f⟩, fun i vals hi ⟨x1, x2, x3, e1, e2, e3, ev⟩ => ?_⟩
    subst ev
    obtain ⟨y1, f1, f2⟩ := p1 i x1 e1
    obtain ⟨y2, f3, f4⟩ := p2 i x2 e2
    obtain ⟨y3, f5, f6⟩ := p3 i x3 e3
    refine ⟨?_, by show 3 ≤ sizeLine; decide⟩
    show Vals [xs[i]?.getD .non, ys[i]?.getD .non, zs[i]?.getD .non] [_, _, _]
    rw [f1, f3, f5]
    exact .cons f2 (.cons f4 (.cons f6 .nil))
  · subst hK
    obtain ⟨xs, ys, zs, hx, hy, hz, rfl, rfl⟩ := hR
    obtain ⟨xs', ys', zs', hx', hy', hz', rfl, rfl⟩ := hR'
    have e1 := Sr.inj I hx hx'
    have e2 := Sr.inj I hy hy'
    have e3 := Sr.inj I hz hz'
    subst e1 e2 e3
    exact ⟨rfl, fun _ _ => rfl⟩
  · exact wpAny_pyIter_zip st.1 h
end VF

end
section
set_option Elab.async false
set_option linter.all false
set_option autoImplicit false
set_option maxRecDepth 100000
set_option maxHeartbeats 1000000
/-! VJ: loops and comprehensions over them. -/
namespace VF
open PySem PySem.Spec L2
theorem enum_new1 {v : Value} {o : Obj} {G : Heap → Prop} (B : Begins v o G) :
    Meets (Builtin.«enumerate.__new__» ⟨[.type "enumerate", v], []⟩) (fun _ R s => G s.heap ∧
      R (.ok (.ret (.ref (s.heap.push o).objs.size))) { s with heap := (s.heap.push o).push { cls := .type "enumerate", data := .fields #[.none, .bool false, .ref s.heap.objs.size, rawInt 0, .none, .none] } }) := by
  refine .of_wp fun prog w A R s h => ?_
  obtain ⟨hp, g, d, tk, os⟩ := s
  obtain ⟨h1, h2⟩ := h
  have sub := sub_enumerate
  have it : ∀ {A' : Around} {E : Value → Shared → Prop} {Q : Value → Shared → Prop}, Q (.ref hp.objs.size) ⟨hp.push o, g, d, tk, os⟩ → wpAny (model prog w) A' (pyIter v) Q E ⟨hp, g, d, tk, os⟩ :=
    fun z => B.iter prog w _ _ ⟨hp, g, d, tk, os⟩ _ h1 z
  wp_walk using it
  refine wpAny_stack_any fun _ => wpAny_pure ?_
  split
  · rename_i k _ _ _ _ _
    cases (k == Value.type "enumerate") <;> (wp_walk using it; exact ⟨_, rfl, h2⟩)
  · wp_walk using it
    exact ⟨_, rfl, h2⟩
theorem enum_call1 {prog : Program} {w : World} {A : Around} {E : Value → Shared → Prop} {s : Shared} {v : Value} {o : Obj} {G : Heap → Prop} {Q : Value → Shared → Prop} (B : Begins v o G) (h1 : G s.heap)
    (h : ∀ h', IsEnum h' (s.heap.objs.size + 1) s.heap.objs.size 0 .none → h'.get? s.heap.objs.size = some o → (∀ b o, s.heap.get? b = some o → h'.get? b = some o) → Q (.ref (s.heap.objs.size + 1)) { s with heap := h' }) :
    wpAny (model prog w) A (call (.type "enumerate") [v]) Q E s := by
  refine callType_new F.called_enumerate (by decide) (F.typeCall_enumerate_1 _) (F.newCall_enumerate_1 _) (fun obj => F.args_object_init_2 obj _) F.entry_enumerate_new (enum_new1 B) ⟨h1, ?_⟩
  have z : (s.heap.push o).objs.size = s.heap.objs.size + 1 := Heap.size_push ..
  have e : IsEnum ((s.heap.push o).push { cls := .type "enumerate", data := .fields #[.none, .bool false, .ref s.heap.objs.size, rawInt 0, .none, .none] }) (s.heap.objs.size + 1) s.heap.objs.size 0 .none := by
    have q := Heap.get?_push_size (s.heap.push o) (o := { cls := .type "enumerate", data := .fields #[.none, .bool false, .ref s.heap.objs.size, rawInt 0, .none, .none] }) rfl
    rw [z] at q
    exact q
  show _ ∧ _
  rw [z]
  exact ⟨⟨_, e, rfl⟩, h _ e (Heap.get?_push_of_some _ (Heap.get?_push_size _ B.free)) fun b u x => Heap.get?_push_of_some _ (Heap.get?_push_of_some _ x)⟩

/-- what a walk gives, item by item, while B stands -/
structure ItOk (K : PySem.W.Frag) (B : Hp) (J : It) (ds : List D) : Prop where
  go : ∀ i H, Same B H → i < ds.length → J.go i H
  stop : ∀ H, Same B H → J.stop ds.length H
  yld : ∀ i H x H' d, Same B H → J.yld i H x H' → ds[i]? = some d → (H' = H ∧ Rp K B x d) ∨ ∃ T vs es, x = .ref T ∧ H T = none ∧ H' = upd H T (.tup vs) ∧ d = .tuple es ∧ RpAll K B vs es ∧ okLen es.length = true
def PostI (w : Wd) (W : WX) (Γ : List Bool) (B : Hp) (r : Option (R (List D))) (σ : St) (Q : It → Hp → Prop) : Prop := match r with
  | none => False
  | some (.ok a ρ) => ∀ J H ow, Rel w Γ ρ ow σ H → Same B (vis w ow H) → ItOk w.K (vis w ow H) J a → Q J H
  | some (.ex e ρ) => XW w W e ρ σ
def tI (w : Wd) (W : WX) (Γ Γ' : List Bool) (x : M (List D)) : TI := fun σ H Q => ∃ ρ ow, Rel w Γ ρ ow σ H ∧ PostI w W Γ' (vis w ow H) (x ρ) σ Q
def JI (X : Cx) (w : Wd) (W : WX) (tg e : Expr) (Γ Γ' : List Bool) (x : M (List D)) : Prop := PI X tg e (tI w W Γ Γ' x)
theorem PI.imp {X : Cx} {tg e : Expr} {t t' : TI} (h : PI X tg e t) (i : ∀ σ H Q, t' σ H Q → t σ H Q) : PI X tg e t' := ⟨fun pins s σ H Q I q => h.run pins s σ H Q I (i σ H Q q)⟩
section
variable {w : Wd} {W : WX} {Γ Γ' Γ1 Γ2 : List Bool} {α β : Type} {ρ : Rho} {ow : Ow} {σ : St} {H B B' : Hp} {X : Cx} {e tg : Expr} {pos p : Pos}
theorem postI_bnd {Rs : St → Ow → Hp → β → α → Prop} {x : M α} {f : α → M (List D)} {Q : It → Hp → Prop} {K : β → Hp → Prop}
    (h : PostI w W Γ' B (M.bnd x f ρ) σ Q) (k : ∀ a ρ1 b H1 ow1, x ρ = some (.ok a ρ1) → PostI w W Γ' B (f a ρ1) σ Q → Rel w Γ1 ρ1 ow1 σ H1 → Same B' (vis w ow1 H1) → Rs σ ow1 H1 b a → K b H1) :
    Post w W Γ1 Rs B' (x ρ) σ K := by
  unfold M.bnd at h
  cases e : x ρ with
  | none => rw [e] at h; exact h
  | some r =>
    rw [e] at h
    cases r with
    | ok a ρ1 => exact fun b H1 ow1 r1 s1 q => k a ρ1 b H1 ow1 e h r1 s1 q
    | ex e ρ1 => exact h
theorem postI_lift {o : Option (List D)} {Q : It → Hp → Prop} (h : PostI w W Γ B (M.lift o ρ) σ Q) : ∃ ds, o = some ds ∧ ∀ J H ow, Rel w Γ ρ ow σ H → Same B (vis w ow H) → ItOk w.K (vis w ow H) J ds → Q J H := by
  cases o with
  | none => exact h.elim
  | some ds => exact ⟨ds, rfl, h⟩
/-- a sequence: its items, who draws them -/
theorem seq_src {K : PySem.W.Frag} {B : Hp} {v : V} {u : Value} {d : D} {ds : List D} (h : Rp K B v d) (r : RelV v u) (e : itemsD d = some ds) : ∃ sr xs, u = Sr.val sr ∧ (∀ H, Same B H → sr.has K H xs) ∧ RpAll K B xs ds := by
  cases d <;> simp [itemsD] at e
  · subst e
    obtain ⟨rfl, _⟩ := h.unstr
    obtain ⟨t, rfl⟩ := r
    exact ⟨.X _ t, signsV _, rfl, fun _ _ => rfl, signs_rp⟩
  · subst e
    obtain ⟨a, xs, rfl, q, r1, _⟩ := h.unlst
    cases r
    exact ⟨.L a, xs, rfl, fun _ s => s.seq q, r1⟩
  · subst e
    obtain ⟨a, xs, rfl, q, r1, _⟩ := h.untup
    cases r
    exact ⟨.T a, xs, rfl, fun _ s => sqT_mono s q, r1⟩
theorem itok_seq {K : PySem.W.Frag} {B : Hp} {a : Addr} {xs : List V} {ds : List D} (h : ∀ H, Same B H → SqL K H a xs) (r : RpAll K B xs ds) : ItOk K B (Itl K a) ds where
  go := fun i H s hi => by
    obtain ⟨v, e, _⟩ := r.get (List.getElem?_eq_getElem hi)
    exact ⟨xs, v, h H s, e⟩
  stop := fun H s => ⟨xs, h H s, Nat.le_of_eq r.len⟩
  yld := fun i H x H' d s y e => by
    obtain ⟨rfl, y⟩ := y
    obtain ⟨v, e1, e2⟩ := r.get e
    have := y _ (h _ s)
    rw [e1] at this
    cases this
    exact .inl ⟨rfl, e2⟩
theorem itok_tup {K : PySem.W.Frag} {B : Hp} {a : Addr} {xs : List V} {ds : List D} (h : ∀ H, Same B H → SqT K H a xs) (r : RpAll K B xs ds) : ItOk K B (Itt K a) ds where
  go := fun i H s hi => by
    obtain ⟨v, e, _⟩ := r.get (List.getElem?_eq_getElem hi)
    exact ⟨xs, v, h H s, e⟩
  stop := fun H s => ⟨xs, h H s, Nat.le_of_eq r.len⟩
  yld := fun i H x H' d s y e => by
    obtain ⟨rfl, y⟩ := y
    obtain ⟨v, e1, e2⟩ := r.get e
    have := y _ (h _ s)
    rw [e1] at this
    cases this
    exact .inl ⟨rfl, e2⟩
theorem itok_str {K : PySem.W.Frag} {B : Hp} {z : Str} : ItOk K B (Its z) (z.cps.toList.map fun c => .str ⟨#[c]⟩) where
  go := fun i H s hi => by show i < _; simpa using hi
  stop := fun H s => by show _ ≤ _; simp
  yld := fun i H x H' d s y e => by
    obtain ⟨rfl, c, e1, rfl⟩ := y
    rw [List.getElem?_map, Array.getElem?_toList, e1] at e
    cases e
    exact .inl ⟨rfl, .str (by show okLen 1 = true; decide)⟩
theorem JI.seq {x : M D} (h : JE X w W e Γ Γ1 x) (hK : X.K = w.K) : JI X w W tg e Γ Γ1 (M.bnd x fun d => M.lift (itemsD d)) := by
  refine ⟨fun pins s σ H R I ⟨ρ, ow, r, q⟩ => ?_⟩
  refine thn (h.run pins s σ H (fun v H1 => ∃ d ds, itemsD d = some ds ∧ ∃ B, Same B H1 ∧ Rp w.K B v d ∧ ∀ J, ItOk w.K B J ds → R J H1) I ⟨ρ, ow, r, postI_bnd q fun d ρ1 v H1 ow1 _ q r1 s1 rs => ?_⟩) fun u s1 ⟨v, H1, I1, rv, d, ds, e, B, le, rd, k⟩ => ?_
  · obtain ⟨ds, e, k⟩ := postI_lift q
    exact ⟨d, ds, e, _, vis_le, rs, fun J o => k J H1 ow1 r1 s1 o⟩
  · have fp : ∀ b ∈ [s1.heap.objs.size], FpOk X pins H1 b := fun b hb => by
      have e : b = s1.heap.objs.size := by simpa using hb
      subst e
      exact I1.fpOk (Nat.le_refl _) (I1.hok.fresh (Nat.le_refl _))
    cases d <;> simp [itemsD] at e
    · subst e
      obtain ⟨rfl, _⟩ := rd.unstr
      obtain ⟨t, rfl⟩ := rv
      refine wpAny_pyIter_strU (pi_one (tk := s1.toks) I1 _ (turn_str _ _ t _ ?_) ⟨_, Heap.get?_push_size _ rfl, rfl, rfl⟩ (k _ itok_str))
      unfold strIterType
      split
      · exact .inl rfl
      · exact .inr rfl
    · subst e
      obtain ⟨a, xs, rfl, sq, r1, _⟩ := rd.unlst
      cases rv
      obtain ⟨its, rv, p, hz⟩ := I1.list (by rw [hK]; exact le.seq sq)
      exact wpAny_pyIter_list p.isList (pi_one (tk := s1.toks) I1 _ (turn_list a _) ⟨_, Heap.get?_push_size _ rfl, rfl, rfl⟩ (k _ (by rw [hK]; exact itok_seq (fun _ z => z.seq sq) r1)))
    · subst e
      obtain ⟨a, xs, rfl, sq, r1, _⟩ := rd.untup
      cases rv
      obtain ⟨its, rv, p, hz⟩ := I1.tuple (by rw [hK]; exact sqT_mono le sq)
      exact wpAny_pyIter_tuple (show s1.heap.IsTuple a its.toArray from p) (pi_one (tk := s1.toks) I1 _ (turn_tuple a _) ⟨_, Heap.get?_push_size _ rfl, rfl, rfl⟩ (k _ (by rw [hK]; exact itok_tup (fun _ z => sqT_mono z sq) r1)))
theorem itok_rng {K : PySem.W.Frag} {B : Hp} {lo hi : Int} : ItOk K B (Itr lo (hi - lo).toNat) (rngD lo hi) where
  go := fun i H s h => by show i < _; simpa [rngD] using h
  stop := fun H s => by show _ ≤ _; simp [rngD]
  yld := fun i H x H' d s y e => by
    obtain ⟨rfl, rfl⟩ := y
    unfold rngD at e
    rw [List.getElem?_map] at e
    simp only [Option.map_eq_some_iff] at e
    obtain ⟨j, e1, rfl⟩ := e
    obtain ⟨h1, e1⟩ := List.getElem?_eq_some_iff.mp e1
    rw [List.getElem_range] at e1
    subst e1
    exact .inl ⟨rfl, .int⟩
theorem itok_rngR {K : PySem.W.Frag} {B : Hp} {lo hi : Int} : ItOk K B (Itc (lo + (((hi - lo).toNat : Nat) : Int) - 1) (-1) (hi - lo).toNat) (rngD lo hi).reverse where
  go := fun i H s h => by show i < _; simpa [rngD] using h
  stop := fun H s => by show _ ≤ _; simp [rngD]
  yld := fun i H x H' d s y e => by
    obtain ⟨rfl, rfl⟩ := y
    have hl : (rngD lo hi).length = (hi - lo).toNat := by simp [rngD]
    obtain ⟨h1, e1⟩ := List.getElem?_eq_some_iff.mp e
    rw [List.length_reverse, hl] at h1
    rw [List.getElem_reverse] at e1
    unfold rngD at e1
    rw [List.getElem_map, List.getElem_range] at e1
    subst e1
    refine .inl ⟨rfl, ?_⟩
    have : lo + ↑((List.map (fun i : Nat => PyData.int (lo + ↑i)) (List.range (hi - lo).toNat)).length - 1 - i) = lo + (((hi - lo).toNat : Nat) : Int) - 1 + (i : Nat) * -1 := by
      rw [List.length_map, List.length_range]
      omega
    rw [this]
    exact .int
theorem bnd62_iff {i : Int} : bnd62 i = true ↔ -(2 ^ 62) ≤ i ∧ i < 2 ^ 62 := by simp [bnd62]
theorem rg1_some {d : D} {ds : List D} (h : rg1 d = some ds) : ∃ b, d = .int b ∧ bnd62 b = true ∧ ds = rngD 0 b := by
  cases d <;> simp [rg1] at h
  exact ⟨_, rfl, h.1, h.2.symm⟩
theorem rg2_some {d e : D} {ds : List D} (h : rg2 d e = some ds) : ∃ a b, d = .int a ∧ e = .int b ∧ bnd62 a = true ∧ bnd62 b = true ∧ ds = rngD a b := by
  cases d <;> cases e <;> simp [rg2] at h
  exact ⟨_, _, rfl, rfl, h.1.1, h.1.2, h.2.symm⟩
theorem notlt {n m : Nat} (h : n + m < n) : False := by omega
variable {a b c : Expr} {x y z : M D}
theorem JI.rng1 (hg : Gl X "range") (hm : X.mg "range" = none) (h : JE X w W b Γ Γ1 x) (hs : starEach [b] X.env = [(false, eval b X.env)]) : JI X w W tg (.Call (.Name "range" p) [b] [] pos) Γ Γ1 (M.bnd x fun d => M.lift (rg1 d)) :=
  PI.imp (pi_range1 hg hm (pa_cons h pa_nil hs) hs) fun σ H R ⟨ρ, ow, r, q⟩ => ⟨ρ, ow, r, postI_bnd q fun d ρ1 v H1 ow1 _ q r1 s1 rs => by
    obtain ⟨es, e, k⟩ := postI_lift q
    obtain ⟨b, rfl, hb, rfl⟩ := rg1_some e
    obtain ⟨b1, b2⟩ := bnd62_iff.mp hb
    refine ⟨b, by rw [Rp.unint rs], b1, b2, k _ H1 ow1 r1 s1 ?_⟩
    have := @itok_rng w.K (vis w ow1 H1) 0 b
    rw [Int.sub_zero] at this
    exact this⟩
theorem JI.rng2 (hg : Gl X "range") (hm : X.mg "range" = none) (h : JE X w W a Γ Γ1 x) (h2 : JE X w W b Γ1 Γ2 y) (hs : starEach [a, b] X.env = [(false, eval a X.env), (false, eval b X.env)]) (hs2 : starEach [b] X.env = [(false, eval b X.env)]) :
    JI X w W tg (.Call (.Name "range" p) [a, b] [] pos) Γ Γ2 (M.bnd x fun u => M.bnd y fun v => M.lift (rg2 u v)) :=
  PI.imp (pi_range2 hg hm (pa_cons h (pa_cons h2 pa_nil hs2) (by rw [hs, hs2])) hs hs2) fun σ H R ⟨ρ, ow, r, q⟩ => ⟨ρ, ow, r, postI_bnd q fun d ρ1 v H1 ow1 _ q r1 s1 rs => ⟨ρ1, ow1, r1, postI_bnd q fun d2 ρ2 v2 H2 ow2 _ q r2 s2 rs2 => by
    obtain ⟨es, e, k⟩ := postI_lift q
    obtain ⟨i, j, rfl, rfl, hb, hb2, rfl⟩ := rg2_some e
    obtain ⟨b1, b2⟩ := bnd62_iff.mp hb
    obtain ⟨b3, b4⟩ := bnd62_iff.mp hb2
    exact ⟨i, j, by rw [Rp.unint rs, Rp.unint rs2], ⟨b1, b2, b3, b4⟩, k _ H2 ow2 r2 (s1.trans s2) itok_rng⟩⟩⟩
theorem JI.rev1 {p2 pos2 : Pos} (hg : Gl X "range") (hm : X.mg "range" = none) (hg2 : Gl X "reversed") (hm2 : X.mg "reversed" = none) (h : JE X w W b Γ Γ1 x) (hs : starEach [b] X.env = [(false, eval b X.env)]) :
    JI X w W tg (.Call (.Name "reversed" p2) [.Call (.Name "range" p) [b] [] pos] [] pos2) Γ Γ1 (M.bnd x fun d => M.lift ((rg1 d).map List.reverse)) :=
  PI.imp (pi_revR hg2 hm2 (prg_1 hg hm h hs)) fun σ H R ⟨ρ, ow, r, q⟩ => ⟨ρ, ow, r, postI_bnd q fun d ρ1 v H1 ow1 _ q r1 s1 rs => by
    obtain ⟨es, e, k⟩ := postI_lift q
    simp only [Option.map_eq_some_iff] at e
    obtain ⟨_, e, rfl⟩ := e
    obtain ⟨b, rfl, hb, rfl⟩ := rg1_some e
    obtain ⟨b1, b2⟩ := bnd62_iff.mp hb
    refine ⟨b, by rw [Rp.unint rs], by omega, by omega, b1, b2, k _ H1 ow1 r1 s1 ?_⟩
    exact itok_rngR⟩
theorem JI.enum {elts : List Expr} {kk : Nat} {tpos : Pos} (hK : X.K = w.K) (hg : Gl X "enumerate") (hm : X.mg "enumerate" = none) (h : JE X w W e Γ Γ1 x) (hs : starEach [e] X.env = [(false, eval e X.env)]) :
    JI X w W (.Tuple elts kk tpos) (.Call (.Name "enumerate" p) [e] [] pos) Γ Γ1 (M.bnd x fun d => M.lift ((itemsD d).map (enumD 0))) := by
  refine ⟨fun pins s σ H R I ⟨ρ, ow, r, q⟩ => ?_⟩
  refine PyProof.Rows.Call_ (ld_blt I hg hm PyProof.Rows.boot_enumerate (PyProof.Rows.callWith_type1 (thn ((pa_cons h pa_nil hs).run pos pins s σ H (fun vs H1 => ∃ v d ds, vs = [v] ∧ itemsD d = some ds ∧ ∃ B, Same B H1 ∧ Rp w.K B v d ∧ ∀ J, ItOk w.K B J (enumD 0 ds) → R J H1) I ⟨ρ, ow, r, postI_bnd q fun d ρ1 v H1 ow1 _ q r1 s1 rs => ?_⟩) fun us s1 ⟨vs, H1, I1, rv, v, d, ds, ev, e, B, le, rd, k⟩ => ?_) hs rfl))
  · obtain ⟨ds, e, k⟩ := postI_lift q
    simp only [Option.map_eq_some_iff] at e
    obtain ⟨es, e, rfl⟩ := e
    exact ⟨v, d, es, rfl, e, _, vis_le, rs, fun J o => k J H1 ow1 r1 s1 o⟩
  · subst ev
    cases rv with
    | cons r rr =>
      cases rr
      obtain ⟨sr, xs, rfl, hs, ra⟩ := seq_src rd r e
      obtain ⟨G, bg, g⟩ := Sr.begins I1 (sr := sr) (xs := xs) (by rw [hK]; exact hs _ le)
      have hx := Sr.ext_lt I1 (sr := sr) (xs := xs) (by rw [hK]; exact hs _ le)
      refine enum_call1 bg g fun h' he hit hk => wpAny_pyIter_enum he ?_
      have I2 : Inv X pins σ H1 { s1 with heap := h' } := I1.kept (t' := s1.toks) hk
      refine ⟨s1.heap.objs.size + 1, [s1.heap.objs.size + 1, s1.heap.objs.size], _, _, H1, rfl, I2, turn_enumS (sr := sr) (Nat.succ_ne_self _) (fun z => ?_) (fun z => ?_), ⟨⟨.none, by simpa using he⟩, Sr.go_start hit⟩, fun b hb => ?_, k _ ?_⟩
      · exact notlt (hx _ z)
      · exact notlt (m := 0) (hx _ z)
      · have e' : b = s1.heap.objs.size + 1 ∨ b = s1.heap.objs.size := by simpa using hb
        have hle : s1.heap.objs.size ≤ b := by rcases e' with z | z <;> rw [z] <;> first | exact Nat.le_add_right _ _ | exact Nat.le_refl _
        exact I1.fpOk hle (I1.hok.fresh hle)
      · rw [hK]
        have el : ∀ (l : List D) (n : Nat), (enumD n l).length = l.length := fun l => by induction l with
          | nil => intro n; rfl
          | cons a t ih => intro n; simp [enumD, ih]
        have eg : ∀ (l : List D) (n i : Nat) (d : D), (enumD n l)[i]? = some d → ∃ y, l[i]? = some y ∧ d = .tuple [.int ((n + i : Nat) : Int), y] := fun l => by induction l with
          | nil => intro n i d h; simp [enumD] at h
          | cons a t ih =>
            intro n i d h
            cases i with
            | zero => simp [enumD] at h; exact ⟨a, rfl, by simp [← h]⟩
            | succ i =>
              have h : (enumD (n + 1) t)[i]? = some d := by simpa [enumD] using h
              obtain ⟨y, h1, h2⟩ := ih (n + 1) i d h
              exact ⟨y, by simpa using h1, by rw [h2, show n + 1 + i = n + (i + 1) by omega]⟩
        refine ⟨fun i H s hi => ⟨xs.length, _, ⟨xs, hs H s, rfl, rfl⟩, by rw [el, ← ra.len] at hi; exact hi⟩, fun H s => ⟨_, xs, hs H s, by rw [el, ra.len], rfl⟩, fun i H x H' d s y e => .inr ?_⟩
        obtain ⟨T, vs, rfl, hT, rfl, y⟩ := y
        obtain ⟨yd, e1, rfl⟩ := eg _ _ _ _ e
        obtain ⟨v, e2, rv⟩ := ra.get e1
        have := y xs.length _ ⟨xs, hs H s, rfl, rfl⟩ (List.getElem?_eq_some_iff.mp e2).1
        simp only [e2, Option.getD_some] at this
        refine ⟨T, vs, _, rfl, hT, rfl, rfl, ?_, by show okLen 2 = true; decide⟩
        rw [← this, Nat.zero_add]
        exact .cons .int (.cons rv .nil)
theorem zipD_len : ∀ (l m : List D), (zipD l m).length = min l.length m.length
  | [], _ => by simp [zipD]
  | _ :: _, [] => by simp [zipD]
  | _ :: l, _ :: m => by simp [zipD, zipD_len l m]
theorem zipD_get : ∀ (l m : List D) (i : Nat) (d : D), (zipD l m)[i]? = some d → ∃ y z, l[i]? = some y ∧ m[i]? = some z ∧ d = .tuple [y, z]
  | [], _, i, d, h => by simp [zipD] at h
  | _ :: _, [], i, d, h => by simp [zipD] at h
  | a :: l, b :: m, 0, d, h => by simp [zipD] at h; exact ⟨a, b, rfl, rfl, h.symm⟩
  | a :: l, b :: m, i + 1, d, h => by
    obtain ⟨y, z, h1, h2, h3⟩ := zipD_get l m i d (by simpa [zipD] using h)
    exact ⟨y, z, by simpa using h1, by simpa using h2, h3⟩
theorem zip3D_len : ∀ (l m n : List D), (zip3D l m n).length = min (min l.length m.length) n.length
  | [], _, _ => by simp [zip3D]
  | _ :: _, [], _ => by simp [zip3D]
  | _ :: _, _ :: _, [] => by simp [zip3D]
  | _ :: l, _ :: m, _ :: n => by simp [zip3D, zip3D_len l m n]
theorem zip3D_get : ∀ (l m n : List D) (i : Nat) (d : D), (zip3D l m n)[i]? = some d → ∃ y z t, l[i]? = some y ∧ m[i]? = some z ∧ n[i]? = some t ∧ d = .tuple [y, z, t]
  | [], _, _, i, d, h => by simp [zip3D] at h
  | _ :: _, [], _, i, d, h => by simp [zip3D] at h
  | _ :: _, _ :: _, [], i, d, h => by simp [zip3D] at h
  | a :: l, b :: m, c :: n, 0, d, h => by simp [zip3D] at h; exact ⟨a, b, c, rfl, rfl, rfl, h.symm⟩
  | a :: l, b :: m, c :: n, i + 1, d, h => by
    obtain ⟨y, z, t, h1, h2, h3, h4⟩ := zip3D_get l m n i d (by simpa [zip3D] using h)
    exact ⟨y, z, t, by simpa using h1, by simpa using h2, by simpa using h3, h4⟩
theorem JI.zip2 {elts : List Expr} {kk : Nat} {tpos : Pos} (hK : X.K = w.K) (hg : Gl X "zip") (hm : X.mg "zip" = none) (ha : JE X w W a Γ Γ1 x) (hb : JE X w W b Γ1 Γ2 y)
    (hs : starEach [a, b] X.env = (false, eval a X.env) :: starEach [b] X.env) (hs2 : starEach [b] X.env = (false, eval b X.env) :: starEach [] X.env) (hpl : (backTo pos (starEach [b] X.env)).any (·.1) = false) :
    JI X w W (.Tuple elts kk tpos) (.Call (.Name "zip" p) [a, b] [] pos) Γ Γ2 (M.bnd x fun u => M.bnd y fun v => M.lift ((itemsD u).bind fun l => (itemsD v).map fun m => zipD l m)) := by
  refine ⟨fun pins s σ H R I ⟨ρ, ow, r, q⟩ => ?_⟩
  refine PyProof.Rows.Call_ (ld_blt I hg hm PyProof.Rows.boot_zip (PyProof.Rows.callWith_type1 (thn ((pa_cons ha (pa_cons hb pa_nil hs2) hs).run pos pins s σ H (fun vs H1 => ∃ v d ds v2 d2 ds2, vs = [v, v2] ∧ itemsD d = some ds ∧ itemsD d2 = some ds2 ∧ ∃ B, Same B H1 ∧ Rp w.K B v d ∧ Rp w.K B v2 d2 ∧ ∀ J, ItOk w.K B J (zipD ds ds2) → R J H1) I
    ⟨ρ, ow, r, postI_bnd q fun d ρ1 v H1 ow1 _ q r1 s1 rs => ⟨ρ1, ow1, r1, postI_bnd q fun d2 ρ2 v2 H2 ow2 _ q r2 s2 rs2 => ?_⟩⟩) fun us s1 ⟨vs, H1, I1, rv, v, d, ds, v2, d2, ds2, ev, e, e2, B, le, rd, rd2, k⟩ => ?_) hs hpl))
  · obtain ⟨ds, e, k⟩ := postI_lift q
    simp only [Option.bind_eq_some_iff, Option.map_eq_some_iff] at e
    obtain ⟨es, e, fs, e2, rfl⟩ := e
    exact ⟨v, d, es, v2, d2, fs, rfl, e, e2, _, vis_le, Rp.mono rs s2, rs2, fun J o => k J H2 ow2 r2 (s1.trans s2) o⟩
  · subst ev
    cases rv with
    | cons r rr =>
      cases rr with
      | cons r' rr =>
      cases rr
      obtain ⟨sr, xs, rfl, hs, ra⟩ := seq_src rd r e
      obtain ⟨sr2, ys, rfl, hs2, ra2⟩ := seq_src rd2 r' e2
      obtain ⟨G, bg, g⟩ := Sr.begins I1 (sr := sr) (xs := xs) (by rw [hK]; exact hs _ le)
      obtain ⟨G2, bg2, g2⟩ := Sr.begins I1 (sr := sr2) (xs := ys) (by rw [hK]; exact hs2 _ le)
      have hx := Sr.ext_lt I1 (sr := sr) (xs := xs) (by rw [hK]; exact hs _ le)
      have hx2 := Sr.ext_lt I1 (sr := sr2) (xs := ys) (by rw [hK]; exact hs2 _ le)
      refine zip_begins2 bg bg2 g g2 fun h' hz hTI hTO hi1 hi2 _ hk => wpAny_pyIter_zip hz ?_
      have I2 : Inv X pins σ H1 { s1 with heap := h' } := I1.kept (t' := s1.toks) hk
      refine ⟨s1.heap.objs.size + 4, [s1.heap.objs.size + 4, s1.heap.objs.size + 2, s1.heap.objs.size + 3, s1.heap.objs.size, s1.heap.objs.size + 1], _, _, H1, rfl, I2, turn_zip2S (s1 := sr) (s2 := sr2) hx hx2, ⟨hz, hTI, ⟨_, _, hTO⟩, Sr.go_start hi1, Sr.go_start hi2⟩, fun b hb => ?_, k _ ?_⟩
      · have hle : s1.heap.objs.size ≤ b := by
          simp at hb
          rcases hb with z | z | z | z | z <;> rw [z] <;> first | exact Nat.le_add_right _ _ | exact Nat.le_refl _
        exact I1.fpOk hle (I1.hok.fresh hle)
      · rw [hK]
        refine ⟨fun i H s hi => ⟨_, _, ⟨xs, ys, hs H s, hs2 H s, rfl, rfl⟩, by rw [zipD_len, ← ra.len, ← ra2.len] at hi; exact hi⟩, fun H s => ⟨_, xs, ys, hs H s, hs2 H s, by rw [zipD_len, ra.len, ra2.len], rfl⟩, fun i H x H' d s y e => .inr ?_⟩
        obtain ⟨T, vs, rfl, hT, rfl, y⟩ := y
        obtain ⟨y1, y2, e1, e2, rfl⟩ := zipD_get _ _ _ _ e
        obtain ⟨v1, f1, rv1⟩ := ra.get e1
        obtain ⟨v2, f2, rv2⟩ := ra2.get e2
        have l1 := (List.getElem?_eq_some_iff.mp f1).1
        have l2 := (List.getElem?_eq_some_iff.mp f2).1
        have := y _ _ ⟨xs, ys, hs H s, hs2 H s, rfl, rfl⟩ (by omega)
        simp only [f1, f2, Option.getD_some] at this
        refine ⟨T, vs, _, rfl, hT, rfl, rfl, ?_, by show okLen 2 = true; decide⟩
        rw [← this]
        exact .cons rv1 (.cons rv2 .nil)
theorem JI.zip3 {elts : List Expr} {kk : Nat} {tpos : Pos} (hK : X.K = w.K) {Γ3 : List Bool} (hg : Gl X "zip") (hm : X.mg "zip" = none) (ha : JE X w W a Γ Γ1 x) (hb : JE X w W b Γ1 Γ2 y) (hc : JE X w W c Γ2 Γ3 z)
    (hs : starEach [a, b, c] X.env = (false, eval a X.env) :: starEach [b, c] X.env) (hs2 : starEach [b, c] X.env = (false, eval b X.env) :: starEach [c] X.env) (hs3 : starEach [c] X.env = (false, eval c X.env) :: starEach [] X.env) (hpl : (backTo pos (starEach [b, c] X.env)).any (·.1) = false) :
    JI X w W (.Tuple elts kk tpos) (.Call (.Name "zip" p) [a, b, c] [] pos) Γ Γ3 (M.bnd x fun u => M.bnd y fun v => M.bnd z fun t => M.lift ((itemsD u).bind fun l => (itemsD v).bind fun m => (itemsD t).map fun n => zip3D l m n)) := by
  refine ⟨fun pins s σ H R I ⟨ρ, ow, r, q⟩ => ?_⟩
  refine PyProof.Rows.Call_ (ld_blt I hg hm PyProof.Rows.boot_zip (PyProof.Rows.callWith_type1 (thn ((pa_cons ha (pa_cons hb (pa_cons hc pa_nil hs3) hs2) hs).run pos pins s σ H (fun vs H1 => ∃ v d ds v2 d2 ds2 v3 d3 ds3, vs = [v, v2, v3] ∧ itemsD d = some ds ∧ itemsD d2 = some ds2 ∧ itemsD d3 = some ds3 ∧ ∃ B, Same B H1 ∧ Rp w.K B v d ∧ Rp w.K B v2 d2 ∧ Rp w.K B v3 d3 ∧ ∀ J, ItOk w.K B J (zip3D ds ds2 ds3) → R J H1) I
    ⟨ρ, ow, r, postI_bnd q fun d ρ1 v H1 ow1 _ q r1 s1 rs => ⟨ρ1, ow1, r1, postI_bnd q fun d2 ρ2 v2 H2 ow2 _ q r2 s2 rs2 => ⟨ρ2, ow2, r2, postI_bnd q fun d3 ρ3 v3 H3 ow3 _ q r3 s3 rs3 => ?_⟩⟩⟩) fun us s1 ⟨vs, H1, I1, rv, v, d, ds, v2, d2, ds2, v3, d3, ds3, ev, e, e2, e3, B, le, rd, rd2, rd3, k⟩ => ?_) hs hpl))
  · obtain ⟨ds, e, k⟩ := postI_lift q
    simp only [Option.bind_eq_some_iff, Option.map_eq_some_iff] at e
    obtain ⟨es, e, fs, e2, gs, e3, rfl⟩ := e
    exact ⟨v, d, es, v2, d2, fs, v3, d3, gs, rfl, e, e2, e3, _, vis_le, Rp.mono rs (s2.trans s3), Rp.mono rs2 s3, rs3, fun J o => k J H3 ow3 r3 (s1.trans (s2.trans s3)) o⟩
  · subst ev
    cases rv with
    | cons r rr =>
      cases rr with
      | cons r' rr =>
      cases rr with
      | cons r'' rr =>
      cases rr
      obtain ⟨sr, xs, rfl, hs, ra⟩ := seq_src rd r e
      obtain ⟨sr2, ys, rfl, hs2, ra2⟩ := seq_src rd2 r' e2
      obtain ⟨sr3, zs, rfl, hs3, ra3⟩ := seq_src rd3 r'' e3
      obtain ⟨G, bg, g⟩ := Sr.begins I1 (sr := sr) (xs := xs) (by rw [hK]; exact hs _ le)
      obtain ⟨G2, bg2, g2⟩ := Sr.begins I1 (sr := sr2) (xs := ys) (by rw [hK]; exact hs2 _ le)
      obtain ⟨G3, bg3, g3⟩ := Sr.begins I1 (sr := sr3) (xs := zs) (by rw [hK]; exact hs3 _ le)
      have hx := Sr.ext_lt I1 (sr := sr) (xs := xs) (by rw [hK]; exact hs _ le)
      have hx2 := Sr.ext_lt I1 (sr := sr2) (xs := ys) (by rw [hK]; exact hs2 _ le)
      have hx3 := Sr.ext_lt I1 (sr := sr3) (xs := zs) (by rw [hK]; exact hs3 _ le)
      refine zip_begins3 bg bg2 bg3 g g2 g3 fun h' hz hTI hTO hi1 hi2 hi3 _ hk => wpAny_pyIter_zip hz ?_
      have I2 : Inv X pins σ H1 { s1 with heap := h' } := I1.kept (t' := s1.toks) hk
      refine ⟨s1.heap.objs.size + 5, [s1.heap.objs.size + 5, s1.heap.objs.size + 3, s1.heap.objs.size + 4, s1.heap.objs.size, s1.heap.objs.size + 1, s1.heap.objs.size + 2], _, _, H1, rfl, I2, turn_zip3S (s1 := sr) (s2 := sr2) (s3 := sr3) hx hx2 hx3, ⟨hz, hTI, ⟨_, _, _, hTO⟩, Sr.go_start hi1, Sr.go_start hi2, Sr.go_start hi3⟩, fun b hb => ?_, k _ ?_⟩
      · have hle : s1.heap.objs.size ≤ b := by
          simp at hb
          rcases hb with z | z | z | z | z | z <;> rw [z] <;> first | exact Nat.le_add_right _ _ | exact Nat.le_refl _
        exact I1.fpOk hle (I1.hok.fresh hle)
      · rw [hK]
        refine ⟨fun i H s hi => ⟨_, _, ⟨xs, ys, zs, hs H s, hs2 H s, hs3 H s, rfl, rfl⟩, by rw [zip3D_len, ← ra.len, ← ra2.len, ← ra3.len] at hi; exact hi⟩, fun H s => ⟨_, xs, ys, zs, hs H s, hs2 H s, hs3 H s, by rw [zip3D_len, ra.len, ra2.len, ra3.len], rfl⟩, fun i H x H' d s y e => .inr ?_⟩
        obtain ⟨T, vs, rfl, hT, rfl, y⟩ := y
        obtain ⟨y1, y2, y3, e1, e2, e3, rfl⟩ := zip3D_get _ _ _ _ _ e
        obtain ⟨v1, f1, rv1⟩ := ra.get e1
        obtain ⟨v2, f2, rv2⟩ := ra2.get e2
        obtain ⟨v3, f3, rv3⟩ := ra3.get e3
        have l1 := (List.getElem?_eq_some_iff.mp f1).1
        have l2 := (List.getElem?_eq_some_iff.mp f2).1
        have l3 := (List.getElem?_eq_some_iff.mp f3).1
        have := y _ _ ⟨xs, ys, zs, hs H s, hs2 H s, hs3 H s, rfl, rfl⟩ (by omega)
        simp only [f1, f2, f3, Option.getD_some] at this
        refine ⟨T, vs, _, rfl, hT, rfl, rfl, ?_, by show okLen 3 = true; decide⟩
        rw [← this]
        exact .cons rv1 (.cons rv2 (.cons rv3 .nil))
end
end VF

end
section
set_option Elab.async false
set_option linter.all false
set_option autoImplicit false
set_option maxRecDepth 100000
set_option maxHeartbeats 1000000
/-! VK: targets and statements. -/
namespace VF
open PySem PySem.Spec L2

/-! ### targets -/
mutual
def slotsT : Tg → List Nat
  | .nm i => [i]
  | .tp ts => slotsTs ts
def slotsTs : List Tg → List Nat
  | [] => []
  | t :: ts => slotsT t ++ slotsTs ts
end
def setFs : List Nat → List Bool → List Bool
  | [], Γ => Γ
  | i :: is, Γ => setFs is (Γ.set i false)
theorem setFs_append : ∀ (is js : List Nat) (Γ : List Bool), setFs (is ++ js) Γ = setFs js (setFs is Γ)
  | [], _, _ => rfl
  | _ :: is, js, Γ => setFs_append is js _
/-- two lists of slots differ at these places at most -/
def OnlyAt (is : List Nat) (σ σ' : St) : Prop := σ'.length = σ.length ∧ ∀ j, j ∉ is → σ'[j]? = σ[j]?
theorem OnlyAt.refl (is : List Nat) (σ : St) : OnlyAt is σ σ := ⟨rfl, fun _ _ => rfl⟩
theorem OnlyAt.trans {is js : List Nat} {σ σ1 σ2 : St} (a : OnlyAt is σ σ1) (b : OnlyAt js σ1 σ2) : OnlyAt (is ++ js) σ σ2 :=
  ⟨b.1.trans a.1, fun j h => (b.2 j fun z => h (List.mem_append_right _ z)).trans (a.2 j fun z => h (List.mem_append_left _ z))⟩
def tG (w : Wd) (Γ Γ' : List Bool) (is : List Nat) (x : D → Rho → Option Rho) : TG := fun v σ H Q => ∃ ρ ow d, Rel w Γ ρ ow σ H ∧ Rp w.K (vis w ow H) v d ∧ match x d ρ with
  | none => False
  | some ρ' => ∀ σ' ow', Rel w Γ' ρ' ow' σ' H → Same (vis w ow H) (vis w ow' H) → OnlyAt is σ σ' → Q σ' H
def tGs (w : Wd) (Γ Γ' : List Bool) (is : List Nat) (x : List D → Rho → Option Rho) : TGs := fun v σ H Q => ∃ ρ ow d, Rel w Γ ρ ow σ H ∧ RpAll w.K (vis w ow H) v d ∧ match x d ρ with
  | none => False
  | some ρ' => ∀ σ' ow', Rel w Γ' ρ' ow' σ' H → Same (vis w ow H) (vis w ow' H) → OnlyAt is σ σ' → Q σ' H
def JG (X : Cx) (w : Wd) (tg : Expr) (Γ Γ' : List Bool) (is : List Nat) (x : D → Rho → Option Rho) : Prop := PG X tg (tG w Γ Γ' is x)
def JGs (X : Cx) (w : Wd) (tg : List Expr) (Γ Γ' : List Bool) (is : List Nat) (x : List D → Rho → Option Rho) : Prop := PGs X tg (tGs w Γ Γ' is x)
theorem PG.imp {X : Cx} {e : Expr} {t t' : TG} (h : PG X e t) (i : ∀ v σ H Q, t' v σ H Q → t v σ H Q) : PG X e t' := ⟨fun pins s σ H v u Q I r q => h.run pins s σ H v u Q I r (i v σ H Q q)⟩
theorem PGs.imp {X : Cx} {e : List Expr} {t t' : TGs} (h : PGs X e t) (i : ∀ v σ H Q, t' v σ H Q → t v σ H Q) : PGs X e t' := ⟨fun pins s σ H v u Q I r q => h.run pins s σ H v u Q I r (i v σ H Q q)⟩
section
variable {X : Cx} {w : Wd} {Γ Γ1 Γ2 : List Bool} {e : Expr} {es : List Expr} {pos : Pos} {is js : List Nat}
theorem JG.nm {i : Nat} {x : Str} (h : PG X (.Name x pos) (gName i)) (hk : w.pa i = none) : JG X w (.Name x pos) Γ (Γ.set i false) [i] (bindT (.nm i)) :=
  PG.imp h fun v σ H Q ⟨ρ, ow, d, r, rd, q⟩ => by
    by_cases hi : i < ρ.length
    · simp only [bindT, hi, if_true] at q
      obtain ⟨ow', r', s'⟩ := r.setSh rd hi hk
      exact q _ ow' r' s' ⟨by simp, fun j hj => List.getElem?_set_ne (fun z => hj (by simp [z]))⟩
    · simp only [bindT, hi, if_false] at q
theorem JGs.nil : JGs X w [] Γ Γ [] (bindTs []) := PGs.imp pgs_nil fun v σ H Q ⟨ρ, ow, d, r, rd, q⟩ => by
  cases d with
  | nil => exact ⟨rd.unnil, q σ ow r (Same.refl _) (.refl _ _)⟩
  | cons d ds => exact q.elim
theorem JGs.cons {t : Tg} {ts : List Tg} (h : JG X w e Γ Γ1 is (bindT t)) (g : JGs X w es Γ1 Γ2 js (bindTs ts)) (hs : (assignEach (e :: es) X.env).map (·.2) = assign e X.env :: (assignEach es X.env).map (·.2)) :
    JGs X w (e :: es) Γ Γ2 (is ++ js) (bindTs (t :: ts)) := PGs.imp (pgs_cons h g hs) fun v σ H Q ⟨ρ, ow, d, r, rd, q⟩ => by
  cases d with
  | nil => exact q.elim
  | cons d ds =>
    obtain ⟨u, us, rfl, r1, r2⟩ := rd.uncons
    refine ⟨u, us, rfl, ρ, ow, d, r, r1, ?_⟩
    cases e1 : bindT t d ρ with
    | none => simp only [bindTs, e1, Option.bind_none] at q
    | some ρ1 =>
      simp only [bindTs, e1, Option.bind_some] at q
      intro σ1 ow1 r1' s1 o1
      refine ⟨ρ1, ow1, ds, r1', r2.mono s1, ?_⟩
      cases e2 : bindTs ts ds ρ1 with
      | none => simp only [e2] at q
      | some ρ2 =>
        simp only [e2] at q
        exact fun σ2 ow2 r2' s2 o2 => q σ2 ow2 r2' (s1.trans s2) (o1.trans o2)
theorem bindTs_len : ∀ {ts : List Tg} {ds : List D} {ρ ρ' : Rho}, bindTs ts ds ρ = some ρ' → ds.length = ts.length
  | [], [], _, _, _ => rfl
  | t :: ts, d :: ds, ρ, ρ', h => by
    simp only [bindTs, Option.bind_eq_some_iff] at h
    obtain ⟨ρ1, _, h⟩ := h
    simp [bindTs_len h]
  | [], _ :: _, _, _, h => by simp [bindTs] at h
  | _ :: _, [], _, _, h => by simp [bindTs] at h
theorem JG.tp {ts : List Tg} {k : Nat} (hK : X.K = w.K) (hc : X.calm = true) (h : JGs X w es Γ Γ1 is (bindTs ts)) (hn : (assignEach es X.env).length = ts.length) (hst : (assignEach es X.env).findIdx? (·.1) = none) :
    JG X w (.Tuple es k pos) Γ Γ1 is (bindT (.tp ts)) := by
  refine ⟨fun pins s σ H v u Q I ru ⟨ρ, ow, d, r, rd, q⟩ => ?_⟩
  cases d <;> simp only [bindT] at q <;> try (exact q.elim)
  · rename_i ds
    obtain ⟨a, xs, rfl, sq, ra, _⟩ := rd.unlst
    cases e1 : bindTs ts ds ρ with
    | none => simp only [e1] at q
    | some ρ1 =>
      refine (pg_lst hc h hn hst).run pins s σ H _ u Q I ru ⟨a, xs, rfl, by rw [hK]; exact vis_le.seq sq, by rw [ra.len, bindTs_len e1], ρ, ow, ds, r, ra, ?_⟩
      exact q
  · rename_i ds
    obtain ⟨a, xs, rfl, sq, ra, _⟩ := rd.untup
    cases e1 : bindTs ts ds ρ with
    | none => simp only [e1] at q
    | some ρ1 =>
      refine (pg_tup hc h hn hst).run pins s σ H _ u Q I ru ⟨a, xs, rfl, by rw [hK]; exact sqT_mono vis_le sq, by rw [ra.len, bindTs_len e1], ρ, ow, ds, r, ra, ?_⟩
      exact q
end

/-! ### statements -/
/-- what a def leaves when it hands back: the lists that it may have changed, xp barred -/
structure EndR (w : Wd) (ρ : Rho) (xp : Addr → Prop) (H : Hp) : Prop where
  ext : ∀ a o, ¬ w.ps a → w.H0 a = some o → H a = some o
  dom : ∀ a, w.H0 a ≠ none → H a ≠ none
  outs : ∀ i p d, w.pa i = some p → ρ[i]? = some (some d) → ∃ ds vs, d = .list ds ∧ H p = some (.lst vs) ∧ RpAll w.K (hid H fun a => (w.F a ∨ w.ps a) ∨ xp a) vs ds ∧ ds.length ≤ sizeLine
def RetS (w : Wd) (own : Bool) (d : D) (ρ : Rho) (rt : VK) : Prop := match own with
  | true => ∀ p ds vs H, d = .list ds → EndR w ρ (fun a => a = p) H → ¬ w.F p → ¬ w.ps p → w.H0 p = none → H p = some (.lst vs) → RpAll w.K (hid H fun a => (w.F a ∨ w.ps a) ∨ a = p) vs ds → ds.length ≤ sizeLine → rt (.ref p) H
  | false => ∀ v H, EndR w ρ (fun _ => False) H → Rp w.K (hid H fun a => (w.F a ∨ w.ps a) ∨ False) v d → rt v H
theorem Rel.endR {w : Wd} {Γ : List Bool} {ρ : Rho} {ow : Ow} {σ : St} {H : Hp} (r : Rel w Γ ρ ow σ H) (hl : ∀ i p, w.pa i = some p → Γ[i]? = some true) {xp : Addr → Prop} (hx : ∀ a, xp a → OF w ow a) :
    EndR w ρ xp H ∧ Same (vis w ow H) (hid H fun a => (w.F a ∨ w.ps a) ∨ xp a) := by
  have s : Same (vis w ow H) (hid H fun a => (w.F a ∨ w.ps a) ∨ xp a) := hid_mono fun a h => by
    rcases h with (h | ⟨i, h⟩) | h
    · exact .inl h
    · exact .inr ⟨i, r.lkd i a h⟩
    · exact hx a h
  refine ⟨⟨r.ext, r.dom, fun i p d h e => ?_⟩, s⟩
  obtain ⟨q, h1, h2, ds, vs, rfl, h3, h4, h5⟩ := r.own i d e (hl i p h)
  rw [r.lkd i p h] at h1
  cases h1
  exact ⟨ds, vs, rfl, h3, h4.mono s, h5⟩
def PostS (w : Wd) (W : WX) (own : Bool) (lp Γ : List Bool) (B : Hp) (r : Option Out) (E : Ends) : Prop := match r with
  | none => False
  | some (.nx ρ) => ∀ σ H ow, Rel w Γ ρ ow σ H → Same B (vis w ow H) → E.nx σ H
  | some (.ct ρ) => ∀ σ H ow, Rel w lp ρ ow σ H → Same B (vis w ow H) → E.ct σ H
  | some (.bk ρ) => ∀ σ H ow, Rel w lp ρ ow σ H → Same B (vis w ow H) → E.bk σ H
  | some (.rt d ρ) => RetS w own d ρ E.rt
  | some (.ex e ρ) => ∀ σ, XW w W e ρ σ
def tS (w : Wd) (W : WX) (own : Bool) (lp Γ Γ' : List Bool) (x : Rho → Option Out) : TS := fun E σ H => ∃ ρ ow, Rel w Γ ρ ow σ H ∧ PostS w W own lp Γ' (vis w ow H) (x ρ) E
def JS (X : Cx) (w : Wd) (W : WX) (own : Bool) (lp : List Bool) (st : Stmt) (Γ Γ' : List Bool) (x : Rho → Option Out) : Prop := PS X st (tS w W own lp Γ Γ' x)
def JSs (X : Cx) (w : Wd) (W : WX) (own : Bool) (lp : List Bool) (st : List Stmt) (Γ Γ' : List Bool) (x : Rho → Option Out) : Prop := PSs X st (tS w W own lp Γ Γ' x)
section
variable {X : Cx} {w : Wd} {W : WX} {own : Bool} {lp Γ Γ' Γ1 Γ2 : List Bool} {α β : Type} {B B' : Hp} {E : Ends} {ρ : Rho} {σ : St} {H : Hp} {ow : Ow} {pos : Pos} {e : Expr}
theorem posts_base {r : Option Out} (s : Same B B') (q : PostS w W own lp Γ B r E) : PostS w W own lp Γ B' r E := by
  cases r with
  | none => exact q
  | some z => cases z with
    | nx ρ => exact fun σ H ow r t => q σ H ow r (s.trans t)
    | ct ρ => exact fun σ H ow r t => q σ H ow r (s.trans t)
    | bk ρ => exact fun σ H ow r t => q σ H ow r (s.trans t)
    | rt d ρ => exact q
    | ex e ρ => exact q
/-- an evaluation ahead of what follows -/
theorem posts_bnd {Rs : St → Ow → Hp → β → α → Prop} {x : M α} {f : α → Rho → Option Out} {K : β → Hp → Prop} (h : PostS w W own lp Γ B (thenO (x ρ) f) E)
    (k : ∀ a ρ1 b H1 ow1, x ρ = some (.ok a ρ1) → PostS w W own lp Γ B (f a ρ1) E → Rel w Γ1 ρ1 ow1 σ H1 → Same B' (vis w ow1 H1) → Rs σ ow1 H1 b a → K b H1) : Post w W Γ1 Rs B' (x ρ) σ K := by
  unfold thenO at h
  cases e : x ρ with
  | none => rw [e] at h; exact h
  | some r =>
    rw [e] at h
    cases r with
    | ok a ρ1 => exact fun b H1 ow1 r1 s1 q => k a ρ1 b H1 ow1 e h r1 s1 q
    | ex e ρ1 => exact h σ
theorem posts_bndO {x : M D} {f : D → Rho → Option Out} {K : VK} (h : PostS w W own lp Γ B (thenO (x ρ) f) E)
    (k : ∀ ds ρ1 p vs H1 ow1, PostS w W own lp Γ B (f (.list ds) ρ1) E → Rel (w.plus p) Γ1 ρ1 ow1 σ H1 → ¬ OF w ow1 p → w.H0 p = none → H1 p = some (.lst vs) → RpAll w.K (vis (w.plus p) ow1 H1) vs ds → ds.length ≤ sizeLine → Same B' (vis (w.plus p) ow1 H1) → K (.ref p) H1) :
    PostO w W Γ1 B' (x ρ) σ K := by
  unfold thenO at h
  cases e : x ρ with
  | none => rw [e] at h; exact h
  | some r =>
    rw [e] at h
    cases r with
    | ok a ρ1 =>
      intro p ds vs H1 ow1 ea r1 nf n0 hp ra z s
      subst ea
      exact k ds ρ1 p vs H1 ow1 h r1 nf n0 hp ra z s
    | ex e ρ1 => exact h σ
theorem JSs.nil : JSs X w W own lp [] Γ Γ (fun ρ => some (.nx ρ)) := PSs.imp pss_nil fun E σ H ⟨ρ, ow, r, q⟩ => q σ H ow r (Same.refl _)
theorem JSs.cons {st : Stmt} {sts : List Stmt} {x y : Rho → Option Out} (h : JS X w W own lp st Γ Γ1 x) (g : JSs X w W own lp sts Γ1 Γ2 y) : JSs X w W own lp (st :: sts) Γ Γ2 (fun ρ => match x ρ with
    | some (.nx ρ1) => y ρ1
    | r => r) := PSs.imp (pss_cons h g) fun E σ H ⟨ρ, ow, r, q⟩ => ⟨ρ, ow, r, by
  have q : PostS w W own lp Γ2 (vis w ow H) (match x ρ with
    | some (.nx ρ1) => y ρ1
    | r => r) E := q
  cases e : x ρ with
  | none => rw [e] at q; exact q
  | some z =>
    rw [e] at q
    cases z with
    | nx ρ1 => exact fun σ1 H1 ow1 r1 s1 => ⟨ρ1, ow1, r1, posts_base s1 q⟩
    | ct ρ1 => exact q
    | bk ρ1 => exact q
    | rt d ρ1 => exact q
    | ex e ρ1 => exact q⟩
/-- a name is forgotten: no step of the program -/
theorem JSs.kill {sts : List Stmt} {y : Rho → Option Out} {is : List Nat} (g : JSs X w W own lp sts Γ Γ2 y) : JSs X w W own lp sts Γ Γ2 (fun ρ => match (some (Out.nx (wipeR ρ is)) : Option Out) with
    | some (.nx ρ1) => y ρ1
    | r => r) := PSs.imp g fun E σ H ⟨ρ, ow, r, q⟩ => ⟨wipeR ρ is, ow, r.kill is, q⟩
theorem JS.pass : JS X w W own lp (.Pass pos) Γ Γ (fun ρ => some (.nx ρ)) := PS.imp ps_pass fun E σ H ⟨ρ, ow, r, q⟩ => q σ H ow r (Same.refl _)
theorem JS.brk (hl : ∀ i : Nat, lp[i]? = some true → Γ[i]? = some true) (hk : ∀ i p, w.pa i = some p → lp[i]? = some true) : JS X w W own lp (.Break pos) Γ Γ' (fun ρ => some (.bk ρ)) := PS.imp ps_break fun E σ H ⟨ρ, ow, r, q⟩ => by
  obtain ⟨ow', r', s'⟩ := r.weak hl hk
  exact q σ H ow' r' s'
theorem JS.cnt (hl : ∀ i : Nat, lp[i]? = some true → Γ[i]? = some true) (hk : ∀ i p, w.pa i = some p → lp[i]? = some true) : JS X w W own lp (.Continue pos) Γ Γ' (fun ρ => some (.ct ρ)) := PS.imp ps_continue fun E σ H ⟨ρ, ow, r, q⟩ => by
  obtain ⟨ow', r', s'⟩ := r.weak hl hk
  exact q σ H ow' r' s'
theorem JS.ex {x : M D} (h : JE X w W e Γ Γ1 x) (hs : swapsWith e none pos.line X.env = pure false) : JS X w W own lp (.Expr e pos) Γ Γ1 (fun ρ => thenO (x ρ) fun _ ρ1 => some (.nx ρ1)) :=
  PS.imp (ps_expr h hs) fun E σ H ⟨ρ, ow, r, q⟩ => ⟨ρ, ow, r, posts_bnd q fun d ρ1 v H1 ow1 _ q r1 s1 rs => q σ H1 ow1 r1 s1⟩
theorem JS.doc {x : Str} {j pos'} : JS X w W own lp (.Expr (.Constant (.str x) j pos') pos) Γ Γ (fun ρ => some (.nx ρ)) := PS.imp ps_doc fun E σ H ⟨ρ, ow, r, q⟩ => q σ H ow r (Same.refl _)
theorem lk_le (wk : WdOk w) (hl : ∀ i p, w.pa i = some p → Γ[i]? = some true) : ∀ i : Nat, w.lk[i]? = some true → Γ[i]? = some true := fun i h => by
  have := (wk.lkp i).mp h
  cases e : w.pa i with
  | none => rw [e] at this; cases this
  | some p => exact hl i p e
theorem lk_own (wk : WdOk w) : ∀ i p, w.pa i = some p → w.lk[i]? = some true := fun i p h => (wk.lkp i).mpr (by rw [h]; rfl)
theorem JS.ret {x : M D} (wk : WdOk w) (hl : ∀ i p, w.pa i = some p → Γ1[i]? = some true) (h : JE X w W e Γ Γ1 x) : JS X w W false lp (.Return (some e) pos) Γ Γ' (fun ρ => thenO (x ρ) fun d ρ1 => some (.rt d ρ1)) :=
  PS.imp (ps_ret h) fun E σ H ⟨ρ, ow, r, q⟩ => ⟨ρ, ow, r, posts_bnd q fun d ρ1 v H1 ow1 _ q r1 s1 rs => by
    obtain ⟨e1, s2⟩ := r1.endR hl (xp := fun _ => False) fun a h => h.elim
    exact q v H1 e1 (Rp.mono rs s2)⟩
theorem JS.retN (wk : WdOk w) (hl : ∀ i p, w.pa i = some p → Γ[i]? = some true) : JS X w W false lp (.Return none pos) Γ Γ' (fun ρ => some (.rt .none ρ)) :=
  PS.imp ps_retN fun E σ H ⟨ρ, ow, r, q⟩ => by
    obtain ⟨e1, s2⟩ := r.endR hl (xp := fun _ => False) fun a h => h.elim
    exact q .non H e1 .non
theorem JS.retO {x : M D} (wk : WdOk w) (hl : ∀ i p, w.pa i = some p → Γ1[i]? = some true) (h : JO X w W e Γ Γ1 x) : JS X w W true lp (.Return (some e) pos) Γ Γ' (fun ρ => thenO (x ρ) fun d ρ1 => some (.rt d ρ1)) :=
  PS.imp (ps_ret h) fun E σ H ⟨ρ, ow, r, q⟩ => ⟨ρ, ow, r, posts_bndO q fun ds ρ1 p vs H1 ow1 q r1 nf n0 hp ra z s => by
    have s3 : Same (vis (w.plus p) ow1 H1) (hid H1 fun a => (w.F a ∨ w.ps a) ∨ a = p) := hid_mono fun a h => by
      rcases h with (h | ⟨i, h⟩) | h
      · exact .inl (.inl h)
      · exact .inr ⟨i, r1.lkd i a h⟩
      · exact .inl (.inr h)
    refine q p ds vs H1 rfl ⟨r1.ext, r1.dom, fun i q d h e => ?_⟩ (fun z => nf (.inl z)) (fun ⟨i, z⟩ => nf (.inr ⟨i, r1.lkd i p z⟩)) n0 hp (ra.mono s3) z
    obtain ⟨q, h1, h2, es, us, rfl, h3, h4, h5⟩ := r1.own i d e (hl i q h)
    rw [r1.lkd i _ h] at h1
    cases h1
    exact ⟨es, us, rfl, h3, h4.mono s3, h5⟩⟩
/-- a name that owns its list hands it back -/
theorem JS.retV {i : Nat} (wk : WdOk w) (hl : ∀ i p, w.pa i = some p → Γ[i]? = some true) (h : PE X e (tVar i)) (hg : Γ[i]? = some true) (hk : w.pa i = none) : JS X w W true lp (.Return (some e) pos) Γ Γ' (fun ρ => thenO (rdP (.s i) ρ) fun d ρ1 => some (.rt d ρ1)) :=
  PS.imp (ps_ret h) fun E σ H ⟨ρ, ow, r, q⟩ => by
    have hr : rdP (.s i) ρ = (match ρ[i]? with | some (some d) => some (.ok d ρ) | _ => none) := rfl
    have q : PostS w W true lp Γ' (vis w ow H) (thenO (rdP (.s i) ρ) fun d ρ1 => some (.rt d ρ1)) E := q
    rw [hr] at q
    cases e : ρ[i]? with
    | none => rw [e] at q; exact q.elim
    | some o =>
      cases o with
      | none => rw [e] at q; exact q.elim
      | some d =>
        rw [e] at q
        obtain ⟨p, h1, h2, ds, vs, rfl, h3, h4, h5⟩ := r.own i d e hg
        obtain ⟨e1, s2⟩ := r.endR hl (xp := fun a => a = p) fun a h => .inr ⟨i, by rw [h]; exact h1⟩
        have np : ¬ w.ps p := fun ⟨j, z⟩ => by
          have := r.inj i j p h1 (r.lkd j p z)
          subst this
          rw [hk] at z; cases z
        obtain ⟨x1, x2, x3⟩ := r.ne i p h1
        exact ⟨_, h2, q p ds vs H rfl e1 x1 np (x2.resolve_left np) h3 (h4.mono s2) h5⟩
end
end VF

end
section
set_option Elab.async false
set_option linter.all false
set_option autoImplicit false
set_option maxRecDepth 100000
set_option maxHeartbeats 1000000
/-! VL: assignments, branches, loops, comprehensions. -/
namespace VF
open PySem PySem.Spec L2
section
variable {X : Cx} {w : Wd} {W : WX} {own : Bool} {lp lq Γ Γ' Γ1 Γ2 Γ3 : List Bool} {α β : Type} {B B' : Hp} {E : Ends} {ρ : Rho} {σ : St} {H : Hp} {ow : Ow} {pos : Pos} {e : Expr} {is : List Nat}
/-- the lists of the entry stay owned -/
def LkIn (w : Wd) (Γ : List Bool) : Prop := ∀ i p, w.pa i = some p → Γ[i]? = some true
def Le (Γ' Γ : List Bool) : Prop := ∀ i : Nat, Γ'[i]? = some true → Γ[i]? = some true
theorem Le.refl : Le Γ Γ := fun _ h => h
theorem Le.trans (a : Le Γ Γ1) (b : Le Γ1 Γ2) : Le Γ Γ2 := fun i h => b i (a i h)
theorem LkIn.le (h : LkIn w Γ) (l : Le Γ Γ') : LkIn w Γ' := fun i p e => l i (h i p e)
theorem posts_weak {r : Option Out} (hl : Le Γ' Γ) (hk : LkIn w Γ') (q : PostS w W own lp Γ' B r E) : PostS w W own lp Γ B r E := by
  cases r with
  | none => exact q
  | some z => cases z with
    | nx ρ => exact fun σ H ow r t => let ⟨ow', r', s'⟩ := r.weak hl hk; q σ H ow' r' (t.trans s')
    | ct ρ => exact q
    | bk ρ => exact q
    | rt d ρ => exact q
    | ex e ρ => exact q
theorem JSs.weak {st : List Stmt} {x : Rho → Option Out} (h : JSs X w W own lp st Γ Γ1 x) (hl : Le Γ2 Γ1) (hk : LkIn w Γ2) : JSs X w W own lp st Γ Γ2 x :=
  PSs.imp h fun E σ H ⟨ρ, ow, r, q⟩ => ⟨ρ, ow, r, posts_weak hl hk q⟩
theorem JSs.pre {st : List Stmt} {x : Rho → Option Out} (h : JSs X w W own lp st Γ1 Γ2 x) (hl : Le Γ1 Γ) (hk : LkIn w Γ1) : JSs X w W own lp st Γ Γ2 x :=
  PSs.imp h fun E σ H ⟨ρ, ow, r, q⟩ => let ⟨ow', r', s'⟩ := r.weak hl hk; ⟨ρ, ow', r', posts_base s' q⟩
theorem JE.weak {x : M D} (h : JE X w W e Γ Γ1 x) (hl : Le Γ2 Γ1) (hk : LkIn w Γ2) : JE X w W e Γ Γ2 x :=
  PE.imp h fun σ H Q ⟨ρ, ow, r, q⟩ => ⟨ρ, ow, r, by
    cases e : x ρ with
    | none => rw [e] at q; exact q
    | some z =>
      rw [e] at q
      cases z with
      | ex e ρ1 => exact q
      | ok d ρ1 => exact fun b H1 ow1 r1 s1 rs => let ⟨ow2, r2, s2⟩ := r1.weak hl hk; q b H1 ow2 r2 (s1.trans s2) (Rp.mono rs s2)⟩
/-! ### assignments -/
theorem JS.set {i : Nat} {y : Str} {p : Pos} {x : M D} (hN : X.N.Nodup) (hi : X.N[i]? = some y) (hx : Loc X.env.scope y) (hf : X.fn y = true ∨ X.env.scope.names.lookup y = some .local) (hk : w.pa i = none)
    (h : JE X w W e Γ Γ1 x) (hs : swapsWith e (some (.Name y p)) pos.line X.env = pure false) :
    JS X w W own lp (.Assign [.Name y p] e pos) Γ (Γ1.set i false) (fun ρ => thenO (x ρ) fun d ρ1 => (bindT (.nm i) d ρ1).map .nx) :=
  PS.imp (ps_set hN hi hx h hs hf) fun E σ H ⟨ρ, ow, r, q⟩ => ⟨ρ, ow, r, posts_bnd q fun d ρ1 v H1 ow1 _ q r1 s1 rs => by
    by_cases hi : i < ρ1.length
    · simp only [bindT, hi, if_true, Option.map_some] at q
      obtain ⟨ow2, r2, s2⟩ := r1.setSh (d := d) (v := v) rs hi hk
      exact q _ H1 ow2 r2 (s1.trans s2)
    · simp only [bindT, hi, if_false, Option.map_none] at q
      exact q.elim⟩
theorem JS.asg {tg : Expr} {x : M D} {y : D → Rho → Option Rho} (h : JE X w W e Γ Γ1 x) (g : JG X w tg Γ1 Γ2 is y) (hs : swapsWithSole [tg] e pos.line X.env = pure false) (hw : swappedStores [tg] e X.env = pure none)
    (h1 : (assignEach [tg] X.env).map (·.2) = [assign tg X.env]) : JS X w W own lp (.Assign [tg] e pos) Γ Γ2 (fun ρ => thenO (x ρ) fun d ρ1 => (y d ρ1).map .nx) :=
  PS.imp (ps_asg h g hs hw h1) fun E σ H ⟨ρ, ow, r, q⟩ => ⟨ρ, ow, r, posts_bnd q fun d ρ1 v H1 ow1 _ q r1 s1 rs => ⟨ρ1, ow1, d, r1, rs, by
    cases e : y d ρ1 with
    | none => rw [e] at q; exact q
    | some ρ2 =>
      rw [e] at q
      exact fun σ2 ow2 r2 s2 _ => q σ2 H1 ow2 r2 (s1.trans s2)⟩⟩
theorem asgO_sem {i : Nat} {x : M D} {te : TE} (hk : w.pa i = none) (hg : i < Γ1.length) (h : ∀ σ H Q, tO w W Γ Γ1 x σ H Q → te σ H Q) (E : Ends) (σ : St) (H : Hp)
    (q : tS w W own lp Γ (Γ1.set i true) (fun ρ => thenO (x ρ) fun d ρ1 => (bindT (.nm i) d ρ1).map .nx) E σ H) : tAsg te (gName i) E σ H := by
  obtain ⟨ρ, ow, r, q⟩ := q
  refine h _ _ _ ⟨ρ, ow, r, posts_bndO q fun ds ρ1 p vs H1 ow1 q r1 nf n0 hp ra z s1 => ?_⟩
  by_cases hi : i < ρ1.length
  · simp only [bindT, hi, if_true, Option.map_some] at q
    obtain ⟨ow2, r2, s2⟩ := r1.setOwn hp ra z nf n0 hi hg hk
    exact q _ H1 ow2 r2 (s1.trans s2)
  · simp only [bindT, hi, if_false, Option.map_none] at q
    exact q.elim
theorem JS.setO {i : Nat} {y : Str} {p : Pos} {x : M D} (hN : X.N.Nodup) (hi : X.N[i]? = some y) (hx : Loc X.env.scope y) (hf : X.fn y = true ∨ X.env.scope.names.lookup y = some .local) (hk : w.pa i = none) (hg : i < Γ1.length)
    (h : JO X w W e Γ Γ1 x) (hs : swapsWith e (some (.Name y p)) pos.line X.env = pure false) :
    JS X w W own lp (.Assign [.Name y p] e pos) Γ (Γ1.set i true) (fun ρ => thenO (x ρ) fun d ρ1 => (bindT (.nm i) d ρ1).map .nx) :=
  PS.imp (ps_set hN hi hx h hs hf) (asgO_sem hk hg fun _ _ _ q => q)
/-- x[i] = e where x owns its list -/
theorem JS.setIx {i : Nat} {o ix : Expr} {p : Pos} {x y : M D} (wk : WdOk w) (hK : X.K = w.K) (h : JE X w W e Γ Γ1 x) (ho : PE X o (tVar i)) (g : JE X w W ix Γ1 Γ2 y) (hg : Γ2[i]? = some true) (hg1 : Γ1[i]? = some true) (hs : swapsWithSole [.Subscript o ix p] e pos.line X.env = pure false) (hw : swappedStores [.Subscript o ix p] e X.env = pure none)
    (hp : ∀ v, assign (.Subscript o ix p) X.env v = (do
      let ov ← holding [v] (eval o X.env)
      let iv ← holding [v, ov] (eval ix X.env)
      standAt p
      holding [v, ov, iv] (setItem ov iv v)
      release [v, ov, iv] [])) (h1 : (assignEach [.Subscript o ix p] X.env).map (·.2) = [assign (.Subscript o ix p) X.env]) : JS X w W own lp (.Assign [.Subscript o ix p] e pos) Γ Γ2 (fun ρ => thenO (x ρ) fun d ρ1 => thenO (match ρ1[i]? with | some (some _) => y ρ1 | _ => none) fun k ρ2 => match ρ2[i]?, k with
    | some (some (.list xs)), .int n => match ixN xs.length n with
      | some j => some (.nx (ρ2.set i (some (.list (xs.set j d)))))
      | none => none
    | _, _ => none) :=
  PS.imp (ps_asg h (pg_sub ho g set_list hp) hs hw h1) fun E σ H ⟨ρ, ow, r, q⟩ => ⟨ρ, ow, r, posts_bnd q fun d ρ1 v H1 ow1 _ q r1 s1 rs => by
    cases e0 : ρ1[i]? with
    | none => simp only [e0] at q; exact q.elim
    | some o =>
      cases o with
      | none => simp only [e0] at q; exact q.elim
      | some d0 =>
        simp only [e0] at q
        obtain ⟨p0, _, g2, _⟩ := r1.own i d0 e0 hg1
        refine ⟨_, g2, ρ1, ow1, r1, posts_bnd q fun k ρ2 kv H2 ow2 _ q r2 s2 rk => ?_⟩
        cases e1 : ρ2[i]? with
        | none => simp only [e1] at q; exact q.elim
        | some o =>
          cases o with
          | none => simp only [e1] at q; exact q.elim
          | some d1 =>
            cases d1 with
            | list xs =>
              cases k with
              | int n =>
                simp only [e1] at q
                cases e2 : ixN xs.length n with
                | none => simp only [e2] at q; exact q.elim
                | some j =>
                  simp only [e2] at q
                  obtain ⟨p, h1, h2, es, us, ee, h3, h4, h5⟩ := r2.own i _ e1 hg
                  cases ee
                  rw [g2] at h2
                  cases h2
                  obtain ⟨r3, s3⟩ := r2.mutate wk (ds := xs.set j d) (vs := us.set j v) hg h1 (h4.set (Rp.mono rs s2) j) (by simpa using h5) g2
                  exact ⟨p0, us, n, j, rfl, rk.unint, h3, by rw [h4.len]; exact e2, q σ _ ow2 r3 (s1.trans (s2.trans s3))⟩
              | _ => simp only [e1] at q; exact q.elim
            | _ => simp only [e1] at q; exact q.elim⟩
/-! ### branches -/
theorem JS.ife {c : Expr} {a b : List Stmt} {x : M Bool} {u v : Rho → Option Out} (hc : JT X w W c Γ Γ1 x) (ha : JSs X w W own lp a Γ1 Γ2 u) (hb : JSs X w W own lp b Γ1 Γ2 v) :
    JS X w W own lp (.If c a b pos) Γ Γ2 (fun ρ => thenO (x ρ) fun t ρ1 => if t then u ρ1 else v ρ1) :=
  PS.imp (ps_if hc ha hb) fun E σ H ⟨ρ, ow, r, q⟩ => ⟨ρ, ow, r, posts_bnd q fun d ρ1 k H1 ow1 _ q r1 s1 rs => by
    obtain rfl : k = d := rs
    cases k with
    | true => exact iteT ⟨ρ1, ow1, r1, posts_base s1 q⟩
    | false => exact iteF ⟨ρ1, ow1, r1, posts_base s1 q⟩⟩
/-! ### loops -/
theorem thenO_some {x : Option (R α)} {f : α → Rho → Option Out} (h : PostS w W own lp Γ B (thenO x f) E) : (∃ a ρ1, x = some (.ok a ρ1) ∧ PostS w W own lp Γ B (f a ρ1) E) ∨ ∃ e ρ1, x = some (.ex e ρ1) ∧ ∀ σ, XW w W e ρ1 σ := by
  cases x with
  | none => exact h.elim
  | some z => cases z with
    | ok a ρ1 => exact .inl ⟨a, ρ1, rfl, h⟩
    | ex e ρ1 => exact .inr ⟨e, ρ1, rfl, h⟩
/-- what an item is when the walk has reached it -/
def YD (K : PySem.W.Frag) (B : Hp) (ds : List D) : Nat → Hp → V → Hp → Prop := fun i H x H' => ∃ d, ds[i]? = some d ∧ ((H' = H ∧ Rp K B x d) ∨ ∃ T vs es, x = .ref T ∧ H T = none ∧ H' = upd H T (.tup vs) ∧ d = .tuple es ∧ RpAll K B vs es ∧ okLen es.length = true)
theorem ItOk.walk {K : PySem.W.Frag} {J : It} {ds : List D} (h : ItOk K B J ds) : Walk J ds.length (fun H => Same B H) (YD K B ds) where
  goes := fun i H hi s => h.go i H s hi
  stops := fun H s => h.stop H s
  yields := fun i H x H' hi s y => ⟨ds[i], List.getElem?_eq_getElem hi, h.yld i H x H' _ s y (List.getElem?_eq_getElem hi)⟩
/-- an item at hand -/
theorem YD.item (wk : WdOk w) {ds : List D} {i : Nat} {H' : Hp} {x : V} (h : YD w.K B ds i H x H') (r : Rel w Γ ρ ow σ H) (s : Same B (vis w ow H)) : ∃ d, ds[i]? = some d ∧ Rel w Γ ρ ow σ H' ∧ Same (vis w ow H) (vis w ow H') ∧ Rp w.K (vis w ow H') x d := by
  obtain ⟨d, e, h⟩ := h
  refine ⟨d, e, ?_⟩
  rcases h with ⟨rfl, h⟩ | ⟨T, vs, es, rfl, hT, rfl, rfl, h, z⟩
  · exact ⟨r, Same.refl _, h.mono s⟩
  · obtain ⟨r2, nf, n0, np, lv⟩ := r.alloc (o := .tup vs) wk hT
    refine ⟨r2, lv, .tup (.of ?_) (h.mono (s.trans lv)) z⟩
    show hid _ _ _ = _
    rw [hid_out nf, upd_same]
theorem drop_cons {l : List D} {i : Nat} {d : D} (h : l[i]? = some d) : l.drop i = d :: l.drop (i + 1) := by
  obtain ⟨hi, rfl⟩ := List.getElem?_eq_some_iff.mp h
  rw [List.drop_eq_getElem_cons hi]
theorem JS.fr {tg it : Expr} {b : List Stmt} {x : M (List D)} {y : D → Rho → Option Rho} {u : Rho → Option Out} (wk : WdOk w) (hp : PassesOwn (model X.prog X.w) X.A X.env X.xe) (hc : X.calm = true) (hs : ∀ x, foldedSetIterable it X.env x = pure x)
    (hi : JI X w W tg it Γ Γ1 x) (hl1 : Le lq Γ1) (hk : LkIn w lq) (hg : JG X w tg lq Γ2 is y) (hb : JSs X w W own lq b Γ2 Γ3 u) (hl : Le lq Γ3) :
    JS X w W own lp (.For tg it b [] pos) Γ lq (fun ρ => thenO (x ρ) fun ds ρ1 => forL y u ds ρ1) := by
  refine PS.imp (ps_for hp hc hi hg hb hs) fun E σ H ⟨ρ, ow, r, q⟩ => ⟨ρ, ow, r, ?_⟩
  have q : PostS w W own lp lq (vis w ow H) (thenO (x ρ) fun ds ρ1 => forL y u ds ρ1) E := q
  rcases thenO_some q with ⟨ds, ρ1, e, q⟩ | ⟨e', ρ1, e, q⟩
  · rw [e]
    intro J H1 ow1 r1 s1 io
    obtain ⟨ow1', r1', s1'⟩ := r1.weak hl1 hk
    refine for_it io.walk (fun i σ H => ∃ ρ ow, Rel w lq ρ ow σ H ∧ Same (vis w ow1 H1) (vis w ow H) ∧ PostS w W own lp lq (vis w ow1 H1) (forL y u (ds.drop i) ρ) E) ⟨ρ1, ow1', r1', s1', posts_base s1 q⟩ (fun i σ H hi ⟨ρ, ow, r, s, q⟩ => s.trans vis_le) ?_ ?_
    · rintro i x σ H H' hi ⟨ρ, ow, r, s, q⟩ y'
      obtain ⟨d, ed, r2, s2, rx⟩ := y'.item wk r s
      rw [drop_cons ed] at q
      refine ⟨ρ, ow, d, r2, rx, ?_⟩
      unfold forL at q
      cases e1 : y d ρ with
      | none => rw [e1] at q; exact q.elim
      | some ρ2 =>
        rw [e1] at q
        intro σ2 ow2 r3 s3 _
        refine ⟨ρ2, ow2, r3, ?_⟩
        have q : PostS w W own lp lq (vis w ow1 H1) (match u ρ2 with
          | some (.nx ρ2) => forL y u (ds.drop (i + 1)) ρ2
          | some (.ct ρ2) => forL y u (ds.drop (i + 1)) ρ2
          | some (.bk ρ2) => some (.nx ρ2)
          | r => r) E := q
        have t3 := s.trans (s2.trans s3)
        cases e2 : u ρ2 with
        | none => rw [e2] at q; exact q.elim
        | some z =>
          rw [e2] at q
          cases z with
          | nx ρ3 => exact fun σ4 H4 ow4 r4 s4 => let ⟨ow5, r5, s5⟩ := r4.weak hl hk; ⟨ρ3, ow5, r5, t3.trans (s4.trans s5), q⟩
          | ct ρ3 => exact fun σ4 H4 ow4 r4 s4 => ⟨ρ3, ow4, r4, t3.trans s4, q⟩
          | bk ρ3 => exact fun σ4 H4 ow4 r4 s4 => q σ4 H4 ow4 r4 (t3.trans s4)
          | rt d ρ3 => exact q
          | ex e ρ3 => exact q
    · rintro σ H ⟨ρ, ow, r, s, q⟩
      rw [List.drop_length] at q
      exact q σ H ow r s
  · rw [e]; exact q σ
theorem JS.whl {c : Expr} {b : List Stmt} {x : M Bool} {u : Rho → Option Out} {n : Nat} (hp : PassesOwn (model X.prog X.w) X.A X.env X.xe) (hl1 : Le lq Γ) (hk : LkIn w lq) (hc : JT X w W c lq Γ1 x) (hb : JSs X w W own lq b Γ1 Γ2 u) (hl : Le lq Γ2) (hl2 : Le Γ1 lq) (hk1 : LkIn w Γ1) :
    JS X w W own lp (.While c b [] pos) Γ Γ1 (whlL x u n) := by
  refine PS.imp (ps_while hp hc hb) fun E σ H ⟨ρ, ow, r, q⟩ => ?_
  obtain ⟨ow', r', s'⟩ := r.weak hl1 hk
  refine ⟨fun m σ1 H1 => ∃ ρ ow1, Rel w lq ρ ow1 σ1 H1 ∧ Same (vis w ow' H) (vis w ow1 H1) ∧ PostS w W own lp Γ1 (vis w ow' H) (whlL x u m ρ) E, ⟨n, ρ, ow', r', Same.refl _, posts_base s' q⟩, ?_⟩
  rintro m σ1 H1 ⟨ρ1, ow1, r1, s1, q⟩
  refine ⟨ρ1, ow1, r1, ?_⟩
  cases m with
  | zero => exact q.elim
  | succ m =>
    unfold whlL at q
    cases e : x ρ1 with
    | none => rw [e] at q; exact q.elim
    | some z =>
      rw [e] at q
      cases z with
      | ex e ρ2 => exact q σ1
      | ok k ρ2 =>
        intro k' H2 ow2 r2 s2 rs
        obtain rfl : k' = k := rs
        cases k' with
        | false => exact iteF (q σ1 H2 ow2 r2 (s1.trans s2))
        | true =>
          refine iteT ⟨fun σ3 H3 => ∃ ρ ow1, Rel w lq ρ ow1 σ3 H3 ∧ Same (vis w ow' H) (vis w ow1 H3) ∧ PostS w W own lp Γ1 (vis w ow' H) (whlL x u m ρ) E, fun σ3 H3 h => ⟨m, Nat.lt_succ_self m, h⟩, ρ2, ow2, r2, ?_⟩
          have q : PostS w W own lp Γ1 (vis w ow' H) (match u ρ2 with
            | some (.nx ρ2) => whlL x u m ρ2
            | some (.ct ρ2) => whlL x u m ρ2
            | some (.bk ρ2) => some (.nx ρ2)
            | r => r) E := q
          have t3 := s1.trans s2
          cases e2 : u ρ2 with
          | none => rw [e2] at q; exact q.elim
          | some z =>
            rw [e2] at q
            cases z with
            | nx ρ3 => exact fun σ4 H4 ow4 r4 s4 => let ⟨ow5, r5, s5⟩ := r4.weak hl hk; ⟨ρ3, ow5, r5, t3.trans (s4.trans s5), q⟩
            | ct ρ3 => exact fun σ4 H4 ow4 r4 s4 => ⟨ρ3, ow4, r4, t3.trans s4, q⟩
            | bk ρ3 => exact fun σ4 H4 ow4 r4 s4 => let ⟨ow5, r5, s5⟩ := r4.weak hl2 hk1; q σ4 H4 ow5 r5 (t3.trans (s4.trans s5))
            | rt d ρ3 => exact q
            | ex e ρ3 => exact q
end
end VF

end
section
set_option Elab.async false
set_option linter.all false
set_option autoImplicit false
set_option maxRecDepth 100000
set_option maxHeartbeats 1000000
/-! VM: comprehensions. -/
namespace VF
open PySem PySem.Spec L2
def cM : Option (M Bool) → M Bool
  | none => M.ret true
  | some m => m
theorem compL_cons {bnd : D → Rho → Option Rho} {c : Option (M Bool)} {el : M D} {vs : List Nat} {x : D} {xs : List D} {ρ : Rho} : compL bnd c el vs (x :: xs) ρ = match bnd x ρ with
    | none => none
    | some ρ1 => match cM c ρ1 with
      | some (.ok false ρ2) => compL bnd c el vs xs (wipeR ρ2 vs)
      | some (.ok true ρ2) => match el ρ2 with
        | some (.ok y ρ3) => (compL bnd c el vs xs (wipeR ρ3 vs)).map fun r => (y :: r.1, r.2)
        | _ => none
      | _ => none := by
  cases c <;> rfl
theorem backR_length {ρ0 : Rho} : ∀ (vs : List Nat) (ρ : Rho), (backR ρ0 vs ρ).length = ρ.length
  | [], _ => rfl
  | v :: vs, ρ => by unfold backR; rw [List.length_set, backR_length vs ρ]
theorem backR_get {ρ0 ρ : Rho} {i : Nat} (hl : ρ0.length = ρ.length) : ∀ {vs : List Nat}, (backR ρ0 vs ρ)[i]? = if i ∈ vs then ρ0[i]? else ρ[i]?
  | [] => by simp [backR]
  | v :: vs => by
    unfold backR
    by_cases h : v = i
    · subst h
      by_cases hv : v < ρ.length
      · rw [List.getElem?_set_self (by rw [backR_length]; exact hv)]
        have : v < ρ0.length := by omega
        simp [List.getElem?_eq_getElem this]
      · rw [List.getElem?_eq_none (by rw [List.length_set, backR_length]; omega)]
        simp
        omega
    · rw [List.getElem?_set_ne h, backR_get (vs := vs) hl]
      simp [Ne.symm h]
theorem wipe_only {is vs : List Nat} {σ σ2 : St} (o : OnlyAt is (wipe σ vs) σ2) (h : ∀ i ∈ is, i ∈ vs) : wipe σ2 vs = wipe σ vs := by
  apply List.ext_getElem?
  intro j
  rw [wipe_get, wipe_get, o.1, wipe_length]
  by_cases hj : j ∈ vs
  · simp [hj]
  · simp only [hj, if_false]
    rw [o.2 j fun z => hj (h j z), wipe_get, if_neg hj]
section
variable {X : Cx} {w : Wd} {W W' : WX} {own : Bool} {lp Γ Γ' Γ1 Γ2 Γc Γt Γu Γe : List Bool} {ρ : Rho} {σ : St} {H : Hp} {ow : Ow} {pos : Pos} {e : Expr} {is vs : List Nat}
def compM (x : M (List D)) (y : D → Rho → Option Rho) (c : Option (M Bool)) (el : M D) (vs : List Nat) : M D := M.bnd x fun ds ρ => if okLen ds.length then
      match compL y c el vs ds (wipeR ρ vs) with
      | none => none
      | some (ys, ρ') => some (.ok (.list ys) (backR ρ vs ρ'))
    else none
theorem Rel.back {p : Addr} {ow' : Ow} {H' : Hp} {ρ' : Rho} (r0 : Rel w Γc ρ ow σ H) (r : Rel (w.plus p) Γc ρ' ow' (L2.wipe σ vs) H') (s : Same (vis w ow H) (vis (w.plus p) ow' H')) (hv : ∀ i ∈ vs, Γc[i]? ≠ some true) :
    Rel (w.plus p) Γc (backR ρ vs ρ') ow' σ H' := by
  have hl : ρ.length = ρ'.length := by rw [← r0.len, ← r.len, wipe_length]
  refine ⟨by rw [backR_length, ← hl, r0.len], fun j e q g => ?_, fun j e q g => ?_, r.inj, r.ne, r.ext, r.dom, r.fd, r.lkd, r.fz⟩
  · rw [backR_get hl] at q
    by_cases hj : j ∈ vs
    · rw [if_pos hj] at q
      obtain ⟨v, h1, h2⟩ := r0.sh j e q g
      exact ⟨v, h1, h2.mono s⟩
    · rw [if_neg hj] at q
      obtain ⟨v, h1, h2⟩ := r.sh j e q g
      rw [wipe_get, if_neg hj] at h1
      exact ⟨v, h1, h2⟩
  · rw [backR_get hl] at q
    have hj : j ∉ vs := fun z => hv j z g
    rw [if_neg hj] at q
    obtain ⟨p, h1, h2, h3⟩ := r.own j e q g
    rw [wipe_get, if_neg hj] at h2
    exact ⟨p, h1, h2, h3⟩
theorem compL_len {y : D → Rho → Option Rho} {c : Option (M Bool)} {el : M D} : ∀ {ds : List D} {ρ : Rho} {r : List D × Rho}, compL y c el vs ds ρ = some r → r.1.length ≤ ds.length
  | [], _, _, h => by cases h; exact Nat.le_refl _
  | x :: xs, ρ, r, h => by
    rw [compL_cons] at h
    cases e1 : y x ρ with
    | none => simp only [e1] at h; cases h
    | some ρ1 =>
      simp only [e1] at h
      split at h
      · have := compL_len h
        simp; omega
      · split at h
        · simp only [Option.map_eq_some_iff] at h
          obtain ⟨r', h, rfl⟩ := h
          have := compL_len h
          simp; omega
        · cases h
      · cases h
/-- what a comprehension makes -/
theorem lc_sem (wk : WdOk w) {x : M (List D)} {y : D → Rho → Option Rho} {c : Option (M Bool)} {el : M D} {tt : TT} (hl1 : Le Γc Γ1) (hk : LkIn w Γc) (hv : ∀ i ∈ vs, Γc[i]? ≠ some true) (hi : ∀ i ∈ is, i ∈ vs)
    (htt : ∀ D o σ H Q, tM (w.pin D o) W' Γt Γu RE (cM c) σ H Q → tt σ H Q) (hu : Le Γc Γu) (he : Le Γc Γe) (σ : St) (H : Hp) (Q : VK) (h : tO w W Γ Γc (compM x y c el vs) σ H Q) :
    tLc (tI w W Γ Γ1 x) (fun v σ H Q => ∃ D o, tG (w.pin D o) Γc Γt is y v σ H Q) tt (fun σ H Q => ∃ D o, tM (w.pin D o) W' Γu Γe (RD (w.pin D o)) el σ H Q) vs σ H Q := by
  obtain ⟨ρ, ow, r, q⟩ := h
  refine ⟨ρ, ow, r, ?_⟩
  unfold compM M.bnd at q
  cases ex : x ρ with
  | none => rw [ex] at q; exact q
  | some z =>
    rw [ex] at q
    cases z with
    | ex e ρ1 => exact q
    | ok ds ρ1 =>
      intro J H1 ow1' r1' s1' io D hD
      obtain ⟨ow1, r1, s11⟩ := r1'.weak hl1 hk
      have s1 := s1'.trans s11
      have q : PostO w W Γc (vis w ow H) (if okLen ds.length then
        match compL y c el vs ds (wipeR ρ1 vs) with
        | none => none
        | some (ys, ρ') => some (.ok (.list ys) (backR ρ1 vs ρ'))
        else none) σ Q := q
      by_cases hz : okLen ds.length = true
      · rw [if_pos hz] at q
        have hz' := okLen_iff.mp hz
        cases ec : compL y c el vs ds (wipeR ρ1 vs) with
        | none => rw [ec] at q; exact q.elim
        | some yr =>
          obtain ⟨ys, ρE⟩ := yr
          have hyl : ys.length ≤ ds.length := compL_len ec
          rw [ec] at q
          have nF : ¬ w.F D := fun z => r1.fd D z hD
          obtain ⟨r2, nf, n0, lv⟩ := r1.allocP (o := .lst []) wk hD
          refine lc_it (g := fun v σ H Q => ∃ D o, tG (w.pin D o) Γc Γt is y v σ H Q) (tt := tt) (te := fun σ H Q => ∃ D o, tM (w.pin D o) W' Γu Γe (RD (w.pin D o)) el σ H Q) (vs := vs) (σ := σ) (D := D) (Qd := fun H => Q (.ref D) H) io.walk (fun i H => ∃ ρi owi acc dacc rest, Rel (w.plus D) Γc ρi owi (wipe σ vs) H ∧ Same (vis w ow1 H1) (vis (w.plus D) owi H) ∧ H D = some (.lst acc) ∧ RpAll w.K (vis (w.plus D) owi H) acc dacc ∧ acc.length ≤ i ∧ compL y c el vs (ds.drop i) ρi = some (rest, ρE) ∧ dacc ++ rest = ys)
            ⟨_, _, [], [], ys, r2.wipe vs, lv, upd_same, .nil, Nat.zero_le _, ec, rfl⟩ (fun i H hi ⟨ρi, owi, acc, dacc, rest, ri, si, _⟩ => (s11.trans si).trans vis_le) ?_ ?_
          · rintro i xv H2 H2' hi2 ⟨ρi, owi, acc, dacc, rest, ri, si, hacc, racc, la, ecc, eys⟩ yi
            have wkp : WdOk (w.pin D (.lst acc)) := wk.pin
            obtain ⟨d, ed, r3, s3, rx⟩ := YD.item (w := w.pin D (.lst acc)) wkp yi (ri.topin hacc) (s11.trans si)
            rw [drop_cons ed, compL_cons] at ecc
            refine ⟨D, .lst acc, ρi, owi, d, r3, rx, ?_⟩
            cases e1 : y d ρi with
            | none => rw [e1] at ecc; cases ecc
            | some ρ2 =>
              rw [e1] at ecc
              intro σ2 ow2 r4 s4 o4
              have ew := wipe_only o4 hi
              refine ⟨ew, htt D (.lst acc) _ _ _ ⟨ρ2, ow2, r4, ?_⟩⟩
              have ecc : (match cM c ρ2 with
                | some (.ok false ρ2) => compL y c el vs (ds.drop (i + 1)) (wipeR ρ2 vs)
                | some (.ok true ρ2) => match el ρ2 with
                  | some (.ok y' ρ3) => (compL y c el vs (ds.drop (i + 1)) (wipeR ρ3 vs)).map fun r => (y' :: r.1, r.2)
                  | _ => none
                | _ => none) = some (rest, ρE) := ecc
              have t4 := si.trans (s3.trans s4)
              cases e2 : cM c ρ2 with
              | none => rw [e2] at ecc; cases ecc
              | some z =>
                rw [e2] at ecc
                cases z with
                | ex e ρ3 => cases ecc
                | ok k ρ3 =>
                  intro k' H3 ow3 r5 s5 rs
                  obtain rfl : k' = k := rs
                  cases k' with
                  | false =>
                    refine iteF ?_
                    obtain ⟨ow6, r6, s6⟩ := r5.weak hu hk
                    obtain ⟨r7, hD7⟩ := r6.unpin
                    have t7 := t4.trans (s5.trans s6)
                    have r8 := r7.wipe vs
                    rw [ew] at r8
                    exact ⟨_, ow6, acc, dacc, rest, r8, t7, hD7, racc.mono (s3.trans (s4.trans (s5.trans s6))), by omega, ecc, eys⟩
                  | true =>
                    refine iteT ⟨D, .lst acc, ρ3, ow3, r5, ?_⟩
                    have ecc : (match el ρ3 with
                      | some (.ok y' ρ3) => (compL y c el vs (ds.drop (i + 1)) (wipeR ρ3 vs)).map fun r => (y' :: r.1, r.2)
                      | _ => none) = some (rest, ρE) := ecc
                    cases e3 : el ρ3 with
                    | none => rw [e3] at ecc; cases ecc
                    | some z =>
                      rw [e3] at ecc
                      cases z with
                      | ex e ρ4 => cases ecc
                      | ok dy ρ4 =>
                        have ecc : (compL y c el vs (ds.drop (i + 1)) (wipeR ρ4 vs)).map (fun r => (dy :: r.1, r.2)) = some (rest, ρE) := ecc
                        simp only [Option.map_eq_some_iff, Prod.mk.injEq] at ecc
                        obtain ⟨⟨rest', ρE'⟩, ecd, rfl, rfl⟩ := ecc
                        intro yv H4 ow4 r6 s6 ry
                        obtain ⟨ow7, r7, s7⟩ := r6.weak he hk
                        obtain ⟨r8, hD8⟩ := r7.unpin
                        have s8 := s6.trans s7
                        have t8 := t4.trans (s5.trans s8)
                        obtain ⟨r9, s9⟩ := r8.updF (o := .lst (acc ++ [yv])) wk nF n0
                        have r9 := r9.wipe vs
                        rw [ew] at r9
                        have la2 : acc.length < ds.length := by omega
                        refine ⟨acc, hD8, by omega, wipeR ρ4 vs, ow7, acc ++ [yv], dacc ++ [dy], rest', r9, t8.trans s9, upd_same, ?_, by simp; omega, ecd, by rw [List.append_assoc]; exact eys⟩
                        have ra := racc.mono (s3.trans (s4.trans (s5.trans s8)))
                        have ry : Rp w.K (vis (w.plus D) ow4 H4) yv dy := ry
                        exact RpAll.mono (ra.append (.cons (ry.mono s7) .nil)) s9
          · rintro H2 ⟨ρi, owi, acc, dacc, rest, ri, si, hacc, racc, la, ecc, eys⟩
            rw [List.drop_length] at ecc
            cases ecc
            rw [List.append_nil] at eys
            subst eys
            refine q D dacc acc H2 owi rfl (Rel.back r1 ri si hv) (fun z => ?_) n0 hacc racc (by omega) (s1.trans si)
            rcases z with z | ⟨j, z⟩
            · exact nF z
            · exact (ri.ne j D z).1 (.inr rfl)
      · rw [if_neg hz] at q; exact q.elim
theorem tt_none {D : Addr} {o : HO} : ∀ σ H Q, tM (w.pin D o) W' Γt Γt RE (cM none) σ H Q → tYes σ H Q := fun σ H Q ⟨ρ, ow, r, q⟩ => q true H ow r (Same.refl _) rfl
end
/-- the block of a comprehension -/
abbrev Cx.bk (X : Cx) (scope : Scope) (P : Cx → Prop) : Prop := ∀ (s : Shared) (H : Hp) (C : Addr) (cl : List (Str × Addr)) (fp : List Addr), P (X.blk s H scope (compEnvC scope cl C X.env) fp)
section
variable {X : Cx} {w : Wd} {W W' : WX} {own : Bool} {lp Γ Γ' Γ1 Γ2 Γc Γt Γu Γe : List Bool} {ρ : Rho} {σ : St} {H : Hp} {ow : Ow} {pos spos py : Pos} {elt tg iter c : Expr} {is : List Nat} {scope : Scope} {own' : List (Str × Nat)}
variable {x : M (List D)} {y : D → Rho → Option Rho} {el : M D} {cm : M Bool}
theorem JO.comp (wk : WdOk w) (hc : X.calm = true) (hN : X.N.Nodup) (hi : JI X w W tg iter Γ Γ1 x) (ok : BlkOk X.N X.env.scope scope own') (hs : ∀ x, foldedSetIterable iter X.env x = pure x)
    (hl1 : Le Γc Γ1) (hk : LkIn w Γc) (hv : ∀ i ∈ own'.map (·.2), Γc[i]? ≠ some true) (his : ∀ i ∈ is, i ∈ own'.map (·.2)) (he : Le Γc Γe)
    (hg : Cx.bk X scope fun X' => ∀ D o, JG X' (w.pin D o) tg Γc Γt is y) (hel : Cx.bk X scope fun X' => ∀ D o, JE X' (w.pin D o) W' elt Γt Γe el) (ht : Le Γc Γt) :
    JO X w W (.ListComp elt [⟨tg, iter, [], 0⟩] scope pos) Γ Γc (compM x y none el (own'.map (·.2))) :=
  PE.imp (pe_lc hc hN hi ok (fun s H C cl fp => ⟨fun pins s' σ H' v u Q I r ⟨D, o, q⟩ => (hg s H C cl fp D o).run pins s' σ H' v u Q I r q⟩) (fun s H C cl fp => pts_nil)
    (fun s H C cl fp => ⟨fun pins s' σ H' Q I ⟨D, o, q⟩ => (hel s H C cl fp D o).run pins s' σ H' Q I q⟩) hs) (lc_sem wk hl1 hk hv his (fun D o => tt_none) ht he)
theorem JO.compC (wk : WdOk w) (hc : X.calm = true) (hN : X.N.Nodup) (hi : JI X w W tg iter Γ Γ1 x) (ok : BlkOk X.N X.env.scope scope own') (hs : ∀ x, foldedSetIterable iter X.env x = pure x)
    (hl1 : Le Γc Γ1) (hk : LkIn w Γc) (hv : ∀ i ∈ own'.map (·.2), Γc[i]? ≠ some true) (his : ∀ i ∈ is, i ∈ own'.map (·.2)) (he : Le Γc Γe)
    (hg : Cx.bk X scope fun X' => ∀ D o, JG X' (w.pin D o) tg Γc Γt is y) (hel : Cx.bk X scope fun X' => ∀ D o, JE X' (w.pin D o) W' elt Γu Γe el) (hcd : Cx.bk X scope fun X' => ∀ D o, JT X' (w.pin D o) W' c Γt Γu cm) (hu : Le Γc Γu) :
    JO X w W (.ListComp elt [⟨tg, iter, [c], 0⟩] scope pos) Γ Γc (compM x y (some cm) el (own'.map (·.2))) :=
  PE.imp (pe_lc (tt := fun σ H Q => ∃ D o, tM (w.pin D o) W' Γt Γu RE cm σ H Q) hc hN hi ok (fun s H C cl fp => ⟨fun pins s' σ H' v u Q I r ⟨D, o, q⟩ => (hg s H C cl fp D o).run pins s' σ H' v u Q I r q⟩)
    (fun s H C cl fp => pts_one ⟨fun pins s' σ H' Q I ⟨D, o, q⟩ => (hcd s H C cl fp D o).run pins s' σ H' Q I q⟩)
    (fun s H C cl fp => ⟨fun pins s' σ H' Q I ⟨D, o, q⟩ => (hel s H C cl fp D o).run pins s' σ H' Q I q⟩) hs) (lc_sem wk hl1 hk hv his (fun D o σ H Q q => ⟨D, o, q⟩) hu he)
/-- name = [..]: to own what is made -/
theorem JS.setLc {i : Nat} {z : Str} (wk : WdOk w) (hc : X.calm = true) (hN : X.N.Nodup) (hy : X.N[i]? = some z) (hyl : X.env.scope.names.lookup z = some .local) (hpa : w.pa i = none) (hgl : i < Γc.length)
    (hsw : swapsWith (.ListComp elt [⟨tg, iter, [], 0⟩] scope pos) (some (.Name z py)) spos.line X.env = pure true)
    (hi : JI X w W tg iter Γ Γ1 x) (ok : BlkOk X.N X.env.scope scope own') (hs : ∀ x, foldedSetIterable iter X.env x = pure x)
    (hl1 : Le Γc Γ1) (hk : LkIn w Γc) (hv : ∀ i ∈ own'.map (·.2), Γc[i]? ≠ some true) (his : ∀ i ∈ is, i ∈ own'.map (·.2)) (he : Le Γc Γe)
    (hg : Cx.bk X scope fun X' => ∀ D o, JG X' (w.pin D o) tg Γc Γt is y) (hel : Cx.bk X scope fun X' => ∀ D o, JE X' (w.pin D o) W' elt Γt Γe el) (ht : Le Γc Γt) :
    JS X w W own lp (.Assign [.Name z py] (.ListComp elt [⟨tg, iter, [], 0⟩] scope pos) spos) Γ (Γc.set i true) (fun ρ => thenO (compM x y none el (own'.map (·.2)) ρ) fun d ρ1 => (bindT (.nm i) d ρ1).map .nx) :=
  PS.imp (ps_setLc hc hN hy hyl hsw hi ok (fun s H C cl fp => ⟨fun pins s' σ H' v u Q I r ⟨D, o, q⟩ => (hg s H C cl fp D o).run pins s' σ H' v u Q I r q⟩) (fun s H C cl fp => pts_nil)
    (fun s H C cl fp => ⟨fun pins s' σ H' Q I ⟨D, o, q⟩ => (hel s H C cl fp D o).run pins s' σ H' Q I q⟩) hs) (asgO_sem hpa hgl (lc_sem wk hl1 hk hv his (fun D o => tt_none) ht he))
theorem JS.setLcC {i : Nat} {z : Str} (wk : WdOk w) (hc : X.calm = true) (hN : X.N.Nodup) (hy : X.N[i]? = some z) (hyl : X.env.scope.names.lookup z = some .local) (hpa : w.pa i = none) (hgl : i < Γc.length)
    (hsw : swapsWith (.ListComp elt [⟨tg, iter, [c], 0⟩] scope pos) (some (.Name z py)) spos.line X.env = pure true)
    (hi : JI X w W tg iter Γ Γ1 x) (ok : BlkOk X.N X.env.scope scope own') (hs : ∀ x, foldedSetIterable iter X.env x = pure x)
    (hl1 : Le Γc Γ1) (hk : LkIn w Γc) (hv : ∀ i ∈ own'.map (·.2), Γc[i]? ≠ some true) (his : ∀ i ∈ is, i ∈ own'.map (·.2)) (he : Le Γc Γe)
    (hg : Cx.bk X scope fun X' => ∀ D o, JG X' (w.pin D o) tg Γc Γt is y) (hel : Cx.bk X scope fun X' => ∀ D o, JE X' (w.pin D o) W' elt Γu Γe el) (hcd : Cx.bk X scope fun X' => ∀ D o, JT X' (w.pin D o) W' c Γt Γu cm) (hu : Le Γc Γu) :
    JS X w W own lp (.Assign [.Name z py] (.ListComp elt [⟨tg, iter, [c], 0⟩] scope pos) spos) Γ (Γc.set i true) (fun ρ => thenO (compM x y (some cm) el (own'.map (·.2)) ρ) fun d ρ1 => (bindT (.nm i) d ρ1).map .nx) :=
  PS.imp (ps_setLc (tt := fun σ H Q => ∃ D o, tM (w.pin D o) W' Γt Γu RE cm σ H Q) hc hN hy hyl hsw hi ok (fun s H C cl fp => ⟨fun pins s' σ H' v u Q I r ⟨D, o, q⟩ => (hg s H C cl fp D o).run pins s' σ H' v u Q I r q⟩)
    (fun s H C cl fp => pts_one ⟨fun pins s' σ H' Q I ⟨D, o, q⟩ => (hcd s H C cl fp D o).run pins s' σ H' Q I q⟩)
    (fun s H C cl fp => ⟨fun pins s' σ H' Q I ⟨D, o, q⟩ => (hel s H C cl fp D o).run pins s' σ H' Q I q⟩) hs) (asgO_sem hpa hgl (lc_sem wk hl1 hk hv his (fun D o σ H Q q => ⟨D, o, q⟩) hu he))
/-- a fresh list, laid open to all -/
theorem JO.open {e : Expr} {x : M D} (h : JO X w W e Γ Γ1 x) (hl : ∀ ρ d ρ', x ρ = some (.ok d ρ') → ∃ ds, d = .list ds) : JE X w W e Γ Γ1 x := PE.imp h fun σ H Q q => tO_val hl q
end
end VF

end
section
set_option Elab.async false
set_option linter.all false
set_option autoImplicit false
set_option maxRecDepth 100000
set_option maxHeartbeats 1000000
/-! VN: what a def promises, where repr may be asked too (no object is being shown at the call). -/
namespace VF
open PySem PySem.Spec L2 PyProof.Rows
/-- no object is being shown -/
def Bare (A : Around) : Prop := A.guards = some []
structure FnG (P : Program) (wd : World) (K : PySem.W.Frag) (mg : Str → Option Value) (bs : Heap) (k : Nat) (f : Addr) (fd : FuncData) (ps : List Str) (sp : Sp) : Prop where
  ln : ∀ xs G R E, sp xs G R E → xs.length = ps.length
  go : ∀ (A : Around) (out : List Env) (s : Shared) (G : Hp) (args : Args) (us : List Value) (xs : List V) (R : VK) (E : XK), Room k A → Bare A → Env0 P wd K mg bs A out s G → BindsTo s fd args (ps.zip us) → Vals xs us → sp xs G R E →
    codeAny (model P wd) A (.call (.ref f) args) (L2.CR (CX P wd) out P wd G s R E) s
section
variable {P : Program} {wd : World} {K : PySem.W.Frag} {mg : Str → Option Value} {bs : Heap}
theorem FnG.up {j k : Nat} {f : Addr} {fd : FuncData} {ps : List Str} {sp : Sp} (F : FnG P wd K mg bs j f fd ps sp) (h : j ≤ k) : FnG P wd K mg bs k f fd ps sp :=
  ⟨F.ln, fun A out s G args us xs R E hr => F.go A out s G args us xs R E (hr.mono h)⟩
/-- a def by its body -/
theorem fnG_of {k : Nat} {f : Addr} {x : Str} {st : Stmt} {fd : FuncData} {N ps : List Str} {sp : Sp} (F : Fun K x x st f fd) (S : FnScope N ps (defScope st)) (ln : ∀ xs G R E, sp xs G R E → xs.length = ps.length)
    (hb : ∀ (cdv : Value) (A : Around) (out : List Env) (s : Shared) (G : Hp) (xs : List V) (R : VK) (E : XK), Room k (A.deeper (envOfC x (defScope st) s.heap.objs.size f cdv)) → Bare (A.deeper (envOfC x (defScope st) s.heap.objs.size f cdv)) → sp xs G R E →
      ∃ t, PSs (cxOf (CX P wd) P wd K mg bs N x (defScope st) f cdv A out s G E) (defBody st) t ∧ t { nx := fun _ G' => R .non G', rt := R } (start N xs) G) : FnG P wd K mg bs (k + 1) f fd ps sp := by
  obtain ⟨oc, od, kV, doc, pm, an, cdv, ct, osl, rfl, lk, hcd⟩ := F.ex
  refine ⟨ln, fun A out s G args us xs R E hr ha e0 hbi hv hs => ?_⟩
  have kin : K.In s.heap := e0.mod.kin.keeps fun b u z => (e0.bs b u z).1
  have nol : s.heap.NoLimit := e0.mod.nolimit.keeps fun b u z => (e0.bs b u z).1
  refine codeAny_call_function hr.depth (kin _ _ lk) rfl S.co S.gen rfl (PySem.W.codeRec_of kin hcd) (hbi _ _ _ _ ?_)
  refine wpAny_newFunctionEnv_cells S.kind (fun y hy => ?_) fun en he z xx => ?_
  · obtain ⟨n, v⟩ := y
    rcases S.par n (List.of_mem_zip hy).1 with q | q
    · exact .inl q
    · exact .inr ⟨q, PySem.W.cellsFrom_some _ _ _ (.inl q)⟩
  · subst he
    refine ⟨nol.keeps xx.toInCall.keep, codeAny_func ?_⟩
    obtain ⟨t, ht, hq⟩ := hb cdv A out s G xs R E (hr.deeper _) ha hs
    have II := inv_start (CX := CX P wd) (E := E) S hr.hd e0 (ln _ _ _ _ hs) hv xx
    refine wpAny_mono (ht.run [] z (start N xs) G _ II hq) (fun fl z' hz => ?_) fun e z' hz => hz
    cases fl with
    | ret u =>
      obtain ⟨v, σ', G', J, rv, q⟩ := hz
      exact ⟨v, G', J.os, J.bare, J.base, J.hok, rv, q⟩
    | next =>
      obtain ⟨σ', G', J, q⟩ := hz
      exact ⟨V.non, G', J.os, J.bare, J.base, J.hok, rfl, q⟩
    | brk => exact hz.elim fun _ h => h.elim fun _ h => h.2.elim
    | cont => exact hz.elim fun _ h => h.elim fun _ h => h.2.elim
end
section
variable {X : Cx} {k : Nat} {f : Addr} {fd : FuncData} {ps : List Str} {sp : Sp} {W : WX} {x : Str} {p pos : Pos} {e : Expr} {es : List Expr} {t : TA}
theorem FnG.call {pins : List (Addr × Obj)} {σ : L2.St} {G : Hp} {s : Shared} {R : VK} {us : List Value} {xs : List V} (F : FnG X.prog X.w X.K X.mg X.base k f fd ps sp) (hr : Room k X.A) (ha : Bare X.A) (hb : Binds X.K fd ps []) (tk : Takes X W)
    (I : Inv X pins σ G s) (hv : Vals xs us) (h : sp xs G R (WE W σ)) : wpAny (model X.prog X.w) X.A (call (.ref f) us) (EP X pins σ R) X.xe s := by
  have b := hb s us I.kIn (by rw [List.append_nil, ← hv.length]; exact F.ln _ _ _ _ h)
  rw [List.append_nil] at b
  refine wpAny_call (codeAny_mono (F.go X.A X.stack s G ⟨us, []⟩ us xs R (WE W σ) hr ha I.env0 b hv h) fun r z hq => ?_)
  cases r with
  | error e => exact passAt tk σ pins G s e z I hq
  | ok fl => cases fl with
    | ret u => exact I.after hq
    | _ => exact False.elim hq
/-- f(e, ..) -/
theorem peG_call (F : FnG X.prog X.w X.K X.mg X.base k f fd ps sp) (hr : Room k X.A) (ha : Bare X.A) (hb : Binds X.K fd ps []) (tk : Takes X W) (hg : Gl X x) (hm : X.mg x = some (.ref f)) (hk : PySem.W.keepIn X.K (.ref f) = true)
    (hdb : (x == ("__debug__" : Str)) = false) (ht : PA X (e :: es) t) (he : starEach (e :: es) X.env = (false, eval e X.env) :: starEach es X.env) (hpl : (backTo pos (starEach es X.env)).any (·.1) = false) :
    PE X (.Call (.Name x p) (e :: es) [] pos) (tCallS sp (WE W) t) :=
  ⟨fun pins s σ G R I h => wpAny_Call_Name_kw (ld_glob I hg hm (PySem.W.callWith_K (h₀ := X.base) I.ok.mod.kin hk
    (thn (ht.run pos pins s σ G _ I h) fun us z ⟨xs, G1, I1, hv, q⟩ => ⟨I1.kIn, F.call hr ha hb tk I1 hv q⟩) he hpl) hdb)⟩
/-- f() -/
theorem peG_call0 (F : FnG X.prog X.w X.K X.mg X.base k f fd ps sp) (hr : Room k X.A) (ha : Bare X.A) (hb : Binds X.K fd ps []) (tk : Takes X W) (hg : Gl X x) (hm : X.mg x = some (.ref f)) (hk : PySem.W.keepIn X.K (.ref f) = true)
    (hdb : (x == ("__debug__" : Str)) = false) : PE X (.Call (.Name x p) [] [] pos) (tCallS sp (WE W) tNil) :=
  ⟨fun pins s σ G R I h => wpAny_Call_Name_kw (ld_glob I hg hm (PySem.W.callWith_K0 I.kIn hk (F.call (us := []) hr ha hb tk I .nil h)) hdb)⟩
end
end VF

end
section
set_option Elab.async false
set_option linter.all false
set_option autoImplicit false
set_option maxRecDepth 100000
set_option maxHeartbeats 1000000
/-! VO: the promise of a def of the small language; its body; a call of it. -/
namespace VF
open PySem PySem.Spec L2
structure ArgsOk (K : PySem.W.Frag) (F : Addr → Prop) (pa : Nat → Option Addr) (mu : List Bool) (H : Hp) (vs : List V) (ds : List D) : Prop where
  len : vs.length = ds.length
  sh : ∀ (i : Nat) (d : D), ds[i]? = some d → mu[i]? ≠ some true → ∃ v, vs[i]? = some v ∧ Rp K (hid H fun a => F a ∨ ∃ j, pa j = some a) v d
  ow : ∀ (i : Nat) (d : D), ds[i]? = some d → mu[i]? = some true → ∃ p l us, pa i = some p ∧ vs[i]? = some (.ref p) ∧ d = .list l ∧ H p = some (.lst us) ∧ RpAll K (hid H fun a => F a ∨ ∃ j, pa j = some a) us l ∧ l.length ≤ sizeLine
  inj : ∀ i j p, pa i = some p → pa j = some p → i = j
  nF : ∀ i p, pa i = some p → ¬ F p ∧ H p ≠ none ∧ mu[i]? = some true ∧ i < ds.length
  fd : ∀ a, F a → H a ≠ none
def lkOf (mu : List Bool) (n : Nat) : List Bool := (List.range n).map fun i => mu[i]?.getD false
def wdOf (K : PySem.W.Frag) (xc : Str → Option Addr) (fn : Fn) (F : Addr → Prop) (pa : Nat → Option Addr) (H : Hp) : Wd := ⟨K, F, fun _ _ => False, H, pa, lkOf fn.mu fn.N.length, xc⟩
def EndF (w : Wd) (own : Bool) (r : Option Out) (Q : VK) (E : XK) : Prop := match r with
  | some (.rt d ρ) => RetS w own d ρ Q
  | some (.nx ρ) => own = false ∧ ∀ H', EndR w ρ (fun _ => False) H' → Q .non H'
  | some (.ex e ρ) => ∀ cls dd H', EndR w ρ (fun _ => False) H' → ExRep w (hid H' fun a => (w.F a ∨ w.ps a) ∨ False) e cls dd H' → E cls dd H'
  | _ => False
def spF (T : List Fn) (K : PySem.W.Frag) (xc : Str → Option Addr) (n f : Nat) : Sp := fun vs H Q E => ∃ fn F pa ds, T[f]? = some fn ∧ ds.length = fn.ps.length ∧ ArgsOk K F pa fn.mu H vs ds ∧
  EndF (wdOf K xc fn F pa H) fn.own (exSs (ctxN (callN T n) T) fn.body (startR fn ds)) Q E
def spC (T : List Fn) (K : PySem.W.Frag) (xc : Str → Option Addr) : Nat → Nat → Sp
  | 0, _ => fun _ _ _ _ => False
  | n + 1, f => spF T K xc n f
theorem ExRep.mono {w : Wd} {B B' : Hp} {e : Exn} {cls : Value} {dd : Option Addr} {H : Hp} (h : ExRep w B e cls dd H) (s : Same B B') : ExRep w B' e cls dd H :=
  let ⟨C, dx, fs, h1, h2, h3, h4, h5⟩ := h
  ⟨C, dx, fs, h1, h2, h3, h4, fun f d z => let ⟨v, x, y⟩ := h5 f d z; ⟨v, x, y.mono s⟩⟩
theorem lkOf_get {mu : List Bool} {n i : Nat} : (lkOf mu n)[i]? = some true ↔ (i < n ∧ mu[i]? = some true) := by
  unfold lkOf
  rw [List.getElem?_map]
  by_cases h : i < n
  · rw [List.getElem?_range h]
    simp [h]
    cases mu[i]? <;> simp
  · rw [List.getElem?_eq_none (by simpa using h)]
    simp [h]
theorem start_get {fn : Fn} {ds : List D} {i : Nat} {d : D} : (startR fn ds)[i]? = some (some d) ↔ ds[i]? = some d := by
  unfold startR
  by_cases h : i < ds.length
  · rw [List.getElem?_append_left (by simpa using h), List.getElem?_map]
    cases ds[i]? <;> simp
  · rw [List.getElem?_append_right (by simpa using h), List.getElem?_replicate]
    rw [List.getElem?_eq_none (by omega)]
    split <;> simp
theorem starts_get {N : List Str} {vs : List V} {i : Nat} {v : V} (h : vs[i]? = some v) : (L2.start N vs)[i]? = some (some v) := by
  have hi : i < vs.length := (List.getElem?_eq_some_iff.mp h).1
  unfold L2.start
  rw [List.getElem?_append_left (by simpa using hi), List.getElem?_map, h]
  rfl
/-- the entry -/
theorem start_rel {K : PySem.W.Frag} {xc : Str → Option Addr} {fn : Fn} {F : Addr → Prop} {pa : Nat → Option Addr} {H : Hp} {vs : List V} {ds : List D} (a : ArgsOk K F pa fn.mu H vs ds) (hl : ds.length ≤ fn.N.length) (hm : fn.mu.length ≤ ds.length) :
    WdOk (wdOf K xc fn F pa H) ∧ Rel (wdOf K xc fn F pa H) (wdOf K xc fn F pa H).lk (startR fn ds) pa (L2.start fn.N vs) H := by
  have vis_eq : Same (hid H fun b => F b ∨ ∃ j, pa j = some b) (vis (wdOf K xc fn F pa H) pa H) := Same.refl _
  refine ⟨⟨fun i p h => (a.nF i p h).2.1, fun i => ?_, fun _ _ z => z.elim⟩, ⟨?_, fun i d h g => ?_, fun i d h g => ?_, a.inj, fun i p h => ⟨(a.nF i p h).1, .inl ⟨i, h⟩, (a.nF i p h).2.1⟩, fun b o _ h => h, fun b h => h, a.fd, fun i p h => h, fun _ _ z => z.elim⟩⟩
  · show (lkOf fn.mu fn.N.length)[i]? = some true ↔ (pa i).isSome = true
    rw [lkOf_get]
    constructor
    · rintro ⟨h1, h2⟩
      have hi : i < ds.length := Nat.lt_of_lt_of_le (List.getElem?_eq_some_iff.mp h2).1 hm
      obtain ⟨p, l, us, h3, _⟩ := a.ow i _ (List.getElem?_eq_getElem hi) h2
      rw [h3]; rfl
    · intro h
      obtain ⟨p, e⟩ := Option.isSome_iff_exists.mp h
      obtain ⟨_, _, h3, h4⟩ := a.nF i p e
      exact ⟨by omega, h3⟩
  · unfold L2.start startR
    have := a.len
    simp only [List.length_append, List.length_map, List.length_replicate]
    omega
  · rw [start_get] at h
    have hi := (List.getElem?_eq_some_iff.mp h).1
    have g : (lkOf fn.mu fn.N.length)[i]? ≠ some true := g
    rw [Ne, lkOf_get] at g
    obtain ⟨v, h1, h2⟩ := a.sh i d h fun z => g ⟨by omega, z⟩
    exact ⟨v, starts_get h1, h2⟩
  · rw [start_get] at h
    have g : (lkOf fn.mu fn.N.length)[i]? = some true := g
    rw [lkOf_get] at g
    obtain ⟨p, l, us, h1, h2, h3, h4, h5, h6⟩ := a.ow i d h g.2
    exact ⟨p, h1, starts_get h2, l, us, h3, h4, h5, h6⟩
/-- a body that is understood keeps the def's promise -/
theorem fn_body {P : Program} {wd : World} {K : PySem.W.Frag} {mg : Str → Option Value} {bs : Heap} {x : Str} {st : Stmt} {fa : Addr} {fd : FuncData} {T : List Fn} {xc : Str → Option Addr} {n f : Nat} {fn : Fn} {lp Γe : List Bool}
    (Fu : Fun K x x st fa fd) (S : FnScope fn.N fn.ps (defScope st)) (hT : T[f]? = some fn) (hmu : fn.mu.length ≤ fn.ps.length) (hpl : fn.ps.length ≤ fn.N.length) (hle : Le (lkOf fn.mu fn.N.length) Γe)
    (hJ : ∀ (cdv : Value) (A : Around) (out : List Env) (s : Shared) (G : Hp) (E : XK) (w : Wd), Room n (A.deeper (PyProof.Rows.envOfC x (defScope st) s.heap.objs.size fa cdv)) → Bare (A.deeper (PyProof.Rows.envOfC x (defScope st) s.heap.objs.size fa cdv)) →
      w.K = K → w.xc = xc → w.lk = lkOf fn.mu fn.N.length → WdOk w → JSs (cxOf (CX P wd) P wd K mg bs fn.N x (defScope st) fa cdv A out s G E) w (fun cls dd _ H => E cls dd H) fn.own lp (defBody st) (lkOf fn.mu fn.N.length) Γe (exSs (ctxN (callN T n) T) fn.body)) :
    FnG P wd K mg bs (n + 1) fa fd fn.ps (spC T K xc (n + 1) f) := by
  refine fnG_of Fu S (fun vs H Q E h => ?_) fun cdv A out s G vs Q E hr ha h => ?_
  · obtain ⟨fn', F, pa, ds, h1, h2, h3, _⟩ := h
    rw [hT] at h1
    cases h1
    rw [h3.len, h2]
  · obtain ⟨fn', F, pa, ds, h1, h2, h3, h4⟩ := h
    rw [hT] at h1
    cases h1
    obtain ⟨wk, r⟩ := start_rel (xc := xc) h3 (by omega) (by omega)
    refine ⟨_, hJ cdv A out s G E (wdOf K xc fn F pa G) hr ha rfl rfl rfl wk, startR fn ds, pa, r, ?_⟩
    have hk : LkIn (wdOf K xc fn F pa G) Γe := fun i p e => hle i (lk_own wk i p e)
    cases e : exSs (ctxN (callN T n) T) fn.body (startR fn ds) with
    | none => rw [e] at h4; exact h4.elim
    | some o =>
      rw [e] at h4
      cases o with
      | nx ρ =>
        intro σ H ow r1 _
        exact h4.2 H (r1.endR hk (xp := fun _ => False) fun a h => h.elim).1
      | ct ρ => exact h4.elim
      | bk ρ => exact h4.elim
      | rt d ρ => exact h4
      | ex e ρ =>
        intro σ cls dd H ow r1 xr
        obtain ⟨e1, s1⟩ := r1.endR (lk_own wk) (xp := fun _ => False) fun a h => h.elim
        exact h4 cls dd H e1 (xr.mono s1)

/-! ### a call -/
def Wd.px (w : Wd) (xp : Addr → Prop) : Wd := { w with F := fun a => w.F a ∨ xp a }
theorem Rel.unpx {w : Wd} {xp : Addr → Prop} {Γ : List Bool} {ρ : Rho} {ow : Ow} {σ : L2.St} {H : Hp} (r : Rel (w.px xp) Γ ρ ow σ H) : Rel w Γ ρ ow σ H ∧ Same (vis (w.px xp) ow H) (vis w ow H) := by
  have le1 : Same (vis (w.px xp) ow H) (vis w ow H) := hid_mono fun a h => h.elim (fun z => .inl (.inl z)) .inr
  refine ⟨⟨r.len, fun j e q g => ?_, fun j e q g => ?_, r.inj, fun j a h1 => ?_, r.ext, r.dom, fun a h => r.fd a (.inl h), r.lkd, r.fz⟩, le1⟩
  · obtain ⟨u, h1, h2⟩ := r.sh j e q g
    exact ⟨u, h1, h2.mono le1⟩
  · obtain ⟨a, h1, h2, es, us, rfl, h3, h4, h5⟩ := r.own j e q g
    exact ⟨a, h1, h2, es, us, rfl, h3, h4.mono le1, h5⟩
  · obtain ⟨x1, x2, x3⟩ := r.ne j a h1
    exact ⟨fun z => x1 (.inl z), x2, x3⟩
/-- the lists handed to be changed: by their slots -/
structure StArgs (mu : List Bool) (Γ : List Bool) (ps : List Pd) : Prop where
  at_ : ∀ (j : Nat) (pd : Pd), ps[j]? = some pd → (mu[j]? = some true ∧ ∃ i, pd = .s i ∧ Γ[i]? = some true) ∨ (mu[j]? ≠ some true ∧ ∃ d, pd = .d d)
  inj : ∀ (j k i : Nat), ps[j]? = some (.s i) → ps[k]? = some (.s i) → j = k
theorem outs_get : ∀ {mu : List Bool} {r : List (Option D)} {outs : List D} {ps : List Pd} {ρ ρ2 : Rho}, mutOuts mu r = some outs → outsTo mu ps outs ρ = some ρ2 →
    ρ2.length = ρ.length ∧ ∀ i : Nat, (∃ (j : Nat) (d : D), mu[j]? = some true ∧ ps[j]? = some (Pd.s i) ∧ r[j]? = some (some d) ∧ ρ2[i]? = some (some d)) ∨ (ρ2[i]? = ρ[i]? ∧ ((∀ j : Nat, mu[j]? = some true → ps[j]? ≠ some (Pd.s i)) ∨ ρ.length ≤ i))
  | [], _, _, _, ρ, ρ2, _, h2 => by
    unfold outsTo at h2; cases h2
    exact ⟨rfl, fun i => .inr ⟨rfl, .inl fun j h => by simp at h⟩⟩
  | true :: ms, [], _, _, _, _, h1, _ => by simp [mutOuts] at h1
  | true :: ms, none :: r, _, _, _, _, h1, _ => by simp [mutOuts] at h1
  | true :: ms, some d :: r, outs, ps, ρ, ρ2, h1, h2 => by
    simp only [mutOuts, Option.map_eq_some_iff] at h1
    obtain ⟨os, h1, rfl⟩ := h1
    match ps, h2 with
    | [], h2 => simp [outsTo] at h2
    | .d _ :: _, h2 => simp [outsTo] at h2
    | .s k :: ps, h2 =>
      simp only [outsTo] at h2
      obtain ⟨hl, h3⟩ := outs_get h1 h2
      refine ⟨by rw [hl, List.length_set], fun i => ?_⟩
      rcases h3 i with ⟨j, d', x1, x2, x3, x4⟩ | ⟨x1, x2⟩
      · exact .inl ⟨j + 1, d', by simpa using x1, by simpa using x2, by simpa using x3, x4⟩
      · by_cases hk : k = i
        · subst hk
          by_cases hl : k < ρ.length
          · exact .inl ⟨0, d, rfl, rfl, rfl, by rw [x1, List.getElem?_set_self hl]⟩
          · exact .inr ⟨by rw [x1, List.getElem?_eq_none (by simpa using hl), List.getElem?_eq_none (by omega)], .inr (by omega)⟩
        · refine .inr ⟨by rw [x1, List.getElem?_set_ne hk], ?_⟩
          rcases x2 with x2 | x2
          · refine .inl fun j hj => ?_
            cases j with
            | zero => simp; exact fun z => hk z
            | succ j => simpa using x2 j (by simpa using hj)
          · exact .inr (by simpa using x2)
  | false :: ms, [], _, _, _, _, h1, _ => by simp [mutOuts] at h1
  | false :: ms, o :: r, outs, ps, ρ, ρ2, h1, h2 => by
    simp only [mutOuts] at h1
    match ps, h2 with
    | [], h2 => simp [outsTo] at h2
    | _ :: ps, h2 =>
      simp only [outsTo] at h2
      obtain ⟨hl, h3⟩ := outs_get h1 h2
      refine ⟨hl, fun i => ?_⟩
      rcases h3 i with ⟨j, d', x1, x2, x3, x4⟩ | ⟨x1, x2⟩
      · exact .inl ⟨j + 1, d', by simpa using x1, by simpa using x2, by simpa using x3, x4⟩
      · refine .inr ⟨x1, ?_⟩
        rcases x2 with x2 | x2
        · refine .inl fun j hj => ?_
          cases j with
          | zero => simp at hj
          | succ j => simpa using x2 j (by simpa using hj)
        · exact .inr x2
/-- the addresses that a call hands -/
def paOf (mu : List Bool) (ps : List Pd) (ow : Ow) : Nat → Option Addr := fun j => match mu[j]?, ps[j]? with
  | some true, some (.s i) => ow i
  | _, _ => none
theorem paOf_some {mu : List Bool} {ps : List Pd} {ow : Ow} {j : Nat} {p : Addr} (h : paOf mu ps ow j = some p) : ∃ i, mu[j]? = some true ∧ ps[j]? = some (.s i) ∧ ow i = some p := by
  unfold paOf at h
  split at h
  · rename_i i h1 h2
    exact ⟨i, h1, h2, h⟩
  · cases h
theorem paOf_eq {mu : List Bool} {ps : List Pd} {ow : Ow} {i j : Nat} (h1 : mu[j]? = some true) (h2 : ps[j]? = some (.s i)) : paOf mu ps ow j = ow i := by
  unfold paOf; rw [h1, h2]
section
variable {w : Wd} {W : WX} {Γ Γ' Γ1 : List Bool} {ρ ρ1 ρ2 : Rho} {ow : Ow} {σ : L2.St} {H H1 H' : Hp} {mu : List Bool} {ps : List Pd} {vs : List V} {ds : List D}
theorem rdPs_cons {p : Pd} {ps : List Pd} {ρ ρ' : Rho} {ds : List D} (h : rdPs (p :: ps) ρ = some (.ok ds ρ')) : ∃ d es, ds = d :: es ∧ rdP p ρ = some (.ok d ρ) ∧ rdPs ps ρ = some (.ok es ρ') := by
  unfold rdPs M.bnd at h
  cases e : rdP p ρ with
  | none => rw [e] at h; cases h
  | some z =>
    rw [e] at h
    cases z with
    | ex e ρ1 => cases h
    | ok d ρ1 =>
      have e1 : ρ1 = ρ := by
        cases p with
        | d x => cases e; rfl
        | s i =>
          have hr : rdP (.s i) ρ = (match ρ[i]? with | some (some d) => some (.ok d ρ) | _ => none) := rfl
          rw [hr] at e
          split at e <;> cases e
          rfl
      subst e1
      have h : (M.bnd (rdPs ps) fun ds => M.ret (d :: ds)) ρ1 = some (.ok ds ρ') := h
      unfold M.bnd at h
      cases e2 : rdPs ps ρ1 with
      | none => rw [e2] at h; cases h
      | some z =>
        rw [e2] at h
        cases z with
        | ex e ρ1 => cases h
        | ok es ρ3 =>
          cases h
          exact ⟨d, es, rfl, rfl, rfl⟩
theorem args_get : ∀ {ps : List Pd} {vs : List V} {ds : List D} {ρ' : Rho}, RPs w σ ow H vs ps → rdPs ps ρ = some (.ok ds ρ') → vs.length = ps.length ∧ ds.length = ps.length ∧
    ∀ (j : Nat) (pd : Pd), ps[j]? = some pd → ∃ v d, vs[j]? = some v ∧ ds[j]? = some d ∧ RP1 w σ ow H v pd ∧ rdP pd ρ = some (.ok d ρ)
  | [], _, ds, ρ', h, e => by
    cases h
    cases e
    exact ⟨rfl, rfl, fun j pd h => by simp at h⟩
  | p :: ps, _, ds, ρ', h, e => by
    cases h with
    | cons a t =>
      obtain ⟨d, es, rfl, e1, e2⟩ := rdPs_cons e
      obtain ⟨l1, l2, k⟩ := args_get t e2
      refine ⟨by simp [l1], by simp [l2], fun j pd h => ?_⟩
      cases j with
      | zero =>
        have : p = pd := by simpa using h
        subst this
        exact ⟨_, d, rfl, rfl, a, e1⟩
      | succ j =>
        obtain ⟨v, d', h1, h2, h3, h4⟩ := k j pd (by simpa using h)
        exact ⟨v, d', by simpa using h1, by simpa using h2, h3, h4⟩
/-- others' addresses, by the callee -/
def othF (w : Wd) (ow : Ow) (pa : Nat → Option Addr) : Addr → Prop := fun a => OF w ow a ∧ ¬ ∃ j, pa j = some a
theorem oth_all {pa : Nat → Option Addr} (h : ∀ j p, pa j = some p → ∃ i, ow i = some p) (a : Addr) : (othF w ow pa a ∨ ∃ j, pa j = some a) ↔ OF w ow a := by
  constructor
  · rintro (z | ⟨j, z⟩)
    · exact z.1
    · obtain ⟨i, e⟩ := h j a z
      exact .inr ⟨i, e⟩
  · intro z
    by_cases q : ∃ j, pa j = some a
    · exact .inr q
    · exact .inl ⟨z, q⟩
theorem call_args (r : Rel w Γ1 ρ1 ow σ H1) (h : RPs w σ ow H1 vs ps) (sa : StArgs mu Γ1 ps) (e : rdPs ps ρ1 = some (.ok ds ρ2)) : ArgsOk w.K (othF w ow (paOf mu ps ow)) (paOf mu ps ow) mu H1 vs ds := by
  obtain ⟨l1, l2, k⟩ := args_get h e
  have pw : ∀ j p, paOf mu ps ow j = some p → ∃ i, ow i = some p := fun j p h => let ⟨i, _, _, h⟩ := paOf_some h; ⟨i, h⟩
  have vs_eq : Same (vis w ow H1) (hid H1 fun a => othF w ow (paOf mu ps ow) a ∨ ∃ j, paOf mu ps ow j = some a) := hid_mono fun a h => (oth_all pw a).mp h
  refine ⟨by rw [l1, l2], fun i d hd hm => ?_, fun i d hd hm => ?_, fun i j p h1 h2 => ?_, fun i p h1 => ?_, fun a ha => ?_⟩
  · have hi := (List.getElem?_eq_some_iff.mp hd).1
    obtain ⟨v, d', x1, x2, x3, x4⟩ := k i _ (List.getElem?_eq_getElem (by omega))
    rw [hd] at x2
    cases x2
    rcases sa.at_ i _ (List.getElem?_eq_getElem (by omega)) with ⟨y, _⟩ | ⟨_, d2, y⟩
    · exact absurd y hm
    · rw [y] at x3 x4
      cases x4
      exact ⟨v, x1, Rp.mono x3 vs_eq⟩
  · have hi := (List.getElem?_eq_some_iff.mp hd).1
    obtain ⟨v, d', x1, x2, x3, x4⟩ := k i _ (List.getElem?_eq_getElem (by omega))
    rw [hd] at x2
    cases x2
    have hp := List.getElem?_eq_getElem (l := ps) (i := i) (by omega)
    rcases sa.at_ i _ hp with ⟨_, i2, y, g⟩ | ⟨y, _⟩
    · rw [y] at x3 x4 hp
      have hr : rdP (.s i2) ρ1 = (match ρ1[i2]? with | some (some d) => some (.ok d ρ1) | _ => none) := rfl
      rw [hr] at x4
      split at x4
      · rename_i d3 hd3
        cases x4
        obtain ⟨p, z1, z2, l, us, z3, z4, z5, z6⟩ := r.own i2 _ hd3 g
        have x3 : σ[i2]? = some (some v) := x3
        rw [x3] at z2
        cases z2
        exact ⟨p, l, us, by rw [paOf_eq hm hp]; exact z1, x1, z3, z4, z5.mono vs_eq, z6⟩
      · cases x4
    · exact absurd hm y
  · obtain ⟨a, _, b, c⟩ := paOf_some h1
    obtain ⟨a', _, b', c'⟩ := paOf_some h2
    have := r.inj a a' p c c'
    subst this
    exact sa.inj _ _ _ b b'
  · obtain ⟨a, b, c, d⟩ := paOf_some h1
    refine ⟨fun z => z.2 ⟨i, h1⟩, (r.ne a p d).2.2, b, ?_⟩
    rw [l2]
    exact (List.getElem?_eq_some_iff.mp c).1
  · rcases ha.1 with z | ⟨i, z⟩
    · exact r.fd a z
    · exact (r.ne i a z).2.2
/-- behind a call -/
theorem call_after {xc : Str → Option Addr} {fn : Fn} {ρ' : Rho} {outs : List D} {xp : Addr → Prop} (r : Rel w Γ1 ρ1 ow σ H1) (wk : WdOk w) (sa : StArgs mu Γ1 ps) (hm : fn.mu = mu)
    (er : EndR (wdOf w.K xc fn (othF w ow (paOf mu ps ow)) (paOf mu ps ow) H1) ρ' xp H') (ho : mutOuts mu ρ' = some outs) (ht : outsTo mu ps outs ρ1 = some ρ2) (hx : ∀ a, xp a → H1 a = none ∧ H' a ≠ none) (hrd : ∀ (j i : Nat), ps[j]? = some (Pd.s i) → ∃ d, ρ1[i]? = some (some d)) :
    Rel (w.px xp) Γ1 ρ2 ow σ H' ∧ Same (vis w ow H1) (vis (w.px xp) ow H') ∧ Same (hid H' fun a => (othF w ow (paOf mu ps ow) a ∨ ∃ j, paOf mu ps ow j = some a) ∨ xp a) (vis (w.px xp) ow H') := by
  have pw : ∀ j p, paOf mu ps ow j = some p → ∃ i, ow i = some p := fun j p h => let ⟨i, _, _, h⟩ := paOf_some h; ⟨i, h⟩
  have nOF : ∀ a, H1 a = none → ¬ OF w ow a := fun a h z => by
    rcases z with z | ⟨i, z⟩
    · exact r.fd a z h
    · exact (r.ne i a z).2.2 h
  have np : ∀ a o, (∀ j, paOf mu ps ow j ≠ some a) → H1 a = some o → H' a = some o := fun a o h e => er.ext a o (fun ⟨j, z⟩ => h j z) e
  have s1 : Same (vis w ow H1) (vis (w.px xp) ow H') := fun a o e => by
    obtain ⟨n, e⟩ := hid_some e
    show hid _ _ _ = _
    rw [hid_out]
    · exact np a o (fun j z => n (.inr (pw j a z))) e
    · rintro ((z | z) | z)
      · exact n (.inl z)
      · rw [(hx a z).1] at e; cases e
      · exact n (.inr z)
  have s2 : Same (hid H' fun a => (othF w ow (paOf mu ps ow) a ∨ ∃ j, paOf mu ps ow j = some a) ∨ xp a) (vis (w.px xp) ow H') := hid_mono fun a h => by
    rcases h with (h | h) | h
    · exact .inl ((oth_all pw a).mpr (.inl h))
    · exact .inr h
    · exact .inl ((oth_all pw a).mpr (.inr h))
  obtain ⟨hl, hg⟩ := outs_get ho ht
  refine ⟨⟨by rw [hl]; exact r.len, fun i d e g => ?_, fun i d e g => ?_, r.inj, fun i p e => ?_, fun a o n e => ?_, fun a n => er.dom a (r.dom a n), fun a h => ?_, r.lkd, fun a o z => ?_⟩, s1, s2⟩
  · rcases hg i with ⟨j, d', x1, x2, x3, x4⟩ | ⟨x1, _⟩
    · rcases sa.at_ j _ x2 with ⟨_, i2, y, g2⟩ | ⟨y, _⟩
      · cases y; exact absurd g2 g
      · exact absurd x1 y
    · rw [x1] at e
      obtain ⟨v, h1, h2⟩ := r.sh i d e g
      exact ⟨v, h1, h2.mono s1⟩
  · rcases hg i with ⟨j, d', x1, x2, x3, x4⟩ | ⟨x1, x2⟩
    · rw [x4] at e
      cases e
      have hpe := paOf_eq (ow := ow) x1 x2
      obtain ⟨d0, e0⟩ := hrd j i x2
      obtain ⟨p, h1, h2, _⟩ := r.own i d0 e0 g
      rw [h1] at hpe
      obtain ⟨es, us, rfl, h3, h4, h5⟩ := er.outs j p _ hpe x3
      exact ⟨p, h1, h2, es, us, rfl, h3, h4.mono s2, h5⟩
    · rw [x1] at e
      obtain ⟨p, h1, h2, es, us, rfl, h3, h4, h5⟩ := r.own i d e g
      refine ⟨p, h1, h2, es, us, rfl, np p _ (fun j z => ?_) h3, h4.mono s1, h5⟩
      obtain ⟨i2, y1, y2, y3⟩ := paOf_some z
      have := r.inj i2 i p y3 h1
      subst this
      rcases x2 with x2 | x2
      · exact x2 j y1 y2
      · rw [List.getElem?_eq_none x2] at e; cases e
  · obtain ⟨x1, x2, x3⟩ := r.ne i p e
    refine ⟨fun z => z.elim x1 fun z => x3 (hx p z).1, x2, er.dom p x3⟩
  · have e1 := r.ext a o n e
    refine np a o (fun j z => ?_) e1
    obtain ⟨i, z⟩ := pw j a z
    rcases (r.ne i a z).2.1 with h | h
    · exact n h
    · have e : w.H0 a = some o := e
      rw [h] at e; cases e
  · rcases h with h | h
    · exact er.dom a (r.fd a h)
    · exact (hx a h).2
  · have e1 := r.fz a o z
    refine np a o (fun j y => ?_) e1
    obtain ⟨i, y⟩ := pw j a y
    exact (r.ne i a y).1 (wk.zf a o z)
end
end VF

end
section
set_option Elab.async false
set_option linter.all false
set_option autoImplicit false
set_option maxRecDepth 100000
set_option maxHeartbeats 1000000
/-! VP: a call as an expression. -/
namespace VF
open PySem PySem.Spec L2
section
variable {X : Cx} {w : Wd} {W : WX} {Γ Γ' Γ1 : List Bool} {e : Expr} {es : List Expr} {y : M (List Pd)} {T : List Fn} {fn : Fn} {m f : Nat}
theorem callN_succ {ds : List D} {cr : CR} (hT : T[f]? = some fn) (h : callN T m f ds = some cr) : ∃ n o, m = n + 1 ∧ ds.length = fn.ps.length ∧ exSs (ctxN (callN T n) T) fn.body (startR fn ds) = some o ∧ outCR fn.own fn.mu o = some cr := by
  cases m with
  | zero => cases h
  | succ n =>
    unfold callN at h
    rw [hT] at h
    by_cases hl : ds.length = fn.ps.length
    · have h : (exSs (ctxN (callN T n) T) fn.body (startR fn ds)).bind (outCR fn.own fn.mu) = some cr := by rw [← h]; simp only [hl, if_true]
      rw [Option.bind_eq_some_iff] at h
      obtain ⟨o, h1, h2⟩ := h
      exact ⟨n, o, rfl, hl, h1, h2⟩
    · have h : (none : Option CR) = some cr := by rw [← h]; simp only [hl, if_false]
      cases h
theorem no_px {ρ : Rho} {ow : Ow} {σ : L2.St} {H : Hp} (r : Rel (w.px fun _ => False) Γ ρ ow σ H) : Rel w Γ ρ ow σ H ∧ Same (vis (w.px fun _ => False) ow H) (vis w ow H) := r.unpx
theorem JE.fnc (wk : WdOk w) (hk : LkIn w Γ1) (hT : T[f]? = some fn) (ho : fn.own = false) (hp : PE X e (tCallS (spC T w.K w.xc m f) (WE W) (tM w W Γ Γ1 (RPs w) y)))
    (hst : ∀ ρ ps ρ', y ρ = some (.ok ps ρ') → StArgs fn.mu Γ1 ps) : JE X w W e Γ Γ1 (M.bnd y fun ps => callM (ctxN (callN T m) T) f ps) := by
  refine PE.imp hp fun σ H Q ⟨ρ, ow, r, q⟩ => ⟨ρ, ow, r, post_bnd q fun ps ρ1 vs H1 ow1 ey q r1 s1 rs => ?_⟩
  have sa := hst _ _ _ ey
  rcases rdPs_look r1 rs with ⟨ds, erd, _⟩ | erd
  · have q : Post w W Γ1 (RD w) (vis w ow H) (match callN T m f ds with
      | none => none
      | some (.ok d outs) => (outsTo ((T[f]?.map (·.mu)).getD []) ps outs ρ1).map fun ρ' => .ok d ρ'
      | some (.ex e outs) => (outsTo ((T[f]?.map (·.mu)).getD []) ps outs ρ1).map fun ρ' => .ex e ρ') σ Q := by
      have q' := q
      unfold callM M.bnd at q'
      rw [erd] at q'
      exact q'
    have hsg : (T[f]?.map (·.mu)).getD [] = fn.mu := by rw [hT]; rfl
    rw [hsg] at q
    cases ecr : callN T m f ds with
    | none => rw [ecr] at q; exact q.elim
    | some cr =>
      rw [ecr] at q
      obtain ⟨n, o, rfl, hl, eo, ecr2⟩ := callN_succ hT ecr
      have aok := call_args r1 rs sa erd
      have hrd : ∀ (j i : Nat), ps[j]? = some (Pd.s i) → ∃ d, ρ1[i]? = some (some d) := fun j i h => by
        obtain ⟨_, _, k⟩ := args_get rs erd
        obtain ⟨v, d, _, _, _, h4⟩ := k j _ h
        have hr : rdP (.s i) ρ1 = (match ρ1[i]? with | some (some d) => some (.ok d ρ1) | _ => none) := rfl
        rw [hr] at h4
        split at h4
        · rename_i d3 hd3
          exact ⟨d3, hd3⟩
        · cases h4
      refine ⟨fn, _, _, ds, hT, hl, aok, ?_⟩
      rw [eo]
      cases o with
      | bk ρ' => cases ecr2
      | ct ρ' => cases ecr2
      | nx ρ' =>
        refine ⟨ho, fun H' er => ?_⟩
        unfold outCR at ecr2
        rw [ho] at ecr2
        have ecr2 : (mutOuts fn.mu ρ').map (fun o => CR.ok .none o) = some cr := ecr2
        simp only [Option.map_eq_some_iff] at ecr2
        obtain ⟨outs, e1, rfl⟩ := ecr2
        cases e2 : outsTo fn.mu ps outs ρ1 with
        | none => simp only [e2] at q; exact q.elim
        | some ρ2 =>
          simp only [e2] at q
          obtain ⟨r2, s2, s3⟩ := call_after r1 wk sa rfl er e1 e2 (fun a h => h.elim) hrd
          obtain ⟨r3, s4⟩ := no_px r2
          exact q .non H' ow1 r3 (s1.trans (s2.trans s4)) .non
      | rt d ρ' =>
        unfold outCR at ecr2
        simp only [Option.map_eq_some_iff] at ecr2
        obtain ⟨outs, e1, rfl⟩ := ecr2
        rw [ho]
        intro v H' er rv
        cases e2 : outsTo fn.mu ps outs ρ1 with
        | none => simp only [e2] at q; exact q.elim
        | some ρ2 =>
          simp only [e2] at q
          obtain ⟨r2, s2, s3⟩ := call_after r1 wk sa rfl er e1 e2 (fun a h => h.elim) hrd
          obtain ⟨r3, s4⟩ := no_px r2
          exact q v H' ow1 r3 (s1.trans (s2.trans s4)) (rv.mono (s3.trans s4))
      | ex e ρ' =>
        unfold outCR at ecr2
        simp only [Option.map_eq_some_iff] at ecr2
        obtain ⟨outs, e1, rfl⟩ := ecr2
        intro cls dd H' er xr
        cases e2 : outsTo fn.mu ps outs ρ1 with
        | none => simp only [e2] at q; exact q.elim
        | some ρ2 =>
          simp only [e2] at q
          obtain ⟨r2, s2, s3⟩ := call_after r1 wk sa rfl er e1 e2 (fun a h => h.elim) hrd
          obtain ⟨r3, s4⟩ := no_px r2
          obtain ⟨ow4, r4, s5⟩ := r3.weak (lk_le wk hk) (lk_own wk)
          exact q cls dd H' ow4 r4 (xr.mono (s3.trans (s4.trans s5)))
  · unfold callM M.bnd at q
    rw [erd] at q
    exact q.elim
theorem JO.fnc (wk : WdOk w) (hk : LkIn w Γ1) (hT : T[f]? = some fn) (ho : fn.own = true) (hp : PE X e (tCallS (spC T w.K w.xc m f) (WE W) (tM w W Γ Γ1 (RPs w) y)))
    (hst : ∀ ρ ps ρ', y ρ = some (.ok ps ρ') → StArgs fn.mu Γ1 ps) : JO X w W e Γ Γ1 (M.bnd y fun ps => callM (ctxN (callN T m) T) f ps) := by
  refine PE.imp hp fun σ H Q ⟨ρ, ow, r, q⟩ => ⟨ρ, ow, r, postO_bnd q fun ps ρ1 vs H1 ow1 ey q r1 s1 rs => ?_⟩
  have sa := hst _ _ _ ey
  rcases rdPs_look r1 rs with ⟨ds, erd, _⟩ | erd
  · have q : PostO w W Γ1 (vis w ow H) (match callN T m f ds with
      | none => none
      | some (.ok d outs) => (outsTo ((T[f]?.map (·.mu)).getD []) ps outs ρ1).map fun ρ' => .ok d ρ'
      | some (.ex e outs) => (outsTo ((T[f]?.map (·.mu)).getD []) ps outs ρ1).map fun ρ' => .ex e ρ') σ Q := by
      have q' := q
      unfold callM M.bnd at q'
      rw [erd] at q'
      exact q'
    have hsg : (T[f]?.map (·.mu)).getD [] = fn.mu := by rw [hT]; rfl
    rw [hsg] at q
    cases ecr : callN T m f ds with
    | none => rw [ecr] at q; exact q.elim
    | some cr =>
      rw [ecr] at q
      obtain ⟨n, o, rfl, hl, eo, ecr2⟩ := callN_succ hT ecr
      have aok := call_args r1 rs sa erd
      have hrd : ∀ (j i : Nat), ps[j]? = some (Pd.s i) → ∃ d, ρ1[i]? = some (some d) := fun j i h => by
        obtain ⟨_, _, k⟩ := args_get rs erd
        obtain ⟨v, d, _, _, _, h4⟩ := k j _ h
        have hr : rdP (.s i) ρ1 = (match ρ1[i]? with | some (some d) => some (.ok d ρ1) | _ => none) := rfl
        rw [hr] at h4
        split at h4
        · rename_i d3 hd3
          exact ⟨d3, hd3⟩
        · cases h4
      refine ⟨fn, _, _, ds, hT, hl, aok, ?_⟩
      rw [eo]
      cases o with
      | bk ρ' => cases ecr2
      | ct ρ' => cases ecr2
      | nx ρ' =>
        unfold outCR at ecr2
        rw [ho] at ecr2
        cases ecr2
      | rt d ρ' =>
        unfold outCR at ecr2
        simp only [Option.map_eq_some_iff] at ecr2
        obtain ⟨outs, e1, rfl⟩ := ecr2
        rw [ho]
        intro p es us H' ed er nF np n0 hp' ra z
        cases e2 : outsTo fn.mu ps outs ρ1 with
        | none => simp only [e2] at q; exact q.elim
        | some ρ2 =>
          simp only [e2] at q
          have n0 : H1 p = none := n0
          obtain ⟨r2, s2, s3⟩ := call_after r1 wk sa rfl er e1 e2 (fun a h => by rw [h]; exact ⟨n0, by rw [hp']; simp⟩) hrd
          have nOF : ¬ OF w ow1 p := fun x => by
            rcases x with x | ⟨i, x⟩
            · exact r1.fd p x n0
            · exact (r1.ne i p x).2.2 n0
          have nH : w.H0 p = none := by
            cases e : w.H0 p with
            | none => rfl
            | some o => exact absurd n0 (r1.dom p (by rw [e]; simp))
          exact q p es us H' ow1 ed r2 nOF nH hp' (ra.mono s3) z (s1.trans s2)
      | ex e ρ' =>
        unfold outCR at ecr2
        simp only [Option.map_eq_some_iff] at ecr2
        obtain ⟨outs, e1, rfl⟩ := ecr2
        intro cls dd H' er xr
        cases e2 : outsTo fn.mu ps outs ρ1 with
        | none => simp only [e2] at q; exact q.elim
        | some ρ2 =>
          simp only [e2] at q
          obtain ⟨r2, s2, s3⟩ := call_after r1 wk sa rfl er e1 e2 (fun a h => h.elim) hrd
          obtain ⟨r3, s4⟩ := no_px r2
          obtain ⟨ow4, r4, s5⟩ := r3.weak (lk_le wk hk) (lk_own wk)
          exact q cls dd H' ow4 r4 (xr.mono (s3.trans (s4.trans s5)))
  · unfold callM M.bnd at q
    rw [erd] at q
    exact q.elim
end
end VF

end
section
set_option Elab.async false
set_option linter.all false
set_option autoImplicit false
set_option maxRecDepth 100000
set_option maxHeartbeats 1000000
/-! VQ: does a term of the small language stand for a text of Python? The look, by computation. -/
namespace VF
open PySem PySem.Spec L2

/-! ### parts of a text -/
def gd (b : Bool) : Option Unit := if b then some () else none
theorem gd_some {b : Bool} {u : Unit} : gd b = some u ↔ b = true := by cases b <;> simp [gd]
def asTup : Expr → Option (List Expr × Nat × Pos)
  | .Tuple es k p => some (es, k, p)
  | _ => none
theorem asTup_some {e : Expr} {r : List Expr × Nat × Pos} (h : asTup e = some r) : e = .Tuple r.1 r.2.1 r.2.2 := by cases e <;> simp [asTup] at h; subst h; rfl
def asLst : Expr → Option (List Expr × Pos)
  | .List es p => some (es, p)
  | _ => none
theorem asLst_some {e : Expr} {r : List Expr × Pos} (h : asLst e = some r) : e = .List r.1 r.2 := by cases e <;> simp [asLst] at h; subst h; rfl
def asBin : Expr → Option (Expr × Operator × Expr × Pos)
  | .BinOp a o b p => some (a, o, b, p)
  | _ => none
theorem asBin_some {e : Expr} {r : Expr × Operator × Expr × Pos} (h : asBin e = some r) : e = .BinOp r.1 r.2.1 r.2.2.1 r.2.2.2 := by cases e <;> simp [asBin] at h; subst h; rfl
def asUn : Expr → Option (UnaryOp × Expr × Pos)
  | .UnaryOp o a p => some (o, a, p)
  | _ => none
theorem asUn_some {e : Expr} {r : UnaryOp × Expr × Pos} (h : asUn e = some r) : e = .UnaryOp r.1 r.2.1 r.2.2 := by cases e <;> simp [asUn] at h; subst h; rfl
def asCmp : Expr → Option (Expr × CmpOp × Expr × Pos)
  | .Compare a [o] [b] p => some (a, o, b, p)
  | _ => none
theorem asCmp_some {e : Expr} {r : Expr × CmpOp × Expr × Pos} (h : asCmp e = some r) : e = .Compare r.1 [r.2.1] [r.2.2.1] r.2.2.2 := by
  unfold asCmp at h
  split at h <;> cases h
  rfl
def asChain : Expr → Option (Expr × CmpOp × Expr × CmpOp × Expr × Pos)
  | .Compare a [o, o'] [b, c] p => some (a, o, b, o', c, p)
  | _ => none
theorem asChain_some {e : Expr} {r : Expr × CmpOp × Expr × CmpOp × Expr × Pos} (h : asChain e = some r) : e = .Compare r.1 [r.2.1, r.2.2.2.1] [r.2.2.1, r.2.2.2.2.1] r.2.2.2.2.2 := by
  unfold asChain at h
  split at h <;> cases h
  rfl
/-- T of isinstance(e, T) -/
def asTyN : Expr → Option (Str × Pos)
  | .Name x p => some (x, p)
  | _ => none
theorem asTyN_some {e : Expr} {r : Str × Pos} (h : asTyN e = some r) : e = .Name r.1 r.2 := by cases e <;> simp [asTyN] at h; subst h; rfl
def asRev : Expr → Option (Nat × Pos × Pos × Pos)
  | .Slice none none (some (.UnaryOp .USub (.Constant (.int 1) k p1) p2)) p3 => some (k, p1, p2, p3)
  | _ => none
theorem asRev_some {e : Expr} {r : Nat × Pos × Pos × Pos} (h : asRev e = some r) : e = .Slice none none (some (.UnaryOp .USub (.Constant (.int 1) r.1 r.2.1) r.2.2.1)) r.2.2.2 := by
  unfold asRev at h
  split at h <;> cases h
  rfl
def asTwo : List Expr → Option (Expr × Expr)
  | [a, b] => some (a, b)
  | _ => none
theorem asTwo_some {l : List Expr} {r : Expr × Expr} (h : asTwo l = some r) : l = [r.1, r.2] := by
  unfold asTwo at h
  split at h <;> cases h
  rfl
def asBool : Expr → Option (BoolOp × Expr × Expr × List Expr × Pos)
  | .BoolOp o (a :: b :: r) p => some (o, a, b, r, p)
  | _ => none
theorem asBool_some {e : Expr} {r : BoolOp × Expr × Expr × List Expr × Pos} (h : asBool e = some r) : e = .BoolOp r.1 (r.2.1 :: r.2.2.1 :: r.2.2.2.1) r.2.2.2.2 := by
  unfold asBool at h
  split at h <;> cases h
  rfl
def asIf : Expr → Option (Expr × Expr × Expr × Pos)
  | .IfExp c a b p => some (c, a, b, p)
  | _ => none
theorem asIf_some {e : Expr} {r : Expr × Expr × Expr × Pos} (h : asIf e = some r) : e = .IfExp r.1 r.2.1 r.2.2.1 r.2.2.2 := by cases e <;> simp [asIf] at h; subst h; rfl
def asCallN : Expr → Option (Str × Pos × List Expr × Pos)
  | .Call (.Name x p) es [] pos => some (x, p, es, pos)
  | _ => none
theorem asCallN_some {e : Expr} {r : Str × Pos × List Expr × Pos} (h : asCallN e = some r) : e = .Call (.Name r.1 r.2.1) r.2.2.1 [] r.2.2.2 := by
  unfold asCallN at h
  split at h <;> cases h
  rfl
def asCallA : Expr → Option (Expr × Str × Pos × List Expr × Pos)
  | .Call (.Attribute o x p) es [] pos => some (o, x, p, es, pos)
  | _ => none
theorem asCallA_some {e : Expr} {r : Expr × Str × Pos × List Expr × Pos} (h : asCallA e = some r) : e = .Call (.Attribute r.1 r.2.1 r.2.2.1) r.2.2.2.1 [] r.2.2.2.2 := by
  unfold asCallA at h
  split at h <;> cases h
  rfl
def asSub : Expr → Option (Expr × Expr × Pos)
  | .Subscript a b p => some (a, b, p)
  | _ => none
theorem asSub_some {e : Expr} {r : Expr × Expr × Pos} (h : asSub e = some r) : e = .Subscript r.1 r.2.1 r.2.2 := by cases e <;> simp [asSub] at h; subst h; rfl
def asSlice : Expr → Option (Option Expr × Option Expr × Pos)
  | .Slice lo hi none p => some (lo, hi, p)
  | _ => none
theorem asSlice_some {e : Expr} {r : Option Expr × Option Expr × Pos} (h : asSlice e = some r) : e = .Slice r.1 r.2.1 none r.2.2 := by
  unfold asSlice at h
  split at h <;> cases h
  rfl
def asLC : Expr → Option (Expr × Expr × Expr × List Expr × Scope × Pos)
  | .ListComp el [⟨tg, it, ifs, 0⟩] sc p => some (el, tg, it, ifs, sc, p)
  | _ => none
theorem asLC_some {e : Expr} {r : Expr × Expr × Expr × List Expr × Scope × Pos} (h : asLC e = some r) : e = .ListComp r.1 [⟨r.2.1, r.2.2.1, r.2.2.2.1, 0⟩] r.2.2.2.2.1 r.2.2.2.2.2 := by
  unfold asLC at h
  split at h <;> cases h
  rfl
def noStar : Expr → Bool
  | .Starred .. => false
  | _ => true
theorem star_cons {e : Expr} {es : List Expr} {env : Env} (h : noStar e = true) : starEach (e :: es) env = (false, eval e env) :: starEach es env := by
  cases e <;> first | rfl | cases h
theorem star_none : ∀ {es : List Expr} {env : Env} {pos : Pos}, es.all noStar = true → (backTo pos (starEach es env)).any (·.1) = false
  | [], _, _, _ => rfl
  | e :: es, env, pos, h => by
    rw [List.all_cons, Bool.and_eq_true] at h
    rw [star_cons h.1]
    show (false || (backTo pos (starEach es env)).any (·.1)) = false
    rw [star_none h.2]; rfl
theorem star_all : ∀ {es : List Expr} {env : Env} {pos : Pos}, es.all noStar = true → (backTo pos (starEach es env)).all (fun x => !x.1) = true
  | [], _, _, _ => rfl
  | e :: es, env, pos, h => by
    rw [List.all_cons, Bool.and_eq_true] at h
    rw [star_cons h.1]
    show (true && (backTo pos (starEach es env)).all (fun x => !x.1)) = true
    rw [star_all h.2]; rfl
def noBool : Expr → Bool
  | .UnaryOp .Not _ _ => false
  | .BoolOp .. => false
  | .IfExp .. => false
  | .Compare .. => false
  | _ => true
theorem noBool_is {e : Expr} {env : Env} (h : noBool e = true) : ∀ whole, isTrue e env whole = (do let v ← whole; standAt e.pos; holding [v] (truthy v)) := by
  intro whole
  cases e <;> first | rfl | (rename_i o _ _; cases o <;> first | rfl | cases h) | cases h
def noComp : Expr → Bool
  | .ListComp .. => false
  | .SetComp .. => false
  | .DictComp .. => false
  | _ => true
theorem noComp_is {e : Expr} {t : Option Expr} {l : Nat} {env : Env} (h : noComp e = true) : swapsWith e t l env = pure false := by
  cases e <;> first | rfl | cases h
def noSet : Expr → Bool
  | .Set .. => false
  | _ => true
theorem noSet_is {e : Expr} {env : Env} (h : noSet e = true) : ∀ x, foldedSetIterable e env x = pure x := by
  intro x
  cases e <;> first | rfl | cases h
theorem noSet_beh {e : Expr} {o : CmpOp} (h : noSet e = true) : behindInMarks o e = false := by
  cases e <;> first | rfl | cases h
def noSlice : Expr → Bool
  | .Slice .. => false
  | _ => true
theorem noSlice_is {e : Expr} (h : noSlice e = true) : PlainIx e := by
  intro o i
  cases e <;> first | rfl | cases h
def noSuper : Expr → Bool
  | .Call (.Name _ _) [] [] _ => false
  | _ => true
theorem noSuper_is {e : Expr} {x : Str} {env : Env} {wh : Sem Value} (h : noSuper e = true) : attributeBase e x env wh = wh := by
  unfold attributeBase
  split
  · cases h
  · rfl
def noTup : Expr → Bool
  | .Tuple .. => false
  | .List .. => false
  | _ => true

/-! ### the surroundings of a text -/
structure SE where
  N : List Str
  sc : Scope
  dfn : Bool
  oc : List Str
  lk : List Bool
  T : List Fn
  bl : List Str
def SE.kd (S : SE) (x : Str) : Option NameKind := S.sc.names.lookup x
def plainNm (x : Str) : Bool := !(x == ("__debug__" : Str)) && !(x == ("__classdict__" : Str))
def chkV (S : SE) (e : Expr) (i : Nat) : Bool := match e with
  | .Name x _ => decide (S.N[i]? = some x) && (decide (S.kd x = some .local) || decide (S.kd x = some .cell) || decide (S.kd x = some .free)) && plainNm x
  | _ => false
/-- a name that the module or the built-ins give -/
def isGl (S : SE) (x : Str) : Bool := decide (S.kd x = some .globalImplicit) && plainNm x
def isBl (S : SE) (y x : Str) : Bool := decide (x = y) && isGl S x && decide (x ∈ S.bl)
def conOk : D → Expr → Bool
  | .int i, .Constant (.int j) _ _ => decide (j = i)
  | .str a, .Constant (.str b) _ _ => decide (b = a) && okLen a.length
  | .bool a, .Constant (.bool b) _ _ => decide (b = a)
  | .none, .Constant .none _ _ => true
  | _, _ => false
def opR : Op2 → Operator → Bool
  | .add, .Add => true
  | .cat, .Add => true
  | .sub, .Sub => true
  | .mul, .Mult => true
  | .fdiv, .FloorDiv => true
  | .mod, .Mod => true
  | .pow, .Pow => true
  | _, _ => false
def cmR : Cm → CmpOp → Bool
  | .eq, .Eq => true
  | .ne, .NotEq => true
  | .lt, .Lt => true
  | .le, .LtE => true
  | .gt, .Gt => true
  | .ge, .GtE => true
  | .isin, .In => true
  | .nin, .NotIn => true
  | _, _ => false
def isR : Bool → CmpOp → Bool
  | false, .Is => true
  | true, .IsNot => true
  | _, _ => false
def isNoneE : Expr → Bool
  | .Constant .none _ _ => true
  | _ => false
def btNm : Bt → Option Str
  | .len => some "len"
  | .int => some "int"
  | .str => some "str"
  | .tuple => some "tuple"
  | .list => some "list"
  | .listS => some "list"
  | .sorted => some "sorted"
  | .sum => some "sum"
  | .min => some "min"
  | .max => some "max"
  | .min2 => some "min"
  | .max2 => some "max"
  | .abs => some "abs"
  | .any => some "any"
  | .all => some "all"
def mtNm : Mt → Option Str
  | .join => some "join"
  | _ => none
def mmNm : Mm → Option Str
  | .append => some "append"
  | .pop => some "pop"
  | .reverse => some "reverse"
  | .insert => some "insert"
  | .clear => some "clear"
/-- a fresh list comes out -/
def isO (T : List Fn) : E → Bool
  | .lst _ => true
  | .op .cat _ _ => true
  | .bi .list _ => true
  | .bi .sorted _ => true
  | .bi .listS _ => true
  | .comp .. => true
  | .fn f _ => match T[f]? with
    | some fn => fn.own
    | none => false
  | _ => false
/-- the slots that a call hands to be changed -/
def ownIx : List Bool → List E → Option (List Nat)
  | true :: ms, .var i :: es => (ownIx ms es).map (i :: ·)
  | true :: _, _ => none
  | false :: ms, _ :: es => ownIx ms es
  | _, _ => some []
def muOk (ms : List Bool) (es : List E) (Γ : List Bool) : Bool := match ownIx ms es with
  | some l => decide l.Nodup && l.all fun i => decide (Γ[i]? = some true)
  | none => false
def opG (t : E) (S : SE) (e : Expr) (Γ : List Bool) (r : Option (List Bool)) : Option (List Bool) := match t with
  | .var i => (gd (chkV S e i)).map fun _ => Γ
  | _ => r
mutual
def chkG : Tg → SE → Expr → List Bool → Option (List Bool)
  | .nm i, S, .Name x _, Γ => (gd (decide (S.N[i]? = some x) && (decide (S.kd x = some .local) || ((S.dfn || decide (x ∈ S.oc)) && decide (S.kd x = some .cell))) && decide (S.lk[i]? ≠ some true))).map fun _ => Γ.set i false
  | .tp ts, S, .Tuple es _ _, Γ => chkGs ts S es Γ
  | _, _, _, _ => none
def chkGs : List Tg → SE → List Expr → List Bool → Option (List Bool)
  | [], _, [], Γ => some Γ
  | t :: ts, S, e :: es, Γ => (chkG t S e Γ).bind fun Γ1 => chkGs ts S es Γ1
  | _, _, _, _ => none
end
/-- the names of a comprehension's own -/
def ownOf (N : List Str) (vs : List Nat) : List (Str × Nat) := vs.map fun v => (N[v]?.getD "", v)
def SE.blk (S : SE) (sc : Scope) : SE := { S with sc := relS sc S.sc, dfn := false, oc := (sc.names.map (·.1)).filter fun x => sc.names.lookup x == some .cell }
def isTupE : Expr → Bool
  | .Tuple .. => true
  | _ => false
mutual
def chkE : E → SE → Expr → List Bool → Option (List Bool)
  | .var i, S, e, Γ => (gd (chkV S e i && (decide (Γ[i]? ≠ some true) || decide (S.lk[i]? ≠ some true)))).map fun _ => if Γ[i]? = some true then Γ.set i false else Γ
  | .con d, _, e, Γ => (gd (conOk d e)).map fun _ => Γ
  | .glo _ _, _, _, _ => none
  | .tup es, S, e, Γ => (asTup e).bind fun p => chkEs es S p.1 Γ
  | .lst es, S, e, Γ => (asLst e).bind fun p => chkEs es S p.1 Γ
  | .op o a b, S, e, Γ => (asBin e).bind fun p => (gd (opR o p.2.1)).bind fun _ => (opG a S p.1 Γ (chkE a S p.1 Γ)).bind fun Γ1 => opG b S p.2.2.1 Γ1 (chkE b S p.2.2.1 Γ1)
  | .neg a, S, e, Γ => (asUn e).bind fun p => (gd (decide (p.1 = .USub))).bind fun _ => chkE a S p.2.1 Γ
  | .cmp o a b, S, e, Γ => (asCmp e).bind fun p => (gd (cmR o p.2.1 && noSet p.2.2.1)).bind fun _ => (opG a S p.1 Γ (chkE a S p.1 Γ)).bind fun Γ1 => opG b S p.2.2.1 Γ1 (chkE b S p.2.2.1 Γ1)
  | .isN ng a, S, e, Γ => (asCmp e).bind fun p => (gd (isR ng p.2.1 && isNoneE p.2.2.1)).bind fun _ => chkE a S p.1 Γ
  | .and a b, S, e, Γ => (asBool e).bind fun p => (gd (decide (p.1 = .And))).bind fun _ => (chkE a S p.2.1 Γ).bind fun Γ1 =>
      ((if p.2.2.2.1.isEmpty then chkE b S p.2.2.1 Γ1 else chkE b S (.BoolOp .And (p.2.2.1 :: p.2.2.2.1) p.2.2.2.2) Γ1)).bind fun Γ2 => (gd (leG Γ2 Γ1 && leG S.lk Γ2)).map fun _ => Γ2
  | .or a b, S, e, Γ => (asBool e).bind fun p => (gd (decide (p.1 = .Or))).bind fun _ => (chkE a S p.2.1 Γ).bind fun Γ1 =>
      ((if p.2.2.2.1.isEmpty then chkE b S p.2.2.1 Γ1 else chkE b S (.BoolOp .Or (p.2.2.1 :: p.2.2.2.1) p.2.2.2.2) Γ1)).bind fun Γ2 => (gd (leG Γ2 Γ1 && leG S.lk Γ2)).map fun _ => Γ2
  | .not a, S, e, Γ => (asUn e).bind fun p => (gd (decide (p.1 = .Not))).bind fun _ => chkE a S p.2.1 Γ
  | .ite c a b, S, e, Γ => (asIf e).bind fun p => (chkT c S p.1 Γ).bind fun Γ1 => (chkE a S p.2.1 Γ1).bind fun Γ2 => (chkE b S p.2.2.1 Γ1).bind fun Γ3 =>
      (gd (leG S.lk (Γ2.zipWith and Γ3) && leG (Γ2.zipWith and Γ3) Γ2 && leG (Γ2.zipWith and Γ3) Γ3)).map fun _ => Γ2.zipWith and Γ3
  | .fn f es, S, e, Γ => (asCallN e).bind fun p => (S.T[f]?).bind fun fn => (gd (decide (fn.name = p.1) && isGl S p.1 && p.2.2.1.all noStar)).bind fun _ => (chkAs es fn.mu S p.2.2.1 Γ).bind fun Γ1 => (gd (muOk fn.mu es Γ1 && leG S.lk Γ1)).map fun _ => Γ1
  | .bi b es, S, e, Γ => (asCallN e).bind fun p => (btNm b).bind fun y => (gd (isBl S y p.1 && p.2.2.1.all noStar && !p.2.2.1.isEmpty)).bind fun _ => chkPs es S p.2.2.1 Γ
  | .me m o es, S, e, Γ => (asCallA e).bind fun p => (mtNm m).bind fun y => (gd (decide (p.2.1 = y) && noSuper p.1 && p.2.2.2.1.all noStar && !p.2.2.2.1.isEmpty && decide (p.2.2.2.1.length < 30) && (p.2.2.1.endLine == p.2.2.2.2.line))).bind fun _ =>
      (chkE o S p.1 Γ).bind fun Γ1 => chkPs es S p.2.2.2.1 Γ1
  | .mu m i es, S, e, Γ => (asCallA e).bind fun p => (mmNm m).bind fun y => (gd (decide (p.2.1 = y) && chkV S p.1 i && p.2.2.2.1.all noStar && decide (p.2.2.2.1.length < 30) && (p.2.2.1.endLine == p.2.2.2.2.line))).bind fun _ =>
      (chkEs es S p.2.2.2.1 Γ).bind fun Γ1 => (gd (decide (Γ1[i]? = some true))).map fun _ => Γ1
  | .ix a b, S, e, Γ => (asSub e).bind fun p => (gd (noSlice p.2.1)).bind fun _ => (opG a S p.1 Γ (chkE a S p.1 Γ)).bind fun Γ1 => chkE b S p.2.1 Γ1
  | .sl a lo hi, S, e, Γ => (asSub e).bind fun p => (asSlice p.2.1).bind fun q => (opG a S p.1 Γ (chkE a S p.1 Γ)).bind fun Γ1 => (chkO lo S q.1 Γ1).bind fun Γ2 => chkO hi S q.2.1 Γ2
  | .comp el tg it c vs, S, e, Γ => (asLC e).bind fun p => (gd (blkC S.N S.sc p.2.2.2.2.1 (ownOf S.N vs) && noSet p.2.2.1)).bind fun _ => (chkI it S p.2.1 p.2.2.1 Γ).bind fun Γ1 =>
      (chkG tg (S.blk p.2.2.2.2.1) p.2.1 (setFs vs Γ1)).bind fun Γt0 => (chkC c (S.blk p.2.2.2.2.1) p.2.2.2.1 Γt0).bind fun Γu0 => (chkE el (S.blk p.2.2.2.2.1) p.1 Γu0).bind fun Γc =>
      (chkG tg (S.blk p.2.2.2.2.1) p.2.1 Γc).bind fun Γt => (chkC c (S.blk p.2.2.2.2.1) p.2.2.2.1 Γt).bind fun Γu => (chkE el (S.blk p.2.2.2.2.1) p.1 Γu).bind fun Γe =>
      (gd (leG Γc Γ1 && leG S.lk Γc && leG Γc Γu && leG Γc Γe && (vs.all fun v => decide (Γc[v]? ≠ some true)) && (slotsT tg).all fun v => decide (v ∈ vs))).map fun _ => Γc
  | .eqR a b, S, e, Γ => (asCmp e).bind fun p => (gd (decide (p.2.1 = .Eq))).bind fun _ => (asCallN p.1).bind fun q => (asCallN p.2.2.1).bind fun r => (gd (isBl S "repr" q.1 && isBl S "repr" r.1)).bind fun _ => match q.2.2.1, r.2.2.1 with
    | [a'], [b'] => (gd (noStar a' && noStar b')).bind fun _ => (chkE a S a' Γ).bind fun Γ1 => chkE b S b' Γ1
    | _, _ => none
  | .isi k a, S, e, Γ => (asCallN e).bind fun p => (asTwo p.2.2.1).bind fun q => (asTyN q.2).bind fun n => (gd (isBl S "isinstance" p.1 && noStar q.1 && isBl S (k.nm : Str) n.1)).bind fun _ => chkE a S q.1 Γ
  | .chn o o' a b c, S, e, Γ => (asChain e).bind fun p => (gd (cmR o p.2.1 && cmR o' p.2.2.2.1 && !lastMarks [p.2.1, p.2.2.2.1] [p.2.2.1, p.2.2.2.2.1])).bind fun _ => (chkE a S p.1 Γ).bind fun Γ1 => (chkE b S p.2.2.1 Γ1).bind fun Γ2 => (chkE c S p.2.2.2.2.1 Γ2).bind fun Γ3 => (gd (leG Γ3 Γ2 && leG S.lk Γ3)).map fun _ => Γ3
  | .rev a, S, e, Γ => (asSub e).bind fun p => (asRev p.2.1).bind fun _ => chkE a S p.1 Γ
def chkEs : List E → SE → List Expr → List Bool → Option (List Bool)
  | [], _, [], Γ => some Γ
  | t :: ts, S, e :: es, Γ => (gd (noStar e)).bind fun _ => (chkE t S e Γ).bind fun Γ1 => chkEs ts S es Γ1
  | _, _, _, _ => none
def chkPs : List E → SE → List Expr → List Bool → Option (List Bool)
  | [], _, [], Γ => some Γ
  | t :: ts, S, e :: es, Γ => (gd (noStar e)).bind fun _ => (opG t S e Γ (chkE t S e Γ)).bind fun Γ1 => chkPs ts S es Γ1
  | _, _, _, _ => none
def chkAs : List E → List Bool → SE → List Expr → List Bool → Option (List Bool)
  | [], _, _, [], Γ => some Γ
  | t :: ts, true :: ms, S, e :: es, Γ => (gd (noStar e)).bind fun _ => (opG t S e Γ (chkE t S e Γ)).bind fun Γ1 => chkAs ts ms S es Γ1
  | t :: ts, false :: ms, S, e :: es, Γ => (gd (noStar e)).bind fun _ => (chkE t S e Γ).bind fun Γ1 => chkAs ts ms S es Γ1
  | t :: ts, [], S, e :: es, Γ => (gd (noStar e)).bind fun _ => (chkE t S e Γ).bind fun Γ1 => chkAs ts [] S es Γ1
  | _, _, _, _, _ => none
def chkO : Option E → SE → Option Expr → List Bool → Option (List Bool)
  | none, _, none, Γ => some Γ
  | some t, S, some e, Γ => chkE t S e Γ
  | _, _, _, _ => none
/-- the condition of a comprehension -/
def chkC : Option E → SE → List Expr → List Bool → Option (List Bool)
  | none, _, [], Γ => some Γ
  | some t, S, [e], Γ => chkT t S e Γ
  | _, _, _, _ => none
/-- as a test -/
def chkT : E → SE → Expr → List Bool → Option (List Bool)
  | .cmp o a b, S, e, Γ => (asCmp e).bind fun p => (gd (cmR o p.2.1 && noSet p.2.2.1)).bind fun _ => (opG a S p.1 Γ (chkE a S p.1 Γ)).bind fun Γ1 => opG b S p.2.2.1 Γ1 (chkE b S p.2.2.1 Γ1)
  | .isN ng a, S, e, Γ => (asCmp e).bind fun p => (gd (isR ng p.2.1 && isNoneE p.2.2.1)).bind fun _ => chkE a S p.1 Γ
  | .and a b, S, e, Γ => (asBool e).bind fun p => (gd (decide (p.1 = .And))).bind fun _ => (chkT a S p.2.1 Γ).bind fun Γ1 =>
      ((if p.2.2.2.1.isEmpty then chkT b S p.2.2.1 Γ1 else chkT b S (.BoolOp .And (p.2.2.1 :: p.2.2.2.1) p.2.2.2.2) Γ1)).bind fun Γ2 => (gd (leG Γ2 Γ1 && leG S.lk Γ2)).map fun _ => Γ2
  | .or a b, S, e, Γ => (asBool e).bind fun p => (gd (decide (p.1 = .Or))).bind fun _ => (chkT a S p.2.1 Γ).bind fun Γ1 =>
      ((if p.2.2.2.1.isEmpty then chkT b S p.2.2.1 Γ1 else chkT b S (.BoolOp .Or (p.2.2.1 :: p.2.2.2.1) p.2.2.2.2) Γ1)).bind fun Γ2 => (gd (leG Γ2 Γ1 && leG S.lk Γ2)).map fun _ => Γ2
  | .not a, S, e, Γ => (asUn e).bind fun p => (gd (decide (p.1 = .Not))).bind fun _ => chkT a S p.2.1 Γ
  | .eqR a b, S, e, Γ => (asCmp e).bind fun p => (gd (decide (p.2.1 = .Eq))).bind fun _ => (asCallN p.1).bind fun q => (asCallN p.2.2.1).bind fun r => (gd (isBl S "repr" q.1 && isBl S "repr" r.1)).bind fun _ => match q.2.2.1, r.2.2.1 with
    | [a'], [b'] => (gd (noStar a' && noStar b')).bind fun _ => (chkE a S a' Γ).bind fun Γ1 => chkE b S b' Γ1
    | _, _ => none
  | .var i, S, e, Γ => (gd (noBool e && chkV S e i && decide (Γ[i]? ≠ some true))).map fun _ => Γ
  | .con d, _, e, Γ => (gd (conOk d e)).map fun _ => Γ
  | .fn f es, S, e, Γ => (asCallN e).bind fun p => (S.T[f]?).bind fun fn => (gd (decide (fn.name = p.1) && isGl S p.1 && p.2.2.1.all noStar)).bind fun _ => (chkAs es fn.mu S p.2.2.1 Γ).bind fun Γ1 => (gd (muOk fn.mu es Γ1 && leG S.lk Γ1)).map fun _ => Γ1
  | .bi b es, S, e, Γ => (asCallN e).bind fun p => (btNm b).bind fun y => (gd (isBl S y p.1 && p.2.2.1.all noStar && !p.2.2.1.isEmpty)).bind fun _ => chkPs es S p.2.2.1 Γ
  | .isi k a, S, e, Γ => (asCallN e).bind fun p => (asTwo p.2.2.1).bind fun q => (asTyN q.2).bind fun n => (gd (isBl S "isinstance" p.1 && noStar q.1 && isBl S (k.nm : Str) n.1)).bind fun _ => chkE a S q.1 Γ
  | .chn o o' a b c, S, e, Γ => (asChain e).bind fun p => (gd (cmR o p.2.1 && cmR o' p.2.2.2.1 && !lastMarks [p.2.1, p.2.2.2.1] [p.2.2.1, p.2.2.2.2.1])).bind fun _ => (chkE a S p.1 Γ).bind fun Γ1 => (chkE b S p.2.2.1 Γ1).bind fun Γ2 => (chkE c S p.2.2.2.2.1 Γ2).bind fun Γ3 => (gd (leG Γ3 Γ2 && leG S.lk Γ3)).map fun _ => Γ3
  | _, _, _, _ => none
def chkI : I → SE → Expr → Expr → List Bool → Option (List Bool)
  | .seq t, S, _, e, Γ => chkE t S e Γ
  | .rng1 b, S, _, e, Γ => (asCallN e).bind fun p => (gd (isBl S "range" p.1)).bind fun _ => match p.2.2.1 with
    | [b'] => (gd (noStar b')).bind fun _ => chkE b S b' Γ
    | _ => none
  | .rng2 a b, S, _, e, Γ => (asCallN e).bind fun p => (gd (isBl S "range" p.1)).bind fun _ => match p.2.2.1 with
    | [a', b'] => (gd (noStar a' && noStar b')).bind fun _ => (chkE a S a' Γ).bind fun Γ1 => chkE b S b' Γ1
    | _ => none
  | .enum a, S, tg, e, Γ => (asCallN e).bind fun p => (gd (isBl S "enumerate" p.1 && isTupE tg)).bind fun _ => match p.2.2.1 with
    | [b'] => (gd (noStar b')).bind fun _ => chkE a S b' Γ
    | _ => none
  | .zip2 a b, S, tg, e, Γ => (asCallN e).bind fun p => (gd (isBl S "zip" p.1 && isTupE tg)).bind fun _ => match p.2.2.1 with
    | [a', b'] => (gd (noStar a' && noStar b')).bind fun _ => (chkE a S a' Γ).bind fun Γ1 => chkE b S b' Γ1
    | _ => none
  | .zip3 a b c, S, tg, e, Γ => (asCallN e).bind fun p => (gd (isBl S "zip" p.1 && isTupE tg)).bind fun _ => match p.2.2.1 with
    | [a', b', c'] => (gd (noStar a' && noStar b' && noStar c')).bind fun _ => (chkE a S a' Γ).bind fun Γ1 => (chkE b S b' Γ1).bind fun Γ2 => chkE c S c' Γ2
    | _ => none
  | .rev1 b, S, _, e, Γ => (asCallN e).bind fun q => (gd (isBl S "reversed" q.1)).bind fun _ => match q.2.2.1 with
    | [e'] => (asCallN e').bind fun p => (gd (isBl S "range" p.1)).bind fun _ => match p.2.2.1 with
      | [b'] => (gd (noStar b')).bind fun _ => chkE b S b' Γ
      | _ => none
    | _ => none
  | .rev2 _ _, _, _, _, _ => none
end
end VF

end
section
set_option Elab.async false
set_option linter.all false
set_option autoImplicit false
set_option maxRecDepth 100000
set_option maxHeartbeats 1000000
/-! VR: what the look grants: expressions. -/
namespace VF
open PySem PySem.Spec L2

/-- a def of the table, as it can be called -/
structure FnAt (X : Cx) (T : List Fn) (xc : Str → Option Addr) (m f : Nat) (fn : Fn) : Prop where
  ex : ∃ fa fd, X.mg fn.name = some (.ref fa) ∧ PySem.W.keepIn X.K (.ref fa) = true ∧ Binds X.K fd fn.ps [] ∧ FnG X.prog X.w X.K X.mg X.base m fa fd fn.ps (spC T X.K xc m f)
structure OkE (S : SE) (X : Cx) (w : Wd) (W : WX) (m : Nat) : Prop where
  hN : X.N = S.N
  nd : S.N.Nodup
  sc : X.env.scope = S.sc
  kd : S.sc.kind = .function
  fn : S.dfn = true → ∀ x, X.fn x = true
  oc : ∀ x ∈ S.oc, X.fn x = true
  hK : X.K = w.K
  calm : X.calm = true
  rm : Roomy X
  room : Room m X.A
  tk : Takes X W
  bl : ∀ x ∈ S.bl, X.mg x = none
  tb : ∀ f fn, S.T[f]? = some fn → FnAt X S.T w.xc m f fn
  wk : WdOk w
  lk : w.lk = S.lk
abbrev cxN (S : SE) (m : Nat) : Ctx := ctxN (callN S.T m) S.T
section
variable {S : SE} {X : Cx} {w : Wd} {W : WX} {m : Nat} {e : Expr} {Γ Γ' Γ1 Γ2 : List Bool}
theorem OkE.lkIn (ok : OkE S X w W m) (h : leG S.lk Γ = true) : LkIn w Γ := fun i p e => leG_get h i (by rw [← ok.lk]; exact (ok.wk.lkp i).mpr (by rw [e]; rfl))
theorem OkE.pa (ok : OkE S X w W m) {i : Nat} (h : S.lk[i]? ≠ some true) : w.pa i = none := by
  cases e : w.pa i with
  | none => rfl
  | some p => exact absurd (by rw [← ok.lk]; exact (ok.wk.lkp i).mpr (by rw [e]; rfl)) h
theorem plain_is {x : Str} (h : plainNm x = true) : (x == ("__debug__" : Str)) = false ∧ (x == ("__classdict__" : Str)) = false := by
  unfold plainNm at h
  simp only [Bool.and_eq_true, Bool.not_eq_true'] at h
  exact h
theorem chkV_ok (ok : OkE S X w W m) {i : Nat} (h : chkV S e i = true) : PE X e (tVar i) := by
  unfold chkV at h
  split at h
  · simp only [Bool.and_eq_true, Bool.or_eq_true, decide_eq_true_eq] at h
    obtain ⟨⟨h1, h2⟩, h3⟩ := h
    obtain ⟨h4, h5⟩ := plain_is h3
    refine pe_var (by rw [ok.hN]; exact h1) ?_ h4 h5
    unfold Vis
    rw [ok.sc]
    rcases h2 with (h2 | h2) | h2
    · exact .inl h2
    · exact .inr (.inl h2)
    · exact .inr (.inr h2)
  · cases h
theorem isGl_ok (ok : OkE S X w W m) {x : Str} (h : isGl S x = true) : Gl X x ∧ (x == ("__debug__" : Str)) = false := by
  unfold isGl at h
  simp only [Bool.and_eq_true, decide_eq_true_eq] at h
  refine ⟨?_, (plain_is h.2).1⟩
  show X.env.scope.names.lookup x = _
  rw [ok.sc]; exact h.1
theorem isBl_ok (ok : OkE S X w W m) {y x : Str} (h : isBl S y x = true) : x = y ∧ Gl X y ∧ X.mg y = none := by
  unfold isBl at h
  simp only [Bool.and_eq_true, decide_eq_true_eq] at h
  obtain ⟨⟨rfl, h2⟩, h3⟩ := h
  exact ⟨rfl, (isGl_ok ok h2).1, ok.bl _ h3⟩
theorem conOk_ok {d : D} (h : conOk d e = true) : JE X w W e Γ Γ (M.ret d) := by
  unfold conOk at h
  split at h
  · rw [decide_eq_true_eq] at h; subst h; exact JE.con pe_int fun B => .int
  · simp only [Bool.and_eq_true, decide_eq_true_eq] at h
    obtain ⟨rfl, h⟩ := h
    exact JE.con pe_str fun B => .str h
  · rw [decide_eq_true_eq] at h; subst h; exact JE.con pe_bl fun B => .bl
  · exact JE.con pe_non fun B => .non
  · cases h
def J2 (o : Bool) (X : Cx) (w : Wd) (W : WX) (e : Expr) (Γ Γ' : List Bool) (x : M D) : Prop := match o with
  | true => JO X w W e Γ Γ' x
  | false => JE X w W e Γ Γ' x
theorem JO.je {x : M D} (h : JO X w W e Γ Γ' x) : JE X w W e Γ Γ' x := PE.imp h fun σ H Q ⟨ρ, ow, r, q⟩ => by
  refine ⟨ρ, ow, r, ?_⟩
  cases e : x ρ with
  | none => rw [e] at q; exact q
  | some y =>
    rw [e] at q
    cases y with
    | ex e ρ1 => exact q
    | ok d ρ1 =>
      intro p ds vs H1 ow1 ed r1 nf n0 hp ra z s
      subst ed
      obtain ⟨r2, lv⟩ := r1.unplus
      refine q _ _ ow1 r2 (s.trans lv) (.lst (.of ?_) (ra.mono lv) (okLen_iff.mpr z))
      show hid _ _ _ = _
      rw [hid_out nf, hp]
theorem J2.je {o : Bool} {x : M D} (h : J2 o X w W e Γ Γ' x) : JE X w W e Γ Γ' x := by
  cases o with
  | true => exact JO.je h
  | false => exact h
theorem opG_ok (ok : OkE S X w W m) {t : E} {r : Option (List Bool)} {x : M D} (h : opG t S e Γ r = some Γ') (ih : r = some Γ' → JE X w W e Γ Γ' x) : JP X w W e Γ Γ' (opnd t x) := by
  cases t with
  | var i =>
    simp only [opG, Option.map_eq_some_iff, gd_some] at h
    obtain ⟨_, h, rfl⟩ := h
    exact JP.var (chkV_ok ok h)
  | _ => exact JE.opnd (ih h) fun i z => by cases z
theorem opR_ok {o : Op2} {p : Operator} (h : opR o p = true) (ho : o ≠ .cat) : OpR X (binaryOp p) (rD2 X.K (opD o)) := by
  unfold opR at h
  split at h
  · exact od_add
  · exact absurd rfl ho
  · exact od_sub
  · exact od_mul
  · exact od_fdiv
  · exact od_mod
  · exact od_pow
  · cases h
theorem cmR_ok (R : Roomy X) {o : Cm} {p : CmpOp} (h : cmR o p = true) : OpR X (compareOp p) (rD2 X.K (fun a b => (cmD o a b).map .bool)) := by
  unfold cmR at h
  split at h
  · exact od_eq R
  · exact od_ne R
  · exact od_lt R
  · exact od_le R
  · exact od_gt R
  · exact od_ge R
  · exact od_in R
  · exact od_nin R
  · cases h
theorem cat_list : ∀ a b d, opD .cat a b = some d → ∃ ds, d = .list ds := by
  intro a b d h
  cases a <;> cases b <;> simp [opD] at h
  exact ⟨_, h.2.symm⟩
theorem lst_list : ∀ as d, btD .list as = some d → ∃ ds, d = .list ds := by
  intro as d h
  unfold btD at h
  split at h <;> first | (exfalso; rename_i z; cases z; done) | (cases h; exact ⟨_, rfl⟩) | cases h
theorem lsS_list : ∀ as d, btD .listS as = some d → ∃ ds, d = .list ds := by
  intro as d h
  unfold btD at h
  split at h <;> first | (exfalso; rename_i z; cases z; done) | (cases h; exact ⟨_, rfl⟩) | cases h
theorem srt_list : ∀ as d, btD .sorted as = some d → ∃ ds, d = .list ds := by
  intro as d h
  unfold btD at h
  split at h <;> first | (exfalso; rename_i z; cases z; done) | (split at h <;> cases h; exact ⟨_, rfl⟩) | cases h
theorem isNoneE_is (h : isNoneE e = true) : ∃ j p, e = .Constant .none j p := by
  unfold isNoneE at h
  split at h
  · exact ⟨_, _, rfl⟩
  · cases h
/-! ### lemmas on tests -/
theorem JT.weak {x : M Bool} (h : JT X w W e Γ Γ1 x) (hl : Le Γ2 Γ1) (hk : LkIn w Γ2) : JT X w W e Γ Γ2 x :=
  PT.imp h fun σ H Q ⟨ρ, ow, r, q⟩ => ⟨ρ, ow, r, by
    cases e : x ρ with
    | none => rw [e] at q; exact q
    | some z =>
      rw [e] at q
      cases z with
      | ex e ρ1 => exact q
      | ok d ρ1 => exact fun b H1 ow1 r1 s1 rs => let ⟨ow2, r2, s2⟩ := r1.weak hl hk; q b H1 ow2 r2 (s1.trans s2) rs⟩
theorem J2.weak {x : M D} {o : Bool} (h : JE X w W e Γ Γ1 x) (hl : Le Γ2 Γ1) (hk : LkIn w Γ2) : JE X w W e Γ Γ2 x := h.weak hl hk
theorem JW.of {x : M Bool} {op : BoolOp} {es : List Expr} {p : Pos} (h : JT X w W (.BoolOp op es p) Γ Γ1 x) : JW X w W (.BoolOp op es p) Γ Γ1 x :=
  ⟨fun wh pins s σ H Q I q => h.run pins s σ H Q I q⟩
variable {a b : Expr} {rest : List Expr} {pos : Pos} {x y : M Bool} {u v : M D}
theorem JT.andW (h : JT X w W a Γ Γ1 x) (g : JW X w W (.BoolOp .And (b :: rest) pos) Γ1 Γ2 y) (hl : Le Γ2 Γ1) (hk : LkIn w Γ2) : JT X w W (.BoolOp .And (a :: b :: rest) pos) Γ Γ2 (andM x y) :=
  PT.imp (pw_and h g).pt fun σ H Q ⟨ρ, ow, r, q⟩ => ⟨ρ, ow, r, post_bnd q fun d ρ1 v H1 ow1 _ q r1 s1 rs => by
    obtain rfl : v = d := rs
    cases v with
    | false => exact iteF (let ⟨ow2, r2, s2⟩ := r1.weak hl hk; q false H1 ow2 r2 (s1.trans s2) rfl)
    | true => exact iteT ⟨ρ1, ow1, r1, post_base s1 q⟩⟩
theorem JT.orW (h : JT X w W a Γ Γ1 x) (g : JW X w W (.BoolOp .Or (b :: rest) pos) Γ1 Γ2 y) (hl : Le Γ2 Γ1) (hk : LkIn w Γ2) : JT X w W (.BoolOp .Or (a :: b :: rest) pos) Γ Γ2 (orM x y) :=
  PT.imp (pw_or h g).pt fun σ H Q ⟨ρ, ow, r, q⟩ => ⟨ρ, ow, r, post_bnd q fun d ρ1 v H1 ow1 _ q r1 s1 rs => by
    obtain rfl : v = d := rs
    cases v with
    | true => exact iteT (let ⟨ow2, r2, s2⟩ := r1.weak hl hk; q true H1 ow2 r2 (s1.trans s2) rfl)
    | false => exact iteF ⟨ρ1, ow1, r1, post_base s1 q⟩⟩
theorem JE.andW (h : JE X w W a Γ Γ1 u) (g : JE X w W (.BoolOp .And (b :: rest) pos) Γ1 Γ2 v) (hl : Le Γ2 Γ1) (hk : LkIn w Γ2) : JE X w W (.BoolOp .And (a :: b :: rest) pos) Γ Γ2 (M.bnd (M.bnd u asB) fun c => if c then M.bnd (M.bnd v asB) fun c => M.ret (.bool c) else M.ret (.bool false)) :=
  PE.imp (pe_and (tM_asB h) (tM_asB g)) fun σ H Q ⟨ρ, ow, r, q⟩ => ⟨ρ, ow, r, post_bnd q fun d ρ1 v H1 ow1 _ q r1 s1 rs => ⟨d, rs, by
    cases d with
    | false => exact iteF (let ⟨ow2, r2, s2⟩ := r1.weak hl hk; q _ H1 ow2 r2 (s1.trans s2) .bl)
    | true => exact iteT ⟨ρ1, ow1, r1, post_bnd (post_base s1 q) fun d ρ2 v H2 ow2 _ q r2 s2 rs2 => by
        rw [rs2]; exact q _ H2 ow2 r2 s2 .bl⟩⟩⟩
theorem JE.orW (h : JE X w W a Γ Γ1 u) (g : JE X w W (.BoolOp .Or (b :: rest) pos) Γ1 Γ2 v) (hl : Le Γ2 Γ1) (hk : LkIn w Γ2) : JE X w W (.BoolOp .Or (a :: b :: rest) pos) Γ Γ2 (M.bnd (M.bnd u asB) fun c => if c then M.ret (.bool true) else M.bnd (M.bnd v asB) fun c => M.ret (.bool c)) :=
  PE.imp (pe_or (tM_asB h) (tM_asB g)) fun σ H Q ⟨ρ, ow, r, q⟩ => ⟨ρ, ow, r, post_bnd q fun d ρ1 v H1 ow1 _ q r1 s1 rs => ⟨d, rs, by
    cases d with
    | true => exact iteT (let ⟨ow2, r2, s2⟩ := r1.weak hl hk; q _ H1 ow2 r2 (s1.trans s2) .bl)
    | false => exact iteF ⟨ρ1, ow1, r1, post_bnd (post_base s1 q) fun d ρ2 v H2 ow2 _ q r2 s2 rs2 => by
        rw [rs2]; exact q _ H2 ow2 r2 s2 .bl⟩⟩⟩
/-! ### whether two are shown alike -/
def eqM (x y : M D) : M D := M.bnd x fun u => if shwOk u then M.bnd y fun v => if shwOk v then M.ret (.bool (decide (PyData.shown u = PyData.shown v))) else fun _ => none else fun _ => none
def rRepr (K : PySem.W.Frag) : List V → Hp → VK → Prop := fun xs H Q => ∃ B x d, xs = [x] ∧ Same B H ∧ RpT K H B x d ∧ SeqAt.shaped d = true ∧ d.showable = true ∧ d.shown.length ≤ sizeLine ∧ Q (.str d.shown) H
theorem shwOk_is {d : D} (h : shwOk d = true) : SeqAt.shaped d = true ∧ d.showable = true ∧ d.shown.length ≤ sizeLine := by
  unfold shwOk at h
  simp only [Bool.and_eq_true] at h
  exact ⟨h.1.1, h.1.2, okLen_iff.mp h.2⟩
theorem str_eq {a b : Str} : decide (V.str a = V.str b) = decide (a = b) := by simp
theorem eqR_sem (hK : X.K = w.K) (σ : L2.St) (H : Hp) (Q : VK) (h : tM w W Γ Γ2 (RD w) (eqM u v) σ H Q) :
    tOp rEq (tCB (rRepr X.K) (tCons (tM w W Γ Γ1 (RD w) u) tNil)) (tCB (rRepr X.K) (tCons (tM w W Γ1 Γ2 (RD w) v) tNil)) σ H Q := by
  obtain ⟨ρ, ow, r, q⟩ := h
  refine ⟨ρ, ow, r, post_bnd q fun d ρ1 x H1 ow1 _ q r1 s1 rs => ?_⟩
  cases h1 : shwOk d with
  | false => rw [h1] at q; exact q.elim
  | true =>
    rw [h1] at q
    obtain ⟨a1, a2, a3⟩ := shwOk_is h1
    have rs : Rp w.K (vis w ow1 H1) x d := rs
    refine ⟨_, x, d, rfl, vis_le, by rw [hK]; exact .inl rs, a1, a2, a3, ρ1, ow1, r1, post_bnd (post_base s1 q) fun c ρ2 y H2 ow2 _ q r2 s2 rs2 => ?_⟩
    cases h2 : shwOk c with
    | false => rw [h2] at q; exact q.elim
    | true =>
      rw [h2] at q
      obtain ⟨b1, b2, b3⟩ := shwOk_is h2
      have rs2 : Rp w.K (vis w ow2 H2) y c := rs2
      refine ⟨_, y, c, rfl, vis_le, by rw [hK]; exact .inl rs2, b1, b2, b3, rfl, ?_⟩
      rw [str_eq]
      exact q _ H2 ow2 r2 s2 .bl
variable {p1 p2 p3 p4 : Pos}
theorem reprC (ok : OkE S X w W m) (hg : Gl X "repr") (hm : X.mg "repr" = none) (h : JE X w W a Γ Γ1 u) (hs : noStar a = true) : PE X (.Call (.Name "repr" p1) [a] [] p2) (tCB (rRepr X.K) (tCons (tM w W Γ Γ1 (RD w) u) tNil)) :=
  pe_callB (bd_repr ok.rm) hg hm rfl (pa_cons h pa_nil (star_cons hs)) (by decide) (by decide) (star_cons hs) rfl
theorem JE.eqR (ok : OkE S X w W m) (hg : Gl X "repr") (hm : X.mg "repr" = none) (h : JE X w W a Γ Γ1 u) (g : JE X w W b Γ1 Γ2 v) (ha : noStar a = true) (hb : noStar b = true) :
    JE X w W (.Compare (.Call (.Name "repr" p1) [a] [] p2) [.Eq] [.Call (.Name "repr" p3) [b] [] p4] pos) Γ Γ2 (eqM u v) :=
  PE.imp (pe_cmpR op_eq (reprC ok hg hm h ha) (reprC ok hg hm g hb) rfl) (eqR_sem ok.hK)
theorem JT.eqR (ok : OkE S X w W m) (hg : Gl X "repr") (hm : X.mg "repr" = none) (h : JE X w W a Γ Γ1 u) (g : JE X w W b Γ1 Γ2 v) (ha : noStar a = true) (hb : noStar b = true) :
    JT X w W (.Compare (.Call (.Name "repr" p1) [a] [] p2) [.Eq] [.Call (.Name "repr" p3) [b] [] p4] pos) Γ Γ2 (M.bnd (eqM u v) asB) :=
  JT.of_tB (pt_cmpR op_eq (reprC ok hg hm h ha) (reprC ok hg hm g hb) rfl) (eqR_sem ok.hK)
end
end VF

end
section
set_option Elab.async false
set_option linter.all false
set_option autoImplicit false
set_option maxRecDepth 100000
set_option maxHeartbeats 4000000
/-! VS: what the look grants: the recursion. -/
namespace VF
open PySem PySem.Spec L2
section
variable {S : SE} {X : Cx} {w : Wd} {W : WX} {m : Nat}
theorem blk_ok (ok : OkE S X w W m) {scope : Scope} {p : Addr} {o : HO} (s : Shared) (H : Hp) (C : Addr) (cl : List (Str × Addr)) (fp : List Addr) (hk : scope.kind = .function) :
    OkE (S.blk scope) (X.blk s H scope (compEnvC scope cl C X.env) fp) (w.pin p o) (fun _ _ _ _ => False) m where
  hN := ok.hN
  nd := ok.nd
  sc := by
    show relS scope X.env.scope = relS scope S.sc
    rw [ok.sc]
  kd := hk
  fn := fun z => by cases z
  oc := fun x hx => (List.mem_filter.mp hx).2
  hK := ok.hK
  calm := ok.calm
  rm := ⟨ok.rm.un, ok.rm.gd⟩
  room := ok.room
  tk := fun _ _ x => by obtain ⟨a, B, sI, pins, σ, H, cls, d, e, I, nb, up, sky, na, os, ag, w⟩ := x; exact w.elim
  bl := ok.bl
  tb := fun f fn h => ⟨(ok.tb f fn h).ex⟩
  wk := ok.wk.pin
  lk := ok.lk
theorem blkC_kind {N : List Str} {sc scope : Scope} {own : List (Str × Nat)} (h : blkC N sc scope own = true) : scope.kind = .function := (blkOk_by h).kind
mutual
theorem chkG_ok : ∀ (t : Tg) {S : SE} {X : Cx} {w : Wd} {W : WX} {m : Nat} {e : Expr} {Γ Γ' : List Bool}, OkE S X w W m → chkG t S e Γ = some Γ' → JG X w e Γ Γ' (slotsT t) (bindT t) ∧ noStar e = true
  | .nm i, S, X, w, W, m, e, Γ, Γ', ok, h => by
    cases e with
    | Name x p =>
      simp only [chkG, Option.map_eq_some_iff, gd_some, Bool.and_eq_true, Bool.or_eq_true, decide_eq_true_eq] at h
      obtain ⟨_, ⟨⟨h1, h2⟩, h3⟩, rfl⟩ := h
      have hl : L2.Loc X.env.scope x := by
        unfold L2.Loc
        rw [ok.sc]
        rcases h2 with h2 | h2
        · exact .inl h2
        · exact .inr h2.2
      refine ⟨JG.nm (pg_name (by rw [ok.hN]; exact ok.nd) (by rw [ok.hN]; exact h1) hl ?_) (ok.pa h3), rfl⟩
      rcases h2 with h2 | h2
      · right; rw [ok.sc]; exact h2
      · exact .inl (h2.1.elim (fun z => ok.fn z x) fun z => ok.oc x z)
    | _ => simp [chkG] at h
  | .tp ts, S, X, w, W, m, e, Γ, Γ', ok, h => by
    cases e with
    | Tuple es k p =>
      simp only [chkG] at h
      obtain ⟨h1, h2, h3⟩ := chkGs_ok ts ok h
      exact ⟨JG.tp ok.hK ok.calm h1 h2 h3, rfl⟩
    | _ => simp [chkG] at h
theorem chkGs_ok : ∀ (ts : List Tg) {S : SE} {X : Cx} {w : Wd} {W : WX} {m : Nat} {es : List Expr} {Γ Γ' : List Bool}, OkE S X w W m → chkGs ts S es Γ = some Γ' →
    JGs X w es Γ Γ' (slotsTs ts) (bindTs ts) ∧ (assignEach es X.env).length = ts.length ∧ (assignEach es X.env).findIdx? (·.1) = none
  | [], S, X, w, W, m, es, Γ, Γ', ok, h => by
    cases es with
    | nil => simp only [chkGs] at h; cases h; exact ⟨JGs.nil, rfl, rfl⟩
    | cons => simp [chkGs] at h
  | t :: ts, S, X, w, W, m, es, Γ, Γ', ok, h => by
    cases es with
    | nil => simp [chkGs] at h
    | cons e es =>
      simp only [chkGs, Option.bind_eq_some_iff] at h
      obtain ⟨Γ1, h1, h2⟩ := h
      obtain ⟨a, hs⟩ := chkG_ok t ok h1
      obtain ⟨b, c, d⟩ := chkGs_ok ts ok h2
      have e1 : assignEach (e :: es) X.env = (false, assign e X.env) :: assignEach es X.env := by
        cases e <;> first | rfl | cases hs
      refine ⟨JGs.cons a b (by rw [e1]; rfl), by rw [e1]; simp [c], ?_⟩
      rw [e1, List.findIdx?_cons]
      simp [d]
end
end
end VF

end
section
set_option Elab.async false
set_option linter.all false
set_option autoImplicit false
set_option maxRecDepth 100000
set_option maxHeartbeats 4000000
/-! VT: what the look grants: the recursion over expressions. -/
namespace VF
open PySem PySem.Spec L2
section
variable {X : Cx} {w : Wd} {W : WX} {Γ Γ1 Γ2 Γ3 : List Bool} {a b c : Expr} {p p2 pos : Pos}
/-! ### a < b < c -/
theorem chn_in {o o' : Cm} {x y z : M D} (wk : WdOk w) {ta tb tc : TE} (hta : ∀ σ H Q, tM w W Γ Γ1 (RD w) x σ H Q → ta σ H Q) (htb : ∀ σ H Q, tM w W Γ1 Γ2 (RD w) y σ H Q → tb σ H Q) (htc : ∀ σ H Q, tM w W Γ2 Γ3 (RD w) z σ H Q → tc σ H Q) (hl : Le Γ3 Γ2) (hk : LkIn w Γ3) (σ : L2.St) (H : Hp) (Q : VK)
    (h : tM w W Γ Γ3 (RD w) (M.bnd x fun x => M.bnd y fun y => M.bnd (M.lift (cmD o x y)) fun t => if t then M.bnd z fun z => M.lift ((cmD o' y z).map .bool) else M.ret (.bool false)) σ H Q) :
    tChain (rD2 w.K fun a b => (cmD o a b).map .bool) (rD2 w.K fun a b => (cmD o' a b).map .bool) ta tb tc σ H Q := by
  obtain ⟨ρ, ow, r, q⟩ := h
  refine hta _ _ _ ⟨ρ, ow, r, post_bnd q fun dx ρ1 vx H1 ow1 _ q r1 s1 rx => htb _ _ _ ⟨ρ1, ow1, r1, post_bnd q fun dy ρ2 vy H2 ow2 _ q r2 s2 ry => ?_⟩⟩
  cases e : cmD o dx dy with
  | none => rw [e] at q; exact q.elim
  | some k =>
    rw [e] at q
    refine ⟨vis w ow2 H2, dx, dy, .bool k, vis_le, .inl (Rp.mono rx s2), .inl ry, by simp [e], fin_bool ⟨k, rfl, ?_⟩⟩
    cases k with
    | false =>
      rw [if_neg (by simp)]
      obtain ⟨ow3, r3, s3⟩ := r2.weak hl hk
      exact q _ H2 ow3 r3 (s1.trans (s2.trans s3)) .bl
    | true =>
      rw [if_pos rfl]
      have q : Post w W Γ3 (RD w) (vis w ow H) ((M.bnd z fun z => M.lift ((cmD o' dy z).map .bool)) ρ2) σ Q := q
      refine htc _ _ _ ⟨ρ2, ow2, r2, post_bnd q fun dz ρ3 vz H3 ow3 _ q r3 s3 rz => ?_⟩
      obtain ⟨d, e2, f⟩ := post_fin wk r3 (s1.trans (s2.trans s3)) q
      exact ⟨_, dy, dz, d, vis_le, .inl (Rp.mono ry s3), .inl rz, e2, f⟩
theorem JE.chn {o o' : Cm} {op op' : CmpOp} (wk : WdOk w) (hK : X.K = w.K) (ho : OpR X (compareOp op) (rD2 X.K fun a b => (cmD o a b).map .bool)) (ho' : OpR X (compareOp op') (rD2 X.K fun a b => (cmD o' a b).map .bool)) {x y z : M D} (ha : JE X w W a Γ Γ1 x) (hb : JE X w W b Γ1 Γ2 y) (hc : JE X w W c Γ2 Γ3 z)
    (hm : lastMarks [op, op'] [b, c] = false) (hl : Le Γ3 Γ2) (hk : LkIn w Γ3) :
    JE X w W (.Compare a [op, op'] [b, c] pos) Γ Γ3 (M.bnd x fun x => M.bnd y fun y => M.bnd (M.lift (cmD o x y)) fun t => if t then M.bnd z fun z => M.lift ((cmD o' y z).map .bool) else M.ret (.bool false)) := by
  rw [hK] at ho ho'
  exact PE.imp (pe_chain ho ho' ha hb hc hm) fun σ H Q h => chn_in wk (fun _ _ _ h => h) (fun _ _ _ h => h) (fun _ _ _ h => h) hl hk σ H Q h
theorem JT.chn {o o' : Cm} {op op' : CmpOp} (wk : WdOk w) (hK : X.K = w.K) (ho : OpR X (compareOp op) (rD2 X.K fun a b => (cmD o a b).map .bool)) (ho' : OpR X (compareOp op') (rD2 X.K fun a b => (cmD o' a b).map .bool)) {x y z : M D} (ha : JE X w W a Γ Γ1 x) (hb : JE X w W b Γ1 Γ2 y) (hc : JE X w W c Γ2 Γ3 z)
    (hm : lastMarks [op, op'] [b, c] = false) (hl : Le Γ3 Γ2) (hk : LkIn w Γ3) :
    JT X w W (.Compare a [op, op'] [b, c] pos) Γ Γ3 (M.bnd (M.bnd x fun x => M.bnd y fun y => M.bnd (M.lift (cmD o x y)) fun t => if t then M.bnd z fun z => M.lift ((cmD o' y z).map .bool) else M.ret (.bool false)) asB) := by
  rw [hK] at ho ho'
  exact JT.of_tB (pt_chain ho ho' ha hb hc hm) fun σ H Q h => chn_in wk (fun _ _ _ h => h) (fun _ _ _ h => h) (fun _ _ _ h => h) hl hk σ H Q h
end
section
variable {S : SE} {X : Cx} {w : Wd} {W : WX} {m : Nat} {es : List Expr} {Γ Γ' Γ1 : List Bool} {e : Expr} {p pos : Pos} {y : M (List Pd)}
/-- builtins -/
theorem bt_ok (ok : OkE S X w W m) {b : Bt} {x y : Str} (hb : btNm b = some y) (hi : isBl S y x = true) (hn : b ≠ .list) (hn2 : b ≠ .sorted) (hn3 : b ≠ .listS) (hs : es.all noStar = true) (he : es.isEmpty = false) {t : TA} (ha : PA X es t) : PE X (.Call (.Name x p) es [] pos) (tCB (rDC X.K (btD b)) t) := by
  obtain ⟨rfl, hg, hm⟩ := isBl_ok ok hi
  cases es with
  | nil => cases he
  | cons e es =>
    rw [List.all_cons, Bool.and_eq_true] at hs
    have h1 := star_cons (es := es) (env := X.env) hs.1
    have h2 := star_none (env := X.env) (pos := pos) hs.2
    cases b <;> simp [btNm] at hb <;> subst hb
    · exact pe_callB bd_len hg hm rfl ha (by decide) (by decide) h1 h2
    · exact pe_callTy bd_int hg hm rfl ha (by decide) (by decide) h1 h2
    · exact pe_callTy bd_str hg hm rfl ha (by decide) (by decide) h1 h2
    · exact pe_callTy bd_tuple hg hm rfl ha (by decide) (by decide) h1 h2
    · exact absurd rfl hn
    · exact absurd rfl hn3
    · exact absurd rfl hn2
    · exact pe_callB (bd_sum ok.calm) hg hm rfl ha (by decide) (by decide) h1 h2
    · exact pe_callB (bd_min ok.calm) hg hm rfl ha (by decide) (by decide) h1 h2
    · exact pe_callB (bd_max ok.calm) hg hm rfl ha (by decide) (by decide) h1 h2
    · exact pe_callB (bd_min2 ok.calm) hg hm rfl ha (by decide) (by decide) h1 h2
    · exact pe_callB (bd_max2 ok.calm) hg hm rfl ha (by decide) (by decide) h1 h2
    · exact pe_callB bd_abs hg hm rfl ha (by decide) (by decide) h1 h2
    · exact pe_callB (bd_any ok.calm) hg hm rfl ha (by decide) (by decide) h1 h2
    · exact pe_callB (bd_all ok.calm) hg hm rfl ha (by decide) (by decide) h1 h2
theorem bl_ok (ok : OkE S X w W m) {x : Str} (hi : isBl S "list" x = true) (hs : es.all noStar = true) (he : es.isEmpty = false) {t : TA} (ha : PA X es t) : PE X (.Call (.Name x p) es [] pos) (tCB (rDCO X.K (btD .list)) t) := by
  obtain ⟨rfl, hg, hm⟩ := isBl_ok ok hi
  cases es with
  | nil => cases he
  | cons e es =>
    rw [List.all_cons, Bool.and_eq_true] at hs
    exact pe_callTy bd_list hg hm rfl ha (by decide) (by decide) (star_cons hs.1) (star_none hs.2)
theorem bls_ok (ok : OkE S X w W m) {x : Str} (hi : isBl S "list" x = true) (hs : es.all noStar = true) (he : es.isEmpty = false) {t : TA} (ha : PA X es t) : PE X (.Call (.Name x p) es [] pos) (tCB (rDCO X.K (btD .listS)) t) := by
  obtain ⟨rfl, hg, hm⟩ := isBl_ok ok hi
  cases es with
  | nil => cases he
  | cons e es =>
    rw [List.all_cons, Bool.and_eq_true] at hs
    exact pe_callTy (bd_listS ok.calm) hg hm rfl ha (by decide) (by decide) (star_cons hs.1) (star_none hs.2)
theorem bs_ok (ok : OkE S X w W m) {x : Str} (hi : isBl S "sorted" x = true) (hs : es.all noStar = true) (he : es.isEmpty = false) {t : TA} (ha : PA X es t) : PE X (.Call (.Name x p) es [] pos) (tCB (rDCO X.K (btD .sorted)) t) := by
  obtain ⟨rfl, hg, hm⟩ := isBl_ok ok hi
  cases es with
  | nil => cases he
  | cons e es =>
    rw [List.all_cons, Bool.and_eq_true] at hs
    exact pe_callB (bd_sorted ok.rm) hg hm rfl ha (by decide) (by decide) (star_cons hs.1) (star_none hs.2)
/-- a method of a text -/
theorem few_ok {o : Expr} {es : List Expr} {cpos : Pos} {env : Env} (hs : es.all noStar = true) (hl : es.length < 30) :
    ((backTo cpos (starEach es env)).all (fun x => !x.1) && (backToKw cpos (keywordEach [] env)).all (fun x => x.1.isSome)
      && decide (es.length + ([] : List Keyword).length + (if ([] : List Keyword).isEmpty then 0 else 1) < 30)) = true := by
  rw [star_all hs]
  show (true && true && decide (es.length + 0 + 0 < 30)) = true
  simp [hl]
theorem join_ok (ok : OkE S X w W m) {x : Str} (hx : x = "join") {o : Expr} (ho : noSuper o = true) (hs : es.all noStar = true) (he : es.isEmpty = false) (hl : es.length < 30) (hli : (p.endLine == pos.line) = true) {u : M D} (h1 : JE X w W o Γ Γ1 u) (h2 : JPs X w W es Γ1 Γ' y) :
    JE X w W (.Call (.Attribute o x p) es [] pos) Γ Γ' (M.bnd u fun x => if mtOk .join x then M.bnd y fun ps => M.bnd (rdPs ps) fun ds => M.lift (mtD .join x ds) else fun _ => none) := by
  subst hx
  cases es with
  | nil => cases he
  | cons e es =>
    have hs' := hs
    rw [List.all_cons, Bool.and_eq_true] at hs
    refine JE.me ok.wk ok.hK (T := "str") (fun B H v d s r z => ?_) (fun {to ta} ho' ha' => pe_bm PySem.F.plainAttrs_str PySem.F.slot_str_join PySem.F.type_str_join md_join ho' ha' (noSuper_is ho) (few_ok (o := o) hs' hl) hli (star_cons hs.1) (star_none hs.2)) h1 h2
    cases d <;> simp [mtOk] at z
    exact tyStr r
/-- methods that change -/
theorem mu_ok (ok : OkE S X w W m) {mm : Mm} {x z : Str} (hb : mmNm mm = some z) (hx : x = z) {o : Expr} {i : Nat} (ho : chkV S o i = true) (hs : es.all noStar = true) (hl : es.length < 30) (hli : (p.endLine == pos.line) = true) {ys : M (List D)} (hg : Γ1[i]? = some true) (h2 : JEs X w W es Γ Γ1 ys) (hnil : es = [] → Γ = Γ1 ∧ ys = M.ret []) :
    JE X w W (.Call (.Attribute o x p) es [] pos) Γ Γ1 (fun ρ0 => match ρ0[i]? with
    | some (some (.list _)) => M.bnd ys (fun ds ρ => match ρ[i]? with
      | some (some (.list xs)) => match mmD mm xs ds with
        | some (y, xs') => some (.ok y (ρ.set i (some (.list xs'))))
        | none => none
      | _ => none) ρ0
    | _ => none) := by
  subst hx
  have hv := chkV_ok ok ho
  have hsu : noSuper o = true := by
    unfold chkV at ho
    split at ho
    · rfl
    · cases ho
  cases es with
  | nil =>
    obtain ⟨rfl, rfl⟩ := hnil rfl
    cases mm <;> simp [mmNm] at hb <;> subst hb
    · exact JE.mu0 ok.wk ok.hK hg mm_append (pe_bm0 PySem.F.plainAttrs_list PySem.F.slot_list_append PySem.F.type_list_append mt_append hv (noSuper_is hsu) hli)
    · exact JE.mu0 ok.wk ok.hK hg mm_pop (pe_bm0 PySem.F.plainAttrs_list PySem.F.slot_list_pop PySem.F.type_list_pop mt_pop hv (noSuper_is hsu) hli)
    · exact JE.mu0 ok.wk ok.hK hg mm_reverse (pe_bm0 PySem.F.plainAttrs_list PySem.F.slot_list_reverse PySem.F.type_list_reverse mt_reverse hv (noSuper_is hsu) hli)
    · exact JE.mu0 ok.wk ok.hK hg mm_insert (pe_bm0 PySem.F.plainAttrs_list PySem.F.slot_list_insert PySem.F.type_list_insert mt_insert hv (noSuper_is hsu) hli)
    · exact JE.mu0 ok.wk ok.hK hg mm_clear (pe_bm0 PySem.F.plainAttrs_list PySem.F.slot_list_clear PySem.F.type_list_clear mt_clear hv (noSuper_is hsu) hli)
  | cons e es =>
    have hs' := hs
    rw [List.all_cons, Bool.and_eq_true] at hs
    have h3 := star_cons (es := es) (env := X.env) hs.1
    have h4 := star_none (env := X.env) (pos := pos) hs.2
    have h5 := few_ok (o := o) (cpos := pos) (env := X.env) hs' hl
    cases mm <;> simp [mmNm] at hb <;> subst hb
    · exact JE.mu ok.wk ok.hK hg mm_append (fun {ta} ha => pe_bm PySem.F.plainAttrs_list PySem.F.slot_list_append PySem.F.type_list_append mt_append hv ha (noSuper_is hsu) h5 hli h3 h4) h2
    · exact JE.mu ok.wk ok.hK hg mm_pop (fun {ta} ha => pe_bm PySem.F.plainAttrs_list PySem.F.slot_list_pop PySem.F.type_list_pop mt_pop hv ha (noSuper_is hsu) h5 hli h3 h4) h2
    · exact JE.mu ok.wk ok.hK hg mm_reverse (fun {ta} ha => pe_bm PySem.F.plainAttrs_list PySem.F.slot_list_reverse PySem.F.type_list_reverse mt_reverse hv ha (noSuper_is hsu) h5 hli h3 h4) h2
    · exact JE.mu ok.wk ok.hK hg mm_insert (fun {ta} ha => pe_bm PySem.F.plainAttrs_list PySem.F.slot_list_insert PySem.F.type_list_insert mt_insert hv ha (noSuper_is hsu) h5 hli h3 h4) h2
    · exact JE.mu ok.wk ok.hK hg mm_clear (fun {ta} ha => pe_bm PySem.F.plainAttrs_list PySem.F.slot_list_clear PySem.F.type_list_clear mt_clear hv ha (noSuper_is hsu) h5 hli h3 h4) h2
/-- the shape of what is handed to a def -/
theorem evAs_shape {c : Ctx} : ∀ {es : List E} {ms : List Bool} {ρ ρ' : Rho} {ps : List Pd} {l : List Nat}, evAs c ms es ρ = some (.ok ps ρ') → ownIx ms es = some l →
    (∀ (j : Nat) (pd : Pd), ps[j]? = some pd → (ms[j]? = some true ∧ ∃ i, pd = .s i ∧ i ∈ l) ∨ (ms[j]? ≠ some true ∧ ∃ d, pd = .d d)) ∧ (l.Nodup → ∀ (j k i : Nat), ps[j]? = some (Pd.s i) → ps[k]? = some (Pd.s i) → j = k)
  | [], ms, ρ, ρ', ps, l, h, hl => by
    have h : (M.ret [] : M (List Pd)) ρ = some (.ok ps ρ') := by
      cases ms with
      | nil => exact h
      | cons b ms => cases b <;> exact h
    cases h
    exact ⟨fun j pd h => by simp at h, fun _ j k i h => by simp at h⟩
  | e :: es, true :: ms, ρ, ρ', ps, l, h, hl => by
    cases e with
    | var i =>
      simp only [ownIx, Option.map_eq_some_iff] at hl
      obtain ⟨l', hl, rfl⟩ := hl
      have h : M.bnd (opnd (.var i) (evE c (.var i))) (fun d => M.bnd (evAs c ms es) fun ds => M.ret (d :: ds)) ρ = some (.ok ps ρ') := h
      have hr : opnd (.var i) (evE c (.var i)) ρ = (match ρ[i]? with | some (some _) => some (.ok (.s i) ρ) | _ => none) := rfl
      unfold M.bnd at h
      rw [hr] at h
      cases e0 : ρ[i]? with
      | none => rw [e0] at h; cases h
      | some o =>
        cases o with
        | none => rw [e0] at h; cases h
        | some d =>
          rw [e0] at h
          have h : M.bnd (evAs c ms es) (fun ds => M.ret (Pd.s i :: ds)) ρ = some (.ok ps ρ') := h
          unfold M.bnd at h
          cases e1 : evAs c ms es ρ with
          | none => rw [e1] at h; cases h
          | some z =>
            rw [e1] at h
            cases z with
            | ex e ρ1 => cases h
            | ok qs ρ1 =>
              cases h
              obtain ⟨a, b⟩ := evAs_shape e1 hl
              refine ⟨fun j pd hj => ?_, fun hn j k i2 hj hk => ?_⟩
              · cases j with
                | zero =>
                  have : Pd.s i = pd := by simpa using hj
                  exact .inl ⟨rfl, i, this.symm, List.mem_cons_self⟩
                | succ j =>
                  rcases a j pd (by simpa using hj) with ⟨x1, i2, x2, x3⟩ | ⟨x1, x2⟩
                  · exact .inl ⟨by simp only [List.getElem?_cons_succ]; exact x1, i2, x2, List.mem_cons_of_mem _ x3⟩
                  · exact .inr ⟨by simp only [List.getElem?_cons_succ]; exact x1, x2⟩
              · obtain ⟨n1, n2⟩ := List.nodup_cons.mp hn
                have inl : ∀ (j : Nat) (pd : Pd), qs[j]? = some pd → ∀ i3, pd = .s i3 → i3 ∈ l' := fun j pd hj i3 e3 => by
                  rcases a j pd hj with ⟨_, i4, x2, x3⟩ | ⟨_, d, x2⟩
                  · rw [e3] at x2; cases x2; exact x3
                  · rw [e3] at x2; cases x2
                cases j with
                | zero =>
                  have e3 : i = i2 := by simpa using hj
                  subst e3
                  cases k with
                  | zero => rfl
                  | succ k => exact absurd (inl k _ (by simpa using hk) i rfl) n1
                | succ j =>
                  cases k with
                  | zero =>
                    have e3 : i = i2 := by simpa using hk
                    subst e3
                    exact absurd (inl j _ (by simpa using hj) i rfl) n1
                  | succ k => rw [b n2 j k i2 (by simpa using hj) (by simpa using hk)]
    | _ => simp [ownIx] at hl
  | e :: es, false :: ms, ρ, ρ', ps, l, h, hl => by
    have hl : ownIx ms es = some l := hl
    have h : M.bnd (evE c e) (fun d => M.bnd (evAs c ms es) fun ds => M.ret (Pd.d d :: ds)) ρ = some (.ok ps ρ') := h
    unfold M.bnd at h
    cases e0 : evE c e ρ with
    | none => rw [e0] at h; cases h
    | some z =>
      rw [e0] at h
      cases z with
      | ex e ρ1 => cases h
      | ok d ρ1 =>
        have h : M.bnd (evAs c ms es) (fun ds => M.ret (Pd.d d :: ds)) ρ1 = some (.ok ps ρ') := h
        unfold M.bnd at h
        cases e1 : evAs c ms es ρ1 with
        | none => rw [e1] at h; cases h
        | some z =>
          rw [e1] at h
          cases z with
          | ex e ρ1 => cases h
          | ok qs ρ1 =>
            cases h
            obtain ⟨a, b⟩ := evAs_shape e1 hl
            refine ⟨fun j pd hj => ?_, fun hn j k i2 hj hk => ?_⟩
            · cases j with
              | zero =>
                have : Pd.d d = pd := by simpa using hj
                exact .inr ⟨by simp, d, this.symm⟩
              | succ j =>
                rcases a j pd (by simpa using hj) with ⟨x1, i2, x2, x3⟩ | ⟨x1, x2⟩
                · exact .inl ⟨by simp only [List.getElem?_cons_succ]; exact x1, i2, x2, x3⟩
                · exact .inr ⟨by simp only [List.getElem?_cons_succ]; exact x1, x2⟩
            · cases j with
              | zero => simp at hj
              | succ j =>
                cases k with
                | zero => simp at hk
                | succ k => rw [b hn j k i2 (by simpa using hj) (by simpa using hk)]
  | e :: es, [], ρ, ρ', ps, l, h, hl => by
    have h : M.bnd (evE c e) (fun d => M.bnd (evAs c [] es) fun ds => M.ret (Pd.d d :: ds)) ρ = some (.ok ps ρ') := h
    unfold M.bnd at h
    cases e0 : evE c e ρ with
    | none => rw [e0] at h; cases h
    | some z =>
      rw [e0] at h
      cases z with
      | ex e ρ1 => cases h
      | ok d ρ1 =>
        have h : M.bnd (evAs c [] es) (fun ds => M.ret (Pd.d d :: ds)) ρ1 = some (.ok ps ρ') := h
        unfold M.bnd at h
        cases e1 : evAs c [] es ρ1 with
        | none => rw [e1] at h; cases h
        | some z =>
          rw [e1] at h
          cases z with
          | ex e ρ1 => cases h
          | ok qs ρ1 =>
            cases h
            have hl' : ownIx [] es = some [] := by cases es <;> rfl
            obtain ⟨a, b⟩ := evAs_shape e1 hl'
            refine ⟨fun j pd hj => .inr ⟨by simp, ?_⟩, fun hn j k i2 hj hk => ?_⟩
            · cases j with
              | zero => exact ⟨d, by simpa using hj.symm⟩
              | succ j =>
                rcases a j pd (by simpa using hj) with ⟨x1, i2, x2, x3⟩ | ⟨x1, x2⟩
                · simp at x3
                · exact x2
            · cases j with
              | zero => simp at hj
              | succ j =>
                cases k with
                | zero => simp at hk
                | succ k => rw [b (by simp) j k i2 (by simpa using hj) (by simpa using hk)]
theorem muOk_ok {c : Ctx} {ts : List E} {ms : List Bool} (h : muOk ms ts Γ = true) : ∀ ρ ps ρ', evAs c ms ts ρ = some (.ok ps ρ') → StArgs ms Γ ps := by
  unfold muOk at h
  split at h
  · rename_i l hl
    simp only [Bool.and_eq_true, decide_eq_true_eq, List.all_eq_true] at h
    intro ρ ps ρ' e
    obtain ⟨a, b⟩ := evAs_shape e hl
    refine ⟨fun j pd hj => ?_, b h.1⟩
    rcases a j pd hj with ⟨x1, i, x2, x3⟩ | x
    · exact .inl ⟨x1, i, x2, h.2 i x3⟩
    · exact .inr x
  · cases h
end
end VF

end
section
set_option Elab.async false
set_option linter.all false
set_option autoImplicit false
set_option maxRecDepth 100000
set_option maxHeartbeats 4000000
/-! VU: what the look grants: the recursion over expressions. -/
namespace VF
open PySem PySem.Spec L2
theorem leG_le {Γ' Γ : List Bool} (h : leG Γ' Γ = true) : Le Γ' Γ := leG_get h
section
variable {S : SE} {X : Cx} {w : Wd} {W : WX} {m : Nat}
theorem var_ok (ok : OkE S X w W m) {i : Nat} {e : Expr} {Γ : List Bool} (h1 : chkV S e i = true) (h2 : Γ[i]? ≠ some true ∨ S.lk[i]? ≠ some true) : JE X w W e Γ (if Γ[i]? = some true then Γ.set i false else Γ) (rdP (.s i)) := by
  by_cases hg : Γ[i]? = some true
  · rw [if_pos hg]
    exact JE.var (chkV_ok ok h1) (ok.pa (h2.resolve_left fun z => z hg))
  · rw [if_neg hg]
    exact JE.varS (chkV_ok ok h1) hg
theorem fn_ok (ok : OkE S X w W m) {f : Nat} {fn : Fn} {x : Str} {p pos : Pos} {es : List Expr} {ts : List E} {Γ Γ1 : List Bool} (hT : S.T[f]? = some fn) (hx : fn.name = x) (hg : isGl S x = true) (hs : es.all noStar = true) (ha : JPs X w W es Γ Γ1 (evAs (cxN S m) fn.mu ts)) (hm : muOk fn.mu ts Γ1 = true) (hl : leG S.lk Γ1 = true)
    (hnil : es = [] → Γ = Γ1 ∧ ts = []) : J2 fn.own X w W (.Call (.Name x p) es [] pos) Γ Γ1 (evE (cxN S m) (.fn f ts)) := by
  subst hx
  obtain ⟨fa, fd, a1, a2, a3, a4⟩ := (ok.tb f fn hT).ex
  obtain ⟨g1, g2⟩ := isGl_ok ok hg
  have hsem : evE (cxN S m) (.fn f ts) = M.bnd (evAs (cxN S m) fn.mu ts) fun ps => callM (ctxN (callN S.T m) S.T) f ps := by
    have : (cxN S m).sg f = fn.mu := by show (S.T[f]?.map (·.mu)).getD [] = _; rw [hT]; rfl
    show (M.bnd (evAs (cxN S m) ((cxN S m).sg f) ts) fun ps => callM (cxN S m) f ps) = _
    rw [this]
  rw [hsem]
  have hp : PE X (.Call (.Name fn.name p) es [] pos) (tCallS (spC S.T w.K w.xc m f) (WE W) (tM w W Γ Γ1 (RPs w) (evAs (cxN S m) fn.mu ts))) := by
    rw [← ok.hK]
    cases es with
    | nil =>
      obtain ⟨rfl, rfl⟩ := hnil rfl
      refine PE.imp (peG_call0 a4 ok.room ok.rm.gd a3 ok.tk g1 a1 a2 g2) fun σ H Q ⟨ρ, ow, r, q⟩ => ?_
      have he : evAs (cxN S m) fn.mu [] = M.ret [] := by cases fn.mu with | nil => rfl | cons b l => cases b <;> rfl
      rw [he] at q
      exact q [] H ow r (Same.refl _) .nil
    | cons e es =>
      rw [List.all_cons, Bool.and_eq_true] at hs
      exact peG_call a4 ok.room ok.rm.gd a3 ok.tk g1 a1 a2 g2 ha (star_cons hs.1) (star_none hs.2)
  cases ho : fn.own with
  | true => exact JO.fnc ok.wk (ok.lkIn hl) hT ho hp (muOk_ok hm)
  | false => exact JE.fnc ok.wk (ok.lkIn hl) hT ho hp (muOk_ok hm)
theorem asB_var (i : Nat) (ρ : Rho) : True := trivial
end
theorem comp_semN (X : VF.Ctx) (el : E) (tg : Tg) (it : I) (vs : List Nat) : evE X (.comp el tg it none vs) = compM (evI X it) (bindT tg) none (evE X el) vs := by
  rw [evE, compM]
  all_goals congr 1
theorem comp_semS (X : VF.Ctx) (el : E) (tg : Tg) (it : I) (vs : List Nat) (e : E) : evE X (.comp el tg it (some e) vs) = compM (evI X it) (bindT tg) (some (M.bnd (evE X e) asB)) (evE X el) vs := by
  rw [evE, compM]
  all_goals congr 1
theorem opR_cat {p : Operator} (h : opR .cat p = true) : p = .Add := by cases p <;> first | rfl | cases h
theorem isR_f {p : CmpOp} (h : isR false p = true) : p = .Is := by cases p <;> first | rfl | cases h
theorem isR_t {p : CmpOp} (h : isR true p = true) : p = .IsNot := by cases p <;> first | rfl | cases h
theorem all_star_cons {e : Expr} {es : List Expr} (h : (e :: es).all noStar = true) : noStar e = true ∧ es.all noStar = true := by
  rw [List.all_cons, Bool.and_eq_true] at h; exact h
mutual
theorem chkE_ok : ∀ (t : E) {S : SE} {X : Cx} {w : Wd} {W : WX} {m : Nat} {e : Expr} {Γ Γ' : List Bool}, OkE S X w W m → chkE t S e Γ = some Γ' → J2 (isO S.T t) X w W e Γ Γ' (evE (cxN S m) t)
  | .var i, S, X, w, W, m, e, Γ, Γ', ok, h => by
    simp only [chkE, Option.map_eq_some_iff, gd_some, Bool.and_eq_true, Bool.or_eq_true, decide_eq_true_eq] at h
    obtain ⟨_, ⟨h1, h2⟩, rfl⟩ := h
    exact var_ok ok h1 h2
  | .con d, S, X, w, W, m, e, Γ, Γ', ok, h => by
    simp only [chkE, Option.map_eq_some_iff, gd_some] at h
    obtain ⟨_, h1, rfl⟩ := h
    exact conOk_ok h1
  | .glo x d, S, X, w, W, m, e, Γ, Γ', ok, h => by simp [chkE] at h
  | .tup es, S, X, w, W, m, e, Γ, Γ', ok, h => by
    simp only [chkE, Option.bind_eq_some_iff] at h
    obtain ⟨p, hp, h⟩ := h
    rw [asTup_some hp]
    exact JE.tup ok.wk (chkEs_ok es ok h).1
  | .lst es, S, X, w, W, m, e, Γ, Γ', ok, h => by
    simp only [chkE, Option.bind_eq_some_iff] at h
    obtain ⟨p, hp, h⟩ := h
    rw [asLst_some hp]
    exact JO.lst ok.wk (chkEs_ok es ok h).1
  | .op o a b, S, X, w, W, m, e, Γ, Γ', ok, h => by
    simp only [chkE, Option.bind_eq_some_iff, gd_some] at h
    obtain ⟨p, hp, _, hr, Γ1, h1, h2⟩ := h
    rw [asBin_some hp]
    have ja := opG_ok (x := evE (cxN S m) a) ok h1 fun z => (chkE_ok a ok z).je
    have jb := opG_ok (x := evE (cxN S m) b) ok h2 fun z => (chkE_ok b ok z).je
    by_cases ho : o = .cat
    · subst ho
      have e1 : p.2.1 = .Add := opR_cat hr
      rw [e1]
      exact JO.op2 ok.wk ok.hK cat_list (fun ha hb => pe_op od_cat ha hb) ja jb
    · have : isO S.T (.op o a b) = false := by cases o <;> first | rfl | exact absurd rfl ho
      rw [this]
      exact JE.op2 ok.wk ok.hK (fun ha hb => pe_op (opR_ok hr ho) ha hb) ja jb
  | .neg a, S, X, w, W, m, e, Γ, Γ', ok, h => by
    simp only [chkE, Option.bind_eq_some_iff, gd_some, decide_eq_true_eq] at h
    obtain ⟨p, hp, _, hr, h1⟩ := h
    rw [asUn_some hp, hr]
    exact JE.neg (chkE_ok a ok h1).je
  | .cmp o a b, S, X, w, W, m, e, Γ, Γ', ok, h => by
    simp only [chkE, Option.bind_eq_some_iff, gd_some, Bool.and_eq_true] at h
    obtain ⟨p, hp, _, ⟨hr, hs⟩, Γ1, h1, h2⟩ := h
    rw [asCmp_some hp]
    have ja := opG_ok (x := evE (cxN S m) a) ok h1 fun z => (chkE_ok a ok z).je
    have jb := opG_ok (x := evE (cxN S m) b) ok h2 fun z => (chkE_ok b ok z).je
    exact JE.op2 ok.wk ok.hK (fun ha hb => pe_cmpR (cmR_ok ok.rm hr) ha hb (noSet_beh hs)) ja jb
  | .isN ng a, S, X, w, W, m, e, Γ, Γ', ok, h => by
    simp only [chkE, Option.bind_eq_some_iff, gd_some, Bool.and_eq_true] at h
    obtain ⟨p, hp, _, ⟨hr, hs⟩, h1⟩ := h
    rw [asCmp_some hp]
    obtain ⟨j, p2, e2⟩ := isNoneE_is hs
    rw [e2]
    cases ng with
    | false =>
      have e1 : p.2.1 = .Is := isR_f hr
      rw [e1]
      exact JE.isN (chkE_ok a ok h1).je
    | true =>
      have e1 : p.2.1 = .IsNot := isR_t hr
      rw [e1]
      exact JE.notN (chkE_ok a ok h1).je
  | .and a b, S, X, w, W, m, e, Γ, Γ', ok, h => by
    simp only [chkE, Option.bind_eq_some_iff, Option.map_eq_some_iff, gd_some, Bool.and_eq_true, decide_eq_true_eq] at h
    obtain ⟨p, hp, _, hr, Γ1, h1, Γ2, h2, _, ⟨h3, h4⟩, rfl⟩ := h
    rw [asBool_some hp, hr]
    refine JE.andW (chkE_ok a ok h1).je ?_ (leG_le h3) (ok.lkIn h4)
    by_cases hq : p.2.2.2.1.isEmpty = true
    · rw [if_pos hq] at h2
      rw [List.isEmpty_iff.mp hq]
      exact JE.one (chkE_ok b ok h2).je
    · rw [if_neg hq] at h2
      exact (chkE_ok b ok h2).je
  | .or a b, S, X, w, W, m, e, Γ, Γ', ok, h => by
    simp only [chkE, Option.bind_eq_some_iff, Option.map_eq_some_iff, gd_some, Bool.and_eq_true, decide_eq_true_eq] at h
    obtain ⟨p, hp, _, hr, Γ1, h1, Γ2, h2, _, ⟨h3, h4⟩, rfl⟩ := h
    rw [asBool_some hp, hr]
    refine JE.orW (chkE_ok a ok h1).je ?_ (leG_le h3) (ok.lkIn h4)
    by_cases hq : p.2.2.2.1.isEmpty = true
    · rw [if_pos hq] at h2
      rw [List.isEmpty_iff.mp hq]
      exact JE.one (chkE_ok b ok h2).je
    · rw [if_neg hq] at h2
      exact (chkE_ok b ok h2).je
  | .not a, S, X, w, W, m, e, Γ, Γ', ok, h => by
    simp only [chkE, Option.bind_eq_some_iff, gd_some, decide_eq_true_eq] at h
    obtain ⟨p, hp, _, hr, h1⟩ := h
    rw [asUn_some hp, hr]
    exact JE.not (chkE_ok a ok h1).je
  | .ite c a b, S, X, w, W, m, e, Γ, Γ', ok, h => by
    simp only [chkE, Option.bind_eq_some_iff, Option.map_eq_some_iff, gd_some, Bool.and_eq_true] at h
    obtain ⟨p, hp, Γ1, h1, Γ2, h2, Γ3, h3, _, ⟨⟨h4, h5⟩, h6⟩, rfl⟩ := h
    rw [asIf_some hp]
    exact JE.ite (chkT_ok c ok h1) ((chkE_ok a ok h2).je.weak (leG_le h5) (ok.lkIn h4)) ((chkE_ok b ok h3).je.weak (leG_le h6) (ok.lkIn h4))
  | .fn f es, S, X, w, W, m, e, Γ, Γ', ok, h => by
    simp only [chkE, Option.bind_eq_some_iff, Option.map_eq_some_iff, gd_some, Bool.and_eq_true, decide_eq_true_eq] at h
    obtain ⟨p, hp, fn, hT, _, ⟨⟨h1, h2⟩, h3⟩, Γ1, h4, _, ⟨h5, h6⟩, rfl⟩ := h
    rw [asCallN_some hp]
    have : isO S.T (.fn f es) = fn.own := by show (match S.T[f]? with | some fn => fn.own | none => false) = _; rw [hT]
    rw [this]
    obtain ⟨ja, jn⟩ := chkAs_ok es ok h4
    exact fn_ok ok hT h1 h2 h3 ja h5 h6 jn
  | .bi b es, S, X, w, W, m, e, Γ, Γ', ok, h => by
    simp only [chkE, Option.bind_eq_some_iff, gd_some, Bool.and_eq_true, Bool.not_eq_true'] at h
    obtain ⟨p, hp, y, hy, _, ⟨⟨h1, h2⟩, h3⟩, h4⟩ := h
    rw [asCallN_some hp]
    have ja := chkPs_ok es ok h4
    by_cases hb : b = .list
    · subst hb
      cases hy
      exact JO.call ok.wk ok.hK lst_list (fun ha => bl_ok ok h1 h2 h3 ha) ja
    · by_cases hb2 : b = .sorted
      · subst hb2
        cases hy
        exact JO.call ok.wk ok.hK srt_list (fun ha => bs_ok ok h1 h2 h3 ha) ja
      · by_cases hb3 : b = .listS
        · subst hb3
          cases hy
          exact JO.call ok.wk ok.hK lsS_list (fun ha => bls_ok ok h1 h2 h3 ha) ja
        · have : isO S.T (.bi b es) = false := by cases b <;> first | rfl | exact absurd rfl hb | exact absurd rfl hb2 | exact absurd rfl hb3
          rw [this]
          exact JE.call ok.wk ok.hK (fun ha => bt_ok ok hy h1 hb hb2 hb3 h2 h3 ha) ja
  | .me mt o es, S, X, w, W, m, e, Γ, Γ', ok, h => by
    simp only [chkE, Option.bind_eq_some_iff, gd_some, Bool.and_eq_true, Bool.not_eq_true', decide_eq_true_eq] at h
    obtain ⟨p, hp, y, hy, _, ⟨⟨⟨⟨⟨h1, h2⟩, h3⟩, h4⟩, h5⟩, h6⟩, Γ1, h7, h8⟩ := h
    rw [asCallA_some hp]
    cases mt <;> simp [mtNm] at hy
    subst hy
    exact join_ok ok h1 h2 h3 h4 h5 h6 (chkE_ok o ok h7).je (chkPs_ok es ok h8)
  | .mu mm i es, S, X, w, W, m, e, Γ, Γ', ok, h => by
    simp only [chkE, Option.bind_eq_some_iff, Option.map_eq_some_iff, gd_some, Bool.and_eq_true, Bool.not_eq_true', decide_eq_true_eq] at h
    obtain ⟨p, hp, y, hy, _, ⟨⟨⟨⟨h1, h2⟩, h3⟩, h4⟩, h5⟩, Γ1, h6, _, h7, rfl⟩ := h
    rw [asCallA_some hp]
    obtain ⟨ja, jn⟩ := chkEs_ok es ok h6
    exact mu_ok ok hy h1 h2 h3 h4 h5 h7 ja jn
  | .ix a b, S, X, w, W, m, e, Γ, Γ', ok, h => by
    simp only [chkE, Option.bind_eq_some_iff, gd_some] at h
    obtain ⟨p, hp, _, hr, Γ1, h1, h2⟩ := h
    rw [asSub_some hp]
    exact JE.ix ok.wk ok.hK (fun ha hb => pe_ix xd_ix ha hb (noSlice_is hr)) (opG_ok (x := evE (cxN S m) a) ok h1 fun z => (chkE_ok a ok z).je) (chkE_ok b ok h2).je
  | .sl a lo hi, S, X, w, W, m, e, Γ, Γ', ok, h => by
    simp only [chkE, Option.bind_eq_some_iff] at h
    obtain ⟨p, hp, q, hq, Γ1, h1, Γ2, h2, h3⟩ := h
    rw [asSub_some hp, asSlice_some hq]
    exact JE.sl ok.wk ok.hK (opG_ok (x := evE (cxN S m) a) ok h1 fun z => (chkE_ok a ok z).je) (chkO_ok lo ok h2) (chkO_ok hi ok h3)
  | .comp el tg it c vs, S, X, w, W, m, e, Γ, Γ', ok, h => by
    simp only [chkE, Option.bind_eq_some_iff, Option.map_eq_some_iff, gd_some, Bool.and_eq_true, decide_eq_true_eq, List.all_eq_true] at h
    obtain ⟨p, hp, _, ⟨hb, hns⟩, Γ1, h1, Γt0, _, Γu0, _, Γc, _, Γt, h2, Γu, h3, Γe, h4, _, ⟨⟨⟨⟨⟨k1, k2⟩, k3⟩, k4⟩, k5⟩, k6⟩, rfl⟩ := h
    rw [asLC_some hp]
    have hkd := blkC_kind hb
    have hvs : (ownOf S.N vs).map (·.2) = vs := by unfold ownOf; rw [List.map_map]; exact List.map_id' vs
    have hbk : BlkOk X.N X.env.scope p.2.2.2.2.1 (ownOf S.N vs) := by rw [ok.hN, ok.sc]; exact blkOk_by hb
    have hN : X.N.Nodup := by rw [ok.hN]; exact ok.nd
    have jg : Cx.bk X p.2.2.2.2.1 fun X' => ∀ D o, JG X' (w.pin D o) p.2.1 Γc Γt (slotsT tg) (bindT tg) := fun s H C cl fp D o => (chkG_ok tg (blk_ok (p := D) (o := o) ok s H C cl fp hkd) h2).1
    have jel : Cx.bk X p.2.2.2.2.1 fun X' => ∀ D o, JE X' (w.pin D o) (fun _ _ _ _ => False) p.1 Γu Γe (evE (cxN S m) el) := fun s H C cl fp D o => (chkE_ok el (blk_ok (p := D) (o := o) ok s H C cl fp hkd) h4).je
    have ji : JI X w W p.2.1 p.2.2.1 Γ Γ1 (evI (cxN S m) it) := chkI_ok it ok h1
    have kv : ∀ i ∈ (ownOf S.N vs).map (·.2), Γc[i]? ≠ some true := by rw [hvs]; exact k5
    have ks : ∀ i ∈ slotsT tg, i ∈ (ownOf S.N vs).map (·.2) := by rw [hvs]; exact k6
    cases c with
    | none =>
      cases hq : p.2.2.2.1 with
      | nil =>
        rw [hq] at h3
        simp only [chkC] at h3
        cases h3
        have hsem : evE (cxN S m) (.comp el tg it none vs) = compM (evI (cxN S m) it) (bindT tg) none (evE (cxN S m) el) ((ownOf S.N vs).map (·.2)) := by rw [hvs]; exact comp_semN ..
        rw [hsem]
        exact JO.comp ok.wk ok.calm hN ji hbk (noSet_is hns) (leG_le k1) (ok.lkIn k2) kv ks (leG_le k4) jg jel (leG_le k3)
      | cons => rw [hq] at h3; simp [chkC] at h3
    | some c =>
      cases hq : p.2.2.2.1 with
      | nil => rw [hq] at h3; simp [chkC] at h3
      | cons c' r =>
        cases r with
        | cons => rw [hq] at h3; simp [chkC] at h3
        | nil =>
          rw [hq] at h3
          simp only [chkC] at h3
          have hsem : evE (cxN S m) (.comp el tg it (some c) vs) = compM (evI (cxN S m) it) (bindT tg) (some (M.bnd (evE (cxN S m) c) asB)) (evE (cxN S m) el) ((ownOf S.N vs).map (·.2)) := by rw [hvs]; exact comp_semS ..
          rw [hsem]
          exact JO.compC ok.wk ok.calm hN ji hbk (noSet_is hns) (leG_le k1) (ok.lkIn k2) kv ks (leG_le k4) jg jel (fun s H C cl fp D o => chkT_ok c (S := S.blk p.2.2.2.2.1) (blk_ok (p := D) (o := o) ok s H C cl fp hkd) h3) (leG_le k3)
  | .eqR a b, S, X, w, W, m, e, Γ, Γ', ok, h => by
    simp only [chkE, Option.bind_eq_some_iff, gd_some, Bool.and_eq_true, decide_eq_true_eq] at h
    obtain ⟨p, hp, _, hr, q, hq, r, hr2, _, ⟨b1, b2⟩, h⟩ := h
    rw [asCmp_some hp, hr, asCallN_some hq, asCallN_some hr2]
    obtain ⟨e1, g1, g2⟩ := isBl_ok ok b1
    obtain ⟨e2, _, _⟩ := isBl_ok ok b2
    rw [e1, e2]
    split at h
    · rename_i a' b' ea eb
      rw [ea, eb]
      simp only [Option.bind_eq_some_iff, gd_some, Bool.and_eq_true] at h
      obtain ⟨_, ⟨n1, n2⟩, Γ1, h1, h2⟩ := h
      exact JE.eqR ok g1 g2 (chkE_ok a ok h1).je (chkE_ok b ok h2).je n1 n2
    · cases h
  | .isi k a, S, X, w, W, m, e, Γ, Γ', ok, h => by
    simp only [chkE, Option.bind_eq_some_iff, gd_some, Bool.and_eq_true] at h
    obtain ⟨p, hp, q, hq, n, hn, _, ⟨⟨b1, b2⟩, b3⟩, h1⟩ := h
    rw [asCallN_some hp, asTwo_some hq, asTyN_some hn]
    obtain ⟨e1, g1, m1⟩ := isBl_ok ok b1
    obtain ⟨e2, g2, m2⟩ := isBl_ok ok b3
    rw [e1, e2]
    exact JE.isi ok.hK ok.wk g1 m1 g2 m2 (chkE_ok a ok h1).je (star_cons b2)
  | .chn o o' a b c, S, X, w, W, m, e, Γ, Γ', ok, h => by
    simp only [chkE, Option.bind_eq_some_iff, Option.map_eq_some_iff, gd_some, Bool.and_eq_true, Bool.not_eq_true'] at h
    obtain ⟨p, hp, _, ⟨⟨r1, r2⟩, r3⟩, Γ1, h1, Γ2, h2, Γ3, h3, _, ⟨k1, k2⟩, rfl⟩ := h
    rw [asChain_some hp]
    exact JE.chn ok.wk ok.hK (cmR_ok ok.rm r1) (cmR_ok ok.rm r2) (chkE_ok a ok h1).je (chkE_ok b ok h2).je (chkE_ok c ok h3).je r3 (leG_le k1) (ok.lkIn k2)
  | .rev a, S, X, w, W, m, e, Γ, Γ', ok, h => by
    simp only [chkE, Option.bind_eq_some_iff] at h
    obtain ⟨p, hp, q, hq, h1⟩ := h
    rw [asSub_some hp, asRev_some hq]
    exact JE.revT ok.wk ok.hK (chkE_ok a ok h1).je
theorem chkEs_ok : ∀ (ts : List E) {S : SE} {X : Cx} {w : Wd} {W : WX} {m : Nat} {es : List Expr} {Γ Γ' : List Bool}, OkE S X w W m → chkEs ts S es Γ = some Γ' → JEs X w W es Γ Γ' (evEs (cxN S m) ts) ∧ (es = [] → Γ = Γ' ∧ evEs (cxN S m) ts = M.ret [])
  | [], S, X, w, W, m, es, Γ, Γ', ok, h => by
    cases es with
    | nil => simp only [chkEs] at h; cases h; exact ⟨JEs.nil, fun _ => ⟨rfl, rfl⟩⟩
    | cons => simp [chkEs] at h
  | t :: ts, S, X, w, W, m, es, Γ, Γ', ok, h => by
    cases es with
    | nil => simp [chkEs] at h
    | cons e es =>
      simp only [chkEs, Option.bind_eq_some_iff, gd_some] at h
      obtain ⟨_, hs, Γ1, h1, h2⟩ := h
      exact ⟨JEs.cons (chkE_ok t ok h1).je (chkEs_ok ts ok h2).1 (star_cons hs), fun z => by cases z⟩
theorem chkPs_ok : ∀ (ts : List E) {S : SE} {X : Cx} {w : Wd} {W : WX} {m : Nat} {es : List Expr} {Γ Γ' : List Bool}, OkE S X w W m → chkPs ts S es Γ = some Γ' → JPs X w W es Γ Γ' (evPs (cxN S m) ts)
  | [], S, X, w, W, m, es, Γ, Γ', ok, h => by
    cases es with
    | nil => simp only [chkPs] at h; cases h; exact JPs.nil
    | cons => simp [chkPs] at h
  | t :: ts, S, X, w, W, m, es, Γ, Γ', ok, h => by
    cases es with
    | nil => simp [chkPs] at h
    | cons e es =>
      simp only [chkPs, Option.bind_eq_some_iff, gd_some] at h
      obtain ⟨_, hs, Γ1, h1, h2⟩ := h
      exact JPs.cons (opG_ok (x := evE (cxN S m) t) ok h1 fun z => (chkE_ok t ok z).je) (chkPs_ok ts ok h2) (star_cons hs)
theorem chkAs_ok : ∀ (ts : List E) {ms : List Bool} {S : SE} {X : Cx} {w : Wd} {W : WX} {m : Nat} {es : List Expr} {Γ Γ' : List Bool}, OkE S X w W m → chkAs ts ms S es Γ = some Γ' → JPs X w W es Γ Γ' (evAs (cxN S m) ms ts) ∧ (es = [] → Γ = Γ' ∧ ts = [])
  | [], ms, S, X, w, W, m, es, Γ, Γ', ok, h => by
    cases es with
    | nil =>
      have h : some Γ = some Γ' := by
        cases ms with
        | nil => exact h
        | cons b l => cases b <;> exact h
      cases h
      have he : evAs (cxN S m) ms [] = M.ret [] := by cases ms with | nil => rfl | cons b l => cases b <;> rfl
      rw [he]
      exact ⟨JPs.nil, fun _ => ⟨rfl, rfl⟩⟩
    | cons e es =>
      cases ms with
      | nil => simp [chkAs] at h
      | cons b l => cases b <;> simp [chkAs] at h
  | t :: ts, ms, S, X, w, W, m, es, Γ, Γ', ok, h => by
    cases es with
    | nil =>
      cases ms with
      | nil => simp [chkAs] at h
      | cons b l => cases b <;> simp [chkAs] at h
    | cons e es =>
      cases ms with
      | nil =>
        simp only [chkAs, Option.bind_eq_some_iff, gd_some] at h
        obtain ⟨_, hs, Γ1, h1, h2⟩ := h
        exact ⟨JPs.consD (chkE_ok t ok h1).je (chkAs_ok ts ok h2).1 (star_cons hs), fun z => by cases z⟩
      | cons b l =>
        cases b with
        | true =>
          simp only [chkAs, Option.bind_eq_some_iff, gd_some] at h
          obtain ⟨_, hs, Γ1, h1, h2⟩ := h
          exact ⟨JPs.cons (opG_ok (x := evE (cxN S m) t) ok h1 fun z => (chkE_ok t ok z).je) (chkAs_ok ts ok h2).1 (star_cons hs), fun z => by cases z⟩
        | false =>
          simp only [chkAs, Option.bind_eq_some_iff, gd_some] at h
          obtain ⟨_, hs, Γ1, h1, h2⟩ := h
          exact ⟨JPs.consD (chkE_ok t ok h1).je (chkAs_ok ts ok h2).1 (star_cons hs), fun z => by cases z⟩
theorem chkO_ok : ∀ (t : Option E) {S : SE} {X : Cx} {w : Wd} {W : WX} {m : Nat} {e : Option Expr} {Γ Γ' : List Bool}, OkE S X w W m → chkO t S e Γ = some Γ' → JOp X w W e Γ Γ' (evO (cxN S m) t)
  | none, S, X, w, W, m, e, Γ, Γ', ok, h => by
    cases e with
    | none => simp only [chkO] at h; cases h; exact JOp.no
    | some => simp [chkO] at h
  | some t, S, X, w, W, m, e, Γ, Γ', ok, h => by
    cases e with
    | none => simp [chkO] at h
    | some e => simp only [chkO] at h; exact JOp.so (chkE_ok t ok h).je
theorem chkT_ok : ∀ (t : E) {S : SE} {X : Cx} {w : Wd} {W : WX} {m : Nat} {e : Expr} {Γ Γ' : List Bool}, OkE S X w W m → chkT t S e Γ = some Γ' → JT X w W e Γ Γ' (M.bnd (evE (cxN S m) t) asB)
  | .cmp o a b, S, X, w, W, m, e, Γ, Γ', ok, h => by
    simp only [chkT, Option.bind_eq_some_iff, gd_some, Bool.and_eq_true] at h
    obtain ⟨p, hp, _, ⟨hr, hs⟩, Γ1, h1, h2⟩ := h
    rw [asCmp_some hp]
    exact JT.cmp ok.wk ok.hK (cmR_ok ok.rm hr) (opG_ok (x := evE (cxN S m) a) ok h1 fun z => (chkE_ok a ok z).je) (opG_ok (x := evE (cxN S m) b) ok h2 fun z => (chkE_ok b ok z).je) (noSet_beh hs)
  | .isN ng a, S, X, w, W, m, e, Γ, Γ', ok, h => by
    simp only [chkT, Option.bind_eq_some_iff, gd_some, Bool.and_eq_true] at h
    obtain ⟨p, hp, _, ⟨hr, hs⟩, h1⟩ := h
    rw [asCmp_some hp]
    obtain ⟨j, p2, e2⟩ := isNoneE_is hs
    rw [e2]
    cases ng with
    | false =>
      have e1 : p.2.1 = .Is := isR_f hr
      rw [e1]
      exact JT.isN (chkE_ok a ok h1).je
    | true =>
      have e1 : p.2.1 = .IsNot := isR_t hr
      rw [e1]
      exact JT.notN (chkE_ok a ok h1).je
  | .and a b, S, X, w, W, m, e, Γ, Γ', ok, h => by
    simp only [chkT, Option.bind_eq_some_iff, Option.map_eq_some_iff, gd_some, Bool.and_eq_true, decide_eq_true_eq] at h
    obtain ⟨p, hp, _, hr, Γ1, h1, Γ2, h2, _, ⟨h3, h4⟩, rfl⟩ := h
    rw [asBool_some hp, hr]
    have hsem : M.bnd (evE (cxN S m) (.and a b)) asB = andM (M.bnd (evE (cxN S m) a) asB) (M.bnd (evE (cxN S m) b) asB) := and_asB _ _
    rw [hsem]
    refine JT.andW (chkT_ok a ok h1) ?_ (leG_le h3) (ok.lkIn h4)
    by_cases hq : p.2.2.2.1.isEmpty = true
    · rw [if_pos hq] at h2
      rw [List.isEmpty_iff.mp hq]
      exact JW.and1 (chkT_ok b ok h2)
    · rw [if_neg hq] at h2
      exact JW.of (chkT_ok b ok h2)
  | .or a b, S, X, w, W, m, e, Γ, Γ', ok, h => by
    simp only [chkT, Option.bind_eq_some_iff, Option.map_eq_some_iff, gd_some, Bool.and_eq_true, decide_eq_true_eq] at h
    obtain ⟨p, hp, _, hr, Γ1, h1, Γ2, h2, _, ⟨h3, h4⟩, rfl⟩ := h
    rw [asBool_some hp, hr]
    have hsem : M.bnd (evE (cxN S m) (.or a b)) asB = orM (M.bnd (evE (cxN S m) a) asB) (M.bnd (evE (cxN S m) b) asB) := or_asB _ _
    rw [hsem]
    refine JT.orW (chkT_ok a ok h1) ?_ (leG_le h3) (ok.lkIn h4)
    by_cases hq : p.2.2.2.1.isEmpty = true
    · rw [if_pos hq] at h2
      rw [List.isEmpty_iff.mp hq]
      exact JW.or1 (chkT_ok b ok h2)
    · rw [if_neg hq] at h2
      exact JW.of (chkT_ok b ok h2)
  | .not a, S, X, w, W, m, e, Γ, Γ', ok, h => by
    simp only [chkT, Option.bind_eq_some_iff, gd_some, decide_eq_true_eq] at h
    obtain ⟨p, hp, _, hr, h1⟩ := h
    rw [asUn_some hp, hr]
    have hsem : M.bnd (evE (cxN S m) (.not a)) asB = M.bnd (M.bnd (evE (cxN S m) a) asB) fun c => M.ret (!c) := not_asB _
    rw [hsem]
    exact JT.not (chkT_ok a ok h1)
  | .eqR a b, S, X, w, W, m, e, Γ, Γ', ok, h => by
    simp only [chkT, Option.bind_eq_some_iff, gd_some, Bool.and_eq_true, decide_eq_true_eq] at h
    obtain ⟨p, hp, _, hr, q, hq, r, hr2, _, ⟨b1, b2⟩, h⟩ := h
    rw [asCmp_some hp, hr, asCallN_some hq, asCallN_some hr2]
    obtain ⟨e1, g1, g2⟩ := isBl_ok ok b1
    obtain ⟨e2, _, _⟩ := isBl_ok ok b2
    rw [e1, e2]
    split at h
    · rename_i a' b' ea eb
      rw [ea, eb]
      simp only [Option.bind_eq_some_iff, gd_some, Bool.and_eq_true] at h
      obtain ⟨_, ⟨n1, n2⟩, Γ1, h1, h2⟩ := h
      exact JT.eqR ok g1 g2 (chkE_ok a ok h1).je (chkE_ok b ok h2).je n1 n2
    · cases h
  | .isi k a, S, X, w, W, m, e, Γ, Γ', ok, h => by
    simp only [chkT, Option.bind_eq_some_iff, gd_some, Bool.and_eq_true] at h
    obtain ⟨p, hp, q, hq, n, hn, _, ⟨⟨b1, b2⟩, b3⟩, h1⟩ := h
    rw [asCallN_some hp, asTwo_some hq, asTyN_some hn]
    obtain ⟨e1, g1, m1⟩ := isBl_ok ok b1
    obtain ⟨e2, g2, m2⟩ := isBl_ok ok b3
    rw [e1, e2]
    exact JT.val (JE.isi ok.hK ok.wk g1 m1 g2 m2 (chkE_ok a ok h1).je (star_cons b2)) (noBool_is rfl)
  | .chn o o' a b c, S, X, w, W, m, e, Γ, Γ', ok, h => by
    simp only [chkT, Option.bind_eq_some_iff, Option.map_eq_some_iff, gd_some, Bool.and_eq_true, Bool.not_eq_true'] at h
    obtain ⟨p, hp, _, ⟨⟨r1, r2⟩, r3⟩, Γ1, h1, Γ2, h2, Γ3, h3, _, ⟨k1, k2⟩, rfl⟩ := h
    rw [asChain_some hp]
    exact JT.chn ok.wk ok.hK (cmR_ok ok.rm r1) (cmR_ok ok.rm r2) (chkE_ok a ok h1).je (chkE_ok b ok h2).je (chkE_ok c ok h3).je r3 (leG_le k1) (ok.lkIn k2)
  | .var i, S, X, w, W, m, e, Γ, Γ', ok, h => by
    simp only [chkT, Option.map_eq_some_iff, gd_some, Bool.and_eq_true, decide_eq_true_eq] at h
    obtain ⟨_, ⟨⟨h0, h1⟩, h2⟩, rfl⟩ := h
    exact JT.val (JE.varS (chkV_ok ok h1) h2) (noBool_is h0)
  | .con d, S, X, w, W, m, e, Γ, Γ', ok, h => by
    simp only [chkT, Option.map_eq_some_iff, gd_some] at h
    obtain ⟨_, h1, rfl⟩ := h
    refine JT.val (conOk_ok h1) (noBool_is ?_)
    unfold conOk at h1
    split at h1 <;> first | rfl | cases h1
  | .fn f es, S, X, w, W, m, e, Γ, Γ', ok, h => by
    simp only [chkT, Option.bind_eq_some_iff, Option.map_eq_some_iff, gd_some, Bool.and_eq_true, decide_eq_true_eq] at h
    obtain ⟨p, hp, fn, hT, _, ⟨⟨h1, h2⟩, h3⟩, Γ1, h4, _, ⟨h5, h6⟩, rfl⟩ := h
    rw [asCallN_some hp]
    obtain ⟨ja, jn⟩ := chkAs_ok es ok h4
    exact JT.val (fn_ok ok hT h1 h2 h3 ja h5 h6 jn).je (noBool_is rfl)
  | .bi b es, S, X, w, W, m, e, Γ, Γ', ok, h => by
    simp only [chkT, Option.bind_eq_some_iff, gd_some, Bool.and_eq_true, Bool.not_eq_true'] at h
    obtain ⟨p, hp, y, hy, _, ⟨⟨h1, h2⟩, h3⟩, h4⟩ := h
    rw [asCallN_some hp]
    have ja := chkPs_ok es ok h4
    refine JT.val ?_ (noBool_is rfl)
    by_cases hb : b = .list
    · subst hb
      cases hy
      exact JO.je (JO.call ok.wk ok.hK lst_list (fun ha => bl_ok ok h1 h2 h3 ha) ja)
    · by_cases hb2 : b = .sorted
      · subst hb2
        cases hy
        exact JO.je (JO.call ok.wk ok.hK srt_list (fun ha => bs_ok ok h1 h2 h3 ha) ja)
      · by_cases hb3 : b = .listS
        · subst hb3
          cases hy
          exact JO.je (JO.call ok.wk ok.hK lsS_list (fun ha => bls_ok ok h1 h2 h3 ha) ja)
        · exact JE.call ok.wk ok.hK (fun ha => bt_ok ok hy h1 hb hb2 hb3 h2 h3 ha) ja
  | .glo .., S, X, w, W, m, e, Γ, Γ', ok, h => by simp [chkT] at h
  | .tup .., S, X, w, W, m, e, Γ, Γ', ok, h => by simp [chkT] at h
  | .lst .., S, X, w, W, m, e, Γ, Γ', ok, h => by simp [chkT] at h
  | .op .., S, X, w, W, m, e, Γ, Γ', ok, h => by simp [chkT] at h
  | .neg .., S, X, w, W, m, e, Γ, Γ', ok, h => by simp [chkT] at h
  | .ite .., S, X, w, W, m, e, Γ, Γ', ok, h => by simp [chkT] at h
  | .me .., S, X, w, W, m, e, Γ, Γ', ok, h => by simp [chkT] at h
  | .mu .., S, X, w, W, m, e, Γ, Γ', ok, h => by simp [chkT] at h
  | .ix .., S, X, w, W, m, e, Γ, Γ', ok, h => by simp [chkT] at h
  | .sl .., S, X, w, W, m, e, Γ, Γ', ok, h => by simp [chkT] at h
  | .comp .., S, X, w, W, m, e, Γ, Γ', ok, h => by simp [chkT] at h
  | .rev .., S, X, w, W, m, e, Γ, Γ', ok, h => by simp [chkT] at h
theorem chkI_ok : ∀ (t : I) {S : SE} {X : Cx} {w : Wd} {W : WX} {m : Nat} {tg e : Expr} {Γ Γ' : List Bool}, OkE S X w W m → chkI t S tg e Γ = some Γ' → JI X w W tg e Γ Γ' (evI (cxN S m) t)
  | .seq t, S, X, w, W, m, tg, e, Γ, Γ', ok, h => by
    simp only [chkI] at h
    exact JI.seq (chkE_ok t ok h).je ok.hK
  | .rng1 b, S, X, w, W, m, tg, e, Γ, Γ', ok, h => by
    simp only [chkI, Option.bind_eq_some_iff, gd_some] at h
    obtain ⟨p, hp, _, hr, h⟩ := h
    rw [asCallN_some hp]
    obtain ⟨e1, g1, g2⟩ := isBl_ok ok hr
    rw [e1]
    split at h
    · rename_i b' eb
      rw [eb]
      simp only [Option.bind_eq_some_iff, gd_some] at h
      obtain ⟨_, n1, h1⟩ := h
      exact JI.rng1 g1 g2 (chkE_ok b ok h1).je (star_cons n1)
    · cases h
  | .rng2 a b, S, X, w, W, m, tg, e, Γ, Γ', ok, h => by
    simp only [chkI, Option.bind_eq_some_iff, gd_some] at h
    obtain ⟨p, hp, _, hr, h⟩ := h
    rw [asCallN_some hp]
    obtain ⟨e1, g1, g2⟩ := isBl_ok ok hr
    rw [e1]
    split at h
    · rename_i a' b' eb
      rw [eb]
      simp only [Option.bind_eq_some_iff, gd_some, Bool.and_eq_true] at h
      obtain ⟨_, ⟨n1, n2⟩, Γ1, h1, h2⟩ := h
      refine JI.rng2 g1 g2 (chkE_ok a ok h1).je (chkE_ok b ok h2).je ?_ (star_cons n2)
      rw [star_cons n1, star_cons n2]; rfl
    · cases h
  | .enum a, S, X, w, W, m, tg, e, Γ, Γ', ok, h => by
    simp only [chkI, Option.bind_eq_some_iff, gd_some, Bool.and_eq_true] at h
    obtain ⟨p, hp, _, ⟨hr, ht⟩, h⟩ := h
    rw [asCallN_some hp]
    obtain ⟨e1, g1, g2⟩ := isBl_ok ok hr
    rw [e1]
    split at h
    · rename_i b' eb
      rw [eb]
      simp only [Option.bind_eq_some_iff, gd_some] at h
      obtain ⟨_, n1, h1⟩ := h
      cases tg <;> first | cases ht | skip
      exact JI.enum ok.hK g1 g2 (chkE_ok a ok h1).je (star_cons n1)
    · cases h
  | .zip2 a b, S, X, w, W, m, tg, e, Γ, Γ', ok, h => by
    simp only [chkI, Option.bind_eq_some_iff, gd_some, Bool.and_eq_true] at h
    obtain ⟨p, hp, _, ⟨hr, ht⟩, h⟩ := h
    rw [asCallN_some hp]
    obtain ⟨e1, g1, g2⟩ := isBl_ok ok hr
    rw [e1]
    split at h
    · rename_i a' b' eb
      rw [eb]
      simp only [Option.bind_eq_some_iff, gd_some, Bool.and_eq_true] at h
      obtain ⟨_, ⟨n1, n2⟩, Γ1, h1, h2⟩ := h
      cases tg <;> first | cases ht | skip
      exact JI.zip2 ok.hK g1 g2 (chkE_ok a ok h1).je (chkE_ok b ok h2).je (star_cons n1) (star_cons n2) (star_none (by simp [n2]))
    · cases h
  | .zip3 a b c, S, X, w, W, m, tg, e, Γ, Γ', ok, h => by
    simp only [chkI, Option.bind_eq_some_iff, gd_some, Bool.and_eq_true] at h
    obtain ⟨p, hp, _, ⟨hr, ht⟩, h⟩ := h
    rw [asCallN_some hp]
    obtain ⟨e1, g1, g2⟩ := isBl_ok ok hr
    rw [e1]
    split at h
    · rename_i a' b' c' eb
      rw [eb]
      simp only [Option.bind_eq_some_iff, gd_some, Bool.and_eq_true] at h
      obtain ⟨_, ⟨⟨n1, n2⟩, n3⟩, Γ1, h1, Γ2, h2, h3⟩ := h
      cases tg <;> first | cases ht | skip
      exact JI.zip3 ok.hK g1 g2 (chkE_ok a ok h1).je (chkE_ok b ok h2).je (chkE_ok c ok h3).je (star_cons n1) (star_cons n2) (star_cons n3) (star_none (by simp [n2, n3]))
    · cases h
  | .rev1 b, S, X, w, W, m, tg, e, Γ, Γ', ok, h => by
    simp only [chkI, Option.bind_eq_some_iff, gd_some] at h
    obtain ⟨q, hq, _, hr, h⟩ := h
    rw [asCallN_some hq]
    obtain ⟨e1, g1, g2⟩ := isBl_ok ok hr
    rw [e1]
    split at h
    · rename_i e' ee
      rw [ee]
      simp only [Option.bind_eq_some_iff, gd_some] at h
      obtain ⟨p, hp, _, hr2, h⟩ := h
      rw [asCallN_some hp]
      obtain ⟨e2, g3, g4⟩ := isBl_ok ok hr2
      rw [e2]
      split at h
      · rename_i b' eb
        rw [eb]
        simp only [Option.bind_eq_some_iff, gd_some] at h
        obtain ⟨_, n1, h1⟩ := h
        exact JI.rev1 g3 g4 g1 g2 (chkE_ok b ok h1).je (star_cons n1)
      · cases h
    · cases h
  | .rev2 .., S, X, w, W, m, tg, e, Γ, Γ', ok, h => by simp [chkI] at h
end
end VF

end
section
set_option Elab.async false
set_option linter.all false
set_option autoImplicit false
set_option maxRecDepth 100000
set_option maxHeartbeats 4000000
/-! VV: the look at statements, and what it grants. -/
namespace VF
open PySem PySem.Spec L2
def asAsg : Stmt → Option (Expr × Expr × Pos)
  | .Assign [t] v p => some (t, v, p)
  | _ => none
theorem asAsg_some {e : Stmt} {r : Expr × Expr × Pos} (h : asAsg e = some r) : e = .Assign [r.1] r.2.1 r.2.2 := by
  unfold asAsg at h
  split at h <;> cases h
  rfl
def asNm : Expr → Option (Str × Pos)
  | .Name x p => some (x, p)
  | _ => none
theorem asNm_some {e : Expr} {r : Str × Pos} (h : asNm e = some r) : e = .Name r.1 r.2 := by cases e <;> simp [asNm] at h; subst h; rfl
def asExS : Stmt → Option (Expr × Pos)
  | .Expr v p => some (v, p)
  | _ => none
theorem asExS_some {e : Stmt} {r : Expr × Pos} (h : asExS e = some r) : e = .Expr r.1 r.2 := by cases e <;> simp [asExS] at h; subst h; rfl
def asRet : Stmt → Option (Expr × Pos)
  | .Return (some v) p => some (v, p)
  | _ => none
theorem asRet_some {e : Stmt} {r : Expr × Pos} (h : asRet e = some r) : e = .Return (some r.1) r.2 := by
  unfold asRet at h
  split at h <;> cases h
  rfl
def asRetN : Stmt → Option Pos
  | .Return none p => some p
  | _ => none
theorem asRetN_some {e : Stmt} {r : Pos} (h : asRetN e = some r) : e = .Return none r := by
  unfold asRetN at h
  split at h <;> cases h
  rfl
def asIfS : Stmt → Option (Expr × List Stmt × List Stmt × Pos)
  | .If c a b p => some (c, a, b, p)
  | _ => none
theorem asIfS_some {e : Stmt} {r : Expr × List Stmt × List Stmt × Pos} (h : asIfS e = some r) : e = .If r.1 r.2.1 r.2.2.1 r.2.2.2 := by cases e <;> simp [asIfS] at h; subst h; rfl
def asFor : Stmt → Option (Expr × Expr × List Stmt × Pos)
  | .For t i b [] p => some (t, i, b, p)
  | _ => none
theorem asFor_some {e : Stmt} {r : Expr × Expr × List Stmt × Pos} (h : asFor e = some r) : e = .For r.1 r.2.1 r.2.2.1 [] r.2.2.2 := by
  unfold asFor at h
  split at h <;> cases h
  rfl
def asWhl : Stmt → Option (Expr × List Stmt × Pos)
  | .While c b [] p => some (c, b, p)
  | _ => none
theorem asWhl_some {e : Stmt} {r : Expr × List Stmt × Pos} (h : asWhl e = some r) : e = .While r.1 r.2.1 [] r.2.2 := by
  unfold asWhl at h
  split at h <;> cases h
  rfl
def isPas : Stmt → Bool
  | .Pass _ => true
  | .Expr (.Constant (.str _) _ _) _ => true
  | _ => false
def isBrk : Stmt → Bool
  | .Break _ => true
  | _ => false
def isCnt : Stmt → Bool
  | .Continue _ => true
  | _ => false
def topG (Γ : List Bool) : List Bool := Γ.map fun _ => true
def nmOk (S : SE) (i : Nat) (x : Str) : Bool := decide (S.N[i]? = some x) && (decide (S.kd x = some .local) || (S.dfn && decide (S.kd x = some .cell))) && decide (S.lk[i]? ≠ some true)
/-- the store goes ahead of the letting go -/
def swC (S : SE) (y : Str) (py : Pos) (v : Expr) : Bool := match v with
  | .ListComp _ _ sc pos => decide (S.kd y = some .local) && (py.line == pos.line) && !(sc.names.any fun p => p.1 == y && (p.2 == .local || p.2 == .cell))
  | _ => false
def isLC : Expr → Bool
  | .ListComp .. => true
  | _ => false
def chkB (t : E) (S : SE) (e : Expr) (Γ : List Bool) : Option (List Bool) := match chkT t S e Γ with
  | some r => some r
  | none => (gd (noBool e)).bind fun _ => chkE t S e Γ
def isCompE : E → Bool
  | .comp .. => true
  | _ => false
def chkA (S : SE) (tg : Tg) (e : E) (t v : Expr) (Γ : List Bool) : Option (List Bool) := match tg with
  | .nm i => (asNm t).bind fun q => (gd (nmOk S i q.1)).bind fun _ => (chkE e S v Γ).bind fun Γ1 =>
      if isO S.T e then (gd ((noComp v || isLC v) && (noComp v || !swC S q.1 q.2 v || isCompE e) && decide (i < Γ1.length))).map fun _ => Γ1.set i true
      else (gd (noComp v)).map fun _ => Γ1.set i false
  | .tp ts => (gd (noTup v && noComp v && noStar t)).bind fun _ => (chkE e S v Γ).bind fun Γ1 => chkG (.tp ts) S t Γ1
def chkR (S : SE) (own : Bool) (e : E) (v : Expr) (Γ : List Bool) : Option (List Bool) := match own, e with
  | true, .var i => (gd (chkV S v i && decide (Γ[i]? = some true) && decide (S.lk[i]? ≠ some true) && leG S.lk Γ)).map fun _ => topG Γ
  | true, e => (gd (isO S.T e)).bind fun _ => (chkE e S v Γ).bind fun Γ1 => (gd (leG S.lk Γ1)).map fun _ => topG Γ
  | false, e => (chkE e S v Γ).bind fun Γ1 => (gd (leG S.lk Γ1)).map fun _ => topG Γ
mutual
def chkS : S → SE → Bool → List Bool → Stmt → List Bool → Option (List Bool)
  | .asg tg e, S, _, _, st, Γ => (asAsg st).bind fun p => chkA S tg e p.1 p.2.1 Γ
  | .set i ix e, S, _, _, st, Γ => (asAsg st).bind fun p => (asSub p.1).bind fun q => (gd (noTup p.2.1 && noComp p.2.1 && noSlice q.2.1 && chkV S q.1 i)).bind fun _ => (chkE e S p.2.1 Γ).bind fun Γ1 => (gd (decide (Γ1[i]? = some true))).bind fun _ => (chkE ix S q.2.1 Γ1).bind fun Γ2 =>
      (gd (decide (Γ2[i]? = some true))).map fun _ => Γ2
  | .ex e, S, _, _, st, Γ => (asExS st).bind fun p => (gd (noComp p.1)).bind fun _ => chkE e S p.1 Γ
  | .ret e, S, own, _, st, Γ => (asRet st).bind fun p => chkR S own e p.1 Γ
  | .retN, S, own, _, st, Γ => (asRetN st).bind fun _ => (gd (!own && leG S.lk Γ)).map fun _ => topG Γ
  | .ife c a b, S, own, lp, st, Γ => (asIfS st).bind fun p => (chkB c S p.1 Γ).bind fun Γ1 => (chkSs a S own lp p.2.1 Γ1).bind fun Γ2 => (chkSs b S own lp p.2.2.1 Γ1).bind fun Γ3 =>
      (gd (leG S.lk (Γ2.zipWith and Γ3) && leG (Γ2.zipWith and Γ3) Γ2 && leG (Γ2.zipWith and Γ3) Γ3)).map fun _ => Γ2.zipWith and Γ3
  | .fr tg it b lq, S, own, _, st, Γ => (asFor st).bind fun p => (gd (noSet p.2.1 && leG S.lk lq)).bind fun _ => (chkI it S p.1 p.2.1 Γ).bind fun Γ1 => (gd (leG lq Γ1)).bind fun _ => (chkG tg S p.1 lq).bind fun Γ2 => (chkSs b S own lq p.2.2.1 Γ2).bind fun Γ3 => (gd (leG lq Γ3)).map fun _ => lq
  | .whl c b lq, S, own, _, st, Γ => (asWhl st).bind fun p => (gd (leG lq Γ && leG S.lk lq)).bind fun _ => (chkB c S p.1 lq).bind fun Γ1 => (chkSs b S own lq p.2.1 Γ1).bind fun Γ2 => (gd (leG lq Γ2 && leG Γ1 lq && leG S.lk Γ1)).map fun _ => Γ1
  | .brk, S, _, lp, st, Γ => (gd (isBrk st && leG lp Γ && leG S.lk lp)).map fun _ => topG Γ
  | .cnt, S, _, lp, st, Γ => (gd (isCnt st && leG lp Γ && leG S.lk lp)).map fun _ => topG Γ
  | .pas, _, _, _, st, Γ => (gd (isPas st)).map fun _ => Γ
  | .kill _, _, _, _, _, _ => none
def chkSs : List S → SE → Bool → List Bool → List Stmt → List Bool → Option (List Bool)
  | [], _, _, _, [], Γ => some Γ
  | .kill _ :: ss, S, own, lp, sts, Γ => chkSs ss S own lp sts Γ
  | s :: ss, S, own, lp, st :: sts, Γ => (chkS s S own lp st Γ).bind fun Γ1 => chkSs ss S own lp sts Γ1
  | _, _, _, _, _, _ => none
end
structure OkS (S : SE) (X : Cx) (w : Wd) (W : WX) (m : Nat) : Prop where
  ok : OkE S X w W m
  own : PassesOwn (model X.prog X.w) X.A X.env X.xe
section
variable {S : SE} {X : Cx} {w : Wd} {W : WX} {m : Nat} {own : Bool} {lp Γ Γ' Γ1 : List Bool} {e : E} {v t : Expr} {pos : Pos}
theorem chkB_ok (ok : OkE S X w W m) (h : chkB e S v Γ = some Γ') : JT X w W v Γ Γ' (M.bnd (evE (cxN S m) e) asB) := by
  unfold chkB at h
  split at h
  · rename_i r hr
    cases h
    exact chkT_ok e ok hr
  · simp only [Option.bind_eq_some_iff, gd_some] at h
    obtain ⟨_, h1, h2⟩ := h
    exact JT.val (chkE_ok e ok h2).je (noBool_is h1)
theorem nmOk_ok (ok : OkE S X w W m) {i : Nat} {x : Str} (h : nmOk S i x = true) : X.N.Nodup ∧ X.N[i]? = some x ∧ L2.Loc X.env.scope x ∧ (X.fn x = true ∨ X.env.scope.names.lookup x = some .local) ∧ w.pa i = none := by
  unfold nmOk at h
  simp only [Bool.and_eq_true, Bool.or_eq_true, decide_eq_true_eq] at h
  obtain ⟨⟨h1, h2⟩, h3⟩ := h
  refine ⟨by rw [ok.hN]; exact ok.nd, by rw [ok.hN]; exact h1, ?_, ?_, ok.pa h3⟩
  · unfold L2.Loc
    rw [ok.sc]
    rcases h2 with h2 | h2
    · exact .inl h2
    · exact .inr h2.2
  · rcases h2 with h2 | h2
    · right; rw [ok.sc]; exact h2
    · exact .inl (ok.fn h2.1 x)
theorem noTup_sw (h : noTup v = true) {ts : List Expr} {env : Env} : swappedStores ts v env = pure none := by
  cases v <;> first | (exfalso; cases h; done) | (cases ts with | nil => rfl | cons a l => cases l <;> (cases a <;> rfl))
theorem noComp_sole {l : Nat} {env : Env} (h : noComp v = true) : swapsWithSole [t] v l env = pure false := noComp_is h
theorem asg1 (h : noStar t = true) {env : Env} : (assignEach [t] env).map (·.2) = [assign t env] := by
  cases t <;> first | rfl | cases h
theorem top_any (Γ : List Bool) : True := trivial
theorem comp_set (ok : OkE S X w W m) {el : E} {tg : Tg} {it : I} {c : Option E} {vs : List Nat} {i : Nat} {y : Str} {py : Pos} (h : chkE (.comp el tg it c vs) S v Γ = some Γ') (hn : nmOk S i y = true) (hs : swC S y py v = true) (hl : i < Γ'.length) :
    JS X w W own lp (.Assign [.Name y py] v pos) Γ (Γ'.set i true) (fun ρ => thenO (evE (cxN S m) (.comp el tg it c vs) ρ) fun d ρ1 => (bindT (.nm i) d ρ1).map .nx) := by
  simp only [chkE, Option.bind_eq_some_iff, Option.map_eq_some_iff, gd_some, Bool.and_eq_true, decide_eq_true_eq, List.all_eq_true] at h
  obtain ⟨p, hp, _, ⟨hb, hns⟩, Γ1, h1, Γt0, _, Γu0, _, Γc, _, Γt, h2, Γu, h3, Γe, h4, _, ⟨⟨⟨⟨⟨k1, k2⟩, k3⟩, k4⟩, k5⟩, k6⟩, rfl⟩ := h
  have ev := asLC_some hp
  subst ev
  obtain ⟨n1, n2, n3, n4, n5⟩ := nmOk_ok ok hn
  simp only [swC, Bool.and_eq_true, Bool.not_eq_true', decide_eq_true_eq] at hs
  obtain ⟨⟨s1, s2⟩, s3⟩ := hs
  have hyl : X.env.scope.names.lookup y = some .local := by rw [ok.sc]; exact s1
  have hsw : ∀ l, swapsWith (.ListComp p.1 [⟨p.2.1, p.2.2.1, p.2.2.2.1, 0⟩] p.2.2.2.2.1 p.2.2.2.2.2) (some (.Name y py)) l X.env = pure true := fun l => sw_true (by rw [ok.sc]; exact ok.kd) hyl s2 s3
  have hkd := blkC_kind hb
  have hvs : (ownOf S.N vs).map (·.2) = vs := by unfold ownOf; rw [List.map_map]; exact List.map_id' vs
  have hbk : BlkOk X.N X.env.scope p.2.2.2.2.1 (ownOf S.N vs) := by rw [ok.hN, ok.sc]; exact blkOk_by hb
  have jg : Cx.bk X p.2.2.2.2.1 fun X' => ∀ D o, JG X' (w.pin D o) p.2.1 Γc Γt (slotsT tg) (bindT tg) := fun s H C cl fp D o => (chkG_ok tg (blk_ok (p := D) (o := o) ok s H C cl fp hkd) h2).1
  have jel : Cx.bk X p.2.2.2.2.1 fun X' => ∀ D o, JE X' (w.pin D o) (fun _ _ _ _ => False) p.1 Γu Γe (evE (cxN S m) el) := fun s H C cl fp D o => (chkE_ok el (blk_ok (p := D) (o := o) ok s H C cl fp hkd) h4).je
  have ji : JI X w W p.2.1 p.2.2.1 Γ Γ1 (evI (cxN S m) it) := chkI_ok it ok h1
  have kv : ∀ i ∈ (ownOf S.N vs).map (·.2), Γc[i]? ≠ some true := by rw [hvs]; exact k5
  have ks : ∀ i ∈ slotsT tg, i ∈ (ownOf S.N vs).map (·.2) := by rw [hvs]; exact k6
  cases c with
  | none =>
    cases hq : p.2.2.2.1 with
    | nil =>
      rw [hq] at h3 hsw
      simp only [chkC] at h3
      cases h3
      have hsem : evE (cxN S m) (.comp el tg it none vs) = compM (evI (cxN S m) it) (bindT tg) none (evE (cxN S m) el) ((ownOf S.N vs).map (·.2)) := by rw [hvs]; exact comp_semN ..
      rw [hsem]
      exact JS.setLc ok.wk ok.calm n1 n2 hyl n5 hl (hsw _) ji hbk (noSet_is hns) (leG_le k1) (ok.lkIn k2) kv ks (leG_le k4) jg jel (leG_le k3)
    | cons => rw [hq] at h3; simp [chkC] at h3
  | some c =>
    cases hq : p.2.2.2.1 with
    | nil => rw [hq] at h3; simp [chkC] at h3
    | cons c' r =>
      cases r with
      | cons => rw [hq] at h3; simp [chkC] at h3
      | nil =>
        rw [hq] at h3 hsw
        simp only [chkC] at h3
        have hsem : evE (cxN S m) (.comp el tg it (some c) vs) = compM (evI (cxN S m) it) (bindT tg) (some (M.bnd (evE (cxN S m) c) asB)) (evE (cxN S m) el) ((ownOf S.N vs).map (·.2)) := by rw [hvs]; exact comp_semS ..
        rw [hsem]
        exact JS.setLcC ok.wk ok.calm n1 n2 hyl n5 hl (hsw _) ji hbk (noSet_is hns) (leG_le k1) (ok.lkIn k2) kv ks (leG_le k4) jg jel (fun s H C cl fp D o => chkT_ok c (S := S.blk p.2.2.2.2.1) (blk_ok (p := D) (o := o) ok s H C cl fp hkd) h3) (leG_le k3)
theorem swF_is (ok : OkE S X w W m) {y : Str} {py : Pos} {l : Nat} (hl : isLC v = true) (h : swC S y py v = false) : swapsWith v (some (.Name y py)) l X.env = pure false := by
  cases v <;> first | cases hl | skip
  rename_i el gs sc pos
  have hk : X.env.kindOf y = S.kd y := by show X.env.scope.names.lookup y = _; rw [ok.sc]; rfl
  have e1 : swapsWith (.ListComp el gs sc pos) (some (.Name y py)) l X.env = pure (X.env.blockKind == .function && X.env.kindOf y == some .local && py.line == pos.line && !(sc.names.any fun (n, k) => n == y && (k == .local || k == .cell))) := rfl
  rw [e1]
  congr 1
  rw [hk]
  simp only [swC] at h
  cases h1 : (S.kd y == some NameKind.local) with
  | false => simp
  | true =>
    have h2 : S.kd y = some .local := by
      cases e : S.kd y with
      | none => rw [e] at h1; cases h1
      | some k => rw [e] at h1; cases k <;> first | rfl | cases h1
    rw [h2] at h
    simp only [decide_true, Bool.true_and] at h
    rw [Bool.and_true, Bool.and_assoc, h]
    simp
theorem chkA_ok (ok : OkE S X w W m) {tg : Tg} (h : chkA S tg e t v Γ = some Γ') : JS X w W own lp (.Assign [t] v pos) Γ Γ' (fun ρ => thenO (evE (cxN S m) e ρ) fun d ρ1 => (bindT tg d ρ1).map .nx) := by
  unfold chkA at h
  cases tg with
  | nm i =>
    simp only [Option.bind_eq_some_iff, gd_some] at h
    obtain ⟨q, hq, _, hn, Γ1, h1, h⟩ := h
    have et := asNm_some hq
    subst et
    obtain ⟨n1, n2, n3, n4, n5⟩ := nmOk_ok ok hn
    by_cases ho : isO S.T e = true
    · rw [if_pos ho] at h
      simp only [Option.map_eq_some_iff, gd_some, Bool.and_eq_true, Bool.or_eq_true, decide_eq_true_eq] at h
      obtain ⟨_, ⟨⟨hs0, hs⟩, hl⟩, rfl⟩ := h
      by_cases hc : noComp v = true
      · have j := chkE_ok e ok h1
        rw [ho] at j
        exact JS.setO n1 n2 n3 n4 n5 hl j (noComp_is hc)
      · by_cases hw : swC S q.1 q.2 v = true
        · have hs := (hs.resolve_left fun z => z.elim hc fun z => by rw [hw] at z; cases z)
          cases e <;> first | cases hs | skip
          exact comp_set ok h1 hn hw hl
        · have j := chkE_ok e ok h1
          rw [ho] at j
          exact JS.setO n1 n2 n3 n4 n5 hl j (swF_is ok (hs0.resolve_left hc) (by simpa using hw))
    · rw [if_neg ho] at h
      simp only [Option.map_eq_some_iff, gd_some] at h
      obtain ⟨_, hc, rfl⟩ := h
      exact JS.set n1 n2 n3 n4 n5 (chkE_ok e ok h1).je (noComp_is hc)
  | tp ts =>
    simp only [Option.bind_eq_some_iff, gd_some, Bool.and_eq_true] at h
    obtain ⟨_, ⟨⟨ht, hc⟩, hs⟩, Γ1, h1, h2⟩ := h
    exact JS.asg (chkE_ok e ok h1).je (chkG_ok (.tp ts) ok h2).1 (noComp_sole hc) (noTup_sw ht) (asg1 hs)
theorem chkR_ok (ok : OkE S X w W m) (h : chkR S own e v Γ = some Γ') : JS X w W own lp (.Return (some v) pos) Γ Γ' (fun ρ => thenO (evE (cxN S m) e ρ) fun d ρ1 => some (.rt d ρ1)) := by
  unfold chkR at h
  split at h
  · simp only [Option.map_eq_some_iff, gd_some, Bool.and_eq_true, decide_eq_true_eq] at h
    obtain ⟨_, ⟨⟨⟨h1, h2⟩, h3⟩, h4⟩, rfl⟩ := h
    exact JS.retV ok.wk (ok.lkIn h4) (chkV_ok ok h1) h2 (ok.pa h3)
  · simp only [Option.map_eq_some_iff, Option.bind_eq_some_iff, gd_some] at h
    obtain ⟨_, h1, Γ1, h2, _, h3, rfl⟩ := h
    have j := chkE_ok e ok h2
    rw [h1] at j
    exact JS.retO ok.wk (ok.lkIn h3) j
  · simp only [Option.map_eq_some_iff, Option.bind_eq_some_iff, gd_some] at h
    obtain ⟨Γ1, h2, _, h3, rfl⟩ := h
    exact JS.ret ok.wk (ok.lkIn h3) (chkE_ok e ok h2).je
end
mutual
theorem chkS_ok : ∀ (s : S) {S : SE} {X : Cx} {w : Wd} {W : WX} {m : Nat} {own : Bool} {lp : List Bool} {st : Stmt} {Γ Γ' : List Bool}, OkS S X w W m → chkS s S own lp st Γ = some Γ' → JS X w W own lp st Γ Γ' (exS (cxN S m) s)
  | .asg tg e, S, X, w, W, m, own, lp, st, Γ, Γ', ok, h => by
    simp only [chkS, Option.bind_eq_some_iff] at h
    obtain ⟨p, hp, h⟩ := h
    rw [asAsg_some hp]
    exact chkA_ok ok.ok h
  | .set i ix e, S, X, w, W, m, own, lp, st, Γ, Γ', ok, h => by
    simp only [chkS, Option.bind_eq_some_iff, Option.map_eq_some_iff, gd_some, Bool.and_eq_true, decide_eq_true_eq] at h
    obtain ⟨p, hp, q, hq, _, ⟨⟨⟨h1, h2⟩, h3⟩, h4⟩, Γ1, h5, _, h6, Γ2, h7, _, h8, rfl⟩ := h
    rw [asAsg_some hp, asSub_some hq]
    refine JS.setIx ok.ok.wk ok.ok.hK (chkE_ok e ok.ok h5).je (chkV_ok ok.ok h4) (chkE_ok ix ok.ok h7).je h8 h6 (noComp_sole h2) (noTup_sw h1) (fun v => ?_) rfl
    generalize q.2.1 = z at h3
    cases z <;> first | rfl | cases h3
  | .ex e, S, X, w, W, m, own, lp, st, Γ, Γ', ok, h => by
    simp only [chkS, Option.bind_eq_some_iff, gd_some] at h
    obtain ⟨p, hp, _, h1, h2⟩ := h
    rw [asExS_some hp]
    exact JS.ex (chkE_ok e ok.ok h2).je (noComp_is h1)
  | .ret e, S, X, w, W, m, own, lp, st, Γ, Γ', ok, h => by
    simp only [chkS, Option.bind_eq_some_iff] at h
    obtain ⟨p, hp, h⟩ := h
    rw [asRet_some hp]
    exact chkR_ok ok.ok h
  | .retN, S, X, w, W, m, own, lp, st, Γ, Γ', ok, h => by
    simp only [chkS, Option.bind_eq_some_iff, Option.map_eq_some_iff, gd_some, Bool.and_eq_true, Bool.not_eq_true'] at h
    obtain ⟨p, hp, _, ⟨h1, h2⟩, rfl⟩ := h
    rw [asRetN_some hp, h1]
    exact JS.retN ok.ok.wk (ok.ok.lkIn h2)
  | .ife c a b, S, X, w, W, m, own, lp, st, Γ, Γ', ok, h => by
    simp only [chkS, Option.bind_eq_some_iff, Option.map_eq_some_iff, gd_some, Bool.and_eq_true] at h
    obtain ⟨p, hp, Γ1, h1, Γ2, h2, Γ3, h3, _, ⟨⟨h4, h5⟩, h6⟩, rfl⟩ := h
    rw [asIfS_some hp]
    exact JS.ife (chkB_ok ok.ok h1) ((chkSs_ok a ok h2).weak (leG_le h5) (ok.ok.lkIn h4)) ((chkSs_ok b ok h3).weak (leG_le h6) (ok.ok.lkIn h4))
  | .fr tg it b lq, S, X, w, W, m, own, lp, st, Γ, Γ', ok, h => by
    simp only [chkS, Option.bind_eq_some_iff, Option.map_eq_some_iff, gd_some, Bool.and_eq_true] at h
    obtain ⟨p, hp, _, ⟨h1, h2⟩, Γ1, h3, _, h4, Γ2, h5, Γ3, h6, _, h7, rfl⟩ := h
    rw [asFor_some hp]
    exact JS.fr ok.ok.wk ok.own ok.ok.calm (noSet_is h1) (chkI_ok it ok.ok h3) (leG_le h4) (ok.ok.lkIn h2) (chkG_ok tg ok.ok h5).1 (chkSs_ok b ok h6) (leG_le h7)
  | .whl c b lq, S, X, w, W, m, own, lp, st, Γ, Γ', ok, h => by
    simp only [chkS, Option.bind_eq_some_iff, Option.map_eq_some_iff, gd_some, Bool.and_eq_true] at h
    obtain ⟨p, hp, _, ⟨h1, h2⟩, Γ1, h3, Γ2, h4, _, ⟨⟨h5, h6⟩, h7⟩, rfl⟩ := h
    rw [asWhl_some hp]
    have hsem : exS (cxN S m) (.whl c b lq) = whlL (M.bnd (evE (cxN S m) c) asB) (exSs (cxN S m) b) fuelW := by funext ρ; rw [exS]
    rw [hsem]
    exact JS.whl ok.own (leG_le h1) (ok.ok.lkIn h2) (chkB_ok ok.ok h3) (chkSs_ok b ok h4) (leG_le h5) (leG_le h6) (ok.ok.lkIn h7)
  | .brk, S, X, w, W, m, own, lp, st, Γ, Γ', ok, h => by
    simp only [chkS, Option.map_eq_some_iff, gd_some, Bool.and_eq_true] at h
    obtain ⟨_, ⟨⟨h1, h2⟩, h3⟩, rfl⟩ := h
    cases st <;> first | cases h1 | skip
    exact JS.brk (leG_le h2) (ok.ok.lkIn h3)
  | .cnt, S, X, w, W, m, own, lp, st, Γ, Γ', ok, h => by
    simp only [chkS, Option.map_eq_some_iff, gd_some, Bool.and_eq_true] at h
    obtain ⟨_, ⟨⟨h1, h2⟩, h3⟩, rfl⟩ := h
    cases st <;> first | cases h1 | skip
    exact JS.cnt (leG_le h2) (ok.ok.lkIn h3)
  | .pas, S, X, w, W, m, own, lp, st, Γ, Γ', ok, h => by
    simp only [chkS, Option.map_eq_some_iff, gd_some] at h
    obtain ⟨_, h1, rfl⟩ := h
    unfold isPas at h1
    split at h1
    · exact JS.pass
    · exact JS.doc
    · cases h1
  | .kill _, S, X, w, W, m, own, lp, st, Γ, Γ', ok, h => by simp [chkS] at h
theorem chkSs_ok : ∀ (ss : List S) {S : SE} {X : Cx} {w : Wd} {W : WX} {m : Nat} {own : Bool} {lp : List Bool} {sts : List Stmt} {Γ Γ' : List Bool}, OkS S X w W m → chkSs ss S own lp sts Γ = some Γ' → JSs X w W own lp sts Γ Γ' (exSs (cxN S m) ss)
  | [], S, X, w, W, m, own, lp, sts, Γ, Γ', ok, h => by
    cases sts with
    | nil => simp only [chkSs] at h; cases h; exact JSs.nil
    | cons => simp [chkSs] at h
  | s :: ss, S, X, w, W, m, own, lp, sts, Γ, Γ', ok, h => by
    by_cases hk : ∃ is, s = .kill is
    · obtain ⟨is, rfl⟩ := hk
      have h : chkSs ss S own lp sts Γ = some Γ' := by
        cases sts <;> exact h
      exact JSs.kill (chkSs_ok ss ok h)
    · cases sts with
      | nil => cases s <;> first | (simp [chkSs] at h; done) | exact absurd ⟨_, rfl⟩ hk
      | cons st sts =>
        have h : (chkS s S own lp st Γ).bind (fun Γ1 => chkSs ss S own lp sts Γ1) = some Γ' := by
          cases s <;> first | exact h | exact absurd ⟨_, rfl⟩ hk
        simp only [Option.bind_eq_some_iff] at h
        obtain ⟨Γ1, h1, h2⟩ := h
        exact JSs.cons (chkS_ok s ok h1) (chkSs_ok ss ok h2)
end
end VF

end
section
set_option Elab.async false
set_option linter.all false
set_option autoImplicit false
set_option maxRecDepth 100000
set_option maxHeartbeats 4000000
/-! VW: all defs of a text at once; the law. -/
namespace VF
open PySem PySem.Spec L2
def scopeC (N ps : List Str) (sc : Scope) : Bool :=
  decide (sc.kind = .function) && !sc.isCoroutine && !sc.isGenerator && decide N.Nodup && decide (N.take ps.length = ps) && (ps.all fun x => decide (sc.names.lookup x = some .local) || decide (sc.names.lookup x = some .cell)) && sc.names.all fun y => decide (y.2 ≠ .free)
theorem scopeC_ok {N ps : List Str} {sc : Scope} (h : scopeC N ps sc = true) : FnScope N ps sc := by
  unfold scopeC at h
  simp only [Bool.and_eq_true, Bool.not_eq_true', decide_eq_true_eq, List.all_eq_true, Bool.or_eq_true] at h
  obtain ⟨⟨⟨⟨⟨⟨a, b⟩, c⟩, d⟩, e⟩, f⟩, g⟩ := h
  exact ⟨a, b, c, d, e, f, g⟩
def seOf (T : List Fn) (bl : List Str) (fn : Fn) (st : Stmt) : SE := ⟨fn.N, defScope st, true, [], lkOf fn.mu fn.N.length, T, bl⟩
/-- the look at one def -/
def chkFn (T : List Fn) (bl : List Str) (fn : Fn) (st : Stmt) : Bool :=
  scopeC fn.N fn.ps (defScope st) && decide (fn.mu.length ≤ fn.ps.length) && decide (fn.ps.length ≤ fn.N.length) &&
  (match chkSs fn.body (seOf T bl fn st) fn.own [] (defBody st) (lkOf fn.mu fn.N.length) with
    | some Γe => leG (lkOf fn.mu fn.N.length) Γe
    | none => false)
/-- a def as the top has left it -/
structure Lnk (K : PySem.W.Frag) (mg : Str → Option Value) (fn : Fn) (st : Stmt) : Prop where
  ex : ∃ fa fd, Fun K fn.name fn.name st fa fd ∧ mg fn.name = some (.ref fa) ∧ ∀ us : List Value, us.length = fn.ps.length → bindArgs fd ⟨us, []⟩ = pure (fn.ps.zip us)
def LnkAll (K : PySem.W.Frag) (mg : Str → Option Value) : List Fn → List Stmt → Prop
  | [], [] => True
  | fn :: T, st :: sts => Lnk K mg fn st ∧ LnkAll K mg T sts
  | _, _ => False
def chkAll (T0 : List Fn) (bl : List Str) : List Fn → List Stmt → Bool
  | [], [] => true
  | fn :: T, st :: sts => chkFn T0 bl fn st && chkAll T0 bl T sts
  | _, _ => false
theorem all_get {K : PySem.W.Frag} {mg : Str → Option Value} {T0 : List Fn} {bl : List Str} : ∀ {T : List Fn} {sts : List Stmt}, LnkAll K mg T sts → chkAll T0 bl T sts = true → ∀ (f : Nat) (fn : Fn), T[f]? = some fn → ∃ st, Lnk K mg fn st ∧ chkFn T0 bl fn st = true
  | [], [], _, _, f, fn, h => by simp at h
  | [], _ :: _, h, _, _, _, _ => False.elim h
  | _ :: _, [], h, _, _, _, _ => False.elim h
  | a :: T, st :: sts, h, c, f, fn, e => by
    simp only [chkAll, Bool.and_eq_true] at c
    cases f with
    | zero =>
      have : a = fn := by simpa using e
      subst this
      exact ⟨st, h.1, c.1⟩
    | succ f => exact all_get h.2 c.2 f fn (by simpa using e)
section
variable {P : Program} {wd : World} {K : PySem.W.Frag} {mg : Str → Option Value} {bs : Heap} {T : List Fn} {sts : List Stmt} {bl : List Str} {xc : Str → Option Addr}
theorem fn_all (hl : LnkAll K mg T sts) (hc : chkAll T bl T sts = true) (hb : ∀ x ∈ bl, mg x = none) : ∀ (n f : Nat) (fn : Fn) (st : Stmt) (fa : Addr) (fd : FuncData), T[f]? = some fn → chkFn T bl fn st = true → Fun K fn.name fn.name st fa fd → FnG P wd K mg bs n fa fd fn.ps (spC T K xc n f)
  | 0, f, fn, st, fa, fd, h, c, F => ⟨fun xs G R E z => False.elim z, fun A out s G args us xs R E _ _ _ _ _ z => False.elim z⟩
  | n + 1, f, fn, st, fa, fd, h, c, F => by
    have ih := fn_all hl hc hb n
    unfold chkFn at c
    simp only [Bool.and_eq_true, decide_eq_true_eq] at c
    obtain ⟨⟨⟨c1, c2⟩, c3⟩, c4⟩ := c
    have S := scopeC_ok c1
    split at c4
    · rename_i Γe hΓ
      refine fn_body (lp := []) F S h c2 c3 (leG_le c4) fun cdv A out s G E w hr ha k1 k2 k3 wk => ?_
      refine chkSs_ok fn.body ⟨?_, passes_of rfl⟩ hΓ
      refine ⟨rfl, S.nd, rfl, S.kind, fun _ _ => rfl, fun _ z => (by cases z), k1.symm, rfl, ⟨by have := hr.un; show (A.deeper _).units + 100 < _; omega, ha⟩, hr, takes_of rfl rfl rfl rfl, hb, fun g gn hg => ?_, wk, k3⟩
      obtain ⟨st', ⟨fa', fd', h1, h2, h3⟩, c'⟩ := all_get hl hc g gn hg
      exact ⟨fa', fd', h2, h1.kp, .all h3, by rw [k2]; exact ih g gn st' fa' fd' hg c' h1⟩
    · cases c4
end
/-- what the law's def is asked -/
theorem law_sp {K : PySem.W.Frag} {T : List Fn} {xc : Str → Option Addr} {n f : Nat} {fn : Fn} {H : Hp} {a : Addr} {ns : List Int} (hT : T[f]? = some fn) (hp : fn.ps.length = 1) (hm : fn.mu = []) (ho : fn.own = false) (hl : ns.length ≤ 16777216)
    (hS : SqL K H a (ns.map V.int)) (h : ∃ outs, callN T (n + 1) f [.list (ns.map .int)] = some (.ok (.bool true) outs)) : spC T K xc (n + 1) f [.ref a] H (fun v _ => v = .bl true) fun _ _ _ => False := by
  obtain ⟨outs, h⟩ := h
  obtain ⟨n', o, e, h1, h2, h3⟩ := callN_succ hT h
  cases e
  have hh : Same H (hid H fun a => False ∨ ∃ j, (fun _ : Nat => (none : Option Addr)) j = some a) := fun b u e => by
    rw [hid_out]
    · exact e
    · rintro (z | ⟨_, z⟩) <;> cases z
  have ra : ∀ (B : Hp) (ns : List Int), RpAll K B (ns.map V.int) (ns.map PyData.int) := fun B ns => by
    induction ns with
    | nil => exact .nil
    | cons i l ih => exact .cons .int ih
  refine ⟨fn, fun _ => False, fun _ => none, _, hT, h1, ⟨rfl, fun i d hd _ => ?_, fun i d hd hmu => ?_, fun i j p z _ => (nomatch z), fun i p z => (nomatch z), fun _ z => False.elim z⟩, ?_⟩
  · cases i with
    | zero =>
      cases hd
      exact ⟨_, rfl, .lst (hh.seq hS) (ra _ ns) (by simpa [okLen] using hl)⟩
    | succ i => simp at hd
  · rw [hm] at hmu; simp at hmu
  · rw [h2]
    cases o with
    | rt d ρ =>
      unfold outCR at h3
      simp only [Option.map_eq_some_iff] at h3
      obtain ⟨_, _, e⟩ := h3
      cases e
      rw [ho]
      exact fun v H' _ rv => rv.unbool
    | nx ρ =>
      unfold outCR at h3
      rw [ho] at h3
      have h3 : (mutOuts fn.mu ρ).map (fun o => CR.ok .none o) = some (.ok (.bool true) outs) := h3
      simp only [Option.map_eq_some_iff] at h3
      obtain ⟨_, _, e⟩ := h3
      cases e
    | ex e ρ =>
      unfold outCR at h3
      simp only [Option.map_eq_some_iff] at h3
      obtain ⟨_, _, e⟩ := h3
      cases e
    | bk ρ => cases h3
    | ct ρ => cases h3
/-! ### the law at the heap behind the top -/
open PyProof.Rows
section
variable {P : Program} {wd : World} {K : PySem.W.Frag} {mg mb : Str → Option Value} {k : Nat} {fa a : Addr} {fd : FuncData} {x : Str} {sp : Sp} {z : Shared} {us : List Value} {ns : List Int}
/-- what stands at the law's call: the script alone may be known -/
structure Dawn (P : Program) (wd : World) (K : PySem.W.Frag) (a : Addr) (z : Shared) (G : Hp) : Prop where
  only : Only G
  held : HOk P wd G z.heap
  lone : ∀ b, G b ≠ none → b = a
  own : G a ≠ none → K.lookup a = none
theorem enterG (kin : K.In z.heap) (hns : z.heap.Ns mainGlobals mg) (hmb : z.heap.Ns builtinsNs mb) (hbb : ∀ y : Str, y ≠ "__name__" → mb y = bootBuiltins y) (nol : z.heap.NoLimit) (hg : z.gens = #[])
    (ho : z.heap.get? a = some { cls := .type "list", data := .seq us.toArray }) (hr : Room k callerA) {G : Hp} (FF : ∀ bs : Heap, K.In bs → bs.Ns mainGlobals mg → FnG P wd K mg bs k fa fd [x] sp)
    (hbi : ∀ (s : Shared) (u : Value), BindsTo s fd ⟨[u], []⟩ [(x, u)]) (hS : sp [.ref a] G (fun v _ => v = .bl true) fun _ _ _ => False) (dn : Dawn P wd K a z G) :
    codeAny (model P wd) callerA (.call (.ref fa) ⟨[.ref a], []⟩) (fun r t => r = .ok (.ret (.bool true)) ∧ OldK z.heap t.heap ∧ t.os = z.os ∧ AllBare t.gens) z := by
  have up : ∀ {b : Addr} {o : Obj}, z.heap.get? b = some o → G b = none → (hidT z.heap G).get? b = some o := fun e n => hidT_get e n
  have dfree : ∀ {b : Addr} {o : Obj} {es : Array DictEntry} {ep : Nat}, z.heap.get? b = some o → o.data = .dict es ep → G b = none := fun {b o es ep} e d => by
    by_cases q : G b = none
    · exact q
    · have := dn.lone b q
      subst this
      rw [ho] at e
      cases e
      cases d
  have nsup : ∀ {b : Addr} {mm : Str → Option Value}, z.heap.Ns b mm → (hidT z.heap G).Ns b mm := fun {b mm} q => by
    obtain ⟨o, es, ep, e, d, r⟩ := q
    exact ⟨o, es, ep, up e (dfree e d), d, r⟩
  have kup : K.In (hidT z.heap G) := fun b o e => up (kin b o e) (by
    by_cases q : G b = none
    · exact q
    · have hb := dn.lone b q
      subst hb
      rw [dn.own q] at e
      cases e)
  obtain ⟨mc, n1, n2⟩ := nol
  have e0 : Env0 P wd K mg (hidT z.heap G) callerA [] z G :=
    { frames := rfl, mod := ⟨kup, nsup hns, ⟨mb, nsup hmb, hbb⟩, ⟨mc, nsup n1, n2⟩⟩, bs := fun b o e => of_hidT e, bsz := Nat.le_of_eq (hidT_size _ _), funs := trivial,
      frf := fun b hb => (nomatch (show b ∈ ([] : List Addr) from hb)), hok := dn.held, bare := .of_eq hg }
  refine codeAny_mono ((FF _ kup (nsup hns)).go callerA [] z G ⟨[.ref a], []⟩ [.ref a] [.ref a] _ _ hr rfl e0 (hbi z (.ref a)) (.cons rfl .nil) hS) fun r t h => ?_
  cases r with
  | error e =>
    obtain ⟨_, _, _, _, _, _, _, _, _, _, _, _, y⟩ := h
    exact False.elim y
  | ok fl =>
    cases fl with
    | ret u =>
      obtain ⟨v, G', os, bare, un, hok', rv, q⟩ := h
      have q : v = .bl true := q
      subst q
      obtain rfl : u = Value.bool true := rv
      refine ⟨rfl, OldK.of_keep fun b o e => ?_, os, bare⟩
      cases q : G b with
      | none => exact un.keep b o e q (fun y => (nomatch (show b ∈ ([] : List Addr) from y))) (fun y => (nomatch y))
      | some w =>
        rcases dn.only b with y | ⟨ob, xs, y⟩
        · rw [q] at y; cases y
        · obtain ⟨e1, _⟩ := dn.held b _ y
          obtain ⟨e2, _⟩ := hok' b _ (un.frzs b ob _ y)
          rw [e] at e1
          cases e1
          exact e2
    | next => exact False.elim h
    | brk => exact False.elim h
    | cont => exact False.elim h
theorem dawn_of (kin : K.In z.heap) (ho : z.heap.get? a = some { cls := .type "list", data := .seq us.toArray }) (hi : IntsAre us ns) (hl : ns.length ≤ sizeLine) : ∃ G, Dawn P wd K a z G ∧ SqL K G a (ns.map V.int) := by
  have rv := L2.vals_ints hi
  have ll := hi.length
  cases hk : K.lookup a with
  | some o =>
    have e := kin a o hk
    rw [ho] at e
    cases e
    exact ⟨fun _ => none, ⟨fun _ => .inl rfl, (fun b u y => nomatch (show (none : Option HO) = some u from y)), fun b y => absurd rfl y, fun y => absurd rfl y⟩,
      .inr ⟨_, us.toArray, _, hk, rfl, rfl, rfl, by rw [List.size_toArray, ll]; exact hl, by simpa using rv⟩⟩
  | none =>
    refine ⟨fun b => if b = a then some (.frz { cls := .type "list", data := .seq us.toArray } (.lst (ns.map V.int))) else none, ⟨fun b => ?_, fun b u y => ?_, fun b y => ?_, fun _ => hk⟩, .inl (.inr ⟨_, if_pos rfl⟩)⟩
    all_goals (by_cases hb : b = a)
    · exact .inr ⟨_, _, if_pos hb⟩
    · exact .inl (if_neg hb)
    · have y := (if_pos hb).symm.trans y
      cases y
      subst hb
      exact ⟨ho, by rw [List.length_map]; exact hl, us, _, rv, ho⟩
    · cases (if_neg hb).symm.trans y
    · exact hb
    · exact absurd (if_neg hb) y
end
theorem walkV {l : PySem.W.OpenLaw} {n k : Nat} {q : Program} {loose : List Str} {XP : (Str → Option Value) → Heap → Prop} {YP : World → Heap → Prop} {d : DefRec} {K : Params → PySem.W.Frag} {sp : World → Sp} {x : Str}
    (hn : l.most = some n) (hz : n ≤ sizeLine) (hd : d.params.defaults = []) (hr : Room k callerA) (hY : ∀ (w : World) (h : Heap), YP w h → (K w.params).In h)
    (FF : ∀ (w : World) (mg : Str → Option Value) (fa : Addr) (h : Heap), (K w.params).In h → h.Ns mainGlobals mg → mg d.name = some (.ref fa) →
      ∃ fd : FuncData, (∀ (s : Shared) (u : Value), BindsTo s fd ⟨[u], []⟩ [(x, u)]) ∧ ∀ bs : Heap, (K w.params).In bs → bs.Ns mainGlobals mg → FnG l.prog w (K w.params) mg bs k fa fd [x] (sp w))
    (hS : ∀ (w : World) (G : Hp) (a : Addr) (ns : List Int), ns.length ≤ n → (∀ i ∈ ns, Builtin.Int.intBits i ≤ 1048576) → SqL (K w.params) G a (ns.map V.int) → sp w [.ref a] G (fun v _ => v = .bl true) fun _ _ _ => False) :
    PySem.W.WalkO q loose XP YP l.row.toRowW d [] (fun f vs => PySem.call f vs) := by
  refine Att.attach_callB hn hd fun w s0 z mg mb fa o pm cd doc a us ns G Y ho hdd hcd hmg hobj hints hlen hbits hg => ?_
  have kin := hY w _ Y
  obtain ⟨fd, hb, hF⟩ := FF w mg fa _ kin G.T.g hmg
  obtain ⟨G1, dn, sq⟩ := dawn_of (P := l.prog) (wd := w) kin hobj hints (Nat.le_trans hlen hz)
  exact enterG kin G.T.g G.T.b G.T.builtins G.T.nolimit hg hobj hr hF hb (hS w G1 a ns hlen hbits sq) dn
/-- what a law asks of the text -/
theorem lawV {K : PySem.W.Frag} {T : List Fn} {sts : List Stmt} {bl : List Str} {m f : Nat} {fn : Fn} {x : Str} {P : Program} {w : World} {mg : Str → Option Value} {fa : Addr} (hT : T[f]? = some fn) (hp : fn.ps = [x]) (hc : chkAll T bl T sts = true)
    (hb : ∀ x ∈ bl, mg x = none) (hl : LnkAll K mg T sts) (hmg : mg fn.name = some (.ref fa)) :
    ∃ fd : FuncData, (∀ (s : Shared) (u : Value), BindsTo s fd ⟨[u], []⟩ [(x, u)]) ∧ ∀ bs : Heap, K.In bs → bs.Ns mainGlobals mg → FnG P w K mg bs m fa fd [x] (spC T K (fun _ => none) m f) := by
  obtain ⟨st, ⟨fa', fd, h1, h2, h3⟩, c⟩ := all_get hl hc f fn hT
  rw [hmg] at h2
  cases h2
  refine ⟨fd, fun s u => .of_eq ?_, fun bs _ _ => ?_⟩
  · have := h3 [u] (by rw [hp]; rfl)
    rw [hp] at this
    exact this
  · have := fn_all (P := P) (wd := w) (bs := bs) (xc := fun _ => none) hl hc hb m f fn st fa fd hT c h1
    rw [hp] at this
    exact this
/-- a def as the head finds it -/
theorem lnk_mk {K : PySem.W.Frag} {mg : Str → Option Value} {h : Heap} {fn : Fn} {st : Stmt} {x : Str} {f : Addr} {oc kV doc pm cdv ct : Value} {od an : Option Addr} {osl : Array (Option Value)} (kin : K.In h) (hns : h.Ns mainGlobals mg) (hx : fn.name = x)
    (a : PySem.W.nsIn K mainGlobals x = some (some (.ref f))) (l : K.lookup f = some ⟨oc, od, .func (PySem.W.fnOf x x (defArgs st) (defBody st) (defScope st) .none kV doc pm an cdv ct), osl⟩) (c : PySem.W.codeIn K cdv x = true) (k : PySem.W.keepIn K (.ref f) = true)
    (b : ∀ (kV doc pm : Value) (an : Option Addr) (cdv ct : Value) (us : List Value), us.length = fn.ps.length → bindArgs (PySem.W.fnOf x x (defArgs st) (defBody st) (defScope st) .none kV doc pm an cdv ct) ⟨us, []⟩ = pure (fn.ps.zip us)) : Lnk K mg fn st := by
  subst hx
  exact ⟨f, _, fun_mk l c k, PySem.W.mg_of kin hns a, b _ _ _ _ _ _⟩
theorem chkAll_cons {T0 T : List Fn} {bl : List Str} {fn : Fn} {st : Stmt} {sts : List Stmt} (h : chkFn T0 bl fn st = true) (g : chkAll T0 bl T sts = true) : chkAll T0 bl (fn :: T) (st :: sts) = true := by
  unfold chkAll; rw [h, g]; rfl
end VF

end
section
set_option Elab.async false
set_option linter.all false
set_option autoImplicit false
set_option maxRecDepth 100000
set_option maxHeartbeats 1000000
/-! VX: plain proofs about the small language: what an evaluation, a statement, a call comes to. -/
namespace VF
open PySem L2
/-- an evaluation ends well with Q, or with an error and E -/
def Wp {α : Type} (m : M α) (ρ : Rho) (Q : α → Rho → Prop) (E : Exn → Rho → Prop) : Prop := match m ρ with
  | none => False
  | some (.ok a ρ') => Q a ρ'
  | some (.ex e ρ') => E e ρ'
/-- what is wanted behind a statement -/
structure Kn where
  N : Rho → Prop
  R : D → Rho → Prop
  B : Rho → Prop := fun _ => False
  C : Rho → Prop := fun _ => False
  E : Exn → Rho → Prop := fun _ _ => False
def Kn.on (K : Kn) : Option Out → Prop
  | none => False
  | some (.nx ρ) => K.N ρ
  | some (.bk ρ) => K.B ρ
  | some (.ct ρ) => K.C ρ
  | some (.rt d ρ) => K.R d ρ
  | some (.ex e ρ) => K.E e ρ
section
variable {α β : Type} {ρ : Rho} {E : Exn → Rho → Prop}
theorem wp_bnd {x : M α} {f : α → M β} {Q : β → Rho → Prop} : Wp (M.bnd x f) ρ Q E = Wp x ρ (fun a ρ1 => Wp (f a) ρ1 Q E) E := by
  unfold Wp M.bnd
  cases x ρ with
  | none => rfl
  | some r => cases r <;> rfl
theorem wp_ret {a : α} {Q : α → Rho → Prop} : Wp (M.ret a) ρ Q E = Q a ρ := Eq.trans rfl rfl
theorem wp_none {Q : α → Rho → Prop} : Wp (fun _ => none : M α) ρ Q E = False := Eq.trans rfl rfl
theorem wp_lift {o : Option α} {Q : α → Rho → Prop} : Wp (M.lift o) ρ Q E = ∃ a, o = some a ∧ Q a ρ := by
  unfold Wp M.lift
  cases o <;> simp
theorem wp_ite {c : Bool} {x y : M α} {Q : α → Rho → Prop} : Wp (if c then x else y) ρ Q E = if c then Wp x ρ Q E else Wp y ρ Q E := by cases c <;> rfl
theorem wp_itep {c : Prop} [Decidable c] {x y : M α} {Q : α → Rho → Prop} : Wp (if c then x else y) ρ Q E = if c then Wp x ρ Q E else Wp y ρ Q E := by split <;> rfl
theorem wp_s {i : Nat} {Q : D → Rho → Prop} : Wp (rdP (.s i)) ρ Q E = ∃ d, ρ[i]? = some (some d) ∧ Q d ρ := by
  have hr : rdP (.s i) ρ = (match ρ[i]? with | some (some d) => some (.ok d ρ) | _ => none) := rfl
  unfold Wp
  rw [hr]
  cases e : ρ[i]? with
  | none => simp
  | some o => cases o <;> simp
theorem wp_d {x : D} {Q : D → Rho → Prop} : Wp (rdP (.d x)) ρ Q E = Q x ρ := Eq.trans rfl rfl
theorem wp_pv {i : Nat} {x : M D} {Q : Pd → Rho → Prop} : Wp (opnd (.var i) x) ρ Q E = ∃ d, ρ[i]? = some (some d) ∧ Q (.s i) ρ := by
  have hr : opnd (.var i) x ρ = (match ρ[i]? with | some (some _) => some (.ok (.s i) ρ) | _ => none) := rfl
  unfold Wp
  rw [hr]
  cases e : ρ[i]? with
  | none => simp
  | some o => cases o <;> simp
theorem wp_asB {d : D} {Q : Bool → Rho → Prop} : Wp (asB d) ρ Q E = ∃ b, d = .bool b ∧ Q b ρ := by
  cases d <;> simp [asB, Wp, M.ret]
theorem wp_mono {m : M α} {Q Q' : α → Rho → Prop} {E' : Exn → Rho → Prop} (h : Wp m ρ Q E) (k : ∀ a ρ, Q a ρ → Q' a ρ) (k2 : ∀ e ρ, E e ρ → E' e ρ) : Wp m ρ Q' E' := by
  unfold Wp at h ⊢
  cases e : m ρ with
  | none => rw [e] at h; exact h
  | some r => rw [e] at h; cases r with
    | ok a ρ' => exact k _ _ h
    | ex a ρ' => exact k2 _ _ h
/-! a call -/
theorem wp_call {X : Ctx} {f : Nat} {ps : List Pd} {Q : D → Rho → Prop} : Wp (callM X f ps) ρ Q E = Wp (rdPs ps) ρ (fun ds ρ1 => match X.C f ds with
    | none => False
    | some (.ok d outs) => ∃ ρ2, outsTo (X.sg f) ps outs ρ1 = some ρ2 ∧ Q d ρ2
    | some (.ex e outs) => ∃ ρ2, outsTo (X.sg f) ps outs ρ1 = some ρ2 ∧ E e ρ2) E := by
  unfold callM
  rw [wp_bnd]
  congr 1
  funext ds ρ1
  unfold Wp
  cases X.C f ds with
  | none => rfl
  | some r => cases r <;> (dsimp only; cases outsTo (X.sg f) ps _ ρ1 <;> simp)
end
/-! statements -/
section
variable {X : Ctx} {ρ : Rho} {K : Kn} {ss : List S}
/-- (a structure, so that nothing runs it by unfolding) -/
structure Rn (X : Ctx) (ss : List S) (ρ : Rho) (K : Kn) : Prop where
  out : K.on (exSs X ss ρ)
theorem rn_eq : Rn X ss ρ K = K.on (exSs X ss ρ) := propext ⟨Rn.out, Rn.mk⟩
theorem rn_nil : Rn X [] ρ K = K.N ρ := rn_eq
theorem rn_cons {s : S} : Rn X (s :: ss) ρ K = ({ K with N := fun ρ1 => Rn X ss ρ1 K } : Kn).on (exS X s ρ) := by
  simp only [rn_eq]
  rw [exSs]
  cases exS X s ρ with
  | none => rfl
  | some o => cases o <;> rfl
theorem on_then {α : Type} {m : M α} {f : α → Rho → Option Out} : K.on (thenO (m ρ) f) = Wp m ρ (fun a ρ1 => K.on (f a ρ1)) K.E := by
  unfold Wp thenO
  cases m ρ with
  | none => rfl
  | some r => cases r <;> rfl
theorem s_asg {tg : Tg} {e : E} : K.on (exS X (.asg tg e) ρ) = Wp (evE X e) ρ (fun d ρ1 => ∃ ρ2, bindT tg d ρ1 = some ρ2 ∧ K.N ρ2) K.E := by
  rw [exS, on_then]
  congr 1
  funext d ρ1
  cases bindT tg d ρ1 <;> simp [Kn.on]
theorem s_ex {e : E} : K.on (exS X (.ex e) ρ) = Wp (evE X e) ρ (fun _ ρ1 => K.N ρ1) K.E := by rw [exS, on_then]; rfl
theorem s_ret {e : E} : K.on (exS X (.ret e) ρ) = Wp (evE X e) ρ (fun d ρ1 => K.R d ρ1) K.E := by rw [exS, on_then]; rfl
theorem s_retN : K.on (exS X .retN ρ) = K.R .none ρ := Eq.trans rfl rfl
theorem s_pas : K.on (exS X .pas ρ) = K.N ρ := Eq.trans rfl rfl
theorem s_brk : K.on (exS X .brk ρ) = K.B ρ := Eq.trans rfl rfl
theorem s_cnt : K.on (exS X .cnt ρ) = K.C ρ := Eq.trans rfl rfl
theorem s_ife {c : E} {a b : List S} : K.on (exS X (.ife c a b) ρ) = Wp (M.bnd (evE X c) asB) ρ (fun t ρ1 => if t then Rn X a ρ1 K else Rn X b ρ1 K) K.E := by
  simp only [rn_eq]
  rw [exS, on_then]
  congr 1
  funext t ρ1
  cases t <;> rfl
theorem s_set {i : Nat} {ix e : E} : K.on (exS X (.set i ix e) ρ) = Wp (evE X e) ρ (fun d ρ1 => (∃ d0, ρ1[i]? = some (some d0)) ∧ Wp (evE X ix) ρ1 (fun k ρ2 => ∃ xs n j, ρ2[i]? = some (some (.list xs)) ∧ k = .int n ∧ ixN xs.length n = some j ∧ K.N (ρ2.set i (some (.list (xs.set j d))))) K.E) K.E := by
  rw [exS, on_then]
  congr 1
  funext d ρ1
  cases h0 : ρ1[i]? with
  | none => simp [thenO, Kn.on]
  | some o =>
    cases o with
    | none => simp [thenO, Kn.on]
    | some d0 =>
      simp only [Option.some.injEq, exists_eq', true_and]
      rw [on_then]
      congr 1
      funext k ρ2
      cases h1 : ρ2[i]? with
      | none => simp [Kn.on]
      | some o =>
        cases o with
        | none => simp [Kn.on]
        | some d1 =>
          cases d1 <;> cases k <;> try (simp [Kn.on]; done)
          rename_i xs n
          cases e2 : ixN xs.length n with
          | none => simp [Kn.on, e2]
          | some j => simp [Kn.on, e2]
theorem s_fr {tg : Tg} {it : I} {b : List S} {lq : List Bool} : K.on (exS X (.fr tg it b lq) ρ) = Wp (evI X it) ρ (fun ds ρ1 => K.on (forL (bindT tg) (exSs X b) ds ρ1)) K.E := by rw [exS, on_then]
/-- a loop by an invariant: what the turns behind do with the items that are left -/
theorem for_nil {bnd : D → Rho → Option Rho} {b : Rho → Option Out} : K.on (forL bnd b [] ρ) = K.N ρ := Eq.trans rfl rfl
theorem for_cons {bnd : D → Rho → Option Rho} {b : Rho → Option Out} {x : D} {xs : List D} : K.on (forL bnd b (x :: xs) ρ) = ∃ ρ1, bnd x ρ = some ρ1 ∧ ({ K with N := fun ρ2 => K.on (forL bnd b xs ρ2), C := fun ρ2 => K.on (forL bnd b xs ρ2), B := K.N } : Kn).on (b ρ1) := by
  rw [forL]
  cases bnd x ρ with
  | none => simp [Kn.on]
  | some ρ1 =>
    simp only [Option.some.injEq, exists_eq_left']
    cases b ρ1 with
    | none => rfl
    | some o => cases o <;> rfl
theorem for_inv {bnd : D → Rho → Option Rho} {b : Rho → Option Out} (P : List D → Rho → Prop) (h0 : ∀ ρ, P [] ρ → K.N ρ)
    (hs : ∀ x xs ρ, P (x :: xs) ρ → ∃ ρ1, bnd x ρ = some ρ1 ∧ ({ K with N := P xs, C := P xs, B := K.N } : Kn).on (b ρ1)) : ∀ ds ρ, P ds ρ → K.on (forL bnd b ds ρ)
  | [], ρ, h => h0 ρ h
  | x :: xs, ρ, h => by
    rw [for_cons]
    obtain ⟨ρ1, e, q⟩ := hs x xs ρ h
    refine ⟨ρ1, e, ?_⟩
    cases o : b ρ1 with
    | none => rw [o] at q; exact q
    | some z =>
      rw [o] at q
      cases z with
      | nx ρ2 => exact for_inv P h0 hs xs ρ2 q
      | ct ρ2 => exact for_inv P h0 hs xs ρ2 q
      | bk ρ2 => exact q
      | rt d ρ2 => exact q
      | ex e ρ2 => exact q
theorem whl_inv {c : M Bool} {b : Rho → Option Out} (P : Nat → Rho → Prop)
    (hs : ∀ n ρ, P n ρ → Wp c ρ (fun t ρ1 => if t then ∃ m, n = m + 1 ∧ ({ K with N := P m, C := P m, B := K.N } : Kn).on (b ρ1) else K.N ρ1) K.E) : ∀ n k ρ, n < k → P n ρ → K.on (whlL c b k ρ)
  | n, 0, ρ, hk, h => by omega
  | n, k + 1, ρ, hk, h => by
    have := hs n ρ h
    unfold Wp at this
    rw [whlL]
    cases e : c ρ with
    | none => rw [e] at this; exact this
    | some z =>
      rw [e] at this
      cases z with
      | ex e ρ1 => exact this
      | ok t ρ1 =>
        cases t with
        | false => exact this
        | true =>
          obtain ⟨m, rfl, q⟩ : ∃ m, n = m + 1 ∧ ({ K with N := P m, C := P m, B := K.N } : Kn).on (b ρ1) := this
          dsimp only
          cases o : b ρ1 with
          | none => rw [o] at q; exact q
          | some z =>
            rw [o] at q
            cases z with
            | nx ρ2 => exact whl_inv P hs m k ρ2 (by omega) q
            | ct ρ2 => exact whl_inv P hs m k ρ2 (by omega) q
            | bk ρ2 => exact q
            | rt d ρ2 => exact q
            | ex e ρ2 => exact q
theorem s_whl {c : E} {b : List S} {lq : List Bool} : K.on (exS X (.whl c b lq) ρ) = K.on (whlL (M.bnd (evE X c) asB) (exSs X b) fuelW ρ) := by rw [exS]
theorem on_mono {K' : Kn} {o : Option Out} (h : K.on o) (hN : ∀ ρ, K.N ρ → K'.N ρ) (hR : ∀ d ρ, K.R d ρ → K'.R d ρ) (hB : ∀ ρ, K.B ρ → K'.B ρ) (hC : ∀ ρ, K.C ρ → K'.C ρ) (hE : ∀ e ρ, K.E e ρ → K'.E e ρ) : K'.on o := by
  cases o with
  | none => exact h
  | some z => cases z with
    | nx ρ => exact hN _ h
    | bk ρ => exact hB _ h
    | ct ρ => exact hC _ h
    | rt d ρ => exact hR _ _ h
    | ex e ρ => exact hE _ _ h
/-! comprehensions: an invariant with what is gathered -/
theorem comp_inv {bnd : D → Rho → Option Rho} {c : Option (M Bool)} {el : M D} {vs : List Nat} (P : List D → List D → Rho → Prop)
    (hs : ∀ x xs ys ρ, P (x :: xs) ys ρ → ∃ ρ1, bnd x ρ = some ρ1 ∧ Wp (cM c) ρ1 (fun t ρ2 => if t then Wp el ρ2 (fun y ρ3 => P xs (ys ++ [y]) (wipeR ρ3 vs)) (fun _ _ => False) else P xs ys (wipeR ρ2 vs)) fun _ _ => False) :
    ∀ ds ys ρ, P ds ys ρ → ∃ zs ρ', compL bnd c el vs ds ρ = some (zs, ρ') ∧ P [] (ys ++ zs) ρ'
  | [], ys, ρ, h => ⟨[], ρ, rfl, by rw [List.append_nil]; exact h⟩
  | x :: xs, ys, ρ, h => by
    obtain ⟨ρ1, e, q⟩ := hs x xs ys ρ h
    rw [compL_cons, e]
    dsimp only
    unfold Wp at q
    cases e2 : cM c ρ1 with
    | none => rw [e2] at q; exact q.elim
    | some z =>
      rw [e2] at q
      cases z with
      | ex => exact q.elim
      | ok t ρ2 =>
        cases t with
        | false => exact comp_inv P hs xs ys _ q
        | true =>
          have q : Wp el ρ2 (fun y ρ3 => P xs (ys ++ [y]) (wipeR ρ3 vs)) (fun _ _ => False) := q
          unfold Wp at q
          dsimp only
          cases e3 : el ρ2 with
          | none => rw [e3] at q; exact q.elim
          | some z =>
            rw [e3] at q
            cases z with
            | ex => exact q.elim
            | ok y ρ3 =>
              obtain ⟨zs, ρ', e4, h4⟩ := comp_inv P hs xs (ys ++ [y]) _ q
              refine ⟨y :: zs, ρ', by simp only [e4, Option.map_some], by rw [List.append_assoc] at h4; exact h4⟩
def cE (X : Ctx) : Option E → Option (M Bool)
  | none => none
  | some e => some (M.bnd (evE X e) asB)
theorem wp_comp {el : E} {tg : Tg} {it : I} {c : Option E} {vs : List Nat} {Q : D → Rho → Prop} {E : Exn → Rho → Prop} (P : List D → List D → Rho → Prop)
    (hs : ∀ x xs ys ρ, P (x :: xs) ys ρ → ∃ ρ1, bindT tg x ρ = some ρ1 ∧ Wp (cM (cE X c)) ρ1 (fun t ρ2 => if t then Wp (evE X el) ρ2 (fun y ρ3 => P xs (ys ++ [y]) (wipeR ρ3 vs)) (fun _ _ => False) else P xs ys (wipeR ρ2 vs)) fun _ _ => False)
    (hi : Wp (evI X it) ρ (fun ds ρ1 => okLen ds.length = true ∧ P ds [] (wipeR ρ1 vs) ∧ ∀ zs ρ', P [] zs ρ' → Q (.list zs) (backR ρ1 vs ρ')) E) : Wp (evE X (.comp el tg it c vs)) ρ Q E := by
  have hsem : evE X (.comp el tg it c vs) = compM (evI X it) (bindT tg) (cE X c) (evE X el) vs := by
    cases c with
    | none => exact comp_semN ..
    | some c => exact comp_semS ..
  rw [hsem]
  unfold compM
  rw [wp_bnd]
  refine wp_mono hi (fun ds ρ1 ⟨h1, h2, h3⟩ => ?_) fun _ _ h => h
  obtain ⟨zs, ρ', e, h4⟩ := comp_inv (c := cE X c) (el := evE X el) (vs := vs) P hs ds [] _ h2
  unfold Wp
  simp only [h1, if_true, e]
  exact h3 zs ρ' (by simpa using h4)
end
/-! a def -/
def CallOk (T : List Fn) (n f : Nat) (ds : List D) (P : D → List D → Prop) : Prop := ∃ d outs, callN T n f ds = some (.ok d outs) ∧ P d outs
theorem call_ok {T : List Fn} {n f : Nat} {ds : List D} {fn : Fn} {P : D → List D → Prop} (hT : T[f]? = some fn) (hl : ds.length = fn.ps.length)
    (h : Rn (ctxN (callN T n) T) fn.body (startR fn ds) { N := fun ρ => fn.own = false ∧ ∃ o, mutOuts fn.mu ρ = some o ∧ P .none o, R := fun d ρ => ∃ o, mutOuts fn.mu ρ = some o ∧ P d o }) : CallOk T (n + 1) f ds P := by
  unfold CallOk callN
  rw [hT]
  simp only [hl, if_true]
  rw [rn_eq] at h
  cases e : exSs (ctxN (callN T n) T) fn.body (startR fn ds) with
  | none => rw [e] at h; exact h.elim
  | some o =>
    rw [e] at h
    cases o with
    | nx ρ =>
      obtain ⟨h1, o, h2, h3⟩ := h
      exact ⟨.none, o, by simp [outCR, h1, h2], h3⟩
    | rt d ρ =>
      obtain ⟨o, h2, h3⟩ := h
      exact ⟨d, o, by simp [outCR, h2], h3⟩
    | bk ρ => exact h.elim
    | ct ρ => exact h.elim
    | ex e ρ => exact h.elim
theorem call_okC {T : List Fn} {n f : Nat} {ds : List D} {fn : Fn} {P : D → List D → Prop} (C : Nat → List D → Option CR) (hC : callN T n = C) (hT : T[f]? = some fn) (hl : ds.length = fn.ps.length)
    (h : Rn (ctxN C T) fn.body (startR fn ds) { N := fun ρ => fn.own = false ∧ ∃ o, mutOuts fn.mu ρ = some o ∧ P .none o, R := fun d ρ => ∃ o, mutOuts fn.mu ρ = some o ∧ P d o }) : CallOk T (n + 1) f ds P := by
  subst hC
  exact call_ok hT hl h
/-! ### operators, one by one -/
theorem on_con (x : M D) (d : D) : opnd (.con d) x = (M.bnd x fun d => M.ret (.d d)) := Eq.trans rfl rfl
theorem on_glo (x : M D) (y : Str) (d : D) : opnd (.glo y d) x = (M.bnd x fun d => M.ret (.d d)) := Eq.trans rfl rfl
theorem on_tup (x : M D) (es : List E) : opnd (.tup es) x = (M.bnd x fun d => M.ret (.d d)) := Eq.trans rfl rfl
theorem on_lst (x : M D) (es : List E) : opnd (.lst es) x = (M.bnd x fun d => M.ret (.d d)) := Eq.trans rfl rfl
theorem on_op (x : M D) (o : Op2) (a b : E) : opnd (.op o a b) x = (M.bnd x fun d => M.ret (.d d)) := Eq.trans rfl rfl
theorem on_neg (x : M D) (a : E) : opnd (.neg a) x = (M.bnd x fun d => M.ret (.d d)) := Eq.trans rfl rfl
theorem on_cmp (x : M D) (o : Cm) (a b : E) : opnd (.cmp o a b) x = (M.bnd x fun d => M.ret (.d d)) := Eq.trans rfl rfl
theorem on_isN (x : M D) (g : Bool) (a : E) : opnd (.isN g a) x = (M.bnd x fun d => M.ret (.d d)) := Eq.trans rfl rfl
theorem on_and (x : M D) (a b : E) : opnd (.and a b) x = (M.bnd x fun d => M.ret (.d d)) := Eq.trans rfl rfl
theorem on_or (x : M D) (a b : E) : opnd (.or a b) x = (M.bnd x fun d => M.ret (.d d)) := Eq.trans rfl rfl
theorem on_not (x : M D) (a : E) : opnd (.not a) x = (M.bnd x fun d => M.ret (.d d)) := Eq.trans rfl rfl
theorem on_ite (x : M D) (c a b : E) : opnd (.ite c a b) x = (M.bnd x fun d => M.ret (.d d)) := Eq.trans rfl rfl
theorem on_fn (x : M D) (f : Nat) (es : List E) : opnd (.fn f es) x = (M.bnd x fun d => M.ret (.d d)) := Eq.trans rfl rfl
theorem on_bi (x : M D) (b : Bt) (es : List E) : opnd (.bi b es) x = (M.bnd x fun d => M.ret (.d d)) := Eq.trans rfl rfl
theorem on_me (x : M D) (m : Mt) (o : E) (es : List E) : opnd (.me m o es) x = (M.bnd x fun d => M.ret (.d d)) := Eq.trans rfl rfl
theorem on_mu (x : M D) (m : Mm) (i : Nat) (es : List E) : opnd (.mu m i es) x = (M.bnd x fun d => M.ret (.d d)) := Eq.trans rfl rfl
theorem on_ix (x : M D) (a b : E) : opnd (.ix a b) x = (M.bnd x fun d => M.ret (.d d)) := Eq.trans rfl rfl
theorem on_sl (x : M D) (a : E) (lo hi : Option E) : opnd (.sl a lo hi) x = (M.bnd x fun d => M.ret (.d d)) := Eq.trans rfl rfl
theorem on_comp (x : M D) (el : E) (tg : Tg) (it : I) (c : Option E) (vs : List Nat) : opnd (.comp el tg it c vs) x = (M.bnd x fun d => M.ret (.d d)) := Eq.trans rfl rfl
theorem on_eqR (x : M D) (a b : E) : opnd (.eqR a b) x = (M.bnd x fun d => M.ret (.d d)) := Eq.trans rfl rfl
theorem on_isi (x : M D) (k : Kd) (a : E) : opnd (.isi k a) x = (M.bnd x fun d => M.ret (.d d)) := Eq.trans rfl rfl
theorem on_chn (x : M D) (o o' : Cm) (a b c : E) : opnd (.chn o o' a b c) x = (M.bnd x fun d => M.ret (.d d)) := Eq.trans rfl rfl
theorem on_rev (x : M D) (a : E) : opnd (.rev a) x = (M.bnd x fun d => M.ret (.d d)) := Eq.trans rfl rfl
theorem o_addI (a b : Int) : opD .add (.int a) (.int b) = some (.int (a + b)) := by first | exact Eq.trans rfl rfl | simp [opD, cmD, btD, ixD, slD, mtD, mtOk, mmD, isNon, itemsD, rg1, rg2, partD]
theorem o_subI (a b : Int) : opD .sub (.int a) (.int b) = some (.int (a - b)) := by first | exact Eq.trans rfl rfl | simp [opD, cmD, btD, ixD, slD, mtD, mtOk, mmD, isNon, itemsD, rg1, rg2, partD]
theorem o_mulI (a b : Int) : opD .mul (.int a) (.int b) = if Builtin.Int.intBits a + Builtin.Int.intBits b ≤ 134217728 then some (.int (a * b)) else none := by first | exact Eq.trans rfl rfl | simp [opD, cmD, btD, ixD, slD, mtD, mtOk, mmD, isNon, itemsD, rg1, rg2, partD]
theorem o_fdivI (a b : Int) : opD .fdiv (.int a) (.int b) = if 0 < b ∧ b.natAbs.log2 < 9000 then some (.int (a / b)) else none := by first | exact Eq.trans rfl rfl | simp [opD, cmD, btD, ixD, slD, mtD, mtOk, mmD, isNon, itemsD, rg1, rg2, partD]
theorem o_modI (a b : Int) : opD .mod (.int a) (.int b) = if 0 < b then some (.int (a % b)) else none := by first | exact Eq.trans rfl rfl | simp [opD, cmD, btD, ixD, slD, mtD, mtOk, mmD, isNon, itemsD, rg1, rg2, partD]
theorem o_powI (a b : Int) : opD .pow (.int a) (.int b) = if 0 ≤ b ∧ b ≤ 1000000 ∧ a.natAbs < 2 ^ 64 then some (.int (a ^ b.toNat)) else none := by first | exact Eq.trans rfl rfl | simp [opD, cmD, btD, ixD, slD, mtD, mtOk, mmD, isNon, itemsD, rg1, rg2, partD]
theorem o_addS (a b : Str) : opD .add (.str a) (.str b) = if okLen (a.length + b.length) then some (.str (a ++ b)) else none := by first | exact Eq.trans rfl rfl | simp [opD, cmD, btD, ixD, slD, mtD, mtOk, mmD, isNon, itemsD, rg1, rg2, partD]
theorem o_addT (a b : List D) : opD .add (.tuple a) (.tuple b) = if okLen (a.length + b.length) then some (.tuple (a ++ b)) else none := by first | exact Eq.trans rfl rfl | simp [opD, cmD, btD, ixD, slD, mtD, mtOk, mmD, isNon, itemsD, rg1, rg2, partD]
theorem o_catL (a b : List D) : opD .cat (.list a) (.list b) = if okLen (a.length + b.length) then some (.list (a ++ b)) else none := by first | exact Eq.trans rfl rfl | simp [opD, cmD, btD, ixD, slD, mtD, mtOk, mmD, isNon, itemsD, rg1, rg2, partD]
theorem c_ltI (a b : Int) : cmD .lt (.int a) (.int b) = some (decide (a < b)) := by first | exact Eq.trans rfl rfl | simp [opD, cmD, btD, ixD, slD, mtD, mtOk, mmD, isNon, itemsD, rg1, rg2, partD]
theorem c_leI (a b : Int) : cmD .le (.int a) (.int b) = some (decide (a ≤ b)) := by first | exact Eq.trans rfl rfl | simp [opD, cmD, btD, ixD, slD, mtD, mtOk, mmD, isNon, itemsD, rg1, rg2, partD]
theorem c_gtI (a b : Int) : cmD .gt (.int a) (.int b) = some (decide (b < a)) := by first | exact Eq.trans rfl rfl | simp [opD, cmD, btD, ixD, slD, mtD, mtOk, mmD, isNon, itemsD, rg1, rg2, partD]
theorem c_geI (a b : Int) : cmD .ge (.int a) (.int b) = some (decide (b ≤ a)) := by first | exact Eq.trans rfl rfl | simp [opD, cmD, btD, ixD, slD, mtD, mtOk, mmD, isNon, itemsD, rg1, rg2, partD]
theorem c_eq (a b : D) : cmD .eq a b = if SeqAt.shaped a && SeqAt.shaped b then some (PyData.eqv a b) else none := by first | exact Eq.trans rfl rfl | simp [opD, cmD, btD, ixD, slD, mtD, mtOk, mmD, isNon, itemsD, rg1, rg2, partD]
theorem c_ne (a b : D) : cmD .ne a b = if SeqAt.shaped a && SeqAt.shaped b then some (!PyData.eqv a b) else none := by first | exact Eq.trans rfl rfl | simp [opD, cmD, btD, ixD, slD, mtD, mtOk, mmD, isNon, itemsD, rg1, rg2, partD]
theorem c_ltS (a b : Str) : cmD .lt (.str a) (.str b) = some (ltS a b) := by first | exact Eq.trans rfl rfl | simp [opD, cmD, btD, ixD, slD, mtD, mtOk, mmD, isNon, itemsD, rg1, rg2, partD]
theorem c_ltT (a b : List D) : cmD .lt (.tuple a) (.tuple b) = if tupOk a b then some (PySem.W.dataLt (.tuple a) (.tuple b)) else none := by first | exact Eq.trans rfl rfl | simp [opD, cmD, btD, ixD, slD, mtD, mtOk, mmD, isNon, itemsD, rg1, rg2, partD]
theorem c_inS (a b : Str) : cmD .isin (.str a) (.str b) = some (!(Builtin.Str.occurrences b a 0 b.length 1).isEmpty) := by first | exact Eq.trans rfl rfl | simp [opD, cmD, btD, ixD, slD, mtD, mtOk, mmD, isNon, itemsD, rg1, rg2, partD]
theorem c_inL (a : D) (b : List D) : cmD .isin a (.list b) = if SeqAt.shaped a && SeqAt.shaped (.list b) then some (b.any fun z => PyData.eqv z a) else none := by first | exact Eq.trans rfl rfl | simp [opD, cmD, btD, ixD, slD, mtD, mtOk, mmD, isNon, itemsD, rg1, rg2, partD]
theorem c_ninL (a : D) (b : List D) : cmD .nin a (.list b) = if SeqAt.shaped a && SeqAt.shaped (.list b) then some (!b.any fun z => PyData.eqv z a) else none := by first | exact Eq.trans rfl rfl | simp [opD, cmD, btD, ixD, slD, mtD, mtOk, mmD, isNon, itemsD, rg1, rg2, partD]
theorem c_inT (a : D) (b : List D) : cmD .isin a (.tuple b) = if SeqAt.shaped a && SeqAt.shaped (.tuple b) then some (b.any fun z => PyData.eqv z a) else none := by first | exact Eq.trans rfl rfl | simp [opD, cmD, btD, ixD, slD, mtD, mtOk, mmD, isNon, itemsD, rg1, rg2, partD]
theorem c_ninT (a : D) (b : List D) : cmD .nin a (.tuple b) = if SeqAt.shaped a && SeqAt.shaped (.tuple b) then some (!b.any fun z => PyData.eqv z a) else none := by first | exact Eq.trans rfl rfl | simp [opD, cmD, btD, ixD, slD, mtD, mtOk, mmD, isNon, itemsD, rg1, rg2, partD]
theorem b_lenL (a : List D) : btD .len [.list a] = some (.int a.length) := by first | exact Eq.trans rfl rfl | simp [opD, cmD, btD, ixD, slD, mtD, mtOk, mmD, isNon, itemsD, rg1, rg2, partD]
theorem b_lenT (a : List D) : btD .len [.tuple a] = some (.int a.length) := by first | exact Eq.trans rfl rfl | simp [opD, cmD, btD, ixD, slD, mtD, mtOk, mmD, isNon, itemsD, rg1, rg2, partD]
theorem b_lenS (a : Str) : btD .len [.str a] = some (.int a.length) := by first | exact Eq.trans rfl rfl | simp [opD, cmD, btD, ixD, slD, mtD, mtOk, mmD, isNon, itemsD, rg1, rg2, partD]
theorem b_intI (i : Int) : btD .int [.int i] = some (.int i) := by first | exact Eq.trans rfl rfl | simp [opD, cmD, btD, ixD, slD, mtD, mtOk, mmD, isNon, itemsD, rg1, rg2, partD]
theorem b_intB (b : Bool) : btD .int [.bool b] = some (.int (if b then 1 else 0)) := by first | exact Eq.trans rfl rfl | simp [opD, cmD, btD, ixD, slD, mtD, mtOk, mmD, isNon, itemsD, rg1, rg2, partD]
theorem b_intS (a : Str) : btD .int [.str a] = if a.length ≤ 640 then (intText? a).map .int else none := by first | exact Eq.trans rfl rfl | simp [opD, cmD, btD, ixD, slD, mtD, mtOk, mmD, isNon, itemsD, rg1, rg2, partD]
theorem b_strI (i : Int) : btD .str [.int i] = if i.natAbs.log2 < 1920 ∧ okLen (Str.length (toString i : String)) then some (.str (toString i : String)) else none := by first | exact Eq.trans rfl rfl | simp [opD, cmD, btD, ixD, slD, mtD, mtOk, mmD, isNon, itemsD, rg1, rg2, partD]
theorem b_tupL (a : List D) : btD .tuple [.list a] = some (.tuple a) := by first | exact Eq.trans rfl rfl | simp [opD, cmD, btD, ixD, slD, mtD, mtOk, mmD, isNon, itemsD, rg1, rg2, partD]
theorem b_tupT (a : List D) : btD .tuple [.tuple a] = some (.tuple a) := by first | exact Eq.trans rfl rfl | simp [opD, cmD, btD, ixD, slD, mtD, mtOk, mmD, isNon, itemsD, rg1, rg2, partD]
theorem b_lstL (a : List D) : btD .list [.list a] = some (.list a) := by first | exact Eq.trans rfl rfl | simp [opD, cmD, btD, ixD, slD, mtD, mtOk, mmD, isNon, itemsD, rg1, rg2, partD]
theorem b_lstT (a : List D) : btD .list [.tuple a] = some (.list a) := by first | exact Eq.trans rfl rfl | simp [opD, cmD, btD, ixD, slD, mtD, mtOk, mmD, isNon, itemsD, rg1, rg2, partD]
theorem b_lstS (a : Str) : btD .listS [.str a] = some (.list (a.cps.toList.map fun c => .str ⟨#[c]⟩)) := by first | exact Eq.trans rfl rfl | simp [opD, cmD, btD, ixD, slD, mtD, mtOk, mmD, isNon, itemsD, rg1, rg2, partD]
theorem b_srt (a : List D) : btD .sorted [.list a] = if sortOk a then some (.list (sortD a)) else none := by first | exact Eq.trans rfl rfl | simp [opD, cmD, btD, ixD, slD, mtD, mtOk, mmD, isNon, itemsD, rg1, rg2, partD]
theorem b_sum (a : List D) : btD .sum [.list a] = (intsD a).map fun l => .int l.sum := by first | exact Eq.trans rfl rfl | simp [opD, cmD, btD, ixD, slD, mtD, mtOk, mmD, isNon, itemsD, rg1, rg2, partD]
theorem b_max2 (a b : Int) : btD .max2 [.int a, .int b] = some (.int (if b > a then b else a)) := by first | exact Eq.trans rfl rfl | simp [opD, cmD, btD, ixD, slD, mtD, mtOk, mmD, isNon, itemsD, rg1, rg2, partD]
theorem b_min2 (a b : Int) : btD .min2 [.int a, .int b] = some (.int (if b < a then b else a)) := by first | exact Eq.trans rfl rfl | simp [opD, cmD, btD, ixD, slD, mtD, mtOk, mmD, isNon, itemsD, rg1, rg2, partD]
theorem b_abs (a : Int) : btD .abs [.int a] = some (.int (if a < 0 then -a else a)) := by first | exact Eq.trans rfl rfl | simp [opD, cmD, btD, ixD, slD, mtD, mtOk, mmD, isNon, itemsD, rg1, rg2, partD]
theorem b_any (a : List D) : btD .any [.list a] = (boolsD a).map fun l => .bool (l.any id) := by first | exact Eq.trans rfl rfl | simp [opD, cmD, btD, ixD, slD, mtD, mtOk, mmD, isNon, itemsD, rg1, rg2, partD]
theorem b_all (a : List D) : btD .all [.list a] = (boolsD a).map fun l => .bool (l.all id) := by first | exact Eq.trans rfl rfl | simp [opD, cmD, btD, ixD, slD, mtD, mtOk, mmD, isNon, itemsD, rg1, rg2, partD]
theorem x_l (a : List D) (i : Int) : ixD (.list a) (.int i) = atI a i := by first | exact Eq.trans rfl rfl | simp [opD, cmD, btD, ixD, slD, mtD, mtOk, mmD, isNon, itemsD, rg1, rg2, partD]
theorem x_t (a : List D) (i : Int) : ixD (.tuple a) (.int i) = atI a i := by first | exact Eq.trans rfl rfl | simp [opD, cmD, btD, ixD, slD, mtD, mtOk, mmD, isNon, itemsD, rg1, rg2, partD]
theorem x_s (a : Str) (i : Int) : ixD (.str a) (.int i) = (atI a.cps.toList i).map fun c => .str ⟨#[c]⟩ := by first | exact Eq.trans rfl rfl | simp [opD, cmD, btD, ixD, slD, mtD, mtOk, mmD, isNon, itemsD, rg1, rg2, partD]
theorem n_non  : isNon .none = true := by first | exact Eq.trans rfl rfl | simp [opD, cmD, btD, ixD, slD, mtD, mtOk, mmD, isNon, itemsD, rg1, rg2, partD]
theorem n_int (i : Int) : isNon (.int i) = false := by first | exact Eq.trans rfl rfl | simp [opD, cmD, btD, ixD, slD, mtD, mtOk, mmD, isNon, itemsD, rg1, rg2, partD]
theorem n_str (i : Str) : isNon (.str i) = false := by first | exact Eq.trans rfl rfl | simp [opD, cmD, btD, ixD, slD, mtD, mtOk, mmD, isNon, itemsD, rg1, rg2, partD]
theorem n_tup (i : List D) : isNon (.tuple i) = false := by first | exact Eq.trans rfl rfl | simp [opD, cmD, btD, ixD, slD, mtD, mtOk, mmD, isNon, itemsD, rg1, rg2, partD]
theorem n_lst (i : List D) : isNon (.list i) = false := by first | exact Eq.trans rfl rfl | simp [opD, cmD, btD, ixD, slD, mtD, mtOk, mmD, isNon, itemsD, rg1, rg2, partD]
theorem n_bool (i : Bool) : isNon (.bool i) = false := by first | exact Eq.trans rfl rfl | simp [opD, cmD, btD, ixD, slD, mtD, mtOk, mmD, isNon, itemsD, rg1, rg2, partD]
theorem k_join (a : Str) : mtOk .join (.str a) = true := by first | exact Eq.trans rfl rfl | simp [opD, cmD, btD, ixD, slD, mtD, mtOk, mmD, isNon, itemsD, rg1, rg2, partD]
theorem m_join (a : Str) (ys : List D) : mtD .join (.str a) [.list ys] = (strsD ys).bind fun l => if okLen ((l.map (·.length)).sum + l.length * a.length) && okLen (Txt.join a l).length then some (.str (Txt.join a l)) else none := by first | exact Eq.trans rfl rfl | simp [opD, cmD, btD, ixD, slD, mtD, mtOk, mmD, isNon, itemsD, rg1, rg2, partD]
theorem m_joinT (a : Str) (ys : List D) : mtD .join (.str a) [.tuple ys] = (strsD ys).bind fun l => if okLen ((l.map (·.length)).sum + l.length * a.length) && okLen (Txt.join a l).length then some (.str (Txt.join a l)) else none := by first | exact Eq.trans rfl rfl | simp [opD, cmD, btD, ixD, slD, mtD, mtOk, mmD, isNon, itemsD, rg1, rg2, partD]
theorem u_app (xs : List D) (y : D) : mmD .append xs [y] = if xs.length < 16777216 then some (.none, xs ++ [y]) else none := by first | exact Eq.trans rfl rfl | simp [opD, cmD, btD, ixD, slD, mtD, mtOk, mmD, isNon, itemsD, rg1, rg2, partD]
theorem u_rev (xs : List D) : mmD .reverse xs [] = some (.none, xs.reverse) := by first | exact Eq.trans rfl rfl | simp [opD, cmD, btD, ixD, slD, mtD, mtOk, mmD, isNon, itemsD, rg1, rg2, partD]
theorem i_l (a : List D) : itemsD (.list a) = some a := by first | exact Eq.trans rfl rfl | simp [opD, cmD, btD, ixD, slD, mtD, mtOk, mmD, isNon, itemsD, rg1, rg2, partD]
theorem i_t (a : List D) : itemsD (.tuple a) = some a := by first | exact Eq.trans rfl rfl | simp [opD, cmD, btD, ixD, slD, mtD, mtOk, mmD, isNon, itemsD, rg1, rg2, partD]
theorem i_s (a : Str) : itemsD (.str a) = some (a.cps.toList.map fun c => .str ⟨#[c]⟩) := by first | exact Eq.trans rfl rfl | simp [opD, cmD, btD, ixD, slD, mtD, mtOk, mmD, isNon, itemsD, rg1, rg2, partD]
theorem g_1 (b : Int) : rg1 (.int b) = if bnd62 b then some (rngD 0 b) else none := by first | exact Eq.trans rfl rfl | simp [opD, cmD, btD, ixD, slD, mtD, mtOk, mmD, isNon, itemsD, rg1, rg2, partD]
theorem g_2 (a b : Int) : rg2 (.int a) (.int b) = if bnd62 a && bnd62 b then some (rngD a b) else none := by first | exact Eq.trans rfl rfl | simp [opD, cmD, btD, ixD, slD, mtD, mtOk, mmD, isNon, itemsD, rg1, rg2, partD]
theorem ex_ite {α : Type} {c : Prop} [Decidable c] {x : α} {P : α → Prop} : (∃ a, (if c then some x else none) = some a ∧ P a) = (c ∧ P x) := by
  by_cases h : c <;> simp [h]
theorem ex_map {α β : Type} {o : Option α} {f : α → β} {P : β → Prop} : (∃ b, o.map f = some b ∧ P b) = ∃ a, o = some a ∧ P (f a) := by
  cases o <;> simp
theorem ex_bind {α β : Type} {o : Option α} {f : α → Option β} {P : β → Prop} : (∃ b, o.bind f = some b ∧ P b) = ∃ a, o = some a ∧ ∃ b, f a = some b ∧ P b := by
  cases o <;> simp
theorem ex_some {α : Type} {x : α} {P : α → Prop} : (∃ a, some x = some a ∧ P a) = P x := by simp
theorem ex_bool {x : Bool} {P : Bool → Prop} : (∃ a, PyData.bool x = .bool a ∧ P a) = P x := by simp
theorem ite_no {c P : Prop} [Decidable c] : (if c then P else False) = (c ∧ P) := by by_cases h : c <;> simp [h]
theorem wp_mu {X : Ctx} {m : Mm} {i : Nat} {es : List E} {ρ : Rho} {Q : D → Rho → Prop} {E : Exn → Rho → Prop} : Wp (evE X (.mu m i es)) ρ Q E = ((∃ l, ρ[i]? = some (some (.list l))) ∧ Wp (evEs X es) ρ (fun ds ρ1 => ∃ xs, ρ1[i]? = some (some (.list xs)) ∧ ∃ r, mmD m xs ds = some r ∧ Q r.1 (ρ1.set i (some (.list r.2)))) E) := by
  have hs : evE X (.mu m i es) = fun ρ0 => match ρ0[i]? with
    | some (some (.list _)) => M.bnd (evEs X es) (fun ds ρ => match ρ[i]? with
      | some (some (.list xs)) => match mmD m xs ds with
        | some (y, xs') => some (.ok y (ρ.set i (some (.list xs'))))
        | none => none
      | _ => none) ρ0
    | _ => none := rfl
  rw [hs]
  cases h0 : ρ[i]? with
  | none => simp [Wp, h0]
  | some o =>
    cases o with
    | none => simp [Wp, h0]
    | some d =>
      cases d <;> try (simp [Wp, h0]; done)
      rename_i l
      have e1 : Wp (fun ρ0 => match ρ0[i]? with
        | some (some (.list _)) => M.bnd (evEs X es) (fun ds ρ => match ρ[i]? with
          | some (some (.list xs)) => match mmD m xs ds with
            | some (y, xs') => some (.ok y (ρ.set i (some (.list xs'))))
            | none => none
          | _ => none) ρ0
        | _ => none) ρ Q E = Wp (M.bnd (evEs X es) (fun ds ρ => match ρ[i]? with
          | some (some (.list xs)) => match mmD m xs ds with
            | some (y, xs') => some (.ok y (ρ.set i (some (.list xs'))))
            | none => none
          | _ => none)) ρ Q E := by unfold Wp; simp only [h0]
      rw [e1, wp_bnd]
      simp only [Option.some.injEq, PyData.list.injEq, exists_eq', true_and]
      congr 1
      funext ds ρ1
      unfold Wp
      cases h1 : ρ1[i]? with
      | none => simp [h1]
      | some o =>
        cases o with
        | none => simp [h1]
        | some d1 =>
          cases d1 <;> try (simp [h1]; done)
          rename_i xs
          simp only [h1, Option.some.injEq, PyData.list.injEq, exists_eq_left']
          cases h2 : mmD m xs ds with
          | none => simp [h2]
          | some r => simp [h2]
/-! ### forms, one by one -/
theorem ev_var (X : Ctx) (i : Nat) : evE X (.var i) = rdP (.s i) := Eq.trans rfl rfl
theorem ev_con (X : Ctx) (d : D) : evE X (.con d) = M.ret d := Eq.trans rfl rfl
theorem ev_glo (X : Ctx) (y : Str) (d : D) : evE X (.glo y d) = M.ret d := Eq.trans rfl rfl
theorem ev_tup (X : Ctx) (es : List E) : evE X (.tup es) = (M.bnd (evEs X es) fun ds => if okLen ds.length then M.ret (.tuple ds) else fun _ => none) := Eq.trans rfl rfl
theorem ev_lst (X : Ctx) (es : List E) : evE X (.lst es) = (M.bnd (evEs X es) fun ds => if okLen ds.length then M.ret (.list ds) else fun _ => none) := Eq.trans rfl rfl
theorem ev_op (X : Ctx) (o : Op2) (a b : E) : evE X (.op o a b) = (M.bnd (opnd a (evE X a)) fun p => M.bnd (opnd b (evE X b)) fun q => M.bnd (rdP p) fun x => M.bnd (rdP q) fun y => M.lift (opD o x y)) := Eq.trans rfl rfl
theorem ev_cmp (X : Ctx) (o : Cm) (a b : E) : evE X (.cmp o a b) = (M.bnd (opnd a (evE X a)) fun p => M.bnd (opnd b (evE X b)) fun q => M.bnd (rdP p) fun x => M.bnd (rdP q) fun y => M.lift ((cmD o x y).map .bool)) := Eq.trans rfl rfl
theorem ev_isN (X : Ctx) (g : Bool) (a : E) : evE X (.isN g a) = (M.bnd (evE X a) fun x => M.ret (.bool (if g then !isNon x else isNon x))) := Eq.trans rfl rfl
theorem ev_and (X : Ctx) (a b : E) : evE X (.and a b) = (M.bnd (M.bnd (evE X a) asB) fun c => if c then M.bnd (M.bnd (evE X b) asB) fun c => M.ret (.bool c) else M.ret (.bool false)) := Eq.trans rfl rfl
theorem ev_or (X : Ctx) (a b : E) : evE X (.or a b) = (M.bnd (M.bnd (evE X a) asB) fun c => if c then M.ret (.bool true) else M.bnd (M.bnd (evE X b) asB) fun c => M.ret (.bool c)) := Eq.trans rfl rfl
theorem ev_not (X : Ctx) (a : E) : evE X (.not a) = (M.bnd (M.bnd (evE X a) asB) fun c => M.ret (.bool (!c))) := Eq.trans rfl rfl
theorem ev_ite (X : Ctx) (c a b : E) : evE X (.ite c a b) = (M.bnd (M.bnd (evE X c) asB) fun c => if c then evE X a else evE X b) := Eq.trans rfl rfl
theorem ev_fn (X : Ctx) (f : Nat) (es : List E) : evE X (.fn f es) = (M.bnd (evAs X (X.sg f) es) fun ps => callM X f ps) := Eq.trans rfl rfl
theorem ev_bi (X : Ctx) (b : Bt) (es : List E) : evE X (.bi b es) = (M.bnd (evPs X es) fun ps => M.bnd (rdPs ps) fun ds => M.lift (btD b ds)) := Eq.trans rfl rfl
theorem ev_me (X : Ctx) (m : Mt) (o : E) (es : List E) : evE X (.me m o es) = (M.bnd (evE X o) fun x => if mtOk m x then M.bnd (evPs X es) fun ps => M.bnd (rdPs ps) fun ds => M.lift (mtD m x ds) else fun _ => none) := Eq.trans rfl rfl
theorem ev_ix (X : Ctx) (a b : E) : evE X (.ix a b) = (M.bnd (opnd a (evE X a)) fun p => M.bnd (evE X b) fun y => M.bnd (rdP p) fun x => M.lift (ixD x y)) := Eq.trans rfl rfl
theorem ev_sl (X : Ctx) (a : E) (lo hi : Option E) : evE X (.sl a lo hi) = (M.bnd (opnd a (evE X a)) fun p => M.bnd (evO X lo) fun l => M.bnd (evO X hi) fun h => M.bnd (rdP p) fun x => M.lift (slD x l h)) := Eq.trans rfl rfl
theorem ev_eqR (X : Ctx) (a b : E) : evE X (.eqR a b) = (M.bnd (evE X a) fun x => if shwOk x then M.bnd (evE X b) fun y => if shwOk y then M.ret (.bool (decide (PyData.shown x = PyData.shown y))) else fun _ => none else fun _ => none) := Eq.trans rfl rfl
theorem ev_isi (X : Ctx) (k : Kd) (a : E) : evE X (.isi k a) = (M.bnd (evE X a) fun x => M.lift ((isKd k x).map .bool)) := Eq.trans rfl rfl
theorem ev_chn (X : Ctx) (o o' : Cm) (a b c : E) : evE X (.chn o o' a b c) = (M.bnd (evE X a) fun x => M.bnd (evE X b) fun y => M.bnd (M.lift (cmD o x y)) fun t => if t then M.bnd (evE X c) fun z => M.lift ((cmD o' y z).map .bool) else M.ret (.bool false)) := Eq.trans rfl rfl
theorem ev_rev (X : Ctx) (a : E) : evE X (.rev a) = (M.bnd (evE X a) fun x => M.lift (revD x)) := Eq.trans rfl rfl
theorem wp_neg {X : Ctx} {a : E} {ρ : Rho} {Q : D → Rho → Prop} {E : Exn → Rho → Prop} : Wp (evE X (.neg a)) ρ Q E = Wp (evE X a) ρ (fun x ρ1 => ∃ i, x = .int i ∧ Q (.int (-i)) ρ1) E := by
  have h : evE X (.neg a) = M.bnd (evE X a) fun x => match x with
    | .int i => M.ret (.int (-i))
    | _ => fun _ => none := rfl
  rw [h, wp_bnd]
  congr 1
  funext x ρ1
  cases x <;> simp [Wp, M.ret]
theorem wp_so {X : Ctx} {e : E} {ρ : Rho} {Q : Option Int → Rho → Prop} {E : Exn → Rho → Prop} : Wp (evO X (some e)) ρ Q E = Wp (evE X e) ρ (fun x ρ1 => ∃ i, x = .int i ∧ Q (some i) ρ1) E := by
  have h : evO X (some e) = M.bnd (evE X e) fun x => match x with
    | .int i => M.ret (some i)
    | _ => fun _ => none := rfl
  rw [h, wp_bnd]
  congr 1
  funext x ρ1
  cases x <;> simp [Wp, M.ret]
theorem wp_no {X : Ctx} {ρ : Rho} {Q : Option Int → Rho → Prop} {E : Exn → Rho → Prop} : Wp (evO X none) ρ Q E = Q none ρ := Eq.trans rfl rfl
theorem atI_map {α β : Type} (f : α → β) (l : List α) (i : Int) : atI (l.map f) i = (atI l i).map f := by
  unfold atI
  rw [List.length_map]
  cases ixN l.length i <;> simp
theorem ixN_0 {n : Nat} (h : 0 < n) : ixN n 0 = some 0 := by
  unfold ixN; simp [h]
theorem u_popI (l : List Int) : mmD .pop (l.map .int) [] = l.getLast?.map fun x => (.int x, l.dropLast.map .int) := by
  have h : ∀ xs : List D, mmD .pop xs [] = match xs[xs.length - 1]? with
    | some y => some (y, xs.dropLast)
    | none => none := fun _ => rfl
  rw [h, List.length_map, List.getLast?_eq_getElem?, List.getElem?_map]
  cases l[l.length - 1]? <;> simp [List.map_dropLast]
theorem bits_lt {i : Int} {k : Nat} (h : i.natAbs < 2 ^ k) : Builtin.Int.intBits i ≤ k := by exact_mod_cast PyProof.Rows.intBits_le h
theorem mul_fits {a b : Int} {j k : Nat} (ha : a.natAbs < 2 ^ j) (hb : b.natAbs < 2 ^ k) (h : j + k ≤ 134217728) : Builtin.Int.intBits a + Builtin.Int.intBits b ≤ 134217728 := by
  have := bits_lt ha
  have := bits_lt hb
  omega
theorem on_ss {X : Ctx} {ss : List S} {ρ : Rho} {K : Kn} : K.on (exSs X ss ρ) = Rn X ss ρ K := rn_eq.symm
theorem bnd_nm {i : Nat} {x : D} {ρ : Rho} : bindT (.nm i) x ρ = if i < ρ.length then some (ρ.set i (some x)) else none := by rw [bindT]
theorem pow18 : (10 : Int) ^ (Int.toNat 18) = 1000000000000000000 := by decide
theorem rngD_mem {lo hi : Int} {d : D} (h : d ∈ rngD lo hi) : ∃ i : Int, d = .int i ∧ lo ≤ i ∧ i < hi := by
  unfold rngD at h
  obtain ⟨j, h1, rfl⟩ := List.mem_map.mp h
  have := List.mem_range.mp h1
  exact ⟨_, rfl, by omega, by omega⟩
theorem rngD_len {lo hi : Int} : (rngD lo hi).length = (hi - lo).toNat := by simp [rngD]
theorem atI_lt {α : Type} {l : List α} {i : Int} (h0 : 0 ≤ i) (h : i < l.length) : ∃ x, atI l i = some x ∧ x ∈ l := by
  have h1 : i.toNat < l.length := by omega
  have e : ixN l.length i = some i.toNat := by
    unfold ixN
    first
      | (simp only [h0, if_true]; rw [if_pos (by omega)])
      | simp [h0, h]
  unfold atI
  rw [e]
  exact ⟨l[i.toNat], by simp [h1], List.getElem_mem h1⟩
theorem rn_seq {X : Ctx} {ρ : Rho} {K : Kn} {s : S} {ss : List S} (P : Rho → Prop) (h1 : Rn X [s] ρ { K with N := P }) (h2 : ∀ ρ, P ρ → Rn X ss ρ K) : Rn X (s :: ss) ρ K := by
  rw [rn_cons] at h1 ⊢
  simp only [rn_nil] at h1
  exact on_mono h1 h2 (fun _ _ h => h) (fun _ h => h) (fun _ h => h) (fun _ _ h => h)
end VF

end
section
set_option Elab.async false
set_option linter.all false
set_option autoImplicit false
set_option maxRecDepth 100000
set_option maxHeartbeats 1000000
/-! VY: data in plain proofs: texts, what is shown, what is alike. -/
namespace VF
open PySem L2
/-- a text by its signs -/
def Tx (cs : List Nat) : Str := ⟨cs.toArray⟩
theorem Tx_list (cs : List Nat) : (Tx cs).cps.toList = cs := by simp [Tx]
theorem Tx_len (cs : List Nat) : (Tx cs).length = cs.length := by simp [Tx, Str.length]
theorem Tx_inj {a b : List Nat} : Tx a = Tx b ↔ a = b := by
  constructor
  · intro h
    have := congrArg (fun s : Str => s.cps.toList) h
    simpa [Tx] using this
  · intro h; rw [h]
theorem Tx_add (a b : List Nat) : Tx a ++ Tx b = Tx (a ++ b) := by
  show (⟨a.toArray ++ b.toArray⟩ : Str) = _
  simp [Tx]
theorem Tx_of (x : Str) : x = Tx x.cps.toList := by simp [Tx]
theorem join0 : ∀ l : List (List Nat), Txt.join (Tx []) (l.map Tx) = Tx l.flatten := by
  have h : ∀ l : List (List Nat), Str.join (Tx []) (l.map Tx) = Tx l.flatten := by
    intro l
    induction l with
    | nil => rfl
    | cons a r ih =>
      cases r with
      | nil => simp [Str.join]
      | cons b r =>
        show Tx a ++ Tx [] ++ Str.join (Tx []) ((b :: r).map Tx) = _
        rw [ih, Tx_add, Tx_add]
        simp
  intro l
  have e : ∀ (x : Str) (t : List Str), Txt.join x t = Str.join x t := fun x t => PySem.StrLaws.glued_eq_join x t
  rw [e, h]
theorem strsD_Tx : ∀ l : List (List Nat), strsD (l.map fun c => .str (Tx c)) = some (l.map Tx)
  | [] => rfl
  | a :: r => by simp [strsD, strsD_Tx r]
theorem sumlen (l : List (List Nat)) : ((l.map Tx).map (·.length)).sum = l.flatten.length := by
  induction l with
  | nil => rfl
  | cons a r ih => simp only [List.map_cons, List.sum_cons, ih, Tx_len, List.flatten_cons, List.length_append]
/-- ''.join of texts -/
theorem join_Tx (l : List (List Nat)) (h : l.flatten.length ≤ 16777216) : mtD .join (.str (Tx [])) [.list (l.map fun c => .str (Tx c))] = some (.str (Tx l.flatten)) := by
  rw [m_join, strsD_Tx]
  have h1 : (Tx []).length = 0 := rfl
  simp only [Option.bind_some, join0, Tx_len, sumlen, h1, Nat.mul_zero, Nat.add_zero]
  have h2 : okLen l.flatten.length = true := by simp only [okLen, decide_eq_true_eq]; exact h
  simp only [h2, Bool.and_self, if_true]
/-- the signs of a text as items -/
theorem items_Tx (cs : List Nat) : ((Tx cs).cps.toList.map fun c => PyData.str ⟨#[c]⟩) = cs.map fun c => .str (Tx [c]) := by rw [Tx_list]; rfl
theorem flat1 (cs : List Nat) : (cs.map fun c => [c]).flatten = cs := by induction cs <;> simp_all
/-! what is alike, what is shown -/
mutual
theorem eqv_self : ∀ d : D, szD d = true → PyData.eqv d d = true
  | .none, _ => by simp [PyData.eqv]
  | .bool _, _ => by simp [PyData.eqv]
  | .int _, _ => by simp [PyData.eqv]
  | .str _, _ => by simp [PyData.eqv]
  | .list xs, h => by simp only [szD, Bool.and_eq_true] at h; simp only [PyData.eqv]; exact eqvs_self xs h.2
  | .tuple xs, h => by simp only [szD, Bool.and_eq_true] at h; simp only [PyData.eqv]; exact eqvs_self xs h.2
  | .dict _, h => by simp [szD] at h
theorem eqvs_self : ∀ ds : List D, szDs ds = true → PyData.eqvAll ds ds = true
  | [], _ => by simp [PyData.eqvAll]
  | d :: ds, h => by simp only [szDs, Bool.and_eq_true] at h; simp only [PyData.eqvAll, Bool.and_eq_true]; exact ⟨eqv_self d h.1, eqvs_self ds h.2⟩
end
/- how long what is shown gets, at most; and whether it may be shown at all -/
mutual
def wt : D → Nat
  | .none => 4
  | .bool _ => 5
  | .int i => i.natAbs.log2 + 2
  | .str x => 10 * x.length + 2
  | .list xs => wts xs + 2
  | .tuple xs => wts xs + 3
  | .dict _ => 0
def wts : List D → Nat
  | [] => 0
  | x :: xs => wt x + 2 + wts xs
end
mutual
def shw : D → Bool
  | .none => true
  | .bool _ => true
  | .int i => decide (i.natAbs.log2 < 1920)
  | .str x => x.cps.all (· < 1114112)
  | .list xs => shws xs
  | .tuple xs => shws xs
  | .dict _ => false
def shws : List D → Bool
  | [] => true
  | x :: xs => shw x && shws xs
end
mutual
theorem shw_lay : ∀ d : D, shw d = true → d.canLay0 = true ∧ d.showable = true
  | .none, _ => by simp [PyData.canLay0, PyData.showable]
  | .bool _, _ => by simp [PyData.canLay0, PyData.showable]
  | .int i, h => by simp only [shw] at h; simp [PyData.canLay0, PyData.showable]; simpa using h
  | .str x, h => by simp only [shw] at h; exact ⟨by simp only [PyData.canLay0, PyData.strOk]; exact h, by simp [PyData.showable]⟩
  | .list xs, h => by simp only [shw] at h; simp only [PyData.canLay0, PyData.showable]; exact shws_lay xs h
  | .tuple xs, h => by simp only [shw] at h; simp only [PyData.canLay0, PyData.showable]; exact shws_lay xs h
  | .dict _, h => by simp [shw] at h
theorem shws_lay : ∀ ds : List D, shws ds = true → PyData.canLayAll0 ds = true ∧ PyData.showableAll ds = true
  | [], _ => by simp [PyData.canLayAll0, PyData.showableAll]
  | d :: ds, h => by
    simp only [shws, Bool.and_eq_true] at h
    have a := shw_lay d h.1
    have b := shws_lay ds h.2
    simp [PyData.canLayAll0, PyData.showableAll, a.1, a.2, b.1, b.2]
end
def sumL : List Str → Nat
  | [] => 0
  | x :: xs => x.length + 2 + sumL xs
theorem len_add (a b : Str) : (a ++ b).length = a.length + b.length := by
  show (a.cps ++ b.cps).size = _
  simp [Str.length]
theorem textFrom_le : ∀ (ts : List Str) (k : Nat) (acc : Str), (textFrom k acc ts).length ≤ acc.length + sumL ts
  | [], k, acc => by simp [textFrom, sumL]
  | t :: r, k, acc => by
    have := textFrom_le r (k + 1) (acc ++ (if k > 0 then ", " else "" : String) ++ t)
    have h2 : (Str.ofString (if k > 0 then ", " else "" : String)).length ≤ 2 := by split <;> decide
    simp only [len_add] at this
    show (textFrom (k + 1) (acc ++ (if k > 0 then ", " else "" : String) ++ t) r).length ≤ _
    simp only [sumL]
    omega
theorem join_le : ∀ ts : List Str, (Str.join ", " ts).length ≤ sumL ts
  | [] => by show 0 ≤ _; omega
  | [x] => by simp only [Str.join, sumL]; omega
  | x :: y :: r => by
    have := join_le (y :: r)
    have h2 : (Str.ofString ", ").length = 2 := by decide
    show (x ++ (", " : Str) ++ Str.join ", " (y :: r)).length ≤ _
    rw [len_add, len_add, h2]
    simp only [sumL] at this ⊢
    omega
mutual
theorem shown_le : ∀ d : D, shw d = true → d.shown.length ≤ wt d
  | .none, _ => by simp only [PyData.shown, wt]; decide
  | .bool b, _ => by cases b <;> (simp only [PyData.shown, wt]; decide)
  | .int i, h => by
    simp only [PyData.shown, wt]
    have e := PySem.int_text_length_le (k := i.natAbs.log2 + 1) (by omega) (show i.natAbs.log2 < i.natAbs.log2 + 1 by omega)
    rw [PySem.ofString_length]
    omega
  | .str x, h => by
    simp only [PyData.shown, wt]
    refine PySem.StrLaws.reprText_len x fun c hc => ?_
    simp only [shw, Array.all_eq_true'] at h
    have := h c (by simpa using hc)
    simp at this
    omega
  | .list xs, h => by
    simp only [shw] at h
    simp only [PyData.shown, wt]
    have := showns_le xs h
    have h1 := textFrom_le (PyData.shownAll xs) 0 "["
    have h2 : (Str.ofString "[").length = 1 := by decide
    have h3 : (Str.ofString "]").length = 1 := by decide
    unfold listText
    rw [len_add, h3]
    omega
  | .tuple xs, h => by
    simp only [shw] at h
    simp only [PyData.shown, wt]
    have := showns_le xs h
    have h1 := join_le (PyData.shownAll xs)
    have h2 : (Str.ofString "(").length = 1 := by decide
    unfold tupleText
    rw [len_add, len_add, h2]
    have h3 : (Str.ofString (if (PyData.shownAll xs).length == 1 then ",)" else ")" : String)).length ≤ 2 := by split <;> decide
    omega
  | .dict _, h => by simp [shw] at h
theorem showns_le : ∀ ds : List D, shws ds = true → sumL (PyData.shownAll ds) ≤ wts ds
  | [], _ => by simp [PyData.shownAll, sumL, wts]
  | d :: ds, h => by
    simp only [shws, Bool.and_eq_true] at h
    have a := shown_le d h.1
    have b := showns_le ds h.2
    simp only [PyData.shownAll, sumL, wts]
    omega
end
theorem shwOk_of {d : D} (h : shw d = true) (hd : d.depth ≤ 64) (hw : wt d ≤ 16777216) : shwOk d = true := by
  have a := shw_lay d h
  have b := shown_le d h
  unfold shwOk SeqAt.shaped
  simp only [Bool.and_eq_true, decide_eq_true_eq, okLen]
  exact ⟨⟨⟨a.1, hd⟩, a.2⟩, by omega⟩
theorem shaped_of {d : D} (h : shw d = true) (hd : d.depth ≤ 64) : SeqAt.shaped d = true := by
  unfold SeqAt.shaped
  simp only [Bool.and_eq_true, decide_eq_true_eq]
  exact ⟨(shw_lay d h).1, hd⟩
/-! comprehensions that change no name -/
theorem wp_map {X : Ctx} {el : E} {tg : Tg} {it : I} {vs : List Nat} {ρ : Rho} {Q : D → Rho → Prop} {E : Exn → Rho → Prop} {α : Type} (xs : List α) (enc g : α → D) (hl : xs.length ≤ 16777216)
    (hi : Wp (evI X it) ρ (fun ds ρ1 => ds = xs.map enc ∧ ρ1 = ρ) E)
    (hs : ∀ x ∈ xs, ∃ ρ1, bindT tg (enc x) (wipeR ρ vs) = some ρ1 ∧ Wp (evE X el) ρ1 (fun y ρ3 => y = g x ∧ wipeR ρ3 vs = wipeR ρ vs) fun _ _ => False)
    (hQ : Q (.list (xs.map g)) (backR ρ vs (wipeR ρ vs))) : Wp (evE X (.comp el tg it none vs)) ρ Q E := by
  refine wp_comp (fun ds ys ρ' => ρ' = wipeR ρ vs ∧ ∃ a b, xs = a ++ b ∧ ds = b.map enc ∧ ys = a.map g) ?_ (wp_mono hi (fun ds ρ1 ⟨h1, h2⟩ => ?_) fun _ _ h => h)
  · rintro x ds ys ρ' ⟨rfl, a, b, e1, e2, rfl⟩
    cases b with
    | nil => simp at e2
    | cons z b =>
      simp only [List.map_cons, List.cons.injEq] at e2
      obtain ⟨rfl, rfl⟩ := e2
      obtain ⟨ρ1, e3, q⟩ := hs z (by rw [e1]; simp)
      refine ⟨ρ1, e3, ?_⟩
      show Wp (M.ret true) ρ1 _ _
      rw [wp_ret, if_pos rfl]
      refine wp_mono q (fun y ρ3 ⟨h1, h2⟩ => ⟨h2, a ++ [z], b, by rw [e1]; simp, rfl, by rw [h1]; simp⟩) fun _ _ h => h
  · subst h1 h2
    refine ⟨by simp [okLen, hl], ⟨rfl, [], xs, rfl, rfl, rfl⟩, ?_⟩
    rintro zs ρ' ⟨rfl, a, b, e1, e2, rfl⟩
    cases b with
    | cons => simp at e2
    | nil => rw [List.append_nil] at e1; subst e1; exact hQ
theorem wp_filter {X : Ctx} {el c : E} {tg : Tg} {it : I} {vs : List Nat} {ρ : Rho} {Q : D → Rho → Prop} {E : Exn → Rho → Prop} {α : Type} (xs : List α) (enc g : α → D) (f : α → Bool) (hl : xs.length ≤ 16777216)
    (hi : Wp (evI X it) ρ (fun ds ρ1 => ds = xs.map enc ∧ ρ1 = ρ) E)
    (hs : ∀ x ∈ xs, ∃ ρ1, bindT tg (enc x) (wipeR ρ vs) = some ρ1 ∧ Wp (M.bnd (evE X c) asB) ρ1 (fun t ρ2 => t = f x ∧ if f x then Wp (evE X el) ρ2 (fun y ρ3 => y = g x ∧ wipeR ρ3 vs = wipeR ρ vs) (fun _ _ => False) else wipeR ρ2 vs = wipeR ρ vs) fun _ _ => False)
    (hQ : Q (.list ((xs.filter f).map g)) (backR ρ vs (wipeR ρ vs))) : Wp (evE X (.comp el tg it (some c) vs)) ρ Q E := by
  refine wp_comp (fun ds ys ρ' => ρ' = wipeR ρ vs ∧ ∃ a b, xs = a ++ b ∧ ds = b.map enc ∧ ys = (a.filter f).map g) ?_ (wp_mono hi (fun ds ρ1 ⟨h1, h2⟩ => ?_) fun _ _ h => h)
  · rintro x ds ys ρ' ⟨rfl, a, b, e1, e2, rfl⟩
    cases b with
    | nil => simp at e2
    | cons z b =>
      simp only [List.map_cons, List.cons.injEq] at e2
      obtain ⟨rfl, rfl⟩ := e2
      obtain ⟨ρ1, e3, q⟩ := hs z (by rw [e1]; simp)
      refine ⟨ρ1, e3, ?_⟩
      show Wp (M.bnd (evE X c) asB) ρ1 _ _
      refine wp_mono q (fun t ρ2 ⟨h1, h2⟩ => ?_) fun _ _ h => h
      subst h1
      cases hf : f z with
      | true =>
        rw [hf] at h2
        rw [if_pos rfl] at h2 ⊢
        exact wp_mono h2 (fun y ρ3 ⟨h3, h4⟩ => ⟨h4, a ++ [z], b, by rw [e1]; simp, rfl, by rw [h3]; simp [hf]⟩) fun _ _ h => h
      | false =>
        rw [hf] at h2
        rw [if_neg (by simp)] at h2 ⊢
        exact ⟨h2, a ++ [z], b, by rw [e1]; simp, rfl, by simp [hf]⟩
  · subst h1 h2
    refine ⟨by simp [okLen, hl], ⟨rfl, [], xs, rfl, rfl, rfl⟩, ?_⟩
    rintro zs ρ' ⟨rfl, a, b, e1, e2, rfl⟩
    cases b with
    | cons => simp at e2
    | nil => rw [List.append_nil] at e1; subst e1; exact hQ
/-- a call whose outcome is known -/
theorem call_eq {T : List Fn} {n f : Nat} {ds : List D} {d : D} (h : CallOk T n f ds fun r o => r = d ∧ o = []) : callN T n f ds = some (.ok d []) := by
  obtain ⟨r, o, e, rfl, rfl⟩ := h
  exact e
theorem wipeR_c {ρ : Rho} {v : Nat} {vs : List Nat} : wipeR ρ (v :: vs) = (wipeR ρ vs).set v none := Eq.trans rfl rfl
theorem wipeR_n {ρ : Rho} : wipeR ρ [] = ρ := Eq.trans rfl rfl
theorem backR_c {ρ ρ0 : Rho} {v : Nat} {vs : List Nat} : backR ρ0 (v :: vs) ρ = (backR ρ0 vs ρ).set v (ρ0[v]?.getD none) := Eq.trans rfl rfl
theorem backR_n {ρ ρ0 : Rho} : backR ρ0 [] ρ = ρ := Eq.trans rfl rfl
/-! texts of 0 and 1 -/
def bin (w : List Nat) : Prop := ∀ c ∈ w, c = 48 ∨ c = 49
def flipC (c : Nat) : Nat := if c = 48 then 49 else 48
def opp (w : List Nat) : List Nat := w.map flipC
theorem int0 : intText? (Tx [48]) = some 0 := by decide +kernel
theorem int1 : intText? (Tx [49]) = some 1 := by decide +kernel
theorem lit_e : (Str.ofString "") = Tx [] := by decide +kernel
theorem lit_0 : (Str.ofString "0") = Tx [48] := by decide +kernel
theorem lit_1 : (Str.ofString "1") = Tx [49] := by decide +kernel
theorem lit_10 : (Str.ofString "10") = Tx [49, 48] := by decide +kernel
theorem lit_01 : (Str.ofString "01") = Tx [48, 49] := by decide +kernel
theorem lit_m : (Str.ofString "-") = Tx [45] := by decide +kernel
theorem opp_len (w : List Nat) : (opp w).length = w.length := by simp [opp]
theorem opp_bin {w : List Nat} (h : bin w) : bin (opp w) := by
  intro c hc
  obtain ⟨x, hx, rfl⟩ := List.mem_map.mp hc
  unfold flipC
  split <;> simp
theorem flat_one {α : Type} (f : α → Nat) : ∀ l : List α, (l.map fun c => [f c]).flatten = l.map f
  | [] => rfl
  | a :: l => by simp [flat_one f l]
theorem join_map {α : Type} (f : α → List Nat) (l : List α) (h : (l.map f).flatten.length ≤ 16777216) : mtD .join (.str (Tx [])) [.list (l.map fun a => .str (Tx (f a)))] = some (.str (Tx (l.map f).flatten)) := by
  have := join_Tx (l.map f) h
  rw [List.map_map] at this
  exact this
theorem join_one {α : Type} (f : α → Nat) (l : List α) (h : l.length ≤ 16777216) : mtD .join (.str (Tx [])) [.list (l.map fun a => .str (Tx [f a]))] = some (.str (Tx (l.map f))) := by
  have := join_map (fun a => [f a]) l (by rw [flat_one]; simpa using h)
  rw [flat_one] at this
  exact this
theorem atI_z {α : Type} (x : α) (l : List α) : atI (x :: l) 0 = some x := by
  unfold atI
  rw [List.length_cons, ixN_0 (by omega)]; rfl
theorem atI_o {α : Type} (x y : α) (l : List α) : atI (x :: y :: l) 1 = some y := by
  have e : ixN (x :: y :: l).length 1 = some 1 := by
    unfold ixN
    simp
    omega
  unfold atI
  rw [e]; rfl
theorem shp_int (i : Int) : SeqAt.shaped (.int i) = true := by simp [SeqAt.shaped, PyData.canLay0, PyData.depth]
theorem shp_none : SeqAt.shaped .none = true := by simp [SeqAt.shaped, PyData.canLay0, PyData.depth]
theorem shp_bool (b : Bool) : SeqAt.shaped (.bool b) = true := by simp [SeqAt.shaped, PyData.canLay0, PyData.depth]
theorem shp_str {cs : List Nat} (h : ∀ c ∈ cs, c < 1114112) : SeqAt.shaped (.str (Tx cs)) = true := by
  refine shaped_of ?_ (by simp [PyData.depth])
  simp only [shw, Array.all_eq_true']
  intro c hc
  have : c ∈ (Tx cs).cps.toList := by simpa using hc
  rw [Tx_list] at this
  simpa using h c this
theorem eqv_str (a b : List Nat) : PyData.eqv (.str (Tx a)) (.str (Tx b)) = decide (a = b) := by
  simp only [PyData.eqv]
  by_cases h : a = b
  · subst h; simp
  · have : ¬ Tx a = Tx b := fun z => h (Tx_inj.mp z)
    simp [h, this]
theorem eqv_int (a b : Int) : PyData.eqv (.int a) (.int b) = decide (a = b) := by
  simp only [PyData.eqv]
  by_cases h : a = b
  · subst h; simp
  · simp [h]
theorem bin_ok {w : List Nat} (h : bin w) : ∀ c ∈ w, c < 1114112 := fun c hc => by rcases h c hc with h | h <;> omega
theorem tx1 (c : Nat) : (⟨#[c]⟩ : Str) = Tx [c] := Eq.trans rfl rfl
theorem atI_nat {α : Type} {l : List α} {i : Nat} (h : i < l.length) (d : α) : atI l (i : Int) = some (l.getD i d) := by
  have e : ixN l.length (i : Int) = some i := by
    unfold ixN
    simp [h]
  unfold atI
  rw [e]
  simp [List.getD, h]
/-! lots and words, as they stand in the data -/
structure Lot where
  ws : List Nat
  pt : List Nat
def eW (w : List Nat) : D := .str (Tx w)
def eL (l : Lot) : D := .tuple [.tuple (l.ws.map fun i => .int (i : Nat)), eW l.pt]
structure LotOk (size : Nat) (l : Lot) : Prop where
  ne : l.ws ≠ []
  sz : l.ws.length ≤ 60
  lt : ∀ i ∈ l.ws, i < size
  ln : l.pt.length = l.ws.length
  bn : bin l.pt
  nd : l.ws.Nodup
structure WordOk (size : Nat) (w : List Nat) : Prop where
  ln : w.length = size
  bn : bin w
def part (w ws : List Nat) : List Nat := ws.map fun i => w.getD i 48
theorem part_bin {w ws : List Nat} (h : bin w) : bin (part w ws) := by
  intro c hc
  obtain ⟨i, hi, rfl⟩ := List.mem_map.mp hc
  by_cases z : i < w.length
  · simp only [List.getD, z, List.getElem?_eq_getElem, Option.getD_some]
    exact h _ (List.getElem_mem z)
  · left
    simp [List.getD, List.getElem?_eq_none (Nat.le_of_not_lt z)]
def lack (l : Lot) (b : Nat) : List Nat := if b = 48 then l.pt else opp l.pt
def has (w : List Nat) (l : Lot) (b : Nat) : Bool := decide (part w l.ws = lack l b)
/-- the places of those that p takes, counted from k -/
def posF {α : Type} (p : α → Bool) : Nat → List α → List Nat
  | _, [] => []
  | k, x :: xs => if p x then k :: posF p (k + 1) xs else posF p (k + 1) xs
theorem posF_lt {α : Type} (p : α → Bool) : ∀ (xs : List α) (k j : Nat), j ∈ posF p k xs → j < k + xs.length
  | [], _, _, h => by simp [posF] at h
  | x :: xs, k, j, h => by
    unfold posF at h
    have rec_ := posF_lt p xs (k + 1) j
    split at h
    · rcases List.mem_cons.mp h with h | h
      · simp; omega
      · have := rec_ h; simp; omega
    · have := rec_ h; simp; omega
theorem posF_len {α : Type} (p : α → Bool) : ∀ (xs : List α) (k : Nat), (posF p k xs).length ≤ xs.length
  | [], _ => by simp [posF]
  | x :: xs, k => by
    unfold posF
    have := posF_len p xs (k + 1)
    split <;> simp <;> omega
/-- the place of the first that p takes, or -1 -/
def fstI {α : Type} (p : α → Bool) : Nat → List α → Int
  | _, [] => -1
  | k, x :: xs => if p x then (k : Int) else fstI p (k + 1) xs
theorem enumD_c (k : Nat) (x : D) (xs : List D) : enumD k (x :: xs) = .tuple [.int k, x] :: enumD (k + 1) xs := Eq.trans rfl rfl
theorem enumD_n (k : Nat) : enumD k [] = [] := Eq.trans rfl rfl
theorem enumD_0 {k : Nat} {xs : List D} (h : [] = enumD k xs) : xs = [] := by cases xs with | nil => rfl | cons => simp [enumD] at h
theorem enumD_1 {k : Nat} {xs ds : List D} {d : D} (h : d :: ds = enumD k xs) : ∃ x r, xs = x :: r ∧ d = .tuple [.int k, x] ∧ ds = enumD (k + 1) r := by
  cases xs with
  | nil => simp [enumD] at h
  | cons x r => simp only [enumD, List.cons.injEq] at h; exact ⟨x, r, rfl, h.1, h.2⟩
theorem bnd_tp {ts : List Tg} {ds : List D} {ρ : Rho} : bindT (.tp ts) (.tuple ds) ρ = bindTs ts ds ρ := by rw [bindT]
theorem bnds_n {ρ : Rho} : bindTs [] [] ρ = some ρ := by rw [bindTs]
theorem bnds_c {t : Tg} {ts : List Tg} {d : D} {ds : List D} {ρ : Rho} : bindTs (t :: ts) (d :: ds) ρ = (bindT t d ρ).bind fun ρ' => bindTs ts ds ρ' := by rw [bindTs]
theorem shw_ints : ∀ l : List Nat, (∀ i ∈ l, i < 100000) → shws (l.map fun i => .int (i : Nat)) = true ∧ PyData.depthAll (l.map fun i => .int (i : Nat)) = 0 ∧ wts (l.map fun i => .int (i : Nat)) ≤ 25 * l.length
  | [], _ => by simp [shws, PyData.depthAll, wts]
  | i :: l, h => by
    obtain ⟨a, b, c⟩ := shw_ints l fun j hj => h j (List.mem_cons_of_mem _ hj)
    have h0 : (i : Nat).log2 < 17 := by
      by_cases z : i = 0
      · subst z; decide
      · exact (Nat.log2_lt z).mpr (by have := h i List.mem_cons_self; omega)
    simp only [List.map_cons, shws, shw, PyData.depthAll, PyData.depth, wts, wt, Int.natAbs_natCast, Bool.and_eq_true, decide_eq_true_eq, List.length_cons]
    refine ⟨⟨by omega, a⟩, by rw [b]; rfl, by omega⟩
theorem shp_ints (l : List Nat) (h : ∀ i ∈ l, i < 100000) : SeqAt.shaped (.tuple (l.map fun i => .int (i : Nat))) = true := by
  obtain ⟨a, b, _⟩ := shw_ints l h
  exact shaped_of (by simp only [shw]; exact a) (by simp only [PyData.depth, b]; omega)
theorem shp_nil : SeqAt.shaped (.tuple []) = true := shaped_of (by simp [shw, shws]) (by simp [PyData.depth, PyData.depthAll])
theorem eqv_nil (xs : List D) : PyData.eqv (.tuple xs) (.tuple []) = xs.isEmpty := by
  simp only [PyData.eqv]
  cases xs <;> simp [PyData.eqvAll]
/-! triples of ints, their order -/
structure Tr where
  a : Int
  b : Int
  c : Int
def eT (t : Tr) : D := .tuple [.int t.a, .int t.b, .int t.c]
def Tr.lt (t f : Tr) : Bool := decide (t.a < f.a ∨ (t.a = f.a ∧ (t.b < f.b ∨ (t.b = f.b ∧ t.c < f.c))))
theorem lt3 (t f : Tr) : PySem.W.dataLt (eT t) (eT f) = t.lt f := by
  obtain ⟨a, b, c⟩ := t
  obtain ⟨x, y, z⟩ := f
  have h : ∀ p q : Int, PySem.W.alike (.int p) (.int q) = true := fun p q => by simp [PySem.W.alike]
  unfold eT Tr.lt
  rw [PySem.W.dataLt_tuple, PySem.W.dataLt_cons (h a x), PySem.W.dataLt_cons (h b y), PySem.W.dataLt_cons (h c z)]
  have e : PyProof.Rows.lexLt PyProof.Rows.itemOrd (PySem.W.keyToksAll []) (PySem.W.keyToksAll []) = false := by
    simp [PySem.W.keyToksAll, PyProof.Rows.lexLt]
    try decide
  rw [e, eqv_int, eqv_int, eqv_int, PySem.W.dataLt_int, PySem.W.dataLt_int, PySem.W.dataLt_int]
  by_cases h1 : a = x
  · subst h1
    by_cases h2 : b = y
    · subst h2
      by_cases h3 : c = z
      · subst h3; simp
      · simp [h3]
    · simp [h2]
  · simp [h1]
theorem tup3 (t f : Tr) (ht : t.a.natAbs.log2 < 1920 ∧ t.b.natAbs.log2 < 1920 ∧ t.c.natAbs.log2 < 1920) (hf : f.a.natAbs.log2 < 1920 ∧ f.b.natAbs.log2 < 1920 ∧ f.c.natAbs.log2 < 1920) : tupOk [.int t.a, .int t.b, .int t.c] [.int f.a, .int f.b, .int f.c] = true := by
  unfold tupOk
  have h : ∀ t : Tr, t.a.natAbs.log2 < 1920 ∧ t.b.natAbs.log2 < 1920 ∧ t.c.natAbs.log2 < 1920 → SeqAt.shaped (.tuple [.int t.a, .int t.b, .int t.c]) = true := fun t h => shaped_of (by simp [shw, shws, h.1, h.2.1, h.2.2]) (by simp [PyData.depth, PyData.depthAll])
  rw [h t ht, h f hf]
  simp [PySem.W.alike, PySem.W.alikeAll]
theorem fstI_lt {α : Type} (p : α → Bool) : ∀ (xs : List α) (k : Nat), fstI p k xs < k + xs.length ∧ -1 ≤ fstI p k xs
  | [], k => by simp [fstI]; omega
  | x :: xs, k => by
    unfold fstI
    have := fstI_lt p xs (k + 1)
    split <;> simp <;> omega
theorem small_log {i : Int} (h0 : -1 ≤ i) (h : i < 100000) : i.natAbs.log2 < 1920 := by
  have h1 : i.natAbs < 2 ^ 17 := by omega
  by_cases z : i.natAbs = 0
  · rw [z]; decide
  · have := (Nat.log2_lt z).mpr h1; omega
/-- the sign of a lot in a row -/
def sgn (w : List Nat) (l : Lot) : Nat := if part w l.ws = l.pt ∨ part w l.ws = opp l.pt then (part w l.ws).getD 0 0 else 45
theorem join_list (cs : List Nat) (h : cs.length ≤ 16777216) : mtD .join (.str (Tx [])) [.list (cs.map fun c => .str (Tx [c]))] = some (.str (Tx cs)) := by
  have := join_one (fun c : Nat => c) cs h
  rw [List.map_id'] at this
  exact this
theorem rngD_cons {lo hi : Int} (h : lo < hi) : rngD lo hi = .int lo :: rngD (lo + 1) hi := by
  unfold rngD
  obtain ⟨n, hn⟩ : ∃ n : Nat, (hi - lo).toNat = n + 1 := ⟨(hi - lo).toNat - 1, by omega⟩
  have hn2 : (hi - (lo + 1)).toNat = n := by omega
  rw [hn, hn2, List.range_succ_eq_map]
  simp only [List.map_cons, List.map_map]
  congr 1
  · simp
  · apply List.map_congr_left
    intro a _
    simp only [Function.comp]
    congr 1
    push_cast
    omega
theorem rngD_nil {lo hi : Int} (h : hi ≤ lo) : rngD lo hi = [] := by
  unfold rngD
  rw [show (hi - lo).toNat = 0 by omega]
  rfl
theorem rngD_0 (n : Nat) : rngD 0 (n : Int) = (List.range n).map fun i => .int (i : Nat) := by
  unfold rngD
  simp
/-- a for over range(lo, hi) by an invariant of the index -/
theorem rng_inv {K : Kn} {bnd : D → Rho → Option Rho} {b : Rho → Option Out} (P : Nat → Rho → Prop) (lo hi : Nat) (lo' : Int) (hlo : lo' = lo) (hle : lo ≤ hi) (h0 : ∀ ρ, P hi ρ → K.N ρ)
    (hs : ∀ i ρ, lo ≤ i → i < hi → P i ρ → ∃ ρ1, bnd (.int (i : Nat)) ρ = some ρ1 ∧ ({ K with N := P (i + 1), C := P (i + 1), B := K.N } : Kn).on (b ρ1)) (ρ : Rho) (h : P lo ρ) : K.on (forL bnd b (rngD lo' (hi : Int)) ρ) := by
  subst hlo
  refine for_inv (fun ds ρ => ∃ i : Nat, lo ≤ i ∧ i ≤ hi ∧ ds = rngD i hi ∧ P i ρ) ?_ ?_ _ _ ⟨lo, by omega, hle, rfl, h⟩
  · rintro ρ ⟨i, h1, h2, h3, h4⟩
    have : i = hi := by
      by_cases hlt : i < hi
      · rw [rngD_cons (by omega)] at h3
        cases h3
      · omega
    subst this
    exact h0 _ h4
  · rintro x xs ρ ⟨i, h1, h2, h3, h4⟩
    by_cases hlt : i < hi
    · rw [rngD_cons (by omega)] at h3
      cases h3
      obtain ⟨ρ1, k1, k2⟩ := hs i ρ h1 hlt h4
      refine ⟨ρ1, k1, on_mono k2 ?_ (fun _ _ h => h) (fun _ h => h) ?_ (fun _ _ h => h)⟩
      · exact fun ρ2 h => ⟨i + 1, by omega, by omega, rfl, h⟩
      · exact fun ρ2 h => ⟨i + 1, by omega, by omega, rfl, h⟩
    · rw [rngD_nil (by omega)] at h3
      cases h3
/-- a for over a list of things -/
theorem lst_inv {K : Kn} {bnd : D → Rho → Option Rho} {b : Rho → Option Out} {α : Type} (enc : α → D) (P : List α → Rho → Prop) (h0 : ∀ ρ, P [] ρ → K.N ρ)
    (hs : ∀ x xs ρ, P (x :: xs) ρ → ∃ ρ1, bnd (enc x) ρ = some ρ1 ∧ ({ K with N := P xs, C := P xs, B := K.N } : Kn).on (b ρ1)) : ∀ (xs : List α) (ρ : Rho), P xs ρ → K.on (forL bnd b (xs.map enc) ρ)
  | [], ρ, h => by
    rw [List.map_nil, for_nil]
    exact h0 ρ h
  | x :: xs, ρ, h => by
    rw [List.map_cons, for_cons]
    obtain ⟨ρ1, k1, k2⟩ := hs x xs ρ h
    exact ⟨ρ1, k1, on_mono k2 (fun ρ2 h => lst_inv enc P h0 hs xs ρ2 h) (fun _ _ h => h) (fun _ h => h) (fun ρ2 h => lst_inv enc P h0 hs xs ρ2 h) (fun _ _ h => h)⟩
def IsMin (C : Tr → Prop) : Option Tr → Prop
  | none => ∀ t, ¬ C t
  | some t => C t ∧ ∀ s, C s → s.lt t = false
theorem tr_tot {s t : Tr} (h1 : s.lt t = false) (h2 : t.lt s = false) : s = t := by
  unfold Tr.lt at h1 h2
  simp only [decide_eq_false_iff_not] at h1 h2
  obtain ⟨a, b, c⟩ := s
  obtain ⟨a', b', c'⟩ := t
  dsimp only at h1 h2
  have e1 : a = a' := by omega
  subst e1
  have e2 : b = b' := by omega
  subst e2
  have e3 : c = c' := by omega
  subst e3
  rfl
theorem isMin_eq {C : Tr → Prop} {o o' : Option Tr} (h : IsMin C o) (h' : IsMin C o') : o = o' := by
  cases o with
  | none =>
    cases o' with
    | none => rfl
    | some t => exact absurd h'.1 (h t)
  | some s =>
    cases o' with
    | none => exact absurd h.1 (h' s)
    | some t => rw [tr_tot (h'.2 s h.1) (h.2 t h'.1)]
end VF

end
section
set_option Elab.async false
set_option linter.all false
set_option autoImplicit false
set_option maxRecDepth 100000
set_option maxHeartbeats 1000000
/-! VZ: the rules of a walk, for slots that stand written out (so that nothing is rewritten ahead of its time), and loops with a closed rest. -/
namespace VF
open PySem L2
section
variable {X : Ctx} {p : Option D} {ρ : Rho} {Er : Exn → Rho → Prop} {K : Kn} {α β : Type}
theorem q_bnd {x : M α} {f : α → M β} {Q : β → Rho → Prop} : Wp (M.bnd x f) (p :: ρ) Q Er = Wp x (p :: ρ) (fun a ρ1 => Wp (f a) ρ1 Q Er) Er := wp_bnd
theorem q_ret {a : α} {Q : α → Rho → Prop} : Wp (M.ret a) (p :: ρ) Q Er = Q a (p :: ρ) := Eq.trans rfl rfl
theorem q_none {Q : α → Rho → Prop} : Wp (fun _ => none : M α) (p :: ρ) Q Er = False := Eq.trans rfl rfl
theorem q_lift {o : Option α} {Q : α → Rho → Prop} : Wp (M.lift o) (p :: ρ) Q Er = ∃ a, o = some a ∧ Q a (p :: ρ) := wp_lift
theorem q_itep {c : Prop} [Decidable c] {x y : M α} {Q : α → Rho → Prop} : Wp (if c then x else y) (p :: ρ) Q Er = if c then Wp x (p :: ρ) Q Er else Wp y (p :: ρ) Q Er := wp_itep
theorem q_s {i : Nat} {Q : D → Rho → Prop} : Wp (rdP (.s i)) (p :: ρ) Q Er = ∃ d, (p :: ρ)[i]? = some (some d) ∧ Q d (p :: ρ) := wp_s
theorem q_d {x : D} {Q : D → Rho → Prop} : Wp (rdP (.d x)) (p :: ρ) Q Er = Q x (p :: ρ) := Eq.trans rfl rfl
theorem q_pv {i : Nat} {x : M D} {Q : Pd → Rho → Prop} : Wp (opnd (.var i) x) (p :: ρ) Q Er = ∃ d, (p :: ρ)[i]? = some (some d) ∧ Q (.s i) (p :: ρ) := wp_pv
theorem q_asB {d : D} {Q : Bool → Rho → Prop} : Wp (asB d) (p :: ρ) Q Er = ∃ b, d = .bool b ∧ Q b (p :: ρ) := wp_asB
theorem q_call {f : Nat} {ps : List Pd} {Q : D → Rho → Prop} : Wp (callM X f ps) (p :: ρ) Q Er = Wp (rdPs ps) (p :: ρ) (fun ds ρ1 => match X.C f ds with
    | none => False
    | some (.ok d outs) => ∃ ρ2, outsTo (X.sg f) ps outs ρ1 = some ρ2 ∧ Q d ρ2
    | some (.ex e outs) => ∃ ρ2, outsTo (X.sg f) ps outs ρ1 = some ρ2 ∧ Er e ρ2) Er := wp_call
theorem q_neg {a : E} {Q : D → Rho → Prop} {Er : Exn → Rho → Prop} : Wp (evE X (.neg a)) (p :: ρ) Q Er = Wp (evE X a) (p :: ρ) (fun x ρ1 => ∃ i, x = .int i ∧ Q (.int (-i)) ρ1) Er := wp_neg
theorem q_so {e : E} {Q : Option Int → Rho → Prop} {Er : Exn → Rho → Prop} : Wp (evO X (some e)) (p :: ρ) Q Er = Wp (evE X e) (p :: ρ) (fun x ρ1 => ∃ i, x = .int i ∧ Q (some i) ρ1) Er := wp_so
theorem q_no {Q : Option Int → Rho → Prop} {Er : Exn → Rho → Prop} : Wp (evO X none) (p :: ρ) Q Er = Q none (p :: ρ) := Eq.trans rfl rfl
theorem q_mu {m : Mm} {i : Nat} {es : List E} {Q : D → Rho → Prop} {Er : Exn → Rho → Prop} : Wp (evE X (.mu m i es)) (p :: ρ) Q Er = ((∃ l, (p :: ρ)[i]? = some (some (.list l))) ∧ Wp (evEs X es) (p :: ρ) (fun ds ρ1 => ∃ xs, ρ1[i]? = some (some (.list xs)) ∧ ∃ r, mmD m xs ds = some r ∧ Q r.1 (ρ1.set i (some (.list r.2)))) Er) := wp_mu
theorem q_cons {s : S} {ss : List S} : Rn X (s :: ss) (p :: ρ) K = ({ K with N := fun ρ1 => Rn X ss ρ1 K } : Kn).on (exS X s (p :: ρ)) := rn_cons
theorem q_nil : Rn X [] (p :: ρ) K = K.N (p :: ρ) := rn_nil
theorem t_asg {tg : Tg} {e : E} : K.on (exS X (.asg tg e) (p :: ρ)) = Wp (evE X e) (p :: ρ) (fun d ρ1 => ∃ ρ2, bindT tg d ρ1 = some ρ2 ∧ K.N ρ2) K.E := s_asg
theorem t_ex {e : E} : K.on (exS X (.ex e) (p :: ρ)) = Wp (evE X e) (p :: ρ) (fun _ ρ1 => K.N ρ1) K.E := s_ex
theorem t_ret {e : E} : K.on (exS X (.ret e) (p :: ρ)) = Wp (evE X e) (p :: ρ) (fun d ρ1 => K.R d ρ1) K.E := s_ret
theorem t_ife {c : E} {a b : List S} : K.on (exS X (.ife c a b) (p :: ρ)) = Wp (M.bnd (evE X c) asB) (p :: ρ) (fun t ρ1 => if t then Rn X a ρ1 K else Rn X b ρ1 K) K.E := s_ife
theorem t_set {i : Nat} {ix e : E} : K.on (exS X (.set i ix e) (p :: ρ)) = Wp (evE X e) (p :: ρ) (fun d ρ1 => (∃ d0, ρ1[i]? = some (some d0)) ∧ Wp (evE X ix) ρ1 (fun k ρ2 => ∃ xs n j, ρ2[i]? = some (some (.list xs)) ∧ k = .int n ∧ ixN xs.length n = some j ∧ K.N (ρ2.set i (some (.list (xs.set j d))))) K.E) K.E := s_set
theorem t_fr {tg : Tg} {it : I} {b : List S} {lq : List Bool} : K.on (exS X (.fr tg it b lq) (p :: ρ)) = Wp (evI X it) (p :: ρ) (fun ds ρ1 => K.on (forL (bindT tg) (exSs X b) ds ρ1)) K.E := s_fr

theorem qo_con (x : M D) (d : D) {Q : Pd → Rho → Prop} : Wp (opnd (.con d) x) (p :: ρ) Q Er = Wp x (p :: ρ) (fun d ρ1 => Q (.d d) ρ1) Er := by
  rw [on_con, wp_bnd]; rfl
theorem qo_glo (x : M D) (y : Str) (d : D) {Q : Pd → Rho → Prop} : Wp (opnd (.glo y d) x) (p :: ρ) Q Er = Wp x (p :: ρ) (fun d ρ1 => Q (.d d) ρ1) Er := by
  rw [on_glo, wp_bnd]; rfl
theorem qo_tup (x : M D) (es : List E) {Q : Pd → Rho → Prop} : Wp (opnd (.tup es) x) (p :: ρ) Q Er = Wp x (p :: ρ) (fun d ρ1 => Q (.d d) ρ1) Er := by
  rw [on_tup, wp_bnd]; rfl
theorem qo_lst (x : M D) (es : List E) {Q : Pd → Rho → Prop} : Wp (opnd (.lst es) x) (p :: ρ) Q Er = Wp x (p :: ρ) (fun d ρ1 => Q (.d d) ρ1) Er := by
  rw [on_lst, wp_bnd]; rfl
theorem qo_op (x : M D) (o : Op2) (a b : E) {Q : Pd → Rho → Prop} : Wp (opnd (.op o a b) x) (p :: ρ) Q Er = Wp x (p :: ρ) (fun d ρ1 => Q (.d d) ρ1) Er := by
  rw [on_op, wp_bnd]; rfl
theorem qo_neg (x : M D) (a : E) {Q : Pd → Rho → Prop} : Wp (opnd (.neg a) x) (p :: ρ) Q Er = Wp x (p :: ρ) (fun d ρ1 => Q (.d d) ρ1) Er := by
  rw [on_neg, wp_bnd]; rfl
theorem qo_cmp (x : M D) (o : Cm) (a b : E) {Q : Pd → Rho → Prop} : Wp (opnd (.cmp o a b) x) (p :: ρ) Q Er = Wp x (p :: ρ) (fun d ρ1 => Q (.d d) ρ1) Er := by
  rw [on_cmp, wp_bnd]; rfl
theorem qo_isN (x : M D) (g : Bool) (a : E) {Q : Pd → Rho → Prop} : Wp (opnd (.isN g a) x) (p :: ρ) Q Er = Wp x (p :: ρ) (fun d ρ1 => Q (.d d) ρ1) Er := by
  rw [on_isN, wp_bnd]; rfl
theorem qo_and (x : M D) (a b : E) {Q : Pd → Rho → Prop} : Wp (opnd (.and a b) x) (p :: ρ) Q Er = Wp x (p :: ρ) (fun d ρ1 => Q (.d d) ρ1) Er := by
  rw [on_and, wp_bnd]; rfl
theorem qo_or (x : M D) (a b : E) {Q : Pd → Rho → Prop} : Wp (opnd (.or a b) x) (p :: ρ) Q Er = Wp x (p :: ρ) (fun d ρ1 => Q (.d d) ρ1) Er := by
  rw [on_or, wp_bnd]; rfl
theorem qo_not (x : M D) (a : E) {Q : Pd → Rho → Prop} : Wp (opnd (.not a) x) (p :: ρ) Q Er = Wp x (p :: ρ) (fun d ρ1 => Q (.d d) ρ1) Er := by
  rw [on_not, wp_bnd]; rfl
theorem qo_ite (x : M D) (c a b : E) {Q : Pd → Rho → Prop} : Wp (opnd (.ite c a b) x) (p :: ρ) Q Er = Wp x (p :: ρ) (fun d ρ1 => Q (.d d) ρ1) Er := by
  rw [on_ite, wp_bnd]; rfl
theorem qo_fn (x : M D) (f : Nat) (es : List E) {Q : Pd → Rho → Prop} : Wp (opnd (.fn f es) x) (p :: ρ) Q Er = Wp x (p :: ρ) (fun d ρ1 => Q (.d d) ρ1) Er := by
  rw [on_fn, wp_bnd]; rfl
theorem qo_bi (x : M D) (b : Bt) (es : List E) {Q : Pd → Rho → Prop} : Wp (opnd (.bi b es) x) (p :: ρ) Q Er = Wp x (p :: ρ) (fun d ρ1 => Q (.d d) ρ1) Er := by
  rw [on_bi, wp_bnd]; rfl
theorem qo_me (x : M D) (m : Mt) (o : E) (es : List E) {Q : Pd → Rho → Prop} : Wp (opnd (.me m o es) x) (p :: ρ) Q Er = Wp x (p :: ρ) (fun d ρ1 => Q (.d d) ρ1) Er := by
  rw [on_me, wp_bnd]; rfl
theorem qo_mu (x : M D) (m : Mm) (i : Nat) (es : List E) {Q : Pd → Rho → Prop} : Wp (opnd (.mu m i es) x) (p :: ρ) Q Er = Wp x (p :: ρ) (fun d ρ1 => Q (.d d) ρ1) Er := by
  rw [on_mu, wp_bnd]; rfl
theorem qo_ix (x : M D) (a b : E) {Q : Pd → Rho → Prop} : Wp (opnd (.ix a b) x) (p :: ρ) Q Er = Wp x (p :: ρ) (fun d ρ1 => Q (.d d) ρ1) Er := by
  rw [on_ix, wp_bnd]; rfl
theorem qo_sl (x : M D) (a : E) (lo hi : Option E) {Q : Pd → Rho → Prop} : Wp (opnd (.sl a lo hi) x) (p :: ρ) Q Er = Wp x (p :: ρ) (fun d ρ1 => Q (.d d) ρ1) Er := by
  rw [on_sl, wp_bnd]; rfl
theorem qo_comp (x : M D) (el : E) (tg : Tg) (it : I) (c : Option E) (vs : List Nat) {Q : Pd → Rho → Prop} : Wp (opnd (.comp el tg it c vs) x) (p :: ρ) Q Er = Wp x (p :: ρ) (fun d ρ1 => Q (.d d) ρ1) Er := by
  rw [on_comp, wp_bnd]; rfl
theorem qo_eqR (x : M D) (a b : E) {Q : Pd → Rho → Prop} : Wp (opnd (.eqR a b) x) (p :: ρ) Q Er = Wp x (p :: ρ) (fun d ρ1 => Q (.d d) ρ1) Er := by
  rw [on_eqR, wp_bnd]; rfl
theorem qe_var (i : Nat) {Q : D → Rho → Prop} {Er : Exn → Rho → Prop} : Wp (evE X (.var i)) (p :: ρ) Q Er = Wp (rdP (.s i)) (p :: ρ) Q Er := by rw [ev_var]
theorem qe_con (d : D) {Q : D → Rho → Prop} {Er : Exn → Rho → Prop} : Wp (evE X (.con d)) (p :: ρ) Q Er = Wp (M.ret d : M D) (p :: ρ) Q Er := by rw [ev_con]
theorem qe_glo (y : Str) (d : D) {Q : D → Rho → Prop} {Er : Exn → Rho → Prop} : Wp (evE X (.glo y d)) (p :: ρ) Q Er = Wp (M.ret d : M D) (p :: ρ) Q Er := by rw [ev_glo]
theorem qe_tup (es : List E) {Q : D → Rho → Prop} {Er : Exn → Rho → Prop} : Wp (evE X (.tup es)) (p :: ρ) Q Er = Wp (M.bnd (evEs X es) fun ds => if okLen ds.length then M.ret (.tuple ds) else fun _ => none) (p :: ρ) Q Er := by rw [ev_tup]
theorem qe_lst (es : List E) {Q : D → Rho → Prop} {Er : Exn → Rho → Prop} : Wp (evE X (.lst es)) (p :: ρ) Q Er = Wp (M.bnd (evEs X es) fun ds => if okLen ds.length then M.ret (.list ds) else fun _ => none) (p :: ρ) Q Er := by rw [ev_lst]
theorem qe_op (o : Op2) (a b : E) {Q : D → Rho → Prop} {Er : Exn → Rho → Prop} : Wp (evE X (.op o a b)) (p :: ρ) Q Er = Wp (M.bnd (opnd a (evE X a)) fun p => M.bnd (opnd b (evE X b)) fun q => M.bnd (rdP p) fun x => M.bnd (rdP q) fun y => M.lift (opD o x y)) (p :: ρ) Q Er := by rw [ev_op]
theorem qe_cmp (o : Cm) (a b : E) {Q : D → Rho → Prop} {Er : Exn → Rho → Prop} : Wp (evE X (.cmp o a b)) (p :: ρ) Q Er = Wp (M.bnd (opnd a (evE X a)) fun p => M.bnd (opnd b (evE X b)) fun q => M.bnd (rdP p) fun x => M.bnd (rdP q) fun y => M.lift ((cmD o x y).map .bool)) (p :: ρ) Q Er := by rw [ev_cmp]
theorem qe_isN (g : Bool) (a : E) {Q : D → Rho → Prop} {Er : Exn → Rho → Prop} : Wp (evE X (.isN g a)) (p :: ρ) Q Er = Wp (M.bnd (evE X a) fun x => M.ret (.bool (if g then !isNon x else isNon x))) (p :: ρ) Q Er := by rw [ev_isN]
theorem qe_and (a b : E) {Q : D → Rho → Prop} {Er : Exn → Rho → Prop} : Wp (evE X (.and a b)) (p :: ρ) Q Er = Wp (M.bnd (M.bnd (evE X a) asB) fun c => if c then M.bnd (M.bnd (evE X b) asB) fun c => M.ret (.bool c) else M.ret (.bool false)) (p :: ρ) Q Er := by rw [ev_and]
theorem qe_or (a b : E) {Q : D → Rho → Prop} {Er : Exn → Rho → Prop} : Wp (evE X (.or a b)) (p :: ρ) Q Er = Wp (M.bnd (M.bnd (evE X a) asB) fun c => if c then M.ret (.bool true) else M.bnd (M.bnd (evE X b) asB) fun c => M.ret (.bool c)) (p :: ρ) Q Er := by rw [ev_or]
theorem qe_not (a : E) {Q : D → Rho → Prop} {Er : Exn → Rho → Prop} : Wp (evE X (.not a)) (p :: ρ) Q Er = Wp (M.bnd (M.bnd (evE X a) asB) fun c => M.ret (.bool (!c))) (p :: ρ) Q Er := by rw [ev_not]
theorem qe_ite (c a b : E) {Q : D → Rho → Prop} {Er : Exn → Rho → Prop} : Wp (evE X (.ite c a b)) (p :: ρ) Q Er = Wp (M.bnd (M.bnd (evE X c) asB) fun c => if c then evE X a else evE X b) (p :: ρ) Q Er := by rw [ev_ite]
theorem qe_fn (f : Nat) (es : List E) {Q : D → Rho → Prop} {Er : Exn → Rho → Prop} : Wp (evE X (.fn f es)) (p :: ρ) Q Er = Wp (M.bnd (evAs X (X.sg f) es) fun ps => callM X f ps) (p :: ρ) Q Er := by rw [ev_fn]
theorem qe_bi (b : Bt) (es : List E) {Q : D → Rho → Prop} {Er : Exn → Rho → Prop} : Wp (evE X (.bi b es)) (p :: ρ) Q Er = Wp (M.bnd (evPs X es) fun ps => M.bnd (rdPs ps) fun ds => M.lift (btD b ds)) (p :: ρ) Q Er := by rw [ev_bi]
theorem qe_me (m : Mt) (o : E) (es : List E) {Q : D → Rho → Prop} {Er : Exn → Rho → Prop} : Wp (evE X (.me m o es)) (p :: ρ) Q Er = Wp (M.bnd (evE X o) fun x => if mtOk m x then M.bnd (evPs X es) fun ps => M.bnd (rdPs ps) fun ds => M.lift (mtD m x ds) else fun _ => none) (p :: ρ) Q Er := by rw [ev_me]
theorem qe_ix (a b : E) {Q : D → Rho → Prop} {Er : Exn → Rho → Prop} : Wp (evE X (.ix a b)) (p :: ρ) Q Er = Wp (M.bnd (opnd a (evE X a)) fun p => M.bnd (evE X b) fun y => M.bnd (rdP p) fun x => M.lift (ixD x y)) (p :: ρ) Q Er := by rw [ev_ix]
theorem qe_sl (a : E) (lo hi : Option E) {Q : D → Rho → Prop} {Er : Exn → Rho → Prop} : Wp (evE X (.sl a lo hi)) (p :: ρ) Q Er = Wp (M.bnd (opnd a (evE X a)) fun p => M.bnd (evO X lo) fun l => M.bnd (evO X hi) fun h => M.bnd (rdP p) fun x => M.lift (slD x l h)) (p :: ρ) Q Er := by rw [ev_sl]
theorem qe_eqR (a b : E) {Q : D → Rho → Prop} {Er : Exn → Rho → Prop} : Wp (evE X (.eqR a b)) (p :: ρ) Q Er = Wp (M.bnd (evE X a) fun x => if shwOk x then M.bnd (evE X b) fun y => if shwOk y then M.ret (.bool (decide (PyData.shown x = PyData.shown y))) else fun _ => none else fun _ => none) (p :: ρ) Q Er := by rw [ev_eqR]
theorem qm_es_n  {Q : List D → Rho → Prop} {Er : Exn → Rho → Prop} : Wp (evEs X []) (p :: ρ) Q Er = Wp (M.ret []) (p :: ρ) Q Er := by first | exact Eq.trans rfl rfl | rw [evAs] | simp only [evEs, evPs, evAs, evI] | (rw [evAs]; rfl)
theorem qm_es_c (e : E) (es : List E) {Q : List D → Rho → Prop} {Er : Exn → Rho → Prop} : Wp (evEs X (e :: es)) (p :: ρ) Q Er = Wp (M.bnd (evE X e) fun d => M.bnd (evEs X es) fun ds => M.ret (d :: ds)) (p :: ρ) Q Er := by first | exact Eq.trans rfl rfl | rw [evAs] | simp only [evEs, evPs, evAs, evI] | (rw [evAs]; rfl)
theorem qm_ps_n  {Q : List Pd → Rho → Prop} {Er : Exn → Rho → Prop} : Wp (evPs X []) (p :: ρ) Q Er = Wp (M.ret []) (p :: ρ) Q Er := by first | exact Eq.trans rfl rfl | rw [evAs] | simp only [evEs, evPs, evAs, evI] | (rw [evAs]; rfl)
theorem qm_ps_c (e : E) (es : List E) {Q : List Pd → Rho → Prop} {Er : Exn → Rho → Prop} : Wp (evPs X (e :: es)) (p :: ρ) Q Er = Wp (M.bnd (opnd e (evE X e)) fun d => M.bnd (evPs X es) fun ds => M.ret (d :: ds)) (p :: ρ) Q Er := by first | exact Eq.trans rfl rfl | rw [evAs] | simp only [evEs, evPs, evAs, evI] | (rw [evAs]; rfl)
theorem qm_as_n (ms : List Bool) {Q : List Pd → Rho → Prop} {Er : Exn → Rho → Prop} : Wp (evAs X ms []) (p :: ρ) Q Er = Wp (M.ret []) (p :: ρ) Q Er := by first | exact Eq.trans rfl rfl | rw [evAs] | simp only [evEs, evPs, evAs, evI] | (rw [evAs]; rfl)
theorem qm_as_t (ms : List Bool) (e : E) (es : List E) {Q : List Pd → Rho → Prop} {Er : Exn → Rho → Prop} : Wp (evAs X (true :: ms) (e :: es)) (p :: ρ) Q Er = Wp (M.bnd (opnd e (evE X e)) fun d => M.bnd (evAs X ms es) fun ds => M.ret (d :: ds)) (p :: ρ) Q Er := by first | exact Eq.trans rfl rfl | rw [evAs] | simp only [evEs, evPs, evAs, evI] | (rw [evAs]; rfl)
theorem qm_as_f (ms : List Bool) (e : E) (es : List E) {Q : List Pd → Rho → Prop} {Er : Exn → Rho → Prop} : Wp (evAs X (false :: ms) (e :: es)) (p :: ρ) Q Er = Wp (M.bnd (evE X e) fun d => M.bnd (evAs X ms es) fun ds => M.ret (.d d :: ds)) (p :: ρ) Q Er := by first | exact Eq.trans rfl rfl | rw [evAs] | simp only [evEs, evPs, evAs, evI] | (rw [evAs]; rfl)
theorem qm_as_e (e : E) (es : List E) {Q : List Pd → Rho → Prop} {Er : Exn → Rho → Prop} : Wp (evAs X [] (e :: es)) (p :: ρ) Q Er = Wp (M.bnd (evE X e) fun d => M.bnd (evAs X [] es) fun ds => M.ret (.d d :: ds)) (p :: ρ) Q Er := by first | exact Eq.trans rfl rfl | rw [evAs] | simp only [evEs, evPs, evAs, evI] | (rw [evAs]; rfl)
theorem qm_i_seq (e : E) {Q : List D → Rho → Prop} {Er : Exn → Rho → Prop} : Wp (evI X (.seq e)) (p :: ρ) Q Er = Wp (M.bnd (evE X e) fun d => M.lift (itemsD d)) (p :: ρ) Q Er := by first | exact Eq.trans rfl rfl | rw [evAs] | simp only [evEs, evPs, evAs, evI] | (rw [evAs]; rfl)
theorem qm_i_rng1 (b : E) {Q : List D → Rho → Prop} {Er : Exn → Rho → Prop} : Wp (evI X (.rng1 b)) (p :: ρ) Q Er = Wp (M.bnd (evE X b) fun y => M.lift (rg1 y)) (p :: ρ) Q Er := by first | exact Eq.trans rfl rfl | rw [evAs] | simp only [evEs, evPs, evAs, evI] | (rw [evAs]; rfl)
theorem qm_i_rng2 (a b : E) {Q : List D → Rho → Prop} {Er : Exn → Rho → Prop} : Wp (evI X (.rng2 a b)) (p :: ρ) Q Er = Wp (M.bnd (evE X a) fun x => M.bnd (evE X b) fun y => M.lift (rg2 x y)) (p :: ρ) Q Er := by first | exact Eq.trans rfl rfl | rw [evAs] | simp only [evEs, evPs, evAs, evI] | (rw [evAs]; rfl)
theorem qm_i_enum (e : E) {Q : List D → Rho → Prop} {Er : Exn → Rho → Prop} : Wp (evI X (.enum e)) (p :: ρ) Q Er = Wp (M.bnd (evE X e) fun d => M.lift ((itemsD d).map (enumD 0))) (p :: ρ) Q Er := by first | exact Eq.trans rfl rfl | rw [evAs] | simp only [evEs, evPs, evAs, evI] | (rw [evAs]; rfl)
theorem qm_i_zip2 (a b : E) {Q : List D → Rho → Prop} {Er : Exn → Rho → Prop} : Wp (evI X (.zip2 a b)) (p :: ρ) Q Er = Wp (M.bnd (evE X a) fun x => M.bnd (evE X b) fun y => M.lift ((itemsD x).bind fun u => (itemsD y).map fun v => zipD u v)) (p :: ρ) Q Er := by first | exact Eq.trans rfl rfl | rw [evAs] | simp only [evEs, evPs, evAs, evI] | (rw [evAs]; rfl)
theorem qm_i_zip3 (a b c : E) {Q : List D → Rho → Prop} {Er : Exn → Rho → Prop} : Wp (evI X (.zip3 a b c)) (p :: ρ) Q Er = Wp (M.bnd (evE X a) fun x => M.bnd (evE X b) fun y => M.bnd (evE X c) fun z => M.lift ((itemsD x).bind fun u => (itemsD y).bind fun v => (itemsD z).map fun t => zip3D u v t)) (p :: ρ) Q Er := by first | rfl | simp only [evI]
theorem qm_i_rev1 (b : E) {Q : List D → Rho → Prop} {Er : Exn → Rho → Prop} : Wp (evI X (.rev1 b)) (p :: ρ) Q Er = Wp (M.bnd (evE X b) fun y => M.lift ((rg1 y).map List.reverse)) (p :: ρ) Q Er := by first | exact Eq.trans rfl rfl | rw [evAs] | simp only [evEs, evPs, evAs, evI] | (rw [evAs]; rfl)
theorem qm_i_rev2 (a b : E) {Q : List D → Rho → Prop} {Er : Exn → Rho → Prop} : Wp (evI X (.rev2 a b)) (p :: ρ) Q Er = Wp (M.bnd (evE X a) fun x => M.bnd (evE X b) fun y => M.lift ((rg2 x y).map List.reverse)) (p :: ρ) Q Er := by first | exact Eq.trans rfl rfl | rw [evAs] | simp only [evEs, evPs, evAs, evI] | (rw [evAs]; rfl)
theorem qo_isi (x : M D) (k : Kd) (a : E) {Q : Pd → Rho → Prop} : Wp (opnd (.isi k a) x) (p :: ρ) Q Er = Wp x (p :: ρ) (fun d ρ1 => Q (.d d) ρ1) Er := by
  rw [on_isi, wp_bnd]; rfl
theorem qo_chn (x : M D) (o o' : Cm) (a b c : E) {Q : Pd → Rho → Prop} : Wp (opnd (.chn o o' a b c) x) (p :: ρ) Q Er = Wp x (p :: ρ) (fun d ρ1 => Q (.d d) ρ1) Er := by
  rw [on_chn, wp_bnd]; rfl
theorem qo_rev (x : M D) (a : E) {Q : Pd → Rho → Prop} : Wp (opnd (.rev a) x) (p :: ρ) Q Er = Wp x (p :: ρ) (fun d ρ1 => Q (.d d) ρ1) Er := by
  rw [on_rev, wp_bnd]; rfl
theorem qe_isi (k : Kd) (a : E) {Q : D → Rho → Prop} {Er : Exn → Rho → Prop} : Wp (evE X (.isi k a)) (p :: ρ) Q Er = Wp (M.bnd (evE X a) fun x => M.lift ((isKd k x).map .bool)) (p :: ρ) Q Er := by rw [ev_isi]
theorem qe_chn (o o' : Cm) (a b c : E) {Q : D → Rho → Prop} {Er : Exn → Rho → Prop} : Wp (evE X (.chn o o' a b c)) (p :: ρ) Q Er = Wp (M.bnd (evE X a) fun x => M.bnd (evE X b) fun y => M.bnd (M.lift (cmD o x y)) fun t => if t then M.bnd (evE X c) fun z => M.lift ((cmD o' y z).map .bool) else M.ret (.bool false)) (p :: ρ) Q Er := by rw [ev_chn]
theorem qe_rev (a : E) {Q : D → Rho → Prop} {Er : Exn → Rho → Prop} : Wp (evE X (.rev a)) (p :: ρ) Q Er = Wp (M.bnd (evE X a) fun x => M.lift (revD x)) (p :: ρ) Q Er := by rw [ev_rev]
theorem qr_n {Q : List D → Rho → Prop} : Wp (rdPs []) (p :: ρ) Q Er = Q [] (p :: ρ) := Eq.trans rfl rfl
theorem qr_c (a : Pd) (l : List Pd) {Q : List D → Rho → Prop} : Wp (rdPs (a :: l)) (p :: ρ) Q Er = Wp (M.bnd (rdP a) fun d => M.bnd (rdPs l) fun ds => M.ret (d :: ds)) (p :: ρ) Q Er := Eq.trans rfl rfl
end
/-! what follows stays closed: Q stands for it -/
section
variable {X : Ctx} {ρ : Rho} {K : Kn}
theorem sq {s : S} {ss : List S} (P : Rho → Prop) (h1 : ∀ Q : Rho → Prop, (∀ ρ, P ρ → Q ρ) → Rn X [s] ρ { K with N := Q }) (h2 : ∀ ρ, P ρ → Rn X ss ρ K) : Rn X (s :: ss) ρ K := rn_seq P (h1 P fun _ h => h) h2
theorem if_var {i : Nat} {a b : List S} {t : Bool} (h : ρ[i]? = some (some (.bool t))) (h2 : if t then Rn X a ρ K else Rn X b ρ K) : Rn X [.ife (.var i) a b] ρ K := by
  rw [rn_cons, s_ife, wp_bnd, ev_var, wp_s]
  refine ⟨_, h, ?_⟩
  rw [wp_asB]
  refine ⟨t, rfl, ?_⟩
  have : ∀ l, Rn X l ρ { K with N := fun ρ1 => Rn X [] ρ1 K } = Rn X l ρ K := fun l => by simp only [rn_nil]
  rw [this, this]
  exact h2
/-- a for over range(lo, hi), what follows closed -/
theorem rng_i {bnd : D → Rho → Option Rho} {b : Rho → Option Out} (P : Nat → Rho → Prop) (lo hi : Nat) (lo' : Int) (hlo : lo' = lo) (hle : lo ≤ hi) (h0 : ∀ ρ, P hi ρ → K.N ρ)
    (hs : ∀ i ρ, lo ≤ i → i < hi → P i ρ → ∀ Q : Rho → Prop, (∀ ρ, P (i + 1) ρ → Q ρ) → ∃ ρ1, bnd (.int (i : Nat)) ρ = some ρ1 ∧ ({ K with N := Q, C := Q, B := K.N } : Kn).on (b ρ1)) (h : P lo ρ) : K.on (forL bnd b (rngD lo' (hi : Int)) ρ) :=
  rng_inv P lo hi lo' hlo hle h0 (fun i ρ a b c => hs i ρ a b c (P (i + 1)) fun _ h => h) ρ h
theorem lst_i {bnd : D → Rho → Option Rho} {b : Rho → Option Out} {α : Type} (enc : α → D) (P : List α → Rho → Prop) (xs : List α) (h0 : ∀ ρ, P [] ρ → K.N ρ)
    (hs : ∀ x xs ρ, P (x :: xs) ρ → ∀ Q : Rho → Prop, (∀ ρ, P xs ρ → Q ρ) → ∃ ρ1, bnd (enc x) ρ = some ρ1 ∧ ({ K with N := Q, C := Q, B := K.N } : Kn).on (b ρ1)) (h : P xs ρ) : K.on (forL bnd b (xs.map enc) ρ) :=
  lst_inv enc P h0 (fun x xs ρ a => hs x xs ρ a (P xs) fun _ h => h) xs ρ h
end
theorem bnd_nat {n : Nat} (h : n ≤ 1000000) : bnd62 (n : Int) = true := by simp [bnd62]; omega
theorem getD_mem {α : Type} {l : List α} {i : Nat} (h : i < l.length) (d : α) : l.getD i d ∈ l := by
  have : l.getD i d = l[i] := by simp [List.getD, h]
  rw [this]
  exact List.getElem_mem _
theorem ixN_nat {n i : Nat} (h : i < n) : ixN n (i : Int) = some i := by
  unfold ixN
  simp [h]
theorem drop_getD {α : Type} {l : List α} {i : Nat} (h : i < l.length) (d : α) : l.drop i = l.getD i d :: l.drop (i + 1) := by
  rw [List.drop_eq_getElem_cons h]
  simp [List.getD, h]
theorem sl_t (a : List D) (lo hi : Option Int) : slD (.tuple a) lo hi = some (.tuple (cutD a lo hi)) := Eq.trans rfl rfl
theorem cut_to {α : Type} (xs : List α) (k : Nat) : cutD xs none (some (k : Int)) = xs.take k := by
  unfold cutD
  rw [HT.sIx_none, HT.sIx_nat, List.drop_zero, Nat.sub_zero]
  by_cases h : k ≤ xs.length
  · rw [Nat.min_eq_left h]
  · rw [Nat.min_eq_right (by omega), List.take_length, List.take_of_length_le (by omega)]
theorem occ1 (cs : List Nat) (c : Nat) : (!(Builtin.Str.occurrences (Tx cs) (Tx [c]) 0 (Tx cs).length 1).isEmpty) = decide (c ∈ cs) := by
  have := StrLaws.found_one (Tx cs) c
  rw [Tx_list] at this
  exact this
theorem shp_lints (l : List Nat) (h : ∀ i ∈ l, i < 100000) : SeqAt.shaped (.list (l.map fun i => .int (i : Nat))) = true := by
  obtain ⟨a, b, _⟩ := shw_ints l h
  exact shaped_of (by simp only [shw]; exact a) (by simp only [PyData.depth, b]; omega)
theorem wp_gen {X : Ctx} {el : E} {tg : Tg} {it : I} {vs : List Nat} {Q : D → Rho → Prop} {E : Exn → Rho → Prop} {α β σ : Type} (f : σ → Rho) (Iv : σ → Prop) (Gd : β → Prop) (xs : List α) (enc : α → D) (g : β → D) (s0 : σ) (hs0 : Iv s0) (hl : xs.length ≤ 16777216)
    (hi : Wp (evI X it) (f s0) (fun ds ρ1 => ds = xs.map enc ∧ ρ1 = f s0) E)
    (hs : ∀ x ∈ xs, ∀ s, Iv s → ∃ ρ1, bindT tg (enc x) (wipeR (f s) vs) = some ρ1 ∧ Wp (evE X el) ρ1 (fun y ρ3 => ∃ b s', Gd b ∧ Iv s' ∧ y = g b ∧ wipeR ρ3 vs = wipeR (f s') vs) fun _ _ => False)
    (hQ : ∀ bs : List β, ∀ s' : σ, (∀ b, b ∈ bs → Gd b) → bs.length = xs.length → Iv s' → Q (.list (bs.map g)) (backR (f s0) vs (wipeR (f s') vs))) : Wp (evE X (.comp el tg it none vs)) (f s0) Q E := by
  refine wp_comp (fun ds ys ρ' => ∃ s, Iv s ∧ ρ' = wipeR (f s) vs ∧ ∃ (a b : List α) (bs : List β), xs = a ++ b ∧ ds = b.map enc ∧ ys = bs.map g ∧ (∀ b ∈ bs, Gd b) ∧ bs.length = a.length) ?_ (wp_mono hi (fun ds ρ1 ⟨h1, h2⟩ => ?_) fun _ _ h => h)
  · rintro x ds ys ρ' ⟨s, hI, rfl, a, b, bs, e1, e2, rfl, hG, hL⟩
    cases b with
    | nil => simp at e2
    | cons z b =>
      simp only [List.map_cons, List.cons.injEq] at e2
      obtain ⟨rfl, rfl⟩ := e2
      obtain ⟨ρ1, e3, q⟩ := hs z (by rw [e1]; simp) s hI
      refine ⟨ρ1, e3, ?_⟩
      show Wp (M.ret true) ρ1 _ _
      rw [wp_ret, if_pos rfl]
      refine wp_mono q (fun y ρ3 ⟨w, s', h1, h2, h3, h4⟩ => ⟨s', h2, h4, a ++ [z], b, bs ++ [w], by rw [e1]; simp, rfl, by rw [h3]; simp, fun v hv => ?_, by simp [hL]⟩) fun _ _ h => h
      rcases List.mem_append.mp hv with hv | hv
      · exact hG v hv
      · have : v = w := by simpa using hv
        rw [this]; exact h1
  · subst h1 h2
    refine ⟨by simp [okLen, hl], ⟨s0, hs0, rfl, [], xs, [], rfl, rfl, rfl, by simp, rfl⟩, ?_⟩
    rintro zs ρ' ⟨s, hI, rfl, a, b, bs, e1, e2, e3, hG, hL⟩
    cases b with
    | cons => simp at e2
    | nil =>
      rw [List.append_nil] at e1
      subst e1
      rw [e3]
      exact hQ bs s hG hL hI
abbrev gB (c : Nat) : D := .str (Tx [c])
end VF

end
section
set_option Elab.async false
set_option linter.all false
set_option autoImplicit false
set_option maxRecDepth 100000
set_option maxHeartbeats 1000000
/-! VZb: more data in plain proofs: kinds, signs in a text, slices, parts that are shown. -/
namespace VF
open PySem L2
theorem kd_ii (i : Int) : isKd .int (.int i) = some true := Eq.trans rfl rfl
theorem kd_ib (i : Bool) : isKd .int (.bool i) = some true := Eq.trans rfl rfl
theorem kd_is (i : Str) : isKd .int (.str i) = some false := Eq.trans rfl rfl
theorem kd_in : isKd .int .none = some false := Eq.trans rfl rfl
theorem kd_il (i : List D) : isKd .int (.list i) = some false := Eq.trans rfl rfl
theorem kd_it (i : List D) : isKd .int (.tuple i) = some false := Eq.trans rfl rfl
theorem kd_bi (i : Int) : isKd .bool (.int i) = some false := Eq.trans rfl rfl
theorem kd_bb (i : Bool) : isKd .bool (.bool i) = some true := Eq.trans rfl rfl
theorem kd_bs (i : Str) : isKd .bool (.str i) = some false := Eq.trans rfl rfl
theorem kd_bn : isKd .bool .none = some false := Eq.trans rfl rfl
theorem kd_bl (i : List D) : isKd .bool (.list i) = some false := Eq.trans rfl rfl
theorem kd_bt (i : List D) : isKd .bool (.tuple i) = some false := Eq.trans rfl rfl
theorem kd_si (i : Int) : isKd .str (.int i) = some false := Eq.trans rfl rfl
theorem kd_sb (i : Bool) : isKd .str (.bool i) = some false := Eq.trans rfl rfl
theorem kd_ss (i : Str) : isKd .str (.str i) = some true := Eq.trans rfl rfl
theorem kd_sn : isKd .str .none = some false := Eq.trans rfl rfl
theorem kd_sl (i : List D) : isKd .str (.list i) = some false := Eq.trans rfl rfl
theorem kd_st (i : List D) : isKd .str (.tuple i) = some false := Eq.trans rfl rfl
theorem kd_ti (i : Int) : isKd .tup (.int i) = some false := Eq.trans rfl rfl
theorem kd_tb (i : Bool) : isKd .tup (.bool i) = some false := Eq.trans rfl rfl
theorem kd_ts (i : Str) : isKd .tup (.str i) = some false := Eq.trans rfl rfl
theorem kd_tn : isKd .tup .none = some false := Eq.trans rfl rfl
theorem kd_tl (i : List D) : isKd .tup (.list i) = some false := Eq.trans rfl rfl
theorem kd_tt (i : List D) : isKd .tup (.tuple i) = some true := Eq.trans rfl rfl
theorem rv_t (a : List D) : revD (.tuple a) = some (.tuple a.reverse) := Eq.trans rfl rfl
theorem sl_l (a : List D) (lo hi : Option Int) : slD (.list a) lo hi = some (.list (cutD a lo hi)) := Eq.trans rfl rfl
theorem sl_s (a : Str) (lo hi : Option Int) : slD (.str a) lo hi = some (.str (cutS a lo hi)) := Eq.trans rfl rfl
/-- one sign in a text -/
theorem c_inS1 (c : Nat) (cs : List Nat) : cmD .isin (.str (Tx [c])) (.str (Tx cs)) = some (decide (c ∈ cs)) := by rw [c_inS, occ1]
theorem c_ninS1 (c : Nat) (cs : List Nat) : cmD .nin (.str (Tx [c])) (.str (Tx cs)) = some (!decide (c ∈ cs)) := by
  have : cmD .nin (.str (Tx [c])) (.str (Tx cs)) = some (!(!(Builtin.Str.occurrences (Tx cs) (Tx [c]) 0 (Tx cs).length 1).isEmpty)) := rfl
  rw [this, occ1]
theorem c_geS (a b : Str) : cmD .ge (.str a) (.str b) = some (!ltS a b) := Eq.trans rfl rfl
theorem cut_from {α : Type} (xs : List α) (k : Nat) (h : k ≤ xs.length) : cutD xs (some (k : Int)) none = xs.drop k := by
  unfold cutD
  rw [HT.sIx_none, HT.sIx_nat, Nat.min_eq_left h, List.take_of_length_le (by simp)]
theorem cut_mid {α : Type} (xs : List α) (i j : Nat) : cutD xs (some (i : Int)) (some (j : Int)) = (xs.drop (min i xs.length)).take (min j xs.length - min i xs.length) := by
  unfold cutD
  rw [HT.sIx_nat, HT.sIx_nat]
/-! shown parts -/
theorem shws_append : ∀ (a b : List D), shws (a ++ b) = (shws a && shws b)
  | [], b => by simp [shws]
  | x :: a, b => by rw [List.cons_append, shws, shws, shws_append a b, Bool.and_assoc]
theorem shws_mem {l : List D} : shws l = true ↔ ∀ x ∈ l, shw x = true := by
  induction l with
  | nil => simp [shws]
  | cons x l ih => simp [shws, ih]
theorem shws_cut {l : List D} (h : shws l = true) (lo hi : Option Int) : shws (cutD l lo hi) = true := by
  unfold cutD
  rw [shws_mem] at h ⊢
  exact fun x hx => h x (List.mem_of_mem_drop (List.mem_of_mem_take hx))
theorem shws_rev {l : List D} (h : shws l = true) : shws l.reverse = true := by
  rw [shws_mem] at h ⊢
  exact fun x hx => h x (List.mem_reverse.mp hx)
theorem shw_str {x : Str} : shw (.str x) = true ↔ ∀ c ∈ x.cps.toList, c < 1114112 := by
  simp only [shw, Array.all_eq_true', decide_eq_true_eq]
  exact ⟨fun h c hc => h c (by simpa using hc), fun h c hc => h c (by simpa using hc)⟩
theorem shw_Tx {cs : List Nat} (h : ∀ c ∈ cs, c < 1114112) : shw (.str (Tx cs)) = true := by
  rw [shw_str, Tx_list]
  exact h
/-- a list or a tuple -/
def sqD (t : Bool) (l : List D) : D := if t then .tuple l else .list l
theorem it_sq (t : Bool) (l : List D) : itemsD (sqD t l) = some l := by cases t <;> rfl
theorem ix_sq (t : Bool) (l : List D) (i : Int) : ixD (sqD t l) (.int i) = atI l i := by cases t <;> rfl
theorem len_sq (t : Bool) (l : List D) : btD .len [sqD t l] = some (.int l.length) := by cases t <;> rfl
theorem lst_sq (t : Bool) (l : List D) : btD .list [sqD t l] = some (.list l) := by cases t <;> rfl
theorem tup_sq (t : Bool) (l : List D) : btD .tuple [sqD t l] = some (.tuple l) := by cases t <;> rfl
theorem shp_sqW (t : Bool) (b : List (List Nat)) (h : ∀ w ∈ b, ∀ c ∈ w, c < 1114112) : SeqAt.shaped (sqD t (b.map eW)) = true := by
  have h1 : shws (b.map eW) = true := shws_mem.mpr fun x hx => by
    obtain ⟨w, hw, rfl⟩ := List.mem_map.mp hx
    exact shw_Tx (h w hw)
  have h2 : ∀ l : List (List Nat), PyData.depthAll (l.map eW) = 0 := fun l => by
    induction l with
    | nil => simp [PyData.depthAll]
    | cons a l ih => simp [PyData.depthAll, ih, eW, PyData.depth]
  cases t
  · exact shaped_of (by rw [sqD]; simp only [Bool.false_eq_true, if_false, shw]; exact h1) (by simp [sqD, PyData.depth, h2])
  · exact shaped_of (by rw [sqD]; simp only [if_true, shw]; exact h1) (by simp [sqD, PyData.depth, h2])
theorem any_eqvW (b : List (List Nat)) (w : List Nat) : ((b.map eW).any fun z => PyData.eqv z (.str (Tx w))) = decide (w ∈ b) := by
  induction b with
  | nil => simp
  | cons a b ih =>
    rw [List.map_cons, List.any_cons, ih]
    unfold eW
    rw [eqv_str]
    by_cases h : a = w
    · subst h; simp
    · have h2 : ¬ w = a := fun z => h z.symm
      simp [h, h2]
theorem c_inW (t : Bool) (w : List Nat) (b : List (List Nat)) (hw : ∀ c ∈ w, c < 1114112) (hb : ∀ w ∈ b, ∀ c ∈ w, c < 1114112) : cmD .isin (.str (Tx w)) (sqD t (b.map eW)) = some (decide (w ∈ b)) := by
  have h1 := shp_sqW t b hb
  have h2 := shp_str hw
  have e : cmD .isin (.str (Tx w)) (sqD t (b.map eW)) = if SeqAt.shaped (.str (Tx w)) && SeqAt.shaped (sqD t (b.map eW)) then some ((b.map eW).any fun z => PyData.eqv z (.str (Tx w))) else none := by cases t <;> rfl
  rw [e, h1, h2, any_eqvW]
  rfl
theorem c_ninW (t : Bool) (w : List Nat) (b : List (List Nat)) (hw : ∀ c ∈ w, c < 1114112) (hb : ∀ w ∈ b, ∀ c ∈ w, c < 1114112) : cmD .nin (.str (Tx w)) (sqD t (b.map eW)) = some (!decide (w ∈ b)) := by
  have h1 := shp_sqW t b hb
  have h2 := shp_str hw
  have e : cmD .nin (.str (Tx w)) (sqD t (b.map eW)) = if SeqAt.shaped (.str (Tx w)) && SeqAt.shaped (sqD t (b.map eW)) then some (!(b.map eW).any fun z => PyData.eqv z (.str (Tx w))) else none := by cases t <;> rfl
  rw [e, h1, h2, any_eqvW]
  rfl
/-! the order of texts -/
theorem ltS_Tx (a b : List Nat) : ltS (Tx a) (Tx b) = decide (a < b) := by unfold ltS; rw [Tx_list, Tx_list]
theorem lt_or (a b : List Nat) (h : ¬ b < a) (hn : a ≠ b) : a < b := by
  have : a ≤ b := h
  rcases List.le_iff_lt_or_eq.mp this with h | h
  · exact h
  · exact absurd h hn
theorem nodup_lt : ∀ (n : Nat) (l : List Nat), l.Nodup → (∀ x ∈ l, x < n) → l.length ≤ n
  | 0, l, _, h => by
    cases l with
    | nil => simp
    | cons a l => have := h a (by simp); omega
  | n + 1, l, hd, h => by
    by_cases hm : n ∈ l
    · have h1 := nodup_lt n (l.erase n) (hd.erase n) fun x hx => by
        have h2 := (hd.mem_erase_iff).mp hx
        have := h x h2.2
        omega
      rw [List.length_erase_of_mem hm] at h1
      omega
    · have := nodup_lt n l hd fun x hx => by
        have := h x hx
        have : x ≠ n := fun z => hm (z ▸ hx)
        omega
      omega
/-- sorted, of texts -/
theorem srt_words (ws : List (List Nat)) (h : ∀ w ∈ ws, ∀ c ∈ w, c < 1114112) : ∃ qs : List (List Nat), btD .sorted [.list (ws.map eW)] = some (.list (qs.map eW)) ∧ qs.Perm ws ∧ qs.Pairwise (fun a b => ¬ b < a) := by
  let dW : D → List Nat := fun d => match d with | .str x => x.cps.toList | _ => []
  have dW_eW : ∀ w, dW (eW w) = w := fun w => Tx_list w
  have hp : (sortD (ws.map eW)).Perm (ws.map eW) := List.mergeSort_perm _ _
  have htl : PySem.W.TotalLe (PySem.W.dataLe false (id : D → D)) := PySem.W.sortLe_total _ false _
  have hpw : (sortD (ws.map eW)).Pairwise (fun a b => PySem.W.dataLe false id a b = true) := PySem.W.sort_pairwise htl (ws.map eW)
  have inv : ∀ x ∈ sortD (ws.map eW), eW (dW x) = x := fun x hx => by
    obtain ⟨w, _, rfl⟩ := List.mem_map.mp (hp.mem_iff.mp hx)
    rw [dW_eW]
  refine ⟨(sortD (ws.map eW)).map dW, ?_, ?_, ?_⟩
  · rw [b_srt, if_pos]
    · congr 2
      rw [List.map_map]
      have : (sortD (ws.map eW)).map (eW ∘ dW) = sortD (ws.map eW) := by
        rw [List.map_congr_left (show ∀ x ∈ sortD (ws.map eW), (eW ∘ dW) x = id x from fun x hx => inv x hx), List.map_id]
      exact this.symm
    · unfold sortOk
      rw [Bool.and_eq_true, Bool.and_eq_true]
      refine ⟨⟨?_, ?_⟩, shp_sqW false ws h⟩
      · simp only [List.all_eq_true, List.mem_map]
        rintro _ ⟨p, hp, rfl⟩ _ ⟨q, hq, rfl⟩
        simp [eW, PySem.W.alike]
      · rw [Bool.or_eq_true]
        right
        simp only [List.all_eq_true, List.mem_map]
        rintro _ ⟨p, hp, rfl⟩
        rfl
  · have := hp.map dW
    rw [List.map_map] at this
    have e : ws.map (dW ∘ eW) = ws := by
      rw [List.map_congr_left (show ∀ x ∈ ws, (dW ∘ eW) x = id x from fun x _ => dW_eW x), List.map_id]
    rwa [e] at this
  · rw [List.pairwise_map]
    refine List.Pairwise.imp_of_mem ?_ hpw
    intro a b ha hb hab
    have ea := inv a ha
    have eb := inv b hb
    rw [← ea, ← eb] at hab
    have e : PySem.W.dataLe false id (eW (dW a)) (eW (dW b)) = !PySem.W.dataLt (eW (dW b)) (eW (dW a)) := rfl
    rw [e] at hab
    unfold eW at hab
    rw [PySem.W.dataLt_str, Tx_list, Tx_list] at hab
    simpa using hab
theorem it_Tx (cs : List Nat) : itemsD (.str (Tx cs)) = some (cs.map fun c => .str (Tx [c])) := by rw [i_s, items_Tx]
theorem zipD_map {α β : Type} (f : α → D) (g : β → D) : ∀ (a : List α) (b : List β), zipD (a.map f) (b.map g) = (a.zip b).map fun p => .tuple [f p.1, g p.2]
  | [], b => by cases b <;> rfl
  | x :: a, [] => rfl
  | x :: a, y :: b => by rw [List.map_cons, List.map_cons, zipD, zipD_map f g a b]; rfl
theorem zip3D_map {α β γ : Type} (f : α → D) (g : β → D) (h : γ → D) : ∀ (a : List α) (b : List β) (c : List γ), zip3D (a.map f) (b.map g) (c.map h) = (a.zip (b.zip c)).map fun p => .tuple [f p.1, g p.2.1, h p.2.2]
  | [], b, c => by cases b <;> cases c <;> rfl
  | x :: a, [], c => by cases c <;> rfl
  | x :: a, y :: b, [] => rfl
  | x :: a, y :: b, z :: c => by rw [List.map_cons, List.map_cons, List.map_cons, zip3D, zip3D_map f g h a b c]; rfl
theorem enumD_map {α : Type} (f : α → D) (d : α) : ∀ (a : List α) (k : Nat), enumD k (a.map f) = (List.range a.length).map fun i => .tuple [.int (k + i : Nat), f (a.getD i d)]
  | [], k => rfl
  | x :: a, k => by
    rw [List.map_cons, enumD, enumD_map f d a (k + 1), List.length_cons, List.range_succ_eq_map, List.map_cons, List.map_map]
    simp only [List.getD_cons_zero, Nat.add_zero, List.cons.injEq, true_and]
    refine List.map_congr_left fun i _ => ?_
    simp only [Function.comp, List.getD_cons_succ]
    congr 3
    omega
section
variable {K : Kn} {ρ : Rho}
/-- a for by an invariant, what follows a turn closed -/
theorem for_i {bnd : D → Rho → Option Rho} {b : Rho → Option Out} {ds : List D} (P : List D → Rho → Prop) (h0 : ∀ ρ, P [] ρ → K.N ρ)
    (hs : ∀ x xs ρ, P (x :: xs) ρ → ∀ Q : Rho → Prop, (∀ ρ, P xs ρ → Q ρ) → ∃ ρ1, bnd x ρ = some ρ1 ∧ ({ K with N := Q, C := Q, B := K.N } : Kn).on (b ρ1)) (h : P ds ρ) : K.on (forL bnd b ds ρ) :=
  for_inv P h0 (fun x xs ρ a => hs x xs ρ a (P xs) fun _ h => h) ds ρ h
end
inductive All2 {α β : Type} (P : α → β → Prop) : List α → List β → Prop
  | nil : All2 P [] []
  | cons {a : α} {b : β} {as : List α} {bs : List β} : P a b → All2 P as bs → All2 P (a :: as) (b :: bs)
theorem All2.length_eq {α β : Type} {P : α → β → Prop} {as : List α} {bs : List β} (h : All2 P as bs) : as.length = bs.length := by
  induction h with
  | nil => rfl
  | cons _ _ ih => simp [ih]
theorem All2.snoc {α β : Type} {P : α → β → Prop} {as : List α} {bs : List β} (h : All2 P as bs) {a : α} {b : β} (hp : P a b) : All2 P (as ++ [a]) (bs ++ [b]) := by
  induction h with
  | nil => exact .cons hp .nil
  | cons x _ ih => exact .cons x ih
/-- a comprehension whose items are drawn, item by item -/
theorem wp_gen2 {X : Ctx} {el : E} {tg : Tg} {it : I} {vs : List Nat} {Q : D → Rho → Prop} {E : Exn → Rho → Prop} {α β σ : Type} (f : σ → Rho) (Iv : σ → Prop) (Gd : α → β → Prop) (xs : List α) (enc : α → D) (g : β → D) (s0 : σ) (hs0 : Iv s0) (hl : xs.length ≤ 16777216)
    (hi : Wp (evI X it) (f s0) (fun ds ρ1 => ds = xs.map enc ∧ ρ1 = f s0) E)
    (hs : ∀ x ∈ xs, ∀ s, Iv s → ∃ ρ1, bindT tg (enc x) (wipeR (f s) vs) = some ρ1 ∧ Wp (evE X el) ρ1 (fun y ρ3 => ∃ b s', Gd x b ∧ Iv s' ∧ y = g b ∧ wipeR ρ3 vs = wipeR (f s') vs) fun _ _ => False)
    (hQ : ∀ bs : List β, ∀ s' : σ, All2 Gd xs bs → Iv s' → Q (.list (bs.map g)) (backR (f s0) vs (wipeR (f s') vs))) : Wp (evE X (.comp el tg it none vs)) (f s0) Q E := by
  refine wp_comp (fun ds ys ρ' => ∃ s, Iv s ∧ ρ' = wipeR (f s) vs ∧ ∃ (a b : List α) (bs : List β), xs = a ++ b ∧ ds = b.map enc ∧ ys = bs.map g ∧ All2 Gd a bs) ?_ (wp_mono hi (fun ds ρ1 ⟨h1, h2⟩ => ?_) fun _ _ h => h)
  · rintro x ds ys ρ' ⟨s, hI, rfl, a, b, bs, e1, e2, rfl, hG⟩
    cases b with
    | nil => simp at e2
    | cons z b =>
      simp only [List.map_cons, List.cons.injEq] at e2
      obtain ⟨rfl, rfl⟩ := e2
      obtain ⟨ρ1, e3, q⟩ := hs z (by rw [e1]; simp) s hI
      refine ⟨ρ1, e3, ?_⟩
      show Wp (M.ret true) ρ1 _ _
      rw [wp_ret, if_pos rfl]
      exact wp_mono q (fun y ρ3 ⟨w, s', h1, h2, h3, h4⟩ => ⟨s', h2, h4, a ++ [z], b, bs ++ [w], by rw [e1]; simp, rfl, by rw [h3]; simp, hG.snoc h1⟩) fun _ _ h => h
  · subst h1 h2
    refine ⟨by simp [okLen, hl], ⟨s0, hs0, rfl, [], xs, [], rfl, rfl, rfl, .nil⟩, ?_⟩
    rintro zs ρ' ⟨s, hI, rfl, a, b, bs, e1, e2, e3, hG⟩
    cases b with
    | cons => simp at e2
    | nil =>
      rw [List.append_nil] at e1
      subst e1
      rw [e3]
      exact hQ bs s hG hI
end VF

end
section
set_option linter.all false
set_option autoImplicit false
set_option maxRecDepth 100000
set_option maxHeartbeats 4000000
namespace G
open PySem VF
def f_is_number : Fn where
  name := "is_number"
  ps := ["value"]
  N := ["value"]
  mu := []
  own := false
  body := [.ret (.and (.isi .int (.var 0)) (.not (.isi .bool (.var 0))))]
def f_is_word : Fn where
  name := "is_word"
  ps := ["value", "size"]
  N := ["value", "size", "sign"]
  mu := []
  own := false
  body := [.ife (.or (.not (.isi .str (.var 0))) (.cmp .ne (.bi .len [(.var 0)]) (.var 1))) [.ret (.con (.bool false))] [],
    .fr (.nm 2) (.seq (.var 0)) [.ife (.cmp .nin (.var 2) (.con (.str "01"))) [.ret (.con (.bool false))] []] [false, false, false],
    .ret (.con (.bool true))]
def f_opposite : Fn where
  name := "opposite"
  ps := ["word"]
  N := ["word", "sign"]
  mu := []
  own := false
  body := [.ret (.me .join (.con (.str "")) [(.comp (.ix (.con (.str "10")) (.bi .int [(.var 1)])) (.nm 1) (.seq (.var 0)) .none [1])])]
def f_part : Fn where
  name := "part"
  ps := ["word", "wires"]
  N := ["word", "wires", "wire"]
  mu := []
  own := false
  body := [.ret (.me .join (.con (.str "")) [(.comp (.ix (.var 0) (.var 2)) (.nm 2) (.seq (.var 1)) .none [2])])]
def f_are_cuts : Fn where
  name := "are_cuts"
  ps := ["bus", "cuts"]
  N := ["bus", "cuts", "last", "wire"]
  mu := []
  own := false
  body := [.ife (.not (.isi .tup (.var 1))) [.ret (.con (.bool false))] [],
    .asg (.nm 2) (.con (.int 0)),
    .fr (.nm 3) (.seq (.var 1)) [.ife (.or (.not (.fn 0 [(.var 3)])) (.or (.cmp .le (.var 3) (.var 2)) (.cmp .ge (.var 3) (.ix (.var 0) (.con (.int 0)))))) [.ret (.con (.bool false))] [], .asg (.nm 2) (.var 3)] [false, false, false, false],
    .ret (.con (.bool true))]
def f_is_lane_book : Fn where
  name := "is_lane_book"
  ps := ["words", "size"]
  N := ["words", "size", "at", "word"]
  mu := []
  own := false
  body := [.ife (.or (.not (.isi .tup (.var 0))) (.cmp .eq (.bi .len [(.var 0)]) (.con (.int 0)))) [.ret (.con (.bool false))] [],
    .fr (.tp [(.nm 2), (.nm 3)]) (.enum (.var 0)) [.ife (.not (.fn 1 [(.var 3), (.var 1)])) [.ret (.con (.bool false))] [], .ife (.and (.cmp .gt (.var 2) (.con (.int 0))) (.cmp .ge (.ix (.var 0) (.op .sub (.var 2) (.con (.int 1)))) (.var 3))) [.ret (.con (.bool false))] []] [false, false, false, false],
    .ret (.con (.bool true))]
def f_occurs_joined : Fn where
  name := "occurs_joined"
  ps := ["wires", "pattern", "starts", "books"]
  N := ["wires", "pattern", "starts", "books", "start", "book", "end", "inside", "places", "at", "wire", "word"]
  mu := []
  own := false
  body := [.fr (.tp [(.nm 4), (.nm 5)]) (.zip2 (.var 2) (.var 3)) [.asg (.nm 6) (.op .add (.var 4) (.bi .len [(.ix (.var 5) (.con (.int 0)))])), .asg (.nm 7) (.comp (.var 9) (.tp [(.nm 9), (.nm 10)]) (.enum (.var 0)) (.some (.chn .le .lt (.var 4) (.var 10) (.var 6))) [9, 10]), .asg (.nm 8) (.comp (.op .sub (.ix (.var 0) (.var 9)) (.var 4)) (.nm 9) (.seq (.var 7)) .none [9]), .ife (.cmp .nin (.fn 3 [(.var 1), (.var 7)]) (.comp (.fn 3 [(.var 11), (.var 8)]) (.nm 11) (.seq (.var 5)) .none [11])) [.ret (.con (.bool false))] []] [false, false, false, false, false, false, false, false, false, false, false, false],
    .ret (.con (.bool true))]
def f_shows_product : Fn where
  name := "shows_product"
  ps := ["bus", "cuts", "books"]
  N := ["bus", "cuts", "books", "starts", "start", "end", "words", "wires", "pattern"]
  mu := []
  own := false
  body := [.ife (.or (.not (.fn 4 [(.var 0), (.var 1)])) (.or (.not (.isi .tup (.var 2))) (.cmp .ne (.bi .len [(.var 2)]) (.op .add (.bi .len [(.var 1)]) (.con (.int 1)))))) [.ret (.con (.bool false))] [],
    .asg (.nm 3) (.op .add (.tup [(.con (.int 0))]) (.var 1)),
    .fr (.tp [(.nm 4), (.nm 5), (.nm 6)]) (.zip3 (.var 3) (.op .add (.var 1) (.tup [(.ix (.var 0) (.con (.int 0)))])) (.var 2)) [.ife (.not (.fn 5 [(.var 6), (.op .sub (.var 5) (.var 4))])) [.ret (.con (.bool false))] []] [false, false, false, false, false, false, false, false, false],
    .fr (.tp [(.nm 7), (.nm 8)]) (.seq (.ix (.var 0) (.con (.int 1)))) [.ife (.fn 6 [(.var 7), (.var 8), (.var 3), (.var 2)]) [.ife (.fn 6 [(.var 7), (.fn 2 [(.var 8)]), (.var 3), (.var 2)]) [.ret (.con (.bool false))] []] []] [false, false, false, false, false, false, false, false, false],
    .ret (.con (.bool true))]
def f__law_stream : Fn where
  name := "_law_stream"
  ps := ["script"]
  N := ["script", "found", "mixed", "at", "cell", "k", "again"]
  mu := []
  own := true
  body := [.asg (.nm 1) (.lst []),
    .asg (.nm 2) (.con (.int 1234567)),
    .fr (.nm 3) (.rng1 (.bi .min2 [(.bi .len [(.var 0)]), (.con (.int 63))])) [.asg (.nm 4) (.bi .abs [(.bi .int [(.ix (.var 0) (.var 3))])]), .asg (.nm 2) (.op .mod (.bi .int [(.op .add (.op .add (.op .add (.op .mul (.var 2) (.con (.int 48271))) (.op .mul (.var 4) (.con (.int 69621)))) (.var 3)) (.con (.int 1)))]) (.con (.int 2147483647))), .ife (.cmp .ge (.var 4) (.op .pow (.con (.int 10)) (.con (.int 18)))) [.fr (.nm 5) (.rng1 (.con (.int 60))) [.ife (.cmp .gt (.var 4) (.con (.int 0))) [.ex (.mu .append 1 [(.op .mod (.bi .int [(.var 4)]) (.con (.int 1000)))]), .asg (.nm 4) (.op .fdiv (.var 4) (.con (.int 1000)))] []] [false, true, false, false, false, false, false]] [.asg (.nm 6) (.var 2), .fr (.nm 5) (.rng1 (.con (.int 4))) [.asg (.nm 6) (.op .mod (.bi .int [(.op .add (.op .add (.op .mul (.var 6) (.con (.int 16807))) (.var 4)) (.var 5))]) (.con (.int 2147483647))), .ex (.mu .append 1 [(.op .mod (.op .fdiv (.var 6) (.con (.int 1000))) (.con (.int 1000)))])] [false, true, false, false, false, false, false]]] [false, true, false, false, false, false, false],
    .ex (.mu .reverse 1 []),
    .ret (.op .cat (.lst [(.var 2)]) (.var 1))]
def f__law_take : Fn where
  name := "_law_take"
  ps := ["stream", "most"]
  N := ["stream", "most"]
  mu := [true, false]
  own := false
  body := [.ife (.cmp .gt (.bi .len [(.var 0)]) (.con (.int 1))) [.ret (.op .mod (.bi .int [(.mu .pop 0 [])]) (.var 1))] [],
    .set 0 (.con (.int 0)) (.op .mod (.bi .int [(.op .add (.op .mul (.ix (.var 0) (.con (.int 0))) (.con (.int 48271))) (.con (.int 12345)))]) (.con (.int 2147483647))),
    .ret (.op .mod (.op .fdiv (.bi .int [(.ix (.var 0) (.con (.int 0)))]) (.con (.int 1000))) (.var 1))]
def f__law_same : Fn where
  name := "_law_same"
  ps := ["actual", "due"]
  N := ["actual", "due"]
  mu := []
  own := false
  body := [.ret (.and (.eqR (.var 0) (.var 1)) (.cmp .eq (.var 0) (.var 1)))]
def f__law_lot : Fn where
  name := "_law_lot"
  ps := ["stream", "size", "most"]
  N := ["stream", "size", "most", "wires", "k", "pattern", "wire"]
  mu := [true, false, false]
  own := false
  body := [.asg (.nm 3) (.lst []),
    .fr (.nm 4) (.rng1 (.op .add (.con (.int 1)) (.fn 9 [(.var 0), (.var 2)]))) [.asg (.nm 6) (.fn 9 [(.var 0), (.var 1)]), .ife (.cmp .nin (.var 6) (.var 3)) [.ex (.mu .append 3 [(.var 6)])] []] [true, false, false, true, false, false, false],
    .asg (.nm 5) (.me .join (.con (.str "")) [(.comp (.ix (.con (.str "01")) (.fn 9 [(.var 0), (.con (.int 2))])) (.nm 6) (.seq (.var 3)) .none [6])]),
    .ret (.tup [(.bi .tuple [(.var 3)]), (.var 5)])]
def f__law_lots : Fn where
  name := "_law_lots"
  ps := ["stream", "size", "many"]
  N := ["stream", "size", "many", "word", "shape", "lots", "k", "lot", "old", "wire"]
  mu := [true, false, false]
  own := true
  body := [.asg (.nm 3) (.comp (.fn 9 [(.var 0), (.con (.int 2))]) (.nm 6) (.rng1 (.var 1)) .none [6]),
    .asg (.nm 4) (.fn 9 [(.var 0), (.con (.int 5))]),
    .asg (.nm 5) (.lst []),
    .fr (.nm 6) (.rng1 (.fn 9 [(.var 0), (.op .add (.var 2) (.con (.int 1)))])) [.asg (.nm 7) (.fn 11 [(.var 0), (.var 1), (.con (.int 4))]), .ife (.and (.cmp .eq (.var 4) (.con (.int 0))) (.cmp .gt (.var 1) (.con (.int 1)))) [.asg (.nm 7) (.tup [(.tup [(.op .mod (.var 6) (.var 1)), (.op .mod (.op .add (.var 6) (.con (.int 1))) (.var 1))]), (.con (.str "01"))])] [.ife (.cmp .eq (.var 4) (.con (.int 1))) [.asg (.nm 7) (.tup [(.ix (.var 7) (.con (.int 0))), (.me .join (.con (.str "")) [(.comp (.bi .str [(.ix (.var 3) (.var 9))]) (.nm 9) (.seq (.ix (.var 7) (.con (.int 0)))) .none [9])])])] [.ife (.and (.cmp .eq (.var 4) (.con (.int 2))) (.and (.cmp .gt (.bi .len [(.var 5)]) (.con (.int 0))) (.cmp .eq (.fn 9 [(.var 0), (.con (.int 2))]) (.con (.int 0))))) [.asg (.nm 8) (.ix (.ix (.var 5) (.fn 9 [(.var 0), (.bi .len [(.var 5)])])) (.con (.int 0))), .asg (.nm 7) (.tup [(.var 8), (.me .join (.con (.str "")) [(.comp (.ix (.con (.str "01")) (.fn 9 [(.var 0), (.con (.int 2))])) (.nm 9) (.seq (.var 8)) .none [9])])])] []]], .ex (.mu .append 5 [(.var 7)])] [true, false, false, true, false, true, false, false, false, false],
    .ret (.var 5)]
def f__law_opposite : Fn where
  name := "_law_opposite"
  ps := ["word"]
  N := ["word", "sign"]
  mu := []
  own := false
  body := [.ret (.me .join (.con (.str "")) [(.comp (.ix (.con (.str "10")) (.bi .int [(.var 1)])) (.nm 1) (.seq (.var 0)) .none [1])])]
def f__law_standard : Fn where
  name := "_law_standard"
  ps := ["lot"]
  N := ["lot", "pairs", "signs", "k", "pair"]
  mu := []
  own := false
  body := [.asg (.nm 1) (.bi .sorted [(.comp (.tup [(.ix (.ix (.var 0) (.con (.int 0))) (.var 3)), (.ix (.ix (.var 0) (.con (.int 1))) (.var 3))]) (.nm 3) (.rng1 (.bi .len [(.ix (.var 0) (.con (.int 0)))])) .none [3])]),
    .asg (.nm 2) (.me .join (.con (.str "")) [(.comp (.ix (.var 4) (.con (.int 1))) (.nm 4) (.seq (.var 1)) .none [4])]),
    .ife (.cmp .eq (.ix (.var 2) (.con (.int 0))) (.con (.str "1"))) [.asg (.nm 2) (.fn 13 [(.var 2)])] [],
    .ret (.tup [(.bi .tuple [(.comp (.ix (.var 4) (.con (.int 0))) (.nm 4) (.seq (.var 1)) .none [4])]), (.var 2)])]
def f__law_bus : Fn where
  name := "_law_bus"
  ps := ["size", "lots"]
  N := ["size", "lots", "found", "lot"]
  mu := []
  own := false
  body := [.asg (.nm 2) (.lst []),
    .fr (.nm 3) (.seq (.bi .sorted [(.comp (.fn 14 [(.var 3)]) (.nm 3) (.seq (.var 1)) .none [3])])) [.ife (.cmp .nin (.var 3) (.var 2)) [.ex (.mu .append 2 [(.var 3)])] []] [false, false, true, false],
    .ret (.tup [(.var 0), (.bi .tuple [(.var 2)])])]
def f__law_lanes : Fn where
  name := "_law_lanes"
  ps := ["size", "cuts"]
  N := ["size", "cuts", "starts", "ends", "k"]
  mu := []
  own := true
  body := [.asg (.nm 2) (.op .cat (.lst [(.con (.int 0))]) (.bi .list [(.var 1)])),
    .asg (.nm 3) (.op .cat (.bi .list [(.var 1)]) (.lst [(.var 0)])),
    .ret (.comp (.tup [(.ix (.var 2) (.var 4)), (.ix (.var 3) (.var 4))]) (.nm 4) (.rng1 (.bi .len [(.var 2)])) .none [4])]
def f__law_occurs : Fn where
  name := "_law_occurs"
  ps := ["wires", "pattern", "lanes", "books"]
  N := ["wires", "pattern", "lanes", "books", "k", "start", "inside", "signs", "j", "word"]
  mu := []
  own := false
  body := [.fr (.nm 4) (.rng1 (.bi .len [(.var 2)])) [.asg (.nm 5) (.ix (.ix (.var 2) (.var 4)) (.con (.int 0))), .asg (.nm 6) (.comp (.var 8) (.nm 8) (.rng1 (.bi .len [(.var 0)])) (.some (.and (.cmp .le (.var 5) (.ix (.var 0) (.var 8))) (.cmp .lt (.ix (.var 0) (.var 8)) (.ix (.ix (.var 2) (.var 4)) (.con (.int 1)))))) [8]), .asg (.nm 7) (.me .join (.con (.str "")) [(.comp (.ix (.var 1) (.var 8)) (.nm 8) (.seq (.var 6)) .none [8])]), .ife (.cmp .nin (.var 7) (.comp (.me .join (.con (.str "")) [(.comp (.ix (.var 9) (.op .sub (.ix (.var 0) (.var 8)) (.var 5))) (.nm 8) (.seq (.var 6)) .none [8])]) (.nm 9) (.seq (.ix (.var 3) (.var 4))) .none [9])) [.ret (.con (.bool false))] []] [false, false, false, false, false, false, false, false, false, false],
    .ret (.con (.bool true))]
def f__law_clash : Fn where
  name := "_law_clash"
  ps := ["bus", "lanes", "books"]
  N := ["bus", "lanes", "books", "wires", "pattern"]
  mu := []
  own := false
  body := [.fr (.tp [(.nm 3), (.nm 4)]) (.seq (.ix (.var 0) (.con (.int 1)))) [.ife (.and (.fn 17 [(.var 3), (.var 4), (.var 1), (.var 2)]) (.fn 17 [(.var 3), (.fn 13 [(.var 4)]), (.var 1), (.var 2)])) [.ret (.con (.bool true))] []] [false, false, false, false, false],
    .ret (.con (.bool false))]
def f__law_is_lane : Fn where
  name := "_law_is_lane"
  ps := ["words", "size"]
  N := ["words", "size", "word", "k", "sign"]
  mu := []
  own := false
  body := [.ife (.or (.not (.isi .tup (.var 0))) (.cmp .eq (.bi .len [(.var 0)]) (.con (.int 0)))) [.ret (.con (.bool false))] [],
    .fr (.nm 2) (.seq (.var 0)) [.ife (.or (.not (.isi .str (.var 2))) (.cmp .ne (.bi .len [(.var 2)]) (.var 1))) [.ret (.con (.bool false))] [], .fr (.nm 4) (.seq (.var 2)) [.ife (.cmp .nin (.var 4) (.con (.str "01"))) [.ret (.con (.bool false))] []] [false, false, false, false, false]] [false, false, false, false, false],
    .fr (.nm 3) (.rng2 (.con (.int 1)) (.bi .len [(.var 0)])) [.ife (.cmp .ge (.ix (.var 0) (.op .sub (.var 3) (.con (.int 1)))) (.ix (.var 0) (.var 3))) [.ret (.con (.bool false))] []] [false, false, false, false, false],
    .ret (.con (.bool true))]
def f__law_right : Fn where
  name := "_law_right"
  ps := ["bus", "cuts", "books"]
  N := ["bus", "cuts", "books", "last", "wire", "lanes", "k"]
  mu := []
  own := false
  body := [.ife (.or (.not (.isi .tup (.var 1))) (.or (.not (.isi .tup (.var 2))) (.cmp .ne (.bi .len [(.var 2)]) (.op .add (.bi .len [(.var 1)]) (.con (.int 1)))))) [.ret (.con (.bool false))] [],
    .asg (.nm 3) (.con (.int 0)),
    .fr (.nm 4) (.seq (.var 1)) [.ife (.or (.not (.isi .int (.var 4))) (.or (.isi .bool (.var 4)) (.or (.cmp .le (.var 4) (.var 3)) (.cmp .ge (.var 4) (.ix (.var 0) (.con (.int 0))))))) [.ret (.con (.bool false))] [], .asg (.nm 3) (.var 4)] [false, false, false, false, false, false, false],
    .asg (.nm 5) (.fn 16 [(.ix (.var 0) (.con (.int 0))), (.var 1)]),
    .fr (.nm 6) (.rng1 (.bi .len [(.var 5)])) [.ife (.not (.fn 19 [(.ix (.var 2) (.var 6)), (.op .sub (.ix (.ix (.var 5) (.var 6)) (.con (.int 1))) (.ix (.ix (.var 5) (.var 6)) (.con (.int 0))))])) [.ret (.con (.bool false))] []] [false, false, false, false, false, true, false],
    .ret (.not (.fn 18 [(.var 0), (.var 5), (.var 2)]))]
def f__law_lane_word : Fn where
  name := "_law_lane_word"
  ps := ["stream", "lane", "book"]
  N := ["stream", "lane", "book", "size", "word", "at", "k"]
  mu := [true, false, false]
  own := false
  body := [.asg (.nm 3) (.op .sub (.ix (.var 1) (.con (.int 1))) (.ix (.var 1) (.con (.int 0)))),
    .ife (.and (.cmp .gt (.bi .len [(.var 2)]) (.con (.int 0))) (.cmp .eq (.fn 9 [(.var 0), (.con (.int 2))]) (.con (.int 0)))) [.asg (.nm 4) (.ix (.var 2) (.fn 9 [(.var 0), (.bi .len [(.var 2)])])), .asg (.nm 5) (.fn 9 [(.var 0), (.var 3)]), .ret (.op .add (.op .add (.sl (.var 4) .none (.some (.var 5))) (.fn 13 [(.ix (.var 4) (.var 5))])) (.sl (.var 4) (.some (.op .add (.var 5) (.con (.int 1)))) .none))] [],
    .ret (.me .join (.con (.str "")) [(.comp (.ix (.con (.str "01")) (.fn 9 [(.var 0), (.con (.int 2))])) (.nm 6) (.rng1 (.var 3)) .none [6])])]
def f__law_with : Fn where
  name := "_law_with"
  ps := ["books", "at", "word"]
  N := ["books", "at", "word", "more", "book"]
  mu := []
  own := true
  body := [.asg (.nm 3) (.comp (.bi .list [(.var 4)]) (.nm 4) (.seq (.var 0)) .none [4]),
    .set 3 (.var 1) (.bi .sorted [(.op .cat (.ix (.var 3) (.var 1)) (.lst [(.var 2)]))]),
    .ret (.var 3)]
def f__law_books : Fn where
  name := "_law_books"
  ps := ["stream", "bus", "lanes"]
  N := ["stream", "bus", "lanes", "books", "k", "at", "word", "lane", "more", "book"]
  mu := [true, false, false]
  own := false
  body := [.asg (.nm 3) (.comp (.lst [(.fn 21 [(.var 0), (.var 7), (.lst [])])]) (.nm 7) (.seq (.var 2)) .none [7]),
    .fr (.nm 4) (.rng1 (.con (.int 9))) [.asg (.nm 5) (.fn 9 [(.var 0), (.bi .len [(.var 2)])]), .asg (.nm 6) (.fn 21 [(.var 0), (.ix (.var 2) (.var 5)), (.ix (.var 3) (.var 5))]), .ife (.cmp .nin (.var 6) (.ix (.var 3) (.var 5))) [.asg (.nm 8) (.fn 22 [(.var 3), (.var 5), (.var 6)]), .ife (.not (.fn 18 [(.var 1), (.var 2), (.var 8)])) [.asg (.nm 3) (.var 8)] []] []] [true, false, false, false, false, false, false, false, false, false],
    .ret (.bi .tuple [(.comp (.bi .tuple [(.var 9)]) (.nm 9) (.seq (.var 3)) .none [9])])]
def f__law_drawn : Fn where
  name := "_law_drawn"
  ps := ["stream"]
  N := ["stream", "size", "lots", "rare", "cuts", "wire"]
  mu := [true]
  own := false
  body := [.asg (.nm 1) (.op .add (.con (.int 1)) (.fn 9 [(.var 0), (.con (.int 6))])),
    .ife (.cmp .eq (.fn 9 [(.var 0), (.con (.int 6))]) (.con (.int 0))) [.asg (.nm 1) (.op .add (.con (.int 7)) (.fn 9 [(.var 0), (.con (.int 54))]))] [],
    .asg (.nm 2) (.fn 12 [(.var 0), (.var 1), (.con (.int 6))]),
    .ife (.cmp .eq (.fn 9 [(.var 0), (.con (.int 4))]) (.con (.int 0))) [.ex (.mu .append 2 [(.fn 11 [(.var 0), (.var 1), (.op .mul (.con (.int 2)) (.var 1))])])] [],
    .asg (.nm 3) (.ix (.lst [(.con (.int 1)), (.con (.int 2)), (.op .add (.con (.int 2)) (.op .fdiv (.var 1) (.con (.int 8)))), (.op .add (.con (.int 2)) (.op .fdiv (.var 1) (.con (.int 8))))]) (.fn 9 [(.var 0), (.con (.int 4))])),
    .asg (.nm 4) (.bi .tuple [(.comp (.var 5) (.nm 5) (.rng2 (.con (.int 1)) (.var 1)) (.some (.cmp .eq (.fn 9 [(.var 0), (.var 3)]) (.con (.int 0)))) [5])]),
    .ret (.tup [(.fn 15 [(.var 1), (.var 2)]), (.var 4)])]
def f__law_cut_spoilt : Fn where
  name := "_law_cut_spoilt"
  ps := ["stream", "size", "cuts", "books"]
  N := ["stream", "size", "cuts", "books", "at", "kind", "empty", "wire"]
  mu := [true, false, false, false]
  own := false
  body := [.asg (.nm 4) (.fn 9 [(.var 0), (.op .add (.bi .len [(.var 2)]) (.con (.int 1)))]),
    .asg (.nm 5) (.fn 9 [(.var 0), (.con (.int 7))]),
    .asg (.nm 6) (.tup [(.tup [(.con (.str ""))])]),
    .ife (.cmp .eq (.var 5) (.con (.int 0))) [.ret (.tup [(.op .add (.tup [(.con (.int 0))]) (.var 2)), (.op .add (.var 6) (.var 3))])] [],
    .ife (.cmp .eq (.var 5) (.con (.int 1))) [.ret (.tup [(.op .add (.var 2) (.tup [(.var 1)])), (.op .add (.var 3) (.var 6))])] [],
    .ife (.and (.cmp .eq (.var 5) (.con (.int 2))) (.cmp .gt (.var 4) (.con (.int 0)))) [.ret (.tup [(.op .add (.sl (.var 2) .none (.some (.var 4))) (.sl (.var 2) (.some (.op .sub (.var 4) (.con (.int 1)))) .none)), (.op .add (.op .add (.sl (.var 3) .none (.some (.var 4))) (.var 6)) (.sl (.var 3) (.some (.var 4)) .none))])] [],
    .ife (.cmp .eq (.var 5) (.con (.int 3))) [.ret (.tup [(.rev (.var 2)), (.rev (.var 3))])] [],
    .ife (.and (.cmp .eq (.var 5) (.con (.int 4))) (.cmp .gt (.var 4) (.con (.int 0)))) [.ret (.tup [(.op .add (.sl (.var 2) .none (.some (.op .sub (.var 4) (.con (.int 1))))) (.sl (.var 2) (.some (.var 4)) .none)), (.var 3)])] [],
    .ife (.cmp .eq (.var 5) (.con (.int 5))) [.ret (.tup [(.ix (.lst [(.con (.int 0)), (.con (.str "")), (.con (.str "0")), (.tup [(.var 2)]), (.op .add (.var 2) (.tup [(.con (.str "1"))])), (.op .add (.var 2) (.tup [(.tup [])]))]) (.fn 9 [(.var 0), (.con (.int 6))])), (.var 3)])] [],
    .ret (.tup [(.bi .tuple [(.comp (.op .sub (.op .add (.var 7) (.fn 9 [(.var 0), (.con (.int 3))])) (.con (.int 1))) (.nm 7) (.seq (.var 2)) .none [7])]), (.var 3)])]
def f__law_words_spoilt : Fn where
  name := "_law_words_spoilt"
  ps := ["stream", "words"]
  N := ["stream", "words", "at", "word", "kind", "other"]
  mu := [true, false]
  own := false
  body := [.asg (.nm 2) (.fn 9 [(.var 0), (.bi .len [(.var 1)])]),
    .asg (.nm 3) (.ix (.var 1) (.var 2)),
    .asg (.nm 4) (.fn 9 [(.var 0), (.con (.int 9))]),
    .asg (.nm 5) (.ix (.var 1) (.var 2)),
    .ife (.cmp .eq (.var 4) (.con (.int 0))) [.ret (.tup [])] [],
    .ife (.cmp .eq (.var 4) (.con (.int 1))) [.ret (.op .add (.op .add (.sl (.var 1) .none (.some (.var 2))) (.sl (.var 1) (.some (.var 2)) (.some (.op .add (.var 2) (.con (.int 1)))))) (.sl (.var 1) (.some (.var 2)) .none))] [],
    .ife (.cmp .eq (.var 4) (.con (.int 2))) [.ret (.rev (.var 1))] [],
    .ife (.cmp .eq (.var 4) (.con (.int 3))) [.ret (.sl (.me .join (.con (.str "")) [(.var 1)]) .none (.some (.con (.int 60))))] [],
    .ife (.cmp .eq (.var 4) (.con (.int 4))) [.asg (.nm 5) (.op .add (.var 3) (.con (.str "0")))] [],
    .ife (.cmp .eq (.var 4) (.con (.int 5))) [.asg (.nm 5) (.sl (.var 3) (.some (.con (.int 1))) .none)] [],
    .ife (.cmp .eq (.var 4) (.con (.int 6))) [.asg (.nm 5) (.tup [(.var 3)])] [],
    .ife (.cmp .eq (.var 4) (.con (.int 7))) [.asg (.nm 5) (.fn 9 [(.var 0), (.con (.int 2))])] [],
    .ife (.cmp .eq (.var 4) (.con (.int 8))) [.asg (.nm 5) (.op .add (.sl (.var 3) .none (.some (.neg (.con (.int 1))))) (.con (.str "2")))] [],
    .ret (.op .add (.op .add (.sl (.var 1) .none (.some (.var 2))) (.tup [(.var 5)])) (.sl (.var 1) (.some (.op .add (.var 2) (.con (.int 1)))) .none))]
def f__law_books_spoilt : Fn where
  name := "_law_books_spoilt"
  ps := ["stream", "bus", "lanes", "books"]
  N := ["stream", "bus", "lanes", "books", "kind", "at", "more", "k", "word", "book"]
  mu := [true, false, false, false]
  own := false
  body := [.asg (.nm 4) (.fn 9 [(.var 0), (.con (.int 8))]),
    .asg (.nm 5) (.fn 9 [(.var 0), (.bi .len [(.var 3)])]),
    .ife (.cmp .eq (.var 4) (.con (.int 0))) [.ret (.op .add (.sl (.var 3) .none (.some (.var 5))) (.sl (.var 3) (.some (.op .add (.var 5) (.con (.int 1)))) .none))] [],
    .ife (.cmp .eq (.var 4) (.con (.int 1))) [.ret (.op .add (.op .add (.sl (.var 3) .none (.some (.var 5))) (.sl (.var 3) (.some (.var 5)) (.some (.op .add (.var 5) (.con (.int 1)))))) (.sl (.var 3) (.some (.var 5)) .none))] [],
    .ife (.cmp .eq (.var 4) (.con (.int 2))) [.ret (.ix (.lst [(.con (.int 0)), (.con (.str "0")), (.tup []), (.tup [(.var 3)]), (.op .add (.var 3) (.tup [(.con (.str ""))]))]) (.fn 9 [(.var 0), (.con (.int 5))]))] [],
    .ife (.cmp .lt (.var 4) (.con (.int 6))) [.ret (.op .add (.op .add (.sl (.var 3) .none (.some (.var 5))) (.tup [(.fn 26 [(.var 0), (.ix (.var 3) (.var 5))])])) (.sl (.var 3) (.some (.op .add (.var 5) (.con (.int 1)))) .none))] [],
    .asg (.nm 6) (.comp (.bi .list [(.var 9)]) (.nm 9) (.seq (.var 3)) .none [9]),
    .fr (.nm 7) (.rng1 (.con (.int 8))) [.asg (.nm 5) (.fn 9 [(.var 0), (.bi .len [(.var 2)])]), .asg (.nm 8) (.fn 21 [(.var 0), (.ix (.var 2) (.var 5)), (.ix (.var 6) (.var 5))]), .ife (.and (.cmp .nin (.var 8) (.ix (.var 6) (.var 5))) (.not (.fn 18 [(.var 1), (.var 2), (.var 6)]))) [.asg (.nm 6) (.fn 22 [(.var 6), (.var 5), (.var 8)])] []] [true, false, false, false, false, false, false, false, false, false],
    .ret (.bi .tuple [(.comp (.bi .tuple [(.var 9)]) (.nm 9) (.seq (.var 6)) .none [9])])]
def f_law : Fn where
  name := "law"
  ps := ["script"]
  N := ["script", "stream", "turn", "drawn", "bus", "cuts", "lanes", "books", "papers", "k", "paper", "at", "wider"]
  mu := []
  own := false
  body := [.asg (.nm 1) (.fn 8 [(.var 0)]),
    .fr (.nm 2) (.rng1 (.con (.int 2))) [.asg (.nm 3) (.fn 24 [(.var 1)]), .asg (.nm 4) (.ix (.var 3) (.con (.int 0))), .asg (.nm 5) (.ix (.var 3) (.con (.int 1))), .asg (.nm 6) (.fn 16 [(.ix (.var 4) (.con (.int 0))), (.var 5)]), .asg (.nm 7) (.fn 23 [(.var 1), (.var 4), (.var 6)]), .asg (.nm 8) (.lst [(.tup [(.var 5), (.var 7)])]), .fr (.nm 9) (.rng1 (.con (.int 5))) [.ex (.mu .append 8 [(.fn 25 [(.var 1), (.ix (.var 4) (.con (.int 0))), (.var 5), (.var 7)])]), .ex (.mu .append 8 [(.tup [(.var 5), (.fn 27 [(.var 1), (.var 4), (.var 6), (.var 7)])])])] [false, true, false, false, false, false, false, false, true, false, false, false, false], .ife (.cmp .gt (.bi .len [(.ix (.var 4) (.con (.int 1)))]) (.con (.int 0))) [.asg (.nm 11) (.fn 9 [(.var 1), (.bi .len [(.ix (.var 4) (.con (.int 1)))])]), .asg (.nm 12) (.tup [(.ix (.var 4) (.con (.int 0))), (.op .add (.sl (.ix (.var 4) (.con (.int 1))) .none (.some (.var 11))) (.sl (.ix (.var 4) (.con (.int 1))) (.some (.op .add (.var 11) (.con (.int 1)))) .none))]), .ex (.mu .append 8 [(.tup [(.var 5), (.fn 23 [(.var 1), (.var 12), (.var 6)])])])] [], .ex (.mu .append 8 [(.tup [(.var 5), (.var 7)])]), .fr (.nm 10) (.seq (.var 8)) [.ife (.not (.fn 10 [(.fn 7 [(.var 4), (.ix (.var 10) (.con (.int 0))), (.ix (.var 10) (.con (.int 1)))]), (.fn 20 [(.var 4), (.ix (.var 10) (.con (.int 0))), (.ix (.var 10) (.con (.int 1)))])])) [.ret (.con (.bool false))] []] [false, true, false, false, false, false, false, false, false, false, false, false, false], .ife (.not (.fn 20 [(.var 4), (.var 5), (.var 7)])) [.ret (.con (.bool false))] []] [false, true, false, false, false, false, false, false, false, false, false, false, false],
    .ret (.con (.bool true))]
def T : List Fn := [f_is_number, f_is_word, f_opposite, f_part, f_are_cuts, f_is_lane_book, f_occurs_joined, f_shows_product, f__law_stream, f__law_take, f__law_same, f__law_lot, f__law_lots, f__law_opposite, f__law_standard, f__law_bus, f__law_lanes, f__law_occurs, f__law_clash, f__law_is_lane, f__law_right, f__law_lane_word, f__law_with, f__law_books, f__law_drawn, f__law_cut_spoilt, f__law_words_spoilt, f__law_books_spoilt, f_law]
def bl : List Str := ["abs", "bool", "enumerate", "int", "isinstance", "len", "list", "min", "range", "repr", "sorted", "str", "tuple", "zip"]
abbrev topS (i : Nat) : Stmt := PySem.Challenge.pw_neveropposed_k38_products_judged.main.body.getD i (.Pass ⟨0, 0, 0, 0⟩)
def sts : List Stmt := [topS 1, topS 3, topS 4, topS 5, topS 7, topS 8, topS 9, topS 10, topS 12, topS 13, topS 14, topS 15, topS 16, topS 17, topS 18, topS 19, topS 20, topS 21, topS 22, topS 23, topS 24, topS 25, topS 26, topS 27, topS 28, topS 29, topS 30, topS 31, topS 32]
theorem mu_is_number : f_is_number.mu = [] := rfl
theorem mu_is_word : f_is_word.mu = [] := rfl
theorem mu_opposite : f_opposite.mu = [] := rfl
theorem mu_part : f_part.mu = [] := rfl
theorem mu_are_cuts : f_are_cuts.mu = [] := rfl
theorem mu_is_lane_book : f_is_lane_book.mu = [] := rfl
theorem mu_occurs_joined : f_occurs_joined.mu = [] := rfl
theorem mu_shows_product : f_shows_product.mu = [] := rfl
theorem mu__law_stream : f__law_stream.mu = [] := rfl
theorem mu__law_take : f__law_take.mu = [true, false] := rfl
theorem mu__law_same : f__law_same.mu = [] := rfl
theorem mu__law_lot : f__law_lot.mu = [true, false, false] := rfl
theorem mu__law_lots : f__law_lots.mu = [true, false, false] := rfl
theorem mu__law_opposite : f__law_opposite.mu = [] := rfl
theorem mu__law_standard : f__law_standard.mu = [] := rfl
theorem mu__law_bus : f__law_bus.mu = [] := rfl
theorem mu__law_lanes : f__law_lanes.mu = [] := rfl
theorem mu__law_occurs : f__law_occurs.mu = [] := rfl
theorem mu__law_clash : f__law_clash.mu = [] := rfl
theorem mu__law_is_lane : f__law_is_lane.mu = [] := rfl
theorem mu__law_right : f__law_right.mu = [] := rfl
theorem mu__law_lane_word : f__law_lane_word.mu = [true, false, false] := rfl
theorem mu__law_with : f__law_with.mu = [] := rfl
theorem mu__law_books : f__law_books.mu = [true, false, false] := rfl
theorem mu__law_drawn : f__law_drawn.mu = [true] := rfl
theorem mu__law_cut_spoilt : f__law_cut_spoilt.mu = [true, false, false, false] := rfl
theorem mu__law_words_spoilt : f__law_words_spoilt.mu = [true, false] := rfl
theorem mu__law_books_spoilt : f__law_books_spoilt.mu = [true, false, false, false] := rfl
theorem mu_law : f_law.mu = [] := rfl
theorem T_is_number : T[0]? = some f_is_number := rfl
theorem T_is_word : T[1]? = some f_is_word := rfl
theorem T_opposite : T[2]? = some f_opposite := rfl
theorem T_part : T[3]? = some f_part := rfl
theorem T_are_cuts : T[4]? = some f_are_cuts := rfl
theorem T_is_lane_book : T[5]? = some f_is_lane_book := rfl
theorem T_occurs_joined : T[6]? = some f_occurs_joined := rfl
theorem T_shows_product : T[7]? = some f_shows_product := rfl
theorem T__law_stream : T[8]? = some f__law_stream := rfl
theorem T__law_take : T[9]? = some f__law_take := rfl
theorem T__law_same : T[10]? = some f__law_same := rfl
theorem T__law_lot : T[11]? = some f__law_lot := rfl
theorem T__law_lots : T[12]? = some f__law_lots := rfl
theorem T__law_opposite : T[13]? = some f__law_opposite := rfl
theorem T__law_standard : T[14]? = some f__law_standard := rfl
theorem T__law_bus : T[15]? = some f__law_bus := rfl
theorem T__law_lanes : T[16]? = some f__law_lanes := rfl
theorem T__law_occurs : T[17]? = some f__law_occurs := rfl
theorem T__law_clash : T[18]? = some f__law_clash := rfl
theorem T__law_is_lane : T[19]? = some f__law_is_lane := rfl
theorem T__law_right : T[20]? = some f__law_right := rfl
theorem T__law_lane_word : T[21]? = some f__law_lane_word := rfl
theorem T__law_with : T[22]? = some f__law_with := rfl
theorem T__law_books : T[23]? = some f__law_books := rfl
theorem T__law_drawn : T[24]? = some f__law_drawn := rfl
theorem T__law_cut_spoilt : T[25]? = some f__law_cut_spoilt := rfl
theorem T__law_words_spoilt : T[26]? = some f__law_words_spoilt := rfl
theorem T__law_books_spoilt : T[27]? = some f__law_books_spoilt := rfl
theorem T_law : T[28]? = some f_law := rfl
end G
end
section
set_option linter.all false
set_option autoImplicit false
set_option maxRecDepth 100000
set_option maxHeartbeats 4000000
namespace G
open PySem VF L2
local macro_rules | `(tactic| walk_at "sx") => `(tactic| (try simp only [T_is_number, mu_is_number, T_is_word, mu_is_word, T_opposite, mu_opposite, T_part, mu_part, T_are_cuts, mu_are_cuts, T_is_lane_book, mu_is_lane_book, T_occurs_joined, mu_occurs_joined, T_shows_product, mu_shows_product, T__law_stream, mu__law_stream, T__law_take, mu__law_take, T__law_same, mu__law_same, T__law_lot, mu__law_lot, T__law_lots, mu__law_lots, T__law_opposite, mu__law_opposite, T__law_standard, mu__law_standard, T__law_bus, mu__law_bus, T__law_lanes, mu__law_lanes, T__law_occurs, mu__law_occurs, T__law_clash, mu__law_clash, T__law_is_lane, mu__law_is_lane, T__law_right, mu__law_right, T__law_lane_word, mu__law_lane_word, T__law_with, mu__law_with, T__law_books, mu__law_books, T__law_drawn, mu__law_drawn, T__law_cut_spoilt, mu__law_cut_spoilt, T__law_words_spoilt, mu__law_words_spoilt, T__law_books_spoilt, mu__law_books_spoilt, T_law, mu_law, bnd_tp, bnds_n, bnds_c, Option.bind_some, eqv_nil, List.drop_nil, List.drop_succ_cons, List.drop_zero, tx1, eW, eL, atI_z, atI_o, int0, int1, shp_int, shp_none, shp_bool, eqv_int, eqv_str, wipeR_c, wipeR_n, backR_c, backR_n, lit_e, lit_0, lit_1, lit_10, lit_01, lit_m, Tx_list, Tx_len, on_ss, pow18, exists_and_left, decide_eq_true_eq, List.length_map, atI_map, u_popI, wp_neg, wp_so, wp_no, ev_var, ev_con, ev_glo, ev_tup, ev_lst, ev_op, ev_cmp, ev_isN, ev_and, ev_or, ev_not, ev_ite, ev_fn, ev_bi, ev_me, ev_ix, ev_sl, ev_eqR, rn_cons, rn_nil, s_asg, s_ex, s_ret, s_retN, s_pas, s_brk, s_cnt, s_ife, s_set, s_fr, s_whl, wp_mu, wp_bnd, wp_ret, wp_none, wp_lift, wp_s, wp_d, wp_pv, wp_asB, wp_call, wp_itep, ex_ite, ex_map, ex_bind, ex_some, ex_bool, ite_no, on_con, on_glo, on_tup, on_lst, on_op, on_neg, on_cmp, on_isN, on_and, on_or, on_not, on_ite, on_fn, on_bi, on_me, on_mu, on_ix, on_sl, on_comp, on_eqR, o_addI, o_subI, o_mulI, o_fdivI, o_modI, o_powI, o_addS, o_addT, o_catL, c_ltI, c_leI, c_gtI, c_geI, c_eq, c_ne, c_ltS, c_ltT, c_inS, c_inL, c_ninL, c_inT, c_ninT, b_lenL, b_lenT, b_lenS, b_intI, b_intB, b_intS, b_strI, b_tupL, b_tupT, b_lstL, b_lstT, b_lstS, b_srt, b_sum, b_max2, b_min2, b_abs, b_any, b_all, x_l, x_t, x_s, n_non, n_int, n_str, n_tup, n_lst, n_bool, k_join, u_app, u_rev, i_l, i_t, i_s, g_1, g_2, evEs, evPs, evAs, evI, rdPs, startR, bnd_nm, outsTo, mutOuts, List.map_cons, List.map_nil, List.cons_append, List.nil_append, List.length_cons, List.length_nil, List.getElem?_cons_zero, List.getElem?_cons_succ, Option.some.injEq, exists_eq_left', exists_eq_left, exists_eq, exists_eq', List.set_cons_zero, List.set_cons_succ, and_true, true_and, Option.map_some, PyData.bool.injEq, PyData.int.injEq, PyData.list.injEq, PyData.str.injEq, PyData.tuple.injEq, ite_true, ite_false, if_true, if_false, Bool.false_eq_true, Nat.sub_self, List.replicate_zero, List.append_nil, List.replicate_succ, Nat.zero_add, Nat.reduceAdd, Nat.reduceSub, Nat.reduceLT, ctxN, Option.getD_some]))

theorem any_eqv (l : List Nat) (w : Nat) : ((l.map fun i => PyData.int (i : Nat)).any fun z => PyData.eqv z (.int (w : Nat))) = decide (w ∈ l) := by
  induction l with
  | nil => simp
  | cons a l ih =>
    rw [List.map_cons, List.any_cons, ih, eqv_int]
    by_cases h : a = w
    · subst h; simp
    · have h1 : ¬ (a : Int) = (w : Int) := by omega
      have h2 : ¬ w = a := fun z => h z.symm
      simp [h1, h2]
theorem nodup_snoc {α : Type} {l : List α} {a : α} (h : l.Nodup) (hn : a ∉ l) : (l ++ [a]).Nodup := by
  rw [List.nodup_append]
  exact ⟨h, by simp, fun x hx y hy => by
    have : y = a := by simpa using hy
    rw [this]
    exact fun z => hn (z ▸ hx)⟩
theorem mod_nodup {k size : Nat} (h : 1 < size) : [k % size, (k + 1) % size].Nodup := by
  have h1 : k % size < size := Nat.mod_lt _ (by omega)
  have h2 : (k + 1) % size = if k % size + 1 = size then 0 else k % size + 1 := by
    rw [Nat.add_mod, Nat.mod_eq_of_lt (show 1 < size from h)]
    split
    · rename_i z; rw [z, Nat.mod_self]
    · rw [Nat.mod_eq_of_lt (by omega)]
  have : k % size ≠ (k + 1) % size := by
    rw [h2]
    split <;> omega
  simpa using this
theorem range_getD {α : Type} (l : List α) (d : α) : ((List.range l.length).map fun k => l.getD k d) = l := by
  apply List.ext_getElem
  · simp
  · intro i h1 h2
    simp [List.getD, h2]
/-- the stream of drawn numbers -/
structure Strm (l : List Int) : Prop where
  ne : l ≠ []
  sz : l.length ≤ 4000
  bd : ∀ x ∈ l, 0 ≤ x ∧ x < 2147483647

abbrev IL (l : List Int) : D := .list (l.map .int)

theorem ixN_c {n : Nat} : ixN (n + 1) 0 = some 0 := ixN_0 (by omega)

theorem abs_lt {a : Int} {k : Nat} (h0 : 0 ≤ a) (h : a < 2 ^ k) : a.natAbs < 2 ^ k := by
  have : (a.natAbs : Int) = a := Int.natAbs_of_nonneg h0
  have h2 : ((2 ^ k : Nat) : Int) = 2 ^ k := by push_cast; rfl
  omega

theorem take_ok (mm : Nat) (hmm : 1 ≤ mm) (l : List Int) (m : Int) (hs : Strm l) (hm : 0 < m) : CallOk T mm 9 [IL l, .int m] fun d outs => ∃ r l', d = .int r ∧ outs = [IL l'] ∧ 0 ≤ r ∧ r < m ∧ Strm l' := by
  obtain ⟨n, rfl⟩ : ∃ n, mm = n + 1 := ⟨mm - 1, by omega⟩
  refine call_ok T__law_take rfl ?_
  unfold f__law_take
  walk_at "sx"
  by_cases h1 : 1 < (l.length : Int)
  · rw [if_pos h1]
    refine ⟨l.getLast hs.ne, List.getLast?_eq_some_getLast hs.ne, hm, l.dropLast, rfl, Int.emod_nonneg _ (by omega), Int.emod_lt_of_pos _ hm, fun z => ?_, ?_, fun x hx => hs.bd x (List.dropLast_subset l hx)⟩
    · have := congrArg List.length z
      simp at this
      omega
    · have := hs.sz
      simp; omega
  · rw [if_neg h1]
    obtain ⟨x, rfl⟩ : ∃ x, l = [x] := by
      match l, hs.ne, h1 with
      | [x], _, _ => exact ⟨x, rfl⟩
      | _ :: _ :: _, _, h => simp at h; omega
    obtain ⟨b1, b2⟩ := hs.bd x (by simp)
    refine ⟨x, rfl, mul_fits (j := 31) (k := 16) (abs_lt b1 (by omega)) (by decide) (by decide), by decide, 0, rfl, ?_⟩
    simp only [List.map_cons, List.map_nil, List.set_cons_zero, atI_z]
    walk_at "sx"
    have h2 := Int.emod_nonneg (x * 48271 + 12345) (show (2147483647 : Int) ≠ 0 by decide)
    have h3 := Int.emod_lt_of_pos (x * 48271 + 12345) (show (0 : Int) < 2147483647 by decide)
    refine ⟨by decide, hm, [(x * 48271 + 12345) % 2147483647], rfl, Int.emod_nonneg _ (by omega), Int.emod_lt_of_pos _ hm, by simp, by simp, fun y hy => ?_⟩
    have : y = (x * 48271 + 12345) % 2147483647 := by simpa using hy
    omega

theorem bits_neg (a : Int) : Builtin.Int.intBits (-a) = Builtin.Int.intBits a := by
  unfold Builtin.Int.intBits
  simp [Int.natAbs_neg]

theorem stream_ok (m : Nat) (hm : 1 ≤ m) (ns : List Int) (hl : ns.length ≤ 63) (hb : ∀ i ∈ ns, Builtin.Int.intBits i ≤ 1048576) : CallOk T m 8 [IL ns] fun d outs => ∃ l, d = IL l ∧ outs = [] ∧ Strm l := by
  obtain ⟨n, rfl⟩ : ∃ n, m = n + 1 := ⟨m - 1, by omega⟩
  refine call_ok T__law_stream rfl ?_
  unfold f__law_stream
  walk_at "sx"
  have hm : (if 63 < (ns.length : Int) then 63 else (ns.length : Int)) = ns.length := by rw [if_neg (by omega)]
  rw [hm]
  refine ⟨rfl, by simp [bnd62]; omega, for_inv (fun ds ρ => ∃ (fd : List Int) (mx : Int) (a b c e : Option D), ρ = [some (IL ns), some (IL fd), some (.int mx), a, b, c, e] ∧ (∀ d ∈ ds, ∃ i : Int, d = .int i ∧ 0 ≤ i ∧ i < ns.length) ∧ fd.length + 60 * ds.length ≤ 3780 ∧ (0 ≤ mx ∧ mx < 2147483647) ∧ ∀ x ∈ fd, 0 ≤ x ∧ x < 1000) ?_ ?_ _ _ ?_⟩
  · rintro ρ ⟨fd, mx, a, b, c, e, rfl, h1, h2, h3, h4⟩
    walk_at "sx"
    simp only [List.length_nil] at h2
    refine ⟨rfl, ?_, mx :: fd.reverse, by simp, by simp, ?_, fun x hx => ?_⟩
    · simp [okLen]; omega
    · simp; omega
    · rcases List.mem_cons.mp hx with hx | hx
      · rw [hx]; exact h3
      · have := h4 x (List.mem_reverse.mp hx); omega
  · rintro x xs ρ ⟨fd, mx, a, b, c, e, rfl, h1, h2, h3, h4⟩
    obtain ⟨i, rfl, i0, i1⟩ := h1 x List.mem_cons_self
    walk_at "sx"
    obtain ⟨a0, ea, ha⟩ := atI_lt i0 i1
    have hbits : Builtin.Int.intBits (if a0 < 0 then -a0 else a0) ≤ 1048576 := by
      have := hb a0 ha
      split
      · rw [bits_neg]; exact this
      · exact this
    have hc0 : 0 ≤ (if a0 < 0 then -a0 else a0) := by split <;> omega
    refine ⟨a0, ea, mul_fits (j := 31) (k := 16) (abs_lt h3.1 (by omega)) (by decide) (by decide), ?_, by decide, by decide, ?_⟩
    · have h5 : Builtin.Int.intBits 69621 ≤ 17 := bits_lt (by decide)
      omega
    generalize (if a0 < 0 then -a0 else a0) = cl at hbits hc0
    have m1 := Int.emod_nonneg (mx * 48271 + cl * 69621 + i + 1) (show (2147483647 : Int) ≠ 0 by decide)
    have m2 := Int.emod_lt_of_pos (mx * 48271 + cl * 69621 + i + 1) (show (0 : Int) < 2147483647 by decide)
    generalize (mx * 48271 + cl * 69621 + i + 1) % 2147483647 = mx2 at m1 m2
    simp only [List.length_cons] at h2
    have h1' : ∀ d ∈ xs, ∃ i : Int, d = .int i ∧ 0 ≤ i ∧ i < ns.length := fun d hd => h1 d (List.mem_cons_of_mem _ hd)
    by_cases hbig : 1000000000000000000 ≤ cl
    · rw [if_pos hbig]
      refine ⟨by decide, for_inv (fun ds ρ => ∃ (fd2 : List Int) (cl2 : Int) (k : Option D), ρ = [some (IL ns), some (IL fd2), some (.int mx2), some (.int i), some (.int cl2), k, e] ∧ fd2.length + ds.length ≤ fd.length + 60 ∧ ∀ x ∈ fd2, 0 ≤ x ∧ x < 1000) ?_ ?_ _ _ ?_⟩
      · rintro ρ ⟨fd2, cl2, k, rfl, g1, g2⟩
        simp only [List.length_nil] at g1
        exact ⟨fd2, mx2, _, _, _, _, rfl, h1', by omega, ⟨m1, m2⟩, g2⟩
      · rintro y ys ρ ⟨fd2, cl2, k, rfl, g1, g2⟩
        simp only [List.length_cons] at g1
        walk_at "sx"
        by_cases hp : 0 < cl2
        · rw [if_pos hp]
          have e1 := Int.emod_nonneg cl2 (show (1000 : Int) ≠ 0 by decide)
          have e2 := Int.emod_lt_of_pos cl2 (show (0 : Int) < 1000 by decide)
          refine ⟨by decide, by omega, by decide, fd2 ++ [cl2 % 1000], cl2 / 1000, some y, by simp, by simp; omega, fun x hx => ?_⟩
          rcases List.mem_append.mp hx with hx | hx
          · exact g2 x hx
          · have : x = cl2 % 1000 := by simpa using hx
            omega
        · rw [if_neg hp]
          exact ⟨fd2, cl2, some y, rfl, by omega, g2⟩
      · exact ⟨fd, cl, c, rfl, by rw [rngD_len]; simp, h4⟩
    · rw [if_neg hbig]
      refine ⟨by decide, for_inv (fun ds ρ => ∃ (fd2 : List Int) (ag : Int) (k : Option D), ρ = [some (IL ns), some (IL fd2), some (.int mx2), some (.int i), some (.int cl), k, some (.int ag)] ∧ fd2.length + ds.length ≤ fd.length + 4 ∧ (0 ≤ ag ∧ ag < 2147483647) ∧ (∀ d ∈ ds, ∃ i : Int, d = .int i) ∧ ∀ x ∈ fd2, 0 ≤ x ∧ x < 1000) ?_ ?_ _ _ ?_⟩
      · rintro ρ ⟨fd2, ag, k, rfl, g1, g2, g3, g4⟩
        simp only [List.length_nil] at g1
        exact ⟨fd2, mx2, _, _, _, _, rfl, h1', by omega, ⟨m1, m2⟩, g4⟩
      · rintro y ys ρ ⟨fd2, ag, k, rfl, g1, g2, g3, g4⟩
        obtain ⟨j, rfl⟩ := g3 y List.mem_cons_self
        simp only [List.length_cons] at g1
        walk_at "sx"
        have e1 := Int.emod_nonneg (ag * 16807 + cl + j) (show (2147483647 : Int) ≠ 0 by decide)
        have e2 := Int.emod_lt_of_pos (ag * 16807 + cl + j) (show (0 : Int) < 2147483647 by decide)
        generalize (ag * 16807 + cl + j) % 2147483647 = ag2 at e1 e2
        have e3 := Int.emod_nonneg (ag2 / 1000) (show (1000 : Int) ≠ 0 by decide)
        have e4 := Int.emod_lt_of_pos (ag2 / 1000) (show (0 : Int) < 1000 by decide)
        refine ⟨mul_fits (j := 31) (k := 15) (abs_lt g2.1 (by omega)) (by decide) (by decide), by decide, by decide, by decide, by omega, fd2 ++ [ag2 / 1000 % 1000], ag2, some (.int j), by simp, by simp; omega, ⟨e1, e2⟩, fun d hd => g3 d (List.mem_cons_of_mem _ hd), fun x hx => ?_⟩
        rcases List.mem_append.mp hx with hx | hx
        · exact g4 x hx
        · have : x = ag2 / 1000 % 1000 := by simpa using hx
          omega
      · exact ⟨fd, mx2, c, rfl, by rw [rngD_len]; simp, ⟨m1, m2⟩, fun d hd => (rngD_mem hd).elim fun i h => ⟨i, h.1⟩, h4⟩
  · refine ⟨[], 1234567, none, none, none, none, rfl, fun d hd => ?_, ?_, by decide, by simp⟩
    · obtain ⟨i, h1, h2, h3⟩ := rngD_mem hd
      exact ⟨i, h1, h2, h3⟩
    · rw [rngD_len]; simp; omega

theorem same_ok (m : Nat) (hm : 1 ≤ m) (d : D) (h : shw d = true) (hd : d.depth ≤ 64) (hw : wt d ≤ 16777216) (hz : szD d = true) : callN T m 10 [d, d] = some (.ok (.bool true) []) := by
  obtain ⟨n, rfl⟩ : ∃ n, m = n + 1 := ⟨m - 1, by omega⟩
  refine call_eq (call_ok T__law_same rfl ?_)
  unfold f__law_same
  walk_at "sx"
  have h1 := shwOk_of h hd hw
  have h2 := shaped_of h hd
  simp only [h1, h2, eqv_self d hz]
  simp

theorem opposite_ok (m : Nat) (hm : 1 ≤ m) (w : List Nat) (hb : bin w) (hl : w.length ≤ 1000) : callN T m 2 [.str (Tx w)] = some (.ok (.str (Tx (opp w))) []) := by
  obtain ⟨n, rfl⟩ : ∃ n, m = n + 1 := ⟨m - 1, by omega⟩
  refine call_eq (call_ok T_opposite rfl ?_)
  unfold f_opposite
  walk_at "sx"
  refine wp_map w (fun c => .str (Tx [c])) (fun c => .str (Tx [flipC c])) (by omega) ?_ ?_ ?_
  · walk_at "sx"
    try trivial
  · intro c hc
    walk_at "sx"
    rcases hb c hc with rfl | rfl
    · walk_at "sx"
      simp [flipC]
    · walk_at "sx"
      simp [flipC]
  · rw [join_one _ _ (by omega)]
    try walk_at "sx"
    try simp [opp]

theorem lopp_ok (m : Nat) (hm : 1 ≤ m) (w : List Nat) (hb : bin w) (hl : w.length ≤ 1000) : callN T m 13 [.str (Tx w)] = some (.ok (.str (Tx (opp w))) []) := by
  obtain ⟨n, rfl⟩ : ∃ n, m = n + 1 := ⟨m - 1, by omega⟩
  refine call_eq (call_ok T__law_opposite rfl ?_)
  unfold f__law_opposite
  walk_at "sx"
  refine wp_map w (fun c => .str (Tx [c])) (fun c => .str (Tx [flipC c])) (by omega) ?_ ?_ ?_
  · walk_at "sx"
    try trivial
  · intro c hc
    walk_at "sx"
    rcases hb c hc with rfl | rfl
    · walk_at "sx"
      simp [flipC]
    · walk_at "sx"
      simp [flipC]
  · rw [join_one _ _ (by omega)]
    try walk_at "sx"
    try simp [opp]

theorem part_ok (m : Nat) (hm : 1 ≤ m) (w ws : List Nat) (hs : ∀ i ∈ ws, i < w.length) (hl : ws.length ≤ 1000) : callN T m 3 [eW w, .tuple (ws.map fun i => .int (i : Nat))] = some (.ok (eW (part w ws)) []) := by
  obtain ⟨n, rfl⟩ : ∃ n, m = n + 1 := ⟨m - 1, by omega⟩
  refine call_eq (call_ok T_part rfl ?_)
  unfold f_part
  walk_at "sx"
  refine wp_map ws (fun i => .int (i : Nat)) (fun i => .str (Tx [w.getD i 48])) (by omega) ?_ ?_ ?_
  · walk_at "sx"
    try trivial
  · intro i hi
    walk_at "sx"
    rw [atI_nat (hs i hi) 48]
    simp
  · rw [join_one _ _ (by omega)]
    try walk_at "sx"
    try simp [part]

abbrev eB (size : Nat) (ls : List Lot) : D := .tuple [.int (size : Nat), .tuple (ls.map eL)]

theorem same_str (m : Nat) (hm : 1 ≤ m) (w : List Nat) (hb : bin w) (hl : w.length ≤ 1000) : callN T m 10 [eW w, eW w] = some (.ok (.bool true) []) := by
  refine same_ok m hm (eW w) ?_ ?_ ?_ ?_
  · unfold eW
    rw [shw, Array.all_eq_true']
    intro c hc
    have : c ∈ w := by simpa [Tx] using hc
    have := bin_ok hb c this
    exact decide_eq_true this
  · unfold eW; rw [PyData.depth]; omega
  · unfold eW; rw [wt, Tx_len]; omega
  · unfold eW; rw [szD]; simp [Tx_len, okLen]; omega

theorem same_bool (m : Nat) (hm : 1 ≤ m) (b : Bool) : callN T m 10 [.bool b, .bool b] = some (.ok (.bool true) []) := by
  refine same_ok m hm (.bool b) rfl ?_ ?_ ?_
  · rw [PyData.depth]; omega
  · show 5 ≤ 16777216; omega
  · cases b <;> rfl

theorem lot_ok (m : Nat) (hm : 2 ≤ m) (size most : Nat) (h0 : 0 < size) (h1 : 0 < most) (h2 : most ≤ 1000) (h22 : most ≤ 50 ∨ size ≤ 60) (hsz : size ≤ 1000) (l : List Int) (hs : Strm l) :
    CallOk T m 11 [IL l, .int (size : Nat), .int (most : Nat)] fun d outs => ∃ lot l', d = eL lot ∧ outs = [IL l'] ∧ Strm l' ∧ LotOk size lot := by
  obtain ⟨n, rfl⟩ : ∃ n, m = n + 2 := ⟨m - 2, by omega⟩
  refine call_ok T__law_lot rfl ?_
  unfold f__law_lot
  walk_at "sx"
  obtain ⟨_, _, e1, r, l1, rfl, rfl, r0, r1, hs1⟩ := take_ok (n + 1) (by omega) l (most : Int) hs (by omega)
  rw [e1]
  walk_at "sx"
  obtain ⟨q, rfl⟩ : ∃ q : Nat, r = q := ⟨r.toNat, by omega⟩
  rw [show (1 : Int) + (q : Int) = ((1 + q : Nat) : Int) from by push_cast; rfl]
  refine ⟨rfl, bnd_nat (by omega), ?_⟩
  refine rng_inv (fun i ρ => ∃ (l1 : List Int) (wsr : List Nat) (j1 j2 j3 : Option D), Strm l1 ∧ (wsr.length ≤ i ∧ wsr.Nodup) ∧ (0 < i → wsr ≠ []) ∧ (∀ i ∈ wsr, i < size) ∧ ρ = [some (IL l1), some (.int (size : Nat)), some (.int (most : Nat)), some (.list (wsr.map fun i => .int (i : Nat))), j1, j2, j3]) 0 (1 + q) _ rfl (by omega) ?_ ?_ _ ⟨l1, [], none, none, none, hs1, by simp, by omega, by simp, rfl⟩
  · rintro ρ ⟨l1, wsr, j1, j2, j3, hs1, ⟨g1, gnd⟩, g2, g3, rfl⟩
    walk_at "sx"
    have hne : wsr ≠ [] := g2 (by omega)
    refine wp_gen (fun l => [some (IL l), some (PyData.int ↑size), some (PyData.int ↑most), some (PyData.list (List.map (fun i : Nat => PyData.int (i : Nat)) wsr)), j1, j2, j3]) Strm (fun c => c = 48 ∨ c = 49) wsr (fun i => .int (i : Nat)) gB l1 hs1 (by omega) ?_ ?_ ?_
    · walk_at "sx"
    · intro x hx s hS
      walk_at "sx"
      obtain ⟨_, _, e1, r, l2, rfl, rfl, r0, r1, hs2⟩ := take_ok (n + 1) (by omega) s 2 hS (by omega)
      rw [e1]
      walk_at "sx"
      rcases (by omega : r = 0 ∨ r = 1) with rfl | rfl
      · walk_at "sx"
        exact ⟨48, .inl rfl, l2, hs2, rfl, rfl⟩
      · walk_at "sx"
        exact ⟨49, .inr rfl, l2, hs2, rfl, rfl⟩
    · intro bs l2 hb hbl hs2
      rw [join_list _ (by omega)]
      walk_at "sx"
      refine ⟨rfl, ⟨wsr, bs⟩, rfl, l2, rfl, hs2, hne, ?_, g3, hbl, hb, gnd⟩
      show wsr.length ≤ 60
      have hsm := nodup_lt size wsr gnd g3
      omega
  · rintro i ρ - hi ⟨l1, wsr, j1, j2, j3, hs1, ⟨g1, gnd⟩, g2, g3, rfl⟩
    walk_at "sx"
    obtain ⟨_, _, e1, r, l2, rfl, rfl, r0, r1, hs2⟩ := take_ok (n + 1) (by omega) l1 (size : Int) hs1 (by omega)
    rw [e1]
    walk_at "sx"
    obtain ⟨w, rfl⟩ : ∃ w : Nat, r = w := ⟨r.toNat, by omega⟩
    refine ⟨by rw [shp_lints wsr fun i hi => by have := g3 i hi; omega]; rfl, ?_⟩
    split
    · rename_i hyes
      rw [any_eqv, Bool.not_eq_true', decide_eq_false_iff_not] at hyes
      refine ⟨by omega, l2, hs2, wsr ++ [w], ⟨by simp; omega, nodup_snoc gnd hyes⟩, by simp, fun v hv => ?_, _, _, _, by rw [List.map_append]; rfl⟩
      rcases List.mem_append.mp hv with hv | hv
      · exact g3 v hv
      · have : v = w := by simpa using hv
        omega
    · rename_i hno
      refine ⟨l2, hs2, wsr, ⟨by omega, gnd⟩, fun _ z => ?_, g3, _, _, _, rfl⟩
      subst z
      exact hno rfl

theorem tk (m : Nat) (hm : 1 ≤ m) (l : List Int) (hs : Strm l) (k : Nat) (k' : Int) (hk : k' = k) (h0 : 0 < k) : ∃ (r : Nat) (l' : List Int), callN T m 9 [.list (l.map .int), .int k'] = some (.ok (.int (r : Nat)) [.list (l'.map .int)]) ∧ r < k ∧ Strm l' := by
  subst hk
  obtain ⟨_, _, e1, r, l1, rfl, rfl, r0, r1, hs1⟩ := take_ok m hm l (k : Int) hs (by omega)
  obtain ⟨q, rfl⟩ : ∃ q : Nat, r = q := ⟨r.toNat, by omega⟩
  exact ⟨q, l1, e1, by omega, hs1⟩

theorem lots_ok (m : Nat) (hm : 3 ≤ m) (size many : Nat) (h0 : 0 < size) (h2 : many ≤ 50) (hsz : size ≤ 1000) (l : List Int) (hs : Strm l) :
    CallOk T m 12 [IL l, .int (size : Nat), .int (many : Nat)] fun d outs => ∃ (ls : List Lot) (l' : List Int), d = .list (ls.map eL) ∧ outs = [IL l'] ∧ Strm l' ∧ ls.length ≤ many ∧ ∀ l ∈ ls, LotOk size l := by
  obtain ⟨n, rfl⟩ : ∃ n, m = n + 3 := ⟨m - 3, by omega⟩
  refine call_ok T__law_lots rfl ?_
  unfold f__law_lots
  walk_at "sx"
  refine wp_gen (fun l => [some (IL l), some (PyData.int ↑size), some (PyData.int ↑many), none, none, none, none, none, none, none]) Strm (fun c => c < 2) (List.range size) (fun i => .int (i : Nat)) (fun i : Nat => .int (i : Nat)) l hs (by simp; omega) ?_ ?_ ?_
  · walk_at "sx"
    exact ⟨bnd_nat (by omega), rngD_0 size⟩
  · intro x hx s hS
    walk_at "sx"
    obtain ⟨r, l2, e1, r1, hs2⟩ := tk (n + 2) (by omega) s hS 2 2 rfl (by omega)
    rw [e1]
    walk_at "sx"
    exact ⟨r, r1, l2, hs2, rfl, rfl⟩
  · intro wd l1 hwd hwl hs1
    rw [List.length_range] at hwl
    walk_at "sx"
    obtain ⟨sh, l2, e1, r1, hs2⟩ := tk (n + 2) (by omega) l1 hs1 5 5 rfl (by omega)
    rw [e1]
    walk_at "sx"
    obtain ⟨q, l3, e1, r1, hs3⟩ := tk (n + 2) (by omega) l2 hs2 (many + 1) (many + 1) (by push_cast; rfl) (by omega)
    rw [e1]
    walk_at "sx"
    refine ⟨rfl, bnd_nat (by omega), ?_⟩
    refine rng_inv (fun i ρ => ∃ (l : List Int) (lsr : List Lot) (j1 j2 j3 j4 : Option D), Strm l ∧ lsr.length ≤ i ∧ (∀ l ∈ lsr, LotOk size l) ∧ ρ = [some (IL l), some (.int (size : Nat)), some (.int (many : Nat)), some (.list (wd.map fun i => .int (i : Nat))), some (.int (sh : Nat)), some (.list (lsr.map eL)), j1, j2, j3, j4]) 0 q _ rfl (by omega) ?_ ?_ _ ⟨l3, [], none, none, none, none, hs3, by simp, by simp, rfl⟩
    · rintro ρ ⟨l4, lsr, j1, j2, j3, j4, hs4, g1, g2, rfl⟩
      walk_at "sx"
      exact ⟨lsr, rfl, l4, rfl, hs4, by omega, g2⟩
    · rintro i ρ - hi ⟨l4, lsr, j1, j2, j3, j4, hs4, g1, g2, rfl⟩
      refine ⟨_, by rw [bnd_nm, if_pos (by simp)], ?_⟩
      rw [on_ss]
      have app : ∀ lo, LotOk size lo → ∀ l ∈ lsr ++ [lo], LotOk size l := fun lo h l hl => by
        rcases List.mem_append.mp hl with hl | hl
        · exact g2 l hl
        · have : l = lo := by simpa using hl
          rw [this]; exact h
      refine rn_seq (fun ρ => ∃ (l5 : List Int) (lt : Lot), Strm l5 ∧ LotOk size lt ∧ ρ = [some (IL l5), some (.int (size : Nat)), some (.int (many : Nat)), some (.list (wd.map fun i => .int (i : Nat))), some (.int (sh : Nat)), some (.list (lsr.map eL)), some (.int (i : Nat)), some (eL lt), j3, j4]) ?_ ?_
      · walk_at "sx"
        obtain ⟨_, _, e1, lt, l5, rfl, rfl, hs5, hlt⟩ := lot_ok (n + 2) (by omega) size 4 h0 (by omega) (by omega) (.inl (by omega)) hsz l4 hs4
        rw [show ((4 : Nat) : Int) = 4 from rfl] at e1
        simp only [IL] at e1
        rw [e1]
        walk_at "sx"
        exact ⟨l5, hs5, lt, hlt, rfl⟩
      rintro ρ ⟨l5, lt, hs5, hlt, rfl⟩
      refine rn_seq (fun ρ => ∃ (l5 : List Int) (lt : Lot) (j3 j4 : Option D), Strm l5 ∧ LotOk size lt ∧ ρ = [some (IL l5), some (.int (size : Nat)), some (.int (many : Nat)), some (.list (wd.map fun i => .int (i : Nat))), some (.int (sh : Nat)), some (.list (lsr.map eL)), some (.int (i : Nat)), some (eL lt), j3, j4]) ?_ ?_
      · generalize hK : ({ N := fun ρ => ∃ (l5 : List Int) (lt : Lot) (j3 j4 : Option D), Strm l5 ∧ LotOk size lt ∧ ρ = [some (IL l5), some (.int (size : Nat)), some (.int (many : Nat)), some (.list (wd.map fun i => .int (i : Nat))), some (.int (sh : Nat)), some (.list (lsr.map eL)), some (.int (i : Nat)), some (eL lt), j3, j4], R := _, B := _, C := _, E := _ } : Kn) = K
        have kN : ∀ (l5 : List Int) (lt : Lot) (j3 j4 : Option D), Strm l5 → LotOk size lt → K.N [some (IL l5), some (.int (size : Nat)), some (.int (many : Nat)), some (.list (wd.map fun i => .int (i : Nat))), some (.int (sh : Nat)), some (.list (lsr.map eL)), some (.int (i : Nat)), some (eL lt), j3, j4] := fun l5 lt j3 j4 a b => by
          subst hK
          exact ⟨l5, lt, j3, j4, a, b, rfl⟩
        clear hK
        simp only [eL, eW] at kN
        walk_at "sx"
        refine ⟨rfl, ?_⟩
        by_cases c0 : (sh : Int) = 0
        · rw [if_pos c0]
          by_cases c1 : 1 < (size : Int)
          · rw [if_pos c1]
            refine ⟨by omega, by omega, rfl, rfl, ?_⟩
            refine kN l5 ⟨[i % size, (i + 1) % size], [48, 49]⟩ j3 j4 hs5 ⟨by simp, by simp, fun v hv => ?_, rfl, fun c hc => by simpa using hc, mod_nodup (by omega)⟩
            rcases (by simpa using hv : v = i % size ∨ v = (i + 1) % size) with rfl | rfl
            · exact Nat.mod_lt _ h0
            · exact Nat.mod_lt _ h0
          · rw [if_neg c1]
            refine ⟨rfl, ?_⟩
            rw [if_neg (by omega)]
            refine ⟨rfl, ?_⟩
            rw [if_neg (by omega)]
            exact kN l5 lt j3 j4 hs5 hlt
        rw [if_neg c0]
        refine ⟨rfl, ?_⟩
        have hlz := hlt.sz
        by_cases c1 : (sh : Int) = 1
        · rw [if_pos c1]
          refine wp_map lt.ws (fun i => .int (i : Nat)) (fun i => gB (48 + wd.getD i 0)) (by omega) ?_ ?_ ?_
          · walk_at "sx"
            try trivial
          · intro x hx
            walk_at "sx"
            have hx2 := hlt.lt x hx
            rw [atI_nat (show x < wd.length by omega) 0]
            walk_at "sx"
            have hb2 := hwd _ (getD_mem (show x < wd.length by omega) 0)
            rcases (by omega : wd.getD x 0 = 0 ∨ wd.getD x 0 = 1) with e | e
            · rw [e]
              first | rfl | decide +kernel
            · rw [e]
              first | rfl | decide +kernel
          · rw [join_one (fun i => 48 + wd.getD i 0) _ (by omega)]
            walk_at "sx"
            refine ⟨rfl, ?_⟩
            refine kN l5 ⟨lt.ws, lt.ws.map fun i => 48 + wd.getD i 0⟩ _ _ hs5 ⟨hlt.ne, hlz, hlt.lt, by simp, fun c hc => by
              obtain ⟨x, hx, rfl⟩ := List.mem_map.mp hc
              have hx2 := hlt.lt x hx
              have hb2 := hwd _ (getD_mem (show x < wd.length by omega) 0)
              show _ = 48 ∨ _ = 49
              omega, hlt.nd⟩
        rw [if_neg c1]
        refine ⟨rfl, ?_⟩
        by_cases c2 : (sh : Int) = 2
        · rw [if_pos c2]
          by_cases c3 : 0 < (lsr.length : Int)
          · rw [if_pos c3]
            obtain ⟨r, l6, e1, r1, hs6⟩ := tk (n + 2) (by omega) l5 hs5 2 2 rfl (by omega)
            rw [e1]
            walk_at "sx"
            refine ⟨rfl, ?_⟩
            by_cases c4 : (r : Int) = 0
            · rw [if_pos c4]
              obtain ⟨o, l7, e1, o1, hs7⟩ := tk (n + 2) (by omega) l6 hs6 lsr.length lsr.length rfl (by omega)
              rw [e1]
              walk_at "sx"
              refine ⟨lsr.getD o ⟨[], []⟩, atI_nat o1 _, ?_⟩
              have hld := g2 _ (getD_mem o1 ⟨[], []⟩)
              generalize lsr.getD o ⟨[], []⟩ = ld at hld
              have hldz := hld.sz
              refine wp_gen (fun l => [some (PyData.list (List.map PyData.int l)), some (PyData.int ↑size), some (PyData.int ↑many), some (PyData.list (List.map (fun i : Nat => PyData.int (i : Nat)) wd)), some (PyData.int ↑sh), some (PyData.list (List.map eL lsr)), some (PyData.int ↑i), some (PyData.tuple [PyData.tuple (List.map (fun i : Nat => PyData.int (i : Nat)) lt.ws), PyData.str (Tx lt.pt)]), some (PyData.tuple (List.map (fun i : Nat => PyData.int (i : Nat)) ld.ws)), j4]) Strm (fun c => c = 48 ∨ c = 49) ld.ws (fun i => .int (i : Nat)) gB l7 hs7 (by omega) ?_ ?_ ?_
              · walk_at "sx"
              · intro x hx s hS
                walk_at "sx"
                obtain ⟨r, l2, e1, r1, hs2⟩ := tk (n + 2) (by omega) s hS 2 2 rfl (by omega)
                rw [e1]
                walk_at "sx"
                rcases (by omega : r = 0 ∨ r = 1) with rfl | rfl
                · walk_at "sx"
                  exact ⟨48, rfl, 48, .inl rfl, l2, hs2, rfl, rfl⟩
                · walk_at "sx"
                  exact ⟨49, rfl, 49, .inr rfl, l2, hs2, rfl, rfl⟩
              · intro bs l8 hb hbl hs8
                rw [join_list _ (by omega)]
                walk_at "sx"
                refine ⟨rfl, ?_⟩
                exact kN l8 ⟨ld.ws, bs⟩ _ _ hs8 ⟨hld.ne, hldz, hld.lt, hbl, hb, hld.nd⟩
            · rw [if_neg c4]
              exact kN l6 lt j3 j4 hs6 hlt
          · rw [if_neg c3]
            exact kN l5 lt j3 j4 hs5 hlt
        · rw [if_neg c2]
          exact kN l5 lt j3 j4 hs5 hlt
      rintro ρ ⟨l5, lt, j3, j4, hs5, hlt, rfl⟩
      walk_at "sx"
      exact ⟨by omega, l5, hs5, lsr ++ [lt], by simp; omega, app lt hlt, _, _, _, _, by rw [List.map_append]; rfl⟩

def eP (p : Nat × Nat) : D := .tuple [.int (p.1 : Nat), .str (Tx [p.2])]

def dP : D → Nat × Nat
  | .tuple [.int i, .str x] => (i.toNat, x.cps.toList.headD 0)
  | _ => (0, 0)

theorem dP_eP (p : Nat × Nat) : dP (eP p) = p := by
  obtain ⟨a, b⟩ := p
  simp [dP, eP, Tx]

theorem shw_eP {p : Nat × Nat} (h1 : p.1 < 100000) (h2 : p.2 < 1114112) : shw (eP p) = true := by
  unfold eP
  simp [shw, shws, Tx, h2]
  exact small_log (i := (p.1 : Int)) (by omega) (by omega)

theorem srt_pairs (ps : List (Nat × Nat)) (h : ∀ p ∈ ps, p.1 < 100000 ∧ p.2 < 1114112) : ∃ qs : List (Nat × Nat), btD .sorted [.list (ps.map eP)] = some (.list (qs.map eP)) ∧ qs.Perm ps ∧ qs.Pairwise (fun a b => a.1 ≤ b.1) := by
  have hp : (sortD (ps.map eP)).Perm (ps.map eP) := List.mergeSort_perm _ _
  have htl : PySem.W.TotalLe (PySem.W.dataLe false (id : D → D)) := PySem.W.sortLe_total _ false _
  have hpw := PySem.W.sort_pairwise htl (ps.map eP)
  refine ⟨(sortD (ps.map eP)).map dP, ?_, ?_, ?_⟩
  · rw [b_srt, if_pos]
    · congr 2
      rw [List.map_map]
      have : ∀ x ∈ sortD (ps.map eP), (eP ∘ dP) x = x := fun x hx => by
        obtain ⟨p, _, rfl⟩ := List.mem_map.mp (hp.mem_iff.mp hx)
        show eP (dP (eP p)) = eP p
        rw [dP_eP]
      rw [List.map_congr_left this, List.map_id']
    · unfold sortOk
      rw [Bool.and_eq_true, Bool.and_eq_true]
      refine ⟨⟨?_, ?_⟩, ?_⟩
      · simp only [List.all_eq_true, List.mem_map]
        rintro _ ⟨p, hp, rfl⟩ _ ⟨q, hq, rfl⟩
        simp [eP, PySem.W.alike, PySem.W.alikeAll]

      · rw [Bool.or_eq_true]
        left
        simp only [List.all_eq_true, List.mem_map]
        rintro _ ⟨p, hp, rfl⟩
        rfl
      · refine shaped_of ?_ ?_
        · rw [shw]
          clear hp hpw
          induction ps with
          | nil => rfl
          | cons p ps ih =>
            rw [List.map_cons, shws, shw_eP (h p (by simp)).1 (h p (by simp)).2, ih fun q hq => h q (by simp [hq])]
            rfl
        · rw [PyData.depth]
          have : ∀ ps : List (Nat × Nat), PyData.depthAll (ps.map eP) ≤ 1 := fun ps => by
            induction ps with
            | nil => simp [PyData.depthAll]
            | cons p ps ih => rw [List.map_cons, PyData.depthAll]; simp only [eP, PyData.depth, PyData.depthAll]; omega
          have := this ps
          omega
  · have := hp.map dP
    rw [List.map_map] at this
    have e : ps.map (dP ∘ eP) = ps := by
      have : ∀ x ∈ ps, (dP ∘ eP) x = x := fun x _ => dP_eP x
      rw [List.map_congr_left this, List.map_id']
    rwa [e] at this
  · have h1 : ∀ x ∈ sortD (ps.map eP), ∃ p, x = eP p := fun x hx => by
      obtain ⟨p, _, rfl⟩ := List.mem_map.mp (hp.mem_iff.mp hx)
      exact ⟨p, rfl⟩
    have h2 : (sortD (ps.map eP)).Pairwise (fun a b => PySem.W.dataLe false id a b = true) := hpw
    rw [List.pairwise_map]
    refine List.Pairwise.imp_of_mem ?_ h2
    intro a b ha hb hab
    obtain ⟨p, rfl⟩ := h1 a ha
    obtain ⟨q, rfl⟩ := h1 b hb
    rw [dP_eP, dP_eP]
    have e : PySem.W.dataLe false id (eP p) (eP q) = !PySem.W.dataLt (eP q) (eP p) := rfl
    rw [e] at hab
    unfold eP at hab
    rw [PySem.W.dataLt_pair (by simp [PySem.W.alike]) (by simp [PySem.W.alike]), eqv_int, PySem.W.dataLt_int] at hab
    by_cases z : q.1 = p.1
    · omega
    · rw [if_neg (by simp; omega)] at hab
      simp at hab
      omega
structure StdOk (size : Nat) (l : Lot) : Prop where
  lo : LotOk size l
  fs : l.pt.getD 0 0 = 48
  st : l.ws.Pairwise (· < ·)
theorem std_ok (m : Nat) (hm : 2 ≤ m) (size : Nat) (l : Lot) (hl : LotOk size l) (hsz : size ≤ 1000) :
    ∃ l', callN T m 14 [eL l] = some (.ok (eL l') []) ∧ StdOk size l' := by
  obtain ⟨n, rfl⟩ : ∃ n, m = n + 2 := ⟨m - 2, by omega⟩
  have : CallOk T (n + 2) 14 [eL l] fun d outs => ∃ l', d = eL l' ∧ outs = [] ∧ StdOk size l' := by
    refine call_ok T__law_standard rfl ?_
    unfold f__law_standard
    walk_at "sx"
    have hlz := hl.sz
    have hln := hl.ln
    have hne : 0 < l.ws.length := by
      cases h : l.ws with
      | nil => exact absurd h hl.ne
      | cons => simp
    let ps : List (Nat × Nat) := (List.range l.ws.length).map fun k => (l.ws.getD k 0, l.pt.getD k 0)
    have hps : ∀ p ∈ ps, p.1 < size ∧ (p.2 = 48 ∨ p.2 = 49) := fun p hp => by
      obtain ⟨k, hk, rfl⟩ := List.mem_map.mp hp
      have hk := List.mem_range.mp hk
      exact ⟨hl.lt _ (getD_mem hk 0), hl.bn _ (getD_mem (show k < l.pt.length by omega) 0)⟩
    obtain ⟨qs, e0, hp, hpw⟩ := srt_pairs ps fun p hp => ⟨by have := (hps p hp).1; omega, by have := (hps p hp).2; omega⟩
    have hqs : ∀ p ∈ qs, p.1 < size ∧ (p.2 = 48 ∨ p.2 = 49) := fun p h => hps p (hp.mem_iff.mp h)
    have hql : qs.length = l.ws.length := by rw [hp.length_eq]; simp [ps]
    refine wp_map (List.range l.ws.length) (fun i => .int (i : Nat)) (fun k => eP (l.ws.getD k 0, l.pt.getD k 0)) (by simp; omega) ?_ ?_ ?_
    · walk_at "sx"
      exact ⟨bnd_nat (by omega), rngD_0 _⟩
    · intro k hk
      have hk := List.mem_range.mp hk
      walk_at "sx"
      rw [atI_nat hk 0, atI_nat (show k < l.pt.length by omega) 0]
      walk_at "sx"
      exact ⟨rfl, rfl⟩
    rw [show ((List.range l.ws.length).map fun k => eP (l.ws.getD k 0, l.pt.getD k 0)) = ps.map eP from by simp [ps, List.map_map, Function.comp_def], e0]
    walk_at "sx"
    refine wp_map qs eP (fun p => gB p.2) (by omega) ?_ ?_ ?_
    · walk_at "sx"
    · intro p hp
      simp only [eP]
      walk_at "sx"
    rw [join_one (fun p : Nat × Nat => p.2) _ (by omega)]
    walk_at "sx"
    obtain ⟨q0, qr, eq⟩ : ∃ q0 qr, qs = q0 :: qr := by
      cases h : qs with
      | nil => rw [h] at hql; simp at hql; omega
      | cons a b => exact ⟨a, b, rfl⟩
    have hb : bin (qs.map fun p => p.2) := fun c hc => by
      obtain ⟨p, hp, rfl⟩ := List.mem_map.mp hc
      exact (hqs p hp).2
    have hq0 := (hqs q0 (by rw [eq]; simp)).2
    have hnd : (qs.map fun p => p.1).Nodup := by
      have h1 : (ps.map fun p => p.1) = l.ws := by
        simp only [ps, List.map_map, Function.comp_def]
        exact range_getD l.ws 0
      have h2 : (qs.map fun p => p.1).Perm (ps.map fun p => p.1) := hp.map _
      rw [h1] at h2
      exact h2.nodup_iff.mpr hl.nd
    have hst : (qs.map fun p => p.1).Pairwise (· < ·) := by
      have h1 : (qs.map fun p => p.1).Pairwise (· ≤ ·) := List.pairwise_map.mpr hpw
      exact (h1.and hnd).imp fun ⟨a, b⟩ => by omega
    have mk : ∀ pt, pt.length = qs.length → bin pt → pt.getD 0 0 = 48 → StdOk size ⟨qs.map fun p => p.1, pt⟩ := fun pt h1 h2 h3 => ⟨⟨by rw [eq]; simp, by simp; omega, fun v hv => by
      obtain ⟨p, hp, rfl⟩ := List.mem_map.mp hv
      exact (hqs p hp).1, by simpa using h1, h2, hnd⟩, h3, hst⟩
    have g0 := lopp_ok (n + 1) (by omega) (qs.map fun p => p.2) hb (by simp; omega)
    refine ⟨q0, by rw [eq]; exact atI_z _ _, ?_⟩
    refine ⟨by rw [shp_str (by simp; omega), shp_str (by simp)]; rfl, ?_⟩
    rcases hq0 with h48 | h49
    · rw [if_neg (by rw [h48]; simp)]
      refine wp_map qs eP (fun p => .int (p.1 : Nat)) (by omega) ?_ ?_ ?_
      · walk_at "sx"
      · intro p hp
        simp only [eP]
        walk_at "sx"
      · walk_at "sx"
        refine ⟨rfl, ⟨qs.map fun p => p.1, qs.map fun p => p.2⟩, by simp [List.map_map, Function.comp_def], mk _ ?_ ?_ ?_⟩
        · simp
        · exact hb
        · rw [eq]; simp [h48]
    · rw [if_pos (by rw [h49]), g0]
      walk_at "sx"
      refine wp_map qs eP (fun p => .int (p.1 : Nat)) (by omega) ?_ ?_ ?_
      · walk_at "sx"
      · intro p hp
        simp only [eP]
        walk_at "sx"
      · walk_at "sx"
        refine ⟨rfl, ⟨qs.map fun p => p.1, opp (qs.map fun p => p.2)⟩, by simp [List.map_map, Function.comp_def], mk _ ?_ ?_ ?_⟩
        · rw [opp_len]; simp
        · exact opp_bin hb
        · rw [eq]; simp [opp, flipC, h49]
  obtain ⟨d, o, h, t, rfl, rfl, h1⟩ := this
  exact ⟨t, h, h1⟩


def dL : D → Lot
  | .tuple [.tuple is, .str x] => ⟨is.map fun d => match d with | .int i => i.toNat | _ => 0, x.cps.toList⟩
  | _ => ⟨[], []⟩

theorem dL_eL (l : Lot) : dL (eL l) = l := by
  obtain ⟨a, b⟩ := l
  simp [dL, eL, eW, Tx, List.map_map, Function.comp_def]

theorem alike_ints : ∀ a b : List Nat, PySem.W.alikeAll (a.map fun i => PyData.int (i : Nat)) (b.map fun i => PyData.int (i : Nat)) = true
  | [], b => by cases b <;> simp [PySem.W.alikeAll]
  | _ :: _, [] => by simp [PySem.W.alikeAll]
  | x :: a, y :: b => by
    rw [List.map_cons, List.map_cons, PySem.W.alikeAll, alike_ints a b]
    simp [PySem.W.alike]

theorem shw_eL {size : Nat} {l : Lot} (h : LotOk size l) (hs : size ≤ 1000) : shw (eL l) = true := by
  have h1 := (shw_ints l.ws fun i hi => by have := h.lt i hi; omega).1
  have h2 : shw (.str (Tx l.pt)) = true := by
    rw [shw, Array.all_eq_true']
    intro c hc
    exact decide_eq_true (bin_ok h.bn c (by simpa [Tx] using hc))
  unfold eL eW
  rw [shw, shws, shws, shws, h2, shw, h1]
  rfl

theorem dep_eL {size : Nat} {l : Lot} (h : LotOk size l) (hs : size ≤ 1000) : (eL l).depth ≤ 4 := by
  have h1 := (shw_ints l.ws fun i hi => by have := h.lt i hi; omega).2.1
  unfold eL eW
  simp only [PyData.depth, PyData.depthAll, h1]
  omega

theorem shws_lots {size : Nat} (hs : size ≤ 1000) : ∀ ls : List Lot, (∀ l ∈ ls, LotOk size l) → shws (ls.map eL) = true ∧ PyData.depthAll (ls.map eL) ≤ 4
  | [], _ => ⟨rfl, by simp [PyData.depthAll]⟩
  | l :: ls, h => by
    obtain ⟨h1, h2⟩ := shws_lots hs ls fun q hq => h q (by simp [hq])
    have h3 := dep_eL (h l (by simp)) hs
    refine ⟨?_, ?_⟩
    · rw [List.map_cons, shws, shw_eL (h l (by simp)) hs, h1]
      rfl
    · rw [List.map_cons, PyData.depthAll]
      omega

theorem shp_lots {size : Nat} (hs : size ≤ 1000) (ls : List Lot) (h : ∀ l ∈ ls, LotOk size l) : SeqAt.shaped (.list (ls.map eL)) = true := by
  obtain ⟨h1, h2⟩ := shws_lots hs ls h
  exact shaped_of (by rw [shw]; exact h1) (by rw [PyData.depth]; omega)

theorem any_eqvL {size : Nat} {l : Lot} {fd : List Lot} (hl : LotOk size l) (hs : size ≤ 1000) (h : l ∈ fd) : ((fd.map eL).any fun z => PyData.eqv z (eL l)) = true := by
  rw [List.any_eq_true]
  refine ⟨eL l, List.mem_map.mpr ⟨l, h, rfl⟩, eqv_self _ ?_⟩
  have h1 := hl.sz
  have h2 := hl.ln
  have h3 : ∀ ws : List Nat, szDs (ws.map fun i => PyData.int (i : Nat)) = true := fun ws => by
    induction ws with
    | nil => simp [szDs]
    | cons a ws ih => rw [List.map_cons, szDs, ih]; simp [szD]
  unfold eL eW
  simp [szD, szDs, h3, okLen, Tx_len]
  omega
theorem srt_lots {size : Nat} (hs : size ≤ 1000) (ps : List Lot) (h : ∀ p ∈ ps, LotOk size p) : ∃ qs : List Lot, btD .sorted [.list (ps.map eL)] = some (.list (qs.map eL)) ∧ qs.Perm ps := by
  have hp : (sortD (ps.map eL)).Perm (ps.map eL) := List.mergeSort_perm _ _
  refine ⟨(sortD (ps.map eL)).map dL, ?_, ?_⟩
  · rw [b_srt, if_pos]
    · congr 2
      rw [List.map_map]
      have : ∀ x ∈ sortD (ps.map eL), (eL ∘ dL) x = x := fun x hx => by
        obtain ⟨p, _, rfl⟩ := List.mem_map.mp (hp.mem_iff.mp hx)
        show eL (dL (eL p)) = eL p
        rw [dL_eL]
      rw [List.map_congr_left this, List.map_id']
    · unfold sortOk
      rw [Bool.and_eq_true, Bool.and_eq_true]
      refine ⟨⟨?_, ?_⟩, shp_lots hs ps h⟩
      · simp only [List.all_eq_true, List.mem_map]
        rintro _ ⟨p, hp, rfl⟩ _ ⟨q, hq, rfl⟩
        simp [eL, eW, PySem.W.alike, PySem.W.alikeAll, alike_ints]
      · rw [Bool.or_eq_true]
        left
        simp only [List.all_eq_true, List.mem_map]
        rintro _ ⟨p, hp, rfl⟩
        rfl
  · have := hp.map dL
    rw [List.map_map] at this
    have e : ps.map (dL ∘ eL) = ps := by
      have : ∀ x ∈ ps, (dL ∘ eL) x = x := fun x _ => dL_eL x
      rw [List.map_congr_left this, List.map_id']
    rwa [e] at this

theorem bus_ok (m : Nat) (hm : 3 ≤ m) (size : Nat) (ls : List Lot) (hl : ∀ l ∈ ls, LotOk size l) (hsz : size ≤ 1000) (hz : ls.length ≤ 100) :
    ∃ ls' : List Lot, callN T m 15 [.int (size : Nat), .list (ls.map eL)] = some (.ok (eB size ls') []) ∧ ls'.length ≤ 100 ∧ ls'.Nodup ∧ ∀ l ∈ ls', StdOk size l := by
  obtain ⟨n, rfl⟩ : ∃ n, m = n + 3 := ⟨m - 3, by omega⟩
  have : CallOk T (n + 3) 15 [.int (size : Nat), .list (ls.map eL)] fun d outs => ∃ ls' : List Lot, d = eB size ls' ∧ outs = [] ∧ ls'.length ≤ 100 ∧ ls'.Nodup ∧ ∀ l ∈ ls', StdOk size l := by
    refine call_ok T__law_bus rfl ?_
    unfold f__law_bus
    walk_at "sx"
    refine ⟨rfl, ?_⟩
    refine wp_gen (fun _ : Unit => [some (PyData.int ↑size), some (PyData.list (List.map eL ls)), some (PyData.list []), none]) (fun _ => True) (StdOk size) ls eL eL () trivial (by omega) ?_ ?_ ?_
    · walk_at "sx"
    · rintro l hl2 - -
      walk_at "sx"
      obtain ⟨l', e1, h1⟩ := std_ok (n + 2) (by omega) size l (hl l hl2) hsz
      simp only [eL, eW] at e1
      rw [e1]
      walk_at "sx"
      exact ⟨l', h1, rfl, (), trivial⟩
    intro bs _ hb hbl _
    obtain ⟨qs, e1, hp⟩ := srt_lots hsz bs fun p hp => (hb p hp).lo
    rw [e1]
    walk_at "sx"
    have hqs : ∀ p ∈ qs, StdOk size p := fun p h => hb p (hp.mem_iff.mp h)
    have hql : qs.length = ls.length := by rw [hp.length_eq, hbl]
    refine lst_inv eL (fun rest ρ => ∃ (fd : List Lot) (j3 : Option D), (∀ p ∈ rest, StdOk size p) ∧ (∀ p ∈ fd, StdOk size p) ∧ (fd.length + rest.length ≤ 100 ∧ fd.Nodup) ∧ ρ = [some (PyData.int ↑size), some (PyData.list (List.map eL ls)), some (PyData.list (fd.map eL)), j3]) ?_ ?_ _ _ ⟨[], none, hqs, by simp, ⟨by simp; omega, by simp⟩, rfl⟩
    · rintro ρ ⟨fd, j3, g1, g2, ⟨g3, gnd⟩, rfl⟩
      walk_at "sx"
      exact ⟨rfl, fd, rfl, by simpa using g3, gnd, g2⟩
    · rintro l rest ρ ⟨fd, j3, g1, g2, ⟨g3, gnd⟩, rfl⟩
      have hl1 := g1 l (by simp)
      have hre : ∀ p ∈ rest, StdOk size p := fun p h => g1 p (by simp [h])
      simp only [List.length_cons] at g3
      have s1 := shaped_of (shw_eL hl1.lo hsz) (by have := dep_eL hl1.lo hsz; omega)
      have s2 := shp_lots hsz fd fun p h => (g2 p h).lo
      simp only [eL, eW] at s1
      walk_at "sx"
      refine ⟨by rw [s1, s2]; rfl, ?_⟩
      split
      · rename_i hyes
        have hno : l ∉ fd := fun z => by
          have := any_eqvL hl1.lo hsz z
          simp only [eL, eW] at this
          rw [this] at hyes
          cases hyes
        refine ⟨by omega, hre, fd ++ [l], fun p hp => ?_, ⟨by simp; omega, nodup_snoc gnd hno⟩, _, by rw [List.map_append]; rfl⟩
        rcases List.mem_append.mp hp with hp | hp
        · exact g2 p hp
        · have : p = l := by simpa using hp
          rw [this]; exact hl1
      · exact ⟨hre, fd, g2, ⟨by omega, gnd⟩, _, rfl⟩
  obtain ⟨d, o, h, t, rfl, rfl, h1⟩ := this
  exact ⟨t, h, h1⟩

end G
end
section
set_option linter.all false
set_option autoImplicit false
set_option maxRecDepth 100000
set_option maxHeartbeats 4000000
namespace G
open PySem VF L2
local macro_rules | `(tactic| walk_at "sx") => `(tactic| (try simp only [T_is_number, mu_is_number, T_is_word, mu_is_word, T_opposite, mu_opposite, T_part, mu_part, T_are_cuts, mu_are_cuts, T_is_lane_book, mu_is_lane_book, T_occurs_joined, mu_occurs_joined, T_shows_product, mu_shows_product, T__law_stream, mu__law_stream, T__law_take, mu__law_take, T__law_same, mu__law_same, T__law_lot, mu__law_lot, T__law_lots, mu__law_lots, T__law_opposite, mu__law_opposite, T__law_standard, mu__law_standard, T__law_bus, mu__law_bus, T__law_lanes, mu__law_lanes, T__law_occurs, mu__law_occurs, T__law_clash, mu__law_clash, T__law_is_lane, mu__law_is_lane, T__law_right, mu__law_right, T__law_lane_word, mu__law_lane_word, T__law_with, mu__law_with, T__law_books, mu__law_books, T__law_drawn, mu__law_drawn, T__law_cut_spoilt, mu__law_cut_spoilt, T__law_words_spoilt, mu__law_words_spoilt, T__law_books_spoilt, mu__law_books_spoilt, T_law, mu_law, bnd_tp, bnds_n, bnds_c, Option.bind_some, eqv_nil, List.drop_nil, List.drop_succ_cons, List.drop_zero, tx1, eW, eL, atI_z, atI_o, int0, int1, shp_int, shp_none, shp_bool, eqv_int, eqv_str, wipeR_c, wipeR_n, backR_c, backR_n, lit_e, lit_0, lit_1, lit_10, lit_01, lit_m, Tx_list, Tx_len, pow18, exists_and_left, decide_eq_true_eq, List.length_map, atI_map, u_popI, s_retN, s_pas, s_brk, s_cnt, s_whl, ex_ite, ex_map, ex_bind, ex_some, ex_bool, ite_no, o_addI, o_subI, o_mulI, o_fdivI, o_modI, o_powI, o_addS, o_addT, o_catL, c_ltI, c_leI, c_gtI, c_geI, c_eq, c_ne, c_ltS, c_ltT, c_inS, c_inL, c_ninL, c_inT, c_ninT, b_lenL, b_lenT, b_lenS, b_intI, b_intB, b_intS, b_strI, b_tupL, b_tupT, b_lstL, b_lstT, b_lstS, b_srt, b_sum, b_max2, b_min2, b_abs, b_any, b_all, x_l, x_t, x_s, n_non, n_int, n_str, n_tup, n_lst, n_bool, k_join, u_app, u_rev, i_l, i_t, i_s, g_1, g_2, startR, bnd_nm, outsTo, mutOuts, List.map_cons, List.map_nil, List.cons_append, List.nil_append, List.length_cons, List.length_nil, List.getElem?_cons_zero, List.getElem?_cons_succ, Option.some.injEq, exists_eq_left', exists_eq_left, exists_eq, exists_eq', List.set_cons_zero, List.set_cons_succ, and_true, true_and, Option.map_some, PyData.bool.injEq, PyData.int.injEq, PyData.list.injEq, PyData.str.injEq, PyData.tuple.injEq, ite_true, ite_false, if_true, if_false, Bool.false_eq_true, Nat.sub_self, List.replicate_zero, List.append_nil, List.replicate_succ, Nat.zero_add, Nat.reduceAdd, Nat.reduceSub, Nat.reduceLT, ctxN, Option.getD_some, on_ss, q_bnd, q_ret, q_none, q_lift, q_itep, q_s, q_d, q_pv, q_asB, q_call, q_neg, q_so, q_no, q_mu, q_cons, q_nil, t_asg, t_ex, t_ret, t_ife, t_set, t_fr, qo_con, qo_glo, qo_tup, qo_lst, qo_op, qo_neg, qo_cmp, qo_isN, qo_and, qo_or, qo_not, qo_ite, qo_fn, qo_bi, qo_me, qo_mu, qo_ix, qo_sl, qo_comp, qo_eqR, qe_var, qe_con, qe_glo, qe_tup, qe_lst, qe_op, qe_cmp, qe_isN, qe_and, qe_or, qe_not, qe_ite, qe_fn, qe_bi, qe_me, qe_ix, qe_sl, qe_eqR, qm_es_n, qm_es_c, qm_ps_n, qm_ps_c, qm_as_n, qm_as_t, qm_as_f, qm_as_e, qm_i_seq, qm_i_rng1, qm_i_rng2, qm_i_enum, qm_i_zip2, qm_i_rev1, qm_i_rev2, qr_n, qr_c, qo_isi, qo_chn, qo_rev, qe_isi, qe_chn, qe_rev, qm_i_zip3, kd_ii, kd_ib, kd_is, kd_in, kd_il, kd_it, kd_bi, kd_bb, kd_bs, kd_bn, kd_bl, kd_bt, kd_si, kd_sb, kd_ss, kd_sn, kd_sl, kd_st, kd_ti, kd_tb, kd_ts, kd_tn, kd_tl, kd_tt, rv_t, sl_l, sl_s, c_inS1, c_ninS1, c_geS, it_sq, ix_sq, len_sq, lst_sq, tup_sq, ltS_Tx, it_Tx, sl_t, cut_to, bnd_nat]))

def isW (n : Int) : D → Bool
  | .str x => decide ((x.length : Int) = n) && x.cps.toList.all fun c => decide (c = 48 ∨ c = 49)
  | _ => false
def isI : D → Bool
  | .int _ => true
  | _ => false
def cutsOk (size : Int) : Int → List D → Bool
  | _, [] => true
  | last, .int w :: r => decide (last < w ∧ w < size) && cutsOk size w r
  | _, _ :: _ => false
def goAsc (n : Int) : Option Str → List D → Bool
  | _, [] => true
  | p, .str x :: r => isW n (.str x) && (match p with | none => true | some q => ltS q x) && goAsc n (some x) r
  | _, _ :: _ => false
def laneOk (n : Int) : D → Bool
  | .tuple ws => !ws.isEmpty && goAsc n none ws
  | _ => false
theorem isnum_ok (m : Nat) (hm : 1 ≤ m) (d : D) (h : shw d = true) : callN T m 0 [d] = some (.ok (.bool (isI d)) []) := by
  obtain ⟨n, rfl⟩ : ∃ n, m = n + 1 := ⟨m - 1, by omega⟩
  refine call_eq (call_ok T_is_number rfl ?_)
  unfold f_is_number
  cases d with
  | dict kvs => simp [shw] at h
  | int i => walk_at "sx"; try simp [isI]
  | bool i => walk_at "sx"; try simp [isI]
  | str i => walk_at "sx"; try simp [isI]
  | none => walk_at "sx"; try simp [isI]
  | list i => walk_at "sx"; try simp [isI]
  | tuple i => walk_at "sx"; try simp [isI]
theorem isword_ok (m : Nat) (hm : 1 ≤ m) (d : D) (k : Int) (h : shw d = true) : callN T m 1 [d, .int k] = some (.ok (.bool (isW k d)) []) := by
  obtain ⟨n, rfl⟩ : ∃ n, m = n + 1 := ⟨m - 1, by omega⟩
  refine call_eq (call_ok T_is_word rfl ?_)
  unfold f_is_word
  cases d with
  | dict kvs => simp [shw] at h
  | int i => walk_at "sx"; try simp [isW]
  | bool i => walk_at "sx"; try simp [isW]
  | none => walk_at "sx"; try simp [isW]
  | list i => walk_at "sx"; try simp [isW]
  | tuple i => walk_at "sx"; try simp [isW]
  | str x =>
    walk_at "sx"
    try rw [if_neg (by simp)]
    by_cases hk : (x.length : Int) = k
    · have e : isW k (.str x) = x.cps.toList.all fun c => decide (c = 48 ∨ c = 49) := by simp [isW, hk]
      rw [e]
      refine ⟨by simp [shp_int], ?_⟩
      rw [if_neg (by simp [eqv_int, hk])]
      refine lst_i (fun c => .str (Tx [c])) (fun rest ρ => ∃ j, (x.cps.toList.all fun c => decide (c = 48 ∨ c = 49)) = (rest.all fun c => decide (c = 48 ∨ c = 49)) ∧ ρ = [some (.str x), some (.int k), j]) x.cps.toList ?_ ?_ ⟨none, rfl, rfl⟩
      · rintro ρ ⟨j, e1, rfl⟩
        walk_at "sx"
        first | exact e1.symm | exact e1 | (rw [e1]; rfl) | (simp only [List.all_nil] at e1; simp [e1])
      · rintro c rest ρ ⟨j, e1, rfl⟩ Q hQ
        walk_at "sx"
        by_cases hc : c = 48 ∨ c = 49
        · rw [if_neg (by simp; omega)]
          exact hQ _ ⟨_, by rw [e1, List.all_cons]; simp [hc], rfl⟩
        · rw [if_pos (by simp; omega)]
          rw [e1, List.all_cons]
          simp [hc]
    · refine ⟨by simp [shp_int], ?_⟩
      rw [if_pos (by simp [eqv_int, hk])]
      simp [isW, hk]
theorem cuts_ok (m : Nat) (hm : 2 ≤ m) (size : Nat) (ls : List Lot) (d : D) (h : shw d = true) : callN T m 4 [eB size ls, d] = some (.ok (.bool (match d with | .tuple cs => cutsOk size 0 cs | _ => false)) []) := by
  obtain ⟨n, rfl⟩ : ∃ n, m = n + 2 := ⟨m - 2, by omega⟩
  refine call_eq (call_ok T_are_cuts rfl ?_)
  unfold f_are_cuts
  cases d with
  | dict kvs => simp [shw] at h
  | int i => walk_at "sx"; try simp
  | bool i => walk_at "sx"; try simp
  | none => walk_at "sx"; try simp
  | list i => walk_at "sx"; try simp
  | str i => walk_at "sx"; try simp
  | tuple cs =>
    rw [shw, shws_mem] at h
    walk_at "sx"
    try rw [if_neg (by simp)]
    refine for_i (fun ds ρ => ∃ (last : Int) (j : Option D), (∀ d ∈ ds, shw d = true) ∧ cutsOk size 0 cs = cutsOk size last ds ∧ ρ = [some (eB size ls), some (.tuple cs), some (.int last), j]) ?_ ?_ ⟨0, none, h, rfl, rfl⟩
    · rintro ρ ⟨last, j, h1, e1, rfl⟩
      walk_at "sx"
      simp [e1, cutsOk]
    · rintro x xs ρ ⟨last, j, h1, e1, rfl⟩ Q hQ
      have k0 := isnum_ok (n + 1) (by omega) x (h1 x (by simp))
      have hxs : ∀ d ∈ xs, shw d = true := fun d hd => h1 d (by simp [hd])
      walk_at "sx"
      rw [k0]
      walk_at "sx"
      cases x with
      | int w =>
        simp only [isI, Bool.not_true, Bool.false_eq_true, if_false]
        walk_at "sx"
        by_cases c1 : w ≤ last
        · try rw [if_pos c1]
          rw [e1]
          simp [cutsOk]
          omega
        · rw [if_neg c1]
          by_cases c2 : (size : Int) ≤ w
          · rw [if_pos c2, e1]
            simp [cutsOk]
            omega
          · rw [if_neg c2]
            refine hQ _ ⟨w, _, hxs, ?_, rfl⟩
            rw [e1]
            have : last < w ∧ w < (size : Int) := by omega
            simp [cutsOk, this]
      | dict kvs => have := h1 (.dict kvs) (by simp); simp [shw] at this
      | bool i => simp [isI, e1, cutsOk]
      | str i => simp [isI, e1, cutsOk]
      | none => simp [isI, e1, cutsOk]
      | list i => simp [isI, e1, cutsOk]
      | tuple i => simp [isI, e1, cutsOk]
theorem goAsc_app (n : Int) : ∀ (a b : List D) (p : Option Str), goAsc n p (a ++ b) = true → ∃ q, goAsc n q b = true
  | [], b, p, h => ⟨p, h⟩
  | x :: a, b, p, h => by
    cases x <;> simp only [List.cons_append, goAsc, Bool.false_eq_true, Bool.and_eq_true] at h
    exact goAsc_app n a b _ h.2
theorem lanebook_ok (m : Nat) (hm : 2 ≤ m) (d : D) (k : Int) (h : shw d = true) : callN T m 5 [d, .int k] = some (.ok (.bool (laneOk k d)) []) := by
  obtain ⟨n, rfl⟩ : ∃ n, m = n + 2 := ⟨m - 2, by omega⟩
  refine call_eq (call_ok T_is_lane_book rfl ?_)
  unfold f_is_lane_book
  cases d with
  | dict kvs => simp [shw] at h
  | int i => walk_at "sx"; try simp [laneOk]
  | bool i => walk_at "sx"; try simp [laneOk]
  | none => walk_at "sx"; try simp [laneOk]
  | list i => walk_at "sx"; try simp [laneOk]
  | str i => walk_at "sx"; try simp [laneOk]
  | tuple ws =>
    rw [shw, shws_mem] at h
    walk_at "sx"
    try rw [if_neg (by simp)]
    refine ⟨by simp [shp_int], ?_⟩
    by_cases he : ws = []
    · subst he
      simp [eqv_int, laneOk]
    rw [if_neg (by simpa using he)]
    have hl : laneOk k (.tuple ws) = goAsc k none ws := by
      cases ws with
      | nil => exact absurd rfl he
      | cons => simp [laneOk]
    rw [hl]
    refine for_i (fun ds ρ => ∃ (pre rest : List D) (p : Option Str) (j1 j2 : Option D), ws = pre ++ rest ∧ ds = enumD pre.length rest ∧ (∀ q, p = some q → ∃ pr, pre = pr ++ [.str q]) ∧ (p = none → pre = []) ∧ goAsc k none ws = goAsc k p rest ∧ ρ = [some (.tuple ws), some (.int k), j1, j2]) ?_ ?_ ⟨[], ws, none, none, none, rfl, rfl, by simp, by simp, rfl, rfl⟩
    · rintro ρ ⟨pre, rest, p, j1, j2, e1, e2, e3, e4, e5, rfl⟩
      have := enumD_0 e2
      subst this
      walk_at "sx"
      simp [e5, goAsc]
    · rintro x xs ρ ⟨pre, rest, p, j1, j2, e1, e2, e3, e4, e5, rfl⟩ Q hQ
      obtain ⟨y, r, rfl, rfl, rfl⟩ := enumD_1 e2
      have hy : shw y = true := h y (by rw [e1]; simp)
      have k0 := isword_ok (n + 1) (by omega) y k hy
      walk_at "sx"
      rw [k0]
      walk_at "sx"
      by_cases hw : isW k y = true
      · rw [if_neg (by simp [hw])]
        cases y with
        | str x =>
          cases p with
          | none =>
            have := e4 rfl
            subst this
            simp only [List.length_nil]
            rw [if_neg (by simp)]
            refine hQ _ ⟨[.str x], r, some x, _, _, e1, rfl, ?_, by simp, ?_, rfl⟩
            · rintro q hq
              cases hq
              exact ⟨[], rfl⟩
            · rw [e5]; simp [goAsc, hw]
          | some q =>
            obtain ⟨pr, rfl⟩ := e3 q rfl
            rw [if_pos (by simp)]
            have ea : atI ws (((pr ++ [PyData.str q]).length : Nat) - 1 : Int) = some (.str q) := by
              rw [show (((pr ++ [PyData.str q]).length : Nat) - 1 : Int) = (pr.length : Int) by simp, atI_nat (by rw [e1]; simp) PyData.none, e1]
              simp
            walk_at "sx"
            refine ⟨_, ea, ?_⟩
            walk_at "sx"
            by_cases hlt : ltS q x = true
            · rw [if_neg (by simp [hlt])]
              refine hQ _ ⟨(pr ++ [.str q]) ++ [.str x], r, some x, _, _, by rw [e1]; simp, by simp, ?_, by simp, ?_, rfl⟩
              · rintro q2 hq
                cases hq
                exact ⟨_, rfl⟩
              · rw [e5]; simp [goAsc, hw, hlt]
            · rw [if_pos (by simp [hlt])]
              rw [e5]; simp [goAsc, hlt]
        | _ => simp [isW] at hw
      · rw [if_pos (by simp [hw])]
        rw [e5]
        cases y <;> simp [goAsc]
        intro z
        exact absurd z hw

end G
end
section
set_option linter.all false
set_option autoImplicit false
set_option maxRecDepth 100000
set_option maxHeartbeats 4000000
namespace G
open PySem VF L2
local macro_rules | `(tactic| walk_at "sx") => `(tactic| (try simp only [T_is_number, mu_is_number, T_is_word, mu_is_word, T_opposite, mu_opposite, T_part, mu_part, T_are_cuts, mu_are_cuts, T_is_lane_book, mu_is_lane_book, T_occurs_joined, mu_occurs_joined, T_shows_product, mu_shows_product, T__law_stream, mu__law_stream, T__law_take, mu__law_take, T__law_same, mu__law_same, T__law_lot, mu__law_lot, T__law_lots, mu__law_lots, T__law_opposite, mu__law_opposite, T__law_standard, mu__law_standard, T__law_bus, mu__law_bus, T__law_lanes, mu__law_lanes, T__law_occurs, mu__law_occurs, T__law_clash, mu__law_clash, T__law_is_lane, mu__law_is_lane, T__law_right, mu__law_right, T__law_lane_word, mu__law_lane_word, T__law_with, mu__law_with, T__law_books, mu__law_books, T__law_drawn, mu__law_drawn, T__law_cut_spoilt, mu__law_cut_spoilt, T__law_words_spoilt, mu__law_words_spoilt, T__law_books_spoilt, mu__law_books_spoilt, T_law, mu_law, bnd_tp, bnds_n, bnds_c, Option.bind_some, eqv_nil, List.drop_nil, List.drop_succ_cons, List.drop_zero, tx1, eW, eL, atI_z, atI_o, int0, int1, shp_int, shp_none, shp_bool, eqv_int, eqv_str, wipeR_c, wipeR_n, backR_c, backR_n, lit_e, lit_0, lit_1, lit_10, lit_01, lit_m, Tx_list, Tx_len, pow18, exists_and_left, decide_eq_true_eq, List.length_map, atI_map, u_popI, s_retN, s_pas, s_brk, s_cnt, s_whl, ex_ite, ex_map, ex_bind, ex_some, ex_bool, ite_no, o_addI, o_subI, o_mulI, o_fdivI, o_modI, o_powI, o_addS, o_addT, o_catL, c_ltI, c_leI, c_gtI, c_geI, c_eq, c_ne, c_ltS, c_ltT, c_inS, c_inL, c_ninL, c_inT, c_ninT, b_lenL, b_lenT, b_lenS, b_intI, b_intB, b_intS, b_strI, b_tupL, b_tupT, b_lstL, b_lstT, b_lstS, b_srt, b_sum, b_max2, b_min2, b_abs, b_any, b_all, x_l, x_t, x_s, n_non, n_int, n_str, n_tup, n_lst, n_bool, k_join, u_app, u_rev, i_l, i_t, i_s, g_1, g_2, startR, bnd_nm, outsTo, mutOuts, List.map_cons, List.map_nil, List.cons_append, List.nil_append, List.length_cons, List.length_nil, List.getElem?_cons_zero, List.getElem?_cons_succ, Option.some.injEq, exists_eq_left', exists_eq_left, exists_eq, exists_eq', List.set_cons_zero, List.set_cons_succ, and_true, true_and, Option.map_some, PyData.bool.injEq, PyData.int.injEq, PyData.list.injEq, PyData.str.injEq, PyData.tuple.injEq, ite_true, ite_false, if_true, if_false, Bool.false_eq_true, Nat.sub_self, List.replicate_zero, List.append_nil, List.replicate_succ, Nat.zero_add, Nat.reduceAdd, Nat.reduceSub, Nat.reduceLT, ctxN, Option.getD_some, on_ss, q_bnd, q_ret, q_none, q_lift, q_itep, q_s, q_d, q_pv, q_asB, q_call, q_neg, q_so, q_no, q_mu, q_cons, q_nil, t_asg, t_ex, t_ret, t_ife, t_set, t_fr, qo_con, qo_glo, qo_tup, qo_lst, qo_op, qo_neg, qo_cmp, qo_isN, qo_and, qo_or, qo_not, qo_ite, qo_fn, qo_bi, qo_me, qo_mu, qo_ix, qo_sl, qo_comp, qo_eqR, qe_var, qe_con, qe_glo, qe_tup, qe_lst, qe_op, qe_cmp, qe_isN, qe_and, qe_or, qe_not, qe_ite, qe_fn, qe_bi, qe_me, qe_ix, qe_sl, qe_eqR, qm_es_n, qm_es_c, qm_ps_n, qm_ps_c, qm_as_n, qm_as_t, qm_as_f, qm_as_e, qm_i_seq, qm_i_rng1, qm_i_rng2, qm_i_enum, qm_i_zip2, qm_i_rev1, qm_i_rev2, qr_n, qr_c, qo_isi, qo_chn, qo_rev, qe_isi, qe_chn, qe_rev, qm_i_zip3, kd_ii, kd_ib, kd_is, kd_in, kd_il, kd_it, kd_bi, kd_bb, kd_bs, kd_bn, kd_bl, kd_bt, kd_si, kd_sb, kd_ss, kd_sn, kd_sl, kd_st, kd_ti, kd_tb, kd_ts, kd_tn, kd_tl, kd_tt, rv_t, sl_l, sl_s, c_inS1, c_ninS1, c_geS, it_sq, ix_sq, len_sq, lst_sq, tup_sq, ltS_Tx, it_Tx, sl_t, cut_to, bnd_nat]))

abbrev eN (p : Nat × Nat) : D := .tuple [.int (p.1 : Nat), .int (p.2 : Nat)]
abbrev iL (l : List Nat) : List D := l.map fun i => .int (i : Nat)
def insd (ws : List Nat) (s e : Nat) : List Nat := (List.range ws.length).filter fun j => decide (s ≤ ws.getD j 0) && decide (ws.getD j 0 < e)
def plc (ws js : List Nat) (s : Nat) : List Nat := js.map fun j => ws.getD j 0 - s
def occ (ws pt : List Nat) : List (Nat × Nat) → List (List (List Nat)) → Bool
  | ln :: lns, b :: bs => decide (part pt (insd ws ln.1 ln.2) ∈ b.map fun w => part w (plc ws (insd ws ln.1 ln.2) ln.1)) && occ ws pt lns bs
  | _, _ => true
structure LB (ln : Nat × Nat) (b : List (List Nat)) : Prop where
  lt : ln.1 < ln.2
  ne : b ≠ []
  wd : ∀ w ∈ b, WordOk (ln.2 - ln.1) w
def LBs : List (Nat × Nat) → List (List (List Nat)) → Prop
  | [], [] => True
  | ln :: lns, b :: bs => LB ln b ∧ LBs lns bs
  | _, _ => False
theorem LBs_len : ∀ {l : List (Nat × Nat)} {b : List (List (List Nat))}, LBs l b → l.length = b.length
  | [], [], _ => rfl
  | _ :: l, _ :: b, h => by simp [LBs_len h.2]
  | [], _ :: _, h => h.elim
  | _ :: _, [], h => h.elim
theorem LBs_get : ∀ {l : List (Nat × Nat)} {b : List (List (List Nat))}, LBs l b → ∀ k, k < l.length → LB (l.getD k (0, 0)) (b.getD k [])
  | [], [], _, k, h => by simp at h
  | x :: l, y :: b, h, 0, _ => by simpa using h.1
  | x :: l, y :: b, h, k + 1, hk => by simpa using LBs_get h.2 k (by simpa using hk)
  | [], _ :: _, h, _, _ => h.elim
  | _ :: _, [], h, _, _ => h.elim
theorem insd_lt {ws : List Nat} {s e j : Nat} (h : j ∈ insd ws s e) : j < ws.length ∧ s ≤ ws.getD j 0 ∧ ws.getD j 0 < e := by
  unfold insd at h
  obtain ⟨h1, h2⟩ := List.mem_filter.mp h
  simp only [Bool.and_eq_true, decide_eq_true_eq] at h2
  exact ⟨List.mem_range.mp h1, h2.1, h2.2⟩
theorem insd_len (ws : List Nat) (s e : Nat) : (insd ws s e).length ≤ ws.length := by
  unfold insd
  have := List.length_filter_le (fun j => decide (s ≤ ws.getD j 0) && decide (ws.getD j 0 < e)) (List.range ws.length)
  simpa using this
theorem part_sq (m : Nat) (hm : 1 ≤ m) (t : Bool) (w ws : List Nat) (hs : ∀ i ∈ ws, i < w.length) (hl : ws.length ≤ 1000) : callN T m 3 [eW w, sqD t (iL ws)] = some (.ok (eW (part w ws)) []) := by
  obtain ⟨n, rfl⟩ : ∃ n, m = n + 1 := ⟨m - 1, by omega⟩
  refine call_eq (call_ok T_part rfl ?_)
  unfold f_part
  walk_at "sx"
  refine wp_map ws (fun i => .int (i : Nat)) (fun i => .str (Tx [w.getD i 48])) (by omega) ?_ ?_ ?_
  · walk_at "sx"
    try trivial
  · intro i hi
    walk_at "sx"
    rw [atI_nat (hs i hi) 48]
    simp
  · walk_at "sx"
    rw [join_one _ _ (by omega)]
    try walk_at "sx"
    try simp [part]
theorem locc_ok (m : Nat) (hm : 1 ≤ m) (t1 t2 : Bool) (ws pt : List Nat) (lns : List (Nat × Nat)) (bks : List (List (List Nat))) (hp : bin pt) (hpl : pt.length = ws.length) (hwl : ws.length ≤ 60) (hln : lns.length ≤ 1000) (hbl : ∀ b ∈ bks, b.length ≤ 10000) (h : LBs lns bks) :
    callN T m 17 [.tuple (iL ws), eW pt, .list (lns.map eN), sqD t1 (bks.map fun b => sqD t2 (b.map eW))] = some (.ok (.bool (occ ws pt lns bks)) []) := by
  obtain ⟨n, rfl⟩ : ∃ n, m = n + 1 := ⟨m - 1, by omega⟩
  refine call_eq (call_ok T__law_occurs rfl ?_)
  unfold f__law_occurs
  walk_at "sx"
  have hll := LBs_len h
  refine ⟨bnd_nat (by omega), rng_i (fun k ρ => ∃ (j4 j5 j6 j7 j8 j9 : Option D), occ ws pt lns bks = occ ws pt (lns.drop k) (bks.drop k) ∧ ρ = [some (.tuple (iL ws)), some (eW pt), some (.list (lns.map eN)), some (sqD t1 (bks.map fun b => sqD t2 (b.map eW))), j4, j5, j6, j7, j8, j9]) 0 lns.length _ rfl (by omega) ?_ ?_ ⟨none, none, none, none, none, none, rfl, rfl⟩⟩
  · rintro ρ ⟨j4, j5, j6, j7, j8, j9, e1, rfl⟩
    walk_at "sx"
    rw [e1, List.drop_length]
    simp [occ]
  · rintro k ρ - hk ⟨j4, j5, j6, j7, j8, j9, e1, rfl⟩ Q hQ
    have hb := LBs_get h k hk
    rw [drop_getD hk (0, 0), drop_getD (show k < bks.length by omega) []] at e1
    have eln : atI lns (k : Int) = some (lns.getD k (0, 0)) := atI_nat hk _
    have eb : atI (bks.map fun b => sqD t2 (b.map eW)) (k : Int) = some (sqD t2 ((bks.getD k []).map eW)) := by
      rw [atI_map, atI_nat (show k < bks.length by omega) []]; rfl
    have eb0 : atI bks (k : Int) = some (bks.getD k []) := atI_nat (show k < bks.length by omega) []
    have hbm := getD_mem (show k < bks.length by omega) []
    have hbz := hbl _ hbm
    generalize hln' : lns.getD k (0, 0) = ln at *
    generalize bks.getD k [] = b at *
    obtain ⟨s, e⟩ := ln
    have hlt := hb.lt
    simp only at hlt
    refine ⟨_, by rw [bnd_nm, if_pos (by simp)], ?_⟩
    rw [on_ss]
    refine sq (fun ρ => ρ = [some (.tuple (iL ws)), some (eW pt), some (.list (lns.map eN)), some (sqD t1 (bks.map fun b => sqD t2 (b.map eW))), some (.int (k : Nat)), some (.int (s : Nat)), j6, j7, j8, j9]) ?_ ?_
    · intro Q hQ
      walk_at "sx"
      refine ⟨_, eln, ?_⟩
      walk_at "sx"
      exact hQ _ rfl
    rintro ρ rfl
    refine sq (fun ρ => ρ = [some (.tuple (iL ws)), some (eW pt), some (.list (lns.map eN)), some (sqD t1 (bks.map fun b => sqD t2 (b.map eW))), some (.int (k : Nat)), some (.int (s : Nat)), some (.list (iL (insd ws s e))), j7, j8, j9]) ?_ ?_
    · intro Q hQ
      walk_at "sx"
      refine wp_filter (List.range ws.length) (fun i => .int (i : Nat)) (fun i => .int (i : Nat)) (fun j => decide (s ≤ ws.getD j 0) && decide (ws.getD j 0 < e)) (by simp; omega) ?_ ?_ ?_
      · walk_at "sx"
        exact ⟨bnd_nat (by omega), rngD_0 _⟩
      · intro j hj
        have hj := List.mem_range.mp hj
        walk_at "sx"
        rw [atI_nat hj 0, eln]
        walk_at "sx"
        generalize ws.getD j 0 = v
        by_cases c1 : s ≤ v
        · by_cases c2 : v < e
          · simp [c1, c2]
          · simp [c1, c2]
        · simp [c1]
      · walk_at "sx"
        exact hQ _ rfl
    rintro ρ rfl
    have hin : ∀ j ∈ insd ws s e, j < ws.length ∧ s ≤ ws.getD j 0 ∧ ws.getD j 0 < e := fun j hj => insd_lt hj
    have hil := insd_len ws s e
    generalize hins : insd ws s e = ins at *
    refine sq (fun ρ => ρ = [some (.tuple (iL ws)), some (eW pt), some (.list (lns.map eN)), some (sqD t1 (bks.map fun b => sqD t2 (b.map eW))), some (.int (k : Nat)), some (.int (s : Nat)), some (.list (iL ins)), some (eW (part pt ins)), j8, j9]) ?_ ?_
    · intro Q hQ
      walk_at "sx"
      refine wp_map ins (fun i => .int (i : Nat)) (fun i => .str (Tx [pt.getD i 48])) (by omega) ?_ ?_ ?_
      · walk_at "sx"
        try trivial
      · intro i hi
        walk_at "sx"
        rw [atI_nat (show i < pt.length by have := (hin i hi).1; omega) 48]
        simp
      · walk_at "sx"
        rw [join_one _ _ (by omega)]
        walk_at "sx"
        exact hQ _ rfl
    rintro ρ rfl
    walk_at "sx"
    refine wp_map b eW (fun w => eW (part w (plc ws ins s))) (by omega) ?_ ?_ ?_
    · walk_at "sx"
      exact ⟨b, eb0, rfl⟩
    · intro w hw
      have hwo := hb.wd w hw
      walk_at "sx"
      refine wp_map ins (fun i => .int (i : Nat)) (fun i => .str (Tx [w.getD (ws.getD i 0 - s) 48])) (by omega) ?_ ?_ ?_
      · walk_at "sx"
        try trivial
      · intro i hi
        obtain ⟨g1, g2, g3⟩ := hin i hi
        walk_at "sx"
        rw [atI_nat g1 0]
        walk_at "sx"
        have hz : ((ws.getD i 0 : Nat) : Int) - (s : Int) = ((ws.getD i 0 - s : Nat) : Int) := by omega
        rw [hz, atI_nat (show ws.getD i 0 - s < w.length by rw [hwo.ln]; omega) 48]
        simp
      · walk_at "sx"
        rw [join_one _ _ (by omega)]
        walk_at "sx"
        try simp [part, plc, List.map_map, Function.comp_def, eW]
    · walk_at "sx"
      have hbb : ∀ w ∈ (b.map fun w => part w (plc ws ins s)), ∀ c ∈ w, c < 1114112 := fun w hw => by
        obtain ⟨v, hv, rfl⟩ := List.mem_map.mp hw
        exact bin_ok (part_bin (hb.wd v hv).bn)
      have hs2 := shp_sqW false (b.map fun w => part w (plc ws ins s)) hbb
      have ha := any_eqvW (b.map fun w => part w (plc ws ins s)) (part pt ins)
      rw [List.map_map] at hs2 ha
      simp only [sqD, Bool.false_eq_true, if_false, Function.comp_def, eW] at hs2 ha
      rw [shp_str (bin_ok (part_bin hp)), hs2, ha]
      refine ⟨rfl, ?_⟩
      simp only [occ, hins] at e1
      by_cases hmem : part pt ins ∈ b.map fun w => part w (plc ws ins s)
      · rw [if_neg (by simpa using hmem)]
        refine hQ _ ⟨_, _, _, _, _, _, ?_, rfl⟩
        rw [e1, decide_eq_true hmem, Bool.true_and]
      · rw [if_pos (by simpa using hmem)]
        rw [e1, decide_eq_false hmem, Bool.false_and]

end G
end
section
set_option linter.all false
set_option autoImplicit false
set_option maxRecDepth 100000
set_option maxHeartbeats 4000000
namespace G
open PySem VF L2
local macro_rules | `(tactic| walk_at "sx") => `(tactic| (try simp only [T_is_number, mu_is_number, T_is_word, mu_is_word, T_opposite, mu_opposite, T_part, mu_part, T_are_cuts, mu_are_cuts, T_is_lane_book, mu_is_lane_book, T_occurs_joined, mu_occurs_joined, T_shows_product, mu_shows_product, T__law_stream, mu__law_stream, T__law_take, mu__law_take, T__law_same, mu__law_same, T__law_lot, mu__law_lot, T__law_lots, mu__law_lots, T__law_opposite, mu__law_opposite, T__law_standard, mu__law_standard, T__law_bus, mu__law_bus, T__law_lanes, mu__law_lanes, T__law_occurs, mu__law_occurs, T__law_clash, mu__law_clash, T__law_is_lane, mu__law_is_lane, T__law_right, mu__law_right, T__law_lane_word, mu__law_lane_word, T__law_with, mu__law_with, T__law_books, mu__law_books, T__law_drawn, mu__law_drawn, T__law_cut_spoilt, mu__law_cut_spoilt, T__law_words_spoilt, mu__law_words_spoilt, T__law_books_spoilt, mu__law_books_spoilt, T_law, mu_law, bnd_tp, bnds_n, bnds_c, Option.bind_some, eqv_nil, List.drop_nil, List.drop_succ_cons, List.drop_zero, tx1, eW, eL, atI_z, atI_o, int0, int1, shp_int, shp_none, shp_bool, eqv_int, eqv_str, wipeR_c, wipeR_n, backR_c, backR_n, lit_e, lit_0, lit_1, lit_10, lit_01, lit_m, Tx_list, Tx_len, pow18, exists_and_left, decide_eq_true_eq, List.length_map, atI_map, u_popI, s_retN, s_pas, s_brk, s_cnt, s_whl, ex_ite, ex_map, ex_bind, ex_some, ex_bool, ite_no, o_addI, o_subI, o_mulI, o_fdivI, o_modI, o_powI, o_addS, o_addT, o_catL, c_ltI, c_leI, c_gtI, c_geI, c_eq, c_ne, c_ltS, c_ltT, c_inS, c_inL, c_ninL, c_inT, c_ninT, b_lenL, b_lenT, b_lenS, b_intI, b_intB, b_intS, b_strI, b_tupL, b_tupT, b_lstL, b_lstT, b_lstS, b_srt, b_sum, b_max2, b_min2, b_abs, b_any, b_all, x_l, x_t, x_s, n_non, n_int, n_str, n_tup, n_lst, n_bool, k_join, u_app, u_rev, i_l, i_t, i_s, g_1, g_2, startR, bnd_nm, outsTo, mutOuts, List.map_cons, List.map_nil, List.cons_append, List.nil_append, List.length_cons, List.length_nil, List.getElem?_cons_zero, List.getElem?_cons_succ, Option.some.injEq, exists_eq_left', exists_eq_left, exists_eq, exists_eq', List.set_cons_zero, List.set_cons_succ, and_true, true_and, Option.map_some, PyData.bool.injEq, PyData.int.injEq, PyData.list.injEq, PyData.str.injEq, PyData.tuple.injEq, ite_true, ite_false, if_true, if_false, Bool.false_eq_true, Nat.sub_self, List.replicate_zero, List.append_nil, List.replicate_succ, Nat.zero_add, Nat.reduceAdd, Nat.reduceSub, Nat.reduceLT, ctxN, Option.getD_some, on_ss, q_bnd, q_ret, q_none, q_lift, q_itep, q_s, q_d, q_pv, q_asB, q_call, q_neg, q_so, q_no, q_mu, q_cons, q_nil, t_asg, t_ex, t_ret, t_ife, t_set, t_fr, qo_con, qo_glo, qo_tup, qo_lst, qo_op, qo_neg, qo_cmp, qo_isN, qo_and, qo_or, qo_not, qo_ite, qo_fn, qo_bi, qo_me, qo_mu, qo_ix, qo_sl, qo_comp, qo_eqR, qe_var, qe_con, qe_glo, qe_tup, qe_lst, qe_op, qe_cmp, qe_isN, qe_and, qe_or, qe_not, qe_ite, qe_fn, qe_bi, qe_me, qe_ix, qe_sl, qe_eqR, qm_es_n, qm_es_c, qm_ps_n, qm_ps_c, qm_as_n, qm_as_t, qm_as_f, qm_as_e, qm_i_seq, qm_i_rng1, qm_i_rng2, qm_i_enum, qm_i_zip2, qm_i_rev1, qm_i_rev2, qr_n, qr_c, qo_isi, qo_chn, qo_rev, qe_isi, qe_chn, qe_rev, qm_i_zip3, kd_ii, kd_ib, kd_is, kd_in, kd_il, kd_it, kd_bi, kd_bb, kd_bs, kd_bn, kd_bl, kd_bt, kd_si, kd_sb, kd_ss, kd_sn, kd_sl, kd_st, kd_ti, kd_tb, kd_ts, kd_tn, kd_tl, kd_tt, rv_t, sl_l, sl_s, c_inS1, c_ninS1, c_geS, it_sq, ix_sq, len_sq, lst_sq, tup_sq, ltS_Tx, it_Tx, sl_t, cut_to, bnd_nat]))

theorem zipD_nil {a : List D} {b : List D} (h : [] = zipD a b) : a = [] ∨ b = [] := by
  cases a with
  | nil => exact .inl rfl
  | cons x a => cases b with
    | nil => exact .inr rfl
    | cons y b => simp [zipD] at h
theorem pocc_ok (m : Nat) (hm : 2 ≤ m) (ws pt : List Nat) (lns : List (Nat × Nat)) (bks : List (List (List Nat))) (hp : bin pt) (hpl : pt.length = ws.length) (hwl : ws.length ≤ 60) (hbl : ∀ b ∈ bks, b.length ≤ 10000) (h : LBs lns bks) :
    callN T m 6 [.tuple (iL ws), eW pt, .tuple (iL (lns.map (·.1))), .tuple (bks.map fun b => .tuple (b.map eW))] = some (.ok (.bool (occ ws pt lns bks)) []) := by
  obtain ⟨n, rfl⟩ : ∃ n, m = n + 2 := ⟨m - 2, by omega⟩
  refine call_eq (call_ok T_occurs_joined rfl ?_)
  unfold f_occurs_joined
  walk_at "sx"
  refine for_i (fun ds ρ => ∃ (l : List (Nat × Nat)) (b : List (List (List Nat))) (j4 j5 j6 j7 j8 j9 j10 j11 : Option D), ds = zipD (iL (l.map (·.1))) (b.map fun b => .tuple (b.map eW)) ∧ LBs l b ∧ (∀ x ∈ b, x ∈ bks) ∧ occ ws pt lns bks = occ ws pt l b ∧ ρ = [some (.tuple (iL ws)), some (eW pt), some (.tuple (iL (lns.map (·.1)))), some (.tuple (bks.map fun b => .tuple (b.map eW))), j4, j5, j6, j7, j8, j9, j10, j11]) ?_ ?_ ⟨lns, bks, none, none, none, none, none, none, none, none, rfl, h, fun x hx => hx, rfl, rfl⟩
  · rintro ρ ⟨l, b, j4, j5, j6, j7, j8, j9, j10, j11, e0, hl, hm, e1, rfl⟩
    have : occ ws pt l b = true := by
      cases l with
      | nil => simp [occ]
      | cons x l => cases b with
        | nil => simp [occ]
        | cons y b => simp [zipD] at e0
    walk_at "sx"
    rw [e1, this]
  · rintro x xs ρ ⟨l, b, j4, j5, j6, j7, j8, j9, j10, j11, e0, hl, hm, e1, rfl⟩ Q hQ
    cases l with
    | nil => simp [zipD] at e0
    | cons ln l =>
    cases b with
    | nil => exact hl.elim
    | cons b bs =>
    obtain ⟨hb, hl2⟩ := hl
    obtain ⟨s, e⟩ := ln
    simp only [List.map_cons, zipD, List.cons.injEq] at e0
    obtain ⟨rfl, rfl⟩ := e0
    have hlt := hb.lt
    simp only at hlt
    have hbz := hbl b (hm b (by simp))
    have hmb : ∀ x ∈ bs, x ∈ bks := fun x hx => hm x (by simp [hx])
    obtain ⟨w0, br, eb0⟩ : ∃ w0 br, b = w0 :: br := by
      cases hq : b with
      | nil => exact absurd hq hb.ne
      | cons a c => exact ⟨a, c, rfl⟩
    have hw0 := (hb.wd w0 (by rw [eb0]; simp)).ln
    refine ⟨[some (.tuple (iL ws)), some (eW pt), some (.tuple (iL (lns.map (·.1)))), some (.tuple (bks.map fun b => .tuple (b.map eW))), some (.int (s : Nat)), some (.tuple (b.map eW)), j6, j7, j8, j9, j10, j11], by walk_at "sx", ?_⟩
    rw [on_ss]
    refine sq (fun ρ => ρ = [some (.tuple (iL ws)), some (eW pt), some (.tuple (iL (lns.map (·.1)))), some (.tuple (bks.map fun b => .tuple (b.map eW))), some (.int (s : Nat)), some (.tuple (b.map eW)), some (.int (e : Nat)), j7, j8, j9, j10, j11]) ?_ ?_
    · intro Q hQ
      walk_at "sx"
      refine ⟨w0, by rw [eb0]; exact atI_z _ _, ?_⟩
      walk_at "sx"
      refine hQ _ ?_
      have : (s : Int) + (w0.length : Int) = (e : Int) := by rw [hw0]; omega
      simp only at hw0
      rw [this]
      rfl
    rintro ρ rfl
    refine sq (fun ρ => ∃ j9 j10, ρ = [some (.tuple (iL ws)), some (eW pt), some (.tuple (iL (lns.map (·.1)))), some (.tuple (bks.map fun b => .tuple (b.map eW))), some (.int (s : Nat)), some (.tuple (b.map eW)), some (.int (e : Nat)), some (.list (iL (insd ws s e))), j8, j9, j10, j11]) ?_ ?_
    · intro Q hQ
      walk_at "sx"
      refine wp_filter (List.range ws.length) (fun i => .tuple [.int (i : Nat), .int (ws.getD i 0 : Nat)]) (fun i => .int (i : Nat)) (fun j => decide (s ≤ ws.getD j 0) && decide (ws.getD j 0 < e)) (by simp; omega) ?_ ?_ ?_
      · walk_at "sx"
        have := enumD_map (fun i : Nat => PyData.int (i : Nat)) 0 ws 0
        simp only [Nat.zero_add] at this
        exact this
      · intro j hj
        have hj := List.mem_range.mp hj
        walk_at "sx"
        generalize ws.getD j 0 = v
        by_cases c1 : s ≤ v
        · by_cases c2 : v < e
          · simp [c1, c2]
          · simp [c1, c2]
        · simp [c1]
      · walk_at "sx"
        exact hQ _ ⟨_, _, rfl⟩
    rintro ρ ⟨j9, j10, rfl⟩
    have hin : ∀ j ∈ insd ws s e, j < ws.length ∧ s ≤ ws.getD j 0 ∧ ws.getD j 0 < e := fun j hj => insd_lt hj
    have hil := insd_len ws s e
    generalize hins : insd ws s e = ins at *
    refine sq (fun ρ => ∃ j9, ρ = [some (.tuple (iL ws)), some (eW pt), some (.tuple (iL (lns.map (·.1)))), some (.tuple (bks.map fun b => .tuple (b.map eW))), some (.int (s : Nat)), some (.tuple (b.map eW)), some (.int (e : Nat)), some (.list (iL ins)), some (.list (iL (plc ws ins s))), j9, j10, j11]) ?_ ?_
    · intro Q hQ
      walk_at "sx"
      refine wp_map ins (fun i => .int (i : Nat)) (fun i => .int ((ws.getD i 0 - s : Nat) : Nat)) (by omega) ?_ ?_ ?_
      · walk_at "sx"
        try trivial
      · intro i hi
        obtain ⟨g1, g2, g3⟩ := hin i hi
        walk_at "sx"
        rw [atI_nat g1 0]
        walk_at "sx"
        have hz : ((ws.getD i 0 : Nat) : Int) - (s : Int) = ((ws.getD i 0 - s : Nat) : Int) := by omega
        first | exact ⟨hz, rfl⟩ | exact hz | (rw [hz]; simp)
      · walk_at "sx"
        refine hQ _ ⟨j9, ?_⟩
        simp [plc, List.map_map, Function.comp_def, eW]
    rintro ρ ⟨j9, rfl⟩
    have q1 := part_sq (n + 1) (by omega) false pt ins (fun i hi => by rw [hpl]; exact (hin i hi).1) (by omega)
    simp only [sqD, Bool.false_eq_true, if_false, eW] at q1
    walk_at "sx"
    rw [q1]
    walk_at "sx"
    refine wp_map b eW (fun w => eW (part w (plc ws ins s))) (by omega) ?_ ?_ ?_
    · walk_at "sx"
    · intro w hw
      have hwo := hb.wd w hw
      have q2 := part_sq (n + 1) (by omega) false w (plc ws ins s) (fun i hi => by
        obtain ⟨j, hj, rfl⟩ := List.mem_map.mp hi
        obtain ⟨g1, g2, g3⟩ := hin j hj
        rw [hwo.ln]
        simp only
        omega) (by simp [plc]; omega)
      simp only [sqD, Bool.false_eq_true, if_false, eW] at q2
      walk_at "sx"
      rw [q2]
      walk_at "sx"
      try rfl
    · have hbb : ∀ w ∈ (b.map fun w => part w (plc ws ins s)), ∀ c ∈ w, c < 1114112 := fun w hw => by
        obtain ⟨v, hv, rfl⟩ := List.mem_map.mp hw
        exact bin_ok (part_bin (hb.wd v hv).bn)
      have hs2 := shp_sqW false (b.map fun w => part w (plc ws ins s)) hbb
      have ha := any_eqvW (b.map fun w => part w (plc ws ins s)) (part pt ins)
      rw [List.map_map] at hs2 ha
      simp only [sqD, Bool.false_eq_true, if_false, Function.comp_def, eW] at hs2 ha
      walk_at "sx"
      rw [shp_str (bin_ok (part_bin hp)), hs2, ha]
      refine ⟨rfl, ?_⟩
      simp only [occ, hins] at e1
      by_cases hmem : part pt ins ∈ b.map fun w => part w (plc ws ins s)
      · rw [if_neg (by simpa using hmem)]
        refine hQ _ ⟨l, bs, _, _, _, _, _, _, _, _, rfl, hl2, hmb, ?_, rfl⟩
        rw [e1, decide_eq_true hmem, Bool.true_and]
      · rw [if_pos (by simpa using hmem)]
        rw [e1, decide_eq_false hmem, Bool.false_and]
def lanesOf (size : Nat) (cs : List Nat) : List (Nat × Nat) := (0 :: cs).zip (cs ++ [size])
theorem lanesOf_len (size : Nat) (cs : List Nat) : (lanesOf size cs).length = cs.length + 1 := by simp [lanesOf]
theorem lanes_ok (m : Nat) (hm : 1 ≤ m) (size : Nat) (cs : List Nat) (hc : cs.length ≤ 1000) :
    callN T m 16 [.int (size : Nat), .tuple (iL cs)] = some (.ok (.list ((lanesOf size cs).map eN)) []) := by
  obtain ⟨n, rfl⟩ : ∃ n, m = n + 1 := ⟨m - 1, by omega⟩
  refine call_eq (call_ok T__law_lanes rfl ?_)
  unfold f__law_lanes
  walk_at "sx"
  refine ⟨rfl, by simp [okLen]; omega, rfl, by simp [okLen]; omega, ?_⟩
  refine wp_map (List.range (cs.length + 1)) (fun i => .int (i : Nat)) (fun k => eN ((0 :: cs).getD k 0, (cs ++ [size]).getD k 0)) (by simp; omega) ?_ ?_ ?_
  · walk_at "sx"
    exact ⟨bnd_nat (by omega), rngD_0 _⟩
  · intro k hk
    have hk := List.mem_range.mp hk
    have a1 : atI (PyData.int 0 :: iL cs) (k : Int) = some (.int ((0 :: cs).getD k 0 : Nat)) := by
      have : (PyData.int 0 :: iL cs) = iL (0 :: cs) := rfl
      rw [this, atI_map, atI_nat (show k < (0 :: cs).length by simp; omega) 0]; rfl
    have a2 : atI (iL cs ++ [PyData.int (size : Nat)]) (k : Int) = some (.int ((cs ++ [size]).getD k 0 : Nat)) := by
      have : (iL cs ++ [PyData.int (size : Nat)]) = iL (cs ++ [size]) := by simp
      rw [this, atI_map, atI_nat (show k < (cs ++ [size]).length by simp; omega) 0]; rfl
    walk_at "sx"
    rw [a1, a2]
    walk_at "sx"
    first | exact ⟨rfl, rfl⟩ | rfl | trivial
  · walk_at "sx"
    apply List.ext_getElem
    · simp [lanesOf]
    · intro i h1 h2
      simp [lanesOf, eN, List.getD] at h1 h2 ⊢
      have h3 : i < cs.length + 1 := by omega
      simp [h3]
def clashP (ls : List Lot) (lns : List (Nat × Nat)) (bks : List (List (List Nat))) : Bool := ls.any fun l => occ l.ws l.pt lns bks && occ l.ws (opp l.pt) lns bks
theorem clashL_ok (m : Nat) (hm : 2 ≤ m) (t1 t2 : Bool) (size : Nat) (ls : List Lot) (lns : List (Nat × Nat)) (bks : List (List (List Nat))) (hls : ∀ l ∈ ls, LotOk size l) (hln : lns.length ≤ 1000) (hbl : ∀ b ∈ bks, b.length ≤ 10000) (h : LBs lns bks) :
    callN T m 18 [eB size ls, .list (lns.map eN), sqD t1 (bks.map fun b => sqD t2 (b.map eW))] = some (.ok (.bool (clashP ls lns bks)) []) := by
  obtain ⟨n, rfl⟩ : ∃ n, m = n + 2 := ⟨m - 2, by omega⟩
  have k1 := fun (l : Lot) (hl : LotOk size l) => locc_ok (n + 1) (by omega) t1 t2 l.ws l.pt lns bks hl.bn hl.ln hl.sz hln hbl h
  have k2 := fun (l : Lot) (hl : LotOk size l) => locc_ok (n + 1) (by omega) t1 t2 l.ws (opp l.pt) lns bks (opp_bin hl.bn) (by rw [opp_len]; exact hl.ln) hl.sz hln hbl h
  have k3 := fun (l : Lot) (hl : LotOk size l) => lopp_ok (n + 1) (by omega) l.pt hl.bn (by rw [hl.ln]; have := hl.sz; omega)
  refine call_eq ?_
  obtain ⟨C, hC⟩ : ∃ C, callN T (n + 1) = C := ⟨_, rfl⟩
  simp only [hC, eW] at k1 k2 k3
  apply call_okC C hC T__law_clash rfl
  clear hC
  unfold f__law_clash
  walk_at "sx"
  refine lst_i eL (fun rest ρ => ∃ (j3 j4 : Option D), (∀ l ∈ rest, LotOk size l) ∧ clashP ls lns bks = clashP rest lns bks ∧ ρ = [some (eB size ls), some (.list (lns.map eN)), some (sqD t1 (bks.map fun b => sqD t2 (b.map eW))), j3, j4]) ls ?_ ?_ ⟨none, none, hls, rfl, rfl⟩
  · rintro ρ ⟨j3, j4, h1, e1, rfl⟩
    walk_at "sx"
    rw [e1]
    rfl
  · rintro l rest ρ ⟨j3, j4, h1, e1, rfl⟩ Q hQ
    have hl := h1 l (by simp)
    have hr : ∀ l ∈ rest, LotOk size l := fun l hl => h1 l (by simp [hl])
    have k1 := k1 l hl
    have k2 := k2 l hl
    have k3 := k3 l hl
    have ec : clashP (l :: rest) lns bks = ((occ l.ws l.pt lns bks && occ l.ws (opp l.pt) lns bks) || clashP rest lns bks) := rfl
    rw [ec] at e1
    simp only [eL, eW]
    walk_at "sx"
    rw [k1]
    walk_at "sx"
    cases o1 : occ l.ws l.pt lns bks with
    | false =>
      rw [o1] at e1
      walk_at "sx"
      exact hQ _ ⟨_, _, hr, by simpa using e1, rfl⟩
    | true =>
      rw [o1] at e1
      walk_at "sx"
      rw [k3]
      walk_at "sx"
      rw [k2]
      walk_at "sx"
      cases o2 : occ l.ws (opp l.pt) lns bks with
      | false =>
        rw [o2] at e1
        walk_at "sx"
        exact hQ _ ⟨_, _, hr, by simpa using e1, rfl⟩
      | true =>
        rw [o2] at e1
        walk_at "sx"
        simp [e1]

end G
end
section
set_option linter.all false
set_option autoImplicit false
set_option maxRecDepth 100000
set_option maxHeartbeats 4000000
namespace G
open PySem VF L2
local macro_rules | `(tactic| walk_at "sx") => `(tactic| (try simp only [T_is_number, mu_is_number, T_is_word, mu_is_word, T_opposite, mu_opposite, T_part, mu_part, T_are_cuts, mu_are_cuts, T_is_lane_book, mu_is_lane_book, T_occurs_joined, mu_occurs_joined, T_shows_product, mu_shows_product, T__law_stream, mu__law_stream, T__law_take, mu__law_take, T__law_same, mu__law_same, T__law_lot, mu__law_lot, T__law_lots, mu__law_lots, T__law_opposite, mu__law_opposite, T__law_standard, mu__law_standard, T__law_bus, mu__law_bus, T__law_lanes, mu__law_lanes, T__law_occurs, mu__law_occurs, T__law_clash, mu__law_clash, T__law_is_lane, mu__law_is_lane, T__law_right, mu__law_right, T__law_lane_word, mu__law_lane_word, T__law_with, mu__law_with, T__law_books, mu__law_books, T__law_drawn, mu__law_drawn, T__law_cut_spoilt, mu__law_cut_spoilt, T__law_words_spoilt, mu__law_words_spoilt, T__law_books_spoilt, mu__law_books_spoilt, T_law, mu_law, bnd_tp, bnds_n, bnds_c, Option.bind_some, eqv_nil, List.drop_nil, List.drop_succ_cons, List.drop_zero, tx1, eW, eL, atI_z, atI_o, int0, int1, shp_int, shp_none, shp_bool, eqv_int, eqv_str, wipeR_c, wipeR_n, backR_c, backR_n, lit_e, lit_0, lit_1, lit_10, lit_01, lit_m, Tx_list, Tx_len, pow18, exists_and_left, decide_eq_true_eq, List.length_map, atI_map, u_popI, s_retN, s_pas, s_brk, s_cnt, s_whl, ex_ite, ex_map, ex_bind, ex_some, ex_bool, ite_no, o_addI, o_subI, o_mulI, o_fdivI, o_modI, o_powI, o_addS, o_addT, o_catL, c_ltI, c_leI, c_gtI, c_geI, c_eq, c_ne, c_ltS, c_ltT, c_inS, c_inL, c_ninL, c_inT, c_ninT, b_lenL, b_lenT, b_lenS, b_intI, b_intB, b_intS, b_strI, b_tupL, b_tupT, b_lstL, b_lstT, b_lstS, b_srt, b_sum, b_max2, b_min2, b_abs, b_any, b_all, x_l, x_t, x_s, n_non, n_int, n_str, n_tup, n_lst, n_bool, k_join, u_app, u_rev, i_l, i_t, i_s, g_1, g_2, startR, bnd_nm, outsTo, mutOuts, List.map_cons, List.map_nil, List.cons_append, List.nil_append, List.length_cons, List.length_nil, List.getElem?_cons_zero, List.getElem?_cons_succ, Option.some.injEq, exists_eq_left', exists_eq_left, exists_eq, exists_eq', List.set_cons_zero, List.set_cons_succ, and_true, true_and, Option.map_some, PyData.bool.injEq, PyData.int.injEq, PyData.list.injEq, PyData.str.injEq, PyData.tuple.injEq, ite_true, ite_false, if_true, if_false, Bool.false_eq_true, Nat.sub_self, List.replicate_zero, List.append_nil, List.replicate_succ, Nat.zero_add, Nat.reduceAdd, Nat.reduceSub, Nat.reduceLT, ctxN, Option.getD_some, on_ss, q_bnd, q_ret, q_none, q_lift, q_itep, q_s, q_d, q_pv, q_asB, q_call, q_neg, q_so, q_no, q_mu, q_cons, q_nil, t_asg, t_ex, t_ret, t_ife, t_set, t_fr, qo_con, qo_glo, qo_tup, qo_lst, qo_op, qo_neg, qo_cmp, qo_isN, qo_and, qo_or, qo_not, qo_ite, qo_fn, qo_bi, qo_me, qo_mu, qo_ix, qo_sl, qo_comp, qo_eqR, qe_var, qe_con, qe_glo, qe_tup, qe_lst, qe_op, qe_cmp, qe_isN, qe_and, qe_or, qe_not, qe_ite, qe_fn, qe_bi, qe_me, qe_ix, qe_sl, qe_eqR, qm_es_n, qm_es_c, qm_ps_n, qm_ps_c, qm_as_n, qm_as_t, qm_as_f, qm_as_e, qm_i_seq, qm_i_rng1, qm_i_rng2, qm_i_enum, qm_i_zip2, qm_i_rev1, qm_i_rev2, qr_n, qr_c, qo_isi, qo_chn, qo_rev, qe_isi, qe_chn, qe_rev, qm_i_zip3, kd_ii, kd_ib, kd_is, kd_in, kd_il, kd_it, kd_bi, kd_bb, kd_bs, kd_bn, kd_bl, kd_bt, kd_si, kd_sb, kd_ss, kd_sn, kd_sl, kd_st, kd_ti, kd_tb, kd_ts, kd_tn, kd_tl, kd_tt, rv_t, sl_l, sl_s, c_inS1, c_ninS1, c_geS, it_sq, ix_sq, len_sq, lst_sq, tup_sq, ltS_Tx, it_Tx, sl_t, cut_to, bnd_nat]))

def natsD (cs : List D) : List Nat := cs.map fun d => match d with | .int i => i.toNat | _ => 0
def wordsD : D → List (List Nat)
  | .tuple ws => ws.map fun d => match d with | .str x => x.cps.toList | _ => []
  | _ => []
def lanesOk : List (Nat × Nat) → List D → Bool
  | ln :: l, b :: bs => laneOk ((ln.2 : Int) - (ln.1 : Int)) b && lanesOk l bs
  | [], [] => true
  | _, _ => false
def prodOk (size : Nat) (ls : List Lot) : D → D → Bool
  | .tuple cs, .tuple bs => decide (bs.length = cs.length + 1) && (cutsOk size 0 cs && (lanesOk (lanesOf size (natsD cs)) bs && !clashP ls (lanesOf size (natsD cs)) (bs.map wordsD)))
  | _, _ => false
theorem cutsOk_nat {size : Nat} : ∀ (cs : List D) (last : Nat), last < size → cutsOk size last cs = true → cs = iL (natsD cs) ∧ (∀ p ∈ (last :: natsD cs).zip (natsD cs ++ [size]), p.1 < p.2) ∧ cs.length + last < size
  | [], last, h, _ => ⟨rfl, by simpa [natsD] using h, by simpa using h⟩
  | x :: cs, last, h, hc => by
    cases x <;> simp only [cutsOk, Bool.and_eq_true, decide_eq_true_eq, Bool.false_eq_true] at hc
    rename_i w
    obtain ⟨⟨h1, h2⟩, h3⟩ := hc
    obtain ⟨v, rfl⟩ : ∃ v : Nat, w = v := ⟨w.toNat, by omega⟩
    obtain ⟨e, g, gl⟩ := cutsOk_nat cs v (by omega) h3
    refine ⟨?_, ?_, by simp; omega⟩
    · have : natsD (PyData.int (v : Int) :: cs) = v :: natsD cs := by simp [natsD]
      rw [this]
      show PyData.int (v : Int) :: cs = PyData.int (v : Int) :: iL (natsD cs)
      rw [← e]
    · have : natsD (PyData.int (v : Int) :: cs) = v :: natsD cs := by simp [natsD]
      rw [this]
      intro p hp
      simp only [List.cons_append, List.zip_cons_cons, List.mem_cons] at hp
      rcases hp with rfl | hp
      · simp only; omega
      · exact g p hp
theorem goAsc_words {k : Nat} : ∀ (ws : List D) (p : Option Str), goAsc k p ws = true → (∀ w ∈ (wordsD (.tuple ws)), WordOk k w) ∧ ws = (wordsD (.tuple ws)).map eW
  | [], _, _ => ⟨by simp [wordsD], rfl⟩
  | x :: ws, p, h => by
    cases x <;> simp only [goAsc, Bool.and_eq_true, Bool.false_eq_true] at h
    rename_i s
    obtain ⟨⟨h1, _⟩, h3⟩ := h
    obtain ⟨g1, g2⟩ := goAsc_words ws _ h3
    simp only [isW, Bool.and_eq_true, decide_eq_true_eq, List.all_eq_true] at h1
    have hw : WordOk k s.cps.toList := ⟨by
      have := h1.1
      have e : s.length = s.cps.toList.length := by simp [Str.length]
      omega, h1.2⟩
    have e : wordsD (.tuple (PyData.str s :: ws)) = s.cps.toList :: wordsD (.tuple ws) := rfl
    rw [e]
    refine ⟨fun w hw' => ?_, ?_⟩
    · rcases List.mem_cons.mp hw' with rfl | hw'
      · exact hw
      · exact g1 w hw'
    · rw [List.map_cons, ← g2]
      congr 1
      all_goals simp [eW, Tx]
theorem laneOk_LB {ln : Nat × Nat} {b : D} (hlt : ln.1 < ln.2) (h : laneOk ((ln.2 : Int) - (ln.1 : Int)) b = true) : LB ln (wordsD b) ∧ b = .tuple ((wordsD b).map eW) := by
  cases b <;> simp only [laneOk, Bool.false_eq_true, Bool.and_eq_true, Bool.not_eq_true'] at h
  rename_i ws
  have e : (ln.2 : Int) - (ln.1 : Int) = ((ln.2 - ln.1 : Nat) : Int) := by omega
  rw [e] at h
  obtain ⟨g1, g2⟩ := goAsc_words ws none h.2
  refine ⟨⟨hlt, fun z => ?_, g1⟩, by rw [← g2]⟩
  rw [z] at g2
  rw [g2] at h
  simp at h
theorem lanesOk_LBs : ∀ {l : List (Nat × Nat)} {bs : List D}, (∀ p ∈ l, p.1 < p.2) → lanesOk l bs = true → LBs l (bs.map wordsD) ∧ bs = (bs.map wordsD).map fun b => .tuple (b.map eW)
  | [], [], _, _ => ⟨trivial, rfl⟩
  | ln :: l, b :: bs, h, hk => by
    simp only [lanesOk, Bool.and_eq_true] at hk
    obtain ⟨g1, g2⟩ := laneOk_LB (h ln (by simp)) hk.1
    obtain ⟨g3, g4⟩ := lanesOk_LBs (l := l) (bs := bs) (fun p hp => h p (by simp [hp])) hk.2
    refine ⟨⟨g1, g3⟩, ?_⟩
    rw [List.map_cons, List.map_cons, ← g2, ← g4]
  | [], _ :: _, _, hk => by simp [lanesOk] at hk
  | _ :: _, [], _, hk => by simp [lanesOk] at hk
theorem goAsc_strs (k : Int) : ∀ (xs : List Str) (p : Option Str), (∀ x ∈ xs, isW k (.str x) = true) → (goAsc k p (xs.map .str) = true ↔ (∀ q, p = some q → ∀ x, xs.head? = some x → ltS q x = true) ∧ ∀ j, j + 1 < xs.length → ltS (xs.getD j ⟨#[]⟩) (xs.getD (j + 1) ⟨#[]⟩) = true)
  | [], p, _ => by simp [goAsc]
  | x :: xs, p, h => by
    have ih := goAsc_strs k xs (some x) fun y hy => h y (by simp [hy])
    simp only [List.map_cons, goAsc, h x (by simp), Bool.true_and, Bool.and_eq_true, ih]
    constructor
    · rintro ⟨h1, h2, h3⟩
      refine ⟨?_, ?_⟩
      · rintro q rfl y hy
        cases hy
        exact h1
      · intro j hj
        cases j with
        | zero =>
          cases xs with
          | nil => simp at hj
          | cons y ys => simpa using h2 x rfl y rfl
        | succ j => simpa using h3 j (by simpa using hj)
    · rintro ⟨h1, h2⟩
      refine ⟨?_, ?_, ?_⟩
      · cases p with
        | none => rfl
        | some q => exact h1 q rfl x rfl
      · rintro q hq y hy
        cases hq
        cases xs with
        | nil => simp at hy
        | cons z zs =>
          cases hy
          simpa using h2 0 (by simp)
      · intro j hj
        simpa using h2 (j + 1) (by simpa using hj)
theorem islane_ok (m : Nat) (hm : 1 ≤ m) (d : D) (k : Int) (h : shw d = true) (hz : ∀ ws, d = .tuple ws → ws.length ≤ 100000) : callN T m 19 [d, .int k] = some (.ok (.bool (laneOk k d)) []) := by
  obtain ⟨n, rfl⟩ : ∃ n, m = n + 1 := ⟨m - 1, by omega⟩
  refine call_eq (call_ok T__law_is_lane rfl ?_)
  unfold f__law_is_lane
  cases d with
  | dict kvs => simp [shw] at h
  | int i => walk_at "sx"; try simp [laneOk]
  | bool i => walk_at "sx"; try simp [laneOk]
  | none => walk_at "sx"; try simp [laneOk]
  | list i => walk_at "sx"; try simp [laneOk]
  | str i => walk_at "sx"; try simp [laneOk]
  | tuple ws =>
    have hz := hz ws rfl
    rw [shw, shws_mem] at h
    refine rn_seq (fun ρ => ws ≠ [] ∧ ρ = [some (.tuple ws), some (.int k), none, none, none]) ?_ ?_
    · walk_at "sx"
      try rw [if_neg (by simp)]
      refine ⟨by simp [shp_int], ?_⟩
      by_cases he : ws = []
      · subst he
        simp [laneOk]
      · rw [if_neg (by simpa using he)]
        exact he
    rintro ρ ⟨he, rfl⟩
    have hl : laneOk k (.tuple ws) = goAsc k none ws := by
      cases ws with
      | nil => exact absurd rfl he
      | cons => simp [laneOk]
    refine rn_seq (fun ρ => ∃ (xs : List Str) (j2 j4 : Option D), ws = xs.map .str ∧ (∀ x ∈ xs, isW k (.str x) = true) ∧ ρ = [some (.tuple ws), some (.int k), j2, none, j4]) ?_ ?_
    · walk_at "sx"
      refine for_i (fun ds ρ => ∃ (xs : List Str) (j2 j4 : Option D), ws = xs.map .str ++ ds ∧ (∀ x ∈ xs, isW k (.str x) = true) ∧ ρ = [some (.tuple ws), some (.int k), j2, none, j4]) ?_ ?_ ⟨[], none, none, rfl, by simp, rfl⟩
      · rintro ρ ⟨xs, j2, j4, e1, h1, rfl⟩
        exact ⟨xs, by simpa using e1, h1, j2, j4, rfl⟩
      · rintro x ds ρ ⟨xs, j2, j4, e1, h1, rfl⟩ Q hQ
        have hbad : isW k x = false → goAsc k none ws = false := fun z => by
          cases hg : goAsc k none ws with
          | false => rfl
          | true =>
            rw [e1] at hg
            obtain ⟨q, hq⟩ := goAsc_app k _ _ _ hg
            cases x <;> simp [goAsc, z] at hq
        have hx := h x (by rw [e1]; simp)
        cases x with
        | dict kvs => simp [shw] at hx
        | int i => walk_at "sx"; rw [hl, hbad rfl]; try simp
        | bool i => walk_at "sx"; rw [hl, hbad rfl]; try simp
        | none => walk_at "sx"; rw [hl, hbad rfl]; try simp
        | list i => walk_at "sx"; rw [hl, hbad rfl]; try simp
        | tuple i => walk_at "sx"; rw [hl, hbad rfl]; try simp
        | str s =>
          walk_at "sx"
          try rw [if_neg (by simp)]
          refine ⟨by simp [shp_int], ?_⟩
          by_cases hk : (s.length : Int) = k
          · rw [if_neg (by simp [hk])]
            walk_at "sx"
            have e : isW k (.str s) = s.cps.toList.all fun c => decide (c = 48 ∨ c = 49) := by simp [isW, hk]
            refine lst_i (fun c => .str (Tx [c])) (fun rest ρ => ∃ j4, isW k (.str s) = (rest.all fun c => decide (c = 48 ∨ c = 49)) ∧ ρ = [some (.tuple ws), some (.int k), some (.str s), none, j4]) s.cps.toList ?_ ?_ ⟨j4, e, rfl⟩
            · rintro ρ ⟨j4, e2, rfl⟩
              walk_at "sx"
              refine hQ _ ⟨xs ++ [s], _, _, by rw [e1]; simp, fun y hy => ?_, rfl⟩
              rcases List.mem_append.mp hy with hy | hy
              · exact h1 y hy
              · have : y = s := by simpa using hy
                rw [this, e2]; rfl
            · rintro c rest ρ ⟨j4, e2, rfl⟩ Q2 hQ2
              walk_at "sx"
              by_cases hc : c = 48 ∨ c = 49
              · rw [if_neg (by simp; omega)]
                exact hQ2 _ ⟨_, by rw [e2, List.all_cons]; simp [hc], rfl⟩
              · rw [if_pos (by simp; omega)]
                have : isW k (.str s) = false := by rw [e2, List.all_cons]; simp [hc]
                rw [hl, hbad this]
          · rw [if_pos (by simp [hk])]
            have : isW k (.str s) = false := by simp [isW, hk]
            walk_at "sx"
            rw [hl, hbad this]
            try simp
    rintro ρ ⟨xs, j2, j4, rfl, hxs, rfl⟩
    have hiff := goAsc_strs k xs none hxs
    rw [List.length_map] at hz
    have hxl : 1 ≤ xs.length := by
      cases xs with
      | nil => exact absurd rfl he
      | cons => simp
    walk_at "sx"
    refine ⟨by simp [bnd62]; omega, rng_i (fun i ρ => ∃ j3, (∀ j, j + 1 < i → ltS (xs.getD j ⟨#[]⟩) (xs.getD (j + 1) ⟨#[]⟩) = true) ∧ ρ = [some (.tuple (xs.map .str)), some (.int k), j2, j3, j4]) 1 xs.length 1 rfl (by omega) ?_ ?_ ⟨none, fun j hj => by omega, rfl⟩⟩
    · rintro ρ ⟨j3, h1, rfl⟩
      walk_at "sx"
      rw [hl, hiff.mpr ⟨by simp, h1⟩]
    · rintro i ρ hi0 hi ⟨j3, h1, rfl⟩ Q hQ
      obtain ⟨p, rfl⟩ : ∃ p, i = p + 1 := ⟨i - 1, by omega⟩
      have a1 : atI xs (((p + 1 : Nat) : Int) - 1) = some (xs.getD p ⟨#[]⟩) := by
        rw [show ((p + 1 : Nat) : Int) - 1 = (p : Int) by omega]
        exact atI_nat (by omega) _
      have a2 : atI xs ((p + 1 : Nat) : Int) = some (xs.getD (p + 1) ⟨#[]⟩) := atI_nat (by omega) _
      walk_at "sx"
      refine ⟨_, a1, ?_⟩
      walk_at "sx"
      refine ⟨_, a2, ?_⟩
      walk_at "sx"
      by_cases hlt : ltS (xs.getD p ⟨#[]⟩) (xs.getD (p + 1) ⟨#[]⟩) = true
      · rw [if_neg (by rw [hlt]; simp)]
        refine hQ _ ⟨_, fun j hj => ?_, rfl⟩
        by_cases e : j = p
        · rw [e]; exact hlt
        · exact h1 j (by omega)
      · rw [if_pos (by rw [Bool.not_eq_true] at hlt; rw [hlt]; rfl)]
        have : goAsc k none (xs.map .str) = false := by
          rw [← Bool.not_eq_true, hiff]
          exact fun z => hlt (z.2 p (by omega))
        rw [hl, this]

end G
end
section
set_option linter.all false
set_option autoImplicit false
set_option maxRecDepth 100000
set_option maxHeartbeats 4000000
namespace G
open PySem VF L2
local macro_rules | `(tactic| walk_at "sx") => `(tactic| (try simp only [T_is_number, mu_is_number, T_is_word, mu_is_word, T_opposite, mu_opposite, T_part, mu_part, T_are_cuts, mu_are_cuts, T_is_lane_book, mu_is_lane_book, T_occurs_joined, mu_occurs_joined, T_shows_product, mu_shows_product, T__law_stream, mu__law_stream, T__law_take, mu__law_take, T__law_same, mu__law_same, T__law_lot, mu__law_lot, T__law_lots, mu__law_lots, T__law_opposite, mu__law_opposite, T__law_standard, mu__law_standard, T__law_bus, mu__law_bus, T__law_lanes, mu__law_lanes, T__law_occurs, mu__law_occurs, T__law_clash, mu__law_clash, T__law_is_lane, mu__law_is_lane, T__law_right, mu__law_right, T__law_lane_word, mu__law_lane_word, T__law_with, mu__law_with, T__law_books, mu__law_books, T__law_drawn, mu__law_drawn, T__law_cut_spoilt, mu__law_cut_spoilt, T__law_words_spoilt, mu__law_words_spoilt, T__law_books_spoilt, mu__law_books_spoilt, T_law, mu_law, bnd_tp, bnds_n, bnds_c, Option.bind_some, eqv_nil, List.drop_nil, List.drop_succ_cons, List.drop_zero, tx1, eW, eL, atI_z, atI_o, int0, int1, shp_int, shp_none, shp_bool, eqv_int, eqv_str, wipeR_c, wipeR_n, backR_c, backR_n, lit_e, lit_0, lit_1, lit_10, lit_01, lit_m, Tx_list, Tx_len, pow18, exists_and_left, decide_eq_true_eq, List.length_map, atI_map, u_popI, s_retN, s_pas, s_brk, s_cnt, s_whl, ex_ite, ex_map, ex_bind, ex_some, ex_bool, ite_no, o_addI, o_subI, o_mulI, o_fdivI, o_modI, o_powI, o_addS, o_addT, o_catL, c_ltI, c_leI, c_gtI, c_geI, c_eq, c_ne, c_ltS, c_ltT, c_inS, c_inL, c_ninL, c_inT, c_ninT, b_lenL, b_lenT, b_lenS, b_intI, b_intB, b_intS, b_strI, b_tupL, b_tupT, b_lstL, b_lstT, b_lstS, b_srt, b_sum, b_max2, b_min2, b_abs, b_any, b_all, x_l, x_t, x_s, n_non, n_int, n_str, n_tup, n_lst, n_bool, k_join, u_app, u_rev, i_l, i_t, i_s, g_1, g_2, startR, bnd_nm, outsTo, mutOuts, List.map_cons, List.map_nil, List.cons_append, List.nil_append, List.length_cons, List.length_nil, List.getElem?_cons_zero, List.getElem?_cons_succ, Option.some.injEq, exists_eq_left', exists_eq_left, exists_eq, exists_eq', List.set_cons_zero, List.set_cons_succ, and_true, true_and, Option.map_some, PyData.bool.injEq, PyData.int.injEq, PyData.list.injEq, PyData.str.injEq, PyData.tuple.injEq, ite_true, ite_false, if_true, if_false, Bool.false_eq_true, Nat.sub_self, List.replicate_zero, List.append_nil, List.replicate_succ, Nat.zero_add, Nat.reduceAdd, Nat.reduceSub, Nat.reduceLT, ctxN, Option.getD_some, on_ss, q_bnd, q_ret, q_none, q_lift, q_itep, q_s, q_d, q_pv, q_asB, q_call, q_neg, q_so, q_no, q_mu, q_cons, q_nil, t_asg, t_ex, t_ret, t_ife, t_set, t_fr, qo_con, qo_glo, qo_tup, qo_lst, qo_op, qo_neg, qo_cmp, qo_isN, qo_and, qo_or, qo_not, qo_ite, qo_fn, qo_bi, qo_me, qo_mu, qo_ix, qo_sl, qo_comp, qo_eqR, qe_var, qe_con, qe_glo, qe_tup, qe_lst, qe_op, qe_cmp, qe_isN, qe_and, qe_or, qe_not, qe_ite, qe_fn, qe_bi, qe_me, qe_ix, qe_sl, qe_eqR, qm_es_n, qm_es_c, qm_ps_n, qm_ps_c, qm_as_n, qm_as_t, qm_as_f, qm_as_e, qm_i_seq, qm_i_rng1, qm_i_rng2, qm_i_enum, qm_i_zip2, qm_i_rev1, qm_i_rev2, qr_n, qr_c, qo_isi, qo_chn, qo_rev, qe_isi, qe_chn, qe_rev, qm_i_zip3, kd_ii, kd_ib, kd_is, kd_in, kd_il, kd_it, kd_bi, kd_bb, kd_bs, kd_bn, kd_bl, kd_bt, kd_si, kd_sb, kd_ss, kd_sn, kd_sl, kd_st, kd_ti, kd_tb, kd_ts, kd_tn, kd_tl, kd_tt, rv_t, sl_l, sl_s, c_inS1, c_ninS1, c_geS, it_sq, ix_sq, len_sq, lst_sq, tup_sq, ltS_Tx, it_Tx, sl_t, cut_to, bnd_nat]))

def smB (b : D) : Prop := ∀ bs, b = .tuple bs → ∀ x ∈ bs, ∀ ws, x = .tuple ws → ws.length ≤ 10000
theorem lanesOf_fst (size : Nat) (cs : List Nat) : (lanesOf size cs).map (·.1) = 0 :: cs := by
  unfold lanesOf
  rw [List.map_fst_zip]
  simp
theorem lanesOf_snd (size : Nat) (cs : List Nat) : (lanesOf size cs).map (·.2) = cs ++ [size] := by
  unfold lanesOf
  rw [List.map_snd_zip]
  simp
theorem natsD_len (cs : List D) : (natsD cs).length = cs.length := by simp [natsD]
theorem words_len {b : D} {n : Nat} (hn : ∀ ws, b = .tuple ws → ws.length ≤ n) : (wordsD b).length ≤ n := by
  cases b with
  | tuple ws => simpa [wordsD] using hn ws rfl
  | _ => simp [wordsD]
theorem right_ok (m : Nat) (hm : 3 ≤ m) (size : Nat) (ls : List Lot) (h0 : 0 < size) (hs6 : size ≤ 60) (hls : ∀ l ∈ ls, LotOk size l) (c b : D) (hc : shw c = true) (hb : shw b = true) (hsm : smB b) :
    callN T m 20 [eB size ls, c, b] = some (.ok (.bool (prodOk size ls c b)) []) := by
  obtain ⟨n, rfl⟩ : ∃ n, m = n + 3 := ⟨m - 3, by omega⟩
  have k16 := fun (cs : List Nat) (h : cs.length ≤ 1000) => lanes_ok (n + 2) (by omega) size cs h
  have k19 := fun (d : D) (k : Int) (h : shw d = true) (hz : ∀ ws, d = .tuple ws → ws.length ≤ 100000) => islane_ok (n + 2) (by omega) d k h hz
  have k18 := fun (lns : List (Nat × Nat)) (bks : List (List (List Nat))) h1 h2 h3 => clashL_ok (n + 2) (by omega) true true size ls lns bks hls h1 h2 h3
  refine call_eq ?_
  obtain ⟨C, hC⟩ : ∃ C, callN T (n + 2) = C := ⟨_, rfl⟩
  simp only [hC, sqD, if_true] at k16 k18 k19
  apply call_okC C hC T__law_right rfl
  clear hC
  unfold f__law_right
  simp only [startR, List.length_cons, List.length_nil, List.map_cons, List.map_nil, List.cons_append, List.nil_append, Nat.reduceAdd, Nat.reduceSub, List.replicate_succ, List.replicate_zero]
  refine rn_seq (fun ρ => ∃ cs bs, c = .tuple cs ∧ b = .tuple bs ∧ bs.length = cs.length + 1 ∧ ρ = [some (eB size ls), some c, some b, none, none, none, none]) ?_ ?_
  · cases c with
    | dict kvs => simp [shw] at hc
    | int i => walk_at "sx"; try simp [prodOk]
    | bool i => walk_at "sx"; try simp [prodOk]
    | none => walk_at "sx"; try simp [prodOk]
    | list i => walk_at "sx"; try simp [prodOk]
    | str i => walk_at "sx"; try simp [prodOk]
    | tuple cs =>
      cases b with
      | dict kvs => simp [shw] at hb
      | int i => walk_at "sx"; try simp [prodOk]
      | bool i => walk_at "sx"; try simp [prodOk]
      | none => walk_at "sx"; try simp [prodOk]
      | list i => walk_at "sx"; try simp [prodOk]
      | str i => walk_at "sx"; try simp [prodOk]
      | tuple bs =>
        walk_at "sx"
        refine ⟨by simp [shp_int], ?_⟩
        by_cases he : bs.length = cs.length + 1
        · rw [if_neg (by simp; omega)]
          first | exact he | exact ⟨cs, bs, rfl, rfl, he⟩
        · rw [if_pos (by simp; omega)]
          simp [prodOk, he]
  rintro ρ ⟨cs, bs, rfl, rfl, hlen, rfl⟩
  have hP : prodOk size ls (.tuple cs) (.tuple bs) = (cutsOk size 0 cs && (lanesOk (lanesOf size (natsD cs)) bs && !clashP ls (lanesOf size (natsD cs)) (bs.map wordsD))) := by simp [prodOk, hlen]
  rw [shw, shws_mem] at hc hb
  refine rn_seq (fun ρ => ρ = [some (eB size ls), some (.tuple cs), some (.tuple bs), some (.int 0), none, none, none]) ?_ ?_
  · walk_at "sx"
    try rfl
  rintro ρ rfl
  refine rn_seq (fun ρ => ∃ j3 j4, cutsOk size 0 cs = true ∧ ρ = [some (eB size ls), some (.tuple cs), some (.tuple bs), j3, j4, none, none]) ?_ ?_
  · walk_at "sx"
    refine for_i (fun ds ρ => ∃ (last : Int) (j : Option D), (∀ d ∈ ds, shw d = true) ∧ cutsOk size 0 cs = cutsOk size last ds ∧ ρ = [some (eB size ls), some (.tuple cs), some (.tuple bs), some (.int last), j, none, none]) ?_ ?_ ⟨0, none, hc, rfl, rfl⟩
    · rintro ρ ⟨last, j, h1, e1, rfl⟩
      exact ⟨by rw [e1]; rfl, _, _, rfl⟩
    · rintro x xs ρ ⟨last, j, h1, e1, rfl⟩ Q hQ
      have hxs : ∀ d ∈ xs, shw d = true := fun d hd => h1 d (by simp [hd])
      have hbad : cutsOk size last (x :: xs) = false → prodOk size ls (.tuple cs) (.tuple bs) = false := fun z => by rw [hP, e1, z]; rfl
      cases x with
      | dict kvs => have := h1 (.dict kvs) (by simp); simp [shw] at this
      | bool i => walk_at "sx"; rw [hbad rfl]; try simp
      | str i => walk_at "sx"; rw [hbad rfl]; try simp
      | none => walk_at "sx"; rw [hbad rfl]; try simp
      | list i => walk_at "sx"; rw [hbad rfl]; try simp
      | tuple i => walk_at "sx"; rw [hbad rfl]; try simp
      | int w =>
        walk_at "sx"
        by_cases c1 : w ≤ last
        · try rw [if_pos c1]
          rw [hbad (by simp [cutsOk]; omega)]
          try simp
        · try rw [if_neg c1]
          by_cases c2 : (size : Int) ≤ w
          · try rw [if_pos c2]
            rw [hbad (by simp [cutsOk]; omega)]
            try simp
          · try rw [if_neg c2]
            refine hQ _ ⟨w, _, hxs, ?_, rfl⟩
            rw [e1]
            have : last < w ∧ w < (size : Int) := by omega
            simp [cutsOk, this]
  rintro ρ ⟨j3, j4, hcut, rfl⟩
  obtain ⟨ecs, hwf, hcl⟩ := cutsOk_nat cs 0 h0 hcut
  rw [hcut, Bool.true_and] at hP
  generalize hns : natsD cs = ns at *
  have hnl : ns.length = cs.length := by rw [← hns]; exact natsD_len cs
  generalize hln : lanesOf size ns = lns at *
  have hll : lns.length = cs.length + 1 := by rw [← hln, lanesOf_len, hnl]
  have hwf' : ∀ p ∈ lns, p.1 < p.2 := by rw [← hln]; exact hwf
  have k16 := k16 ns (by omega)
  rw [hln] at k16
  subst ecs
  refine rn_seq (fun ρ => ρ = [some (eB size ls), some (.tuple (iL ns)), some (.tuple bs), j3, j4, some (.list (lns.map eN)), none]) ?_ ?_
  · walk_at "sx"
    rw [k16]
    walk_at "sx"
    try rfl
  rintro ρ rfl
  refine rn_seq (fun ρ => ∃ j6, lanesOk lns bs = true ∧ ρ = [some (eB size ls), some (.tuple (iL ns)), some (.tuple bs), j3, j4, some (.list (lns.map eN)), j6]) ?_ ?_
  · walk_at "sx"
    refine ⟨bnd_nat (by omega), rng_i (fun i ρ => ∃ j6, lanesOk lns bs = lanesOk (lns.drop i) (bs.drop i) ∧ ρ = [some (eB size ls), some (.tuple (iL ns)), some (.tuple bs), j3, j4, some (.list (lns.map eN)), j6]) 0 lns.length _ rfl (by omega) ?_ ?_ ⟨none, rfl, rfl⟩⟩
    · rintro ρ ⟨j6, e1, rfl⟩
      rw [List.drop_length, List.drop_of_length_le (by omega)] at e1
      exact ⟨e1, _, rfl⟩
    · rintro i ρ - hi ⟨j6, e1, rfl⟩ Q hQ
      rw [drop_getD hi (0, 0), drop_getD (show i < bs.length by omega) PyData.none] at e1
      have a1 : atI lns (i : Int) = some (lns.getD i (0, 0)) := atI_nat hi _
      have a2 : atI bs (i : Int) = some (bs.getD i PyData.none) := atI_nat (by omega) _
      have hm := getD_mem (show i < bs.length by omega) PyData.none
      generalize lns.getD i (0, 0) = ln at *
      generalize bs.getD i PyData.none = bk at *
      have q := k19 bk ((ln.2 : Int) - (ln.1 : Int)) (hb bk hm) (fun ws e => Nat.le_trans (hsm bs rfl bk hm ws e) (by omega))
      walk_at "sx"
      refine ⟨_, a2, _, a1, ?_⟩
      walk_at "sx"
      refine ⟨_, a1, ?_⟩
      walk_at "sx"
      rw [q]
      walk_at "sx"
      simp only [lanesOk] at e1
      cases hlo : laneOk ((ln.2 : Int) - (ln.1 : Int)) bk with
      | true =>
        rw [hlo, Bool.true_and] at e1
        rw [if_neg (by simp)]
        exact hQ _ ⟨_, e1, rfl⟩
      | false =>
        rw [hlo, Bool.false_and] at e1
        simp only [Bool.not_false, if_true]
        rw [hP, e1]
        try rfl
  rintro ρ ⟨j6, hlo, rfl⟩
  rw [hlo, Bool.true_and] at hP
  obtain ⟨hLB, ebs⟩ := lanesOk_LBs hwf' hlo
  have q := k18 lns (bs.map wordsD) (by omega) (fun x hx => by
    obtain ⟨y, hy, rfl⟩ := List.mem_map.mp hx
    exact words_len fun ws e => hsm bs rfl y hy ws e) hLB
  rw [← ebs] at q
  walk_at "sx"
  rw [q]
  walk_at "sx"
  rw [hP]
theorem shows_ok (m : Nat) (hm : 3 ≤ m) (size : Nat) (ls : List Lot) (h0 : 0 < size) (hs6 : size ≤ 60) (hls : ∀ l ∈ ls, LotOk size l) (c b : D) (hc : shw c = true) (hb : shw b = true) (hsm : smB b) :
    callN T m 7 [eB size ls, c, b] = some (.ok (.bool (prodOk size ls c b)) []) := by
  obtain ⟨n, rfl⟩ : ∃ n, m = n + 3 := ⟨m - 3, by omega⟩
  have k4 := fun (d : D) (h : shw d = true) => cuts_ok (n + 2) (by omega) size ls d h
  have k5 := fun (d : D) (k : Int) (h : shw d = true) => lanebook_ok (n + 2) (by omega) d k h
  have k6 := fun (ws pt : List Nat) (lns : List (Nat × Nat)) (bks : List (List (List Nat))) h1 h2 h3 h4 h5 => pocc_ok (n + 2) (by omega) ws pt lns bks h1 h2 h3 h4 h5
  have k2 := fun (w : List Nat) h1 h2 => opposite_ok (n + 2) (by omega) w h1 h2
  refine call_eq ?_
  obtain ⟨C, hC⟩ : ∃ C, callN T (n + 2) = C := ⟨_, rfl⟩
  simp only [hC, eW] at k4 k5 k6 k2
  apply call_okC C hC T_shows_product rfl
  clear hC
  unfold f_shows_product
  simp only [startR, List.length_cons, List.length_nil, List.map_cons, List.map_nil, List.cons_append, List.nil_append, Nat.reduceAdd, Nat.reduceSub, List.replicate_succ, List.replicate_zero]
  have k4 := k4 c hc
  refine rn_seq (fun ρ => ∃ cs bs, c = .tuple cs ∧ b = .tuple bs ∧ bs.length = cs.length + 1 ∧ cutsOk size 0 cs = true ∧ ρ = [some (eB size ls), some c, some b, none, none, none, none, none, none]) ?_ ?_
  · walk_at "sx"
    rw [k4]
    walk_at "sx"
    cases c with
    | dict kvs => simp [shw] at hc
    | int i => simp [prodOk]
    | bool i => simp [prodOk]
    | none => simp [prodOk]
    | list i => simp [prodOk]
    | str i => simp [prodOk]
    | tuple cs =>
      simp only
      by_cases hcut : cutsOk size 0 cs = true
      · simp only [hcut]
        walk_at "sx"
        cases b with
        | dict kvs => simp [shw] at hb
        | int i => walk_at "sx"; try simp [prodOk]
        | bool i => walk_at "sx"; try simp [prodOk]
        | none => walk_at "sx"; try simp [prodOk]
        | list i => walk_at "sx"; try simp [prodOk]
        | str i => walk_at "sx"; try simp [prodOk]
        | tuple bs =>
          walk_at "sx"
          try rw [if_neg (by simp)]
          refine ⟨by simp [shp_int], ?_⟩
          by_cases he : bs.length = cs.length + 1
          · rw [if_neg (by simp; omega)]
            first | exact ⟨he, hcut⟩ | exact ⟨cs, bs, rfl, rfl, he, hcut, rfl⟩
          · rw [if_pos (by simp; omega)]
            simp [prodOk, he]
      · rw [Bool.not_eq_true] at hcut
        simp only [hcut]
        walk_at "sx"
        cases b <;> simp [prodOk, hcut]
  rintro ρ ⟨cs, bs, rfl, rfl, hlen, hcut, rfl⟩
  have hP : prodOk size ls (.tuple cs) (.tuple bs) = (lanesOk (lanesOf size (natsD cs)) bs && !clashP ls (lanesOf size (natsD cs)) (bs.map wordsD)) := by simp [prodOk, hlen, hcut]
  rw [shw, shws_mem] at hc hb
  obtain ⟨ecs, hwf, hcl⟩ := cutsOk_nat cs 0 h0 hcut
  generalize hns : natsD cs = ns at *
  have hnl : ns.length = cs.length := by rw [← hns]; exact natsD_len cs
  have hfst := lanesOf_fst size ns
  have hsnd := lanesOf_snd size ns
  generalize hln : lanesOf size ns = lns at *
  have hll : lns.length = cs.length + 1 := by rw [← hln, lanesOf_len, hnl]
  have hwf' : ∀ p ∈ lns, p.1 < p.2 := by rw [← hln]; exact hwf
  subst ecs
  refine rn_seq (fun ρ => ρ = [some (eB size ls), some (.tuple (iL ns)), some (.tuple bs), some (.tuple (iL (lns.map (·.1)))), none, none, none, none, none]) ?_ ?_
  · walk_at "sx"
    rw [hfst]
    refine ⟨rfl, by simp [okLen]; omega, ?_⟩
    first | rfl | simp
  rintro ρ rfl
  refine rn_seq (fun ρ => ∃ j4 j5 j6, lanesOk lns bs = true ∧ ρ = [some (eB size ls), some (.tuple (iL ns)), some (.tuple bs), some (.tuple (iL (lns.map (·.1)))), j4, j5, j6, none, none]) ?_ ?_
  · walk_at "sx"
    have e2 : iL ns ++ [PyData.int (size : Nat)] = iL (lns.map (·.2)) := by rw [hsnd]; simp
    refine ⟨rfl, by simp [okLen]; omega, ?_⟩
    rw [e2]
    refine for_i (fun ds ρ => ∃ (l : List (Nat × Nat)) (b : List D) (j4 j5 j6 : Option D), l.length = b.length ∧ ds = zip3D (iL (l.map (·.1))) (iL (l.map (·.2))) b ∧ (∀ x ∈ b, shw x = true) ∧ lanesOk lns bs = lanesOk l b ∧ ρ = [some (eB size ls), some (.tuple (iL ns)), some (.tuple bs), some (.tuple (iL (lns.map (·.1)))), j4, j5, j6, none, none]) ?_ ?_ ⟨lns, bs, none, none, none, by omega, rfl, hb, rfl, rfl⟩
    · rintro ρ ⟨l, b, j4, j5, j6, hlb, e0, h1, e1, rfl⟩
      have : l = [] ∧ b = [] := by
        cases l with
        | nil => cases b with
          | nil => exact ⟨rfl, rfl⟩
          | cons => simp at hlb
        | cons x l => cases b with
          | nil => simp at hlb
          | cons y b => simp [zip3D] at e0
      obtain ⟨rfl, rfl⟩ := this
      exact ⟨e1, _, _, _, rfl⟩
    · rintro x xs ρ ⟨l, b, j4, j5, j6, hlb, e0, h1, e1, rfl⟩ Q hQ
      cases l with
      | nil => simp [zip3D] at e0
      | cons ln l =>
      cases b with
      | nil => simp at hlb
      | cons bk b =>
      simp only [List.map_cons, zip3D, List.cons.injEq] at e0
      obtain ⟨rfl, rfl⟩ := e0
      have q := k5 bk ((ln.2 : Int) - (ln.1 : Int)) (h1 bk (by simp))
      refine ⟨[some (eB size ls), some (.tuple (iL ns)), some (.tuple bs), some (.tuple (iL (lns.map (·.1)))), some (.int (ln.1 : Nat)), some (.int (ln.2 : Nat)), some bk, none, none], by walk_at "sx", ?_⟩
      rw [on_ss]
      walk_at "sx"
      rw [q]
      walk_at "sx"
      simp only [lanesOk] at e1
      cases hlo : laneOk ((ln.2 : Int) - (ln.1 : Int)) bk with
      | true =>
        rw [hlo, Bool.true_and] at e1
        rw [if_neg (by simp)]
        exact hQ _ ⟨l, b, _, _, _, by simpa using hlb, rfl, fun x hx => h1 x (by simp [hx]), e1, rfl⟩
      | false =>
        rw [hlo, Bool.false_and] at e1
        simp only [Bool.not_false, if_true]
        rw [hP, e1]
        try rfl
  rintro ρ ⟨j4, j5, j6, hlo, rfl⟩
  rw [hlo, Bool.true_and] at hP
  obtain ⟨hLB, ebs⟩ := lanesOk_LBs hwf' hlo
  generalize hbk : bs.map wordsD = bks at *
  have hbz : ∀ b ∈ bks, b.length ≤ 10000 := fun x hx => by
    rw [← hbk] at hx
    obtain ⟨y, hy, rfl⟩ := List.mem_map.mp hx
    exact words_len fun ws e => hsm bs rfl y hy ws e
  walk_at "sx"
  refine lst_i eL (fun rest ρ => ∃ (j7 j8 : Option D), (∀ l ∈ rest, LotOk size l) ∧ clashP ls lns bks = clashP rest lns bks ∧ ρ = [some (eB size ls), some (.tuple (iL ns)), some (.tuple bs), some (.tuple (iL (lns.map (·.1)))), j4, j5, j6, j7, j8]) ls ?_ ?_ ⟨none, none, hls, rfl, rfl⟩
  · rintro ρ ⟨j7, j8, h1, e1, rfl⟩
    walk_at "sx"
    rw [hP, e1]
    rfl
  · rintro l rest ρ ⟨j7, j8, h1, e1, rfl⟩ Q hQ
    have hl := h1 l (by simp)
    have hr : ∀ l ∈ rest, LotOk size l := fun l hl => h1 l (by simp [hl])
    have q1 := k6 l.ws l.pt lns bks hl.bn hl.ln hl.sz hbz hLB
    have q2 := k6 l.ws (opp l.pt) lns bks (opp_bin hl.bn) (by rw [opp_len]; exact hl.ln) hl.sz hbz hLB
    have q3 := k2 l.pt hl.bn (by rw [hl.ln]; have := hl.sz; omega)
    have ew : (bks.map fun b => PyData.tuple (b.map eW)) = bs := ebs.symm
    rw [ew] at q1 q2
    have ec : clashP (l :: rest) lns bks = ((occ l.ws l.pt lns bks && occ l.ws (opp l.pt) lns bks) || clashP rest lns bks) := rfl
    rw [ec] at e1
    simp only [eL, eW]
    walk_at "sx"
    rw [q1]
    walk_at "sx"
    cases o1 : occ l.ws l.pt lns bks with
    | false =>
      rw [o1] at e1
      walk_at "sx"
      exact hQ _ ⟨_, _, hr, by simpa using e1, rfl⟩
    | true =>
      rw [o1] at e1
      walk_at "sx"
      rw [q3]
      walk_at "sx"
      rw [q2]
      walk_at "sx"
      cases o2 : occ l.ws (opp l.pt) lns bks with
      | false =>
        rw [o2] at e1
        walk_at "sx"
        exact hQ _ ⟨_, _, hr, by simpa using e1, rfl⟩
      | true =>
        rw [o2] at e1
        walk_at "sx"
        rw [hP, e1]
        simp

end G
end
section
set_option linter.all false
set_option autoImplicit false
set_option maxRecDepth 100000
set_option maxHeartbeats 4000000
namespace G
open PySem VF L2
local macro_rules | `(tactic| walk_at "sx") => `(tactic| (try simp only [T_is_number, mu_is_number, T_is_word, mu_is_word, T_opposite, mu_opposite, T_part, mu_part, T_are_cuts, mu_are_cuts, T_is_lane_book, mu_is_lane_book, T_occurs_joined, mu_occurs_joined, T_shows_product, mu_shows_product, T__law_stream, mu__law_stream, T__law_take, mu__law_take, T__law_same, mu__law_same, T__law_lot, mu__law_lot, T__law_lots, mu__law_lots, T__law_opposite, mu__law_opposite, T__law_standard, mu__law_standard, T__law_bus, mu__law_bus, T__law_lanes, mu__law_lanes, T__law_occurs, mu__law_occurs, T__law_clash, mu__law_clash, T__law_is_lane, mu__law_is_lane, T__law_right, mu__law_right, T__law_lane_word, mu__law_lane_word, T__law_with, mu__law_with, T__law_books, mu__law_books, T__law_drawn, mu__law_drawn, T__law_cut_spoilt, mu__law_cut_spoilt, T__law_words_spoilt, mu__law_words_spoilt, T__law_books_spoilt, mu__law_books_spoilt, T_law, mu_law, bnd_tp, bnds_n, bnds_c, Option.bind_some, eqv_nil, List.drop_nil, List.drop_succ_cons, List.drop_zero, tx1, eW, eL, atI_z, atI_o, int0, int1, shp_int, shp_none, shp_bool, eqv_int, eqv_str, wipeR_c, wipeR_n, backR_c, backR_n, lit_e, lit_0, lit_1, lit_10, lit_01, lit_m, Tx_list, Tx_len, pow18, exists_and_left, decide_eq_true_eq, List.length_map, atI_map, u_popI, s_retN, s_pas, s_brk, s_cnt, s_whl, ex_ite, ex_map, ex_bind, ex_some, ex_bool, ite_no, o_addI, o_subI, o_mulI, o_fdivI, o_modI, o_powI, o_addS, o_addT, o_catL, c_ltI, c_leI, c_gtI, c_geI, c_eq, c_ne, c_ltS, c_ltT, c_inS, c_inL, c_ninL, c_inT, c_ninT, b_lenL, b_lenT, b_lenS, b_intI, b_intB, b_intS, b_strI, b_tupL, b_tupT, b_lstL, b_lstT, b_lstS, b_srt, b_sum, b_max2, b_min2, b_abs, b_any, b_all, x_l, x_t, x_s, n_non, n_int, n_str, n_tup, n_lst, n_bool, k_join, u_app, u_rev, i_l, i_t, i_s, g_1, g_2, startR, bnd_nm, outsTo, mutOuts, List.map_cons, List.map_nil, List.cons_append, List.nil_append, List.length_cons, List.length_nil, List.getElem?_cons_zero, List.getElem?_cons_succ, Option.some.injEq, exists_eq_left', exists_eq_left, exists_eq, exists_eq', List.set_cons_zero, List.set_cons_succ, and_true, true_and, Option.map_some, PyData.bool.injEq, PyData.int.injEq, PyData.list.injEq, PyData.str.injEq, PyData.tuple.injEq, ite_true, ite_false, if_true, if_false, Bool.false_eq_true, Nat.sub_self, List.replicate_zero, List.append_nil, List.replicate_succ, Nat.zero_add, Nat.reduceAdd, Nat.reduceSub, Nat.reduceLT, ctxN, Option.getD_some, on_ss, q_bnd, q_ret, q_none, q_lift, q_itep, q_s, q_d, q_pv, q_asB, q_call, q_neg, q_so, q_no, q_mu, q_cons, q_nil, t_asg, t_ex, t_ret, t_ife, t_set, t_fr, qo_con, qo_glo, qo_tup, qo_lst, qo_op, qo_neg, qo_cmp, qo_isN, qo_and, qo_or, qo_not, qo_ite, qo_fn, qo_bi, qo_me, qo_mu, qo_ix, qo_sl, qo_comp, qo_eqR, qe_var, qe_con, qe_glo, qe_tup, qe_lst, qe_op, qe_cmp, qe_isN, qe_and, qe_or, qe_not, qe_ite, qe_fn, qe_bi, qe_me, qe_ix, qe_sl, qe_eqR, qm_es_n, qm_es_c, qm_ps_n, qm_ps_c, qm_as_n, qm_as_t, qm_as_f, qm_as_e, qm_i_seq, qm_i_rng1, qm_i_rng2, qm_i_enum, qm_i_zip2, qm_i_rev1, qm_i_rev2, qr_n, qr_c, qo_isi, qo_chn, qo_rev, qe_isi, qe_chn, qe_rev, qm_i_zip3, kd_ii, kd_ib, kd_is, kd_in, kd_il, kd_it, kd_bi, kd_bb, kd_bs, kd_bn, kd_bl, kd_bt, kd_si, kd_sb, kd_ss, kd_sn, kd_sl, kd_st, kd_ti, kd_tb, kd_ts, kd_tn, kd_tl, kd_tt, rv_t, sl_l, sl_s, c_inS1, c_ninS1, c_geS, it_sq, ix_sq, len_sq, lst_sq, tup_sq, ltS_Tx, it_Tx, sl_t, cut_to, bnd_nat]))

theorem okl {n : Nat} (h : n ≤ 16777216) : okLen n = true := by unfold okLen; exact decide_eq_true h
theorem cutS_Tx (w : List Nat) (lo hi : Option Int) : cutS (Tx w) lo hi = Tx (cutD w lo hi) := by
  unfold cutS cutD
  rw [Tx_list, Tx_len]
  rfl
theorem wp_fsub {X : VF.Ctx} {el c : E} {tg : Tg} {it : I} {vs : List Nat} {Q : D → Rho → Prop} {E : Exn → Rho → Prop} {α σ : Type} (f : σ → Rho) (Iv : σ → Prop) (xs : List α) (enc g : α → D) (s0 : σ) (hs0 : Iv s0) (hl : xs.length ≤ 16777216)
    (hi : Wp (evI X it) (f s0) (fun ds ρ1 => ds = xs.map enc ∧ ρ1 = f s0) E)
    (hs : ∀ x ∈ xs, ∀ s, Iv s → ∃ ρ1, bindT tg (enc x) (wipeR (f s) vs) = some ρ1 ∧ Wp (M.bnd (evE X c) asB) ρ1 (fun t ρ2 => ∃ s', Iv s' ∧ if t = true then Wp (evE X el) ρ2 (fun y ρ3 => y = g x ∧ wipeR ρ3 vs = wipeR (f s') vs) (fun _ _ => False) else wipeR ρ2 vs = wipeR (f s') vs) fun _ _ => False)
    (hQ : ∀ ys : List α, ∀ s' : σ, ys.Sublist xs → Iv s' → Q (.list (ys.map g)) (backR (f s0) vs (wipeR (f s') vs))) : Wp (evE X (.comp el tg it (some c) vs)) (f s0) Q E := by
  refine wp_comp (fun ds ys ρ' => ∃ s, Iv s ∧ ρ' = wipeR (f s) vs ∧ ∃ (a b bs : List α), xs = a ++ b ∧ ds = b.map enc ∧ ys = bs.map g ∧ bs.Sublist a) ?_ (wp_mono hi (fun ds ρ1 ⟨h1, h2⟩ => ?_) fun _ _ h => h)
  · rintro x ds ys ρ' ⟨s, hI, rfl, a, b, bs, e1, e2, rfl, hS⟩
    cases b with
    | nil => simp at e2
    | cons z b =>
      simp only [List.map_cons, List.cons.injEq] at e2
      obtain ⟨rfl, rfl⟩ := e2
      obtain ⟨ρ1, e3, q⟩ := hs z (by rw [e1]; simp) s hI
      refine ⟨ρ1, e3, ?_⟩
      show Wp (M.bnd (evE X c) asB) ρ1 _ _
      refine wp_mono q (fun t ρ2 ⟨s', hI', q⟩ => ?_) fun _ _ h => h
      cases t with
      | true =>
        rw [if_pos rfl] at q ⊢
        refine wp_mono q (fun y ρ3 ⟨h3, h4⟩ => ⟨s', hI', h4, a ++ [z], b, bs ++ [z], by rw [e1]; simp, rfl, by rw [h3]; simp, hS.append (List.Sublist.refl _)⟩) fun _ _ h => h
      | false =>
        rw [if_neg (by simp)] at q ⊢
        exact ⟨s', hI', q, a ++ [z], b, bs, by rw [e1]; simp, rfl, rfl, hS.trans (List.sublist_append_left _ _)⟩
  · subst h1 h2
    refine ⟨by simp [okLen, hl], ⟨s0, hs0, rfl, [], xs, [], rfl, rfl, rfl, .slnil⟩, ?_⟩
    rintro zs ρ' ⟨s, hI, rfl, a, b, bs, e1, e2, e3, hS⟩
    cases b with
    | cons => simp at e2
    | nil =>
      rw [List.append_nil] at e1
      subst e1
      rw [e3]
      exact hQ bs s hS hI
theorem flip_bin {c : Nat} : flipC c = 48 ∨ flipC c = 49 := by unfold flipC; split <;> simp
theorem laneword_ok (m : Nat) (hm : 2 ≤ m) (t : Bool) (ln : Nat × Nat) (b : List (List Nat)) (hlt : ln.1 < ln.2) (hle : ln.2 ≤ 100) (hb : ∀ w ∈ b, WordOk (ln.2 - ln.1) w) (l : List Int) (hs : Strm l) :
    ∃ (w : List Nat) (l' : List Int), callN T m 21 [.list (l.map .int), eN ln, sqD t (b.map eW)] = some (.ok (eW w) [.list (l'.map .int)]) ∧ WordOk (ln.2 - ln.1) w ∧ Strm l' := by
  obtain ⟨n, rfl⟩ : ∃ n, m = n + 2 := ⟨m - 2, by omega⟩
  have ht := tk (n + 1) (by omega)
  have hop := lopp_ok (n + 1) (by omega)
  obtain ⟨s, e⟩ := ln
  simp only at hlt hle hb
  have : CallOk T (n + 2) 21 [.list (l.map .int), eN (s, e), sqD t (b.map eW)] fun d outs => ∃ (w : List Nat) (l' : List Int), d = eW w ∧ outs = [.list (l'.map .int)] ∧ WordOk (e - s) w ∧ Strm l' := by
    obtain ⟨C, hC⟩ : ∃ C, callN T (n + 1) = C := ⟨_, rfl⟩
    simp only [hC, eW] at ht hop
    apply call_okC C hC T__law_lane_word rfl
    clear hC
    unfold f__law_lane_word
    simp only [startR, List.length_cons, List.length_nil, List.map_cons, List.map_nil, List.cons_append, List.nil_append, Nat.reduceAdd, Nat.reduceSub, List.replicate_succ, List.replicate_zero]
    have hsz : (e : Int) - (s : Int) = ((e - s : Nat) : Int) := by omega
    refine rn_seq (fun ρ => ρ = [some (IL l), some (eN (s, e)), some (sqD t (b.map eW)), some (.int ((e - s : Nat) : Nat)), none, none, none]) ?_ ?_
    · walk_at "sx"
      rw [hsz]
    rintro ρ rfl
    refine rn_seq (fun ρ => ∃ l, Strm l ∧ ρ = [some (IL l), some (eN (s, e)), some (sqD t (b.map eW)), some (.int ((e - s : Nat) : Nat)), none, none, none]) ?_ ?_
    · walk_at "sx"
      by_cases c0 : 0 < (b.length : Int)
      · rw [if_pos (by first | exact c0 | simpa using c0)]
        obtain ⟨r, l2, e1, r1, hs2⟩ := ht l hs 2 2 rfl (by omega)
        rw [e1]
        walk_at "sx"
        refine ⟨by simp [shp_int], ?_⟩
        by_cases c1 : (r : Int) = 0
        · rw [if_pos (by first | exact c1 | simpa using c1)]
          obtain ⟨o, l3, e1, o1, hs3⟩ := ht l2 hs2 b.length b.length rfl (by omega)
          rw [e1]
          walk_at "sx"
          refine ⟨b.getD o [], atI_nat o1 _, ?_⟩
          have hw := hb _ (getD_mem o1 [])
          generalize b.getD o [] = w at hw
          have hwl := hw.ln
          obtain ⟨a, l4, e1, a1, hs4⟩ := ht l3 hs3 (e - s) (e - s : Nat) rfl (by omega)
          rw [e1]
          walk_at "sx"
          have a2 : a < w.length := by omega
          refine ⟨w.getD a 48, atI_nat a2 _, ?_⟩
          have hc := hw.bn _ (getD_mem a2 48)
          generalize w.getD a 48 = c at hc
          have := hop [c] (fun x hx => by
            have : x = c := by simpa using hx
            rw [this]; exact hc) (by simp)
          rw [this]
          walk_at "sx"
          simp only [cutS_Tx, cut_to, Tx_add, Tx_len]
          have ea : ((a : Int) + 1) = ((a + 1 : Nat) : Int) := by push_cast; rfl
          rw [ea, cut_from _ _ (by omega)]
          have e9 : (w.take a ++ opp [c] ++ w.drop (a + 1)).length = w.length := by simp [opp]; omega
          have e8 : (w.take a).length + (opp [c]).length = a + 1 := by simp [opp]; omega
          refine ⟨by simp [okLen, opp]; omega, by simp [okLen, opp]; omega, w.take a ++ opp [c] ++ w.drop (a + 1), by simp [eW], l4, rfl, ⟨by omega, fun x hx => ?_⟩, hs4⟩
          rcases List.mem_append.mp hx with hx | hx
          · rcases List.mem_append.mp hx with hx | hx
            · exact hw.bn x (List.mem_of_mem_take hx)
            · have : x = flipC c := by simpa [opp] using hx
              rw [this]; exact flip_bin
          · exact hw.bn x (List.mem_of_mem_drop hx)
        · rw [if_neg (by first | exact c1 | simpa using c1)]
          exact ⟨l2, hs2, rfl⟩
      · rw [if_neg (by first | exact c0 | simpa using c0)]
        exact ⟨l, hs, rfl⟩
    rintro ρ ⟨l, hs, rfl⟩
    walk_at "sx"
    refine wp_gen (fun l => [some (IL l), some (eN (s, e)), some (sqD t (b.map eW)), some (.int ((e - s : Nat) : Nat)), none, none, none]) Strm (fun c => c = 48 ∨ c = 49) (List.range (e - s)) (fun i => .int (i : Nat)) gB l hs (by simp; omega) ?_ ?_ ?_
    · walk_at "sx"
      exact ⟨bnd_nat (by omega), rngD_0 _⟩
    · intro x hx s' hS
      walk_at "sx"
      obtain ⟨r, l2, e1, r1, hs2⟩ := ht s' hS 2 2 rfl (by omega)
      rw [e1]
      walk_at "sx"
      rcases (by omega : r = 0 ∨ r = 1) with rfl | rfl
      · walk_at "sx"
        exact ⟨48, rfl, 48, .inl rfl, l2, hs2, rfl, rfl⟩
      · walk_at "sx"
        exact ⟨49, rfl, 49, .inr rfl, l2, hs2, rfl, rfl⟩
    · intro bs l3 hbb hbl hs3
      rw [List.length_range] at hbl
      walk_at "sx"
      rw [join_list _ (by omega)]
      walk_at "sx"
      exact ⟨bs, rfl, l3, rfl, ⟨hbl, hbb⟩, hs3⟩
  obtain ⟨d, o, h, w, l', rfl, rfl, h1, h2⟩ := this
  exact ⟨w, l', h, h1, h2⟩
theorem with_ok (m : Nat) (hm : 1 ≤ m) (t1 t2 : Bool) (bks : List (List (List Nat))) (a : Nat) (w : List Nat) (ha : a < bks.length) (hbl : bks.length ≤ 1000) (hbz : ∀ b ∈ bks, b.length ≤ 1000) (hbb : ∀ b ∈ bks, ∀ w ∈ b, ∀ c ∈ w, c < 1114112) (hw : ∀ c ∈ w, c < 1114112) :
    ∃ qs, callN T m 22 [sqD t1 (bks.map fun b => sqD t2 (b.map eW)), .int (a : Nat), eW w] = some (.ok (.list ((bks.set a qs).map fun b => .list (b.map eW))) []) ∧ qs.Perm (bks.getD a [] ++ [w]) ∧ qs.Pairwise (fun a b => ¬ b < a) := by
  obtain ⟨n, rfl⟩ : ∃ n, m = n + 1 := ⟨m - 1, by omega⟩
  have hbm := getD_mem ha []
  have hz := hbz _ hbm
  obtain ⟨qs, es, hp, hpw⟩ := srt_words (bks.getD a [] ++ [w]) (fun v hv => by
    rcases List.mem_append.mp hv with hv | hv
    · exact hbb _ hbm v hv
    · have : v = w := by simpa using hv
      rw [this]; exact hw)
  refine ⟨qs, ?_, hp, hpw⟩
  refine call_eq (call_ok T__law_with rfl ?_)
  unfold f__law_with
  refine rn_seq (fun ρ => ρ = [some (sqD t1 (bks.map fun b => sqD t2 (b.map eW))), some (.int (a : Nat)), some (eW w), some (.list (bks.map fun b => .list (b.map eW))), none]) ?_ ?_
  · walk_at "sx"
    refine wp_map bks (fun b => sqD t2 (b.map eW)) (fun b => .list (b.map eW)) (by omega) ?_ ?_ ?_
    · walk_at "sx"
    · intro b hb
      walk_at "sx"
    · walk_at "sx"
  rintro ρ rfl
  walk_at "sx"
  refine ⟨bks.getD a [], atI_nat ha _, ?_⟩
  walk_at "sx"
  have e1 : (bks.getD a []).map eW ++ [PyData.str (Tx w)] = (bks.getD a [] ++ [w]).map eW := by simp [eW]
  rw [e1]
  rw [b_srt] at es
  by_cases hok : sortOk ((bks.getD a [] ++ [w]).map eW) = true
  · rw [if_pos hok] at es
    injection es with es
    injection es with es
    refine ⟨rfl, okl (by omega), hok, a, ixN_nat ha, ?_⟩
    rw [List.map_set, es]
  · rw [if_neg hok] at es
    cases es

end G
end
section
set_option linter.all false
set_option autoImplicit false
set_option maxRecDepth 100000
set_option maxHeartbeats 4000000
namespace G
open PySem VF L2
local macro_rules | `(tactic| walk_at "sx") => `(tactic| (try simp only [T_is_number, mu_is_number, T_is_word, mu_is_word, T_opposite, mu_opposite, T_part, mu_part, T_are_cuts, mu_are_cuts, T_is_lane_book, mu_is_lane_book, T_occurs_joined, mu_occurs_joined, T_shows_product, mu_shows_product, T__law_stream, mu__law_stream, T__law_take, mu__law_take, T__law_same, mu__law_same, T__law_lot, mu__law_lot, T__law_lots, mu__law_lots, T__law_opposite, mu__law_opposite, T__law_standard, mu__law_standard, T__law_bus, mu__law_bus, T__law_lanes, mu__law_lanes, T__law_occurs, mu__law_occurs, T__law_clash, mu__law_clash, T__law_is_lane, mu__law_is_lane, T__law_right, mu__law_right, T__law_lane_word, mu__law_lane_word, T__law_with, mu__law_with, T__law_books, mu__law_books, T__law_drawn, mu__law_drawn, T__law_cut_spoilt, mu__law_cut_spoilt, T__law_words_spoilt, mu__law_words_spoilt, T__law_books_spoilt, mu__law_books_spoilt, T_law, mu_law, bnd_tp, bnds_n, bnds_c, Option.bind_some, eqv_nil, List.drop_nil, List.drop_succ_cons, List.drop_zero, tx1, eW, eL, atI_z, atI_o, int0, int1, shp_int, shp_none, shp_bool, eqv_int, eqv_str, wipeR_c, wipeR_n, backR_c, backR_n, lit_e, lit_0, lit_1, lit_10, lit_01, lit_m, Tx_list, Tx_len, pow18, exists_and_left, decide_eq_true_eq, List.length_map, atI_map, u_popI, s_retN, s_pas, s_brk, s_cnt, s_whl, ex_ite, ex_map, ex_bind, ex_some, ex_bool, ite_no, o_addI, o_subI, o_mulI, o_fdivI, o_modI, o_powI, o_addS, o_addT, o_catL, c_ltI, c_leI, c_gtI, c_geI, c_eq, c_ne, c_ltS, c_ltT, c_inS, c_inL, c_ninL, c_inT, c_ninT, b_lenL, b_lenT, b_lenS, b_intI, b_intB, b_intS, b_strI, b_tupL, b_tupT, b_lstL, b_lstT, b_lstS, b_srt, b_sum, b_max2, b_min2, b_abs, b_any, b_all, x_l, x_t, x_s, n_non, n_int, n_str, n_tup, n_lst, n_bool, k_join, u_app, u_rev, i_l, i_t, i_s, g_1, g_2, startR, bnd_nm, outsTo, mutOuts, List.map_cons, List.map_nil, List.cons_append, List.nil_append, List.length_cons, List.length_nil, List.getElem?_cons_zero, List.getElem?_cons_succ, Option.some.injEq, exists_eq_left', exists_eq_left, exists_eq, exists_eq', List.set_cons_zero, List.set_cons_succ, and_true, true_and, Option.map_some, PyData.bool.injEq, PyData.int.injEq, PyData.list.injEq, PyData.str.injEq, PyData.tuple.injEq, ite_true, ite_false, if_true, if_false, Bool.false_eq_true, Nat.sub_self, List.replicate_zero, List.append_nil, List.replicate_succ, Nat.zero_add, Nat.reduceAdd, Nat.reduceSub, Nat.reduceLT, ctxN, Option.getD_some, on_ss, q_bnd, q_ret, q_none, q_lift, q_itep, q_s, q_d, q_pv, q_asB, q_call, q_neg, q_so, q_no, q_mu, q_cons, q_nil, t_asg, t_ex, t_ret, t_ife, t_set, t_fr, qo_con, qo_glo, qo_tup, qo_lst, qo_op, qo_neg, qo_cmp, qo_isN, qo_and, qo_or, qo_not, qo_ite, qo_fn, qo_bi, qo_me, qo_mu, qo_ix, qo_sl, qo_comp, qo_eqR, qe_var, qe_con, qe_glo, qe_tup, qe_lst, qe_op, qe_cmp, qe_isN, qe_and, qe_or, qe_not, qe_ite, qe_fn, qe_bi, qe_me, qe_ix, qe_sl, qe_eqR, qm_es_n, qm_es_c, qm_ps_n, qm_ps_c, qm_as_n, qm_as_t, qm_as_f, qm_as_e, qm_i_seq, qm_i_rng1, qm_i_rng2, qm_i_enum, qm_i_zip2, qm_i_rev1, qm_i_rev2, qr_n, qr_c, qo_isi, qo_chn, qo_rev, qe_isi, qe_chn, qe_rev, qm_i_zip3, kd_ii, kd_ib, kd_is, kd_in, kd_il, kd_it, kd_bi, kd_bb, kd_bs, kd_bn, kd_bl, kd_bt, kd_si, kd_sb, kd_ss, kd_sn, kd_sl, kd_st, kd_ti, kd_tb, kd_ts, kd_tn, kd_tl, kd_tt, rv_t, sl_l, sl_s, c_inS1, c_ninS1, c_geS, it_sq, ix_sq, len_sq, lst_sq, tup_sq, ltS_Tx, it_Tx, sl_t, cut_to, bnd_nat]))

theorem nodup_asc {b : List (List Nat)} (h : b.Pairwise (fun a b => ¬ b < a)) (hn : b.Nodup) : b.Pairwise (fun a b => a < b) := (h.and hn).imp fun ⟨x, y⟩ => lt_or _ _ x y
theorem occ_get : ∀ {ws pt : List Nat} {lns : List (Nat × Nat)} {bks : List (List (List Nat))}, occ ws pt lns bks = true → ∀ k, k < lns.length → k < bks.length → part pt (insd ws (lns.getD k (0, 0)).1 (lns.getD k (0, 0)).2) ∈ (bks.getD k []).map fun w => part w (plc ws (insd ws (lns.getD k (0, 0)).1 (lns.getD k (0, 0)).2) (lns.getD k (0, 0)).1)
  | ws, pt, [], bks, h, k, hk, hk2 => by simp at hk
  | ws, pt, _ :: _, [], h, k, hk, hk2 => by simp at hk2
  | ws, pt, ln :: lns, b :: bks, h, 0, hk, hk2 => by
    simp only [occ, Bool.and_eq_true, decide_eq_true_eq] at h
    simpa using h.1
  | ws, pt, ln :: lns, b :: bks, h, k + 1, hk, hk2 => by
    simp only [occ, Bool.and_eq_true] at h
    simpa using occ_get h.2 k (by simpa using hk) (by simpa using hk2)
def Cov (size : Nat) (lns : List (Nat × Nat)) : Prop := ∀ v, v < size → ∃ k, k < lns.length ∧ (lns.getD k (0, 0)).1 ≤ v ∧ v < (lns.getD k (0, 0)).2
theorem cov_zip (size : Nat) : ∀ (ns : List Nat) (a v : Nat), a ≤ v → v < size → ∃ k, k < ((a :: ns).zip (ns ++ [size])).length ∧ (((a :: ns).zip (ns ++ [size])).getD k (0, 0)).1 ≤ v ∧ v < (((a :: ns).zip (ns ++ [size])).getD k (0, 0)).2
  | [], a, v, h1, h2 => ⟨0, by simp, by simpa using h1, by simpa using h2⟩
  | x :: ns, a, v, h1, h2 => by
    by_cases h : v < x
    · exact ⟨0, by simp, by simpa using h1, by simpa using h⟩
    · obtain ⟨k, g1, g2, g3⟩ := cov_zip size ns x v (by omega) h2
      exact ⟨k + 1, by simpa using g1, by simpa using g2, by simpa using g3⟩
/-- words alone clash on no lot -/
theorem alone {size : Nat} {ls : List Lot} {lns : List (Nat × Nat)} {ws : List (List Nat)} (hls : ∀ l ∈ ls, LotOk size l) (hc : Cov size lns) (hlen : lns.length = ws.length) : clashP ls lns (ws.map fun w => [w]) = false := by
  rw [← Bool.not_eq_true]
  intro h
  unfold clashP at h
  obtain ⟨l, hl, h⟩ := List.any_eq_true.mp h
  rw [Bool.and_eq_true] at h
  have ho := hls l hl
  obtain ⟨v, vs, ev⟩ : ∃ v vs, l.ws = v :: vs := by
    cases hq : l.ws with
    | nil => exact absurd hq ho.ne
    | cons a b => exact ⟨a, b, rfl⟩
  obtain ⟨c, cs, ec⟩ : ∃ c cs, l.pt = c :: cs := by
    cases hq : l.pt with
    | nil => have := ho.ln; rw [hq, ev] at this; simp at this
    | cons a b => exact ⟨a, b, rfl⟩
  obtain ⟨k, k1, k2, k3⟩ := hc v (ho.lt v (by rw [ev]; simp))
  have g1 := occ_get h.1 k k1 (by simp; omega)
  have g2 := occ_get h.2 k k1 (by simp; omega)
  have e0 : ((ws.map fun w => [w]).getD k []) = [ws.getD k []] := by
    have : k < ws.length := by omega
    simp [List.getD, this]
  rw [e0] at g1 g2
  simp only [List.map_cons, List.map_nil, List.mem_singleton] at g1 g2
  have e := g1.trans g2.symm
  generalize lns.getD k (0, 0) = ln at *
  have hm : 0 ∈ insd l.ws ln.1 ln.2 := by
    unfold insd
    rw [List.mem_filter]
    refine ⟨by rw [ev]; simp, ?_⟩
    rw [ev]
    simp
    exact ⟨k2, k3⟩
  obtain ⟨i, hi, ei⟩ := List.getElem_of_mem hm
  have e1 : (part l.pt (insd l.ws ln.1 ln.2)).getD i 0 = (part (opp l.pt) (insd l.ws ln.1 ln.2)).getD i 0 := by rw [e]
  have p1 : ∀ q : List Nat, (part q (insd l.ws ln.1 ln.2)).getD i 0 = q.getD 0 48 := fun q => by
    unfold part
    simp only [List.getD, List.getElem?_map, List.getElem?_eq_getElem hi, ei]
    rfl
  rw [p1, p1, ec] at e1
  have hcb := ho.bn c (by rw [ec]; simp)
  simp only [opp, List.map_cons, List.getD_cons_zero] at e1
  unfold flipC at e1
  rcases hcb with rfl | rfl <;> simp at e1
structure BksOk (ls : List Lot) (lns : List (Nat × Nat)) (bks : List (List (List Nat))) : Prop where
  lb : LBs lns bks
  sz : ∀ b ∈ bks, b.length ≤ 100
  asc : ∀ b ∈ bks, b.Pairwise (fun a b => a < b)
  cl : clashP ls lns bks = false
theorem LBs_set : ∀ {l : List (Nat × Nat)} {b : List (List (List Nat))} {q : List (List Nat)} (k : Nat), LBs l b → (k < l.length → LB (l.getD k (0, 0)) q) → LBs l (b.set k q)
  | [], [], _, _, _, _ => trivial
  | x :: l, y :: b, q, 0, h, g => ⟨by simpa using g (by simp), h.2⟩
  | x :: l, y :: b, q, k + 1, h, g => ⟨h.1, LBs_set k h.2 fun hk => by simpa using g (by simpa using hk)⟩
  | [], _ :: _, _, _, h, _ => h.elim
  | _ :: _, [], _, _, h, _ => h.elim
theorem LBs_map {g : Nat × Nat → List (List Nat)} : ∀ {l : List (Nat × Nat)}, (∀ p ∈ l, LB p (g p)) → LBs l (l.map g)
  | [], _ => trivial
  | x :: l, h => ⟨h x (by simp), LBs_map fun p hp => h p (by simp [hp])⟩
theorem LBs_bin {l : List (Nat × Nat)} {b : List (List (List Nat))} (h : LBs l b) : ∀ x ∈ b, ∀ w ∈ x, ∀ c ∈ w, c < 1114112 := fun x hx w hw c hc => by
  obtain ⟨k, hk, rfl⟩ := List.getElem_of_mem hx
  have := LBs_get h k (by rw [LBs_len h]; exact hk)
  have e : b.getD k [] = b[k] := by simp [List.getD, hk]
  rw [e] at this
  exact bin_ok (this.wd w hw).bn c hc
theorem add_ok {lns : List (Nat × Nat)} {bks : List (List (List Nat))} {a : Nat} {w : List Nat} {qs : List (List Nat)} (hb : LBs lns bks) (ha : a < lns.length) (hw : WordOk ((lns.getD a (0, 0)).2 - (lns.getD a (0, 0)).1) w) (hp : qs.Perm (bks.getD a [] ++ [w])) : LBs lns (bks.set a qs) := by
  refine LBs_set a hb fun _ => ?_
  have g := LBs_get hb a ha
  refine ⟨g.lt, fun z => ?_, fun v hv => ?_⟩
  · have := hp.length_eq
    rw [z] at this
    simp at this
  · rcases List.mem_append.mp (hp.mem_iff.mp hv) with hv | hv
    · exact g.wd v hv
    · have : v = w := by simpa using hv
      rw [this]; exact hw
theorem asc_add {b qs : List (List Nat)} {w : List Nat} (ha : b.Pairwise (fun a b => a < b)) (hw : w ∉ b) (hp : qs.Perm (b ++ [w])) (hs : qs.Pairwise (fun a b => ¬ b < a)) : qs.Pairwise (fun a b => a < b) := by
  refine nodup_asc hs ?_
  rw [hp.nodup_iff]
  refine nodup_snoc (ha.imp fun h z => ?_) hw
  rw [z] at h
  exact List.lt_irrefl _ h
theorem books_ok (m : Nat) (hm : 4 ≤ m) (size : Nat) (ls : List Lot) (lns : List (Nat × Nat)) (hls : ∀ l ∈ ls, LotOk size l) (hc : Cov size lns) (hwf : ∀ p ∈ lns, p.1 < p.2 ∧ p.2 ≤ 100) (h1 : 0 < lns.length) (h2 : lns.length ≤ 100) (l : List Int) (hs : Strm l) :
    ∃ (bks : List (List (List Nat))) (l' : List Int), callN T m 23 [.list (l.map .int), eB size ls, .list (lns.map eN)] = some (.ok (.tuple (bks.map fun b => .tuple (b.map eW))) [.list (l'.map .int)]) ∧ BksOk ls lns bks ∧ Strm l' := by
  obtain ⟨n, rfl⟩ : ∃ n, m = n + 4 := ⟨m - 4, by omega⟩
  have ht := tk (n + 3) (by omega)
  have k21 := fun (ln : Nat × Nat) (b : List (List Nat)) h1 h2 h3 l hs => laneword_ok (n + 3) (by omega) false ln b h1 h2 h3 l hs
  have k22 := fun (bks : List (List (List Nat))) (a : Nat) (w : List Nat) h1 h2 h3 h4 h5 => with_ok (n + 3) (by omega) false false bks a w h1 h2 h3 h4 h5
  have k18 := fun (bks : List (List (List Nat))) h1 h2 h3 => clashL_ok (n + 3) (by omega) false false size ls lns bks hls h1 h2 h3
  have : CallOk T (n + 4) 23 [.list (l.map .int), eB size ls, .list (lns.map eN)] fun d outs => ∃ (bks : List (List (List Nat))) (l' : List Int), d = .tuple (bks.map fun b => .tuple (b.map eW)) ∧ outs = [.list (l'.map .int)] ∧ BksOk ls lns bks ∧ Strm l' := by
    obtain ⟨C, hC⟩ : ∃ C, callN T (n + 3) = C := ⟨_, rfl⟩
    simp only [hC, eW, sqD, Bool.false_eq_true, if_false] at ht k21 k22 k18
    apply call_okC C hC T__law_books rfl
    clear hC
    unfold f__law_books
    simp only [startR, List.length_cons, List.length_nil, List.map_cons, List.map_nil, List.cons_append, List.nil_append, Nat.reduceAdd, Nat.reduceSub, List.replicate_succ, List.replicate_zero]
    refine rn_seq (fun ρ => ∃ (bks : List (List (List Nat))) (l : List Int), Strm l ∧ (BksOk ls lns bks ∧ ∀ b ∈ bks, b.length ≤ 1) ∧ ρ = [some (IL l), some (eB size ls), some (.list (lns.map eN)), some (.list (bks.map fun b => .list (b.map eW))), none, none, none, none, none, none]) ?_ ?_
    · walk_at "sx"
      refine wp_gen2 (fun l => [some (IL l), some (eB size ls), some (.list (lns.map eN)), none, none, none, none, none, none, none]) Strm (fun (p : Nat × Nat) (w : List Nat) => WordOk (p.2 - p.1) w) lns eN (fun w => .list [eW w]) l hs (by omega) ?_ ?_ ?_
      · walk_at "sx"
      · intro p hp s hS
        obtain ⟨p1, p2⟩ := hwf p hp
        obtain ⟨w, l2, e1, hw, hs2⟩ := k21 p [] p1 p2 (by simp) s hS
        simp only [List.map_nil] at e1
        walk_at "sx"
        rw [e1]
        walk_at "sx"
        exact ⟨rfl, rfl, w, hw, l2, hs2, rfl, rfl⟩
      · intro wsl l2 hfw hs2
        have hlen := hfw.length_eq
        walk_at "sx"
        refine ⟨wsl.map fun w => [w], l2, hs2, ⟨⟨?_, ?_, ?_, alone hls hc hlen⟩, ?_⟩, ?_⟩
        · clear hlen k18 hc h1 h2
          induction hfw with
          | nil => trivial
          | @cons pa pb as bs h t ih => exact ⟨⟨(hwf pa (by simp)).1, by simp, fun v hv => by
              have : v = pb := by simpa using hv
              rw [this]; exact h⟩, ih (fun p hp => hwf p (by simp [hp]))⟩
        · intro b hb
          obtain ⟨w, _, rfl⟩ := List.mem_map.mp hb
          simp
        · intro b hb
          obtain ⟨w, _, rfl⟩ := List.mem_map.mp hb
          simp
        · intro b hb
          obtain ⟨w, _, rfl⟩ := List.mem_map.mp hb
          simp
        · simp [List.map_map, Function.comp_def, eW]
    rintro ρ ⟨bks, l, hs, ⟨hB, hB1⟩, rfl⟩
    refine rn_seq (fun ρ => ∃ (bks : List (List (List Nat))) (l : List Int) (j4 j5 j6 j8 : Option D), Strm l ∧ BksOk ls lns bks ∧ ρ = [some (IL l), some (eB size ls), some (.list (lns.map eN)), some (.list (bks.map fun b => .list (b.map eW))), j4, j5, j6, none, j8, none]) ?_ ?_
    · walk_at "sx"
      refine ⟨rfl, rng_i (fun i ρ => ∃ (bks : List (List (List Nat))) (l : List Int) (j4 j5 j6 j8 : Option D), Strm l ∧ BksOk ls lns bks ∧ (∀ b ∈ bks, b.length ≤ 1 + i) ∧ ρ = [some (IL l), some (eB size ls), some (.list (lns.map eN)), some (.list (bks.map fun b => .list (b.map eW))), j4, j5, j6, none, j8, none]) 0 9 0 rfl (by omega) ?_ ?_ ?_⟩
      · rintro ρ ⟨bks, l, j4, j5, j6, j8, hs, hB, _, rfl⟩
        exact ⟨bks, l, hs, hB, _, _, _, _, rfl⟩
      · rintro i ρ - hi ⟨bks, l, j4, j5, j6, j8, hs, hB, hbz, rfl⟩ Q hQ
        have hlen := LBs_len hB.lb
        refine ⟨_, by rw [bnd_nm, if_pos (by simp)], ?_⟩
        rw [on_ss]
        refine sq (fun ρ => ∃ (a : Nat) (l : List Int), a < lns.length ∧ Strm l ∧ ρ = [some (IL l), some (eB size ls), some (.list (lns.map eN)), some (.list (bks.map fun b => .list (b.map eW))), some (.int (i : Nat)), some (.int (a : Nat)), j6, none, j8, none]) ?_ ?_
        · intro Q hQ
          walk_at "sx"
          obtain ⟨a, l2, e1, a1, hs2⟩ := ht l hs lns.length lns.length rfl (by omega)
          rw [e1]
          walk_at "sx"
          exact hQ _ ⟨a, l2, a1, hs2, rfl⟩
        rintro ρ ⟨a, l, ha, hs, rfl⟩
        have hg := LBs_get hB.lb a ha
        have haw := hwf _ (getD_mem ha (0, 0))
        have x1 : atI lns (a : Int) = some (lns.getD a (0, 0)) := atI_nat ha _
        have x2 : atI bks (a : Int) = some (bks.getD a []) := atI_nat (by omega) _
        have hbm := getD_mem (show a < bks.length by omega) []
        have hba := hbz _ hbm
        have hasc := hB.asc _ hbm
        refine sq (fun ρ => ∃ (w : List Nat) (l : List Int), WordOk ((lns.getD a (0, 0)).2 - (lns.getD a (0, 0)).1) w ∧ Strm l ∧ ρ = [some (IL l), some (eB size ls), some (.list (lns.map eN)), some (.list (bks.map fun b => .list (b.map eW))), some (.int (i : Nat)), some (.int (a : Nat)), some (eW w), none, j8, none]) ?_ ?_
        · intro Q hQ
          obtain ⟨w, l2, e1, hw, hs2⟩ := k21 (lns.getD a (0, 0)) (bks.getD a []) haw.1 haw.2 hg.wd l hs
          walk_at "sx"
          refine ⟨_, x1, _, x2, ?_⟩
          rw [e1]
          walk_at "sx"
          exact hQ _ ⟨w, l2, hw, hs2, rfl⟩
        rintro ρ ⟨w, l, hw, hs, rfl⟩
        have hbin := LBs_bin hB.lb
        obtain ⟨qs, e22, hqp, hqs⟩ := k22 bks a w (by omega) (by omega) (fun b hb => by have := hbz b hb; omega) hbin (bin_ok hw.bn)
        have hnew := add_ok hB.lb ha hw hqp
        have hql := hqp.length_eq
        rw [List.length_append, List.length_singleton] at hql
        have hsz : ∀ b ∈ bks.set a qs, b.length ≤ 1 + (i + 1) := fun b hb => by
          rcases List.mem_or_eq_of_mem_set hb with hb | hb
          · have := hbz b hb; omega
          · rw [hb]; omega
        have q18 := k18 (bks.set a qs) (by omega) (fun b hb => by have := hsz b hb; omega) hnew
        have keep : Q [some (IL l), some (eB size ls), some (.list (lns.map eN)), some (.list (bks.map fun b => .list (b.map eW))), some (.int (i : Nat)), some (.int (a : Nat)), some (eW w), none, j8, none] := hQ _ ⟨bks, l, _, _, _, _, hs, hB, fun b hb => by have := hbz b hb; omega, rfl⟩
        have s1 := shp_sqW false (bks.getD a []) (hbin _ hbm)
        have s2 := any_eqvW (bks.getD a []) w
        simp only [sqD, Bool.false_eq_true, if_false] at s1
        simp only [eW] at keep
        generalize hbk : bks.getD a [] = bk at *
        walk_at "sx"
        refine ⟨bk, x2, ?_⟩
        walk_at "sx"
        rw [shp_str (bin_ok hw.bn), s1, s2]
        refine ⟨rfl, ?_⟩
        by_cases hmem : w ∈ bk
        · rw [if_neg (by simpa using hmem)]
          exact keep
        · rw [if_pos (by simpa using hmem)]
          rw [e22]
          walk_at "sx"
          rw [q18]
          walk_at "sx"
          cases hcl : clashP ls lns (bks.set a qs) with
          | true =>
            rw [if_neg (by simp)]
            exact hQ _ ⟨bks, l, _, _, _, _, hs, hB, fun b hb => by have := hbz b hb; omega, rfl⟩
          | false =>
            rw [if_pos (by simp)]
            exact hQ _ ⟨bks.set a qs, l, _, _, _, _, hs, ⟨hnew, fun b hb => by have := hsz b hb; omega, fun b hb => by
              rcases List.mem_or_eq_of_mem_set hb with hb | hb
              · exact hB.asc b hb
              · rw [hb]; exact asc_add hasc hmem hqp hqs, hcl⟩, hsz, rfl⟩
      · exact ⟨bks, l, none, none, none, none, hs, hB, hB1, rfl⟩
    rintro ρ ⟨bks, l, j4, j5, j6, j8, hs, hB, rfl⟩
    have hlen := LBs_len hB.lb
    walk_at "sx"
    refine wp_map bks (fun b => .list (b.map eW)) (fun b => .tuple (b.map eW)) (by omega) ?_ ?_ ?_
    · walk_at "sx"
    · intro b hb
      walk_at "sx"
    · walk_at "sx"
      exact ⟨bks, rfl, l, rfl, hB, hs⟩
  obtain ⟨d, o, h, w, l', rfl, rfl, h1, h2⟩ := this
  exact ⟨w, l', h, h1, h2⟩

end G
end
section
set_option linter.all false
set_option autoImplicit false
set_option maxRecDepth 100000
set_option maxHeartbeats 4000000
namespace G
open PySem VF L2
local macro_rules | `(tactic| walk_at "sx") => `(tactic| (try simp only [T_is_number, mu_is_number, T_is_word, mu_is_word, T_opposite, mu_opposite, T_part, mu_part, T_are_cuts, mu_are_cuts, T_is_lane_book, mu_is_lane_book, T_occurs_joined, mu_occurs_joined, T_shows_product, mu_shows_product, T__law_stream, mu__law_stream, T__law_take, mu__law_take, T__law_same, mu__law_same, T__law_lot, mu__law_lot, T__law_lots, mu__law_lots, T__law_opposite, mu__law_opposite, T__law_standard, mu__law_standard, T__law_bus, mu__law_bus, T__law_lanes, mu__law_lanes, T__law_occurs, mu__law_occurs, T__law_clash, mu__law_clash, T__law_is_lane, mu__law_is_lane, T__law_right, mu__law_right, T__law_lane_word, mu__law_lane_word, T__law_with, mu__law_with, T__law_books, mu__law_books, T__law_drawn, mu__law_drawn, T__law_cut_spoilt, mu__law_cut_spoilt, T__law_words_spoilt, mu__law_words_spoilt, T__law_books_spoilt, mu__law_books_spoilt, T_law, mu_law, bnd_tp, bnds_n, bnds_c, Option.bind_some, eqv_nil, List.drop_nil, List.drop_succ_cons, List.drop_zero, tx1, eW, eL, atI_z, atI_o, int0, int1, shp_int, shp_none, shp_bool, eqv_int, eqv_str, wipeR_c, wipeR_n, backR_c, backR_n, lit_e, lit_0, lit_1, lit_10, lit_01, lit_m, Tx_list, Tx_len, pow18, exists_and_left, decide_eq_true_eq, List.length_map, atI_map, u_popI, s_retN, s_pas, s_brk, s_cnt, s_whl, ex_ite, ex_map, ex_bind, ex_some, ex_bool, ite_no, o_addI, o_subI, o_mulI, o_fdivI, o_modI, o_powI, o_addS, o_addT, o_catL, c_ltI, c_leI, c_gtI, c_geI, c_eq, c_ne, c_ltS, c_ltT, c_inS, c_inL, c_ninL, c_inT, c_ninT, b_lenL, b_lenT, b_lenS, b_intI, b_intB, b_intS, b_strI, b_tupL, b_tupT, b_lstL, b_lstT, b_lstS, b_srt, b_sum, b_max2, b_min2, b_abs, b_any, b_all, x_l, x_t, x_s, n_non, n_int, n_str, n_tup, n_lst, n_bool, k_join, u_app, u_rev, i_l, i_t, i_s, g_1, g_2, startR, bnd_nm, outsTo, mutOuts, List.map_cons, List.map_nil, List.cons_append, List.nil_append, List.length_cons, List.length_nil, List.getElem?_cons_zero, List.getElem?_cons_succ, Option.some.injEq, exists_eq_left', exists_eq_left, exists_eq, exists_eq', List.set_cons_zero, List.set_cons_succ, and_true, true_and, Option.map_some, PyData.bool.injEq, PyData.int.injEq, PyData.list.injEq, PyData.str.injEq, PyData.tuple.injEq, ite_true, ite_false, if_true, if_false, Bool.false_eq_true, Nat.sub_self, List.replicate_zero, List.append_nil, List.replicate_succ, Nat.zero_add, Nat.reduceAdd, Nat.reduceSub, Nat.reduceLT, ctxN, Option.getD_some, on_ss, q_bnd, q_ret, q_none, q_lift, q_itep, q_s, q_d, q_pv, q_asB, q_call, q_neg, q_so, q_no, q_mu, q_cons, q_nil, t_asg, t_ex, t_ret, t_ife, t_set, t_fr, qo_con, qo_glo, qo_tup, qo_lst, qo_op, qo_neg, qo_cmp, qo_isN, qo_and, qo_or, qo_not, qo_ite, qo_fn, qo_bi, qo_me, qo_mu, qo_ix, qo_sl, qo_comp, qo_eqR, qe_var, qe_con, qe_glo, qe_tup, qe_lst, qe_op, qe_cmp, qe_isN, qe_and, qe_or, qe_not, qe_ite, qe_fn, qe_bi, qe_me, qe_ix, qe_sl, qe_eqR, qm_es_n, qm_es_c, qm_ps_n, qm_ps_c, qm_as_n, qm_as_t, qm_as_f, qm_as_e, qm_i_seq, qm_i_rng1, qm_i_rng2, qm_i_enum, qm_i_zip2, qm_i_rev1, qm_i_rev2, qr_n, qr_c, qo_isi, qo_chn, qo_rev, qe_isi, qe_chn, qe_rev, qm_i_zip3, kd_ii, kd_ib, kd_is, kd_in, kd_il, kd_it, kd_bi, kd_bb, kd_bs, kd_bn, kd_bl, kd_bt, kd_si, kd_sb, kd_ss, kd_sn, kd_sl, kd_st, kd_ti, kd_tb, kd_ts, kd_tn, kd_tl, kd_tt, rv_t, sl_l, sl_s, c_inS1, c_ninS1, c_geS, it_sq, ix_sq, len_sq, lst_sq, tup_sq, ltS_Tx, it_Tx, sl_t, cut_to, bnd_nat]))

theorem asc_cuts {size : Nat} : ∀ (ns : List Nat) (last : Nat), (∀ n ∈ ns, last < n ∧ n < size) → ns.Pairwise (· < ·) → cutsOk size last (iL ns) = true
  | [], _, _, _ => rfl
  | n :: ns, last, h, hp => by
    have h1 := h n (by simp)
    rw [List.pairwise_cons] at hp
    have := asc_cuts ns n (fun v hv => ⟨hp.1 v hv, (h v (by simp [hv])).2⟩) hp.2
    show cutsOk size last (PyData.int (n : Nat) :: iL ns) = true
    rw [cutsOk, this]
    simp
    exact h1
theorem natsD_iL (ns : List Nat) : natsD (iL ns) = ns := by
  simp [natsD, List.map_map, Function.comp_def]
theorem drawn_ok (m : Nat) (hm : 5 ≤ m) (l : List Int) (hs : Strm l) :
    ∃ (size : Nat) (ls : List Lot) (ns : List Nat) (l' : List Int), callN T m 24 [.list (l.map .int)] = some (.ok (.tuple [eB size ls, .tuple (iL ns)]) [.list (l'.map .int)]) ∧ 0 < size ∧ size ≤ 60 ∧ ls.length ≤ 100 ∧ (∀ l ∈ ls, LotOk size l) ∧ cutsOk size 0 (iL ns) = true ∧ Strm l' := by
  obtain ⟨n, rfl⟩ : ∃ n, m = n + 5 := ⟨m - 5, by omega⟩
  have ht := tk (n + 4) (by omega)
  have hlots : ∀ (size : Nat), 0 < size → size ≤ 1000 → ∀ l, Strm l → ∃ (ls : List Lot) (l' : List Int), callN T (n + 4) 12 [.list (l.map .int), .int (size : Nat), .int (6 : Nat)] = some (.ok (.list (ls.map eL)) [.list (l'.map .int)]) ∧ Strm l' ∧ ls.length ≤ 6 ∧ ∀ l ∈ ls, LotOk size l := fun size h0 h3 l hs => by
    obtain ⟨d, o, e, ls, l', rfl, rfl, h⟩ := lots_ok (n + 4) (by omega) size 6 h0 (by omega) h3 l hs
    exact ⟨ls, l', e, h⟩
  have hlot : ∀ (size most : Nat), 0 < size → size ≤ 60 → 0 < most → most ≤ 1000 → ∀ l, Strm l → ∃ (lt : Lot) (l' : List Int), callN T (n + 4) 11 [.list (l.map .int), .int (size : Nat), .int (most : Nat)] = some (.ok (eL lt) [.list (l'.map .int)]) ∧ Strm l' ∧ LotOk size lt := fun size most h0 h1 h2 h3 l hs => by
    obtain ⟨d, o, e, lt, l', rfl, rfl, h⟩ := lot_ok (n + 4) (by omega) size most h0 h2 h3 (.inr h1) (by omega) l hs
    exact ⟨lt, l', e, h⟩
  have hbus := fun (size : Nat) (ls : List Lot) h1 h2 h3 => bus_ok (n + 4) (by omega) size ls h1 h2 h3
  have : CallOk T (n + 5) 24 [.list (l.map .int)] fun d outs => ∃ (size : Nat) (ls : List Lot) (ns : List Nat) (l' : List Int), d = .tuple [eB size ls, .tuple (iL ns)] ∧ outs = [.list (l'.map .int)] ∧ 0 < size ∧ size ≤ 60 ∧ ls.length ≤ 100 ∧ (∀ l ∈ ls, LotOk size l) ∧ cutsOk size 0 (iL ns) = true ∧ Strm l' := by
    obtain ⟨C, hC⟩ : ∃ C, callN T (n + 4) = C := ⟨_, rfl⟩
    simp only [hC] at ht hlots hlot hbus
    apply call_okC C hC T__law_drawn rfl
    clear hC
    unfold f__law_drawn
    simp only [startR, List.length_cons, List.length_nil, List.map_cons, List.map_nil, List.cons_append, List.nil_append, Nat.reduceAdd, Nat.reduceSub, List.replicate_succ, List.replicate_zero]
    refine rn_seq (fun ρ => ∃ (size : Nat) (l : List Int), 0 < size ∧ size ≤ 60 ∧ Strm l ∧ ρ = [some (IL l), some (.int (size : Nat)), none, none, none, none]) ?_ ?_
    · walk_at "sx"
      obtain ⟨r, l2, e1, r1, hs2⟩ := ht l hs 6 6 rfl (by omega)
      rw [e1]
      walk_at "sx"
      refine ⟨1 + r, by omega, by omega, l2, hs2, ?_⟩
      congr 4
    rintro ρ ⟨size, l, h0, h1, hs, rfl⟩
    refine rn_seq (fun ρ => ∃ (size : Nat) (l : List Int), 0 < size ∧ size ≤ 60 ∧ Strm l ∧ ρ = [some (IL l), some (.int (size : Nat)), none, none, none, none]) ?_ ?_
    · walk_at "sx"
      obtain ⟨r, l2, e1, r1, hs2⟩ := ht l hs 6 6 rfl (by omega)
      rw [e1]
      walk_at "sx"
      refine ⟨by simp [shp_int], ?_⟩
      by_cases c : (r : Int) = 0
      · rw [if_pos (by first | exact c | simpa using c)]
        obtain ⟨r, l3, e1, r1, hs3⟩ := ht l2 hs2 54 54 rfl (by omega)
        rw [e1]
        walk_at "sx"
        refine ⟨7 + r, by omega, by omega, l3, hs3, ?_⟩
        congr 4
      · rw [if_neg (by first | exact c | simpa using c)]
        exact ⟨size, h0, h1, l2, hs2, rfl⟩
    rintro ρ ⟨size, l, h0, h1, hs, rfl⟩
    refine rn_seq (fun ρ => ∃ (ls : List Lot) (l : List Int), (ls.length ≤ 6 ∧ ∀ l ∈ ls, LotOk size l) ∧ Strm l ∧ ρ = [some (IL l), some (.int (size : Nat)), some (.list (ls.map eL)), none, none, none]) ?_ ?_
    · walk_at "sx"
      obtain ⟨ls, l2, e1, hs2, hz, hls⟩ := hlots size h0 (by omega) l hs
      rw [show ((6 : Nat) : Int) = 6 from rfl] at e1
      rw [e1]
      walk_at "sx"
      exact ⟨ls, ⟨hz, hls⟩, l2, hs2, rfl⟩
    rintro ρ ⟨ls, l, ⟨hz, hls⟩, hs, rfl⟩
    refine rn_seq (fun ρ => ∃ (ls : List Lot) (l : List Int), (ls.length ≤ 7 ∧ ∀ l ∈ ls, LotOk size l) ∧ Strm l ∧ ρ = [some (IL l), some (.int (size : Nat)), some (.list (ls.map eL)), none, none, none]) ?_ ?_
    · walk_at "sx"
      obtain ⟨r, l2, e1, r1, hs2⟩ := ht l hs 4 4 rfl (by omega)
      rw [e1]
      walk_at "sx"
      refine ⟨by simp [shp_int], ?_⟩
      by_cases c : (r : Int) = 0
      · rw [if_pos (by first | exact c | simpa using c)]
        obtain ⟨lt, l3, e1, hs3, hlt⟩ := hlot size (2 * size) h0 h1 (by omega) (by omega) l2 hs2
        rw [show ((2 * size : Nat) : Int) = 2 * (size : Int) by push_cast; rfl] at e1
        rw [e1]
        walk_at "sx"
        refine ⟨mul_fits (j := 2) (k := 6) (by decide) (by simp; omega) (by decide), by omega, ls ++ [lt], ⟨by simp; omega, fun v hv => ?_⟩, l3, hs3, by rw [List.map_append]; rfl⟩
        rcases List.mem_append.mp hv with hv | hv
        · exact hls v hv
        · have : v = lt := by simpa using hv
          rw [this]; exact hlt
      · rw [if_neg (by first | exact c | simpa using c)]
        exact ⟨ls, ⟨by omega, hls⟩, l2, hs2, rfl⟩
    rintro ρ ⟨ls, l, ⟨hz, hls⟩, hs, rfl⟩
    refine rn_seq (fun ρ => ∃ (rare : Nat) (l : List Int), 0 < rare ∧ Strm l ∧ ρ = [some (IL l), some (.int (size : Nat)), some (.list (ls.map eL)), some (.int (rare : Nat)), none, none]) ?_ ?_
    · walk_at "sx"
      obtain ⟨r, l2, e1, r1, hs2⟩ := ht l hs 4 4 rfl (by omega)
      rw [e1]
      walk_at "sx"
      have e8 : (2 : Int) + (size : Int) / 8 = ((2 + size / 8 : Nat) : Int) := by push_cast; rfl
      rw [e8]
      obtain ⟨rare, er, hr⟩ : ∃ rare : Nat, atI [PyData.int 1, PyData.int 2, PyData.int ((2 + size / 8 : Nat) : Int), PyData.int ((2 + size / 8 : Nat) : Int)] (r : Int) = some (.int (rare : Nat)) ∧ 0 < rare := by
        rcases (by omega : r = 0 ∨ r = 1 ∨ r = 2 ∨ r = 3) with rfl | rfl | rfl | rfl
        · exact ⟨1, atI_nat (by simp) PyData.none, by omega⟩
        · exact ⟨2, atI_nat (by simp) PyData.none, by omega⟩
        · exact ⟨2 + size / 8, atI_nat (by simp) PyData.none, by omega⟩
        · exact ⟨2 + size / 8, atI_nat (by simp) PyData.none, by omega⟩
      refine ⟨by decide, by decide, by decide, _, er, ?_⟩
      exact ⟨rare, hr, l2, hs2, rfl⟩
    rintro ρ ⟨rare, l, hr, hs, rfl⟩
    refine rn_seq (fun ρ => ∃ (ns : List Nat) (l : List Int), cutsOk size 0 (iL ns) = true ∧ Strm l ∧ ρ = [some (IL l), some (.int (size : Nat)), some (.list (ls.map eL)), some (.int (rare : Nat)), some (.tuple (iL ns)), none]) ?_ ?_
    · walk_at "sx"
      refine wp_fsub (fun l => [some (IL l), some (.int (size : Nat)), some (.list (ls.map eL)), some (.int (rare : Nat)), none, none]) Strm (List.range (size - 1)) (fun i => .int ((i + 1 : Nat) : Nat)) (fun i => .int ((i + 1 : Nat) : Nat)) l hs (by simp; omega) ?_ ?_ ?_
      · walk_at "sx"
        refine ⟨by simp [bnd62]; omega, ?_⟩
        unfold rngD
        rw [show ((size : Int) - 1).toNat = size - 1 by omega]
        refine List.map_congr_left fun i _ => ?_
        congr 1
        push_cast
        omega
      · intro x hx s hS
        walk_at "sx"
        obtain ⟨r, l2, e1, r1, hs2⟩ := ht s hS rare rare rfl hr
        rw [e1]
        walk_at "sx"
        refine ⟨by simp [shp_int], l2, hs2, ?_⟩
        by_cases c : (r : Int) = 0
        · first | rw [if_pos c] | skip
          try simp [c]
        · first | rw [if_neg c] | skip
          try simp [c]
      · intro ys l2 hsub hs2
        walk_at "sx"
        refine ⟨ys.map (· + 1), ?_, l2, hs2, by simp [List.map_map, Function.comp_def]⟩
        refine asc_cuts _ 0 (fun v hv => ?_) ?_
        · obtain ⟨i, hi, rfl⟩ := List.mem_map.mp hv
          have := List.mem_range.mp (hsub.subset hi)
          omega
        · rw [List.pairwise_map]
          exact (List.Pairwise.sublist hsub List.pairwise_lt_range).imp fun h => by omega
    rintro ρ ⟨ns, l, hcut, hs, rfl⟩
    obtain ⟨ls', e1, hz', -, hls'⟩ := hbus size ls hls (by omega) (by omega)
    walk_at "sx"
    rw [e1]
    walk_at "sx"
    exact ⟨rfl, size, ls', ns, rfl, l, rfl, h0, h1, hz', fun l h => (hls' l h).lo, hcut, hs⟩
  obtain ⟨d, o, h, size, ls, ns, l', rfl, rfl, h1⟩ := this
  exact ⟨size, ls, ns, l', h, h1⟩

end G
end
section
set_option linter.all false
set_option autoImplicit false
set_option maxRecDepth 100000
set_option maxHeartbeats 4000000
namespace G
open PySem VF L2
local macro_rules | `(tactic| walk_at "sx") => `(tactic| (try simp only [T_is_number, mu_is_number, T_is_word, mu_is_word, T_opposite, mu_opposite, T_part, mu_part, T_are_cuts, mu_are_cuts, T_is_lane_book, mu_is_lane_book, T_occurs_joined, mu_occurs_joined, T_shows_product, mu_shows_product, T__law_stream, mu__law_stream, T__law_take, mu__law_take, T__law_same, mu__law_same, T__law_lot, mu__law_lot, T__law_lots, mu__law_lots, T__law_opposite, mu__law_opposite, T__law_standard, mu__law_standard, T__law_bus, mu__law_bus, T__law_lanes, mu__law_lanes, T__law_occurs, mu__law_occurs, T__law_clash, mu__law_clash, T__law_is_lane, mu__law_is_lane, T__law_right, mu__law_right, T__law_lane_word, mu__law_lane_word, T__law_with, mu__law_with, T__law_books, mu__law_books, T__law_drawn, mu__law_drawn, T__law_cut_spoilt, mu__law_cut_spoilt, T__law_words_spoilt, mu__law_words_spoilt, T__law_books_spoilt, mu__law_books_spoilt, T_law, mu_law, bnd_tp, bnds_n, bnds_c, Option.bind_some, eqv_nil, List.drop_nil, List.drop_succ_cons, List.drop_zero, tx1, eW, eL, atI_z, atI_o, int0, int1, shp_int, shp_none, shp_bool, eqv_int, eqv_str, wipeR_c, wipeR_n, backR_c, backR_n, lit_e, lit_0, lit_1, lit_10, lit_01, lit_m, Tx_list, Tx_len, pow18, exists_and_left, decide_eq_true_eq, List.length_map, atI_map, u_popI, s_retN, s_pas, s_brk, s_cnt, s_whl, ex_ite, ex_map, ex_bind, ex_some, ex_bool, ite_no, o_addI, o_subI, o_mulI, o_fdivI, o_modI, o_powI, o_addS, o_addT, o_catL, c_ltI, c_leI, c_gtI, c_geI, c_eq, c_ne, c_ltS, c_ltT, c_inS, c_inL, c_ninL, c_inT, c_ninT, b_lenL, b_lenT, b_lenS, b_intI, b_intB, b_intS, b_strI, b_tupL, b_tupT, b_lstL, b_lstT, b_lstS, b_srt, b_sum, b_max2, b_min2, b_abs, b_any, b_all, x_l, x_t, x_s, n_non, n_int, n_str, n_tup, n_lst, n_bool, k_join, u_app, u_rev, i_l, i_t, i_s, g_1, g_2, startR, bnd_nm, outsTo, mutOuts, List.map_cons, List.map_nil, List.cons_append, List.nil_append, List.length_cons, List.length_nil, List.getElem?_cons_zero, List.getElem?_cons_succ, Option.some.injEq, exists_eq_left', exists_eq_left, exists_eq, exists_eq', List.set_cons_zero, List.set_cons_succ, and_true, true_and, Option.map_some, PyData.bool.injEq, PyData.int.injEq, PyData.list.injEq, PyData.str.injEq, PyData.tuple.injEq, ite_true, ite_false, if_true, if_false, Bool.false_eq_true, Nat.sub_self, List.replicate_zero, List.append_nil, List.replicate_succ, Nat.zero_add, Nat.reduceAdd, Nat.reduceSub, Nat.reduceLT, ctxN, Option.getD_some, on_ss, q_bnd, q_ret, q_none, q_lift, q_itep, q_s, q_d, q_pv, q_asB, q_call, q_neg, q_so, q_no, q_mu, q_cons, q_nil, t_asg, t_ex, t_ret, t_ife, t_set, t_fr, qo_con, qo_glo, qo_tup, qo_lst, qo_op, qo_neg, qo_cmp, qo_isN, qo_and, qo_or, qo_not, qo_ite, qo_fn, qo_bi, qo_me, qo_mu, qo_ix, qo_sl, qo_comp, qo_eqR, qe_var, qe_con, qe_glo, qe_tup, qe_lst, qe_op, qe_cmp, qe_isN, qe_and, qe_or, qe_not, qe_ite, qe_fn, qe_bi, qe_me, qe_ix, qe_sl, qe_eqR, qm_es_n, qm_es_c, qm_ps_n, qm_ps_c, qm_as_n, qm_as_t, qm_as_f, qm_as_e, qm_i_seq, qm_i_rng1, qm_i_rng2, qm_i_enum, qm_i_zip2, qm_i_rev1, qm_i_rev2, qr_n, qr_c, qo_isi, qo_chn, qo_rev, qe_isi, qe_chn, qe_rev, qm_i_zip3, kd_ii, kd_ib, kd_is, kd_in, kd_il, kd_it, kd_bi, kd_bb, kd_bs, kd_bn, kd_bl, kd_bt, kd_si, kd_sb, kd_ss, kd_sn, kd_sl, kd_st, kd_ti, kd_tb, kd_ts, kd_tn, kd_tl, kd_tt, rv_t, sl_l, sl_s, c_inS1, c_ninS1, c_geS, it_sq, ix_sq, len_sq, lst_sq, tup_sq, ltS_Tx, it_Tx, sl_t, cut_to, bnd_nat]))

def GL (bl : List D) : Prop := ∀ x ∈ bl, shw x = true ∧ ∀ ws, x = .tuple ws → ws.length ≤ 10000
theorem GL_app {a b : List D} (h1 : GL a) (h2 : GL b) : GL (a ++ b) := fun x hx => (List.mem_append.mp hx).elim (h1 x) (h2 x)
theorem GL_cut {a : List D} (h : GL a) (lo hi : Option Int) : GL (cutD a lo hi) := fun x hx => h x (by unfold cutD at hx; exact List.mem_of_mem_drop (List.mem_of_mem_take hx))
theorem GL_rev {a : List D} (h : GL a) : GL a.reverse := fun x hx => h x (List.mem_reverse.mp hx)
theorem GL_shw {a : List D} (h : GL a) : shw (.tuple a) = true := by rw [shw, shws_mem]; exact fun x hx => (h x hx).1
theorem GL_sm {a : List D} (h : GL a) : smB (.tuple a) := fun bs e x hx => by cases e; exact (h x hx).2
theorem GL_one {x : D} (h1 : shw x = true) (h2 : ∀ ws, x = .tuple ws → ws.length ≤ 10000) : GL [x] := fun y hy => by
  have : y = x := by simpa using hy
  subst this
  exact ⟨h1, h2⟩
theorem GL_bks {bks : List (List (List Nat))} (h : ∀ b ∈ bks, b.length ≤ 10000 ∧ ∀ w ∈ b, ∀ c ∈ w, c < 1114112) : GL (bks.map fun b => .tuple (b.map eW)) := fun x hx => by
  obtain ⟨b, hb, rfl⟩ := List.mem_map.mp hx
  refine ⟨?_, fun ws e => ?_⟩
  · rw [shw, shws_mem]
    intro y hy
    obtain ⟨w, hw, rfl⟩ := List.mem_map.mp hy
    exact shw_Tx ((h b hb).2 w hw)
  · cases e
    simpa using (h b hb).1
theorem cutD_len' {α : Type} (xs : List α) (lo hi : Option Int) : (cutD xs lo hi).length ≤ xs.length := by
  unfold cutD
  simp only [List.length_take, List.length_drop]
  omega
theorem shws_iL (ns : List Nat) (h : ∀ n ∈ ns, n < 100000) : shws (iL ns) = true := (shw_ints ns h).1
theorem shw_cutW {w : List Nat} (h : ∀ c ∈ w, c < 1114112) (lo hi : Option Int) : ∀ c ∈ cutD w lo hi, c < 1114112 := fun c hc => h c (by unfold cutD at hc; exact List.mem_of_mem_drop (List.mem_of_mem_take hc))
theorem wspoilt_ok (m : Nat) (hm : 2 ≤ m) (b : List (List Nat)) (hne : b ≠ []) (hbz : b.length ≤ 1000) (hb : ∀ w ∈ b, w.length ≤ 1000 ∧ ∀ c ∈ w, c < 1114112) (l : List Int) (hs : Strm l) :
    ∃ (d : D) (l' : List Int), callN T m 26 [.list (l.map .int), .tuple (b.map eW)] = some (.ok d [.list (l'.map .int)]) ∧ shw d = true ∧ (∀ ws, d = .tuple ws → ws.length ≤ 10000) ∧ Strm l' := by
  obtain ⟨n, rfl⟩ : ∃ n, m = n + 2 := ⟨m - 2, by omega⟩
  have ht := tk (n + 1) (by omega)
  have hbl : 0 < b.length := by
    cases b with
    | nil => exact absurd rfl hne
    | cons => simp
  have hsh : shws (b.map eW) = true := shws_mem.mpr fun y hy => by
    obtain ⟨w, hw, rfl⟩ := List.mem_map.mp hy
    exact shw_Tx (hb w hw).2
  have hlen : (b.map eW).length = b.length := List.length_map _
  have : CallOk T (n + 2) 26 [.list (l.map .int), .tuple (b.map eW)] fun d outs => ∃ (l' : List Int), outs = [.list (l'.map .int)] ∧ shw d = true ∧ (∀ ws, d = .tuple ws → ws.length ≤ 10000) ∧ Strm l' := by
    obtain ⟨C, hC⟩ : ∃ C, callN T (n + 1) = C := ⟨_, rfl⟩
    simp only [hC] at ht
    apply call_okC C hC T__law_words_spoilt rfl
    clear hC
    unfold f__law_words_spoilt
    simp only [startR, List.length_cons, List.length_nil, List.map_cons, List.map_nil, List.cons_append, List.nil_append, Nat.reduceAdd, Nat.reduceSub, List.replicate_succ, List.replicate_zero]
    generalize hB : b.map eW = B at *
    have cutl : ∀ lo hi, (cutD B lo hi).length ≤ b.length := fun lo hi => by rw [← hlen]; exact cutD_len' B lo hi
    have tkl : ∀ k, (B.take k).length ≤ b.length := fun k => by rw [← hlen, List.length_take]; omega
    have drl : ∀ k, (B.drop k).length ≤ b.length := fun k => by rw [← hlen, List.length_drop]; omega
    have tks : ∀ k, shws (B.take k) = true := fun k => shws_mem.mpr fun x hx => (shws_mem.mp hsh) x (List.mem_of_mem_take hx)
    have drs : ∀ k, shws (B.drop k) = true := fun k => shws_mem.mpr fun x hx => (shws_mem.mp hsh) x (List.mem_of_mem_drop hx)
    refine rn_seq (fun ρ => ∃ (a : Nat) (l : List Int), a < b.length ∧ Strm l ∧ ρ = [some (IL l), some (.tuple B), some (.int (a : Nat)), none, none, none]) ?_ ?_
    · walk_at "sx"
      rw [hlen]
      obtain ⟨a, l2, e1, a1, hs2⟩ := ht l hs b.length b.length rfl hbl
      rw [e1]
      walk_at "sx"
      exact ⟨a, a1, l2, hs2, rfl⟩
    rintro ρ ⟨a, l, ha, hs, rfl⟩
    have ta := tkl a
    have xa : atI B (a : Int) = some (eW (b.getD a [])) := by rw [← hB, atI_map, atI_nat ha []]; rfl
    have hw := hb _ (getD_mem ha [])
    generalize b.getD a [] = w at *
    refine rn_seq (fun ρ => ρ = [some (IL l), some (.tuple B), some (.int (a : Nat)), some (eW w), none, none]) ?_ ?_
    · walk_at "sx"
      rw [xa]
      try walk_at "sx"
    rintro ρ rfl
    refine rn_seq (fun ρ => ∃ (k : Nat) (l : List Int), k < 9 ∧ Strm l ∧ ρ = [some (IL l), some (.tuple B), some (.int (a : Nat)), some (eW w), some (.int (k : Nat)), none]) ?_ ?_
    · walk_at "sx"
      obtain ⟨k, l2, e1, k1, hs2⟩ := ht l hs 9 9 rfl (by omega)
      rw [e1]
      walk_at "sx"
      exact ⟨k, k1, l2, hs2, rfl⟩
    rintro ρ ⟨k, l, hk, hs, rfl⟩
    refine rn_seq (fun ρ => ρ = [some (IL l), some (.tuple B), some (.int (a : Nat)), some (eW w), some (.int (k : Nat)), some (eW w)]) ?_ ?_
    · walk_at "sx"
      rw [xa]
      try walk_at "sx"
    rintro ρ rfl
    have res : ∀ d : D, shw d = true → (∀ ws, d = .tuple ws → ws.length ≤ 10000) → ∃ o, mutOuts [true, false] [some (IL l), some (.tuple B), some (.int (a : Nat)), some (eW w), some (.int (k : Nat)), some (eW w)] = some o ∧ ∃ (l' : List Int), o = [.list (l'.map .int)] ∧ shw d = true ∧ (∀ ws, d = .tuple ws → ws.length ≤ 10000) ∧ Strm l' := fun d h1 h2 => ⟨_, rfl, l, rfl, h1, h2, hs⟩
    have app3 : ∀ (x y z : List D), shws x = true → shws y = true → shws z = true → shws (x ++ y ++ z) = true := fun x y z h1 h2 h3 => by rw [shws_append, shws_append, h1, h2, h3]; rfl
    refine rn_seq (fun ρ => ρ = [some (IL l), some (.tuple B), some (.int (a : Nat)), some (eW w), some (.int (k : Nat)), some (eW w)]) ?_ ?_
    · walk_at "sx"
      refine ⟨by simp [shp_int], ?_⟩
      by_cases c : (k : Int) = 0
      · rw [if_pos (by first | exact c | simpa using c)]
        exact ⟨rfl, l, rfl, by simp [shw, shws], fun ws e => by cases e; simp, hs⟩
      · rw [if_neg (by first | exact c | simpa using c)]
        trivial
    rintro ρ rfl
    refine rn_seq (fun ρ => ρ = [some (IL l), some (.tuple B), some (.int (a : Nat)), some (eW w), some (.int (k : Nat)), some (eW w)]) ?_ ?_
    · walk_at "sx"
      refine ⟨by simp [shp_int], ?_⟩
      by_cases c : (k : Int) = 1
      · rw [if_pos (by first | exact c | simpa using c)]
        have z1 := cutl (some (a : Int)) (some ((a : Int) + 1))
        have z2 := cutl (some (a : Int)) none
        exact ⟨okl (by first | omega | (simp only [List.length_append]; omega)), okl (by first | omega | (simp only [List.length_append]; omega)), l, rfl, by rw [shw]; exact app3 _ _ _ (tks _) (shws_cut hsh _ _) (shws_cut hsh _ _), fun ws e => by rw [← e]; simp only [List.length_append]; omega, hs⟩
      · rw [if_neg (by first | exact c | simpa using c)]
        trivial
    rintro ρ rfl
    refine rn_seq (fun ρ => ρ = [some (IL l), some (.tuple B), some (.int (a : Nat)), some (eW w), some (.int (k : Nat)), some (eW w)]) ?_ ?_
    · walk_at "sx"
      refine ⟨by simp [shp_int], ?_⟩
      by_cases c : (k : Int) = 2
      · rw [if_pos (by first | exact c | simpa using c)]
        exact ⟨l, rfl, by rw [shw]; exact shws_rev hsh, fun ws e => by rw [← e, List.length_reverse]; omega, hs⟩
      · rw [if_neg (by first | exact c | simpa using c)]
        trivial
    rintro ρ rfl
    refine rn_seq (fun ρ => ρ = [some (IL l), some (.tuple B), some (.int (a : Nat)), some (eW w), some (.int (k : Nat)), some (eW w)]) ?_ ?_
    · walk_at "sx"
      refine ⟨by simp [shp_int], ?_⟩
      by_cases c : (k : Int) = 3
      · rw [if_pos (by first | exact c | simpa using c)]
        have hfl : ∀ b : List (List Nat), (∀ w ∈ b, w.length ≤ 1000 ∧ ∀ c ∈ w, c < 1114112) → b.flatten.length ≤ 1000 * b.length := fun b => by
          induction b with
          | nil => simp
          | cons x b ih =>
            intro h
            have := ih fun w hw => h w (by simp [hw])
            have := (h x (by simp)).1
            simp only [List.flatten_cons, List.length_append, List.length_cons]
            omega
        have hfb := hfl b hb
        have hj : mtD .join (.str (Tx [])) [.tuple B] = some (.str (Tx b.flatten)) := by
          have := join_Tx b (by omega)
          rw [m_join] at this
          rw [m_joinT, ← hB]
          exact this
        rw [hj]
        walk_at "sx"
        refine ⟨l, rfl, ?_, fun ws e => by (cases e), hs⟩
        rw [cutS_Tx]
        refine shw_Tx (shw_cutW (fun c hc => ?_) _ _)
        obtain ⟨w, hw, hc⟩ := List.mem_flatten.mp hc
        exact (hb w hw).2 c hc
      · rw [if_neg (by first | exact c | simpa using c)]
        trivial
    rintro ρ rfl
    have hws : shw (eW w) = true := shw_Tx hw.2
    let St : Rho → Prop := fun ρ => ∃ (ot : D) (l : List Int), shw ot = true ∧ Strm l ∧ ρ = [some (IL l), some (.tuple B), some (.int (a : Nat)), some (eW w), some (.int (k : Nat)), some ot]
    refine sq St ?_ ?_
    · intro Q hQ
      have hQ0 := hQ _ ⟨eW w, l, hws, hs, rfl⟩
      simp only [eW] at hQ0
      walk_at "sx"
      refine ⟨by simp [shp_int], ?_⟩
      by_cases c : (k : Int) = 4
      · rw [if_pos (by first | exact c | simpa using c)]
        simp only [Tx_add]
        refine ⟨okl (by omega), hQ _ ⟨_, l, shw_Tx (cs := w ++ [48]) (fun c hc => ?_), hs, rfl⟩⟩
        rcases List.mem_append.mp hc with hc | hc
        · exact hw.2 c hc
        · have : c = 48 := by simpa using hc
          omega
      · rw [if_neg (by first | exact c | simpa using c)]
        exact hQ0
    rintro ρ ⟨ot, l, hot, hs, rfl⟩
    refine sq St ?_ ?_
    · intro Q hQ
      have hQ0 := hQ _ ⟨ot, l, hot, hs, rfl⟩
      simp only [eW] at hQ0
      walk_at "sx"
      refine ⟨by simp [shp_int], ?_⟩
      by_cases c : (k : Int) = 5
      · rw [if_pos (by first | exact c | simpa using c)]
        rw [cutS_Tx]
        exact hQ _ ⟨_, l, shw_Tx (shw_cutW hw.2 _ _), hs, rfl⟩
      · rw [if_neg (by first | exact c | simpa using c)]
        exact hQ0
    rintro ρ ⟨ot, l, hot, hs, rfl⟩
    refine sq St ?_ ?_
    · intro Q hQ
      have hQ0 := hQ _ ⟨ot, l, hot, hs, rfl⟩
      simp only [eW] at hQ0
      walk_at "sx"
      refine ⟨by simp [shp_int], ?_⟩
      by_cases c : (k : Int) = 6
      · rw [if_pos (by first | exact c | simpa using c)]
        refine ⟨rfl, hQ _ ⟨_, l, ?_, hs, rfl⟩⟩
        rw [shw, shws, shws]
        have := hws
        unfold eW at this
        rw [this]
        rfl
      · rw [if_neg (by first | exact c | simpa using c)]
        exact hQ0
    rintro ρ ⟨ot, l, hot, hs, rfl⟩
    refine sq St ?_ ?_
    · intro Q hQ
      have hQ0 := hQ _ ⟨ot, l, hot, hs, rfl⟩
      simp only [eW] at hQ0
      walk_at "sx"
      refine ⟨by simp [shp_int], ?_⟩
      by_cases c : (k : Int) = 7
      · rw [if_pos (by first | exact c | simpa using c)]
        obtain ⟨r, l2, e1, r1, hs2⟩ := ht l hs 2 2 rfl (by omega)
        rw [e1]
        walk_at "sx"
        exact hQ _ ⟨_, l2, by rw [shw]; exact decide_eq_true (small_log (by omega) (by omega)), hs2, rfl⟩
      · rw [if_neg (by first | exact c | simpa using c)]
        exact hQ0
    rintro ρ ⟨ot, l, hot, hs, rfl⟩
    refine sq St ?_ ?_
    · intro Q hQ
      have hQ0 := hQ _ ⟨ot, l, hot, hs, rfl⟩
      simp only [eW] at hQ0
      walk_at "sx"
      refine ⟨by simp [shp_int], ?_⟩
      by_cases c : (k : Int) = 8
      · rw [if_pos (by first | exact c | simpa using c)]
        have e2 : Str.ofString "2" = Tx [50] := by decide +kernel
        rw [cutS_Tx, e2]
        simp only [Tx_add, Tx_len]
        have z := cutD_len' w none (some (-1))
        refine ⟨okl (by simp only [List.length_cons, List.length_nil]; omega), hQ _ ⟨_, l, shw_Tx (cs := cutD w none (some (-1)) ++ [50]) (fun c hc => ?_), hs, rfl⟩⟩
        rcases List.mem_append.mp hc with hc | hc
        · exact shw_cutW hw.2 _ _ c hc
        · have : c = 50 := by simpa using hc
          omega
      · rw [if_neg (by first | exact c | simpa using c)]
        exact hQ0
    rintro ρ ⟨ot, l, hot, hs, rfl⟩
    have ta := tkl a
    walk_at "sx"
    have z2 := cutl (some ((a : Int) + 1)) none
    exact ⟨rfl, okl (by first | omega | (simp only [List.length_append, List.length_cons, List.length_nil]; omega)), okl (by first | omega | (simp only [List.length_append, List.length_cons, List.length_nil]; omega)), l, rfl, by rw [shw]; exact app3 _ _ _ (tks _) (by rw [shws, shws, hot]; rfl) (shws_cut hsh _ _), fun ws e => by rw [← e]; simp only [List.length_append, List.length_cons, List.length_nil]; omega, hs⟩
  obtain ⟨d, o, h, l', rfl, h1⟩ := this
  exact ⟨d, l', h, h1⟩

end G
end
section
set_option linter.all false
set_option autoImplicit false
set_option maxRecDepth 100000
set_option maxHeartbeats 4000000
namespace G
open PySem VF L2
local macro_rules | `(tactic| walk_at "sx") => `(tactic| (try simp only [T_is_number, mu_is_number, T_is_word, mu_is_word, T_opposite, mu_opposite, T_part, mu_part, T_are_cuts, mu_are_cuts, T_is_lane_book, mu_is_lane_book, T_occurs_joined, mu_occurs_joined, T_shows_product, mu_shows_product, T__law_stream, mu__law_stream, T__law_take, mu__law_take, T__law_same, mu__law_same, T__law_lot, mu__law_lot, T__law_lots, mu__law_lots, T__law_opposite, mu__law_opposite, T__law_standard, mu__law_standard, T__law_bus, mu__law_bus, T__law_lanes, mu__law_lanes, T__law_occurs, mu__law_occurs, T__law_clash, mu__law_clash, T__law_is_lane, mu__law_is_lane, T__law_right, mu__law_right, T__law_lane_word, mu__law_lane_word, T__law_with, mu__law_with, T__law_books, mu__law_books, T__law_drawn, mu__law_drawn, T__law_cut_spoilt, mu__law_cut_spoilt, T__law_words_spoilt, mu__law_words_spoilt, T__law_books_spoilt, mu__law_books_spoilt, T_law, mu_law, bnd_tp, bnds_n, bnds_c, Option.bind_some, eqv_nil, List.drop_nil, List.drop_succ_cons, List.drop_zero, tx1, eW, eL, atI_z, atI_o, int0, int1, shp_int, shp_none, shp_bool, eqv_int, eqv_str, wipeR_c, wipeR_n, backR_c, backR_n, lit_e, lit_0, lit_1, lit_10, lit_01, lit_m, Tx_list, Tx_len, pow18, exists_and_left, decide_eq_true_eq, List.length_map, atI_map, u_popI, s_retN, s_pas, s_brk, s_cnt, s_whl, ex_ite, ex_map, ex_bind, ex_some, ex_bool, ite_no, o_addI, o_subI, o_mulI, o_fdivI, o_modI, o_powI, o_addS, o_addT, o_catL, c_ltI, c_leI, c_gtI, c_geI, c_eq, c_ne, c_ltS, c_ltT, c_inS, c_inL, c_ninL, c_inT, c_ninT, b_lenL, b_lenT, b_lenS, b_intI, b_intB, b_intS, b_strI, b_tupL, b_tupT, b_lstL, b_lstT, b_lstS, b_srt, b_sum, b_max2, b_min2, b_abs, b_any, b_all, x_l, x_t, x_s, n_non, n_int, n_str, n_tup, n_lst, n_bool, k_join, u_app, u_rev, i_l, i_t, i_s, g_1, g_2, startR, bnd_nm, outsTo, mutOuts, List.map_cons, List.map_nil, List.cons_append, List.nil_append, List.length_cons, List.length_nil, List.getElem?_cons_zero, List.getElem?_cons_succ, Option.some.injEq, exists_eq_left', exists_eq_left, exists_eq, exists_eq', List.set_cons_zero, List.set_cons_succ, and_true, true_and, Option.map_some, PyData.bool.injEq, PyData.int.injEq, PyData.list.injEq, PyData.str.injEq, PyData.tuple.injEq, ite_true, ite_false, if_true, if_false, Bool.false_eq_true, Nat.sub_self, List.replicate_zero, List.append_nil, List.replicate_succ, Nat.zero_add, Nat.reduceAdd, Nat.reduceSub, Nat.reduceLT, ctxN, Option.getD_some, on_ss, q_bnd, q_ret, q_none, q_lift, q_itep, q_s, q_d, q_pv, q_asB, q_call, q_neg, q_so, q_no, q_mu, q_cons, q_nil, t_asg, t_ex, t_ret, t_ife, t_set, t_fr, qo_con, qo_glo, qo_tup, qo_lst, qo_op, qo_neg, qo_cmp, qo_isN, qo_and, qo_or, qo_not, qo_ite, qo_fn, qo_bi, qo_me, qo_mu, qo_ix, qo_sl, qo_comp, qo_eqR, qe_var, qe_con, qe_glo, qe_tup, qe_lst, qe_op, qe_cmp, qe_isN, qe_and, qe_or, qe_not, qe_ite, qe_fn, qe_bi, qe_me, qe_ix, qe_sl, qe_eqR, qm_es_n, qm_es_c, qm_ps_n, qm_ps_c, qm_as_n, qm_as_t, qm_as_f, qm_as_e, qm_i_seq, qm_i_rng1, qm_i_rng2, qm_i_enum, qm_i_zip2, qm_i_rev1, qm_i_rev2, qr_n, qr_c, qo_isi, qo_chn, qo_rev, qe_isi, qe_chn, qe_rev, qm_i_zip3, kd_ii, kd_ib, kd_is, kd_in, kd_il, kd_it, kd_bi, kd_bb, kd_bs, kd_bn, kd_bl, kd_bt, kd_si, kd_sb, kd_ss, kd_sn, kd_sl, kd_st, kd_ti, kd_tb, kd_ts, kd_tn, kd_tl, kd_tt, rv_t, sl_l, sl_s, c_inS1, c_ninS1, c_geS, it_sq, ix_sq, len_sq, lst_sq, tup_sq, ltS_Tx, it_Tx, sl_t, cut_to, bnd_nat]))

theorem cutsp_ok (m : Nat) (hm : 2 ≤ m) (size : Nat) (hsz : size ≤ 1000) (ns : List Nat) (hns : ∀ n ∈ ns, n < 1000) (hnl : ns.length ≤ 1000) (bl : List D) (hbl : GL bl) (hbz : bl.length ≤ 1000) (l : List Int) (hs : Strm l) :
    ∃ (c b : D) (l' : List Int), callN T m 25 [.list (l.map .int), .int (size : Nat), .tuple (iL ns), .tuple bl] = some (.ok (.tuple [c, b]) [.list (l'.map .int)]) ∧ shw c = true ∧ shw b = true ∧ smB b ∧ Strm l' := by
  obtain ⟨n, rfl⟩ : ∃ n, m = n + 2 := ⟨m - 2, by omega⟩
  have ht := tk (n + 1) (by omega)
  have hcs : shws (iL ns) = true := shws_iL ns fun n hn => by have := hns n hn; omega
  have hcl : (iL ns).length = ns.length := List.length_map _
  have hem : GL [PyData.tuple [.str (Tx [])]] := GL_one (by rw [shw, shws, shws, shw_Tx (by simp)]; rfl) fun ws e => by cases e; simp
  obtain ⟨P, hP, hP2⟩ : ∃ P : D → List D → Prop, (∀ c b l', shw c = true → shw b = true → smB b → Strm l' → P (.tuple [c, b]) [.list (l'.map .int)]) ∧ (∀ d o, P d o → ∃ (c b : D) (l' : List Int), d = .tuple [c, b] ∧ o = [.list (l'.map .int)] ∧ shw c = true ∧ shw b = true ∧ smB b ∧ Strm l') := ⟨fun d o => ∃ (c b : D) (l' : List Int), d = .tuple [c, b] ∧ o = [.list (l'.map .int)] ∧ shw c = true ∧ shw b = true ∧ smB b ∧ Strm l', fun c b l' h1 h2 h3 h4 => ⟨c, b, l', rfl, rfl, h1, h2, h3, h4⟩, fun d o h => h⟩
  have hPG : ∀ c bs l', shw c = true → GL bs → Strm l' → P (.tuple [c, .tuple bs]) [.list (l'.map .int)] := fun c bs l' h1 h2 h3 => hP _ _ _ h1 (GL_shw h2) (GL_sm h2) h3
  have hPC : ∀ c bs l', shws c = true → GL bs → Strm l' → P (.tuple [.tuple c, .tuple bs]) [.list (l'.map .int)] := fun c bs l' h1 h2 h3 => hPG _ _ _ (by rw [shw]; exact h1) h2 h3
  have app : ∀ (x y : List D), shws x = true → shws y = true → shws (x ++ y) = true := fun x y h1 h2 => by rw [shws_append, h1, h2]; rfl
  have cutl : ∀ lo hi, (cutD (iL ns) lo hi).length ≤ ns.length := fun lo hi => by rw [← hcl]; exact cutD_len' (iL ns) lo hi
  have bcutl : ∀ lo hi, (cutD bl lo hi).length ≤ bl.length := fun lo hi => cutD_len' bl lo hi
  have : CallOk T (n + 2) 25 [.list (l.map .int), .int (size : Nat), .tuple (iL ns), .tuple bl] P := by
    obtain ⟨C, hC⟩ : ∃ C, callN T (n + 1) = C := ⟨_, rfl⟩
    simp only [hC] at ht
    apply call_okC C hC T__law_cut_spoilt rfl
    clear hC
    unfold f__law_cut_spoilt
    simp only [startR, List.length_cons, List.length_nil, List.map_cons, List.map_nil, List.cons_append, List.nil_append, Nat.reduceAdd, Nat.reduceSub, List.replicate_succ, List.replicate_zero]
    refine rn_seq (fun ρ => ∃ (a : Nat) (l : List Int), a < ns.length + 1 ∧ Strm l ∧ ρ = [some (IL l), some (.int (size : Nat)), some (.tuple (iL ns)), some (.tuple bl), some (.int (a : Nat)), none, none, none]) ?_ ?_
    · walk_at "sx"
      obtain ⟨a, l2, e1, a1, hs2⟩ := ht l hs (ns.length + 1) ((ns.length : Int) + 1) (by push_cast; rfl) (by omega)
      rw [e1]
      walk_at "sx"
      exact ⟨a, a1, l2, hs2, rfl⟩
    rintro ρ ⟨a, l, ha, hs, rfl⟩
    refine rn_seq (fun ρ => ∃ (k : Nat) (l : List Int), k < 7 ∧ Strm l ∧ ρ = [some (IL l), some (.int (size : Nat)), some (.tuple (iL ns)), some (.tuple bl), some (.int (a : Nat)), some (.int (k : Nat)), none, none]) ?_ ?_
    · walk_at "sx"
      obtain ⟨k, l2, e1, k1, hs2⟩ := ht l hs 7 7 rfl (by omega)
      rw [e1]
      walk_at "sx"
      exact ⟨k, k1, l2, hs2, rfl⟩
    rintro ρ ⟨k, l, hk, hs, rfl⟩
    refine rn_seq (fun ρ => ρ = [some (IL l), some (.int (size : Nat)), some (.tuple (iL ns)), some (.tuple bl), some (.int (a : Nat)), some (.int (k : Nat)), some (.tuple [.tuple [.str (Tx [])]]), none]) ?_ ?_
    · walk_at "sx"
      try trivial
    rintro ρ rfl
    refine rn_seq (fun ρ => ρ = [some (IL l), some (.int (size : Nat)), some (.tuple (iL ns)), some (.tuple bl), some (.int (a : Nat)), some (.int (k : Nat)), some (.tuple [.tuple [.str (Tx [])]]), none]) ?_ ?_
    · walk_at "sx"
      refine ⟨by simp [shp_int], ?_⟩
      by_cases c : (k : Int) = 0
      · rw [if_pos (by first | exact c | simpa using c)]
        have g := hPC (PyData.int 0 :: iL ns) (PyData.tuple [.str (Tx [])] :: bl) l (app [PyData.int 0] (iL ns) (by simp [shws, shw]) hcs) (GL_app hem hbl) hs
        repeat (first | exact g | refine ⟨okl (by first | omega | (simp; omega)), ?_⟩)
      · rw [if_neg (by first | exact c | simpa using c)]
        trivial
    rintro ρ rfl
    refine rn_seq (fun ρ => ρ = [some (IL l), some (.int (size : Nat)), some (.tuple (iL ns)), some (.tuple bl), some (.int (a : Nat)), some (.int (k : Nat)), some (.tuple [.tuple [.str (Tx [])]]), none]) ?_ ?_
    · walk_at "sx"
      refine ⟨by simp [shp_int], ?_⟩
      by_cases c : (k : Int) = 1
      · rw [if_pos (by first | exact c | simpa using c)]
        have g := hPC (iL ns ++ [PyData.int (size : Nat)]) (bl ++ [PyData.tuple [.str (Tx [])]]) l (app (iL ns) _ hcs (by
          rw [shws, shws, shw, Bool.and_true]
          exact decide_eq_true (small_log (by omega) (by omega)))) (GL_app hbl hem) hs
        repeat (first | exact g | refine ⟨okl (by first | omega | (simp; omega)), ?_⟩)
      · rw [if_neg (by first | exact c | simpa using c)]
        trivial
    rintro ρ rfl
    refine rn_seq (fun ρ => ρ = [some (IL l), some (.int (size : Nat)), some (.tuple (iL ns)), some (.tuple bl), some (.int (a : Nat)), some (.int (k : Nat)), some (.tuple [.tuple [.str (Tx [])]]), none]) ?_ ?_
    · walk_at "sx"
      refine ⟨by simp [shp_int], ?_⟩
      have tl : (List.take a (iL ns)).length ≤ ns.length := by rw [← hcl, List.length_take]; omega
      have tb : (List.take a bl).length ≤ bl.length := by rw [List.length_take]; omega
      have c1 := cutl (some ((a : Int) - 1)) none
      have c2 := bcutl (some (a : Int)) none
      by_cases c : (k : Int) = 2
      · rw [if_pos (by first | exact c | simpa using c)]
        by_cases d : 0 < (a : Int)
        · rw [if_pos d]
          have g := hPC (List.take a (iL ns) ++ cutD (iL ns) (some (a - 1)) none) (List.take a bl ++ [PyData.tuple [PyData.str (Tx [])]] ++ cutD bl (some a) none) l (app _ _ (shws_mem.mpr fun x hx => (shws_mem.mp hcs) x (List.mem_of_mem_take hx)) (shws_cut hcs _ _)) (GL_app (GL_app (fun x hx => hbl x (List.mem_of_mem_take hx)) hem) (GL_cut hbl _ _)) hs
          exact ⟨okl (by omega), okl (by omega), okl (by rw [List.length_append, List.length_cons, List.length_nil]; omega), okl (by omega), g⟩
        · rw [if_neg d]
          trivial
      · rw [if_neg (by first | exact c | simpa using c)]
        trivial
    rintro ρ rfl
    refine rn_seq (fun ρ => ρ = [some (IL l), some (.int (size : Nat)), some (.tuple (iL ns)), some (.tuple bl), some (.int (a : Nat)), some (.int (k : Nat)), some (.tuple [.tuple [.str (Tx [])]]), none]) ?_ ?_
    · walk_at "sx"
      refine ⟨by simp [shp_int], ?_⟩
      by_cases c : (k : Int) = 3
      · rw [if_pos (by first | exact c | simpa using c)]
        exact ⟨okl (by omega), hPC _ _ _ (shws_rev hcs) (GL_rev hbl) hs⟩
      · rw [if_neg (by first | exact c | simpa using c)]
        trivial
    rintro ρ rfl
    refine rn_seq (fun ρ => ρ = [some (IL l), some (.int (size : Nat)), some (.tuple (iL ns)), some (.tuple bl), some (.int (a : Nat)), some (.int (k : Nat)), some (.tuple [.tuple [.str (Tx [])]]), none]) ?_ ?_
    · walk_at "sx"
      refine ⟨by simp [shp_int], ?_⟩
      have c1 := cutl none (some ((a : Int) - 1))
      have c2 := cutl (some (a : Int)) none
      by_cases c : (k : Int) = 4
      · rw [if_pos (by first | exact c | simpa using c)]
        by_cases d : 0 < (a : Int)
        · rw [if_pos d]
          exact ⟨okl (by omega), okl (by omega), hPC _ _ l (app _ _ (shws_cut hcs _ _) (shws_cut hcs _ _)) hbl hs⟩
        · rw [if_neg d]
          trivial
      · rw [if_neg (by first | exact c | simpa using c)]
        trivial
    rintro ρ rfl
    refine rn_seq (fun ρ => ρ = [some (IL l), some (.int (size : Nat)), some (.tuple (iL ns)), some (.tuple bl), some (.int (a : Nat)), some (.int (k : Nat)), some (.tuple [.tuple [.str (Tx [])]]), none]) ?_ ?_
    · walk_at "sx"
      refine ⟨by simp [shp_int], ?_⟩
      by_cases c : (k : Int) = 5
      · rw [if_pos (by first | exact c | simpa using c)]
        obtain ⟨r, l2, e1, r1, hs2⟩ := ht l hs 6 6 rfl (by omega)
        rw [e1]
        walk_at "sx"
        have go : ∀ x, shw x = true → okLen 2 = true ∧ P (.tuple [x, .tuple bl]) [.list (l2.map .int)] := fun x h => ⟨okl (by omega), hPG x bl l2 h hbl hs2⟩
        refine ⟨okl (by omega), okl (by omega), okl (by omega), okl (by omega), okl (by omega), okl (by omega), okl (by omega), ?_⟩
        rcases (by omega : r = 0 ∨ r = 1 ∨ r = 2 ∨ r = 3 ∨ r = 4 ∨ r = 5) with rfl | rfl | rfl | rfl | rfl | rfl
        · exact ⟨_, atI_nat (i := 0) (by simp) PyData.none, go _ (by simp [shw])⟩
        · exact ⟨_, atI_nat (i := 1) (by simp) PyData.none, go _ (shw_Tx (cs := []) (by simp))⟩
        · exact ⟨_, atI_nat (i := 2) (by simp) PyData.none, go _ (shw_Tx (cs := [48]) (by simp))⟩
        · exact ⟨_, atI_nat (i := 3) (by simp) PyData.none, go (.tuple [.tuple (iL ns)]) (by rw [shw, shws, shw, hcs]; rfl)⟩
        · exact ⟨_, atI_nat (i := 4) (by simp) PyData.none, go (.tuple (iL ns ++ [PyData.str (Tx [49])])) (by rw [shw]; exact app _ _ hcs (by rw [shws, shw_Tx (by simp)]; rfl))⟩
        · exact ⟨_, atI_nat (i := 5) (by simp) PyData.none, go (.tuple (iL ns ++ [PyData.tuple []])) (by rw [shw]; exact app _ _ hcs (by simp [shws, shw]))⟩
      · rw [if_neg (by first | exact c | simpa using c)]
        trivial
    rintro ρ rfl
    walk_at "sx"
    refine wp_gen (fun l => [some (IL l), some (.int (size : Nat)), some (.tuple (iL ns)), some (.tuple bl), some (.int (a : Nat)), some (.int (k : Nat)), some (.tuple [.tuple [.str (Tx [])]]), none]) Strm (fun v : Int => -1 ≤ v ∧ v < 100000) ns (fun i => .int (i : Nat)) (fun v => .int v) l hs (by omega) ?_ ?_ ?_
    · walk_at "sx"
    · intro x hx s hS
      have hx := hns x hx
      walk_at "sx"
      obtain ⟨r, l2, e1, r1, hs2⟩ := ht s hS 3 3 rfl (by omega)
      rw [e1]
      walk_at "sx"
      exact ⟨_, by omega, l2, hs2, rfl, rfl⟩
    · intro vs l2 hvs hlen hs2
      walk_at "sx"
      refine ⟨okl (by omega), hPC _ _ l2 (shws_mem.mpr fun x hx => ?_) hbl hs2⟩
      obtain ⟨v, hv, rfl⟩ := List.mem_map.mp hx
      rw [shw]
      exact decide_eq_true (small_log (hvs v hv).1 (hvs v hv).2)
  obtain ⟨d, o, h, h1⟩ := this
  obtain ⟨c, b, l', rfl, rfl, h2⟩ := hP2 d o h1
  exact ⟨c, b, l', h, h2⟩

end G
end
section
set_option linter.all false
set_option autoImplicit false
set_option maxRecDepth 100000
set_option maxHeartbeats 4000000
namespace G
open PySem VF L2
local macro_rules | `(tactic| walk_at "sx") => `(tactic| (try simp only [T_is_number, mu_is_number, T_is_word, mu_is_word, T_opposite, mu_opposite, T_part, mu_part, T_are_cuts, mu_are_cuts, T_is_lane_book, mu_is_lane_book, T_occurs_joined, mu_occurs_joined, T_shows_product, mu_shows_product, T__law_stream, mu__law_stream, T__law_take, mu__law_take, T__law_same, mu__law_same, T__law_lot, mu__law_lot, T__law_lots, mu__law_lots, T__law_opposite, mu__law_opposite, T__law_standard, mu__law_standard, T__law_bus, mu__law_bus, T__law_lanes, mu__law_lanes, T__law_occurs, mu__law_occurs, T__law_clash, mu__law_clash, T__law_is_lane, mu__law_is_lane, T__law_right, mu__law_right, T__law_lane_word, mu__law_lane_word, T__law_with, mu__law_with, T__law_books, mu__law_books, T__law_drawn, mu__law_drawn, T__law_cut_spoilt, mu__law_cut_spoilt, T__law_words_spoilt, mu__law_words_spoilt, T__law_books_spoilt, mu__law_books_spoilt, T_law, mu_law, bnd_tp, bnds_n, bnds_c, Option.bind_some, eqv_nil, List.drop_nil, List.drop_succ_cons, List.drop_zero, tx1, eW, eL, atI_z, atI_o, int0, int1, shp_int, shp_none, shp_bool, eqv_int, eqv_str, wipeR_c, wipeR_n, backR_c, backR_n, lit_e, lit_0, lit_1, lit_10, lit_01, lit_m, Tx_list, Tx_len, pow18, exists_and_left, decide_eq_true_eq, List.length_map, atI_map, u_popI, s_retN, s_pas, s_brk, s_cnt, s_whl, ex_ite, ex_map, ex_bind, ex_some, ex_bool, ite_no, o_addI, o_subI, o_mulI, o_fdivI, o_modI, o_powI, o_addS, o_addT, o_catL, c_ltI, c_leI, c_gtI, c_geI, c_eq, c_ne, c_ltS, c_ltT, c_inS, c_inL, c_ninL, c_inT, c_ninT, b_lenL, b_lenT, b_lenS, b_intI, b_intB, b_intS, b_strI, b_tupL, b_tupT, b_lstL, b_lstT, b_lstS, b_srt, b_sum, b_max2, b_min2, b_abs, b_any, b_all, x_l, x_t, x_s, n_non, n_int, n_str, n_tup, n_lst, n_bool, k_join, u_app, u_rev, i_l, i_t, i_s, g_1, g_2, startR, bnd_nm, outsTo, mutOuts, List.map_cons, List.map_nil, List.cons_append, List.nil_append, List.length_cons, List.length_nil, List.getElem?_cons_zero, List.getElem?_cons_succ, Option.some.injEq, exists_eq_left', exists_eq_left, exists_eq, exists_eq', List.set_cons_zero, List.set_cons_succ, and_true, true_and, Option.map_some, PyData.bool.injEq, PyData.int.injEq, PyData.list.injEq, PyData.str.injEq, PyData.tuple.injEq, ite_true, ite_false, if_true, if_false, Bool.false_eq_true, Nat.sub_self, List.replicate_zero, List.append_nil, List.replicate_succ, Nat.zero_add, Nat.reduceAdd, Nat.reduceSub, Nat.reduceLT, ctxN, Option.getD_some, on_ss, q_bnd, q_ret, q_none, q_lift, q_itep, q_s, q_d, q_pv, q_asB, q_call, q_neg, q_so, q_no, q_mu, q_cons, q_nil, t_asg, t_ex, t_ret, t_ife, t_set, t_fr, qo_con, qo_glo, qo_tup, qo_lst, qo_op, qo_neg, qo_cmp, qo_isN, qo_and, qo_or, qo_not, qo_ite, qo_fn, qo_bi, qo_me, qo_mu, qo_ix, qo_sl, qo_comp, qo_eqR, qe_var, qe_con, qe_glo, qe_tup, qe_lst, qe_op, qe_cmp, qe_isN, qe_and, qe_or, qe_not, qe_ite, qe_fn, qe_bi, qe_me, qe_ix, qe_sl, qe_eqR, qm_es_n, qm_es_c, qm_ps_n, qm_ps_c, qm_as_n, qm_as_t, qm_as_f, qm_as_e, qm_i_seq, qm_i_rng1, qm_i_rng2, qm_i_enum, qm_i_zip2, qm_i_rev1, qm_i_rev2, qr_n, qr_c, qo_isi, qo_chn, qo_rev, qe_isi, qe_chn, qe_rev, qm_i_zip3, kd_ii, kd_ib, kd_is, kd_in, kd_il, kd_it, kd_bi, kd_bb, kd_bs, kd_bn, kd_bl, kd_bt, kd_si, kd_sb, kd_ss, kd_sn, kd_sl, kd_st, kd_ti, kd_tb, kd_ts, kd_tn, kd_tl, kd_tt, rv_t, sl_l, sl_s, c_inS1, c_ninS1, c_geS, it_sq, ix_sq, len_sq, lst_sq, tup_sq, ltS_Tx, it_Tx, sl_t, cut_to, bnd_nat]))

theorem booksp_ok (m : Nat) (hm : 4 ≤ m) (size : Nat) (ls : List Lot) (lns : List (Nat × Nat)) (bks : List (List (List Nat))) (hls : ∀ l ∈ ls, LotOk size l) (hwf : ∀ p ∈ lns, p.1 < p.2 ∧ p.2 ≤ 100) (h1 : 0 < lns.length) (h2 : lns.length ≤ 100) (hB : BksOk ls lns bks) (l : List Int) (hs : Strm l) :
    ∃ (d : D) (l' : List Int), callN T m 27 [.list (l.map .int), eB size ls, .list (lns.map eN), .tuple (bks.map fun b => .tuple (b.map eW))] = some (.ok d [.list (l'.map .int)]) ∧ shw d = true ∧ smB d ∧ Strm l' := by
  obtain ⟨n, rfl⟩ : ∃ n, m = n + 4 := ⟨m - 4, by omega⟩
  have ht := tk (n + 3) (by omega)
  have k21 := fun (ln : Nat × Nat) (b : List (List Nat)) h1 h2 h3 l hs => laneword_ok (n + 3) (by omega) false ln b h1 h2 h3 l hs
  have k22 := fun (bks : List (List (List Nat))) (a : Nat) (w : List Nat) h1 h2 h3 h4 h5 => with_ok (n + 3) (by omega) false false bks a w h1 h2 h3 h4 h5
  have k18 := fun (bks : List (List (List Nat))) h1 h2 h3 => clashL_ok (n + 3) (by omega) false false size ls lns bks hls h1 h2 h3
  have k25 := fun (b : List (List Nat)) h1 h2 h3 l hs => wspoilt_ok (n + 3) (by omega) b h1 h2 h3 l hs
  obtain ⟨P, hP, hP2⟩ : ∃ P : D → List D → Prop, (∀ c l', shw c = true → smB c → Strm l' → P c [.list (l'.map .int)]) ∧ (∀ d o, P d o → ∃ (l' : List Int), o = [.list (l'.map .int)] ∧ shw d = true ∧ smB d ∧ Strm l') := ⟨fun d o => ∃ (l' : List Int), o = [.list (l'.map .int)] ∧ shw d = true ∧ smB d ∧ Strm l', fun c l' h1 h2 h3 => ⟨l', rfl, h1, h2, h3⟩, fun d o h => h⟩
  have hPG : ∀ bs l', GL bs → Strm l' → P (.tuple bs) [.list (l'.map .int)] := fun bs l' h2 h3 => hP _ _ (GL_shw h2) (GL_sm h2) h3
  have hlen := LBs_len hB.lb
  have hwok : ∀ b ∈ bks, ∀ w ∈ b, w.length ≤ 1000 ∧ ∀ c ∈ w, c < 1114112 := fun b hb w hw => by
    obtain ⟨k, hk, rfl⟩ := List.getElem_of_mem hb
    have g := LBs_get hB.lb k (by omega)
    have e : bks.getD k [] = bks[k] := by simp [List.getD, hk]
    rw [e] at g
    have := (g.wd w hw).ln
    have := hwf _ (getD_mem (show k < lns.length by omega) (0, 0))
    exact ⟨by omega, bin_ok (g.wd w hw).bn⟩
  have hGL : GL (bks.map fun b => .tuple (b.map eW)) := GL_bks fun b hb => ⟨by have := hB.sz b hb; omega, fun w hw => (hwok b hb w hw).2⟩
  have : CallOk T (n + 4) 27 [.list (l.map .int), eB size ls, .list (lns.map eN), .tuple (bks.map fun b => .tuple (b.map eW))] P := by
    obtain ⟨C, hC⟩ : ∃ C, callN T (n + 3) = C := ⟨_, rfl⟩
    simp only [hC, eW, sqD, Bool.false_eq_true, if_false] at ht k21 k22 k18 k25
    apply call_okC C hC T__law_books_spoilt rfl
    clear hC
    unfold f__law_books_spoilt
    simp only [startR, List.length_cons, List.length_nil, List.map_cons, List.map_nil, List.cons_append, List.nil_append, Nat.reduceAdd, Nat.reduceSub, List.replicate_succ, List.replicate_zero]
    generalize hBL : (bks.map fun b => PyData.tuple (b.map eW)) = BL at *
    have hBl : BL.length = bks.length := by rw [← hBL, List.length_map]
    have bcutl : ∀ lo hi, (cutD BL lo hi).length ≤ bks.length := fun lo hi => by rw [← hBl]; exact cutD_len' BL lo hi
    have tkl : ∀ a, (BL.take a).length ≤ bks.length := fun a => by rw [← hBl, List.length_take]; omega
    have tkG : ∀ a, GL (BL.take a) := fun a x hx => hGL x (List.mem_of_mem_take hx)
    refine rn_seq (fun ρ => ∃ (k : Nat) (l : List Int), k < 8 ∧ Strm l ∧ ρ = [some (IL l), some (eB size ls), some (.list (lns.map eN)), some (.tuple BL), some (.int (k : Nat)), none, none, none, none, none]) ?_ ?_
    · walk_at "sx"
      obtain ⟨k, l2, e1, k1, hs2⟩ := ht l hs 8 8 rfl (by omega)
      rw [e1]
      walk_at "sx"
      exact ⟨k, k1, l2, hs2, rfl⟩
    rintro ρ ⟨k, l, hk, hs, rfl⟩
    refine rn_seq (fun ρ => ∃ (a : Nat) (l : List Int), a < bks.length ∧ Strm l ∧ ρ = [some (IL l), some (eB size ls), some (.list (lns.map eN)), some (.tuple BL), some (.int (k : Nat)), some (.int (a : Nat)), none, none, none, none]) ?_ ?_
    · walk_at "sx"
      rw [hBl]
      obtain ⟨a, l2, e1, a1, hs2⟩ := ht l hs bks.length bks.length rfl (by omega)
      rw [e1]
      walk_at "sx"
      exact ⟨a, a1, l2, hs2, rfl⟩
    rintro ρ ⟨a, l, ha, hs, rfl⟩
    have ta := tkl a
    have z1 := bcutl (some ((a : Int) + 1)) none
    have z2 := bcutl (some (a : Int)) none
    have z3 := bcutl (some (a : Int)) (some ((a : Int) + 1))
    refine rn_seq (fun ρ => ρ = [some (IL l), some (eB size ls), some (.list (lns.map eN)), some (.tuple BL), some (.int (k : Nat)), some (.int (a : Nat)), none, none, none, none]) ?_ ?_
    · walk_at "sx"
      refine ⟨by simp [shp_int], ?_⟩
      by_cases c : (k : Int) = 0
      · rw [if_pos (by first | exact c | simpa using c)]
        have g := hPG _ l (GL_app (tkG a) (GL_cut hGL (some ((a : Int) + 1)) none)) hs
        exact ⟨okl (by omega), g⟩
      · rw [if_neg (by first | exact c | simpa using c)]
        trivial
    rintro ρ rfl
    refine rn_seq (fun ρ => ρ = [some (IL l), some (eB size ls), some (.list (lns.map eN)), some (.tuple BL), some (.int (k : Nat)), some (.int (a : Nat)), none, none, none, none]) ?_ ?_
    · walk_at "sx"
      refine ⟨by simp [shp_int], ?_⟩
      by_cases c : (k : Int) = 1
      · rw [if_pos (by first | exact c | simpa using c)]
        have g := hPG _ l (GL_app (GL_app (tkG a) (GL_cut hGL (some (a : Int)) (some ((a : Int) + 1)))) (GL_cut hGL (some (a : Int)) none)) hs
        exact ⟨okl (by omega), okl (by rw [List.length_append]; omega), g⟩
      · rw [if_neg (by first | exact c | simpa using c)]
        trivial
    rintro ρ rfl
    refine rn_seq (fun ρ => ρ = [some (IL l), some (eB size ls), some (.list (lns.map eN)), some (.tuple BL), some (.int (k : Nat)), some (.int (a : Nat)), none, none, none, none]) ?_ ?_
    · walk_at "sx"
      refine ⟨by simp [shp_int], ?_⟩
      by_cases c : (k : Int) = 2
      · rw [if_pos (by first | exact c | simpa using c)]
        obtain ⟨r, l2, e1, r1, hs2⟩ := ht l hs 5 5 rfl (by omega)
        rw [e1]
        walk_at "sx"
        refine ⟨okl (by omega), okl (by omega), okl (by omega), okl (by omega), okl (by omega), ?_⟩
        have go : ∀ x, shw x = true → smB x → P x [.list (l2.map .int)] := fun x h h2 => hP x l2 h h2 hs2
        rcases (by omega : r = 0 ∨ r = 1 ∨ r = 2 ∨ r = 3 ∨ r = 4) with rfl | rfl | rfl | rfl | rfl
        · exact ⟨_, atI_nat (i := 0) (by simp) PyData.none, go _ (by simp [shw]) fun bs e => by cases e⟩
        · exact ⟨_, atI_nat (i := 1) (by simp) PyData.none, go _ (shw_Tx (cs := [48]) (by simp)) fun bs e => by cases e⟩
        · exact ⟨_, atI_nat (i := 2) (by simp) PyData.none, hPG [] l2 (by intro x hx; cases hx) hs2⟩
        · exact ⟨_, atI_nat (i := 3) (by simp) PyData.none, hPG [PyData.tuple BL] l2 (GL_one (GL_shw hGL) fun ws e => by cases e; omega) hs2⟩
        · exact ⟨_, atI_nat (i := 4) (by simp) PyData.none, hPG (BL ++ [PyData.str (Tx [])]) l2 (GL_app hGL (GL_one (shw_Tx (by simp)) fun ws e => by cases e)) hs2⟩
      · rw [if_neg (by first | exact c | simpa using c)]
        trivial
    rintro ρ rfl
    refine rn_seq (fun ρ => ρ = [some (IL l), some (eB size ls), some (.list (lns.map eN)), some (.tuple BL), some (.int (k : Nat)), some (.int (a : Nat)), none, none, none, none]) ?_ ?_
    · walk_at "sx"
      have xa : atI BL (a : Int) = some (.tuple ((bks.getD a []).map eW)) := by rw [← hBL, atI_map, atI_nat ha []]; rfl
      by_cases c : (k : Int) < 6
      · rw [if_pos (by first | exact c | simpa using c)]
        have hbm := getD_mem ha ([] : List (List Nat))
        have hg := LBs_get hB.lb a (by omega)
        have := hB.sz _ hbm
        obtain ⟨d, l2, e1, hd, hdz, hs2⟩ := k25 (bks.getD a []) hg.ne (by omega) (hwok _ hbm) l hs
        refine ⟨_, xa, ?_⟩
        rw [e1]
        walk_at "sx"
        exact ⟨okl (by omega), okl (by omega), okl (by rw [List.length_append, List.length_cons, List.length_nil]; omega), hPG _ l2 (GL_app (GL_app (tkG a) (GL_one hd hdz)) (GL_cut hGL _ _)) hs2⟩
      · rw [if_neg (by first | exact c | simpa using c)]
        trivial
    rintro ρ rfl
    refine rn_seq (fun ρ => ρ = [some (IL l), some (eB size ls), some (.list (lns.map eN)), some (.tuple BL), some (.int (k : Nat)), some (.int (a : Nat)), some (.list (bks.map fun b => .list (b.map eW))), none, none, none]) ?_ ?_
    · rw [← hBL]
      walk_at "sx"
      refine wp_map bks (fun b => .tuple (b.map eW)) (fun b => .list (b.map eW)) (by omega) ?_ ?_ ?_
      · walk_at "sx"
      · intro b hb
        walk_at "sx"
      · walk_at "sx"
    rintro ρ rfl
    refine rn_seq (fun ρ => ∃ (bks : List (List (List Nat))) (l : List Int) (j5 j7 j8 : Option D), Strm l ∧ LBs lns bks ∧ (∀ b ∈ bks, b.length ≤ 1000) ∧ ρ = [some (IL l), some (eB size ls), some (.list (lns.map eN)), some (.tuple BL), some (.int (k : Nat)), j5, some (.list (bks.map fun b => .list (b.map eW))), j7, j8, none]) ?_ ?_
    · walk_at "sx"
      refine ⟨rfl, rng_i (fun i ρ => ∃ (bks : List (List (List Nat))) (l : List Int) (j5 j7 j8 : Option D), Strm l ∧ LBs lns bks ∧ (∀ b ∈ bks, b.length ≤ 100 + i) ∧ ρ = [some (IL l), some (eB size ls), some (.list (lns.map eN)), some (.tuple BL), some (.int (k : Nat)), j5, some (.list (bks.map fun b => .list (b.map eW))), j7, j8, none]) 0 8 0 rfl (by omega) ?_ ?_ ?_⟩
      · rintro ρ ⟨bks, l, j5, j7, j8, hs, hL, hz, rfl⟩
        exact ⟨bks, l, hs, hL, fun b hb => by have := hz b hb; omega, _, _, _, rfl⟩
      · rintro i ρ - hi ⟨bks, l, j5, j7, j8, hs, hL, hbz, rfl⟩ Q hQ
        have hlen := LBs_len hL
        refine ⟨_, by rw [bnd_nm, if_pos (by simp)], ?_⟩
        rw [on_ss]
        refine sq (fun ρ => ∃ (a : Nat) (l : List Int), a < lns.length ∧ Strm l ∧ ρ = [some (IL l), some (eB size ls), some (.list (lns.map eN)), some (.tuple BL), some (.int (k : Nat)), some (.int (a : Nat)), some (.list (bks.map fun b => .list (b.map eW))), some (.int (i : Nat)), j8, none]) ?_ ?_
        · intro Q hQ
          walk_at "sx"
          obtain ⟨a, l2, e1, a1, hs2⟩ := ht l hs lns.length lns.length rfl (by omega)
          rw [e1]
          walk_at "sx"
          exact hQ _ ⟨a, l2, a1, hs2, rfl⟩
        rintro ρ ⟨a, l, ha, hs, rfl⟩
        have hg := LBs_get hL a ha
        have haw := hwf _ (getD_mem ha (0, 0))
        have x1 : atI lns (a : Int) = some (lns.getD a (0, 0)) := atI_nat ha _
        have x2 : atI bks (a : Int) = some (bks.getD a []) := atI_nat (by omega) _
        have hbm := getD_mem (show a < bks.length by omega) []
        have hba := hbz _ hbm
        refine sq (fun ρ => ∃ (w : List Nat) (l : List Int), WordOk ((lns.getD a (0, 0)).2 - (lns.getD a (0, 0)).1) w ∧ Strm l ∧ ρ = [some (IL l), some (eB size ls), some (.list (lns.map eN)), some (.tuple BL), some (.int (k : Nat)), some (.int (a : Nat)), some (.list (bks.map fun b => .list (b.map eW))), some (.int (i : Nat)), some (eW w), none]) ?_ ?_
        · intro Q hQ
          obtain ⟨w, l2, e1, hw, hs2⟩ := k21 (lns.getD a (0, 0)) (bks.getD a []) haw.1 haw.2 hg.wd l hs
          walk_at "sx"
          refine ⟨_, x1, _, x2, ?_⟩
          rw [e1]
          walk_at "sx"
          exact hQ _ ⟨w, l2, hw, hs2, rfl⟩
        rintro ρ ⟨w, l, hw, hs, rfl⟩
        have hbin := LBs_bin hL
        obtain ⟨qs, e22, hqp, hqs⟩ := k22 bks a w (by omega) (by omega) (fun b hb => by have := hbz b hb; omega) hbin (bin_ok hw.bn)
        have hnew := add_ok hL ha hw hqp
        have hql := hqp.length_eq
        rw [List.length_append, List.length_singleton] at hql
        have hsz : ∀ b ∈ bks.set a qs, b.length ≤ 100 + (i + 1) := fun b hb => by
          rcases List.mem_or_eq_of_mem_set hb with hb | hb
          · have := hbz b hb; omega
          · rw [hb]; omega
        have q18 := k18 bks (by omega) (fun b hb => by have := hbz b hb; omega) hL
        have keep : Q [some (IL l), some (eB size ls), some (.list (lns.map eN)), some (.tuple BL), some (.int (k : Nat)), some (.int (a : Nat)), some (.list (bks.map fun b => .list (b.map eW))), some (.int (i : Nat)), some (eW w), none] := hQ _ ⟨bks, l, _, _, _, hs, hL, fun b hb => by have := hbz b hb; omega, rfl⟩
        have s1 := shp_sqW false (bks.getD a []) (hbin _ hbm)
        have s2 := any_eqvW (bks.getD a []) w
        simp only [sqD, Bool.false_eq_true, if_false] at s1
        simp only [eW] at keep
        generalize hbk : bks.getD a [] = bk at *
        walk_at "sx"
        refine ⟨bk, x2, ?_⟩
        walk_at "sx"
        rw [shp_str (bin_ok hw.bn), s1, s2]
        refine ⟨rfl, ?_⟩
        by_cases hmem : w ∈ bk
        · rw [if_neg (by simpa using hmem)]
          exact keep
        · rw [if_pos (by simpa using hmem)]
          rw [q18]
          walk_at "sx"
          cases hcl : clashP ls lns bks with
          | true =>
            rw [if_neg (by simp)]
            exact keep
          | false =>
            rw [if_pos (by simp)]
            rw [e22]
            walk_at "sx"
            exact hQ _ ⟨bks.set a qs, l, _, _, _, hs, hnew, hsz, rfl⟩
      · exact ⟨bks, l, _, none, none, hs, hB.lb, hB.sz, rfl⟩
    rintro ρ ⟨bks, l, j5, j7, j8, hs, hL, hz, rfl⟩
    have hlen := LBs_len hL
    have hbin := LBs_bin hL
    walk_at "sx"
    refine wp_map bks (fun b => .list (b.map eW)) (fun b => .tuple (b.map eW)) (by omega) ?_ ?_ ?_
    · walk_at "sx"
    · intro b hb
      walk_at "sx"
    · walk_at "sx"
      exact hPG _ l (GL_bks fun b hb => ⟨by have := hz b hb; omega, hbin b hb⟩) hs
  obtain ⟨d, o, h, h1⟩ := this
  obtain ⟨l', rfl, h2⟩ := hP2 d o h1
  exact ⟨d, l', h, h2⟩

end G
end
section
set_option linter.all false
set_option autoImplicit false
set_option maxRecDepth 100000
set_option maxHeartbeats 4000000
namespace G
open PySem VF L2
local macro_rules | `(tactic| walk_at "sx") => `(tactic| (try simp only [T_is_number, mu_is_number, T_is_word, mu_is_word, T_opposite, mu_opposite, T_part, mu_part, T_are_cuts, mu_are_cuts, T_is_lane_book, mu_is_lane_book, T_occurs_joined, mu_occurs_joined, T_shows_product, mu_shows_product, T__law_stream, mu__law_stream, T__law_take, mu__law_take, T__law_same, mu__law_same, T__law_lot, mu__law_lot, T__law_lots, mu__law_lots, T__law_opposite, mu__law_opposite, T__law_standard, mu__law_standard, T__law_bus, mu__law_bus, T__law_lanes, mu__law_lanes, T__law_occurs, mu__law_occurs, T__law_clash, mu__law_clash, T__law_is_lane, mu__law_is_lane, T__law_right, mu__law_right, T__law_lane_word, mu__law_lane_word, T__law_with, mu__law_with, T__law_books, mu__law_books, T__law_drawn, mu__law_drawn, T__law_cut_spoilt, mu__law_cut_spoilt, T__law_words_spoilt, mu__law_words_spoilt, T__law_books_spoilt, mu__law_books_spoilt, T_law, mu_law, bnd_tp, bnds_n, bnds_c, Option.bind_some, eqv_nil, List.drop_nil, List.drop_succ_cons, List.drop_zero, tx1, eW, eL, atI_z, atI_o, int0, int1, shp_int, shp_none, shp_bool, eqv_int, eqv_str, wipeR_c, wipeR_n, backR_c, backR_n, lit_e, lit_0, lit_1, lit_10, lit_01, lit_m, Tx_list, Tx_len, pow18, exists_and_left, decide_eq_true_eq, List.length_map, atI_map, u_popI, s_retN, s_pas, s_brk, s_cnt, s_whl, ex_ite, ex_map, ex_bind, ex_some, ex_bool, ite_no, o_addI, o_subI, o_mulI, o_fdivI, o_modI, o_powI, o_addS, o_addT, o_catL, c_ltI, c_leI, c_gtI, c_geI, c_eq, c_ne, c_ltS, c_ltT, c_inS, c_inL, c_ninL, c_inT, c_ninT, b_lenL, b_lenT, b_lenS, b_intI, b_intB, b_intS, b_strI, b_tupL, b_tupT, b_lstL, b_lstT, b_lstS, b_srt, b_sum, b_max2, b_min2, b_abs, b_any, b_all, x_l, x_t, x_s, n_non, n_int, n_str, n_tup, n_lst, n_bool, k_join, u_app, u_rev, i_l, i_t, i_s, g_1, g_2, startR, bnd_nm, outsTo, mutOuts, List.map_cons, List.map_nil, List.cons_append, List.nil_append, List.length_cons, List.length_nil, List.getElem?_cons_zero, List.getElem?_cons_succ, Option.some.injEq, exists_eq_left', exists_eq_left, exists_eq, exists_eq', List.set_cons_zero, List.set_cons_succ, and_true, true_and, Option.map_some, PyData.bool.injEq, PyData.int.injEq, PyData.list.injEq, PyData.str.injEq, PyData.tuple.injEq, ite_true, ite_false, if_true, if_false, Bool.false_eq_true, Nat.sub_self, List.replicate_zero, List.append_nil, List.replicate_succ, Nat.zero_add, Nat.reduceAdd, Nat.reduceSub, Nat.reduceLT, ctxN, Option.getD_some, on_ss, q_bnd, q_ret, q_none, q_lift, q_itep, q_s, q_d, q_pv, q_asB, q_call, q_neg, q_so, q_no, q_mu, q_cons, q_nil, t_asg, t_ex, t_ret, t_ife, t_set, t_fr, qo_con, qo_glo, qo_tup, qo_lst, qo_op, qo_neg, qo_cmp, qo_isN, qo_and, qo_or, qo_not, qo_ite, qo_fn, qo_bi, qo_me, qo_mu, qo_ix, qo_sl, qo_comp, qo_eqR, qe_var, qe_con, qe_glo, qe_tup, qe_lst, qe_op, qe_cmp, qe_isN, qe_and, qe_or, qe_not, qe_ite, qe_fn, qe_bi, qe_me, qe_ix, qe_sl, qe_eqR, qm_es_n, qm_es_c, qm_ps_n, qm_ps_c, qm_as_n, qm_as_t, qm_as_f, qm_as_e, qm_i_seq, qm_i_rng1, qm_i_rng2, qm_i_enum, qm_i_zip2, qm_i_rev1, qm_i_rev2, qr_n, qr_c, qo_isi, qo_chn, qo_rev, qe_isi, qe_chn, qe_rev, qm_i_zip3, kd_ii, kd_ib, kd_is, kd_in, kd_il, kd_it, kd_bi, kd_bb, kd_bs, kd_bn, kd_bl, kd_bt, kd_si, kd_sb, kd_ss, kd_sn, kd_sl, kd_st, kd_ti, kd_tb, kd_ts, kd_tn, kd_tl, kd_tt, rv_t, sl_l, sl_s, c_inS1, c_ninS1, c_geS, it_sq, ix_sq, len_sq, lst_sq, tup_sq, ltS_Tx, it_Tx, sl_t, cut_to, bnd_nat]))

theorem cuts_lt {size : Nat} : ∀ {ns : List Nat} {last : Int}, cutsOk size last (iL ns) = true → ∀ n ∈ ns, n < size
  | [], _, _, n, hn => by cases hn
  | x :: ns, last, h, n, hn => by
    have e : cutsOk size last (PyData.int (x : Nat) :: iL ns) = true := h
    rw [cutsOk, Bool.and_eq_true, decide_eq_true_eq] at e
    rcases List.mem_cons.mp hn with rfl | hn
    · omega
    · exact cuts_lt e.2 n hn
abbrev eD2 (p : D × D) : D := .tuple [p.1, p.2]
theorem wordsD_enc (b : List (List Nat)) : wordsD (.tuple (b.map eW)) = b := by
  simp [wordsD, List.map_map, Function.comp_def, eW, Tx]
theorem wordsD_encs (bks : List (List (List Nat))) : (bks.map fun b => PyData.tuple (b.map eW)).map wordsD = bks := by
  rw [List.map_map]
  have : (wordsD ∘ fun b : List (List Nat) => PyData.tuple (b.map eW)) = id := by
    funext b
    exact wordsD_enc b
  rw [this, List.map_id]
theorem isW_ok {k : Nat} {w : List Nat} (h : WordOk k w) : isW k (eW w) = true := by
  simp only [isW, eW, Bool.and_eq_true, decide_eq_true_eq, List.all_eq_true]
  exact ⟨by rw [Tx_len, h.ln], fun c hc => h.bn c hc⟩
theorem goAsc_true {k : Nat} : ∀ (b : List (List Nat)) (p : Option (List Nat)), (∀ w ∈ b, WordOk k w) → b.Pairwise (fun a b => a < b) → (∀ q, p = some q → ∀ w ∈ b, q < w) → goAsc k (p.map Tx) (b.map eW) = true
  | [], _, _, _, _ => rfl
  | w :: b, p, h1, h2, h3 => by
    rw [List.pairwise_cons] at h2
    have ih := goAsc_true b (some w) (fun v hv => h1 v (by simp [hv])) h2.2 (fun q e v hv => by cases e; exact h2.1 v hv)
    have hw := isW_ok (h1 w (by simp))
    unfold eW at hw
    show goAsc k (p.map Tx) (PyData.str (Tx w) :: b.map eW) = true
    show (isW k (PyData.str (Tx w)) && (match p.map Tx with | none => true | some q => ltS q (Tx w)) && goAsc k (some (Tx w)) (b.map eW)) = true
    simp only [Option.map_some] at ih
    rw [hw, ih, Bool.and_true, Bool.true_and]
    cases p with
    | none => rfl
    | some q =>
      have := h3 q rfl w (by simp)
      simp only [Option.map_some, ltS_Tx]
      exact decide_eq_true this
theorem lanesOk_true : ∀ (lns : List (Nat × Nat)) (bks : List (List (List Nat))), LBs lns bks → (∀ b ∈ bks, b.Pairwise (fun a b => a < b)) → lanesOk lns (bks.map fun b => .tuple (b.map eW)) = true
  | [], [], _, _ => rfl
  | ln :: l, b :: bks, h, ha => by
    have ih := lanesOk_true l bks h.2 fun b hb => ha b (by simp [hb])
    have g := h.1
    have q := goAsc_true b none g.wd (ha b (by simp)) (fun q e => by cases e)
    have e : (ln.2 : Int) - (ln.1 : Int) = ((ln.2 - ln.1 : Nat) : Int) := by have := g.lt; omega
    rw [List.map_cons, lanesOk, ih, Bool.and_true, laneOk, e]
    simp only [Option.map_none] at q
    rw [q, Bool.and_true]
    cases b with
    | nil => exact absurd rfl g.ne
    | cons => rfl
  | [], _ :: _, h, _ => h.elim
  | _ :: _, [], h, _ => h.elim
theorem prod_true {size : Nat} {ls : List Lot} {ns : List Nat} {bks : List (List (List Nat))} (hcut : cutsOk size 0 (iL ns) = true) (hB : BksOk ls (lanesOf size ns) bks) : prodOk size ls (.tuple (iL ns)) (.tuple (bks.map fun b => .tuple (b.map eW))) = true := by
  have hl := LBs_len hB.lb
  rw [lanesOf_len] at hl
  simp only [prodOk]
  rw [hcut, natsD_iL, wordsD_encs, hB.cl, lanesOk_true _ _ hB.lb hB.asc]
  simp only [List.length_map, Bool.not_false, Bool.and_true]
  exact decide_eq_true (by omega)
theorem cut_mapD {α : Type} (f : α → D) (ls : List α) (a : Nat) : (ls.map f).take a ++ cutD (ls.map f) (some ((a : Int) + 1)) none = (ls.take a ++ cutD ls (some ((a : Int) + 1)) none).map f := by
  unfold cutD
  simp only [List.map_append, List.map_take, List.map_drop, List.length_map]
def GP (ps : List (D × D)) : Prop := ∀ p ∈ ps, shw p.1 = true ∧ shw p.2 = true ∧ smB p.2
theorem GP_app {ps : List (D × D)} {c b : D} (h : GP ps) (h1 : shw c = true) (h2 : shw b = true) (h3 : smB b) : GP (ps ++ [(c, b)]) := fun p hp => by
  rcases List.mem_append.mp hp with hp | hp
  · exact h p hp
  · have : p = (c, b) := by simpa using hp
    rw [this]
    exact ⟨h1, h2, h3⟩
theorem papp (ps : List (D × D)) (c b : D) : ps.map eD2 ++ [PyData.tuple [c, b]] = (ps ++ [(c, b)]).map eD2 := by simp
theorem fact0 (nsx : List Int) (hl : nsx.length ≤ 63) (hb : ∀ i ∈ nsx, Builtin.Int.intBits i ≤ 1048576) : CallOk T 12 28 [.list (nsx.map .int)] fun d outs => d = .bool true := by
  have hst : ∃ l, callN T 11 8 [.list (nsx.map .int)] = some (.ok (.list (List.map PyData.int l)) []) ∧ Strm l := by
    obtain ⟨d, o, e, l, rfl, rfl, h⟩ := stream_ok 11 (by omega) nsx hl hb
    exact ⟨l, e, h⟩
  have ht := tk 11 (by omega)
  have hdr := fun l hs => drawn_ok 11 (by omega) l hs
  have hln := fun size ns h => lanes_ok 11 (by omega) size ns h
  have hbk := fun size ls lns h1 h2 h3 h4 h5 l hs => books_ok 11 (by omega) size ls lns h1 h2 h3 h4 h5 l hs
  have hcs := fun size h1 ns h2 h3 bl h4 h5 l hs => cutsp_ok 11 (by omega) size h1 ns h2 h3 bl h4 h5 l hs
  have hbs := fun size ls lns bks h1 h2 h3 h4 h5 l hs => booksp_ok 11 (by omega) size ls lns bks h1 h2 h3 h4 h5 l hs
  have hsp := fun size ls h0 h6 h1 c b h2 h3 h4 => shows_ok 11 (by omega) size ls h0 h6 h1 c b h2 h3 h4
  have hri := fun size ls h0 h6 h1 c b h2 h3 h4 => right_ok 11 (by omega) size ls h0 h6 h1 c b h2 h3 h4
  have hsa := fun b => same_bool 11 (by omega) b
  obtain ⟨C, hC⟩ : ∃ C, callN T 11 = C := ⟨_, rfl⟩
  simp only [hC] at hst ht hdr hln hbk hcs hbs hsp hri hsa
  apply call_okC C hC T_law rfl
  clear hC
  unfold f_law
  simp only [startR, List.length_cons, List.length_nil, List.map_cons, List.map_nil, List.cons_append, List.nil_append, Nat.reduceAdd, Nat.reduceSub, List.replicate_succ, List.replicate_zero]
  obtain ⟨l0, est, hs0⟩ := hst
  refine rn_seq (fun ρ => ρ = [some (IL nsx), some (IL l0), none, none, none, none, none, none, none, none, none, none, none]) ?_ ?_
  · walk_at "sx"
    rw [est]
    walk_at "sx"
  rintro ρ rfl
  walk_at "sx"
  refine ⟨rfl, rng_i (fun i ρ => ∃ (l : List Int) (j2 j3 j4 j5 j6 j7 j8 j9 j10 j11 j12 : Option D), Strm l ∧ ρ = [some (IL nsx), some (IL l), j2, j3, j4, j5, j6, j7, j8, j9, j10, j11, j12]) 0 2 0 rfl (by omega) ?_ ?_ ⟨l0, _, _, _, _, _, _, _, _, _, _, _, hs0, rfl⟩⟩
  · rintro ρ ⟨l, j2, j3, j4, j5, j6, j7, j8, j9, j10, j11, j12, hs, rfl⟩
    walk_at "sx"
  rintro t ρ - ht2 ⟨l, j2, j3, j4, j5, j6, j7, j8, j9, j10, j11, j12, hs, rfl⟩ Q hQ
  refine ⟨_, by rw [bnd_nm, if_pos (by simp)], ?_⟩
  rw [on_ss]
  refine sq (fun ρ => ∃ (size : Nat) (ls : List Lot) (ns : List Nat) (l : List Int), Strm l ∧ (0 < size ∧ size ≤ 60 ∧ ls.length ≤ 100 ∧ (∀ l ∈ ls, LotOk size l) ∧ cutsOk size 0 (iL ns) = true) ∧ ρ = [some (IL nsx), some (IL l), some (.int (t : Nat)), some (.tuple [eB size ls, .tuple (iL ns)]), j4, j5, j6, j7, j8, j9, j10, j11, j12]) ?_ ?_
  · intro Q hQ
    walk_at "sx"
    obtain ⟨size, ls, ns, l2, e1, h0, h6, hz, hls, hcut, hs2⟩ := hdr l hs
    rw [e1]
    walk_at "sx"
    exact hQ _ ⟨size, ls, ns, l2, hs2, ⟨h0, h6, hz, hls, hcut⟩, rfl⟩
  rintro ρ ⟨size, ls, ns, l, hs, ⟨h0, h6, hlz, hls, hcut⟩, rfl⟩
  obtain ⟨-, hwf, hcl⟩ := cutsOk_nat (iL ns) 0 h0 hcut
  rw [natsD_iL] at hwf
  rw [List.length_map, Nat.add_zero] at hcl
  have hlnl := lanesOf_len size ns
  have hns : ∀ n ∈ ns, n < size := cuts_lt hcut
  have hcov : Cov size (lanesOf size ns) := fun v hv => cov_zip size ns 0 v (by omega) hv
  have hwf2 : ∀ p ∈ lanesOf size ns, p.1 < p.2 ∧ p.2 ≤ 100 := fun p hp => by
    refine ⟨hwf p hp, ?_⟩
    have h2 : p.2 ∈ ns ++ [size] := by
      have := List.mem_map_of_mem (f := (·.2)) hp
      rwa [lanesOf_snd] at this
    rcases List.mem_append.mp h2 with h2 | h2
    · have := hns _ h2
      omega
    · have : p.2 = size := by simpa using h2
      omega
  have hprod := fun bks (h : BksOk ls (lanesOf size ns) bks) => prod_true hcut h
  have eln := hln size ns (by omega)
  generalize hlns : lanesOf size ns = lns at *
  have hcsh : shw (.tuple (iL ns)) = true := by rw [shw]; exact shws_iL ns fun n hn => by have := hns n hn; omega
  refine sq (fun ρ => ρ = [some (IL nsx), some (IL l), some (.int (t : Nat)), some (.tuple [eB size ls, .tuple (iL ns)]), some (eB size ls), j5, j6, j7, j8, j9, j10, j11, j12]) ?_ ?_
  · intro Q hQ
    walk_at "sx"
    exact hQ _ rfl
  rintro ρ rfl
  refine sq (fun ρ => ρ = [some (IL nsx), some (IL l), some (.int (t : Nat)), some (.tuple [eB size ls, .tuple (iL ns)]), some (eB size ls), some (.tuple (iL ns)), j6, j7, j8, j9, j10, j11, j12]) ?_ ?_
  · intro Q hQ
    walk_at "sx"
    exact hQ _ rfl
  rintro ρ rfl
  refine sq (fun ρ => ρ = [some (IL nsx), some (IL l), some (.int (t : Nat)), some (.tuple [eB size ls, .tuple (iL ns)]), some (eB size ls), some (.tuple (iL ns)), some (.list (lns.map eN)), j7, j8, j9, j10, j11, j12]) ?_ ?_
  · intro Q hQ
    walk_at "sx"
    rw [eln]
    walk_at "sx"
    exact hQ _ rfl
  rintro ρ rfl
  refine sq (fun ρ => ∃ (bks : List (List (List Nat))) (l : List Int), Strm l ∧ BksOk ls lns bks ∧ ρ = [some (IL nsx), some (IL l), some (.int (t : Nat)), some (.tuple [eB size ls, .tuple (iL ns)]), some (eB size ls), some (.tuple (iL ns)), some (.list (lns.map eN)), some (.tuple (bks.map fun b => .tuple (b.map eW))), j8, j9, j10, j11, j12]) ?_ ?_
  · intro Q hQ
    walk_at "sx"
    obtain ⟨bks, l2, e1, hB, hs2⟩ := hbk size ls lns hls hcov hwf2 (by omega) (by omega) l hs
    rw [e1]
    walk_at "sx"
    exact hQ _ ⟨bks, l2, hs2, hB, rfl⟩
  rintro ρ ⟨bks, l, hs, hB, rfl⟩
  have hGLs : ∀ ls' bks, BksOk ls' lns bks → GL (bks.map fun b => .tuple (b.map eW)) := fun ls' bks hB => GL_bks fun b hb => ⟨by have := hB.sz b hb; omega, LBs_bin hB.lb b hb⟩
  have hGL := hGLs ls bks hB
  have hprod := hprod bks hB
  have hblen := LBs_len hB.lb
  refine sq (fun ρ => ∃ ps : List (D × D), GP ps ∧ ps.length ≤ 1 ∧ ρ = [some (IL nsx), some (IL l), some (.int (t : Nat)), some (.tuple [eB size ls, .tuple (iL ns)]), some (eB size ls), some (.tuple (iL ns)), some (.list (lns.map eN)), some (.tuple (bks.map fun b => .tuple (b.map eW))), some (.list (ps.map eD2)), j9, j10, j11, j12]) ?_ ?_
  · intro Q hQ
    walk_at "sx"
    refine ⟨okl (by omega), okl (by omega), ?_⟩
    exact hQ _ ⟨[(.tuple (iL ns), .tuple (bks.map fun b => .tuple (b.map eW)))], GP_app (ps := []) (fun p hp => by cases hp) hcsh (GL_shw hGL) (GL_sm hGL), by simp, rfl⟩
  rintro ρ ⟨ps, hps, hpl, rfl⟩
  refine sq (fun ρ => ∃ (ps : List (D × D)) (l : List Int) (j9 : Option D), Strm l ∧ GP ps ∧ ps.length ≤ 20 ∧ ρ = [some (IL nsx), some (IL l), some (.int (t : Nat)), some (.tuple [eB size ls, .tuple (iL ns)]), some (eB size ls), some (.tuple (iL ns)), some (.list (lns.map eN)), some (.tuple (bks.map fun b => .tuple (b.map eW))), some (.list (ps.map eD2)), j9, j10, j11, j12]) ?_ ?_
  · intro Q hQ
    walk_at "sx"
    refine ⟨rfl, rng_i (fun i ρ => ∃ (ps : List (D × D)) (l : List Int) (j9 : Option D), Strm l ∧ GP ps ∧ ps.length ≤ 1 + 2 * i ∧ ρ = [some (IL nsx), some (IL l), some (.int (t : Nat)), some (.tuple [eB size ls, .tuple (iL ns)]), some (eB size ls), some (.tuple (iL ns)), some (.list (lns.map eN)), some (.tuple (bks.map fun b => .tuple (b.map eW))), some (.list (ps.map eD2)), j9, j10, j11, j12]) 0 5 0 rfl (by omega) ?_ ?_ ⟨ps, l, _, hs, hps, by omega, rfl⟩⟩
    · rintro ρ ⟨ps, l, j9, hs, hps, hpl, rfl⟩
      walk_at "sx"
      exact hQ _ ⟨ps, l, _, hs, hps, by omega, rfl⟩
    · rintro i ρ - hi ⟨ps, l, j9, hs, hps, hpl, rfl⟩ Q2 hQ2
      refine ⟨_, by rw [bnd_nm, if_pos (by simp)], ?_⟩
      rw [on_ss]
      refine sq (fun ρ => ∃ (ps : List (D × D)) (l : List Int), Strm l ∧ GP ps ∧ ps.length ≤ 2 + 2 * i ∧ ρ = [some (IL nsx), some (IL l), some (.int (t : Nat)), some (.tuple [eB size ls, .tuple (iL ns)]), some (eB size ls), some (.tuple (iL ns)), some (.list (lns.map eN)), some (.tuple (bks.map fun b => .tuple (b.map eW))), some (.list (ps.map eD2)), some (.int (i : Nat)), j10, j11, j12]) ?_ ?_
      · intro Q hQ
        walk_at "sx"
        obtain ⟨c, b, l2, e1, hc, hb, hsm, hs2⟩ := hcs size (by omega) ns (fun n hn => by have := hns n hn; omega) (by omega) (bks.map fun b => .tuple (b.map eW)) hGL (by rw [List.length_map]; omega) l hs
        rw [e1]
        walk_at "sx"
        refine ⟨by omega, ?_⟩
        rw [papp]
        exact hQ _ ⟨_, l2, hs2, GP_app hps hc hb hsm, by simp; omega, rfl⟩
      rintro ρ ⟨ps, l, hs, hps, hpl, rfl⟩
      walk_at "sx"
      obtain ⟨b, l2, e1, hb, hsm, hs2⟩ := hbs size ls lns bks hls hwf2 (by omega) (by omega) hB l hs
      rw [e1]
      walk_at "sx"
      refine ⟨okl (by omega), by omega, ?_⟩
      rw [papp]
      exact hQ2 _ ⟨_, l2, _, hs2, GP_app hps hcsh hb hsm, by simp; omega, rfl⟩
  rintro ρ ⟨ps, l, j9, hs, hps, hpl, rfl⟩
  refine sq (fun ρ => ∃ (ps : List (D × D)) (l : List Int) (j11 j12 : Option D), Strm l ∧ GP ps ∧ ps.length ≤ 30 ∧ ρ = [some (IL nsx), some (IL l), some (.int (t : Nat)), some (.tuple [eB size ls, .tuple (iL ns)]), some (eB size ls), some (.tuple (iL ns)), some (.list (lns.map eN)), some (.tuple (bks.map fun b => .tuple (b.map eW))), some (.list (ps.map eD2)), j9, j10, j11, j12]) ?_ ?_
  · intro Q hQ
    walk_at "sx"
    by_cases hne : 0 < (ls.length : Int)
    · rw [if_pos (by first | exact hne | simpa using hne)]
      obtain ⟨a, l2, e1, a1, hs2⟩ := ht l hs ls.length ls.length rfl (by omega)
      rw [e1]
      walk_at "sx"
      have z1 : (List.take a (ls.map eL)).length ≤ ls.length := by rw [List.length_take, List.length_map]; omega
      have z2 := cutD_len' (ls.map eL) (some ((a : Int) + 1)) none
      rw [List.length_map] at z2
      have ecm := cut_mapD eL ls a
      generalize hls' : ls.take a ++ cutD ls (some ((a : Int) + 1)) none = ls' at *
      have hl' : ∀ l ∈ ls', LotOk size l := fun x hx => by
        rw [← hls'] at hx
        rcases List.mem_append.mp hx with hx | hx
        · exact hls x (List.mem_of_mem_take hx)
        · unfold cutD at hx
          exact hls x (List.mem_of_mem_drop (List.mem_of_mem_take hx))
      rw [ecm]
      refine ⟨okl (by omega), okl (by omega), ?_⟩
      obtain ⟨bks', l3, e2, hB', hs3⟩ := hbk size ls' lns hl' hcov hwf2 (by omega) (by omega) l2 hs2
      rw [e2]
      walk_at "sx"
      have g := hGLs ls' bks' hB'
      refine ⟨okl (by omega), by omega, ?_⟩
      rw [papp]
      exact hQ _ ⟨_, l3, _, _, hs3, GP_app hps hcsh (GL_shw g) (GL_sm g), by simp; omega, rfl⟩
    · rw [if_neg (by first | exact hne | simpa using hne)]
      exact hQ _ ⟨ps, l, _, _, hs, hps, by omega, rfl⟩
  rintro ρ ⟨ps, l, j11, j12, hs, hps, hpl, rfl⟩
  refine sq (fun ρ => ∃ (ps : List (D × D)), GP ps ∧ ps.length ≤ 40 ∧ ρ = [some (IL nsx), some (IL l), some (.int (t : Nat)), some (.tuple [eB size ls, .tuple (iL ns)]), some (eB size ls), some (.tuple (iL ns)), some (.list (lns.map eN)), some (.tuple (bks.map fun b => .tuple (b.map eW))), some (.list (ps.map eD2)), j9, j10, j11, j12]) ?_ ?_
  · intro Q hQ
    walk_at "sx"
    refine ⟨okl (by omega), by omega, ?_⟩
    rw [papp]
    exact hQ _ ⟨_, GP_app hps hcsh (GL_shw hGL) (GL_sm hGL), by simp; omega, rfl⟩
  rintro ρ ⟨ps, hps, hpl, rfl⟩
  refine sq (fun ρ => ∃ (j10 : Option D), ρ = [some (IL nsx), some (IL l), some (.int (t : Nat)), some (.tuple [eB size ls, .tuple (iL ns)]), some (eB size ls), some (.tuple (iL ns)), some (.list (lns.map eN)), some (.tuple (bks.map fun b => .tuple (b.map eW))), some (.list (ps.map eD2)), j9, j10, j11, j12]) ?_ ?_
  · intro Q hQ
    walk_at "sx"
    refine lst_i eD2 (fun rest ρ => ∃ (j10 : Option D), GP rest ∧ ρ = [some (IL nsx), some (IL l), some (.int (t : Nat)), some (.tuple [eB size ls, .tuple (iL ns)]), some (eB size ls), some (.tuple (iL ns)), some (.list (lns.map eN)), some (.tuple (bks.map fun b => .tuple (b.map eW))), some (.list (ps.map eD2)), j9, j10, j11, j12]) ps ?_ ?_ ⟨_, hps, rfl⟩
    · rintro ρ ⟨j10, h1, rfl⟩
      walk_at "sx"
      exact hQ _ ⟨_, rfl⟩
    · rintro ⟨c, b⟩ rest ρ ⟨j10, h1, rfl⟩ Q2 hQ2
      obtain ⟨hc, hb, hsm⟩ := h1 (c, b) (by simp)
      have hr : GP rest := fun p hp => h1 p (by simp [hp])
      have q1 := hsp size ls h0 h6 hls c b hc hb hsm
      have q2 := hri size ls h0 h6 hls c b hc hb hsm
      have q3 := hsa (prodOk size ls c b)
      refine ⟨_, by rw [bnd_nm, if_pos (by simp)], ?_⟩
      rw [on_ss]
      walk_at "sx"
      rw [q1]
      walk_at "sx"
      rw [q2]
      walk_at "sx"
      rw [q3]
      walk_at "sx"
      try rw [if_neg (by simp)]
      exact hQ2 _ ⟨_, hr, rfl⟩
  rintro ρ ⟨j10, rfl⟩
  have q2 := hri size ls h0 h6 hls (.tuple (iL ns)) (.tuple (bks.map fun b => .tuple (b.map eW))) hcsh (GL_shw hGL) (GL_sm hGL)
  rw [hprod] at q2
  walk_at "sx"
  rw [q2]
  walk_at "sx"
  try rw [if_neg (by simp)]
  exact hQ _ ⟨l, _, _, _, _, _, _, _, _, _, _, _, hs, rfl⟩
theorem fact (ns : List Int) (hl : ns.length ≤ 63) (hb : ∀ i ∈ ns, Builtin.Int.intBits i ≤ 1048576) : ∃ outs, callN T 12 28 [.list (ns.map .int)] = some (.ok (.bool true) outs) := by
  obtain ⟨d, o, e, rfl⟩ := fact0 ns hl hb
  exact ⟨o, e⟩

end G
end
section
set_option linter.all false
set_option autoImplicit false
set_option maxRecDepth 100000
set_option maxHeartbeats 4000000
namespace G
open PySem VF
theorem c_is_number : chkFn T bl f_is_number (topS 1) = true := by decide +kernel
theorem c_is_word : chkFn T bl f_is_word (topS 3) = true := by decide +kernel
theorem c_opposite : chkFn T bl f_opposite (topS 4) = true := by decide +kernel
theorem c_part : chkFn T bl f_part (topS 5) = true := by decide +kernel
theorem c_are_cuts : chkFn T bl f_are_cuts (topS 7) = true := by decide +kernel
theorem c_is_lane_book : chkFn T bl f_is_lane_book (topS 8) = true := by decide +kernel
theorem c_occurs_joined : chkFn T bl f_occurs_joined (topS 9) = true := by decide +kernel
theorem c_shows_product : chkFn T bl f_shows_product (topS 10) = true := by decide +kernel
theorem c__law_stream : chkFn T bl f__law_stream (topS 12) = true := by decide +kernel
theorem c__law_take : chkFn T bl f__law_take (topS 13) = true := by decide +kernel
theorem c__law_same : chkFn T bl f__law_same (topS 14) = true := by decide +kernel
theorem c__law_lot : chkFn T bl f__law_lot (topS 15) = true := by decide +kernel
theorem c__law_lots : chkFn T bl f__law_lots (topS 16) = true := by decide +kernel
theorem c__law_opposite : chkFn T bl f__law_opposite (topS 17) = true := by decide +kernel
theorem c__law_standard : chkFn T bl f__law_standard (topS 18) = true := by decide +kernel
theorem c__law_bus : chkFn T bl f__law_bus (topS 19) = true := by decide +kernel
theorem c__law_lanes : chkFn T bl f__law_lanes (topS 20) = true := by decide +kernel
theorem c__law_occurs : chkFn T bl f__law_occurs (topS 21) = true := by decide +kernel
theorem c__law_clash : chkFn T bl f__law_clash (topS 22) = true := by decide +kernel
theorem c__law_is_lane : chkFn T bl f__law_is_lane (topS 23) = true := by decide +kernel
theorem c__law_right : chkFn T bl f__law_right (topS 24) = true := by decide +kernel
theorem c__law_lane_word : chkFn T bl f__law_lane_word (topS 25) = true := by decide +kernel
theorem c__law_with : chkFn T bl f__law_with (topS 26) = true := by decide +kernel
theorem c__law_books : chkFn T bl f__law_books (topS 27) = true := by decide +kernel
theorem c__law_drawn : chkFn T bl f__law_drawn (topS 28) = true := by decide +kernel
theorem c__law_cut_spoilt : chkFn T bl f__law_cut_spoilt (topS 29) = true := by decide +kernel
theorem c__law_words_spoilt : chkFn T bl f__law_words_spoilt (topS 30) = true := by decide +kernel
theorem c__law_books_spoilt : chkFn T bl f__law_books_spoilt (topS 31) = true := by decide +kernel
theorem c_law : chkFn T bl f_law (topS 32) = true := by decide +kernel
theorem chk : chkAll T bl T sts = true := chkAll_cons c_is_number (chkAll_cons c_is_word (chkAll_cons c_opposite (chkAll_cons c_part (chkAll_cons c_are_cuts (chkAll_cons c_is_lane_book (chkAll_cons c_occurs_joined (chkAll_cons c_shows_product (chkAll_cons c__law_stream (chkAll_cons c__law_take (chkAll_cons c__law_same (chkAll_cons c__law_lot (chkAll_cons c__law_lots (chkAll_cons c__law_opposite (chkAll_cons c__law_standard (chkAll_cons c__law_bus (chkAll_cons c__law_lanes (chkAll_cons c__law_occurs (chkAll_cons c__law_clash (chkAll_cons c__law_is_lane (chkAll_cons c__law_right (chkAll_cons c__law_lane_word (chkAll_cons c__law_with (chkAll_cons c__law_books (chkAll_cons c__law_drawn (chkAll_cons c__law_cut_spoilt (chkAll_cons c__law_words_spoilt (chkAll_cons c__law_books_spoilt (chkAll_cons c_law (rfl)))))))))))))))))))))))))))))
theorem b_is_number : ∀ (kV doc pm : Value) (an : Option Addr) (cdv ct : Value) (us : List Value), us.length = f_is_number.ps.length → bindArgs (PySem.W.fnOf "is_number" "is_number" (L2.defArgs (topS 1)) (L2.defBody (topS 1)) (L2.defScope (topS 1)) .none kV doc pm an cdv ct) ⟨us, []⟩ = pure (f_is_number.ps.zip us) := fun _ _ _ _ _ _ us hl => match us, hl with
  | [_], _ => rfl
theorem b_is_word : ∀ (kV doc pm : Value) (an : Option Addr) (cdv ct : Value) (us : List Value), us.length = f_is_word.ps.length → bindArgs (PySem.W.fnOf "is_word" "is_word" (L2.defArgs (topS 3)) (L2.defBody (topS 3)) (L2.defScope (topS 3)) .none kV doc pm an cdv ct) ⟨us, []⟩ = pure (f_is_word.ps.zip us) := fun _ _ _ _ _ _ us hl => match us, hl with
  | [_, _], _ => rfl
theorem b_opposite : ∀ (kV doc pm : Value) (an : Option Addr) (cdv ct : Value) (us : List Value), us.length = f_opposite.ps.length → bindArgs (PySem.W.fnOf "opposite" "opposite" (L2.defArgs (topS 4)) (L2.defBody (topS 4)) (L2.defScope (topS 4)) .none kV doc pm an cdv ct) ⟨us, []⟩ = pure (f_opposite.ps.zip us) := fun _ _ _ _ _ _ us hl => match us, hl with
  | [_], _ => rfl
theorem b_part : ∀ (kV doc pm : Value) (an : Option Addr) (cdv ct : Value) (us : List Value), us.length = f_part.ps.length → bindArgs (PySem.W.fnOf "part" "part" (L2.defArgs (topS 5)) (L2.defBody (topS 5)) (L2.defScope (topS 5)) .none kV doc pm an cdv ct) ⟨us, []⟩ = pure (f_part.ps.zip us) := fun _ _ _ _ _ _ us hl => match us, hl with
  | [_, _], _ => rfl
theorem b_are_cuts : ∀ (kV doc pm : Value) (an : Option Addr) (cdv ct : Value) (us : List Value), us.length = f_are_cuts.ps.length → bindArgs (PySem.W.fnOf "are_cuts" "are_cuts" (L2.defArgs (topS 7)) (L2.defBody (topS 7)) (L2.defScope (topS 7)) .none kV doc pm an cdv ct) ⟨us, []⟩ = pure (f_are_cuts.ps.zip us) := fun _ _ _ _ _ _ us hl => match us, hl with
  | [_, _], _ => rfl
theorem b_is_lane_book : ∀ (kV doc pm : Value) (an : Option Addr) (cdv ct : Value) (us : List Value), us.length = f_is_lane_book.ps.length → bindArgs (PySem.W.fnOf "is_lane_book" "is_lane_book" (L2.defArgs (topS 8)) (L2.defBody (topS 8)) (L2.defScope (topS 8)) .none kV doc pm an cdv ct) ⟨us, []⟩ = pure (f_is_lane_book.ps.zip us) := fun _ _ _ _ _ _ us hl => match us, hl with
  | [_, _], _ => rfl
theorem b_occurs_joined : ∀ (kV doc pm : Value) (an : Option Addr) (cdv ct : Value) (us : List Value), us.length = f_occurs_joined.ps.length → bindArgs (PySem.W.fnOf "occurs_joined" "occurs_joined" (L2.defArgs (topS 9)) (L2.defBody (topS 9)) (L2.defScope (topS 9)) .none kV doc pm an cdv ct) ⟨us, []⟩ = pure (f_occurs_joined.ps.zip us) := fun _ _ _ _ _ _ us hl => match us, hl with
  | [_, _, _, _], _ => rfl
theorem b_shows_product : ∀ (kV doc pm : Value) (an : Option Addr) (cdv ct : Value) (us : List Value), us.length = f_shows_product.ps.length → bindArgs (PySem.W.fnOf "shows_product" "shows_product" (L2.defArgs (topS 10)) (L2.defBody (topS 10)) (L2.defScope (topS 10)) .none kV doc pm an cdv ct) ⟨us, []⟩ = pure (f_shows_product.ps.zip us) := fun _ _ _ _ _ _ us hl => match us, hl with
  | [_, _, _], _ => rfl
theorem b__law_stream : ∀ (kV doc pm : Value) (an : Option Addr) (cdv ct : Value) (us : List Value), us.length = f__law_stream.ps.length → bindArgs (PySem.W.fnOf "_law_stream" "_law_stream" (L2.defArgs (topS 12)) (L2.defBody (topS 12)) (L2.defScope (topS 12)) .none kV doc pm an cdv ct) ⟨us, []⟩ = pure (f__law_stream.ps.zip us) := fun _ _ _ _ _ _ us hl => match us, hl with
  | [_], _ => rfl
theorem b__law_take : ∀ (kV doc pm : Value) (an : Option Addr) (cdv ct : Value) (us : List Value), us.length = f__law_take.ps.length → bindArgs (PySem.W.fnOf "_law_take" "_law_take" (L2.defArgs (topS 13)) (L2.defBody (topS 13)) (L2.defScope (topS 13)) .none kV doc pm an cdv ct) ⟨us, []⟩ = pure (f__law_take.ps.zip us) := fun _ _ _ _ _ _ us hl => match us, hl with
  | [_, _], _ => rfl
theorem b__law_same : ∀ (kV doc pm : Value) (an : Option Addr) (cdv ct : Value) (us : List Value), us.length = f__law_same.ps.length → bindArgs (PySem.W.fnOf "_law_same" "_law_same" (L2.defArgs (topS 14)) (L2.defBody (topS 14)) (L2.defScope (topS 14)) .none kV doc pm an cdv ct) ⟨us, []⟩ = pure (f__law_same.ps.zip us) := fun _ _ _ _ _ _ us hl => match us, hl with
  | [_, _], _ => rfl
theorem b__law_lot : ∀ (kV doc pm : Value) (an : Option Addr) (cdv ct : Value) (us : List Value), us.length = f__law_lot.ps.length → bindArgs (PySem.W.fnOf "_law_lot" "_law_lot" (L2.defArgs (topS 15)) (L2.defBody (topS 15)) (L2.defScope (topS 15)) .none kV doc pm an cdv ct) ⟨us, []⟩ = pure (f__law_lot.ps.zip us) := fun _ _ _ _ _ _ us hl => match us, hl with
  | [_, _, _], _ => rfl
theorem b__law_lots : ∀ (kV doc pm : Value) (an : Option Addr) (cdv ct : Value) (us : List Value), us.length = f__law_lots.ps.length → bindArgs (PySem.W.fnOf "_law_lots" "_law_lots" (L2.defArgs (topS 16)) (L2.defBody (topS 16)) (L2.defScope (topS 16)) .none kV doc pm an cdv ct) ⟨us, []⟩ = pure (f__law_lots.ps.zip us) := fun _ _ _ _ _ _ us hl => match us, hl with
  | [_, _, _], _ => rfl
theorem b__law_opposite : ∀ (kV doc pm : Value) (an : Option Addr) (cdv ct : Value) (us : List Value), us.length = f__law_opposite.ps.length → bindArgs (PySem.W.fnOf "_law_opposite" "_law_opposite" (L2.defArgs (topS 17)) (L2.defBody (topS 17)) (L2.defScope (topS 17)) .none kV doc pm an cdv ct) ⟨us, []⟩ = pure (f__law_opposite.ps.zip us) := fun _ _ _ _ _ _ us hl => match us, hl with
  | [_], _ => rfl
theorem b__law_standard : ∀ (kV doc pm : Value) (an : Option Addr) (cdv ct : Value) (us : List Value), us.length = f__law_standard.ps.length → bindArgs (PySem.W.fnOf "_law_standard" "_law_standard" (L2.defArgs (topS 18)) (L2.defBody (topS 18)) (L2.defScope (topS 18)) .none kV doc pm an cdv ct) ⟨us, []⟩ = pure (f__law_standard.ps.zip us) := fun _ _ _ _ _ _ us hl => match us, hl with
  | [_], _ => rfl
theorem b__law_bus : ∀ (kV doc pm : Value) (an : Option Addr) (cdv ct : Value) (us : List Value), us.length = f__law_bus.ps.length → bindArgs (PySem.W.fnOf "_law_bus" "_law_bus" (L2.defArgs (topS 19)) (L2.defBody (topS 19)) (L2.defScope (topS 19)) .none kV doc pm an cdv ct) ⟨us, []⟩ = pure (f__law_bus.ps.zip us) := fun _ _ _ _ _ _ us hl => match us, hl with
  | [_, _], _ => rfl
theorem b__law_lanes : ∀ (kV doc pm : Value) (an : Option Addr) (cdv ct : Value) (us : List Value), us.length = f__law_lanes.ps.length → bindArgs (PySem.W.fnOf "_law_lanes" "_law_lanes" (L2.defArgs (topS 20)) (L2.defBody (topS 20)) (L2.defScope (topS 20)) .none kV doc pm an cdv ct) ⟨us, []⟩ = pure (f__law_lanes.ps.zip us) := fun _ _ _ _ _ _ us hl => match us, hl with
  | [_, _], _ => rfl
theorem b__law_occurs : ∀ (kV doc pm : Value) (an : Option Addr) (cdv ct : Value) (us : List Value), us.length = f__law_occurs.ps.length → bindArgs (PySem.W.fnOf "_law_occurs" "_law_occurs" (L2.defArgs (topS 21)) (L2.defBody (topS 21)) (L2.defScope (topS 21)) .none kV doc pm an cdv ct) ⟨us, []⟩ = pure (f__law_occurs.ps.zip us) := fun _ _ _ _ _ _ us hl => match us, hl with
  | [_, _, _, _], _ => rfl
theorem b__law_clash : ∀ (kV doc pm : Value) (an : Option Addr) (cdv ct : Value) (us : List Value), us.length = f__law_clash.ps.length → bindArgs (PySem.W.fnOf "_law_clash" "_law_clash" (L2.defArgs (topS 22)) (L2.defBody (topS 22)) (L2.defScope (topS 22)) .none kV doc pm an cdv ct) ⟨us, []⟩ = pure (f__law_clash.ps.zip us) := fun _ _ _ _ _ _ us hl => match us, hl with
  | [_, _, _], _ => rfl
theorem b__law_is_lane : ∀ (kV doc pm : Value) (an : Option Addr) (cdv ct : Value) (us : List Value), us.length = f__law_is_lane.ps.length → bindArgs (PySem.W.fnOf "_law_is_lane" "_law_is_lane" (L2.defArgs (topS 23)) (L2.defBody (topS 23)) (L2.defScope (topS 23)) .none kV doc pm an cdv ct) ⟨us, []⟩ = pure (f__law_is_lane.ps.zip us) := fun _ _ _ _ _ _ us hl => match us, hl with
  | [_, _], _ => rfl
theorem b__law_right : ∀ (kV doc pm : Value) (an : Option Addr) (cdv ct : Value) (us : List Value), us.length = f__law_right.ps.length → bindArgs (PySem.W.fnOf "_law_right" "_law_right" (L2.defArgs (topS 24)) (L2.defBody (topS 24)) (L2.defScope (topS 24)) .none kV doc pm an cdv ct) ⟨us, []⟩ = pure (f__law_right.ps.zip us) := fun _ _ _ _ _ _ us hl => match us, hl with
  | [_, _, _], _ => rfl
theorem b__law_lane_word : ∀ (kV doc pm : Value) (an : Option Addr) (cdv ct : Value) (us : List Value), us.length = f__law_lane_word.ps.length → bindArgs (PySem.W.fnOf "_law_lane_word" "_law_lane_word" (L2.defArgs (topS 25)) (L2.defBody (topS 25)) (L2.defScope (topS 25)) .none kV doc pm an cdv ct) ⟨us, []⟩ = pure (f__law_lane_word.ps.zip us) := fun _ _ _ _ _ _ us hl => match us, hl with
  | [_, _, _], _ => rfl
theorem b__law_with : ∀ (kV doc pm : Value) (an : Option Addr) (cdv ct : Value) (us : List Value), us.length = f__law_with.ps.length → bindArgs (PySem.W.fnOf "_law_with" "_law_with" (L2.defArgs (topS 26)) (L2.defBody (topS 26)) (L2.defScope (topS 26)) .none kV doc pm an cdv ct) ⟨us, []⟩ = pure (f__law_with.ps.zip us) := fun _ _ _ _ _ _ us hl => match us, hl with
  | [_, _, _], _ => rfl
theorem b__law_books : ∀ (kV doc pm : Value) (an : Option Addr) (cdv ct : Value) (us : List Value), us.length = f__law_books.ps.length → bindArgs (PySem.W.fnOf "_law_books" "_law_books" (L2.defArgs (topS 27)) (L2.defBody (topS 27)) (L2.defScope (topS 27)) .none kV doc pm an cdv ct) ⟨us, []⟩ = pure (f__law_books.ps.zip us) := fun _ _ _ _ _ _ us hl => match us, hl with
  | [_, _, _], _ => rfl
theorem b__law_drawn : ∀ (kV doc pm : Value) (an : Option Addr) (cdv ct : Value) (us : List Value), us.length = f__law_drawn.ps.length → bindArgs (PySem.W.fnOf "_law_drawn" "_law_drawn" (L2.defArgs (topS 28)) (L2.defBody (topS 28)) (L2.defScope (topS 28)) .none kV doc pm an cdv ct) ⟨us, []⟩ = pure (f__law_drawn.ps.zip us) := fun _ _ _ _ _ _ us hl => match us, hl with
  | [_], _ => rfl
theorem b__law_cut_spoilt : ∀ (kV doc pm : Value) (an : Option Addr) (cdv ct : Value) (us : List Value), us.length = f__law_cut_spoilt.ps.length → bindArgs (PySem.W.fnOf "_law_cut_spoilt" "_law_cut_spoilt" (L2.defArgs (topS 29)) (L2.defBody (topS 29)) (L2.defScope (topS 29)) .none kV doc pm an cdv ct) ⟨us, []⟩ = pure (f__law_cut_spoilt.ps.zip us) := fun _ _ _ _ _ _ us hl => match us, hl with
  | [_, _, _, _], _ => rfl
theorem b__law_words_spoilt : ∀ (kV doc pm : Value) (an : Option Addr) (cdv ct : Value) (us : List Value), us.length = f__law_words_spoilt.ps.length → bindArgs (PySem.W.fnOf "_law_words_spoilt" "_law_words_spoilt" (L2.defArgs (topS 30)) (L2.defBody (topS 30)) (L2.defScope (topS 30)) .none kV doc pm an cdv ct) ⟨us, []⟩ = pure (f__law_words_spoilt.ps.zip us) := fun _ _ _ _ _ _ us hl => match us, hl with
  | [_, _], _ => rfl
theorem b__law_books_spoilt : ∀ (kV doc pm : Value) (an : Option Addr) (cdv ct : Value) (us : List Value), us.length = f__law_books_spoilt.ps.length → bindArgs (PySem.W.fnOf "_law_books_spoilt" "_law_books_spoilt" (L2.defArgs (topS 31)) (L2.defBody (topS 31)) (L2.defScope (topS 31)) .none kV doc pm an cdv ct) ⟨us, []⟩ = pure (f__law_books_spoilt.ps.zip us) := fun _ _ _ _ _ _ us hl => match us, hl with
  | [_, _, _, _], _ => rfl
theorem b_law : ∀ (kV doc pm : Value) (an : Option Addr) (cdv ct : Value) (us : List Value), us.length = f_law.ps.length → bindArgs (PySem.W.fnOf "law" "law" (L2.defArgs (topS 32)) (L2.defBody (topS 32)) (L2.defScope (topS 32)) .none kV doc pm an cdv ct) ⟨us, []⟩ = pure (f_law.ps.zip us) := fun _ _ _ _ _ _ us hl => match us, hl with
  | [_], _ => rfl
section
variable {K : PySem.W.Frag} {h : Heap} {mg : Str → Option Value}
abbrev At_is_number (K : PySem.W.Frag) : Prop := ∃ (f : Addr) (oc kV doc pm cdv ct : Value) (od an : Option Addr) (osl : Array (Option Value)), PySem.W.nsIn K mainGlobals "is_number" = some (some (.ref f)) ∧ K.lookup f = some ⟨oc, od, .func (PySem.W.fnOf "is_number" "is_number" (L2.defArgs (topS 1)) (L2.defBody (topS 1)) (L2.defScope (topS 1)) .none kV doc pm an cdv ct), osl⟩ ∧ PySem.W.codeIn K cdv "is_number" = true ∧ PySem.W.keepIn K (.ref f) = true
abbrev At_is_word (K : PySem.W.Frag) : Prop := ∃ (f : Addr) (oc kV doc pm cdv ct : Value) (od an : Option Addr) (osl : Array (Option Value)), PySem.W.nsIn K mainGlobals "is_word" = some (some (.ref f)) ∧ K.lookup f = some ⟨oc, od, .func (PySem.W.fnOf "is_word" "is_word" (L2.defArgs (topS 3)) (L2.defBody (topS 3)) (L2.defScope (topS 3)) .none kV doc pm an cdv ct), osl⟩ ∧ PySem.W.codeIn K cdv "is_word" = true ∧ PySem.W.keepIn K (.ref f) = true
abbrev At_opposite (K : PySem.W.Frag) : Prop := ∃ (f : Addr) (oc kV doc pm cdv ct : Value) (od an : Option Addr) (osl : Array (Option Value)), PySem.W.nsIn K mainGlobals "opposite" = some (some (.ref f)) ∧ K.lookup f = some ⟨oc, od, .func (PySem.W.fnOf "opposite" "opposite" (L2.defArgs (topS 4)) (L2.defBody (topS 4)) (L2.defScope (topS 4)) .none kV doc pm an cdv ct), osl⟩ ∧ PySem.W.codeIn K cdv "opposite" = true ∧ PySem.W.keepIn K (.ref f) = true
abbrev At_part (K : PySem.W.Frag) : Prop := ∃ (f : Addr) (oc kV doc pm cdv ct : Value) (od an : Option Addr) (osl : Array (Option Value)), PySem.W.nsIn K mainGlobals "part" = some (some (.ref f)) ∧ K.lookup f = some ⟨oc, od, .func (PySem.W.fnOf "part" "part" (L2.defArgs (topS 5)) (L2.defBody (topS 5)) (L2.defScope (topS 5)) .none kV doc pm an cdv ct), osl⟩ ∧ PySem.W.codeIn K cdv "part" = true ∧ PySem.W.keepIn K (.ref f) = true
abbrev At_are_cuts (K : PySem.W.Frag) : Prop := ∃ (f : Addr) (oc kV doc pm cdv ct : Value) (od an : Option Addr) (osl : Array (Option Value)), PySem.W.nsIn K mainGlobals "are_cuts" = some (some (.ref f)) ∧ K.lookup f = some ⟨oc, od, .func (PySem.W.fnOf "are_cuts" "are_cuts" (L2.defArgs (topS 7)) (L2.defBody (topS 7)) (L2.defScope (topS 7)) .none kV doc pm an cdv ct), osl⟩ ∧ PySem.W.codeIn K cdv "are_cuts" = true ∧ PySem.W.keepIn K (.ref f) = true
abbrev At_is_lane_book (K : PySem.W.Frag) : Prop := ∃ (f : Addr) (oc kV doc pm cdv ct : Value) (od an : Option Addr) (osl : Array (Option Value)), PySem.W.nsIn K mainGlobals "is_lane_book" = some (some (.ref f)) ∧ K.lookup f = some ⟨oc, od, .func (PySem.W.fnOf "is_lane_book" "is_lane_book" (L2.defArgs (topS 8)) (L2.defBody (topS 8)) (L2.defScope (topS 8)) .none kV doc pm an cdv ct), osl⟩ ∧ PySem.W.codeIn K cdv "is_lane_book" = true ∧ PySem.W.keepIn K (.ref f) = true
abbrev At_occurs_joined (K : PySem.W.Frag) : Prop := ∃ (f : Addr) (oc kV doc pm cdv ct : Value) (od an : Option Addr) (osl : Array (Option Value)), PySem.W.nsIn K mainGlobals "occurs_joined" = some (some (.ref f)) ∧ K.lookup f = some ⟨oc, od, .func (PySem.W.fnOf "occurs_joined" "occurs_joined" (L2.defArgs (topS 9)) (L2.defBody (topS 9)) (L2.defScope (topS 9)) .none kV doc pm an cdv ct), osl⟩ ∧ PySem.W.codeIn K cdv "occurs_joined" = true ∧ PySem.W.keepIn K (.ref f) = true
abbrev At_shows_product (K : PySem.W.Frag) : Prop := ∃ (f : Addr) (oc kV doc pm cdv ct : Value) (od an : Option Addr) (osl : Array (Option Value)), PySem.W.nsIn K mainGlobals "shows_product" = some (some (.ref f)) ∧ K.lookup f = some ⟨oc, od, .func (PySem.W.fnOf "shows_product" "shows_product" (L2.defArgs (topS 10)) (L2.defBody (topS 10)) (L2.defScope (topS 10)) .none kV doc pm an cdv ct), osl⟩ ∧ PySem.W.codeIn K cdv "shows_product" = true ∧ PySem.W.keepIn K (.ref f) = true
abbrev At__law_stream (K : PySem.W.Frag) : Prop := ∃ (f : Addr) (oc kV doc pm cdv ct : Value) (od an : Option Addr) (osl : Array (Option Value)), PySem.W.nsIn K mainGlobals "_law_stream" = some (some (.ref f)) ∧ K.lookup f = some ⟨oc, od, .func (PySem.W.fnOf "_law_stream" "_law_stream" (L2.defArgs (topS 12)) (L2.defBody (topS 12)) (L2.defScope (topS 12)) .none kV doc pm an cdv ct), osl⟩ ∧ PySem.W.codeIn K cdv "_law_stream" = true ∧ PySem.W.keepIn K (.ref f) = true
abbrev At__law_take (K : PySem.W.Frag) : Prop := ∃ (f : Addr) (oc kV doc pm cdv ct : Value) (od an : Option Addr) (osl : Array (Option Value)), PySem.W.nsIn K mainGlobals "_law_take" = some (some (.ref f)) ∧ K.lookup f = some ⟨oc, od, .func (PySem.W.fnOf "_law_take" "_law_take" (L2.defArgs (topS 13)) (L2.defBody (topS 13)) (L2.defScope (topS 13)) .none kV doc pm an cdv ct), osl⟩ ∧ PySem.W.codeIn K cdv "_law_take" = true ∧ PySem.W.keepIn K (.ref f) = true
abbrev At__law_same (K : PySem.W.Frag) : Prop := ∃ (f : Addr) (oc kV doc pm cdv ct : Value) (od an : Option Addr) (osl : Array (Option Value)), PySem.W.nsIn K mainGlobals "_law_same" = some (some (.ref f)) ∧ K.lookup f = some ⟨oc, od, .func (PySem.W.fnOf "_law_same" "_law_same" (L2.defArgs (topS 14)) (L2.defBody (topS 14)) (L2.defScope (topS 14)) .none kV doc pm an cdv ct), osl⟩ ∧ PySem.W.codeIn K cdv "_law_same" = true ∧ PySem.W.keepIn K (.ref f) = true
abbrev At__law_lot (K : PySem.W.Frag) : Prop := ∃ (f : Addr) (oc kV doc pm cdv ct : Value) (od an : Option Addr) (osl : Array (Option Value)), PySem.W.nsIn K mainGlobals "_law_lot" = some (some (.ref f)) ∧ K.lookup f = some ⟨oc, od, .func (PySem.W.fnOf "_law_lot" "_law_lot" (L2.defArgs (topS 15)) (L2.defBody (topS 15)) (L2.defScope (topS 15)) .none kV doc pm an cdv ct), osl⟩ ∧ PySem.W.codeIn K cdv "_law_lot" = true ∧ PySem.W.keepIn K (.ref f) = true
abbrev At__law_lots (K : PySem.W.Frag) : Prop := ∃ (f : Addr) (oc kV doc pm cdv ct : Value) (od an : Option Addr) (osl : Array (Option Value)), PySem.W.nsIn K mainGlobals "_law_lots" = some (some (.ref f)) ∧ K.lookup f = some ⟨oc, od, .func (PySem.W.fnOf "_law_lots" "_law_lots" (L2.defArgs (topS 16)) (L2.defBody (topS 16)) (L2.defScope (topS 16)) .none kV doc pm an cdv ct), osl⟩ ∧ PySem.W.codeIn K cdv "_law_lots" = true ∧ PySem.W.keepIn K (.ref f) = true
abbrev At__law_opposite (K : PySem.W.Frag) : Prop := ∃ (f : Addr) (oc kV doc pm cdv ct : Value) (od an : Option Addr) (osl : Array (Option Value)), PySem.W.nsIn K mainGlobals "_law_opposite" = some (some (.ref f)) ∧ K.lookup f = some ⟨oc, od, .func (PySem.W.fnOf "_law_opposite" "_law_opposite" (L2.defArgs (topS 17)) (L2.defBody (topS 17)) (L2.defScope (topS 17)) .none kV doc pm an cdv ct), osl⟩ ∧ PySem.W.codeIn K cdv "_law_opposite" = true ∧ PySem.W.keepIn K (.ref f) = true
abbrev At__law_standard (K : PySem.W.Frag) : Prop := ∃ (f : Addr) (oc kV doc pm cdv ct : Value) (od an : Option Addr) (osl : Array (Option Value)), PySem.W.nsIn K mainGlobals "_law_standard" = some (some (.ref f)) ∧ K.lookup f = some ⟨oc, od, .func (PySem.W.fnOf "_law_standard" "_law_standard" (L2.defArgs (topS 18)) (L2.defBody (topS 18)) (L2.defScope (topS 18)) .none kV doc pm an cdv ct), osl⟩ ∧ PySem.W.codeIn K cdv "_law_standard" = true ∧ PySem.W.keepIn K (.ref f) = true
abbrev At__law_bus (K : PySem.W.Frag) : Prop := ∃ (f : Addr) (oc kV doc pm cdv ct : Value) (od an : Option Addr) (osl : Array (Option Value)), PySem.W.nsIn K mainGlobals "_law_bus" = some (some (.ref f)) ∧ K.lookup f = some ⟨oc, od, .func (PySem.W.fnOf "_law_bus" "_law_bus" (L2.defArgs (topS 19)) (L2.defBody (topS 19)) (L2.defScope (topS 19)) .none kV doc pm an cdv ct), osl⟩ ∧ PySem.W.codeIn K cdv "_law_bus" = true ∧ PySem.W.keepIn K (.ref f) = true
abbrev At__law_lanes (K : PySem.W.Frag) : Prop := ∃ (f : Addr) (oc kV doc pm cdv ct : Value) (od an : Option Addr) (osl : Array (Option Value)), PySem.W.nsIn K mainGlobals "_law_lanes" = some (some (.ref f)) ∧ K.lookup f = some ⟨oc, od, .func (PySem.W.fnOf "_law_lanes" "_law_lanes" (L2.defArgs (topS 20)) (L2.defBody (topS 20)) (L2.defScope (topS 20)) .none kV doc pm an cdv ct), osl⟩ ∧ PySem.W.codeIn K cdv "_law_lanes" = true ∧ PySem.W.keepIn K (.ref f) = true
abbrev At__law_occurs (K : PySem.W.Frag) : Prop := ∃ (f : Addr) (oc kV doc pm cdv ct : Value) (od an : Option Addr) (osl : Array (Option Value)), PySem.W.nsIn K mainGlobals "_law_occurs" = some (some (.ref f)) ∧ K.lookup f = some ⟨oc, od, .func (PySem.W.fnOf "_law_occurs" "_law_occurs" (L2.defArgs (topS 21)) (L2.defBody (topS 21)) (L2.defScope (topS 21)) .none kV doc pm an cdv ct), osl⟩ ∧ PySem.W.codeIn K cdv "_law_occurs" = true ∧ PySem.W.keepIn K (.ref f) = true
abbrev At__law_clash (K : PySem.W.Frag) : Prop := ∃ (f : Addr) (oc kV doc pm cdv ct : Value) (od an : Option Addr) (osl : Array (Option Value)), PySem.W.nsIn K mainGlobals "_law_clash" = some (some (.ref f)) ∧ K.lookup f = some ⟨oc, od, .func (PySem.W.fnOf "_law_clash" "_law_clash" (L2.defArgs (topS 22)) (L2.defBody (topS 22)) (L2.defScope (topS 22)) .none kV doc pm an cdv ct), osl⟩ ∧ PySem.W.codeIn K cdv "_law_clash" = true ∧ PySem.W.keepIn K (.ref f) = true
abbrev At__law_is_lane (K : PySem.W.Frag) : Prop := ∃ (f : Addr) (oc kV doc pm cdv ct : Value) (od an : Option Addr) (osl : Array (Option Value)), PySem.W.nsIn K mainGlobals "_law_is_lane" = some (some (.ref f)) ∧ K.lookup f = some ⟨oc, od, .func (PySem.W.fnOf "_law_is_lane" "_law_is_lane" (L2.defArgs (topS 23)) (L2.defBody (topS 23)) (L2.defScope (topS 23)) .none kV doc pm an cdv ct), osl⟩ ∧ PySem.W.codeIn K cdv "_law_is_lane" = true ∧ PySem.W.keepIn K (.ref f) = true
abbrev At__law_right (K : PySem.W.Frag) : Prop := ∃ (f : Addr) (oc kV doc pm cdv ct : Value) (od an : Option Addr) (osl : Array (Option Value)), PySem.W.nsIn K mainGlobals "_law_right" = some (some (.ref f)) ∧ K.lookup f = some ⟨oc, od, .func (PySem.W.fnOf "_law_right" "_law_right" (L2.defArgs (topS 24)) (L2.defBody (topS 24)) (L2.defScope (topS 24)) .none kV doc pm an cdv ct), osl⟩ ∧ PySem.W.codeIn K cdv "_law_right" = true ∧ PySem.W.keepIn K (.ref f) = true
abbrev At__law_lane_word (K : PySem.W.Frag) : Prop := ∃ (f : Addr) (oc kV doc pm cdv ct : Value) (od an : Option Addr) (osl : Array (Option Value)), PySem.W.nsIn K mainGlobals "_law_lane_word" = some (some (.ref f)) ∧ K.lookup f = some ⟨oc, od, .func (PySem.W.fnOf "_law_lane_word" "_law_lane_word" (L2.defArgs (topS 25)) (L2.defBody (topS 25)) (L2.defScope (topS 25)) .none kV doc pm an cdv ct), osl⟩ ∧ PySem.W.codeIn K cdv "_law_lane_word" = true ∧ PySem.W.keepIn K (.ref f) = true
abbrev At__law_with (K : PySem.W.Frag) : Prop := ∃ (f : Addr) (oc kV doc pm cdv ct : Value) (od an : Option Addr) (osl : Array (Option Value)), PySem.W.nsIn K mainGlobals "_law_with" = some (some (.ref f)) ∧ K.lookup f = some ⟨oc, od, .func (PySem.W.fnOf "_law_with" "_law_with" (L2.defArgs (topS 26)) (L2.defBody (topS 26)) (L2.defScope (topS 26)) .none kV doc pm an cdv ct), osl⟩ ∧ PySem.W.codeIn K cdv "_law_with" = true ∧ PySem.W.keepIn K (.ref f) = true
abbrev At__law_books (K : PySem.W.Frag) : Prop := ∃ (f : Addr) (oc kV doc pm cdv ct : Value) (od an : Option Addr) (osl : Array (Option Value)), PySem.W.nsIn K mainGlobals "_law_books" = some (some (.ref f)) ∧ K.lookup f = some ⟨oc, od, .func (PySem.W.fnOf "_law_books" "_law_books" (L2.defArgs (topS 27)) (L2.defBody (topS 27)) (L2.defScope (topS 27)) .none kV doc pm an cdv ct), osl⟩ ∧ PySem.W.codeIn K cdv "_law_books" = true ∧ PySem.W.keepIn K (.ref f) = true
abbrev At__law_drawn (K : PySem.W.Frag) : Prop := ∃ (f : Addr) (oc kV doc pm cdv ct : Value) (od an : Option Addr) (osl : Array (Option Value)), PySem.W.nsIn K mainGlobals "_law_drawn" = some (some (.ref f)) ∧ K.lookup f = some ⟨oc, od, .func (PySem.W.fnOf "_law_drawn" "_law_drawn" (L2.defArgs (topS 28)) (L2.defBody (topS 28)) (L2.defScope (topS 28)) .none kV doc pm an cdv ct), osl⟩ ∧ PySem.W.codeIn K cdv "_law_drawn" = true ∧ PySem.W.keepIn K (.ref f) = true
abbrev At__law_cut_spoilt (K : PySem.W.Frag) : Prop := ∃ (f : Addr) (oc kV doc pm cdv ct : Value) (od an : Option Addr) (osl : Array (Option Value)), PySem.W.nsIn K mainGlobals "_law_cut_spoilt" = some (some (.ref f)) ∧ K.lookup f = some ⟨oc, od, .func (PySem.W.fnOf "_law_cut_spoilt" "_law_cut_spoilt" (L2.defArgs (topS 29)) (L2.defBody (topS 29)) (L2.defScope (topS 29)) .none kV doc pm an cdv ct), osl⟩ ∧ PySem.W.codeIn K cdv "_law_cut_spoilt" = true ∧ PySem.W.keepIn K (.ref f) = true
abbrev At__law_words_spoilt (K : PySem.W.Frag) : Prop := ∃ (f : Addr) (oc kV doc pm cdv ct : Value) (od an : Option Addr) (osl : Array (Option Value)), PySem.W.nsIn K mainGlobals "_law_words_spoilt" = some (some (.ref f)) ∧ K.lookup f = some ⟨oc, od, .func (PySem.W.fnOf "_law_words_spoilt" "_law_words_spoilt" (L2.defArgs (topS 30)) (L2.defBody (topS 30)) (L2.defScope (topS 30)) .none kV doc pm an cdv ct), osl⟩ ∧ PySem.W.codeIn K cdv "_law_words_spoilt" = true ∧ PySem.W.keepIn K (.ref f) = true
abbrev At__law_books_spoilt (K : PySem.W.Frag) : Prop := ∃ (f : Addr) (oc kV doc pm cdv ct : Value) (od an : Option Addr) (osl : Array (Option Value)), PySem.W.nsIn K mainGlobals "_law_books_spoilt" = some (some (.ref f)) ∧ K.lookup f = some ⟨oc, od, .func (PySem.W.fnOf "_law_books_spoilt" "_law_books_spoilt" (L2.defArgs (topS 31)) (L2.defBody (topS 31)) (L2.defScope (topS 31)) .none kV doc pm an cdv ct), osl⟩ ∧ PySem.W.codeIn K cdv "_law_books_spoilt" = true ∧ PySem.W.keepIn K (.ref f) = true
abbrev At_law (K : PySem.W.Frag) : Prop := ∃ (f : Addr) (oc kV doc pm cdv ct : Value) (od an : Option Addr) (osl : Array (Option Value)), PySem.W.nsIn K mainGlobals "law" = some (some (.ref f)) ∧ K.lookup f = some ⟨oc, od, .func (PySem.W.fnOf "law" "law" (L2.defArgs (topS 32)) (L2.defBody (topS 32)) (L2.defScope (topS 32)) .none kV doc pm an cdv ct), osl⟩ ∧ PySem.W.codeIn K cdv "law" = true ∧ PySem.W.keepIn K (.ref f) = true
theorem at_is_number {K : PySem.W.Frag} {f : Addr} {oc kV doc pm cdv ct : Value} {od an : Option Addr} {osl : Array (Option Value)} (q1 : PySem.W.nsIn K mainGlobals "is_number" = some (some (.ref f))) (q2 : K.lookup f = some ⟨oc, od, .func (PySem.W.fnOf "is_number" "is_number" (L2.defArgs (topS 1)) (L2.defBody (topS 1)) (L2.defScope (topS 1)) .none kV doc pm an cdv ct), osl⟩) (q3 : PySem.W.codeIn K cdv "is_number" = true) (q4 : PySem.W.keepIn K (.ref f) = true) : At_is_number K := ⟨f, oc, kV, doc, pm, cdv, ct, od, an, osl, q1, q2, q3, q4⟩
theorem at_is_word {K : PySem.W.Frag} {f : Addr} {oc kV doc pm cdv ct : Value} {od an : Option Addr} {osl : Array (Option Value)} (q1 : PySem.W.nsIn K mainGlobals "is_word" = some (some (.ref f))) (q2 : K.lookup f = some ⟨oc, od, .func (PySem.W.fnOf "is_word" "is_word" (L2.defArgs (topS 3)) (L2.defBody (topS 3)) (L2.defScope (topS 3)) .none kV doc pm an cdv ct), osl⟩) (q3 : PySem.W.codeIn K cdv "is_word" = true) (q4 : PySem.W.keepIn K (.ref f) = true) : At_is_word K := ⟨f, oc, kV, doc, pm, cdv, ct, od, an, osl, q1, q2, q3, q4⟩
theorem at_opposite {K : PySem.W.Frag} {f : Addr} {oc kV doc pm cdv ct : Value} {od an : Option Addr} {osl : Array (Option Value)} (q1 : PySem.W.nsIn K mainGlobals "opposite" = some (some (.ref f))) (q2 : K.lookup f = some ⟨oc, od, .func (PySem.W.fnOf "opposite" "opposite" (L2.defArgs (topS 4)) (L2.defBody (topS 4)) (L2.defScope (topS 4)) .none kV doc pm an cdv ct), osl⟩) (q3 : PySem.W.codeIn K cdv "opposite" = true) (q4 : PySem.W.keepIn K (.ref f) = true) : At_opposite K := ⟨f, oc, kV, doc, pm, cdv, ct, od, an, osl, q1, q2, q3, q4⟩
theorem at_part {K : PySem.W.Frag} {f : Addr} {oc kV doc pm cdv ct : Value} {od an : Option Addr} {osl : Array (Option Value)} (q1 : PySem.W.nsIn K mainGlobals "part" = some (some (.ref f))) (q2 : K.lookup f = some ⟨oc, od, .func (PySem.W.fnOf "part" "part" (L2.defArgs (topS 5)) (L2.defBody (topS 5)) (L2.defScope (topS 5)) .none kV doc pm an cdv ct), osl⟩) (q3 : PySem.W.codeIn K cdv "part" = true) (q4 : PySem.W.keepIn K (.ref f) = true) : At_part K := ⟨f, oc, kV, doc, pm, cdv, ct, od, an, osl, q1, q2, q3, q4⟩
theorem at_are_cuts {K : PySem.W.Frag} {f : Addr} {oc kV doc pm cdv ct : Value} {od an : Option Addr} {osl : Array (Option Value)} (q1 : PySem.W.nsIn K mainGlobals "are_cuts" = some (some (.ref f))) (q2 : K.lookup f = some ⟨oc, od, .func (PySem.W.fnOf "are_cuts" "are_cuts" (L2.defArgs (topS 7)) (L2.defBody (topS 7)) (L2.defScope (topS 7)) .none kV doc pm an cdv ct), osl⟩) (q3 : PySem.W.codeIn K cdv "are_cuts" = true) (q4 : PySem.W.keepIn K (.ref f) = true) : At_are_cuts K := ⟨f, oc, kV, doc, pm, cdv, ct, od, an, osl, q1, q2, q3, q4⟩
theorem at_is_lane_book {K : PySem.W.Frag} {f : Addr} {oc kV doc pm cdv ct : Value} {od an : Option Addr} {osl : Array (Option Value)} (q1 : PySem.W.nsIn K mainGlobals "is_lane_book" = some (some (.ref f))) (q2 : K.lookup f = some ⟨oc, od, .func (PySem.W.fnOf "is_lane_book" "is_lane_book" (L2.defArgs (topS 8)) (L2.defBody (topS 8)) (L2.defScope (topS 8)) .none kV doc pm an cdv ct), osl⟩) (q3 : PySem.W.codeIn K cdv "is_lane_book" = true) (q4 : PySem.W.keepIn K (.ref f) = true) : At_is_lane_book K := ⟨f, oc, kV, doc, pm, cdv, ct, od, an, osl, q1, q2, q3, q4⟩
theorem at_occurs_joined {K : PySem.W.Frag} {f : Addr} {oc kV doc pm cdv ct : Value} {od an : Option Addr} {osl : Array (Option Value)} (q1 : PySem.W.nsIn K mainGlobals "occurs_joined" = some (some (.ref f))) (q2 : K.lookup f = some ⟨oc, od, .func (PySem.W.fnOf "occurs_joined" "occurs_joined" (L2.defArgs (topS 9)) (L2.defBody (topS 9)) (L2.defScope (topS 9)) .none kV doc pm an cdv ct), osl⟩) (q3 : PySem.W.codeIn K cdv "occurs_joined" = true) (q4 : PySem.W.keepIn K (.ref f) = true) : At_occurs_joined K := ⟨f, oc, kV, doc, pm, cdv, ct, od, an, osl, q1, q2, q3, q4⟩
theorem at_shows_product {K : PySem.W.Frag} {f : Addr} {oc kV doc pm cdv ct : Value} {od an : Option Addr} {osl : Array (Option Value)} (q1 : PySem.W.nsIn K mainGlobals "shows_product" = some (some (.ref f))) (q2 : K.lookup f = some ⟨oc, od, .func (PySem.W.fnOf "shows_product" "shows_product" (L2.defArgs (topS 10)) (L2.defBody (topS 10)) (L2.defScope (topS 10)) .none kV doc pm an cdv ct), osl⟩) (q3 : PySem.W.codeIn K cdv "shows_product" = true) (q4 : PySem.W.keepIn K (.ref f) = true) : At_shows_product K := ⟨f, oc, kV, doc, pm, cdv, ct, od, an, osl, q1, q2, q3, q4⟩
theorem at__law_stream {K : PySem.W.Frag} {f : Addr} {oc kV doc pm cdv ct : Value} {od an : Option Addr} {osl : Array (Option Value)} (q1 : PySem.W.nsIn K mainGlobals "_law_stream" = some (some (.ref f))) (q2 : K.lookup f = some ⟨oc, od, .func (PySem.W.fnOf "_law_stream" "_law_stream" (L2.defArgs (topS 12)) (L2.defBody (topS 12)) (L2.defScope (topS 12)) .none kV doc pm an cdv ct), osl⟩) (q3 : PySem.W.codeIn K cdv "_law_stream" = true) (q4 : PySem.W.keepIn K (.ref f) = true) : At__law_stream K := ⟨f, oc, kV, doc, pm, cdv, ct, od, an, osl, q1, q2, q3, q4⟩
theorem at__law_take {K : PySem.W.Frag} {f : Addr} {oc kV doc pm cdv ct : Value} {od an : Option Addr} {osl : Array (Option Value)} (q1 : PySem.W.nsIn K mainGlobals "_law_take" = some (some (.ref f))) (q2 : K.lookup f = some ⟨oc, od, .func (PySem.W.fnOf "_law_take" "_law_take" (L2.defArgs (topS 13)) (L2.defBody (topS 13)) (L2.defScope (topS 13)) .none kV doc pm an cdv ct), osl⟩) (q3 : PySem.W.codeIn K cdv "_law_take" = true) (q4 : PySem.W.keepIn K (.ref f) = true) : At__law_take K := ⟨f, oc, kV, doc, pm, cdv, ct, od, an, osl, q1, q2, q3, q4⟩
theorem at__law_same {K : PySem.W.Frag} {f : Addr} {oc kV doc pm cdv ct : Value} {od an : Option Addr} {osl : Array (Option Value)} (q1 : PySem.W.nsIn K mainGlobals "_law_same" = some (some (.ref f))) (q2 : K.lookup f = some ⟨oc, od, .func (PySem.W.fnOf "_law_same" "_law_same" (L2.defArgs (topS 14)) (L2.defBody (topS 14)) (L2.defScope (topS 14)) .none kV doc pm an cdv ct), osl⟩) (q3 : PySem.W.codeIn K cdv "_law_same" = true) (q4 : PySem.W.keepIn K (.ref f) = true) : At__law_same K := ⟨f, oc, kV, doc, pm, cdv, ct, od, an, osl, q1, q2, q3, q4⟩
theorem at__law_lot {K : PySem.W.Frag} {f : Addr} {oc kV doc pm cdv ct : Value} {od an : Option Addr} {osl : Array (Option Value)} (q1 : PySem.W.nsIn K mainGlobals "_law_lot" = some (some (.ref f))) (q2 : K.lookup f = some ⟨oc, od, .func (PySem.W.fnOf "_law_lot" "_law_lot" (L2.defArgs (topS 15)) (L2.defBody (topS 15)) (L2.defScope (topS 15)) .none kV doc pm an cdv ct), osl⟩) (q3 : PySem.W.codeIn K cdv "_law_lot" = true) (q4 : PySem.W.keepIn K (.ref f) = true) : At__law_lot K := ⟨f, oc, kV, doc, pm, cdv, ct, od, an, osl, q1, q2, q3, q4⟩
theorem at__law_lots {K : PySem.W.Frag} {f : Addr} {oc kV doc pm cdv ct : Value} {od an : Option Addr} {osl : Array (Option Value)} (q1 : PySem.W.nsIn K mainGlobals "_law_lots" = some (some (.ref f))) (q2 : K.lookup f = some ⟨oc, od, .func (PySem.W.fnOf "_law_lots" "_law_lots" (L2.defArgs (topS 16)) (L2.defBody (topS 16)) (L2.defScope (topS 16)) .none kV doc pm an cdv ct), osl⟩) (q3 : PySem.W.codeIn K cdv "_law_lots" = true) (q4 : PySem.W.keepIn K (.ref f) = true) : At__law_lots K := ⟨f, oc, kV, doc, pm, cdv, ct, od, an, osl, q1, q2, q3, q4⟩
theorem at__law_opposite {K : PySem.W.Frag} {f : Addr} {oc kV doc pm cdv ct : Value} {od an : Option Addr} {osl : Array (Option Value)} (q1 : PySem.W.nsIn K mainGlobals "_law_opposite" = some (some (.ref f))) (q2 : K.lookup f = some ⟨oc, od, .func (PySem.W.fnOf "_law_opposite" "_law_opposite" (L2.defArgs (topS 17)) (L2.defBody (topS 17)) (L2.defScope (topS 17)) .none kV doc pm an cdv ct), osl⟩) (q3 : PySem.W.codeIn K cdv "_law_opposite" = true) (q4 : PySem.W.keepIn K (.ref f) = true) : At__law_opposite K := ⟨f, oc, kV, doc, pm, cdv, ct, od, an, osl, q1, q2, q3, q4⟩
theorem at__law_standard {K : PySem.W.Frag} {f : Addr} {oc kV doc pm cdv ct : Value} {od an : Option Addr} {osl : Array (Option Value)} (q1 : PySem.W.nsIn K mainGlobals "_law_standard" = some (some (.ref f))) (q2 : K.lookup f = some ⟨oc, od, .func (PySem.W.fnOf "_law_standard" "_law_standard" (L2.defArgs (topS 18)) (L2.defBody (topS 18)) (L2.defScope (topS 18)) .none kV doc pm an cdv ct), osl⟩) (q3 : PySem.W.codeIn K cdv "_law_standard" = true) (q4 : PySem.W.keepIn K (.ref f) = true) : At__law_standard K := ⟨f, oc, kV, doc, pm, cdv, ct, od, an, osl, q1, q2, q3, q4⟩
theorem at__law_bus {K : PySem.W.Frag} {f : Addr} {oc kV doc pm cdv ct : Value} {od an : Option Addr} {osl : Array (Option Value)} (q1 : PySem.W.nsIn K mainGlobals "_law_bus" = some (some (.ref f))) (q2 : K.lookup f = some ⟨oc, od, .func (PySem.W.fnOf "_law_bus" "_law_bus" (L2.defArgs (topS 19)) (L2.defBody (topS 19)) (L2.defScope (topS 19)) .none kV doc pm an cdv ct), osl⟩) (q3 : PySem.W.codeIn K cdv "_law_bus" = true) (q4 : PySem.W.keepIn K (.ref f) = true) : At__law_bus K := ⟨f, oc, kV, doc, pm, cdv, ct, od, an, osl, q1, q2, q3, q4⟩
theorem at__law_lanes {K : PySem.W.Frag} {f : Addr} {oc kV doc pm cdv ct : Value} {od an : Option Addr} {osl : Array (Option Value)} (q1 : PySem.W.nsIn K mainGlobals "_law_lanes" = some (some (.ref f))) (q2 : K.lookup f = some ⟨oc, od, .func (PySem.W.fnOf "_law_lanes" "_law_lanes" (L2.defArgs (topS 20)) (L2.defBody (topS 20)) (L2.defScope (topS 20)) .none kV doc pm an cdv ct), osl⟩) (q3 : PySem.W.codeIn K cdv "_law_lanes" = true) (q4 : PySem.W.keepIn K (.ref f) = true) : At__law_lanes K := ⟨f, oc, kV, doc, pm, cdv, ct, od, an, osl, q1, q2, q3, q4⟩
theorem at__law_occurs {K : PySem.W.Frag} {f : Addr} {oc kV doc pm cdv ct : Value} {od an : Option Addr} {osl : Array (Option Value)} (q1 : PySem.W.nsIn K mainGlobals "_law_occurs" = some (some (.ref f))) (q2 : K.lookup f = some ⟨oc, od, .func (PySem.W.fnOf "_law_occurs" "_law_occurs" (L2.defArgs (topS 21)) (L2.defBody (topS 21)) (L2.defScope (topS 21)) .none kV doc pm an cdv ct), osl⟩) (q3 : PySem.W.codeIn K cdv "_law_occurs" = true) (q4 : PySem.W.keepIn K (.ref f) = true) : At__law_occurs K := ⟨f, oc, kV, doc, pm, cdv, ct, od, an, osl, q1, q2, q3, q4⟩
theorem at__law_clash {K : PySem.W.Frag} {f : Addr} {oc kV doc pm cdv ct : Value} {od an : Option Addr} {osl : Array (Option Value)} (q1 : PySem.W.nsIn K mainGlobals "_law_clash" = some (some (.ref f))) (q2 : K.lookup f = some ⟨oc, od, .func (PySem.W.fnOf "_law_clash" "_law_clash" (L2.defArgs (topS 22)) (L2.defBody (topS 22)) (L2.defScope (topS 22)) .none kV doc pm an cdv ct), osl⟩) (q3 : PySem.W.codeIn K cdv "_law_clash" = true) (q4 : PySem.W.keepIn K (.ref f) = true) : At__law_clash K := ⟨f, oc, kV, doc, pm, cdv, ct, od, an, osl, q1, q2, q3, q4⟩
theorem at__law_is_lane {K : PySem.W.Frag} {f : Addr} {oc kV doc pm cdv ct : Value} {od an : Option Addr} {osl : Array (Option Value)} (q1 : PySem.W.nsIn K mainGlobals "_law_is_lane" = some (some (.ref f))) (q2 : K.lookup f = some ⟨oc, od, .func (PySem.W.fnOf "_law_is_lane" "_law_is_lane" (L2.defArgs (topS 23)) (L2.defBody (topS 23)) (L2.defScope (topS 23)) .none kV doc pm an cdv ct), osl⟩) (q3 : PySem.W.codeIn K cdv "_law_is_lane" = true) (q4 : PySem.W.keepIn K (.ref f) = true) : At__law_is_lane K := ⟨f, oc, kV, doc, pm, cdv, ct, od, an, osl, q1, q2, q3, q4⟩
theorem at__law_right {K : PySem.W.Frag} {f : Addr} {oc kV doc pm cdv ct : Value} {od an : Option Addr} {osl : Array (Option Value)} (q1 : PySem.W.nsIn K mainGlobals "_law_right" = some (some (.ref f))) (q2 : K.lookup f = some ⟨oc, od, .func (PySem.W.fnOf "_law_right" "_law_right" (L2.defArgs (topS 24)) (L2.defBody (topS 24)) (L2.defScope (topS 24)) .none kV doc pm an cdv ct), osl⟩) (q3 : PySem.W.codeIn K cdv "_law_right" = true) (q4 : PySem.W.keepIn K (.ref f) = true) : At__law_right K := ⟨f, oc, kV, doc, pm, cdv, ct, od, an, osl, q1, q2, q3, q4⟩
theorem at__law_lane_word {K : PySem.W.Frag} {f : Addr} {oc kV doc pm cdv ct : Value} {od an : Option Addr} {osl : Array (Option Value)} (q1 : PySem.W.nsIn K mainGlobals "_law_lane_word" = some (some (.ref f))) (q2 : K.lookup f = some ⟨oc, od, .func (PySem.W.fnOf "_law_lane_word" "_law_lane_word" (L2.defArgs (topS 25)) (L2.defBody (topS 25)) (L2.defScope (topS 25)) .none kV doc pm an cdv ct), osl⟩) (q3 : PySem.W.codeIn K cdv "_law_lane_word" = true) (q4 : PySem.W.keepIn K (.ref f) = true) : At__law_lane_word K := ⟨f, oc, kV, doc, pm, cdv, ct, od, an, osl, q1, q2, q3, q4⟩
theorem at__law_with {K : PySem.W.Frag} {f : Addr} {oc kV doc pm cdv ct : Value} {od an : Option Addr} {osl : Array (Option Value)} (q1 : PySem.W.nsIn K mainGlobals "_law_with" = some (some (.ref f))) (q2 : K.lookup f = some ⟨oc, od, .func (PySem.W.fnOf "_law_with" "_law_with" (L2.defArgs (topS 26)) (L2.defBody (topS 26)) (L2.defScope (topS 26)) .none kV doc pm an cdv ct), osl⟩) (q3 : PySem.W.codeIn K cdv "_law_with" = true) (q4 : PySem.W.keepIn K (.ref f) = true) : At__law_with K := ⟨f, oc, kV, doc, pm, cdv, ct, od, an, osl, q1, q2, q3, q4⟩
theorem at__law_books {K : PySem.W.Frag} {f : Addr} {oc kV doc pm cdv ct : Value} {od an : Option Addr} {osl : Array (Option Value)} (q1 : PySem.W.nsIn K mainGlobals "_law_books" = some (some (.ref f))) (q2 : K.lookup f = some ⟨oc, od, .func (PySem.W.fnOf "_law_books" "_law_books" (L2.defArgs (topS 27)) (L2.defBody (topS 27)) (L2.defScope (topS 27)) .none kV doc pm an cdv ct), osl⟩) (q3 : PySem.W.codeIn K cdv "_law_books" = true) (q4 : PySem.W.keepIn K (.ref f) = true) : At__law_books K := ⟨f, oc, kV, doc, pm, cdv, ct, od, an, osl, q1, q2, q3, q4⟩
theorem at__law_drawn {K : PySem.W.Frag} {f : Addr} {oc kV doc pm cdv ct : Value} {od an : Option Addr} {osl : Array (Option Value)} (q1 : PySem.W.nsIn K mainGlobals "_law_drawn" = some (some (.ref f))) (q2 : K.lookup f = some ⟨oc, od, .func (PySem.W.fnOf "_law_drawn" "_law_drawn" (L2.defArgs (topS 28)) (L2.defBody (topS 28)) (L2.defScope (topS 28)) .none kV doc pm an cdv ct), osl⟩) (q3 : PySem.W.codeIn K cdv "_law_drawn" = true) (q4 : PySem.W.keepIn K (.ref f) = true) : At__law_drawn K := ⟨f, oc, kV, doc, pm, cdv, ct, od, an, osl, q1, q2, q3, q4⟩
theorem at__law_cut_spoilt {K : PySem.W.Frag} {f : Addr} {oc kV doc pm cdv ct : Value} {od an : Option Addr} {osl : Array (Option Value)} (q1 : PySem.W.nsIn K mainGlobals "_law_cut_spoilt" = some (some (.ref f))) (q2 : K.lookup f = some ⟨oc, od, .func (PySem.W.fnOf "_law_cut_spoilt" "_law_cut_spoilt" (L2.defArgs (topS 29)) (L2.defBody (topS 29)) (L2.defScope (topS 29)) .none kV doc pm an cdv ct), osl⟩) (q3 : PySem.W.codeIn K cdv "_law_cut_spoilt" = true) (q4 : PySem.W.keepIn K (.ref f) = true) : At__law_cut_spoilt K := ⟨f, oc, kV, doc, pm, cdv, ct, od, an, osl, q1, q2, q3, q4⟩
theorem at__law_words_spoilt {K : PySem.W.Frag} {f : Addr} {oc kV doc pm cdv ct : Value} {od an : Option Addr} {osl : Array (Option Value)} (q1 : PySem.W.nsIn K mainGlobals "_law_words_spoilt" = some (some (.ref f))) (q2 : K.lookup f = some ⟨oc, od, .func (PySem.W.fnOf "_law_words_spoilt" "_law_words_spoilt" (L2.defArgs (topS 30)) (L2.defBody (topS 30)) (L2.defScope (topS 30)) .none kV doc pm an cdv ct), osl⟩) (q3 : PySem.W.codeIn K cdv "_law_words_spoilt" = true) (q4 : PySem.W.keepIn K (.ref f) = true) : At__law_words_spoilt K := ⟨f, oc, kV, doc, pm, cdv, ct, od, an, osl, q1, q2, q3, q4⟩
theorem at__law_books_spoilt {K : PySem.W.Frag} {f : Addr} {oc kV doc pm cdv ct : Value} {od an : Option Addr} {osl : Array (Option Value)} (q1 : PySem.W.nsIn K mainGlobals "_law_books_spoilt" = some (some (.ref f))) (q2 : K.lookup f = some ⟨oc, od, .func (PySem.W.fnOf "_law_books_spoilt" "_law_books_spoilt" (L2.defArgs (topS 31)) (L2.defBody (topS 31)) (L2.defScope (topS 31)) .none kV doc pm an cdv ct), osl⟩) (q3 : PySem.W.codeIn K cdv "_law_books_spoilt" = true) (q4 : PySem.W.keepIn K (.ref f) = true) : At__law_books_spoilt K := ⟨f, oc, kV, doc, pm, cdv, ct, od, an, osl, q1, q2, q3, q4⟩
theorem at_law {K : PySem.W.Frag} {f : Addr} {oc kV doc pm cdv ct : Value} {od an : Option Addr} {osl : Array (Option Value)} (q1 : PySem.W.nsIn K mainGlobals "law" = some (some (.ref f))) (q2 : K.lookup f = some ⟨oc, od, .func (PySem.W.fnOf "law" "law" (L2.defArgs (topS 32)) (L2.defBody (topS 32)) (L2.defScope (topS 32)) .none kV doc pm an cdv ct), osl⟩) (q3 : PySem.W.codeIn K cdv "law" = true) (q4 : PySem.W.keepIn K (.ref f) = true) : At_law K := ⟨f, oc, kV, doc, pm, cdv, ct, od, an, osl, q1, q2, q3, q4⟩
theorem lnk (kin : K.In h) (hns : h.Ns mainGlobals mg) (a0 : At_is_number K) (a1 : At_is_word K) (a2 : At_opposite K) (a3 : At_part K) (a4 : At_are_cuts K) (a5 : At_is_lane_book K) (a6 : At_occurs_joined K) (a7 : At_shows_product K) (a8 : At__law_stream K) (a9 : At__law_take K) (a10 : At__law_same K) (a11 : At__law_lot K) (a12 : At__law_lots K) (a13 : At__law_opposite K) (a14 : At__law_standard K) (a15 : At__law_bus K) (a16 : At__law_lanes K) (a17 : At__law_occurs K) (a18 : At__law_clash K) (a19 : At__law_is_lane K) (a20 : At__law_right K) (a21 : At__law_lane_word K) (a22 : At__law_with K) (a23 : At__law_books K) (a24 : At__law_drawn K) (a25 : At__law_cut_spoilt K) (a26 : At__law_words_spoilt K) (a27 : At__law_books_spoilt K) (a28 : At_law K) : LnkAll K mg T sts :=
  ⟨(let ⟨_, _, _, _, _, _, _, _, _, _, a, l, c, k⟩ := a0; lnk_mk kin hns rfl a l c k b_is_number), (let ⟨_, _, _, _, _, _, _, _, _, _, a, l, c, k⟩ := a1; lnk_mk kin hns rfl a l c k b_is_word), (let ⟨_, _, _, _, _, _, _, _, _, _, a, l, c, k⟩ := a2; lnk_mk kin hns rfl a l c k b_opposite), (let ⟨_, _, _, _, _, _, _, _, _, _, a, l, c, k⟩ := a3; lnk_mk kin hns rfl a l c k b_part), (let ⟨_, _, _, _, _, _, _, _, _, _, a, l, c, k⟩ := a4; lnk_mk kin hns rfl a l c k b_are_cuts), (let ⟨_, _, _, _, _, _, _, _, _, _, a, l, c, k⟩ := a5; lnk_mk kin hns rfl a l c k b_is_lane_book), (let ⟨_, _, _, _, _, _, _, _, _, _, a, l, c, k⟩ := a6; lnk_mk kin hns rfl a l c k b_occurs_joined), (let ⟨_, _, _, _, _, _, _, _, _, _, a, l, c, k⟩ := a7; lnk_mk kin hns rfl a l c k b_shows_product), (let ⟨_, _, _, _, _, _, _, _, _, _, a, l, c, k⟩ := a8; lnk_mk kin hns rfl a l c k b__law_stream), (let ⟨_, _, _, _, _, _, _, _, _, _, a, l, c, k⟩ := a9; lnk_mk kin hns rfl a l c k b__law_take), (let ⟨_, _, _, _, _, _, _, _, _, _, a, l, c, k⟩ := a10; lnk_mk kin hns rfl a l c k b__law_same), (let ⟨_, _, _, _, _, _, _, _, _, _, a, l, c, k⟩ := a11; lnk_mk kin hns rfl a l c k b__law_lot), (let ⟨_, _, _, _, _, _, _, _, _, _, a, l, c, k⟩ := a12; lnk_mk kin hns rfl a l c k b__law_lots), (let ⟨_, _, _, _, _, _, _, _, _, _, a, l, c, k⟩ := a13; lnk_mk kin hns rfl a l c k b__law_opposite), (let ⟨_, _, _, _, _, _, _, _, _, _, a, l, c, k⟩ := a14; lnk_mk kin hns rfl a l c k b__law_standard), (let ⟨_, _, _, _, _, _, _, _, _, _, a, l, c, k⟩ := a15; lnk_mk kin hns rfl a l c k b__law_bus), (let ⟨_, _, _, _, _, _, _, _, _, _, a, l, c, k⟩ := a16; lnk_mk kin hns rfl a l c k b__law_lanes), (let ⟨_, _, _, _, _, _, _, _, _, _, a, l, c, k⟩ := a17; lnk_mk kin hns rfl a l c k b__law_occurs), (let ⟨_, _, _, _, _, _, _, _, _, _, a, l, c, k⟩ := a18; lnk_mk kin hns rfl a l c k b__law_clash), (let ⟨_, _, _, _, _, _, _, _, _, _, a, l, c, k⟩ := a19; lnk_mk kin hns rfl a l c k b__law_is_lane), (let ⟨_, _, _, _, _, _, _, _, _, _, a, l, c, k⟩ := a20; lnk_mk kin hns rfl a l c k b__law_right), (let ⟨_, _, _, _, _, _, _, _, _, _, a, l, c, k⟩ := a21; lnk_mk kin hns rfl a l c k b__law_lane_word), (let ⟨_, _, _, _, _, _, _, _, _, _, a, l, c, k⟩ := a22; lnk_mk kin hns rfl a l c k b__law_with), (let ⟨_, _, _, _, _, _, _, _, _, _, a, l, c, k⟩ := a23; lnk_mk kin hns rfl a l c k b__law_books), (let ⟨_, _, _, _, _, _, _, _, _, _, a, l, c, k⟩ := a24; lnk_mk kin hns rfl a l c k b__law_drawn), (let ⟨_, _, _, _, _, _, _, _, _, _, a, l, c, k⟩ := a25; lnk_mk kin hns rfl a l c k b__law_cut_spoilt), (let ⟨_, _, _, _, _, _, _, _, _, _, a, l, c, k⟩ := a26; lnk_mk kin hns rfl a l c k b__law_words_spoilt), (let ⟨_, _, _, _, _, _, _, _, _, _, a, l, c, k⟩ := a27; lnk_mk kin hns rfl a l c k b__law_books_spoilt), (let ⟨_, _, _, _, _, _, _, _, _, _, a, l, c, k⟩ := a28; lnk_mk kin hns rfl a l c k b_law), trivial⟩
theorem nob (kin : K.In h) (hns : h.Ns mainGlobals mg) (z0 : PySem.W.nsIn K mainGlobals "abs" = some none) (z1 : PySem.W.nsIn K mainGlobals "bool" = some none) (z2 : PySem.W.nsIn K mainGlobals "enumerate" = some none) (z3 : PySem.W.nsIn K mainGlobals "int" = some none) (z4 : PySem.W.nsIn K mainGlobals "isinstance" = some none) (z5 : PySem.W.nsIn K mainGlobals "len" = some none) (z6 : PySem.W.nsIn K mainGlobals "list" = some none) (z7 : PySem.W.nsIn K mainGlobals "min" = some none) (z8 : PySem.W.nsIn K mainGlobals "range" = some none) (z9 : PySem.W.nsIn K mainGlobals "repr" = some none) (z10 : PySem.W.nsIn K mainGlobals "sorted" = some none) (z11 : PySem.W.nsIn K mainGlobals "str" = some none) (z12 : PySem.W.nsIn K mainGlobals "tuple" = some none) (z13 : PySem.W.nsIn K mainGlobals "zip" = some none) : ∀ x ∈ bl, mg x = none := by
  intro x hx
  simp only [bl, List.mem_cons, List.not_mem_nil, or_false] at hx
  rcases hx with rfl | rfl | rfl | rfl | rfl | rfl | rfl | rfl | rfl | rfl | rfl | rfl | rfl | rfl
  · exact PySem.W.mg_none_of kin hns z0
  · exact PySem.W.mg_none_of kin hns z1
  · exact PySem.W.mg_none_of kin hns z2
  · exact PySem.W.mg_none_of kin hns z3
  · exact PySem.W.mg_none_of kin hns z4
  · exact PySem.W.mg_none_of kin hns z5
  · exact PySem.W.mg_none_of kin hns z6
  · exact PySem.W.mg_none_of kin hns z7
  · exact PySem.W.mg_none_of kin hns z8
  · exact PySem.W.mg_none_of kin hns z9
  · exact PySem.W.mg_none_of kin hns z10
  · exact PySem.W.mg_none_of kin hns z11
  · exact PySem.W.mg_none_of kin hns z12
  · exact PySem.W.mg_none_of kin hns z13
end
end G
end
set_option linter.all false
set_option maxRecDepth 100000
open PySem PySem.W PyProof.Rows
set_option maxHeartbeats 0 in
theorem PySem.Challenge.cw_neveropposed_k38_products_judged_holds : PySem.Challenge.rw_neveropposed_k38_products_judged.Holds := by
  w_on; o_law; k_head; (case hw => w_witness2)
  k_fill
  refine VF.walkV (l := PySem.Challenge.rw_neveropposed_k38_products_judged) (n := 63) (k := 12) (x := "script") (sp := fun w => VF.spC G.T _ (fun _ => none) 12 28) rfl (by decide) rfl ⟨rfl, by decide, by decide⟩ (fun w h Y => PySem.W.kIn_of Y) ?FF (fun w H a ns hl hb hS => VF.law_sp (fn := G.f_law) rfl rfl rfl rfl (by omega) hS (G.fact ns hl hb))
  intro w mg fa h KX GG hmg
  refine VF.lawV (fn := G.f_law) rfl rfl G.chk (G.nob KX GG ?z0 ?z1 ?z2 ?z3 ?z4 ?z5 ?z6 ?z7 ?z8 ?z9 ?z10 ?z11 ?z12 ?z13) (G.lnk KX GG ?a0 ?a1 ?a2 ?a3 ?a4 ?a5 ?a6 ?a7 ?a8 ?a9 ?a10 ?a11 ?a12 ?a13 ?a14 ?a15 ?a16 ?a17 ?a18 ?a19 ?a20 ?a21 ?a22 ?a23 ?a24 ?a25 ?a26 ?a27 ?a28) hmg
  (case z0 => k_is)
  (case z1 => k_is)
  (case z2 => k_is)
  (case z3 => k_is)
  (case z4 => k_is)
  (case z5 => k_is)
  (case z6 => k_is)
  (case z7 => k_is)
  (case z8 => k_is)
  (case z9 => k_is)
  (case z10 => k_is)
  (case z11 => k_is)
  (case z12 => k_is)
  (case z13 => k_is)
  (case a0 => refine' G.at_is_number ?q1 ?q2 ?q3 ?q4; (case q1 => k_is); (case q2 => k_is); (case q3 => k_is); (case q4 => k_is))
  (case a1 => refine' G.at_is_word ?q1 ?q2 ?q3 ?q4; (case q1 => k_is); (case q2 => k_is); (case q3 => k_is); (case q4 => k_is))
  (case a2 => refine' G.at_opposite ?q1 ?q2 ?q3 ?q4; (case q1 => k_is); (case q2 => k_is); (case q3 => k_is); (case q4 => k_is))
  (case a3 => refine' G.at_part ?q1 ?q2 ?q3 ?q4; (case q1 => k_is); (case q2 => k_is); (case q3 => k_is); (case q4 => k_is))
  (case a4 => refine' G.at_are_cuts ?q1 ?q2 ?q3 ?q4; (case q1 => k_is); (case q2 => k_is); (case q3 => k_is); (case q4 => k_is))
  (case a5 => refine' G.at_is_lane_book ?q1 ?q2 ?q3 ?q4; (case q1 => k_is); (case q2 => k_is); (case q3 => k_is); (case q4 => k_is))
  (case a6 => refine' G.at_occurs_joined ?q1 ?q2 ?q3 ?q4; (case q1 => k_is); (case q2 => k_is); (case q3 => k_is); (case q4 => k_is))
  (case a7 => refine' G.at_shows_product ?q1 ?q2 ?q3 ?q4; (case q1 => k_is); (case q2 => k_is); (case q3 => k_is); (case q4 => k_is))
  (case a8 => refine' G.at__law_stream ?q1 ?q2 ?q3 ?q4; (case q1 => k_is); (case q2 => k_is); (case q3 => k_is); (case q4 => k_is))
  (case a9 => refine' G.at__law_take ?q1 ?q2 ?q3 ?q4; (case q1 => k_is); (case q2 => k_is); (case q3 => k_is); (case q4 => k_is))
  (case a10 => refine' G.at__law_same ?q1 ?q2 ?q3 ?q4; (case q1 => k_is); (case q2 => k_is); (case q3 => k_is); (case q4 => k_is))
  (case a11 => refine' G.at__law_lot ?q1 ?q2 ?q3 ?q4; (case q1 => k_is); (case q2 => k_is); (case q3 => k_is); (case q4 => k_is))
  (case a12 => refine' G.at__law_lots ?q1 ?q2 ?q3 ?q4; (case q1 => k_is); (case q2 => k_is); (case q3 => k_is); (case q4 => k_is))
  (case a13 => refine' G.at__law_opposite ?q1 ?q2 ?q3 ?q4; (case q1 => k_is); (case q2 => k_is); (case q3 => k_is); (case q4 => k_is))
  (case a14 => refine' G.at__law_standard ?q1 ?q2 ?q3 ?q4; (case q1 => k_is); (case q2 => k_is); (case q3 => k_is); (case q4 => k_is))
  (case a15 => refine' G.at__law_bus ?q1 ?q2 ?q3 ?q4; (case q1 => k_is); (case q2 => k_is); (case q3 => k_is); (case q4 => k_is))
  (case a16 => refine' G.at__law_lanes ?q1 ?q2 ?q3 ?q4; (case q1 => k_is); (case q2 => k_is); (case q3 => k_is); (case q4 => k_is))
  (case a17 => refine' G.at__law_occurs ?q1 ?q2 ?q3 ?q4; (case q1 => k_is); (case q2 => k_is); (case q3 => k_is); (case q4 => k_is))
  (case a18 => refine' G.at__law_clash ?q1 ?q2 ?q3 ?q4; (case q1 => k_is); (case q2 => k_is); (case q3 => k_is); (case q4 => k_is))
  (case a19 => refine' G.at__law_is_lane ?q1 ?q2 ?q3 ?q4; (case q1 => k_is); (case q2 => k_is); (case q3 => k_is); (case q4 => k_is))
  (case a20 => refine' G.at__law_right ?q1 ?q2 ?q3 ?q4; (case q1 => k_is); (case q2 => k_is); (case q3 => k_is); (case q4 => k_is))
  (case a21 => refine' G.at__law_lane_word ?q1 ?q2 ?q3 ?q4; (case q1 => k_is); (case q2 => k_is); (case q3 => k_is); (case q4 => k_is))
  (case a22 => refine' G.at__law_with ?q1 ?q2 ?q3 ?q4; (case q1 => k_is); (case q2 => k_is); (case q3 => k_is); (case q4 => k_is))
  (case a23 => refine' G.at__law_books ?q1 ?q2 ?q3 ?q4; (case q1 => k_is); (case q2 => k_is); (case q3 => k_is); (case q4 => k_is))
  (case a24 => refine' G.at__law_drawn ?q1 ?q2 ?q3 ?q4; (case q1 => k_is); (case q2 => k_is); (case q3 => k_is); (case q4 => k_is))
  (case a25 => refine' G.at__law_cut_spoilt ?q1 ?q2 ?q3 ?q4; (case q1 => k_is); (case q2 => k_is); (case q3 => k_is); (case q4 => k_is))
  (case a26 => refine' G.at__law_words_spoilt ?q1 ?q2 ?q3 ?q4; (case q1 => k_is); (case q2 => k_is); (case q3 => k_is); (case q4 => k_is))
  (case a27 => refine' G.at__law_books_spoilt ?q1 ?q2 ?q3 ?q4; (case q1 => k_is); (case q2 => k_is); (case q3 => k_is); (case q4 => k_is))
  (case a28 => refine' G.at_law ?q1 ?q2 ?q3 ?q4; (case q1 => k_is); (case q2 => k_is); (case q3 => k_is); (case q4 => k_is))
