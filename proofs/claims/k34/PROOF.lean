import PyProof.Rows.All
import Wide.All
import OpenK.AllK
import Wide.FinOn
import HandS.ForExc
import HandS.Comp
import HandS.Iter
import HandS.Zip
import HandS.Text
import HandS.Wide
import HandS.WideBits
import HandS.IsInst
import HandS.Conv
import HandS.Rev
import HandS.RevTup
import HandS.Flow
import HandS.FStr
import HandS.SortInts
import HandS.TryMany
import HandS.HotCalls
import HandS.ExcIs
import HandS.HeadEnd
import HandS.HeadHook4
import HandS.Head0
import HandS.Head1
import HandS.Head2
import KE.DataCmp
import KE.DataMinMax
import HandS.SortKw
import HandS.EndBits
import KE.BitLaws
import PySem.Challenge.RW_leanestate_k34_knots_of_a_path
set_option Elab.async false
set_option linter.all false
set_option maxRecDepth 100000
set_option maxHeartbeats 4000000
/-! Mn: a small language of expressions and statements over plain data, its meaning as Lean functions. Part A: syntax and meaning. -/
namespace Mn
open PySem PySem.Spec PyProof.Rows L2

abbrev D := PyData

/-! ### results -/
inductive R (α : Type) where
  | ok (a : α) | exc (c : Str) | bad
def R.bind {α β : Type} : R α → (α → R β) → R β
  | .ok a, f => f a
  | .exc c, _ => .exc c
  | .bad, _ => .bad
instance : Monad R where
  pure := R.ok
  bind := R.bind
@[simp] theorem ok_bind {α β : Type} (a : α) (f : α → R β) : (R.ok a >>= f) = f a := rfl
@[simp] theorem exc_bind {α β : Type} (c : Str) (f : α → R β) : ((R.exc c : R α) >>= f) = .exc c := rfl
@[simp] theorem bad_bind {α β : Type} (f : α → R β) : ((R.bad : R α) >>= f) = .bad := rfl
@[simp] theorem pure_ok {α : Type} (a : α) : (pure a : R α) = .ok a := rfl
theorem R.ok_inj {α : Type} {a b : α} (h : R.ok a = R.ok b) : a = b := by injection h

/-! ### syntax -/
inductive BOp where
  | add | sub | mul | rep | fdiv | mod | pow | shl | shr | band | bor | bxor
  deriving DecidableEq
inductive COp where
  | eq | ne | lt | le | gt | ge | mem | nmem | isN | notN
  deriving DecidableEq
/-- built-in functions, by how they are called -/
inductive BI where
  | len | abs | min2 | max2 | sum | list | sorted | int | all | minL | maxL
  | listRg1
  | isi (T : String)
  | maxD (d : Int) | minD (d : Int)
  | rev
  | bits
  | strI | upper | isdig
  deriving DecidableEq
/-- methods of one argument, f-strings of two -/
inductive X2 where
  | part | find | count | join | split | lindex
  | fs (sep : Str)
  deriving DecidableEq
abbrev Env := List (Option D)
inductive ME where
  | var (i : Nat) | int (n : Int) | str (s : Str) | bl (b : Bool) | non
  | gl (x : Str) (d : D)
  | nil | cons (e es : ME)
  | tup (es : ME) | lst (es : ME)
  | bin (o : BOp) (a b : ME)
  | neg (a : ME) | nt (a : ME)
  | andE (es : ME) | orE (es : ME)
  | cmp (o : COp) (a b : ME)
  | chn (o : COp) (a b : ME) (p : COp) (c : ME)
  | chn3 (o : COp) (a b : ME) (p : COp) (c : ME) (q : COp) (d : ME)
  | dget2 (k1 v1 k2 v2 : Str) (e f : ME)
  | ife (c a b : ME)
  | ix (a i : ME)
  | sl (a lo hi : ME)
  | call (chk : Bool) (F : List D → R D) (x : Str) (es : ME)
  | bi (f : BI) (a : ME)
  | bi2 (f : BI) (a b : ME)
  | x2 (f : X2) (a b : ME)
  | isx (i : Nat) (cs : List Str)
  | callx (F : List D → R D) (x : Str) (i : Nat)
  | comp (own : List (Str × Nat)) (tg : List Nat) (tup : Bool) (it cond elt : ME)
  | iSeq (a : ME) | iRg1 (a : ME) | iRg2 (a b : ME) | iRg3 (a b c : ME) | iEnum (a : ME) | iZip (a b : ME) | iRev (a : ME)

/-! ### meaning of the operators -/
def asInt : D → R Int
  | .int i => .ok i
  | _ => .bad
def asBool : D → R Bool
  | .bool b => .ok b
  | _ => .bad
def asList : D → R (List D)
  | .list l => .ok l
  | _ => .bad
def mulOk (a b : Int) : Bool := decide (a.natAbs < 2 ^ 64) || decide (b.natAbs < 2 ^ 64) || decide (a.natAbs.log2 + b.natAbs.log2 < 1000000)
def bop : BOp → D → D → R D
  | .add, .int a, .int b => .ok (.int (a + b))
  | .add, .str a, .str b => if a.length + b.length ≤ sizeLine then .ok (.str (a ++ b)) else .bad
  | .add, .list a, .list b => if a.length + b.length ≤ sizeLine then .ok (.list (a ++ b)) else .bad
  | .sub, .int a, .int b => .ok (.int (a - b))
  | .mul, .int a, .int b => if mulOk a b = true then .ok (.int (a * b)) else .bad
  | .mul, .str a, .int k => if a.length ≤ 1000 ∧ -1000 ≤ k ∧ k ≤ 1000 then .ok (.str (Txt.mul a k)) else .bad
  | .rep, .list a, .int k => if a.length * k.toNat ≤ sizeLine ∧ k.natAbs < 2 ^ 62 then .ok (.list (List.replicate k.toNat a).flatten) else .bad
  | .fdiv, .int a, .int b => if b ≠ 0 ∧ b.natAbs.log2 < 9000 then .ok (.int (a.fdiv b)) else .bad
  | .mod, .int a, .int b => if b ≠ 0 then .ok (.int (a.fmod b)) else .bad
  | .pow, .int a, .int b => if 0 ≤ b ∧ Builtin.Int.intBits a * b.toNat ≤ 134217728 then .ok (.int (a ^ b.toNat)) else .bad
  | .shl, .int a, .int b => if 0 ≤ b ∧ Builtin.Int.intBits a + b.toNat ≤ 134217728 then .ok (.int (a * 2 ^ b.toNat)) else .bad
  | .shr, .int a, .int b => if 0 ≤ b then .ok (.int (a / 2 ^ b.toNat)) else .bad
  | .band, .int a, .int b => .ok (.int (Builtin.bitAnd a b))
  | .bor, .int a, .int b => .ok (.int (Builtin.bitOr a b))
  | .bxor, .int a, .int b => .ok (.int (Builtin.bitXor a b))
  | _, _, _ => .bad
def flatD : D → Bool
  | .none | .bool _ | .int _ | .str _ => true
  | _ => false
def flatR : D → Bool
  | .list l => l.all noL
  | d => noL d
where
  noL : D → Bool
    | .none | .bool _ | .int _ | .str _ => true
    | .tuple l => l.all flatD
    | _ => false
def isNone : D → Bool
  | .none => true
  | _ => false
/-- two scalars that == tells apart at once -/
def scalD : D → D → Bool
  | .none, .none | .none, .int _ | .int _, .none | .none, .bool _ | .bool _, .none | .none, .str _ | .str _, .none => true
  | .int _, .int _ | .bool _, .bool _ | .str _, .str _ | .int _, .str _ | .str _, .int _ | .bool _, .str _ | .str _, .bool _ => true
  | _, _ => false
def ceq (d e : D) : R Bool := if scalD d e || (SeqAt.shaped d && SeqAt.shaped e) then .ok (PyData.eqv d e) else .bad
def inList (x : D) (l : List D) : Bool := l.any fun y => PyData.eqv y x
def cmem (x y : D) : R Bool := match x, y with
  | .str x, .str z => if x.length = 1 then .ok (decide (x.cps.getD 0 0 ∈ z.cps.toList)) else .bad
  | x, .list l => if flatD x && l.all flatD then .ok (inList x l) else .bad
  | x, .tuple l => if flatD x && l.all flatD then .ok (inList x l) else .bad
  | _, _ => .bad
def intsD : List D → R (List Int)
  | [] => .ok []
  | .int i :: l => intsD l >>= fun r => .ok (i :: r)
  | _ => .bad
/-- Python's < of lists of whole numbers -/
def lexB : List Int → List Int → Bool
  | [], [] => false
  | [], _ :: _ => true
  | _ :: _, [] => false
  | a :: l, b :: m => if a = b then lexB l m else decide (a < b)
def cop : COp → D → D → R D
  | .eq, d, e => ceq d e >>= fun b => .ok (.bool b)
  | .ne, d, e => ceq d e >>= fun b => .ok (.bool !b)
  | .lt, .int a, .int b => .ok (.bool (decide (a < b)))
  | .lt, .list l, .list m => intsD l >>= fun a => intsD m >>= fun b => .ok (.bool (lexB a b))
  | .le, .int a, .int b => .ok (.bool (decide (a ≤ b)))
  | .gt, .int a, .int b => .ok (.bool (decide (b < a)))
  | .ge, .int a, .int b => .ok (.bool (decide (b ≤ a)))
  | .mem, d, e => cmem d e >>= fun b => .ok (.bool b)
  | .nmem, d, e => cmem d e >>= fun b => .ok (.bool !b)
  | .isN, d, .none => .ok (.bool (isNone d))
  | .notN, d, .none => .ok (.bool !(isNone d))
  | _, _, _ => .bad
/-- the type of data, as the machine calls it -/
def tyD : D → String
  | .none => "NoneType"
  | .bool _ => "bool"
  | .int _ => "int"
  | .str _ => "str"
  | .list _ => "list"
  | .tuple _ => "tuple"
  | .dict _ => "dict"
def boolsD : List D → R (List Bool)
  | [] => .ok []
  | .bool i :: l => boolsD l >>= fun r => .ok (i :: r)
  | _ => .bad
def maxI : List Int → Int → Int
  | [], m => m
  | x :: l, m => maxI l (if m < x then x else m)
def minI : List Int → Int → Int
  | [], m => m
  | x :: l, m => minI l (if x < m then x else m)
def insI (x : Int) : List Int → List Int
  | [] => [x]
  | y :: l => if x ≤ y then x :: y :: l else y :: insI x l
def sortI (l : List Int) : List Int := l.foldr insI []
def rgL (lo : Int) (n : Nat) : List D := (List.range n).map fun (i : Nat) => .int (lo + (i : Int))
def small62 (i : Int) : Bool := decide (i.natAbs < 4611686018427387904)
def biD : BI → D → R D
  | .len, .list l => .ok (.int l.length)
  | .len, .tuple l => .ok (.int l.length)
  | .len, .str s => if s.length ≤ sizeLine then .ok (.int s.length) else .bad
  | .abs, .int i => .ok (.int (if i < 0 then -i else i))
  | .sum, .list l => intsD l >>= fun r => .ok (.int r.sum)
  | .list, .list l => .ok (.list l)
  | .list, .tuple l => .ok (.list l)
  | .sorted, .list l => intsD l >>= fun r => .ok (.list ((sortI r).map .int))
  | .int, .int i => .ok (.int i)
  | .int, .bool b => .ok (.int (if b then 1 else 0))
  | .int, .str s => if s.length ≤ 640 then (match PySem.intText? s with
    | some n => .ok (.int n)
    | none => .bad) else .bad
  | .strI, .int i => if i.natAbs.log2 < 1920 then .ok (.str (toString i)) else .bad
  | .upper, .str s => if s.length ≤ 5592405 then .ok (.str (Txt.upper s)) else .bad
  | .isdig, .str s => .ok (.bool (Txt.isdigit s))
  | .all, .list l => boolsD l >>= fun r => .ok (.bool (r.all id))
  | .minL, .list l => intsD l >>= fun r => match r with
    | [] => .bad
    | x :: r => .ok (.int (minI r x))
  | .maxL, .list l => intsD l >>= fun r => match r with
    | [] => .bad
    | x :: r => .ok (.int (maxI r x))
  | .maxD d, .list l => intsD l >>= fun r => match r with
    | [] => .ok (.int d)
    | x :: r => .ok (.int (maxI r x))
  | .minD d, .list l => intsD l >>= fun r => match r with
    | [] => .ok (.int d)
    | x :: r => .ok (.int (minI r x))
  | .isi T, d => match kitB (tyD d) T with
    | some b => .ok (.bool b)
    | none => .bad
  | .listRg1, .int n => if 0 ≤ n ∧ n.toNat ≤ 16777216 then .ok (.list (rgL 0 n.toNat)) else .bad
  | .rev, .list l => .ok (.list l.reverse)
  | .bits, .int i => .ok (.int (Builtin.Int.intBits i : Nat))
  | _, _ => .bad
def biD2 : BI → D → D → R D
  | .min2, .int a, .int b => .ok (.int (if b < a then b else a))
  | .max2, .int a, .int b => .ok (.int (if b > a then b else a))
  | _, _, _ => .bad
def strsD : List D → R (List Str)
  | [] => .ok []
  | .str i :: l => strsD l >>= fun r => .ok (i :: r)
  | _ => .bad
/-- what a method's owner may be -/
def x2k : X2 → D → Bool
  | .part, .str _ | .find, .str _ | .count, .str _ | .join, .str _ | .split, .str _ => true
  | .lindex, .list _ => true
  | .fs sep, .int i => decide (i.natAbs.log2 < 1920) && decide ((Str.empty ++ toString i).length ≤ sizeLine) && decide ((Str.empty ++ toString i ++ sep).length ≤ sizeLine)
  | _, _ => false
def x2D : X2 → D → D → R D
  | .part, .str a, .str b => if (b.length == 0) = false ∧ a.length ≤ sizeLine then .ok (.tuple [.str (Txt.partition a b).1, .str (Txt.partition a b).2.1, .str (Txt.partition a b).2.2]) else .bad
  | .find, .str a, .str b => .ok (.int (Txt.find a b))
  | .count, .str a, .str b => .ok (.int (Txt.count a b))
  | .join, .str a, .list l => strsD l >>= fun ys => if (ys.map (·.length)).sum + ys.length * a.length ≤ 16777216 then .ok (.str (Txt.join a ys)) else .bad
  | .split, .str a, .str b => if (b.length == 0) = false ∧ a.length + 2 ≤ sizeLine then .ok (.list ((Txt.split a b).map .str)) else .bad
  | .lindex, .list l, .str s => strsD l >>= fun ys => if s ∈ ys then .ok (.int (ys.idxOf s : Nat)) else .bad
  | .fs sep, .int i, .int j => if j.natAbs.log2 < 1920 ∧ (Str.empty ++ toString i ++ sep ++ toString j).length ≤ sizeLine then .ok (.str (Str.empty ++ toString i ++ sep ++ toString j)) else .bad
  | _, _, _ => .bad
def ixD : D → D → R D
  | .list l, .int i => match atI l i with
    | some d => .ok d
    | none => .bad
  | .tuple l, .int i => match atI l i with
    | some d => .ok d
    | none => .bad
  | .str z, .int i => if z.length ≤ sizeLine then (match atI z.cps.toList i with
    | some c => .ok (.str ⟨#[c]⟩)
    | none => .bad) else .bad
  | _, _ => .bad
def cutD (l : List D) (lo hi : Option Int) : List D := (l.drop (HT.sIx l.length 0 lo)).take (HT.sIx l.length l.length hi - HT.sIx l.length 0 lo)
def slD : D → Option Int → Option Int → R D
  | .list l, lo, hi => .ok (.list (cutD l lo hi))
  | .str z, lo, hi => if z.length ≤ sizeLine then .ok (.str (cutS z lo hi)) else .bad
  | _, _, _ => .bad

/-! ### a caught exception, among the slots -/
def excD (c : Str) : D := .dict [(.str c, .none)]
def isX : D → Bool
  | .dict _ => true
  | _ => false
def excOf : D → Option Str
  | .dict [(.str c, _)] => some c
  | _ => none
/-- is an exception of class c one of C -/
def subB (c C : Str) : Bool := decide (C = c) || decide (C = ("LeanError" : Str)) || decide (C = ("ValueError" : Str))
def isxD (d : D) (cs : List Str) : R D := match excOf d with
  | some c => .ok (.bool (cs.any (subB c)))
  | none => .bad
/-! ### meaning of expressions -/
@[simp] def setL (ρ : Env) : List Nat → List D → Env
  | i :: is, d :: ds => setL (ρ.set i (some d)) is ds
  | _, _ => ρ
@[simp] def wipeE (ρ : Env) : List Nat → Env
  | [] => ρ
  | i :: is => (wipeE ρ is).set i none
/-- what a loop stores -/
def bindT (tg : List Nat) (tup : Bool) (d : D) (ρ : Env) : R Env :=
  match tup with
  | true => (match d with
    | .tuple ds => if ds.length = tg.length then .ok (setL ρ tg ds) else .bad
    | _ => .bad)
  | false => (match tg with
    | [i] => .ok (ρ.set i (some d))
    | _ => .bad)
/-- a list is unpacked -/
def bindL (tg : List Nat) (d : D) (ρ : Env) : R Env :=
  match d with
  | .list ds => if ds.length = tg.length then .ok (setL ρ tg ds) else .bad
  | _ => .bad
def filt (f : D → R (Option D)) : List D → R (List D)
  | [] => .ok []
  | d :: ds => f d >>= fun o => filt f ds >>= fun r => .ok (match o with
    | some y => y :: r
    | none => r)
/-- no exception leaves a comprehension -/
def noexc {α : Type} : R α → R α
  | .ok a => .ok a
  | _ => .bad
def flatChk (chk : Bool) (d : D) : R D := if chk then (if flatR d then .ok d else .bad) else .ok d
def zipD : List D → List D → List D
  | x :: xs, y :: ys => .tuple [x, y] :: zipD xs ys
  | _, _ => []
def enumD (i : Nat) : List D → List D
  | [] => []
  | x :: xs => .tuple [.int (i : Int), x] :: enumD (i + 1) xs
def rng3 (a b c : Int) : R (List D) := if c ≠ 0 ∧ c.natAbs < 1073741824 ∧ Builtin.Range.small a b c = true ∧ 0 ≤ Builtin.Range.rangeSize a b c then
    .ok ((List.range (Builtin.Range.rangeSize a b c).toNat).map fun (i : Nat) => .int (a + (i : Int) * c)) else .bad
/-- {k1: v1, k2: v2}.get(x, z), texts all -/
def getS (k1 v1 k2 v2 : Str) : D → D → R D
  | .str s, .str t => .ok (.str (if s = k1 then v1 else if s = k2 then v2 else t))
  | _, _ => .bad
mutual
def denE : ME → Env → R D
  | .var i, ρ => match ρ[i]? with
    | some (some d) => .ok d
    | _ => .bad
  | .int n, _ => .ok (.int n)
  | .str s, _ => .ok (.str s)
  | .bl b, _ => .ok (.bool b)
  | .non, _ => .ok .none
  | .gl _ d, _ => .ok d
  | .nil, _ => .bad
  | .cons _ _, _ => .bad
  | .tup es, ρ => denEs es ρ >>= fun ds => if ds.length ≤ 1000 then .ok (.tuple ds) else .bad
  | .lst es, ρ => denEs es ρ >>= fun ds => if ds.length ≤ 1000 then .ok (.list ds) else .bad
  | .bin o a b, ρ => denE a ρ >>= fun x => denE b ρ >>= fun y => bop o x y
  | .neg a, ρ => denE a ρ >>= fun x => asInt x >>= fun i => .ok (.int (-i))
  | .nt a, ρ => denE a ρ >>= fun x => asBool x >>= fun b => .ok (.bool !b)
  | .andE es, ρ => denAnd es ρ
  | .orE es, ρ => denOr es ρ
  | .cmp o a b, ρ => denE a ρ >>= fun x => denE b ρ >>= fun y => cop o x y
  | .chn o a b p c, ρ => denE a ρ >>= fun x => denE b ρ >>= fun y => cop o x y >>= fun z => asBool z >>= fun k =>
    if k = true then denE c ρ >>= fun w => cop p y w else .ok (.bool false)
  | .chn3 o a b p c q d, ρ => denE a ρ >>= fun x => denE b ρ >>= fun y => cop o x y >>= fun z => asBool z >>= fun k =>
    if k = true then denE c ρ >>= fun w => cop p y w >>= fun z2 => asBool z2 >>= fun k2 => if k2 = true then denE d ρ >>= fun u => cop q w u else .ok (.bool false) else .ok (.bool false)
  | .dget2 k1 v1 k2 v2 e f, ρ => denE e ρ >>= fun x => denE f ρ >>= fun z => getS k1 v1 k2 v2 x z
  | .ife c a b, ρ => denE c ρ >>= fun x => asBool x >>= fun k => if k = true then denE a ρ else denE b ρ
  | .ix a i, ρ => denE a ρ >>= fun x => denE i ρ >>= fun y => ixD x y
  | .sl a lo hi, ρ => denE a ρ >>= fun x => denO lo ρ >>= fun l => denO hi ρ >>= fun h => slD x l h
  | .call chk F _ es, ρ => denEs es ρ >>= fun ds => F ds >>= fun d => flatChk chk d
  | .isx i cs, ρ => match ρ[i]? with
    | some (some d) => isxD d cs
    | _ => .bad
  | .callx F _ i, ρ => match ρ[i]? with
    | some (some d) => if isX d = true then noexc (F [d]) else .bad
    | _ => .bad
  | .bi f a, ρ => denE a ρ >>= fun x => biD f x
  | .bi2 f a b, ρ => denE a ρ >>= fun x => denE b ρ >>= fun y => biD2 f x y
  | .x2 f a b, ρ => denE a ρ >>= fun x => if x2k f x = true then denE b ρ >>= fun y => x2D f x y else .bad
  | .comp own tg tup it cond elt, ρ => denI it ρ >>= fun ds => (noexc (filt (fun d =>
      bindT tg tup d (wipeE ρ (own.map (·.2))) >>= fun ρ' => denC cond ρ' >>= fun k => if k = true then denE elt ρ' >>= fun y => .ok (some y) else .ok none) ds)) >>= fun r => if r.length ≤ sizeLine then .ok (.list r) else .bad
  | .iSeq _, _ => .bad
  | .iRg1 _, _ => .bad
  | .iRg2 _ _, _ => .bad
  | .iRg3 _ _ _, _ => .bad
  | .iEnum _, _ => .bad
  | .iZip _ _, _ => .bad
  | .iRev _, _ => .bad
def denEs : ME → Env → R (List D)
  | .nil, _ => .ok []
  | .cons e es, ρ => denE e ρ >>= fun d => denEs es ρ >>= fun ds => .ok (d :: ds)
  | _, _ => .bad
def denAnd : ME → Env → R D
  | .cons e .nil, ρ => denE e ρ >>= fun x => asBool x >>= fun b => .ok (.bool b)
  | .cons e es, ρ => denE e ρ >>= fun x => asBool x >>= fun b => if b = true then denAnd es ρ else .ok (.bool false)
  | _, _ => .bad
def denOr : ME → Env → R D
  | .cons e .nil, ρ => denE e ρ >>= fun x => asBool x >>= fun b => .ok (.bool b)
  | .cons e es, ρ => denE e ρ >>= fun x => asBool x >>= fun b => if b = true then .ok (.bool true) else denOr es ρ
  | _, _ => .bad
/-- a comprehension's test -/
def denC : ME → Env → R Bool
  | .nil, _ => .ok true
  | .cons e _, ρ => denE e ρ >>= fun x => asBool x
  | _, _ => .bad
/-- a slice's end -/
def denO : ME → Env → R (Option Int)
  | .nil, _ => .ok none
  | .cons e _, ρ => denE e ρ >>= fun x => asInt x >>= fun i => .ok (some i)
  | _, _ => .bad
/-- what a loop walks -/
def denI : ME → Env → R (List D)
  | .iSeq a, ρ => denE a ρ >>= fun x => match x with
    | .list l => .ok l
    | .tuple l => .ok l
    | .str s => .ok (s.cps.toList.map fun c => .str ⟨#[c]⟩)
    | _ => .bad
  | .iRg1 a, ρ => denE a ρ >>= fun x => asInt x >>= fun n => if small62 n then .ok (rgL 0 n.toNat) else .bad
  | .iRg2 a b, ρ => denE a ρ >>= fun x => denE b ρ >>= fun y => asInt x >>= fun i => asInt y >>= fun j => if small62 i && small62 j then .ok (rgL i (j - i).toNat) else .bad
  | .iRg3 a b c, ρ => denE a ρ >>= fun x => denE b ρ >>= fun y => denE c ρ >>= fun z => asInt x >>= fun i => asInt y >>= fun j => asInt z >>= fun k => rng3 i j k
  | .iEnum a, ρ => denE a ρ >>= fun x => asList x >>= fun l => .ok (enumD 0 l)
  | .iZip a b, ρ => denE a ρ >>= fun x => denE b ρ >>= fun y => asList x >>= fun l => asList y >>= fun m => .ok (zipD l m)
  | .iRev a, ρ => denE a ρ >>= fun x => asList x >>= fun l => .ok l.reverse
  | _, _ => .bad
end
end Mn
/-! Mn, part B: how data lies in the abstract heap; the state of a def's frame. -/
namespace Mn
open PySem PySem.Spec PyProof.Rows L2

/-- a list that is one of the module's own objects -/
def KL (K : PySem.W.Frag) (a : Addr) (xs : List V) : Prop :=
  ∃ (o : Obj) (its : Array Value) (n : Nat), K.lookup a = some o ∧ o.cls = .type "list" ∧ o.dict = none ∧ o.data = .seq its n ∧ its.size ≤ sizeLine ∧ Vals xs its.toList
section
variable (K : PySem.W.Frag) (H : Hp) (N : Addr → Prop)
mutual
/-- v bears d; no list within it is one of those at N -/
inductive Rp : V → D → Prop
  | non : Rp .non .none
  | bl (b : Bool) : Rp (.bl b) (.bool b)
  | int (i : Int) : Rp (.int i) (.int i)
  | str (x : Str) : Rp (.str x) (.str x)
  | lst {a : Addr} {xs : List V} {ds : List D} : (¬ N a ∧ Rd H a (.lst xs)) ∨ KL K a xs → RpAll xs ds → Rp (.ref a) (.list ds)
  | tup {a : Addr} {xs : List V} {ds : List D} : SqT K H a xs → RpAll xs ds → Rp (.ref a) (.tuple ds)
inductive RpAll : List V → List D → Prop
  | nil : RpAll [] []
  | cons {v : V} {vs : List V} {d : D} {ds : List D} : Rp v d → RpAll vs ds → RpAll (v :: vs) (d :: ds)
end
end
/-- what stays: all but the lists at N -/
def SameN (N : Addr → Prop) (H H' : Hp) : Prop := ∀ b o, H b = some o → (¬ N b ∨ ∀ xs, o ≠ .lst xs) → H' b = some o
theorem toN {N : Addr → Prop} {H H' : Hp} (s : Same H H') : SameN N H H' := fun b o h _ => s b o h
structure Ext (N : Addr → Prop) (H : Hp) (N' : Addr → Prop) (H' : Hp) : Prop where
  sub : ∀ b, N' b → N b ∨ H b = none
  keep : SameN N H H'
theorem SameN.free {N : Addr → Prop} {H H' : Hp} (h : SameN N H H') {b : Addr} (hn : H' b = none) : N b ∨ H b = none := by
  cases q : H b with
  | none => exact .inr rfl
  | some o =>
    by_cases hb : N b
    · exact .inl hb
    · have z := h b o q (.inl hb)
      rw [hn] at z
      cases z
section
variable {K : PySem.W.Frag} {H H' : Hp} {N N' : Addr → Prop}
theorem Ext.rd {a : Addr} {xs : List V} (e : Ext N H N' H') (n : ¬ N a) (h : Rd H a (.lst xs)) : ¬ N' a ∧ Rd H' a (.lst xs) := by
  have tr : H a ≠ none := by
    rcases h with h | ⟨o, h⟩ <;> rw [h] <;> simp
  refine ⟨fun z => (e.sub a z).elim n tr, ?_⟩
  rcases h with h | ⟨o, h⟩
  · exact .inl (e.keep _ _ h (.inl n))
  · exact .inr ⟨o, e.keep _ _ h (.inl n)⟩
theorem Ext.sqt {a : Addr} {xs : List V} (e : Ext N H N' H') (h : SqT K H a xs) : SqT K H' a xs := by
  rcases h with (h | ⟨o, h⟩) | h
  · exact .inl (.inl (e.keep _ _ h (.inr fun _ z => nomatch z)))
  · exact .inl (.inr ⟨o, e.keep _ _ h (.inr fun _ z => nomatch z)⟩)
  · exact .inr h
mutual
theorem Rp.ext (e : Ext N H N' H') : ∀ (d : D) (v : V), Rp K H N v d → Rp K H' N' v d
  | .none, _, h => by cases h; exact .non
  | .bool b, _, h => by cases h; exact .bl b
  | .int i, _, h => by cases h; exact .int i
  | .str x, _, h => by cases h; exact .str x
  | .list ds, _, h => by
    cases h with
    | lst h1 h2 =>
      refine .lst ?_ (RpAll.ext e ds _ h2)
      rcases h1 with ⟨n, r⟩ | k
      · exact .inl (e.rd n r)
      · exact .inr k
  | .tuple ds, _, h => by
    cases h with
    | tup h1 h2 => exact .tup (e.sqt h1) (RpAll.ext e ds _ h2)
  | .dict _, _, h => by cases h
theorem RpAll.ext (e : Ext N H N' H') : ∀ (ds : List D) (vs : List V), RpAll K H N vs ds → RpAll K H' N' vs ds
  | [], _, h => by cases h; exact .nil
  | d :: ds, _, h => by
    cases h with
    | cons h1 h2 => exact .cons (Rp.ext e d _ h1) (RpAll.ext e ds _ h2)
end
mutual
/-- fewer lists forbidden -/
theorem Rp.less (e : ∀ b, H b ≠ none → N' b → N b) : ∀ (d : D) (v : V), Rp K H N v d → Rp K H N' v d
  | .none, _, h => by cases h; exact .non
  | .bool b, _, h => by cases h; exact .bl b
  | .int i, _, h => by cases h; exact .int i
  | .str x, _, h => by cases h; exact .str x
  | .list ds, _, h => by
    cases h with
    | lst h1 h2 =>
      refine .lst ?_ (RpAll.less e ds _ h2)
      rcases h1 with ⟨n, r⟩ | k
      · refine .inl ⟨fun z => n (e _ ?_ z), r⟩
        rcases r with h | ⟨o, h⟩ <;> rw [h] <;> simp
      · exact .inr k
  | .tuple ds, _, h => by
    cases h with
    | tup h1 h2 => exact .tup h1 (RpAll.less e ds _ h2)
  | .dict _, _, h => by cases h
theorem RpAll.less (e : ∀ b, H b ≠ none → N' b → N b) : ∀ (ds : List D) (vs : List V), RpAll K H N vs ds → RpAll K H N' vs ds
  | [], _, h => by cases h; exact .nil
  | d :: ds, _, h => by
    cases h with
    | cons h1 h2 => exact .cons (Rp.less e d _ h1) (RpAll.less e ds _ h2)
end
theorem Ext.of_same (s : Same H H') : Ext N H N H' := ⟨fun _ h => .inl h, toN s⟩
theorem Rp.same {d : D} {v : V} (s : Same H H') (h : Rp K H N v d) : Rp K H' N v d := Rp.ext (Ext.of_same s) d v h
theorem RpAll.same {d : List D} {v : List V} (s : Same H H') (h : RpAll K H N v d) : RpAll K H' N v d := RpAll.ext (Ext.of_same s) d v h
theorem RpAll.length : ∀ {ds : List D} {vs : List V}, RpAll K H N vs ds → vs.length = ds.length
  | [], _, h => by cases h; rfl
  | d :: ds, _, h => by
    cases h with
    | cons h1 h2 => rw [List.length_cons, List.length_cons, RpAll.length h2]
theorem RpAll.get : ∀ {ds : List D} {vs : List V} {i : Nat} {d : D}, RpAll K H N vs ds → ds[i]? = some d → ∃ v, vs[i]? = some v ∧ Rp K H N v d
  | [], _, _, _, _, e => by simp at e
  | d :: ds, _, 0, _, h, e => by
    cases h with
    | cons h1 h2 =>
      have e' : d = _ := Option.some.inj e
      subst e'
      exact ⟨_, rfl, h1⟩
  | d :: ds, _, i + 1, _, h, e => by
    cases h with
    | cons h1 h2 =>
      obtain ⟨v, e1, r⟩ := RpAll.get (i := i) h2 (by simpa using e)
      exact ⟨v, by simpa using e1, r⟩
theorem RpAll.getV : ∀ {ds : List D} {vs : List V} {i : Nat} {v : V}, RpAll K H N vs ds → vs[i]? = some v → ∃ d, ds[i]? = some d ∧ Rp K H N v d
  | [], _, _, _, h, e => by cases h; simp at e
  | d :: ds, _, 0, _, h, e => by
    cases h with
    | cons h1 h2 =>
      have e' := Option.some.inj e
      subst e'
      exact ⟨_, rfl, h1⟩
  | d :: ds, _, i + 1, _, h, e => by
    cases h with
    | cons h1 h2 =>
      obtain ⟨v, e1, r⟩ := RpAll.getV (i := i) h2 (by simpa using e)
      exact ⟨v, by simpa using e1, r⟩
theorem RpAll.append : ∀ {ds es : List D} {vs ws : List V}, RpAll K H N vs ds → RpAll K H N ws es → RpAll K H N (vs ++ ws) (ds ++ es)
  | [], _, _, _, h, k => by cases h; exact k
  | d :: ds, _, _, _, h, k => by
    cases h with
    | cons h1 h2 => exact .cons h1 (RpAll.append h2 k)
theorem RpAll.take : ∀ {ds : List D} {vs : List V} (n : Nat), RpAll K H N vs ds → RpAll K H N (vs.take n) (ds.take n)
  | _, _, 0, _ => .nil
  | [], _, n + 1, h => by cases h; exact .nil
  | d :: ds, _, n + 1, h => by
    cases h with
    | cons h1 h2 => exact .cons h1 (RpAll.take n h2)
theorem RpAll.drop : ∀ {ds : List D} {vs : List V} (n : Nat), RpAll K H N vs ds → RpAll K H N (vs.drop n) (ds.drop n)
  | _, _, 0, h => h
  | [], _, n + 1, h => by cases h; exact .nil
  | d :: ds, _, n + 1, h => by
    cases h with
    | cons h1 h2 => exact RpAll.drop n h2
theorem RpAll.set {v : V} {d : D} (r : Rp K H N v d) : ∀ {ds : List D} {vs : List V} (i : Nat), RpAll K H N vs ds → RpAll K H N (vs.set i v) (ds.set i d)
  | [], _, _, h => by cases h; exact .nil
  | _ :: _, _, 0, h => by
    cases h with
    | cons h1 h2 => exact .cons r h2
  | _ :: _, _, i + 1, h => by
    cases h with
    | cons h1 h2 => exact .cons h1 (RpAll.set r i h2)
theorem RpAll.eraseIdx : ∀ {ds : List D} {vs : List V} (i : Nat), RpAll K H N vs ds → RpAll K H N (vs.eraseIdx i) (ds.eraseIdx i)
  | [], _, _, h => by cases h; exact .nil
  | _ :: _, _, 0, h => by
    cases h with
    | cons h1 h2 => exact h2
  | _ :: _, _, i + 1, h => by
    cases h with
    | cons h1 h2 => exact .cons h1 (RpAll.eraseIdx i h2)
theorem RpAll.rep {ds : List D} {vs : List V} (h : RpAll K H N vs ds) : ∀ k : Nat, RpAll K H N (List.replicate k vs).flatten (List.replicate k ds).flatten
  | 0 => .nil
  | k + 1 => by
    rw [List.replicate_succ, List.replicate_succ, List.flatten_cons, List.flatten_cons]
    exact h.append (RpAll.rep h k)
theorem RpAll.snoc {ds : List D} {vs : List V} {d : D} {v : V} (h : RpAll K H N vs ds) (r : Rp K H N v d) : RpAll K H N (vs ++ [v]) (ds ++ [d]) := h.append (.cons r .nil)
theorem RpAll.reverse : ∀ {ds : List D} {vs : List V}, RpAll K H N vs ds → RpAll K H N vs.reverse ds.reverse
  | [], _, h => by cases h; exact .nil
  | d :: ds, _, h => by
    cases h with
    | cons h1 h2 =>
      rw [List.reverse_cons, List.reverse_cons]
      exact (RpAll.reverse h2).snoc h1
theorem RpAll.ofInts : ∀ ns : List Int, RpAll K H N (ns.map V.int) (ns.map .int)
  | [] => .nil
  | n :: ns => .cons (.int n) (RpAll.ofInts ns)
theorem RpAll.intsOf : ∀ {ds : List D} {vs : List V} {ns : List Int}, RpAll K H N vs ds → intsD ds = .ok ns → vs = ns.map V.int
  | [], _, _, h, e => by
    cases h
    have e' : R.ok ([] : List Int) = R.ok _ := e
    injection e' with e'
    subst e'
    rfl
  | .int i :: ds, _, ns, h, e => by
    cases h with
    | cons h1 h2 =>
      cases h1
      unfold intsD at e
      cases q : intsD ds with
      | ok r =>
        rw [q] at e
        have e' : R.ok (i :: r) = R.ok ns := e
        injection e' with e'
        subst e'
        rw [RpAll.intsOf h2 q]
        rfl
      | exc c => rw [q] at e; cases e
      | bad => rw [q] at e; cases e
  | .none :: _, _, _, _, e => by cases e
  | .bool _ :: _, _, _, _, e => by cases e
  | .str _ :: _, _, _, _, e => by cases e
  | .list _ :: _, _, _, _, e => by cases e
  | .tuple _ :: _, _, _, _, e => by cases e
  | .dict _ :: _, _, _, _, e => by cases e
theorem RpAll.boolsOf : ∀ {ds : List D} {vs : List V} {ns : List Bool}, RpAll K H N vs ds → boolsD ds = .ok ns → vs = ns.map V.bl
  | [], _, _, h, e => by
    cases h
    have e' : R.ok ([] : List Bool) = R.ok _ := e
    injection e' with e'
    subst e'
    rfl
  | .bool i :: ds, _, ns, h, e => by
    cases h with
    | cons h1 h2 =>
      cases h1
      unfold boolsD at e
      cases q : boolsD ds with
      | ok r =>
        rw [q] at e
        have e' : R.ok (i :: r) = R.ok ns := e
        injection e' with e'
        subst e'
        rw [RpAll.boolsOf h2 q]
        rfl
      | exc c => rw [q] at e; cases e
      | bad => rw [q] at e; cases e
  | .none :: _, _, _, _, e => by cases e
  | .int _ :: _, _, _, _, e => by cases e
  | .str _ :: _, _, _, _, e => by cases e
  | .list _ :: _, _, _, _, e => by cases e
  | .tuple _ :: _, _, _, _, e => by cases e
  | .dict _ :: _, _, _, _, e => by cases e
/-- how it lies, told by the shape of the data -/
theorem Rp.list_inv {v : V} {ds : List D} (h : Rp K H N v (.list ds)) : ∃ a xs, v = .ref a ∧ SqL K H a xs ∧ RpAll K H N xs ds := by
  cases h with
  | lst h1 h2 =>
    rcases h1 with ⟨_, r⟩ | k
    · exact ⟨_, _, rfl, .inl r, h2⟩
    · exact ⟨_, _, rfl, .inr k, h2⟩
theorem Rp.tup_inv {v : V} {ds : List D} (h : Rp K H N v (.tuple ds)) : ∃ a xs, v = .ref a ∧ SqT K H a xs ∧ RpAll K H N xs ds := by
  cases h with
  | tup h1 h2 => exact ⟨_, _, rfl, h1, h2⟩
mutual
theorem Rp.dp : ∀ (d : D) (v : V), Rp K H N v d → Dp K H v d
  | .none, _, h => by cases h; exact .non
  | .bool b, _, h => by cases h; exact .bl b
  | .int i, _, h => by cases h; exact .int i
  | .str x, _, h => by cases h; exact .str x
  | .list ds, _, h => by
    cases h with
    | lst h1 h2 =>
      refine .lst ?_ (RpAll.dp ds _ h2)
      rcases h1 with ⟨n, r⟩ | k
      · exact .inl r
      · exact .inr k
  | .tuple ds, _, h => by
    cases h with
    | tup h1 h2 => exact .tup h1 (RpAll.dp ds _ h2)
  | .dict _, _, h => by cases h
theorem RpAll.dp : ∀ (ds : List D) (vs : List V), RpAll K H N vs ds → DpAll K H vs ds
  | [], _, h => by cases h; exact .nil
  | d :: ds, _, h => by
    cases h with
    | cons h1 h2 => exact .cons (Rp.dp d _ h1) (RpAll.dp ds _ h2)
end
/-- the value at a slot that owns its list, or any other -/
def RpO (K : PySem.W.Frag) (H : Hp) (N : Addr → Prop) (v : V) : D → Prop
  | .list ds => ∃ a xs, v = .ref a ∧ N a ∧ H a = some (.lst xs) ∧ RpAll K H N xs ds
  | d => Rp K H N v d
/-- a value as it may be looked at: it may be a list that is owned -/
def RpL (K : PySem.W.Frag) (H : Hp) (N : Addr → Prop) (v : V) (d : D) : Prop := Rp K H N v d ∨ RpO K H N v d
theorem RpL.of {v : V} {d : D} (h : Rp K H N v d) : RpL K H N v d := .inl h
theorem RpO.same {v : V} {d : D} (s : Same H H') (h : RpO K H N v d) : RpO K H' N v d := by
  cases d with
  | list ds =>
    obtain ⟨a, xs, e, n, h1, h2⟩ := h
    exact ⟨a, xs, e, n, s _ _ h1, h2.same s⟩
  | _ => exact Rp.same s h
theorem RpL.same {v : V} {d : D} (s : Same H H') (h : RpL K H N v d) : RpL K H' N v d := h.elim (fun z => .inl (z.same s)) fun z => .inr (z.same s)
theorem RpL.list_inv {v : V} {ds : List D} (h : RpL K H N v (.list ds)) : ∃ a xs, v = .ref a ∧ SqL K H a xs ∧ RpAll K H N xs ds := by
  rcases h with h | ⟨a, xs, e, n, h1, h2⟩
  · exact h.list_inv
  · exact ⟨a, xs, e, .inl (.inl h1), h2⟩
theorem RpL.to {v : V} {d : D} (h : RpL K H N v d) (hd : ∀ ds, d ≠ .list ds) : Rp K H N v d := by
  rcases h with h | h
  · exact h
  · cases d with
    | list ds => exact absurd rfl (hd ds)
    | _ => exact h
theorem RpL.tup_inv {v : V} {ds : List D} (h : RpL K H N v (.tuple ds)) : ∃ a xs, v = .ref a ∧ SqT K H a xs ∧ RpAll K H N xs ds := (h.to fun _ z => nomatch z).tup_inv
theorem RpL.int_inv {v : V} {i : Int} (h : RpL K H N v (.int i)) : v = .int i := by
  cases h.to fun _ z => nomatch z
  rfl
theorem RpL.str_inv {v : V} {i : Str} (h : RpL K H N v (.str i)) : v = .str i := by
  cases h.to fun _ z => nomatch z
  rfl
theorem RpL.bl_inv {v : V} {i : Bool} (h : RpL K H N v (.bool i)) : v = .bl i := by
  cases h.to fun _ z => nomatch z
  rfl
theorem RpL.non_inv {v : V} (h : RpL K H N v .none) : v = .non := by
  cases h.to fun _ z => nomatch z
  rfl
/-- equality asks no more than this -/
theorem RpL.dp {v : V} {d : D} (h : RpL K H N v d) : Dp K H v d := by
  rcases h with h | h
  · exact Rp.dp d v h
  · cases d with
    | list ds =>
      obtain ⟨a, xs, e, n, h1, h2⟩ := h
      subst e
      exact .lst (.inl (.inl h1)) (RpAll.dp ds _ h2)
    | _ => exact Rp.dp _ v h
/-- a new list, laid at a since H -/
def Fresh (K : PySem.W.Frag) (H H' : Hp) (N : Addr → Prop) (v : V) (d : D) : Prop := ∀ ds, d = .list ds → ∃ a xs, v = .ref a ∧ H a = none ∧ H' a = some (.lst xs) ∧ RpAll K H' (fun b => N b ∨ b = a) xs ds
/-- how much is known of a value -/
inductive Gr where | loose | strict | fresh
  deriving DecidableEq
def RpG (g : Gr) (K : PySem.W.Frag) (H H' : Hp) (N : Addr → Prop) (v : V) (d : D) : Prop := match g with
  | .loose => RpL K H' N v d
  | .strict => Rp K H' N v d
  | .fresh => Rp K H' N v d ∧ Fresh K H H' N v d
theorem RpG.l {g : Gr} {v : V} {d : D} (h : RpG g K H H' N v d) : RpL K H' N v d := match g, h with
  | .loose, h => h
  | .strict, h => .inl h
  | .fresh, h => .inl h.1
theorem RpG.s {g : Gr} {v : V} {d : D} (hg : g ≠ .loose) (h : RpG g K H H' N v d) : Rp K H' N v d := match g, h with
  | .loose, _ => absurd rfl hg
  | .strict, h => h
  | .fresh, h => h.1
/-- data that is no list is new enough -/
theorem RpG.any {g : Gr} {v : V} {d : D} (h : Rp K H' N v d) (hd : ∀ ds, d ≠ .list ds) : RpG g K H H' N v d := match g with
  | .loose => .inl h
  | .strict => h
  | .fresh => ⟨h, fun ds e => absurd e (hd ds)⟩
/-- a list that was laid just now -/
theorem RpG.new {g : Gr} {a : Addr} {xs : List V} {ds : List D} (ne : ∀ b, N b → H b ≠ none) (hn : H a = none) (h : RpAll K H N xs ds) : RpG g K H (upd H a (.lst xs)) N (.ref a) (.list ds) := by
  have s : Same H (upd H a (.lst xs)) := fun b o e => by
    rw [upd_ne (ne_of_none e hn)]
    exact e
  have q : Rp K (upd H a (.lst xs)) N (.ref a) (.list ds) := .lst (.inl ⟨fun z => ne a z hn, .inl upd_same⟩) (h.same s)
  cases g with
  | loose => exact .inl q
  | strict => exact q
  | fresh => exact ⟨q, fun ds' e => ⟨a, xs, rfl, hn, upd_same, by
    have e' : ds = ds' := by injection e
    rw [← e']
    exact RpAll.ext ⟨fun b z => z.imp_right fun e => by rw [e]; exact hn, toN s⟩ _ _ h⟩⟩
theorem same_upd {a : Addr} {o : HO} (hn : H a = none) : Same H (upd H a o) := fun b u e => by
  rw [upd_ne (ne_of_none e hn)]
  exact e
theorem RpG.newT {g : Gr} {a : Addr} {xs : List V} {ds : List D} (hn : H a = none) (h : RpAll K H N xs ds) : RpG g K H (upd H a (.tup xs)) N (.ref a) (.tuple ds) :=
  RpG.any (.tup (.inl (.inl upd_same)) (h.same (same_upd hn))) fun _ z => nomatch z
/-- a value known since an older heap -/
theorem RpG.back {g : Gr} {H0 : Hp} {v : V} {d : D} (s : Same H0 H) (h : RpG g K H H' N v d) : RpG g K H0 H' N v d := match g, h with
  | .loose, h => h
  | .strict, h => h
  | .fresh, h => ⟨h.1, fun ds e => let ⟨a, xs, e1, e2, e3, e4⟩ := h.2 ds e; ⟨a, xs, e1, s.free e2, e3, e4⟩⟩
end

/-! ### the frame's slots -/
/-- slots that own their lists; slots of caught exceptions -/
structure Os where
  l : List Nat
  e : List Nat
/-- .. and which exception is held -/
structure Ow where
  o : Os
  x : Option (Addr × Str)
instance : Membership Nat Os := ⟨fun M i => i ∈ M.l⟩
instance : Membership Nat Ow := ⟨fun M i => i ∈ M.o.l⟩
instance (i : Nat) (M : Os) : Decidable (i ∈ M) := inferInstanceAs (Decidable (i ∈ M.l))
instance (i : Nat) (M : Ow) : Decidable (i ∈ M) := inferInstanceAs (Decidable (i ∈ M.o.l))
instance : Coe Ow Os := ⟨Ow.o⟩
structure RelE (K : PySem.W.Frag) (M : Ow) (N : Addr → Prop) (ρ : Env) (σ : L2.St) (H : Hp) : Prop where
  ne : ∀ b, N b → H b ≠ none
  len : ρ.length = σ.length
  sl : ∀ i d, ρ[i]? = some (some d) → isX d = false → ∃ v, σ[i]? = some (some v) ∧ (i ∈ M → RpO K H N v d) ∧ (i ∉ M → Rp K H N v d)
  sx : ∀ i d, ρ[i]? = some (some d) → isX d = true → i ∈ M.o.e ∧ ∃ a c, M.x = some (a, c) ∧ d = excD c ∧ σ[i]? = some (some (.ref a))
theorem RelE.same {K : PySem.W.Frag} {M : Ow} {N : Addr → Prop} {ρ : Env} {σ : L2.St} {H H' : Hp} (r : RelE K M N ρ σ H) (s : Same H H') : RelE K M N ρ σ H' :=
  ⟨fun b h z => r.ne b h (s.free z), r.len, fun i d e z => let ⟨v, e1, h1, h2⟩ := r.sl i d e z; ⟨v, e1, fun q => (h1 q).same s, fun q => (h2 q).same s⟩, r.sx⟩
theorem RelE.noX {K : PySem.W.Frag} {M : Ow} {N : Addr → Prop} {ρ : Env} {σ : L2.St} {H : Hp} {i : Nat} {d : D} (r : RelE K M N ρ σ H) (hx : i ∉ M.o.e) (h : ρ[i]? = some (some d)) : isX d = false := by
  cases q : isX d with
  | false => rfl
  | true => exact absurd (r.sx i d h q).1 hx
/-- what bears data is no exception -/
theorem Rp.noX {K : PySem.W.Frag} {H : Hp} {N : Addr → Prop} {v : V} {d : D} (h : Rp K H N v d) : isX d = false := by
  cases h <;> rfl
end Mn
/-! Mn, part B2: data all of whose lists are new. -/
namespace Mn
open PySem PySem.Spec PyProof.Rows L2
mutual
/-- no list within -/
def lf : D → Bool
  | .none | .bool _ | .int _ | .str _ => true
  | .tuple ds => lfAll ds
  | .list _ | .dict _ => false
def lfAll : List D → Bool
  | [] => true
  | d :: ds => lf d && lfAll ds
end
/-- no list, or a list without lists -/
def nwB : D → Bool
  | .list ds => lfAll ds
  | d => lf d
section
variable (K : PySem.W.Frag) (H' : Hp)
mutual
/-- v bears d at H', and its lists were laid since H -/
inductive Rn : Hp → V → D → Prop
  | non {H : Hp} : Rn H .non .none
  | bl {H : Hp} (b : Bool) : Rn H (.bl b) (.bool b)
  | int {H : Hp} (i : Int) : Rn H (.int i) (.int i)
  | str {H : Hp} (x : Str) : Rn H (.str x) (.str x)
  | lst {H : Hp} {a : Addr} {xs : List V} {ds : List D} : H a = none → H' a = some (.lst xs) → RnAll (upd H a (.lst [])) xs ds → Rn H (.ref a) (.list ds)
  | tup {H : Hp} {a : Addr} {xs : List V} {ds : List D} : SqT K H' a xs → RnAll H xs ds → Rn H (.ref a) (.tuple ds)
inductive RnAll : Hp → List V → List D → Prop
  | nil {H : Hp} : RnAll H [] []
  | cons {H : Hp} {v : V} {vs : List V} {d : D} {ds : List D} : Rn H v d → RnAll H vs ds → RnAll H (v :: vs) (d :: ds)
end
end
section
variable {K : PySem.W.Frag} {H0 H H' H'' : Hp}
theorem upd_mono {a : Addr} {o : HO} (s : ∀ b, H b = none → H0 b = none) : ∀ b, upd H a o b = none → upd H0 a o b = none := fun b h => by
  by_cases e : b = a
  · subst e
    rw [upd_same] at h
    cases h
  · rw [upd_ne e] at h ⊢
    exact s b h
theorem upd_nn {N : Addr → Prop} {a : Addr} {o : HO} (ne : ∀ b, N b → H b ≠ none) : ∀ b, N b ∨ b = a → upd H a o b ≠ none := fun b z => by
  by_cases e : b = a
  · rw [e, upd_same]
    exact fun z => nomatch z
  · rw [upd_ne e]
    exact ne b (z.resolve_right e)
mutual
theorem Rn.back : ∀ (d : D) (v : V) {H0 H : Hp}, (∀ b, H b = none → H0 b = none) → Rn K H' H v d → Rn K H' H0 v d
  | .none, _, _, _, _, h => by cases h; exact .non
  | .bool b, _, _, _, _, h => by cases h; exact .bl b
  | .int i, _, _, _, _, h => by cases h; exact .int i
  | .str x, _, _, _, _, h => by cases h; exact .str x
  | .list ds, _, _, _, s, h => by
    cases h with
    | lst h1 h2 h3 => exact .lst (s _ h1) h2 (RnAll.back ds _ (upd_mono s) h3)
  | .tuple ds, _, _, _, s, h => by
    cases h with
    | tup h1 h2 => exact .tup h1 (RnAll.back ds _ s h2)
  | .dict _, _, _, _, _, h => by cases h
theorem RnAll.back : ∀ (ds : List D) (vs : List V) {H0 H : Hp}, (∀ b, H b = none → H0 b = none) → RnAll K H' H vs ds → RnAll K H' H0 vs ds
  | [], _, _, _, _, h => by cases h; exact .nil
  | d :: ds, _, _, _, s, h => by
    cases h with
    | cons h1 h2 => exact .cons (Rn.back d _ s h1) (RnAll.back ds _ s h2)
end
theorem sqt_same {a : Addr} {xs : List V} (s : Same H' H'') (h : SqT K H' a xs) : SqT K H'' a xs := by
  rcases h with (h | ⟨o, h⟩) | h
  · exact .inl (.inl (s _ _ h))
  · exact .inl (.inr ⟨o, s _ _ h⟩)
  · exact .inr h
mutual
theorem Rn.same (s : Same H' H'') : ∀ (d : D) (v : V) {H : Hp}, Rn K H' H v d → Rn K H'' H v d
  | .none, _, _, h => by cases h; exact .non
  | .bool b, _, _, h => by cases h; exact .bl b
  | .int i, _, _, h => by cases h; exact .int i
  | .str x, _, _, h => by cases h; exact .str x
  | .list ds, _, _, h => by
    cases h with
    | lst h1 h2 h3 => exact .lst h1 (s _ _ h2) (RnAll.same s ds _ h3)
  | .tuple ds, _, _, h => by
    cases h with
    | tup h1 h2 => exact .tup (sqt_same s h1) (RnAll.same s ds _ h2)
  | .dict _, _, _, h => by cases h
theorem RnAll.same (s : Same H' H'') : ∀ (ds : List D) (vs : List V) {H : Hp}, RnAll K H' H vs ds → RnAll K H'' H vs ds
  | [], _, _, h => by cases h; exact .nil
  | d :: ds, _, _, h => by
    cases h with
    | cons h1 h2 => exact .cons (Rn.same s d _ h1) (RnAll.same s ds _ h2)
end
mutual
/-- as plain data -/
theorem Rn.rp {N : Addr → Prop} : ∀ (d : D) (v : V) {H : Hp}, (∀ b, N b → H b ≠ none) → Rn K H' H v d → Rp K H' N v d
  | .none, _, _, _, h => by cases h; exact .non
  | .bool b, _, _, _, h => by cases h; exact .bl b
  | .int i, _, _, _, h => by cases h; exact .int i
  | .str x, _, _, _, h => by cases h; exact .str x
  | .list ds, _, _, ne, h => by
    cases h with
    | lst h1 h2 h3 => exact .lst (.inl ⟨fun z => ne _ z h1, .inl h2⟩) (RnAll.rp ds _ (fun b z => upd_nn ne b (.inl z)) h3)
  | .tuple ds, _, _, ne, h => by
    cases h with
    | tup h1 h2 => exact .tup h1 (RnAll.rp ds _ ne h2)
  | .dict _, _, _, _, h => by cases h
theorem RnAll.rp {N : Addr → Prop} : ∀ (ds : List D) (vs : List V) {H : Hp}, (∀ b, N b → H b ≠ none) → RnAll K H' H vs ds → RpAll K H' N vs ds
  | [], _, _, _, h => by cases h; exact .nil
  | d :: ds, _, _, ne, h => by
    cases h with
    | cons h1 h2 => exact .cons (Rn.rp d _ ne h1) (RnAll.rp ds _ ne h2)
end
mutual
theorem Rn.of_lf {N : Addr → Prop} : ∀ (d : D) (v : V) {H : Hp}, lf d = true → Rp K H' N v d → Rn K H' H v d
  | .none, _, _, _, h => by cases h; exact .non
  | .bool b, _, _, _, h => by cases h; exact .bl b
  | .int i, _, _, _, h => by cases h; exact .int i
  | .str x, _, _, _, h => by cases h; exact .str x
  | .list ds, _, _, f, h => absurd f Bool.false_ne_true
  | .tuple ds, _, _, f, h => by
    cases h with
    | tup h1 h2 => exact .tup h1 (RnAll.of_lf ds _ f h2)
  | .dict _, _, _, _, h => by cases h
theorem RnAll.of_lf {N : Addr → Prop} : ∀ (ds : List D) (vs : List V) {H : Hp}, lfAll ds = true → RpAll K H' N vs ds → RnAll K H' H vs ds
  | [], _, _, _, h => by cases h; exact .nil
  | d :: ds, _, _, f, h => by
    have f : (lf d && lfAll ds) = true := f
    rw [Bool.and_eq_true] at f
    cases h with
    | cons h1 h2 => exact .cons (Rn.of_lf d _ f.1 h1) (RnAll.of_lf ds _ f.2 h2)
end
/-- a new list without lists -/
theorem Rn.of_fresh {N : Addr → Prop} {d : D} {v : V} (h : RpG .fresh K H H' N v d) (hb : nwB d = true) : Rn K H' H v d := by
  cases d with
  | list ds =>
    obtain ⟨a, xs, rfl, h1, h2, h3⟩ := h.2 ds rfl
    exact .lst h1 h2 (RnAll.of_lf ds _ hb h3)
  | dict z => exact absurd hb Bool.false_ne_true
  | _ => exact Rn.of_lf _ _ hb h.1
/-- .. as a value of a term -/
theorem Rn.fresh {N : Addr → Prop} {d : D} {v : V} (ne : ∀ b, N b → H b ≠ none) (h : Rn K H' H v d) : RpG .fresh K H H' N v d := by
  refine ⟨Rn.rp d v ne h, fun ds e => ?_⟩
  subst e
  cases h with
  | lst h1 h2 h3 =>
    exact ⟨_, _, rfl, h1, h2, RnAll.rp ds _ (upd_nn ne) h3⟩
theorem RnAll.length : ∀ {ds : List D} {vs : List V} {H : Hp}, RnAll K H' H vs ds → vs.length = ds.length
  | [], _, _, h => by cases h; rfl
  | d :: ds, _, _, h => by
    cases h with
    | cons h1 h2 => rw [List.length_cons, List.length_cons, RnAll.length h2]
theorem RnAll.snoc : ∀ {ds : List D} {vs : List V} {H : Hp} {v : V} {d : D}, RnAll K H' H vs ds → Rn K H' H v d → RnAll K H' H (vs ++ [v]) (ds ++ [d])
  | [], _, _, _, _, h, h2 => by cases h; exact .cons h2 .nil
  | e :: ds, _, _, _, _, h, h2 => by
    cases h with
    | cons h1 h3 => exact .cons h1 (RnAll.snoc h3 h2)
/-- what is laid anew at an address that is no list's of theirs -/
theorem same_none {b : Addr} (s : Same H0 H) (h : H b = none) : H0 b = none := s.free h
end
end Mn
/-! Mn, part C: the operators and built-in functions keep their meaning. -/
namespace Mn
open PySem PySem.Spec PyProof.Rows L2

/-- an end by its data: what comes is fresh -/
def FinD (K : PySem.W.Frag) (H : Hp) (N : Addr → Prop) (r : R D) (Q : VK) : Prop := ∃ z, r = .ok z ∧ ∀ v H', Same H H' → RpG .fresh K H H' N v z → Q v H'
section
variable {K : PySem.W.Frag} {H : Hp} {N : Addr → Prop} {d e z : D}
theorem inv_int {P : Prop} (h : ∀ i j : Int, d = .int i → e = .int j → P) (f : Int → Int → R D) (q : (match d, e with | .int a, .int b => f a b | _, _ => .bad) = .ok z) : P := by
  cases d <;> cases e <;> first | exact h _ _ rfl rfl | cases q
end
/-- a binary operator by data -/
def rD (K : PySem.W.Frag) (f : D → D → R D) : R2 := fun x y H Q => ∃ N d e, (∀ b, N b → H b ≠ none) ∧ RpL K H N x d ∧ RpL K H N y e ∧ FinD K H N (f d e) Q
section
variable {X : Cx}
theorem op_cat_list : OpR X (binaryOp .Add) (fun x y H Q => ∃ l b xs zs, x = .ref l ∧ y = .ref b ∧ SqL X.K H l xs ∧ SqL X.K H b zs ∧ xs.length + zs.length ≤ sizeLine ∧ ∀ p, H p = none → Q (.ref p) (upd H p (.lst (xs ++ zs)))) := by
  intro pins s σ H x y v u Q I rx ry h
  obtain ⟨l, b, xs, zs, rfl, rfl, hl, hb, hz, q⟩ := h
  cases rx
  cases ry
  obtain ⟨is1, r1, p1, _⟩ := I.list hl
  obtain ⟨is2, r2, p2, _⟩ := I.list hb
  have l1 := r1.length
  have l2 := r2.length
  obtain ⟨⟨c1, d1, e1, s1⟩, ho1, hc1, n1, hd1⟩ := p1.isList
  obtain ⟨⟨c2, d2, e2, s2⟩, ho2, hc2, n2, hd2⟩ := p2.isList
  dsimp only at hc1 hd1 hc2 hd2
  subst hc1 hd1 hc2 hd2
  have ec : is1.toArray ++ is2.toArray = (is1 ++ is2).toArray := by simp
  refine concat_meets ⟨_, ho1, rfl⟩ ⟨_, ho2, rfl⟩ noFill_list_add seq_list_add PySem.F.slot_list_add PySem.F.entry_list_add (PySem.F.args_list_add_2 _ _)
    (list_addW l b is1.toArray is2.toArray n1 n2 d1 d2 s1 s2 (by simp only [List.size_toArray]; omega)) ⟨ho1, ho2, ?_⟩
  rw [ec]
  exact ⟨.ref _, _, I.lnew (t' := s.toks) (r1.append r2) (by rw [List.length_append]; omega), rfl, q _ I.fresh⟩
theorem op_powW : OpR X (binaryOp .Pow) (rI (fun i j => 0 ≤ j ∧ (Builtin.Int.intBits i : Int) * j ≤ 2 ^ 27) fun i j => .int (i ^ j.toNat)) := opI fun _ _ _ _ _ _ _ hc q => pow_int hc.1 hc.2 q
theorem op_fdivA : OpR X (binaryOp .FloorDiv) (rI (fun _ j => j ≠ 0 ∧ j.natAbs.log2 < 9000) fun i j => .int (i.fdiv j)) := opI fun _ _ _ _ _ _ _ hc q =>
  floordiv_int hc.1 q (.inl (PyProof.noPylong_of_log2 hc.2))
theorem mulOk_ok {a b : Int} (h : mulOk a b = true) : IntMulOk a b := by
  unfold mulOk at h
  rw [Bool.or_eq_true, Bool.or_eq_true] at h
  rcases h with (h | h) | h
  · have h := of_decide_eq_true h
    exact .of_left (intBits_le_64 (by omega) (by omega))
  · have h := of_decide_eq_true h
    exact .of_right (intBits_le_64 (by omega) (by omega))
  · exact CMulW.ok (show CMulW a b from of_decide_eq_true (p := a.natAbs.log2 + b.natAbs.log2 < 1000000) h)
theorem op_mulA : OpR X (binaryOp .Mult) (rI (fun i j => mulOk i j = true) fun i j => .int (i * j)) := opI fun _ _ _ _ _ _ _ hc q => mul_int q (mulOk_ok hc)
theorem mulS_ok {a : Str} {k : Int} (h : a.length ≤ 1000 ∧ -1000 ≤ k ∧ k ≤ 1000) : MulOk a k := by
  obtain ⟨h1, h2, h3⟩ := h
  refine ⟨?_, fun h4 _ z => ?_, fun h4 _ => ?_⟩
  · rw [decide_eq_false (by omega), decide_eq_false (by omega)]
    rfl
  · have h5 : (2 ^ 63 - 1) / 1000 ≤ ((2 ^ 63 - 1 : Int)) / k := by
      rw [Int.le_ediv_iff_mul_le (by omega)]
      omega
    omega
  · have h5 : a.length * k.toNat ≤ 1000 * 1000 := Nat.mul_le_mul h1 (by omega)
    exact decide_eq_false (by show ¬ 2 ^ 24 < _; omega)
theorem op_mulS : OpR X (binaryOp .Mult) (fun x y H Q => ∃ a k, x = .str a ∧ y = .int k ∧ (a.length ≤ 1000 ∧ -1000 ≤ k ∧ k ≤ 1000) ∧ Q (.str (Txt.mul a k)) H) := by
  intro pins s σ H x y v u Q I rx ry h
  obtain ⟨a, k, rfl, rfl, hz, q⟩ := h
  obtain ⟨t, rfl⟩ := rx
  obtain ⟨t2, rfl⟩ := ry
  exact SB.mul (mulS_ok hz) fun t' k' => ⟨.str (Txt.mul a k), H, I.tok k', ⟨t', rfl⟩, q⟩
def opOf : BOp → Operator
  | .add => .Add
  | .sub => .Sub
  | .mul => .Mult
  | .rep => .Mult
  | .fdiv => .FloorDiv
  | .mod => .Mod
  | .pow => .Pow
  | .shl => .LShift
  | .shr => .RShift
  | .band => .BitAnd
  | .bor => .BitOr
  | .bxor => .BitXor
theorem OpR.imp {f : Value → Value → Sem Value} {r r' : R2} (h : OpR X f r) (k : ∀ x y H Q, r' x y H Q → r x y H Q) : OpR X f r' := fun pins s σ H x y v u Q I rx ry q => h pins s σ H x y v u Q I rx ry (k _ _ _ _ q)
/-- two ints -/
theorem rI_of {K : PySem.W.Frag} {f : D → D → R D} {C : Int → Int → Prop} {g : Int → Int → Int} (hf : ∀ d e z, f d e = .ok z → ∃ i j, d = .int i ∧ e = .int j ∧ C i j ∧ z = .int (g i j)) :
    ∀ x y H Q, rD K f x y H Q → rI C (fun i j => .int (g i j)) x y H Q := by
  rintro x y H Q ⟨N, d, e, ne, hx, hy, z, hz, q⟩
  obtain ⟨i, j, rfl, rfl, c, rfl⟩ := hf _ _ _ hz
  exact ⟨i, j, hx.int_inv, hy.int_inv, c, q _ _ (Same.refl _) (RpG.any (.int _) fun _ w => nomatch w)⟩
theorem rI0_of {K : PySem.W.Frag} {f : D → D → R D} {g : Int → Int → Int} (hf : ∀ d e z, f d e = .ok z → ∃ i j, d = .int i ∧ e = .int j ∧ z = .int (g i j)) :
    ∀ x y H Q, rD K f x y H Q → rI0 (fun i j => .int (g i j)) x y H Q := by
  rintro x y H Q ⟨N, d, e, ne, hx, hy, z, hz, q⟩
  obtain ⟨i, j, rfl, rfl, rfl⟩ := hf _ _ _ hz
  exact ⟨i, j, hx.int_inv, hy.int_inv, q _ _ (Same.refl _) (RpG.any (.int _) fun _ w => nomatch w)⟩
theorem bop_ok (o : BOp) (ho : o ≠ .rep) : OpR X (binaryOp (opOf o)) (rD X.K (bop o)) := by
  cases o with
  | rep => exact absurd rfl ho
  | sub => exact OpR.imp op_sub (rI0_of fun d e z h => by cases d <;> cases e <;> first | exact ⟨_, _, rfl, rfl, (R.ok_inj h).symm⟩ | cases h)
  | band => exact OpR.imp op_and (rI0_of fun d e z h => by cases d <;> cases e <;> first | exact ⟨_, _, rfl, rfl, (R.ok_inj h).symm⟩ | cases h)
  | bor => exact OpR.imp op_or (rI0_of fun d e z h => by cases d <;> cases e <;> first | exact ⟨_, _, rfl, rfl, (R.ok_inj h).symm⟩ | cases h)
  | bxor => exact OpR.imp op_xor (rI0_of fun d e z h => by cases d <;> cases e <;> first | exact ⟨_, _, rfl, rfl, (R.ok_inj h).symm⟩ | cases h)
  | mul =>
    refine OpR.imp (OpR.or op_mulA op_mulS) ?_
    rintro x y H Q ⟨N, d, e, ne, hx, hy, z, hz, q⟩
    cases d <;> cases e <;> first | cases hz; done | skip
    · rename_i i j
      have h' : (if mulOk i j = true then R.ok (PyData.int (i * j)) else .bad) = .ok z := hz
      split at h'
      · refine .inl ⟨_, _, hx.int_inv, hy.int_inv, by assumption, q _ _ (Same.refl _) ?_⟩
        rw [← R.ok_inj h']
        exact RpG.any (.int _) fun _ w => nomatch w
      · cases h'
    · rename_i a j
      have h' : (if a.length ≤ 1000 ∧ -1000 ≤ j ∧ j ≤ 1000 then R.ok (PyData.str (Txt.mul a j)) else .bad) = .ok z := hz
      split at h'
      · refine .inr ⟨_, _, hx.str_inv, hy.int_inv, by assumption, q _ _ (Same.refl _) ?_⟩
        rw [← R.ok_inj h']
        exact RpG.any (.str _) fun _ w => nomatch w
      · cases h'
  | fdiv =>
    refine OpR.imp op_fdivA (rI_of fun d e z h => ?_)
    cases d <;> cases e <;> first | cases h; done | skip
    rename_i i j
    have h' : (if j ≠ 0 ∧ j.natAbs.log2 < 9000 then R.ok (PyData.int (i.fdiv j)) else .bad) = .ok z := h
    split at h'
    · exact ⟨_, _, rfl, rfl, by assumption, (R.ok_inj h').symm⟩
    · cases h'
  | mod =>
    refine OpR.imp op_modN (rI_of fun d e z h => ?_)
    cases d <;> cases e <;> first | cases h; done | skip
    rename_i i j
    have h' : (if j ≠ 0 then R.ok (PyData.int (i.fmod j)) else .bad) = .ok z := h
    split at h'
    · exact ⟨_, _, rfl, rfl, by assumption, (R.ok_inj h').symm⟩
    · cases h'
  | pow =>
    refine OpR.imp op_powW (rI_of fun d e z h => ?_)
    cases d <;> cases e <;> first | cases h; done | skip
    rename_i i j
    have h' : (if 0 ≤ j ∧ Builtin.Int.intBits i * j.toNat ≤ 134217728 then R.ok (PyData.int (i ^ j.toNat)) else .bad) = .ok z := h
    split at h'
    · rename_i hc
      refine ⟨_, _, rfl, rfl, ⟨hc.1, ?_⟩, (R.ok_inj h').symm⟩
      have h2 : ((Builtin.Int.intBits i * j.toNat : Nat) : Int) ≤ 134217728 := Int.ofNat_le.mpr hc.2
      rw [Int.natCast_mul, Int.toNat_of_nonneg hc.1] at h2
      exact h2
    · cases h'
  | shl =>
    refine OpR.imp op_shlW (rI_of (C := CShl) fun d e z h => ?_)
    cases d <;> cases e <;> first | cases h; done | skip
    rename_i i j
    have h' : (if 0 ≤ j ∧ Builtin.Int.intBits i + j.toNat ≤ 134217728 then R.ok (PyData.int (i * 2 ^ j.toNat)) else .bad) = .ok z := h
    split at h'
    · rename_i hc
      refine ⟨_, _, rfl, rfl, ⟨hc.1, ?_⟩, (R.ok_inj h').symm⟩
      have h2 : ((Builtin.Int.intBits i + j.toNat : Nat) : Int) ≤ 134217728 := Int.ofNat_le.mpr hc.2
      rw [Int.natCast_add, Int.toNat_of_nonneg hc.1] at h2
      exact h2
    · cases h'
  | shr =>
    refine OpR.imp op_shr (rI_of fun d e z h => ?_)
    cases d <;> cases e <;> first | cases h; done | skip
    rename_i i j
    have h' : (if 0 ≤ j then R.ok (PyData.int (i / 2 ^ j.toNat)) else .bad) = .ok z := h
    split at h'
    · exact ⟨_, _, rfl, rfl, by assumption, (R.ok_inj h').symm⟩
    · cases h'
  | add =>
    refine OpR.imp (OpR.or op_add (OpR.or op_add_str op_cat_list)) ?_
    rintro x y H Q ⟨N, d, e, ne, hx, hy, z, hz, q⟩
    cases d <;> cases e <;> first | cases hz; done | skip
    · refine .inl ⟨_, _, hx.int_inv, hy.int_inv, q _ _ (Same.refl _) ?_⟩
      rw [← R.ok_inj hz]
      exact RpG.any (.int _) fun _ w => nomatch w
    · rename_i i j
      have h' : (if i.length + j.length ≤ sizeLine then R.ok (PyData.str (i ++ j)) else .bad) = .ok z := hz
      split at h'
      · refine .inr (.inl ⟨_, _, hx.str_inv, hy.str_inv, by assumption, q _ _ (Same.refl _) ?_⟩)
        rw [← R.ok_inj h']
        exact RpG.any (.str _) fun _ w => nomatch w
      · cases h'
    · rename_i i j
      have h' : (if i.length + j.length ≤ sizeLine then R.ok (PyData.list (i ++ j)) else .bad) = .ok z := hz
      split at h'
      · obtain ⟨a, xs, e1, s1, r1⟩ := hx.list_inv
        obtain ⟨b, ys, e2, s2, r2⟩ := hy.list_inv
        refine .inr (.inr ⟨a, b, xs, ys, e1, e2, s1, s2, by rw [r1.length, r2.length]; assumption, fun p hp => q _ _ (same_upd hp) ?_⟩)
        rw [← R.ok_inj h']
        exact RpG.new ne hp (r1.append r2)
      · cases h'
/-- list * int: the list stands unlocked -/
def Trk (K : PySem.W.Frag) (H : Hp) (N : Addr → Prop) (x : V) (d : D) : Prop := ∀ ds, d = .list ds → ∃ a xs, x = .ref a ∧ H a = some (.lst xs) ∧ RpAll K H N xs ds
theorem rep_ok : OpR X (binaryOp .Mult) (fun x y H Q => ∃ N d e, (∀ b, N b → H b ≠ none) ∧ Trk X.K H N x d ∧ RpL X.K H N y e ∧ FinD X.K H N (bop .rep d e) Q) := by
  refine OpR.imp op_rep ?_
  rintro x y H Q ⟨N, d, e, ne, hx, hy, z, hz, q⟩
  cases d <;> cases e <;> first | cases hz; done | skip
  rename_i l k
  have h' : (if l.length * k.toNat ≤ sizeLine ∧ k.natAbs < 2 ^ 62 then R.ok (PyData.list (List.replicate k.toNat l).flatten) else .bad) = .ok z := hz
  split at h'
  · rename_i hc
    obtain ⟨a, xs, rfl, ha, r1⟩ := hx l rfl
    refine ⟨a, k, xs, rfl, hy.int_inv, ha, by have := hc.2; omega, by have := hc.2; omega, by rw [r1.length]; exact hc.1, fun p hp => q _ _ (same_upd hp) ?_⟩
    rw [← R.ok_inj h']
    exact RpG.new ne hp (r1.rep _)
  · cases h'
end
end Mn
/-! Mn, part C2: comparisons. -/
namespace Mn
open PySem PySem.Spec PyProof.Rows L2
theorem intsB_inv : ∀ {l : List D} {a : List Int}, intsD l = .ok a → l = a.map .int
  | [], a, h => by
    have h := R.ok_inj h
    rw [← h]
    rfl
  | d :: l, a, h => by
    cases d with
    | int i =>
      have h : (intsD l >>= fun r => R.ok (i :: r)) = .ok a := h
      cases e : intsD l with
      | ok r =>
        rw [e] at h
        have h := R.ok_inj h
        rw [← h, intsB_inv e]
        rfl
      | exc c => rw [e] at h; cases h
      | bad => rw [e] at h; cases h
    | _ => cases h
theorem alikeB_ints : ∀ a b : List Int, PySem.W.alikeAll (a.map PyData.int) (b.map PyData.int) = true
  | [], _ => by simp [PySem.W.alikeAll]
  | _ :: _, [] => by simp [PySem.W.alikeAll]
  | x :: a, y :: b => by
    have := alikeB_ints a b
    rw [List.map_cons, List.map_cons, PySem.W.alikeAll, this, Bool.and_true]
    rfl
theorem depthB_ints : ∀ a : List Int, PyData.depthAll (a.map PyData.int) = 0
  | [] => rfl
  | x :: a => by
    have h := depthB_ints a
    show max (PyData.depth (.int x)) (PyData.depthAll (a.map PyData.int)) = 0
    rw [h]
    rfl
theorem lt_ints : ∀ a b : List Int, PySem.W.dataLt (.list (a.map PyData.int)) (.list (b.map PyData.int)) = lexB a b
  | [], [] => rfl
  | [], _ :: _ => rfl
  | _ :: _, [] => rfl
  | x :: a, y :: b => by
    have ih := lt_ints a b
    rw [PySem.W.dataLt_list] at ih ⊢
    rw [List.map_cons, List.map_cons]
    by_cases h : x = y
    · rw [PySem.W.dataLt_all_yes rfl (by subst h; simp [PyData.eqv]), ih, lexB, if_pos h]
    · rw [PySem.W.dataLt_all_no rfl (by simp [PyData.eqv, h]), PySem.W.dataLt_int, lexB, if_neg h]
section
variable {X : Cx}
def rLtD (K : PySem.W.Frag) : R2 := fun x y H Q => ∃ a b : List Int, Dp K H x (.list (a.map .int)) ∧ Dp K H y (.list (b.map .int)) ∧ Q (.bl (lexB a b)) H
theorem op_ltD (hu : X.A.units + 64 < cLine) : OpR X (compareOp .Lt) (rLtD X.K) := by
  intro pins s σ H x y v u Q I rx ry h
  obtain ⟨a, b, hd, he, q⟩ := h
  obtain ⟨as, r1⟩ := Dp.reads I _ x v hd rx
  obtain ⟨bs, r2⟩ := Dp.reads I _ y u he ry
  refine PySem.W.lt_data r1 r2 (by rw [PySem.W.alike]; exact alikeB_ints a b) (fun z => nomatch z) ?_ ⟨.bl _, H, I, rfl, ?_⟩
  · have h1 : PyData.depth (.list (a.map PyData.int)) = 1 := by
      show PyData.depthAll (a.map PyData.int) + 1 = 1
      rw [depthB_ints]
    have : min (PyData.depth (.list (a.map PyData.int))) (PyData.depth (.list (b.map PyData.int))) ≤ PyData.depth (.list (a.map PyData.int)) := Nat.min_le_left _ _
    omega
  · rw [lt_ints]
    exact q
end
def cmpOf : COp → CmpOp
  | .eq => .Eq
  | .ne => .NotEq
  | .lt => .Lt
  | .le => .LtE
  | .gt => .Gt
  | .ge => .GtE
  | .mem => .In
  | .nmem => .NotIn
  | .isN => .Is
  | .notN => .IsNot
section
variable {X : Cx}
theorem rB0_of {K : PySem.W.Frag} {f : D → D → R D} {g : Int → Int → Bool} (hf : ∀ d e z, f d e = .ok z → ∃ i j, d = .int i ∧ e = .int j ∧ z = .bool (g i j)) :
    ∀ x y H Q, rD K f x y H Q → rI0 (fun i j => .bl (g i j)) x y H Q := by
  rintro x y H Q ⟨N, d, e, ne, hx, hy, z, hz, q⟩
  obtain ⟨i, j, rfl, rfl, rfl⟩ := hf _ _ _ hz
  exact ⟨i, j, hx.int_inv, hy.int_inv, q _ _ (Same.refl _) (RpG.any (.bl _) fun _ w => nomatch w)⟩
theorem scal_of {K : PySem.W.Frag} {H : Hp} {N : Addr → Prop} {x y : V} {d e : D} (hx : RpL K H N x d) (hy : RpL K H N y e) (h : scalD d e = true) : scal x y = true ∧ decide (x = y) = PyData.eqv d e := by
  cases d <;> cases e <;> first
    | (exact absurd (show false = true from h) Bool.false_ne_true)
    | (cases hx.to fun _ z => nomatch z; cases hy.to fun _ z => nomatch z; refine ⟨rfl, ?_⟩; first | exact dec_int | exact dec_bl | exact dec_str | (simp [PyData.eqv]))
theorem ceq_inv {d e : D} {b : Bool} (h : ceq d e = .ok b) : (scalD d e = true ∨ (SeqAt.shaped d = true ∧ SeqAt.shaped e = true)) ∧ b = PyData.eqv d e := by
  unfold ceq at h
  split at h
  · rename_i q
    rw [Bool.or_eq_true, Bool.and_eq_true] at q
    exact ⟨q, (R.ok_inj h).symm⟩
  · cases h
theorem eq_ok (hu : X.A.units + 64 < cLine) : OpR X (compareOp .Eq) (rD X.K (cop .eq)) := by
  refine OpR.imp (OpR.or op_eq (op_eqD hu)) ?_
  rintro x y H Q ⟨N, d, e, ne, hx, hy, z, hz, q⟩
  have hz' : (ceq d e >>= fun b => R.ok (PyData.bool b)) = .ok z := hz
  cases hc : ceq d e with
  | ok b =>
    rw [hc] at hz'
    obtain ⟨h1, rfl⟩ := ceq_inv hc
    have ez : z = .bool (PyData.eqv d e) := (R.ok_inj hz').symm
    subst ez
    have fin := q _ _ (Same.refl _) (RpG.any (.bl _) fun _ w => nomatch w)
    rcases h1 with h1 | ⟨h1, h2⟩
    · obtain ⟨s1, s2⟩ := scal_of hx hy h1
      refine .inl ⟨s1, ?_⟩
      rw [s2]
      exact fin
    · exact .inr ⟨d, e, hx.dp, hy.dp, h1, h2, fin⟩
  | exc c => rw [hc] at hz'; cases hz'
  | bad => rw [hc] at hz'; cases hz'
theorem ne_ok (hu : X.A.units + 64 < cLine) : OpR X (compareOp .NotEq) (rD X.K (cop .ne)) := by
  refine OpR.imp (OpR.or op_ne (op_neD hu)) ?_
  rintro x y H Q ⟨N, d, e, ne, hx, hy, z, hz, q⟩
  have hz' : (ceq d e >>= fun b => R.ok (PyData.bool !b)) = .ok z := hz
  cases hc : ceq d e with
  | ok b =>
    rw [hc] at hz'
    obtain ⟨h1, rfl⟩ := ceq_inv hc
    have ez : z = .bool (!PyData.eqv d e) := (R.ok_inj hz').symm
    subst ez
    have fin := q _ _ (Same.refl _) (RpG.any (.bl _) fun _ w => nomatch w)
    rcases h1 with h1 | ⟨h1, h2⟩
    · obtain ⟨s1, s2⟩ := scal_of hx hy h1
      refine .inl ⟨s1, ?_⟩
      rw [s2]
      exact fin
    · exact .inr ⟨d, e, hx.dp, hy.dp, h1, h2, fin⟩
  | exc c => rw [hc] at hz'; cases hz'
  | bad => rw [hc] at hz'; cases hz'
/-! ### in, not in -/
theorem flat_of {K : PySem.W.Frag} {H : Hp} {N : Addr → Prop} {x : V} {d : D} (hx : Rp K H N x d) (h : flatD d = true) : flatV x = true := by
  cases hx <;> first | rfl | cases h
theorem eqV_of {K : PySem.W.Frag} {H : Hp} {N : Addr → Prop} {x y : V} {d e : D} (hx : Rp K H N x d) (hy : Rp K H N y e) (h : flatD d = true) (h2 : flatD e = true) : eqV x y = PyData.eqv d e := by
  cases hx <;> first | (cases h; done) | skip
  all_goals (cases hy <;> first | (cases h2; done) | (simp [eqV, PyData.eqv]))
theorem inV_of {K : PySem.W.Frag} {H : Hp} {N : Addr → Prop} {x : V} {d : D} (hx : Rp K H N x d) (h : flatD d = true) : ∀ {ds : List D} {vs : List V}, RpAll K H N vs ds → ds.all flatD = true → vs.all flatV = true ∧ inV x vs = inList d ds
  | [], _, r, _ => by cases r; exact ⟨rfl, rfl⟩
  | e :: ds, _, r, f => by
    cases r with
    | cons r1 r2 =>
      rw [List.all_cons, Bool.and_eq_true] at f
      obtain ⟨i1, i2⟩ := inV_of hx h r2 f.2
      refine ⟨?_, ?_⟩
      · rw [List.all_cons, i1, flat_of r1 f.1] <;> rfl
      · unfold inV inList at i2 ⊢
        rw [List.any_cons, List.any_cons, i2, eqV_of r1 hx f.1 h]
theorem rel_flat {K : PySem.W.Frag} {H : Hp} {N : Addr → Prop} {x : V} {d : D} (hx : RpL K H N x d) (h : flatD d = true) : Rp K H N x d := hx.to fun _ e => by rw [e] at h; cases h
theorem sign_of {x : Str} (h : x.length = 1) : x = ⟨#[x.cps.getD 0 0]⟩ := by
  obtain ⟨⟨l⟩⟩ := x
  match l, h with
  | [c], _ => rfl
theorem mem_pre {K : PySem.W.Frag} {x y : V} {H : Hp} {N : Addr → Prop} {d e : D} {b : Bool} (hx : RpL K H N x d) (hy : RpL K H N y e) (h : cmem d e = .ok b) :
    (∃ (c : Nat) (z : Str), x = .str ⟨#[c]⟩ ∧ y = .str z ∧ b = decide (c ∈ z.cps.toList)) ∨ ∃ p xs, y = .ref p ∧ (SqL K H p xs ∨ SqT K H p xs) ∧ flatV x = true ∧ xs.all flatV = true ∧ b = inV x xs := by
  cases e <;> first
    | (cases d <;> cases h; done)
    | skip
  · rename_i z
    cases d <;> first | (cases h; done) | skip
    rename_i x'
    have h' : (if x'.length = 1 then R.ok (decide (x'.cps.getD 0 0 ∈ z.cps.toList)) else .bad) = .ok b := h
    split at h'
    · rename_i h1
      refine .inl ⟨x'.cps.getD 0 0, z, ?_, hy.str_inv, (R.ok_inj h').symm⟩
      rw [hx.str_inv, ← sign_of h1]
    · cases h'
  · rename_i l
    have h' : (if flatD d && l.all flatD then R.ok (inList d l) else .bad) = .ok b := by cases d <;> exact h
    split at h'
    · rename_i hf
      rw [Bool.and_eq_true] at hf
      obtain ⟨p, xs, e1, s, r⟩ := hy.list_inv
      have rx := rel_flat hx hf.1
      obtain ⟨i1, i2⟩ := inV_of rx hf.1 r hf.2
      exact .inr ⟨p, xs, e1, .inl s, flat_of rx hf.1, i1, by rw [i2]; exact (R.ok_inj h').symm⟩
    · cases h'
  · rename_i l
    have h' : (if flatD d && l.all flatD then R.ok (inList d l) else .bad) = .ok b := by cases d <;> exact h
    split at h'
    · rename_i hf
      rw [Bool.and_eq_true] at hf
      obtain ⟨p, xs, e1, s, r⟩ := hy.tup_inv
      have rx := rel_flat hx hf.1
      obtain ⟨i1, i2⟩ := inV_of rx hf.1 r hf.2
      exact .inr ⟨p, xs, e1, .inr s, flat_of rx hf.1, i1, by rw [i2]; exact (R.ok_inj h').symm⟩
    · cases h'
theorem mem_ok : OpR X (compareOp .In) (rD X.K (cop .mem)) := by
  refine OpR.imp (OpR.or op_in_sign op_in_seq) ?_
  rintro x y H Q ⟨N, d, e, ne, hx, hy, z, hz, q⟩
  have hz' : (cmem d e >>= fun b => R.ok (PyData.bool b)) = .ok z := hz
  cases hc : cmem d e with
  | ok b =>
    rw [hc] at hz'
    have ez : z = .bool b := (R.ok_inj hz').symm
    subst ez
    have fin := q _ _ (Same.refl _) (RpG.any (.bl _) fun _ w => nomatch w)
    rcases mem_pre hx hy hc with ⟨c, z, e1, e2, eb⟩ | ⟨p, xs, e1, s, f1, f2, eb⟩
    · subst eb
      exact .inl ⟨c, z, e1, e2, fin⟩
    · subst eb
      exact .inr ⟨p, xs, e1, s, f1, f2, fin⟩
  | exc c => rw [hc] at hz'; cases hz'
  | bad => rw [hc] at hz'; cases hz'
theorem nmem_ok : OpR X (compareOp .NotIn) (rD X.K (cop .nmem)) := by
  refine OpR.imp (OpR.or op_notIn_sign op_notIn_seq) ?_
  rintro x y H Q ⟨N, d, e, ne, hx, hy, z, hz, q⟩
  have hz' : (cmem d e >>= fun b => R.ok (PyData.bool !b)) = .ok z := hz
  cases hc : cmem d e with
  | ok b =>
    rw [hc] at hz'
    have ez : z = .bool (!b) := (R.ok_inj hz').symm
    subst ez
    have fin := q _ _ (Same.refl _) (RpG.any (.bl _) fun _ w => nomatch w)
    rcases mem_pre hx hy hc with ⟨c, z, e1, e2, eb⟩ | ⟨p, xs, e1, s, f1, f2, eb⟩
    · subst eb
      exact .inl ⟨c, z, e1, e2, fin⟩
    · subst eb
      exact .inr ⟨p, xs, e1, s, f1, f2, fin⟩
  | exc c => rw [hc] at hz'; cases hz'
  | bad => rw [hc] at hz'; cases hz'
theorem non_of {K : PySem.W.Frag} {H : Hp} {N : Addr → Prop} {x : V} {d : D} (hx : RpL K H N x d) : decide (x = .non) = isNone d := by
  cases d with
  | list l =>
    obtain ⟨a, xs, e, _⟩ := hx.list_inv
    rw [e]
    exact decide_eq_false (fun z => nomatch z)
  | _ =>
    cases hx.to fun _ z => nomatch z
    all_goals first
      | exact decide_eq_true rfl
      | exact decide_eq_false (fun z => nomatch z)
theorem cop_ok (o : COp) (hu : X.A.units + 64 < cLine) : OpR X (compareOp (cmpOf o)) (rD X.K (cop o)) := by
  cases o with
  | eq => exact eq_ok hu
  | ne => exact ne_ok hu
  | mem => exact mem_ok
  | nmem => exact nmem_ok
  | lt =>
    refine OpR.imp (OpR.or op_lt (op_ltD hu)) ?_
    rintro x y H Q ⟨N, d, e, ne, hx, hy, z, hz, q⟩
    have key : ∀ l m, d = .list l → e = .list m → rLtD X.K x y H Q := by
      rintro l m rfl rfl
      have hz' : (intsD l >>= fun a => intsD m >>= fun b => R.ok (PyData.bool (lexB a b))) = .ok z := hz
      cases ea : intsD l with
      | ok a =>
        cases eb : intsD m with
        | ok b =>
          rw [ea, eb] at hz'
          have e3 := R.ok_inj hz'
          subst e3
          have h1 := intsB_inv ea
          have h2 := intsB_inv eb
          subst h1 h2
          exact ⟨a, b, hx.dp, hy.dp, q _ _ (Same.refl _) (RpG.any (.bl _) fun _ w => nomatch w)⟩
        | exc c => rw [ea, eb] at hz'; cases hz'
        | bad => rw [ea, eb] at hz'; cases hz'
      | exc c => rw [ea] at hz'; cases hz'
      | bad => rw [ea] at hz'; cases hz'
    cases d <;> cases e <;> first
      | exact .inr (key _ _ rfl rfl)
      | exact .inl ⟨_, _, hx.int_inv, hy.int_inv, by
          have e3 := R.ok_inj hz
          subst e3
          exact q _ _ (Same.refl _) (RpG.any (.bl _) fun _ w => nomatch w)⟩
      | cases hz
  | le => exact OpR.imp op_le (rB0_of fun d e z h => by cases d <;> cases e <;> first | exact ⟨_, _, rfl, rfl, (R.ok_inj h).symm⟩ | cases h)
  | gt => exact OpR.imp op_gt (rB0_of fun d e z h => by cases d <;> cases e <;> first | exact ⟨_, _, rfl, rfl, (R.ok_inj h).symm⟩ | cases h)
  | ge => exact OpR.imp op_ge (rB0_of fun d e z h => by cases d <;> cases e <;> first | exact ⟨_, _, rfl, rfl, (R.ok_inj h).symm⟩ | cases h)
  | isN =>
    refine OpR.imp op_isN ?_
    rintro x y H Q ⟨N, d, e, ne, hx, hy, z, hz, q⟩
    cases e <;> first
      | (cases d <;> cases hz; done)
      | skip
    refine ⟨hy.non_inv, ?_⟩
    rw [non_of hx]
    have e2 : R.ok (PyData.bool (isNone d)) = .ok z := by cases d <;> exact hz
    have e3 := R.ok_inj e2
    subst e3
    exact q _ _ (Same.refl _) (RpG.any (.bl _) fun _ w => nomatch w)
  | notN =>
    refine OpR.imp op_notN ?_
    rintro x y H Q ⟨N, d, e, ne, hx, hy, z, hz, q⟩
    cases e <;> first
      | (cases d <;> cases hz; done)
      | skip
    refine ⟨hy.non_inv, ?_⟩
    rw [non_of hx]
    have e2 : R.ok (PyData.bool !(isNone d)) = .ok z := by cases d <;> exact hz
    have e3 := R.ok_inj e2
    subst e3
    exact q _ _ (Same.refl _) (RpG.any (.bl _) fun _ w => nomatch w)
end
end Mn
/-! Mn, part D: built-in functions. -/
namespace Mn
open PySem PySem.Spec PyProof.Rows L2
/-- one argument, by data -/
def rC (K : PySem.W.Frag) (f : D → R D) : List V → Hp → VK → Prop := fun xs H Q => ∃ N x d, (∀ b, N b → H b ≠ none) ∧ xs = [x] ∧ RpL K H N x d ∧ FinD K H N (f d) Q
def rC2 (K : PySem.W.Frag) (f : D → D → R D) : List V → Hp → VK → Prop := fun xs H Q => ∃ N x y d e, (∀ b, N b → H b ≠ none) ∧ xs = [x, y] ∧ RpL K H N x d ∧ RpL K H N y e ∧ FinD K H N (f d e) Q
section
variable {X : Cx} {F : Value}
theorem CallR.imp {r r' : List V → Hp → VK → Prop} (h : CallR X F r) (k : ∀ xs H Q, r' xs H Q → r xs H Q) : CallR X F r' := fun pins s σ H xs us Q I rs q => h pins s σ H xs us Q I rs (k _ _ _ q)
/-- the fall by data: what of it is left -/
theorem fin_of {K : PySem.W.Frag} {H : Hp} {N : Addr → Prop} {Q : VK} {z : D} {v : V} (q : ∀ v H', Same H H' → RpG .fresh K H H' N v z → Q v H') (r : Rp K H N v z) (h : ∀ ds, z ≠ .list ds) : Q v H := q _ _ (Same.refl _) (RpG.any r h)
theorem bi_len : CallR X (.builtin "len") (rC X.K (biD .len)) := by
  refine CallR.imp call_len ?_
  rintro xs H Q ⟨N, x, d, ne, rfl, hx, z, hz, q⟩
  cases d <;> first | (cases hz; done) | skip
  · rename_i y
    have h' : (if y.length ≤ sizeLine then R.ok (PyData.int y.length) else .bad) = .ok z := hz
    split at h'
    · rename_i hl
      have e := R.ok_inj h'
      subst e
      refine ⟨x, y.length, rfl, ?_, fin_of q (.int _) fun _ w => nomatch w⟩
      rw [hx.str_inv]
      exact ⟨hl, rfl⟩
    · cases h'
  · obtain ⟨a, xs, rfl, s, r⟩ := hx.list_inv
    have e := R.ok_inj hz
    subst e
    exact ⟨_, xs.length, rfl, .inl ⟨xs, s, rfl⟩, by rw [r.length]; exact fin_of q (.int _) fun _ w => nomatch w⟩
  · obtain ⟨a, xs, rfl, s, r⟩ := hx.tup_inv
    have e := R.ok_inj hz
    subst e
    exact ⟨_, xs.length, rfl, .inr ⟨xs, s, rfl⟩, by rw [r.length]; exact fin_of q (.int _) fun _ w => nomatch w⟩
theorem bi_abs : CallR X (.builtin "abs") (rC X.K (biD .abs)) := by
  refine CallR.imp call_abs ?_
  rintro xs H Q ⟨N, x, d, ne, rfl, hx, z, hz, q⟩
  cases d <;> first | (cases hz; done) | skip
  rename_i i
  have e := R.ok_inj hz
  subst e
  exact ⟨i, by rw [hx.int_inv], fin_of q (.int _) fun _ w => nomatch w⟩
theorem CallR.or {r r' : List V → Hp → VK → Prop} {F : Value} (h : CallR X F r) (h' : CallR X F r') : CallR X F (fun xs H Q => r xs H Q ∨ r' xs H Q) := fun pins s σ H xs us Q I rs q => q.elim (fun z => h pins s σ H xs us Q I rs z) fun z => h' pins s σ H xs us Q I rs z
theorem bi_int : CallR X (.type "int") (rC X.K (biD .int)) := by
  refine CallR.imp (CallR.or call_int1 call_int_str) ?_
  rintro xs H Q ⟨N, x, d, ne, rfl, hx, z, hz, q⟩
  cases d <;> first | (cases hz; done) | skip
  · rename_i i
    have e := R.ok_inj hz
    subst e
    exact .inl (.inr ⟨i, by rw [hx.bl_inv], fin_of q (.int _) fun _ w => nomatch w⟩)
  · rename_i i
    have e := R.ok_inj hz
    subst e
    exact .inl (.inl ⟨i, by rw [hx.int_inv], fin_of q (.int _) fun _ w => nomatch w⟩)
  · rename_i i
    have hz : (if i.length ≤ 640 then (match PySem.intText? i with
      | some n => R.ok (PyData.int n)
      | none => .bad) else .bad) = .ok z := hz
    split at hz
    · rename_i hl
      split at hz
      · rename_i n hn
        have e := R.ok_inj hz
        subst e
        exact .inr ⟨i, n, by rw [hx.str_inv], hn, hl, fin_of q (.int _) fun _ w => nomatch w⟩
      · cases hz
    · cases hz
theorem bi_strI : CallR X (.type "str") (rC X.K (biD .strI)) := by
  refine CallR.imp call_str_int ?_
  rintro xs H Q ⟨N, x, d, ne, rfl, hx, z, hz, q⟩
  cases d <;> first | (cases hz; done) | skip
  rename_i i
  have hz : (if i.natAbs.log2 < 1920 then R.ok (PyData.str (toString i)) else .bad) = .ok z := hz
  split at hz
  · have e := R.ok_inj hz
    subst e
    exact ⟨i, by rw [hx.int_inv], by assumption, fin_of q (.str _) fun _ w => nomatch w⟩
  · cases hz
theorem bi_list : CallR X (.type "list") (rC X.K (biD .list)) := by
  refine CallR.imp call_list_of ?_
  rintro xs H Q ⟨N, x, d, ne, rfl, hx, z, hz, q⟩
  cases d <;> first | (cases hz; done) | skip
  · obtain ⟨a, xs, rfl, s, r⟩ := hx.list_inv
    have e := R.ok_inj hz
    subst e
    exact ⟨a, xs, rfl, .inl s, fun l hl => q _ _ (same_upd hl) (RpG.new ne hl r)⟩
  · obtain ⟨a, xs, rfl, s, r⟩ := hx.tup_inv
    have e := R.ok_inj hz
    subst e
    exact ⟨a, xs, rfl, .inr s, fun l hl => q _ _ (same_upd hl) (RpG.new ne hl r)⟩
theorem bi_sum (hc : X.calm = true) : CallR X (.builtin "sum") (rC X.K (biD .sum)) := by
  refine CallR.imp (cr_sum hc) ?_
  rintro xs H Q ⟨N, x, d, ne, rfl, hx, z, hz, q⟩
  cases d <;> first | (cases hz; done) | skip
  rename_i l
  obtain ⟨a, xs, rfl, s, r⟩ := hx.list_inv
  have hz' : (intsD l >>= fun r => R.ok (PyData.int r.sum)) = .ok z := hz
  cases hi : intsD l with
  | ok ns =>
    rw [hi] at hz'
    have e := R.ok_inj hz'
    subst e
    have ev := r.intsOf hi
    subst ev
    exact ⟨a, ns, rfl, s, fin_of q (.int _) fun _ w => nomatch w⟩
  | exc c => rw [hi] at hz'; cases hz'
  | bad => rw [hi] at hz'; cases hz'
theorem bi_all (hc : X.calm = true) : CallR X (.builtin "all") (rC X.K (biD .all)) := by
  refine CallR.imp (cr_all hc) ?_
  rintro xs H Q ⟨N, x, d, ne, rfl, hx, z, hz, q⟩
  cases d <;> first | (cases hz; done) | skip
  rename_i l
  obtain ⟨a, xs, rfl, s, r⟩ := hx.list_inv
  have hz' : (boolsD l >>= fun r => R.ok (PyData.bool (r.all id))) = .ok z := hz
  cases hi : boolsD l with
  | ok ns =>
    rw [hi] at hz'
    have e := R.ok_inj hz'
    subst e
    have ev := r.boolsOf hi
    subst ev
    exact ⟨a, ns, rfl, s, fin_of q (.bl _) fun _ w => nomatch w⟩
  | exc c => rw [hi] at hz'; cases hz'
  | bad => rw [hi] at hz'; cases hz'
/-! sorting -/
theorem insI_perm (x : Int) : ∀ l : List Int, (insI x l).Perm (x :: l)
  | [] => .refl _
  | y :: l => by
    unfold insI
    split
    · exact .refl _
    · exact (List.Perm.cons y (insI_perm x l)).trans (List.Perm.swap x y l)
theorem sortI_perm : ∀ l : List Int, (sortI l).Perm l
  | [] => .refl _
  | x :: l => (insI_perm x (sortI l)).trans (List.Perm.cons x (sortI_perm l))
theorem insI_sorted (x : Int) : ∀ l : List Int, l.Pairwise (· ≤ ·) → (insI x l).Pairwise (· ≤ ·)
  | [], _ => List.pairwise_singleton _ _
  | y :: l, h => by
    unfold insI
    rw [List.pairwise_cons] at h
    split
    · rename_i hxy
      refine List.pairwise_cons.mpr ⟨fun z hz => ?_, List.pairwise_cons.mpr h⟩
      rcases List.mem_cons.mp hz with rfl | hz
      · exact hxy
      · have := h.1 z hz
        omega
    · rename_i hxy
      refine List.pairwise_cons.mpr ⟨fun z hz => ?_, insI_sorted x l h.2⟩
      rcases List.mem_cons.mp ((insI_perm x l).mem_iff.mp hz) with rfl | hz
      · omega
      · exact h.1 z hz
theorem sortI_sorted : ∀ l : List Int, (sortI l).Pairwise (· ≤ ·)
  | [] => List.Pairwise.nil
  | x :: l => insI_sorted x _ (sortI_sorted l)
theorem sorted_one : ∀ {l m : List Int}, l.Perm m → l.Pairwise (· ≤ ·) → m.Pairwise (· ≤ ·) → l = m
  | [], m, p, _, _ => by rw [List.nil_perm.mp p]
  | x :: l, [], p, _, _ => by cases p.length_eq
  | x :: l, y :: m, p, h1, h2 => by
    rw [List.pairwise_cons] at h1 h2
    have e : x = y := by
      rcases List.mem_cons.mp (p.mem_iff.mp List.mem_cons_self) with e | hx
      · exact e
      · rcases List.mem_cons.mp (p.mem_iff.mpr List.mem_cons_self) with e | hy
        · exact e.symm
        · have a1 := h2.1 x hx
          have a2 := h1.1 y hy
          omega
    subst e
    rw [sorted_one (List.Perm.cons_inv p) h1.2 h2.2]
theorem bi_sorted : CallR X (.builtin "sorted") (rC X.K (biD .sorted)) := by
  refine CallR.imp cr_sortedI ?_
  rintro xs H Q ⟨N, x, d, ne, rfl, hx, z, hz, q⟩
  cases d <;> first | (cases hz; done) | skip
  rename_i l
  obtain ⟨a, xs, rfl, s, r⟩ := hx.list_inv
  have hz' : (intsD l >>= fun r => R.ok (PyData.list ((sortI r).map .int))) = .ok z := hz
  cases hi : intsD l with
  | ok ns =>
    rw [hi] at hz'
    have e := R.ok_inj hz'
    subst e
    have ev := r.intsOf hi
    subst ev
    refine ⟨a, ns, rfl, s, fun ns' p h1 h2 hp => ?_⟩
    have e2 : ns' = sortI ns := sorted_one (h1.trans (sortI_perm ns).symm) h2 (sortI_sorted ns)
    subst e2
    exact q _ _ (same_upd hp) (RpG.new ne hp (RpAll.ofInts _))
  | exc c => rw [hi] at hz'; cases hz'
  | bad => rw [hi] at hz'; cases hz'
/-! least and greatest -/
theorem maxI_spec : ∀ (l : List Int) (m : Int), (maxI l m = m ∨ maxI l m ∈ l) ∧ m ≤ maxI l m ∧ ∀ y ∈ l, y ≤ maxI l m
  | [], m => ⟨.inl rfl, Int.le_refl _, fun y h => by cases h⟩
  | x :: l, m => by
    unfold maxI
    by_cases c : m < x
    · rw [if_pos c]
      obtain ⟨h1, h2, h3⟩ := maxI_spec l x
      refine ⟨.inr (h1.elim (fun e => by rw [e]; exact List.mem_cons_self) (List.mem_cons_of_mem _)), by omega, fun y hy => ?_⟩
      rcases List.mem_cons.mp hy with rfl | hy
      · exact h2
      · exact h3 y hy
    · rw [if_neg c]
      obtain ⟨h1, h2, h3⟩ := maxI_spec l m
      refine ⟨h1.imp_right (List.mem_cons_of_mem _), h2, fun y hy => ?_⟩
      rcases List.mem_cons.mp hy with rfl | hy
      · omega
      · exact h3 y hy
theorem minI_spec : ∀ (l : List Int) (m : Int), (minI l m = m ∨ minI l m ∈ l) ∧ minI l m ≤ m ∧ ∀ y ∈ l, minI l m ≤ y
  | [], m => ⟨.inl rfl, Int.le_refl _, fun y h => by cases h⟩
  | x :: l, m => by
    unfold minI
    by_cases c : x < m
    · rw [if_pos c]
      obtain ⟨h1, h2, h3⟩ := minI_spec l x
      refine ⟨.inr (h1.elim (fun e => by rw [e]; exact List.mem_cons_self) (List.mem_cons_of_mem _)), by omega, fun y hy => ?_⟩
      rcases List.mem_cons.mp hy with rfl | hy
      · exact h2
      · exact h3 y hy
    · rw [if_neg c]
      obtain ⟨h1, h2, h3⟩ := minI_spec l m
      refine ⟨h1.imp_right (List.mem_cons_of_mem _), h2, fun y hy => ?_⟩
      rcases List.mem_cons.mp hy with rfl | hy
      · omega
      · exact h3 y hy
theorem maxI_one {x : Int} {l : List Int} {m : Int} (h : m ∈ x :: l) (k : ∀ y, y ∈ x :: l → y ≤ m) : m = maxI l x := by
  obtain ⟨h1, h2, h3⟩ := maxI_spec l x
  have a : maxI l x ∈ x :: l := h1.elim (fun e => by rw [e]; exact List.mem_cons_self) (List.mem_cons_of_mem _)
  have b := k _ a
  rcases List.mem_cons.mp h with rfl | h
  · omega
  · have := h3 m h
    omega
theorem minI_one {x : Int} {l : List Int} {m : Int} (h : m ∈ x :: l) (k : ∀ y, y ∈ x :: l → m ≤ y) : m = minI l x := by
  obtain ⟨h1, h2, h3⟩ := minI_spec l x
  have a : minI l x ∈ x :: l := h1.elim (fun e => by rw [e]; exact List.mem_cons_self) (List.mem_cons_of_mem _)
  have b := k _ a
  rcases List.mem_cons.mp h with rfl | h
  · omega
  · have := h3 m h
    omega
theorem bi_maxL (hc : X.calm = true) : CallR X (.builtin "max") (rC X.K (biD .maxL)) := by
  refine CallR.imp (cr_max hc) ?_
  rintro xs H Q ⟨N, x, d, ne, rfl, hx, z, hz, q⟩
  cases d <;> first | (cases hz; done) | skip
  rename_i l
  obtain ⟨a, xs, rfl, s, r⟩ := hx.list_inv
  have hz' : (intsD l >>= fun r => match r with
    | [] => R.bad
    | x :: r => R.ok (PyData.int (maxI r x))) = .ok z := hz
  cases hi : intsD l with
  | ok ns =>
    rw [hi] at hz'
    have ev := r.intsOf hi
    subst ev
    cases ns with
    | nil => cases hz'
    | cons y ns =>
      have e := R.ok_inj hz'
      subst e
      refine ⟨a, y :: ns, rfl, s, Nat.zero_lt_succ _, fun m h1 h2 => ?_⟩
      rw [maxI_one h1 h2]
      exact fin_of q (.int _) fun _ w => nomatch w
  | exc c => rw [hi] at hz'; cases hz'
  | bad => rw [hi] at hz'; cases hz'
theorem bi_minL (hc : X.calm = true) : CallR X (.builtin "min") (rC X.K (biD .minL)) := by
  refine CallR.imp (cr_min hc) ?_
  rintro xs H Q ⟨N, x, d, ne, rfl, hx, z, hz, q⟩
  cases d <;> first | (cases hz; done) | skip
  rename_i l
  obtain ⟨a, xs, rfl, s, r⟩ := hx.list_inv
  have hz' : (intsD l >>= fun r => match r with
    | [] => R.bad
    | x :: r => R.ok (PyData.int (minI r x))) = .ok z := hz
  cases hi : intsD l with
  | ok ns =>
    rw [hi] at hz'
    have ev := r.intsOf hi
    subst ev
    cases ns with
    | nil => cases hz'
    | cons y ns =>
      have e := R.ok_inj hz'
      subst e
      refine ⟨a, y :: ns, rfl, s, Nat.zero_lt_succ _, fun m h1 h2 => ?_⟩
      rw [minI_one h1 h2]
      exact fin_of q (.int _) fun _ w => nomatch w
  | exc c => rw [hi] at hz'; cases hz'
  | bad => rw [hi] at hz'; cases hz'
theorem bi_max2 (hc : X.calm = true) : CallR X (.builtin "max") (rC2 X.K (biD2 .max2)) := by
  refine CallR.imp (call_max2 hc) ?_
  rintro xs H Q ⟨N, x, y, d, e, ne, rfl, hx, hy, z, hz, q⟩
  cases d <;> cases e <;> first | (cases hz; done) | skip
  rename_i i j
  have ez := R.ok_inj hz
  subst ez
  exact ⟨i, j, by rw [hx.int_inv, hy.int_inv], fin_of q (.int _) fun _ w => nomatch w⟩
theorem bi_min2 (hc : X.calm = true) : CallR X (.builtin "min") (rC2 X.K (biD2 .min2)) := by
  refine CallR.imp (call_min2 hc) ?_
  rintro xs H Q ⟨N, x, y, d, e, ne, rfl, hx, hy, z, hz, q⟩
  cases d <;> cases e <;> first | (cases hz; done) | skip
  rename_i i j
  have ez := R.ok_inj hz
  subst ez
  exact ⟨i, j, by rw [hx.int_inv, hy.int_inv], fin_of q (.int _) fun _ w => nomatch w⟩
/-! max(xs, default=d), min(xs, default=d) -/
theorem reads_ints {h : Heap} : ∀ {ns : List Int} {its : List Value}, Vals (ns.map V.int) its → ReadsAll h its (ns.map .int) []
  | [], _, r => by cases r; exact .nil
  | n :: ns, _, r => by
    cases r with
    | cons r1 r2 =>
      obtain ⟨t, rfl⟩ := r1
      exact .cons (.int n t) (reads_ints r2)
theorem depth_ints : ∀ ns : List Int, PyData.depthAll (ns.map .int) = 0
  | [] => rfl
  | n :: ns => by
    show max (PyData.depth (.int n)) (PyData.depthAll (ns.map .int)) = 0
    rw [depth_ints ns]
    rfl
theorem alike_ints (ns : List Int) : PySem.W.AlikeAll (ns.map .int) := by
  refine ⟨fun x hx y hy => ?_, fun x hx => ?_⟩
  · obtain ⟨i, _, rfl⟩ := List.mem_map.mp hx
    obtain ⟨j, _, rfl⟩ := List.mem_map.mp hy
    rfl
  · obtain ⟨i, _, rfl⟩ := List.mem_map.mp hx
    exact fun z => nomatch z
theorem foldl_maxI : ∀ (ns : List Int) (n : Int), ns.foldl max n = maxI ns n
  | [], _ => rfl
  | x :: ns, n => by
    rw [List.foldl_cons, foldl_maxI ns]
    show _ = maxI ns (if n < x then x else n)
    congr 1
    split <;> omega
theorem foldl_minI : ∀ (ns : List Int) (n : Int), ns.foldl min n = minI ns n
  | [], _ => rfl
  | x :: ns, n => by
    rw [List.foldl_cons, foldl_minI ns]
    show _ = minI ns (if x < n then x else n)
    congr 1
    split <;> omega
/-- one argument and default=d -/
def rCD (K : PySem.W.Frag) (k : Int) (f : D → R D) : List V → List V → Hp → VK → Prop := fun xs zs H Q => zs = [.int k] ∧ rC K f xs H Q
theorem bi_maxD (hc : X.calm = true) (hu : X.A.units + 64 < cLine) (k : Int) : CallRK X (.builtin "max") [("default" : Str)] (rCD X.K k (biD (.maxD k))) := by
  rintro pins s σ H xs zs us ws Q I rx rz ⟨rfl, N, x, d, ne, rfl, hx, z, hz, q⟩
  cases d <;> first | (cases hz; done) | skip
  rename_i l
  obtain ⟨a, xs, rfl, sq, ra⟩ := hx.list_inv
  have hz' : (intsD l >>= fun r => match r with
    | [] => R.ok (PyData.int k)
    | x :: r => R.ok (PyData.int (maxI r x))) = .ok z := hz
  cases hi : intsD l with
  | ok ns =>
    rw [hi] at hz'
    have ev := ra.intsOf hi
    subst ev
    obtain ⟨its, rv, hl, _⟩ := I.list sq
    rw [Vals.ref1 rx]
    cases rz with
    | cons r1 r2 =>
      cases r2
      obtain ⟨t, rfl⟩ := r1
      refine PySem.W.max_list_default (I.ok.hd hc) hl.isList (xs := ns.map .int) (reads_ints rv) (alike_ints ns) (by rw [depth_ints]; omega) (fun e h' tk keep => ?_) fun y ys i v h' tk bs e hv rd keep => ?_
      · have e2 : ns = [] := List.map_eq_nil_iff.mp e
        subst e2
        have ez := R.ok_inj hz'
        subst ez
        exact ⟨.int k, H, I.kept keep, ⟨t, rfl⟩, fin_of q (.int _) fun _ w => nomatch w⟩
      · cases ns with
        | nil => cases e
        | cons n ns =>
          rw [List.map_cons] at e
          injection e with e1 e2
          subst e1
          subst e2
          rw [PySem.W.maxD_ints, foldl_maxI] at rd
          have ez := R.ok_inj hz'
          subst ez
          cases rd
          exact ⟨.int _, H, I.kept keep, ⟨_, rfl⟩, fin_of q (.int _) fun _ w => nomatch w⟩
  | exc c => rw [hi] at hz'; cases hz'
  | bad => rw [hi] at hz'; cases hz'
theorem bi_minD (hc : X.calm = true) (hu : X.A.units + 64 < cLine) (k : Int) : CallRK X (.builtin "min") [("default" : Str)] (rCD X.K k (biD (.minD k))) := by
  rintro pins s σ H xs zs us ws Q I rx rz ⟨rfl, N, x, d, ne, rfl, hx, z, hz, q⟩
  cases d <;> first | (cases hz; done) | skip
  rename_i l
  obtain ⟨a, xs, rfl, sq, ra⟩ := hx.list_inv
  have hz' : (intsD l >>= fun r => match r with
    | [] => R.ok (PyData.int k)
    | x :: r => R.ok (PyData.int (minI r x))) = .ok z := hz
  cases hi : intsD l with
  | ok ns =>
    rw [hi] at hz'
    have ev := ra.intsOf hi
    subst ev
    obtain ⟨its, rv, hl, _⟩ := I.list sq
    rw [Vals.ref1 rx]
    cases rz with
    | cons r1 r2 =>
      cases r2
      obtain ⟨t, rfl⟩ := r1
      refine PySem.W.min_list_default (I.ok.hd hc) hl.isList (xs := ns.map .int) (reads_ints rv) (alike_ints ns) (by rw [depth_ints]; omega) (fun e h' tk keep => ?_) fun y ys i v h' tk bs e hv rd keep => ?_
      · have e2 : ns = [] := List.map_eq_nil_iff.mp e
        subst e2
        have ez := R.ok_inj hz'
        subst ez
        exact ⟨.int k, H, I.kept keep, ⟨t, rfl⟩, fin_of q (.int _) fun _ w => nomatch w⟩
      · cases ns with
        | nil => cases e
        | cons n ns =>
          rw [List.map_cons] at e
          injection e with e1 e2
          subst e1
          subst e2
          rw [PySem.W.minD_ints, foldl_minI] at rd
          have ez := R.ok_inj hz'
          subst ez
          cases rd
          exact ⟨.int _, H, I.kept keep, ⟨_, rfl⟩, fin_of q (.int _) fun _ w => nomatch w⟩
  | exc c => rw [hi] at hz'; cases hz'
  | bad => rw [hi] at hz'; cases hz'
/-! isinstance against a built-in type -/
theorem ty_of {K : PySem.W.Frag} {H : Hp} {N : Addr → Prop} {x : V} {d : D} (hx : RpL K H N x d) : TyX K H x (.type (tyD d)) := by
  cases d with
  | list l =>
    rcases hx with hx | ⟨a, xs, rfl, _, e, _⟩
    · cases hx with
      | lst h1 h2 =>
        rcases h1 with ⟨_, (h1 | ⟨o, h1⟩)⟩ | ⟨o, its, n, h1, h2, _⟩
        · exact .base (.lst h1)
        · exact .base (.frz h1)
        · exact .kList h1 h2
    · exact .base (.lst e)
  | tuple l =>
    obtain ⟨a, xs, rfl, s, _⟩ := hx.tup_inv
    rcases s with (s | ⟨o, s⟩) | ⟨o, its, n, h1, h2, _⟩
    · exact .base (.tup s)
    · exact .fTuple s
    · exact .kTuple h1 h2
  | none => rw [hx.non_inv]; exact .base .non
  | bool b => rw [hx.bl_inv]; exact .base (.bl b)
  | int i => rw [hx.int_inv]; exact .base (.int i)
  | str i => rw [hx.str_inv]; exact .base (.str i)
  | dict k =>
    cases hx.to fun _ z => nomatch z
theorem bi_isi (T : String) : CallR X (.builtin "isinstance") (fun xs H Q => ∃ N x d, (∀ b, N b → H b ≠ none) ∧ xs = [x, .ty T] ∧ RpL X.K H N x d ∧ FinD X.K H N (biD (.isi T) d) Q) := by
  refine CallR.imp call_isi ?_
  rintro xs H Q ⟨N, x, d, ne, rfl, hx, z, hz, q⟩
  have hz' : (match kitB (tyD d) T with
    | some b => R.ok (PyData.bool b)
    | none => .bad) = .ok z := by cases d <;> exact hz
  cases hk : kitB (tyD d) T with
  | some b =>
    rw [hk] at hz'
    have e := R.ok_inj hz'
    subst e
    exact ⟨x, .ty T, _, _, b, rfl, .ty T, ty_of hx, kit_ty hk, fin_of q (.bl _) fun _ w => nomatch w⟩
  | none => rw [hk] at hz'; cases hz'
end
end Mn
/-! Mn, part D2: list(reversed(x)). -/
namespace Mn
open PySem PySem.Spec PyProof.Rows L2
section
variable {prog : Program} {w : World} {A : Around} {E : Value → Shared → Prop} {s : Shared}
abbrev FinZ (prog : Program) (w : World) (A : Around) (Z : Result → Shared → Prop) : Fin → Shared → Prop := fun fin t => match fin with
  | .done f => Z (.ok f) t
  | .again d => d.quiet = true ∧ codeAny (model prog w) A d Z t
/-- the turned iterator's items go into the empty list at S -/
theorem ext_rev {Z : Result → Shared → Prop} {it l : Addr} {us : Array Value} (cold : A.handled = none) (hi : s.heap.IsRevIter it l ((us.size : Int) - 1)) (hl : s.heap.IsList l us) (ne : l ≠ it) (fit : us.size ≤ sizeLine) (S : Addr) (res : Value) (c : Nat)
    (hS : s.heap.get? S = some { cls := .type "list", data := .seq #[] c }) (n1 : S ≠ it) (n2 : S ≠ l)
    (k : ∀ hp tk acc c', (∀ b o, b ≠ it → b ≠ S → s.heap.get? b = some o → hp.get? b = some o) → hp.get? S = some { cls := .type "list", dict := none, data := .seq acc c', slots := #[] } → ItemsOf (fun i v => us[us.size - 1 - i]? = some v) acc us.size → Z (.ok (.ret res)) { s with heap := hp, toks := tk }) :
    wpAny (model prog w) A.in1 (Builtin.List.listExtendWith (.ref S) (.ref it) res) (FinZ prog w A Z) (fun e t => Z (.error e) t) s := by
  have walk := (Walks.listRev (prog := prog) (w := w) (A := A.in1) cold it l ne us).toS
  have kind : s.TypeIs (.ref it) "list_reverseiterator" := hi.typeIs
  have apart : S ∉ [it, l] := fun z => (List.mem_cons.mp z).elim n1 fun z => (List.mem_cons.mp z).elim n2 fun z => nomatch z
  have first : ((us.size : Nat) : Int) - 1 - ((0 : Nat) : Int) = (us.size : Int) - 1 := by omega
  have other : Builtin.List.listSameRef (.ref S) (.ref it) = false := by simp [Builtin.List.listSameRef, n1]
  unfold Builtin.List.listExtendWith
  refine wpAny_bind (wpAny_typeOf kind ?_)
  rw [other, if_neg (by decide)]
  refine wpAny_bind (wpAny_pyIter_revIter hi (wpAny_bind (wpAny_holding ?_)))
  unfold Builtin.List.listLengthHint
  refine wpAny_bind (wpAny_specialOf kind RT.nolen_lri ?_)
  show wpAny _ A.in1 (specialOf (Value.ref it) (Str.ofString "__length_hint__") >>= _) _ _ _
  refine wpAny_bind (wpAny_specialOf kind RT.hint_lri ?_)
  generalize hid : ("list_reverseiterator.__length_hint__" : String) = ident
  wp_delta
  rw [show splitId ident = some ("list_reverseiterator", "__length_hint__") by rw [← hid]; decide +kernel]
  rw [← hid]
  refine wpAny_bind (wpAny_isInstance (b := true) kind (by rw [isSubtype_type]; kernel_rfl) (wpAny_pure ?_))
  rw [if_neg (by decide)]
  refine wpAny_pure ⟨plainId_quiet F.plain_extend_loop _, ?_⟩
  refine codeAny_extend_loopS walk fit S apart res us.size 0 _ #[] c rfl (Nat.zero_le _) ⟨Nat.zero_le _, by rw [first]; exact hi, hl⟩ hS (ItemsOf.nil _) fun t acc c' moved atS items => ?_
  rw [Moved.eq_with moved]
  exact k t.heap t.toks acc c' (fun b o b1 b2 e => moved.heap b o (fun z => (List.mem_cons.mp z).elim b2 fun z => (List.mem_cons.mp z).elim b1 fun z => nomatch z) e) atS items
/-- list(a turned iterator) -/
theorem list_rev {Q : Value → Shared → Prop} {it l : Addr} {us : Array Value} (cold : A.handled = none) (hi : s.heap.IsRevIter it l ((us.size : Int) - 1)) (hl : s.heap.IsList l us) (ne : l ≠ it) (fit : us.size ≤ sizeLine)
    (k : ∀ hp tk acc c', (∀ b o, b ≠ it → s.heap.get? b = some o → hp.get? b = some o) → hp.get? s.heap.objs.size = some { cls := .type "list", dict := none, data := .seq acc c', slots := #[] } → ItemsOf (fun i v => us[us.size - 1 - i]? = some v) acc us.size →
      Q (.ref s.heap.objs.size) { s with heap := hp, toks := tk }) : wpAny (model prog w) A (call (.type "list") [.ref it]) Q E s := by
  obtain ⟨o1, g1, c1, d1⟩ := id hi
  obtain ⟨o2, g2, c2, d2⟩ := id hl
  have s1 : s.heap.objs.size ≠ it := fun z => absurd (Heap.lt_size g1) (by rw [z]; exact Nat.lt_irrefl _)
  have s2 : s.heap.objs.size ≠ l := fun z => absurd (Heap.lt_size g2) (by rw [z]; exact Nat.lt_irrefl _)
  refine callType_codes (Q₁ := fun v t => v = .ref s.heap.objs.size ∧ t = { s with heap := s.heap.push { cls := .type "list", data := .seq #[] } }) F.called_list (F.typeCall_list_1 _) F.entry_list_init (code_list_new _ ⟨rfl, rfl⟩) ?_
  rintro v t ⟨rfl, rfl⟩
  have born : (s.heap.push { cls := .type "list", data := .seq #[] }).get? s.heap.objs.size = some { cls := .type "list", data := .seq #[] } := Heap.get?_push_size _ rfl
  have old : ∀ b o, s.heap.get? b = some o → (s.heap.push { cls := .type "list", data := .seq #[] }).get? b = some o := fun b o e => Heap.get?_push_of_some _ e
  refine ⟨⟨_, born, rfl⟩, F.args_list_init_2 _ _, ?_⟩
  show wpAny _ A.in1.in1 (do let old ← Builtin.List.listItems (.ref s.heap.objs.size); Builtin.List.listUpdate (.ref s.heap.objs.size) (fun _ => #[]); letGo old.toList.reverse; Builtin.List.listExtendWith (.ref s.heap.objs.size) (.ref it) .none) _ _ _
  refine wpAny_bind ?_
  unfold Builtin.List.listItems
  refine wpAny_bind (wpAny_seqItems born rfl (wpAny_pure ?_))
  refine wpAny_bind (wpAny_updateSeq born rfl ?_)
  have bare := Heap.get?_update_self (Obj.mapSeq (fun _ => (#[] : Array Value))) born rfl
  have rest : ∀ b o, b ≠ s.heap.objs.size → s.heap.get? b = some o → ((s.heap.push { cls := .type "list", data := .seq #[] }).update s.heap.objs.size (Obj.mapSeq (fun _ => (#[] : Array Value)))).get? b = some o := fun b o nb e => (Heap.get?_update_other _ _ (Ne.symm nb)).trans (old b o e)
  refine wpAny_bind (wpAny_letGo ?_)
  refine ext_rev (A := A.in1) cold ⟨o1, rest _ _ (Ne.symm s1) g1, c1, d1⟩ ⟨o2, rest _ _ (Ne.symm s2) g2, c2, d2⟩ ne fit _ .none _ bare s1 s2 fun hp tk acc c' keep atS items => ?_
  exact ⟨rfl, k hp tk acc c' (fun b o nb e => keep b o nb (Nat.ne_of_lt (Heap.lt_size e)) (rest b o (Nat.ne_of_lt (Heap.lt_size e)) e)) atS items⟩
end
section
variable {X : Cx}
/-- list(reversed(x)), x a list: a new list -/
def tLstRev (K : PySem.W.Frag) (te : TE) : TE := fun σ H Q => te σ H fun v H1 => ∃ (a : Addr) (xs : List V), v = .ref a ∧ SqL K H1 a xs ∧ ∀ q, H1 q = none → Q (.ref q) (upd H1 q (.lst xs.reverse))
theorem pe_listRev {e : Expr} {te : TE} {p p2 pos pos2 : Pos} (hc : X.calm = true) (hg : Gl X "list") (hm : X.mg "list" = none) (hg2 : Gl X "reversed") (hm2 : X.mg "reversed" = none) (he : PE X e te) (hs : starEach [e] X.env = (false, eval e X.env) :: starEach [] X.env) :
    PE X (.Call (.Name "list" p) [.Call (.Name "reversed" p2) [e] [] pos2] [] pos) (tLstRev X.K te) := by
  refine ⟨fun pins s σ H Q I h => ?_⟩
  have inner : ∀ (R : Value → Shared → Prop), (∀ u s1, EP X pins σ (fun v H1 => ∃ (a : Addr) (xs : List V), v = .ref a ∧ SqL X.K H1 a xs ∧ ∀ q, H1 q = none → Q (.ref q) (upd H1 q (.lst xs.reverse))) u s1 → wpAny (model X.prog X.w) X.A (call (.type "reversed") [u]) R X.xe s1) →
      wpAny (model X.prog X.w) X.A (eval (.Call (.Name "reversed" p2) [e] [] pos2) X.env) R X.xe s := fun R hR =>
    Call_ (ld_blt I hg2 hm2 PyProof.Rows.boot_reversed (PyProof.Rows.callWith_type1 (args_cons (thn (he.run pins s σ H _ I h) fun u s1 q => args_nil (hR u s1 q)) hs) hs rfl))
  refine Call_ (ld_blt I hg hm boot_list (PyProof.Rows.callWith_type1 (args_cons (inner _ ?_) rfl) rfl rfl))
  rintro u s1 ⟨v, H1, I1, r1, a, xs, rfl, hq, q⟩
  cases r1
  obtain ⟨its, rv, pl, hz⟩ := I1.list hq
  refine call_reversed_list pl.isList (args_nil ?_)
  have I2 : Inv X pins σ H1 { s1 with heap := s1.heap.push (revObj a ((its.toArray.size : Int) - 1)) } := I1.kept (t' := s1.toks) fun b o e => Heap.get?_push_of_some _ e
  obtain ⟨f0, f1, f2, f3, f4, f5⟩ := I1.fpOk (H' := H1) (b := s1.heap.objs.size) (Nat.le_refl _) (I1.hok.fresh (Nat.le_refl _))
  obtain ⟨ol, hol, _⟩ := id pl.isList
  refine list_rev (s := { s1 with heap := s1.heap.push (revObj a ((its.toArray.size : Int) - 1)) }) (I1.ok.hd hc) ⟨_, Heap.get?_push_size _ rfl, rfl, rfl⟩ (pl.isList.push _) (Nat.ne_of_lt (Heap.lt_size hol)) (by rw [List.size_toArray, ← rv.length]; exact hz) fun hp tk acc c' keep atS items => ?_
  have keep' : ∀ b o, b ≠ s1.heap.objs.size → (s1.heap.push (revObj a ((its.toArray.size : Int) - 1))).get? b = some o → hp.get? b = some o := keep
  have atS' : hp.get? (s1.heap.push (revObj a ((its.toArray.size : Int) - 1))).objs.size = some { cls := .type "list", dict := none, data := .seq acc c', slots := #[] } := atS
  have nq : s1.heap.objs.size ≠ (s1.heap.push (revObj a ((its.toArray.size : Int) - 1))).objs.size := by rw [Heap.size_push]; exact Nat.ne_of_lt (Nat.lt_succ_self _)
  have fq : H1 (s1.heap.push (revObj a ((its.toArray.size : Int) - 1))).objs.size = none := I2.hok.fresh (Nat.le_refl _)
  generalize hh2 : s1.heap.push (revObj a ((its.toArray.size : Int) - 1)) = h2 at I2 keep' atS' nq fq
  have lay : Inv X pins σ (upd H1 h2.objs.size (.lst xs.reverse)) { s1 with heap := h2.push { cls := .type "list", dict := none, data := .seq acc c', slots := #[] } } := by
    refine I2.laid (t' := s1.toks) (fun b o e => Heap.get?_push_of_some _ e) (Nat.le_refl _) (show ObjOk X.prog X.w _ _ _ (.lst xs.reverse) from ⟨by rw [List.length_reverse]; exact hz, acc.toList, c', RT.vals_rev rv items, ?_⟩)
    rw [Array.toArray_toList]
    exact Heap.get?_push_size _ rfl
  refine ⟨.ref h2.objs.size, _, lay.turned (t' := tk) (fun b o hb e => ?_) (by rw [upd_ne nq]; exact f0) f1 f3 f4 f5, rfl, q _ fq⟩
  by_cases hbq : b = h2.objs.size
  · subst hbq
    rw [Heap.get?_push_size _ rfl] at e
    cases e
    exact atS'
  · refine keep' b o hb ?_
    exact (Heap.get?_push_cases e).resolve_left fun z => hbq z.1
end
end Mn
/-! Mn, part E: which text a term stands for; what is asked of the surroundings. -/
namespace Mn
open PySem PySem.Spec PyProof.Rows L2

/-! ### a term's grade; what stands in it -/
def gr (M : Os) : ME → Gr
  | .var i => if i ∈ M then .loose else .strict
  | .ife _ a b => if gr M a = .loose ∨ gr M b = .loose then .loose else .strict
  | .ix _ _ => .strict
  | .gl _ _ => .strict
  | _ => .fresh
/-- no bare owned name among the arguments -/
def noL (M : Os) : ME → Bool
  | .cons e es => decide (gr M e ≠ .loose) && noL M es
  | _ => true
def visB (sc : Scope) (x : Str) : Bool := match sc.names.lookup x with
  | some .local => true
  | some .cell => true
  | some .free => true
  | _ => false
def glB (sc : Scope) (x : Str) : Bool := match sc.names.lookup x with
  | some .globalImplicit => true
  | _ => false
def nmB (x : Str) : Bool := !(x == ("__debug__" : Str)) && !(x == ("__classdict__" : Str))
/-- a name that the frame stores -/
def locB (sc : Scope) (fn : Str → Bool) (x : Str) : Bool := match sc.names.lookup x with
  | some .local => true
  | some .cell => fn x
  | _ => false
def bOpB : BOp → Operator → Bool
  | .add, .Add | .sub, .Sub | .mul, .Mult | .rep, .Mult | .fdiv, .FloorDiv | .mod, .Mod | .pow, .Pow | .shl, .LShift | .shr, .RShift | .band, .BitAnd | .bor, .BitOr | .bxor, .BitXor => true
  | _, _ => false
def cOpB : COp → CmpOp → Bool
  | .eq, .Eq | .ne, .NotEq | .lt, .Lt | .le, .LtE | .gt, .Gt | .ge, .GtE | .mem, .In | .nmem, .NotIn | .isN, .Is | .notN, .IsNot => true
  | _, _ => false
/-- the left side of a list * int stands unlocked: a new list, or an owned one -/
def trkB (M : Os) (m : ME) : Bool := match m with
  | .var i => decide (i ∈ M)
  | m => decide (gr M m = .fresh)
/-- a loop's target -/
def isT (N : List Str) (sc : Scope) (fn : Str → Bool) (tg : List Nat) (tup : Bool) (e : Expr) : Bool :=
  match tup, e with
  | false, .Name x _ => (match tg with
    | [i] => decide (N[i]? = some x) && locB sc fn x
    | _ => false)
  | true, .Tuple es _ _ => isTs N sc fn tg es
  | _, _ => false
where
  isTs (N : List Str) (sc : Scope) (fn : Str → Bool) : List Nat → List Expr → Bool
    | [], [] => true
    | i :: is, .Name x _ :: es => decide (N[i]? = some x) && locB sc fn x && isTs N sc fn is es
    | _, _ => false
/-- built-in functions of one argument: name, is it a type -/
def biName : BI → Option (Str × Bool)
  | .len => some ("len", false)
  | .abs => some ("abs", false)
  | .sum => some ("sum", false)
  | .sorted => some ("sorted", false)
  | .all => some ("all", false)
  | .minL => some ("min", false)
  | .maxL => some ("max", false)
  | .list => some ("list", true)
  | .int => some ("int", true)
  | .strI => some ("str", true)
  | _ => none
/-- built-ins that are methods without an argument -/
def biMeth : BI → Option Str
  | .bits => some "bit_length"
  | .upper => some "upper"
  | .isdig => some "isdigit"
  | _ => none
def biName2 : BI → Option Str
  | .min2 => some "min"
  | .max2 => some "max"
  | _ => none
def tyName : List String := ["int", "bool", "tuple", "list", "str"]
/-- the names that the text leaves to the built-ins -/
def biNames : List Str := ["len", "abs", "sum", "sorted", "all", "min", "max", "list", "int", "range", "enumerate", "zip", "reversed", "isinstance", "bool", "tuple", "str", "ValueError"]
def oneArg : Expr → Option (Str × Expr)
  | .Call (.Name z _) [e] [] _ => some (z, e)
  | _ => none
theorem oneArg_of {u e : Expr} {z : Str} (h : oneArg u = some (z, e)) : ∃ pz pq, u = .Call (.Name z pz) [e] [] pq := by
  unfold oneArg at h
  split at h
  · cases h
    exact ⟨_, _, rfl⟩
  · cases h
/-- the argument of a call to a built-in of one -/
def biPick (f : BI) (sc : Scope) : Expr → Option Expr
  | .Call (.Attribute (.Name x px) at_ ap) [] [] cp => if biMeth f = some at_ ∧ ap.endLine = cp.line then some (.Name x px) else none
  | .Call (.Name y _) l [] _ => if (glB sc y && nmB y) = true then (match f, l with
    | .isi T, [e, .Name t _] => if y = ("isinstance" : Str) ∧ t = (T : Str) ∧ T ∈ tyName ∧ glB sc t = true ∧ nmB t = true then some e else none
    | .rev, [u] => (match oneArg u with
      | some (z, e) => if y = ("list" : Str) ∧ z = ("reversed" : Str) ∧ glB sc z = true then some e else none
      | none => none)
    | .listRg1, [u] => (match oneArg u with
      | some (z, e) => if y = ("list" : Str) ∧ z = ("range" : Str) ∧ glB sc z = true then some e else none
      | none => none)
    | f, [e] => (match biName f with
      | some (n, _) => if y = n then some e else none
      | none => none)
    | _, _ => none) else none
  | .Call (.Name y _) [e] [⟨some kx, .Constant (.int n) _ _, _⟩] _ => if (glB sc y && nmB y) = true ∧ kx = ("default" : Str) then (match f with
    | .maxD d => if y = ("max" : Str) ∧ n = d then some e else none
    | .minD d => if y = ("min" : Str) ∧ n = d then some e else none
    | _ => none) else none
  | _ => none
def excAll : List Str := ["Known", "NoAmount", "LeanError", "NoClaimer", "NoClaim", "NoEstate", "NoGroup", "NoLine", "NoOrder", "NoName", "NoRatio", "NoRule", "NoText", "NoSharing", "TooMany"]
def tstAll : List Str := excAll ++ [("ValueError" : Str)]
/-- the classes that a test names -/
def clsNames : Expr → Option (List Str)
  | .Name x _ => some [x]
  | .Tuple es _ _ => es.mapM fun e => match e with
    | .Name x _ => some x
    | _ => none
  | _ => none
def x2Name : X2 → Option Str
  | .part => some "partition"
  | .find => some "find"
  | .count => some "count"
  | .join => some "join"
  | .split => some "split"
  | .lindex => some "index"
  | .fs _ => none
def noSuper : Expr → Bool
  | .Call (.Name _ _) [] [] _ => false
  | _ => true
def x2Pick (f : X2) : Expr → Option (Expr × Expr)
  | .Call (.Attribute o m ap) [y] [] cp => if x2Name f = some m ∧ ap.endLine = cp.line ∧ noSuper o = true then some (o, y) else none
  | .JoinedStr [.FormattedValue x j none _, .Constant (.str s) _ _, .FormattedValue y k none _] _ => if f = .fs s ∧ j = -1 ∧ k = -1 then some (x, y) else none
  | _ => none
mutual
def isE (M : Os) (N : List Str) : ME → Scope → Expr → Bool
  | .var i, sc, .Name x _ => decide (N[i]? = some x) && visB sc x && nmB x && decide (i ∉ M.e)
  | .int n, _, .Constant (.int k) _ _ => decide (n = k)
  | .str n, _, .Constant (.str k) _ _ => decide (n = k)
  | .bl n, _, .Constant (.bool k) _ _ => decide (n = k)
  | .non, _, .Constant .none _ _ => true
  | .gl x _, sc, .Name y _ => decide (x = y) && glB sc x && nmB x
  | .tup es, sc, .Tuple l _ _ => isEs M N es sc l && noL M es
  | .lst es, sc, .List l _ => isEs M N es sc l && noL M es
  | .bin o a b, sc, .BinOp x p y _ => bOpB o p && isE M N a sc x && isE M N b sc y && (match o with | .rep => trkB M a | _ => true)
  | .neg a, sc, .UnaryOp .USub x _ => isE M N a sc x
  | .nt a, sc, .UnaryOp .Not x _ => isE M N a sc x
  | .andE es, sc, .BoolOp .And l _ => isBs M N es sc l
  | .orE es, sc, .BoolOp .Or l _ => isBs M N es sc l
  | .cmp o a b, sc, .Compare x [p] [y] _ => cOpB o p && isE M N a sc x && isE M N b sc y
  | .chn o a b q c, sc, .Compare x [p, r] [y, z] _ => cOpB o p && cOpB q r && isE M N a sc x && isE M N b sc y && isE M N c sc z
  | .chn3 o a b q c t d, sc, .Compare x [p, r, s] [y, z, u] _ => cOpB o p && cOpB q r && cOpB t s && isE M N a sc x && isE M N b sc y && isE M N c sc z && isE M N d sc u
  | .dget2 a b c d e f, sc, .Call (.Attribute (.Dict [some (.Constant (.str a') _ _), some (.Constant (.str c') _ _)] [.Constant (.str b') _ _, .Constant (.str d') _ _] _) m ap) [x, y] [] cp => decide (a = a') && decide (b = b') && decide (c = c') && decide (d = d') && decide (a ≠ c) && decide (m = ("get" : Str)) && (ap.endLine == cp.line) && isE M N e sc x && isE M N f sc y
  | .ife c a b, sc, .IfExp x y z _ => isE M N c sc x && isE M N a sc y && isE M N b sc z
  | .ix a i, sc, .Subscript x y _ => isE M N a sc x && isE M N i sc y
  | .sl a lo hi, sc, .Subscript x (.Slice l h none _) _ => isE M N a sc x && isO M N lo sc l && isO M N hi sc h
  | .call chk _ x es, sc, .Call (.Name y _) (e :: l) [] _ => decide (x = y) && glB sc x && nmB x && isEs M N es sc (e :: l) && (chk || noL M es)
  | .isx i cs, sc, .Call (.Name y _) [.Name n _, t] [] _ => decide (y = ("isinstance" : Str)) && glB sc y && decide (N[i]? = some n) && visB sc n && nmB n && decide (cs.length ≤ 1000) && decide (clsNames t = some cs) && cs.all (fun c => glB sc c && nmB c && decide (c ∈ tstAll))
  | .callx _ x i, sc, .Call (.Name y _) [.Name n _] [] _ => decide (x = y) && glB sc x && nmB x && decide (N[i]? = some n) && visB sc n && nmB n
  | .bi f a, sc, e => (match biPick f sc e with
    | some x => isE M N a sc x
    | none => false)
  | .bi2 f a b, sc, .Call (.Name y _) [e, e2] [] _ => glB sc y && nmB y && decide (biName2 f = some y) && isE M N a sc e && isE M N b sc e2
  | .x2 f a b, sc, e => (match x2Pick f e with
    | some p => isE M N a sc p.1 && isE M N b sc p.2
    | none => false)
  | .comp own tg tup it cond elt, sc, .ListComp e [⟨t, i, ifs, 0⟩] scope _ => blkC N sc scope own && tg.all (fun j => decide (j ∈ own.map (·.2))) && tg.all (fun j => decide (j ∉ M)) && (own.map (·.2)).all (fun j => decide (j ∉ M)) &&
      isT N (relS scope sc) (fun x => scope.names.lookup x == some .cell) tg tup t && isI M N it sc t i && isC M N cond (relS scope sc) ifs && isE M N elt (relS scope sc) e && decide (gr M elt ≠ .loose)
  | _, _, _ => false
def isEs (M : Os) (N : List Str) : ME → Scope → List Expr → Bool
  | .nil, _, [] => true
  | .cons e es, sc, x :: l => isE M N e sc x && isEs M N es sc l
  | _, _, _ => false
def isBs (M : Os) (N : List Str) : ME → Scope → List Expr → Bool
  | .cons e .nil, sc, [x] => isE M N e sc x
  | .cons e es, sc, x :: y :: l => isE M N e sc x && isBs M N es sc (y :: l)
  | _, _, _ => false
def isC (M : Os) (N : List Str) : ME → Scope → List Expr → Bool
  | .nil, _, [] => true
  | .cons e .nil, sc, [x] => isE M N e sc x
  | _, _, _ => false
def isO (M : Os) (N : List Str) : ME → Scope → Option Expr → Bool
  | .nil, _, none => true
  | .cons e .nil, sc, some x => isE M N e sc x
  | _, _, _ => false
def isI (M : Os) (N : List Str) : ME → Scope → Expr → Expr → Bool
  | .iSeq a, sc, _, e => isE M N a sc e
  | .iRg1 a, sc, _, .Call (.Name y _) [e] [] _ => decide (y = ("range" : Str)) && glB sc "range" && isE M N a sc e
  | .iRg2 a b, sc, _, .Call (.Name y _) [e, e2] [] _ => decide (y = ("range" : Str)) && glB sc "range" && isE M N a sc e && isE M N b sc e2
  | .iRg3 a b c, sc, _, .Call (.Name y _) [e, e2, e3] [] _ => decide (y = ("range" : Str)) && glB sc "range" && isE M N a sc e && isE M N b sc e2 && isE M N c sc e3
  | .iEnum a, sc, .Tuple _ _ _, .Call (.Name y _) [e] [] _ => decide (y = ("enumerate" : Str)) && glB sc "enumerate" && isE M N a sc e
  | .iZip a b, sc, .Tuple _ _ _, .Call (.Name y _) [e, e2] [] _ => decide (y = ("zip" : Str)) && glB sc "zip" && isE M N a sc e && isE M N b sc e2
  | .iRev a, sc, _, .Call (.Name y _) [e] [] _ => decide (y = ("reversed" : Str)) && glB sc "reversed" && isE M N a sc e
  | _, _, _, _ => false
end
/-- what is asked of the surroundings: defs, constants, exceptions raised, classes tested, defs that are handed an exception -/
structure Sur where
  fn : Str → (List D → R D) → Prop
  gl : Str → D → Prop
  ex : Str → Prop
  ix : Prop
  fx : Str → (List D → R D) → Prop
  nf : Str → (List D → R D) → Prop
/-- what is asked of the defs called and the constants read -/
def OkM (S : Sur) : ME → Prop
  | .call _ F x es => S.fn x F ∧ OkM S es
  | .gl x d => S.gl x d
  | .isx _ _ => S.ix
  | .callx F x _ => S.fx x F
  | .cons a b | .bin _ a b | .cmp _ a b | .ix a b | .bi2 _ a b | .x2 _ a b | .iRg2 a b | .iZip a b => OkM S a ∧ OkM S b
  | .tup a | .lst a | .neg a | .nt a | .andE a | .orE a | .bi _ a | .iSeq a | .iRg1 a | .iEnum a | .iRev a => OkM S a
  | .dget2 _ _ _ _ e f => OkM S e ∧ OkM S f
  | .chn3 _ a b _ c _ d => OkM S a ∧ OkM S b ∧ OkM S c ∧ OkM S d
  | .chn _ a b _ c | .ife a b c | .sl a b c | .iRg3 a b c | .comp _ _ _ a b c => OkM S a ∧ OkM S b ∧ OkM S c
  | _ => True

/-! ### what a def is worth -/
/-- an end by data, with exceptions -/
def Post (g : Gr) (K : PySem.W.Frag) (H : Hp) (N : Addr → Prop) (E : XK) (r : R D) (Q : VK) : Prop := match r with
  | .ok d => ∀ v H', Same H H' → RpG g K H H' N v d → Q v H'
  | .exc c => ∀ H', Same H H' → E (.ref (He.ga K c)) none H'
  | .bad => False
/-- the promise of a def that is worth F -/
def spD (K : PySem.W.Frag) (n : Nat) (F : List D → R D) : Sp := fun vs H Q E => vs.length = n ∧ ∃ N ds, (∀ b, N b → H b ≠ none) ∧ RpAll K H N vs ds ∧ Post .fresh K H N E (F ds) Q
def HasFn (P : Program) (w : World) (K : PySem.W.Frag) (mg : Str → Option Value) (base : Heap) (k : Nat) (x : Str) (F : List D → R D) : Prop :=
  ∃ f fd ps, FnOk P w K mg base (L2.CX P w) k f fd ps (spD K ps.length F) ∧ (∀ ds, F ds ≠ .bad → ds.length = ps.length) ∧ mg x = some (.ref f) ∧ PySem.W.keepIn K (.ref f) = true ∧ Binds K fd ps []
def HasGl (K : PySem.W.Frag) (mg : Str → Option Value) (x : Str) (d : D) : Prop := ∃ u v, mg x = some u ∧ RelV v u ∧ (∀ H N, Rp K H N v d) 
def HasEx (K : PySem.W.Frag) (mg : Str → Option Value) (c : Str) : Prop := (He.Fa.exc c).ok K = true ∧ mg c = some (.ref (He.ga K c))
/-- a class as a value -/
def clsV (K : PySem.W.Frag) (C : Str) : Value := if C = ("ValueError" : Str) then .type "ValueError" else .ref (He.ga K C)
/-- what the module says of its exception classes -/
structure XAll (K : PySem.W.Frag) (mg : Str → Option Value) : Prop where
  cls : ∀ c ∈ excAll, ExcC K (He.ga K c)
  kit : ∀ c ∈ excAll, ∀ C ∈ tstAll, PySem.W.kitOne K (.ref (He.ga K c)) (clsV K C) = some (subB c C)
  exm : ∀ c ∈ excAll, ∀ C ∈ tstAll, PySem.W.exmOne K (.ref (He.ga K c)) (clsV K C) = some (subB c C)
  nm : ∀ c ∈ excAll, mg c = some (.ref (He.ga K c))
  ve : mg "ValueError" = none
/-- the context pins the exception a, of class c -/
def HotX (X : Cx) (a : Addr) (c : Str) : Prop := c ∈ excAll ∧ ∃ oe, (a, oe) ∈ X.pn ∧ Zc (.ref (He.ga X.K c)) none oe ∧ ∃ vs, oe.data = .fields vs
/-- a def that is handed a caught exception -/
def FnX (P : Program) (w : World) (K : PySem.W.Frag) (mg : Str → Option Value) (base : Heap) (k : Nat) (f : Addr) (fd : FuncData) (x : Str) (F : List D → R D) : Prop :=
  ∀ (A : Around) (outer : List PySem.Env) (s : Shared) (H : Hp) (args : Args) (Q : VK) (p : Addr × Obj) (c : Str) (N : Addr → Prop), L2H.RoomH k A → L2H.PinOk outer H s p → c ∈ excAll → Zc (.ref (He.ga K c)) none p.2 → (∃ vs, p.2.data = .fields vs) →
    Env0 P w K mg base A outer s H → BindsTo s fd args [(x, .ref p.1)] → (∀ b, N b → H b ≠ none) → Post .fresh K H N (fun _ _ _ => False) (F [excD c]) Q → codeAny (model P w) A (.call (.ref f) args) (CR (L2.CX P w) outer P w H s Q fun _ _ _ => False) s
def HasFx (P : Program) (w : World) (K : PySem.W.Frag) (mg : Str → Option Value) (base : Heap) (k : Nat) (x : Str) (F : List D → R D) : Prop :=
  ∃ f fd y, FnX P w K mg base k f fd y F ∧ mg x = some (.ref f) ∧ PySem.W.keepIn K (.ref f) = true ∧ Binds K fd [y] []
theorem HasFx.mono {P : Program} {w : World} {K : PySem.W.Frag} {mg : Str → Option Value} {base : Heap} {j k : Nat} {x : Str} {F : List D → R D} (h : HasFx P w K mg base j x F) (l : j ≤ k) : HasFx P w K mg base k x F := by
  obtain ⟨f, fd, ps, h1, h2⟩ := h
  exact ⟨f, fd, ps, fun A outer s H args Q p c N r => h1 A outer s H args Q p c N (r.mono l), h2⟩
/-- an end by new data -/
def PostN (K : PySem.W.Frag) (H : Hp) (E : XK) (r : R D) (Q : VK) : Prop := match r with
  | .ok d => ∀ v H', Same H H' → Rn K H' H v d → Q v H'
  | .exc c => ∀ H', Same H H' → E (.ref (He.ga K c)) none H'
  | .bad => False
/-- the promise of a def whose value is new to any depth -/
def spN (K : PySem.W.Frag) (n : Nat) (F : List D → R D) : Sp := fun vs H Q E => vs.length = n ∧ ∃ N ds, (∀ b, N b → H b ≠ none) ∧ RpAll K H N vs ds ∧ PostN K H E (F ds) Q
def HasNf (P : Program) (w : World) (K : PySem.W.Frag) (mg : Str → Option Value) (base : Heap) (k : Nat) (x : Str) (F : List D → R D) : Prop :=
  ∃ f fd ps, FnOk P w K mg base (L2.CX P w) k f fd ps (spN K ps.length F) ∧ (∀ ds, F ds ≠ .bad → ds.length = ps.length) ∧ mg x = some (.ref f) ∧ PySem.W.keepIn K (.ref f) = true ∧ Binds K fd ps []
theorem HasNf.mono {P : Program} {w : World} {K : PySem.W.Frag} {mg : Str → Option Value} {base : Heap} {j k : Nat} {x : Str} {F : List D → R D} (h : HasNf P w K mg base j x F) (l : j ≤ k) : HasNf P w K mg base k x F := by
  obtain ⟨f, fd, ps, h1, h2⟩ := h
  exact ⟨f, fd, ps, h1.mono l, h2⟩
theorem HasNf.fn {P : Program} {w : World} {K : PySem.W.Frag} {mg : Str → Option Value} {base : Heap} {k : Nat} {x : Str} {F : List D → R D} (h : HasNf P w K mg base k x F) : HasFn P w K mg base k x F := by
  obtain ⟨f, fd, ps, h1, h2⟩ := h
  refine ⟨f, fd, ps, h1.imp ?_, h2⟩
  rintro vs H Q E ⟨hl, N, ds, ne, ra, post⟩
  refine ⟨hl, N, ds, ne, ra, ?_⟩
  cases e : F ds with
  | ok d => rw [e] at post; exact fun v H' s r => post v H' s (Rn.fresh ne r)
  | exc c => rw [e] at post; exact post
  | bad => rw [e] at post; exact post.elim
abbrev sur (P : Program) (w : World) (K : PySem.W.Frag) (mg : Str → Option Value) (base : Heap) (k : Nat) : Sur := ⟨HasFn P w K mg base k, HasGl K mg, HasEx K mg, XAll K mg, HasFx P w K mg base k, HasNf P w K mg base k⟩
theorem HasFn.mono {P : Program} {w : World} {K : PySem.W.Frag} {mg : Str → Option Value} {base : Heap} {j k : Nat} {x : Str} {F : List D → R D} (h : HasFn P w K mg base j x F) (l : j ≤ k) : HasFn P w K mg base k x F := by
  obtain ⟨f, fd, ps, h1, h2⟩ := h
  exact ⟨f, fd, ps, h1.mono l, h2⟩
/-- a context in which terms are walked -/
structure Good (X : Cx) (k : Nat) : Prop where
  calm : X.calm = true
  room : Room k X.A
  kind : X.env.scope.kind = .function
  nd : X.N.Nodup
  bi : ∀ x ∈ biNames, X.mg x = none
abbrev OkX (X : Cx) (k : Nat) (m : ME) : Prop := OkM (sur X.prog X.w X.K X.mg X.base k) m
/-- a reading by data -/
def tE (g : Gr) (K : PySem.W.Frag) (M : Ow) (W : WX) (f : Env → R D) : TE := fun σ H Q => ∃ ρ N, RelE K M N ρ σ H ∧ Post g K H N (fun c d H' => W c d σ H') (f ρ) Q
def tT (K : PySem.W.Frag) (M : Ow) (W : WX) (f : Env → R Bool) : TT := fun σ H Q => ∃ ρ N, RelE K M N ρ σ H ∧ match f ρ with
  | .ok b => ∀ H', Same H H' → Q b H'
  | .exc c => ∀ H', Same H H' → W (.ref (He.ga K c)) none σ H'
  | .bad => False
inductive RpAllL (K : PySem.W.Frag) (H : Hp) (N : Addr → Prop) : List V → List D → Prop
  | nil : RpAllL K H N [] []
  | cons {v : V} {vs : List V} {d : D} {ds : List D} : RpL K H N v d → RpAllL K H N vs ds → RpAllL K H N (v :: vs) (d :: ds)
def RpAllB (b : Bool) (K : PySem.W.Frag) (H : Hp) (N : Addr → Prop) (vs : List V) (ds : List D) : Prop := match b with
  | true => RpAll K H N vs ds
  | false => RpAllL K H N vs ds
def tA (b : Bool) (K : PySem.W.Frag) (M : Ow) (W : WX) (f : Env → R (List D)) : TA := fun σ H Q => ∃ ρ N, RelE K M N ρ σ H ∧ match f ρ with
  | .ok ds => ∀ vs H', Same H H' → RpAllB b K H' N vs ds → Q vs H'
  | .exc c => ∀ H', Same H H' → W (.ref (He.ga K c)) none σ H'
  | .bad => False
/-- what a walk hands out: s: all but owned lists may change meanwhile -/
def ItOk (s : Bool) (K : PySem.W.Frag) (N : Addr → Prop) (J : It) (ds : List D) (H : Hp) : Prop := ∀ H' N', Ext N H N' H' → (s = false → Same H H') →
  (∀ i d, ds[i]? = some d → J.go i H' ∧ ∀ x H'', J.yld i H' x H'' → Same H' H'' ∧ Rp K H'' N' x d) ∧ J.stop ds.length H'
def tI (s : Bool) (K : PySem.W.Frag) (M : Ow) (W : WX) (f : Env → R (List D)) : TI := fun σ H R' => ∃ ρ N, RelE K M N ρ σ H ∧ match f ρ with
  | .ok ds => ∀ J H1, Same H H1 → ItOk s K N J ds H1 → R' J H1
  | .exc c => ∀ H', Same H H' → W (.ref (He.ga K c)) none σ H'
  | .bad => False
/-- an iterable that is no bare owned name -/
def stI (M : Os) : ME → Bool
  | .iSeq a | .iEnum a | .iRev a => decide (gr M a ≠ .loose)
  | .iZip a b => decide (gr M a ≠ .loose) && decide (gr M b ≠ .loose)
  | _ => true
end Mn
/-! Mn, part F: terms mean what they say. -/
namespace Mn
open PySem PySem.Spec PyProof.Rows L2

/-! ### readings -/
section
variable {X : Cx} {e : Expr}
theorem PE.imp {t t' : TE} (h : PE X e t) (k : ∀ σ H Q, t' σ H Q → t σ H Q) : PE X e t' := ⟨fun pins s σ H Q I q => h.run pins s σ H Q I (k _ _ _ q)⟩
theorem PT.imp {t t' : TT} (h : PT X e t) (k : ∀ σ H Q, t' σ H Q → t σ H Q) : PT X e t' := ⟨fun pins s σ H Q I q => h.run pins s σ H Q I (k _ _ _ q)⟩
theorem PW.imp {t t' : TT} (h : PW X e t) (k : ∀ σ H Q, t' σ H Q → t σ H Q) : PW X e t' := ⟨fun wh pins s σ H Q I q => h.run wh pins s σ H Q I (k _ _ _ q)⟩
theorem PA.imp {es : List Expr} {t t' : TA} (h : PA X es t) (k : ∀ σ H Q, t' σ H Q → t σ H Q) : PA X es t' := ⟨fun pos pins s σ H Q I q => h.run pos pins s σ H Q I (k _ _ _ q)⟩
theorem PI.imp {tg : Expr} {t t' : TI} (h : PI X tg e t) (k : ∀ σ H Q, t' σ H Q → t σ H Q) : PI X tg e t' := ⟨fun pins s σ H Q I q => h.run pins s σ H Q I (k _ _ _ q)⟩
theorem PI.or {tg : Expr} {t t' : TI} (h : PI X tg e t) (h' : PI X tg e t') : PI X tg e (fun σ H Q => t σ H Q ∨ t' σ H Q) := ⟨fun pins s σ H Q I q => q.elim (h.run pins s σ H Q I) (h'.run pins s σ H Q I)⟩
end
section
variable {K : PySem.W.Frag} {M : Ow} {W : WX} {g g' : Gr}
/-- what comes first, then the rest -/
theorem tE_run {f : Env → R D} {ρ : Env} {N : Addr → Prop} {σ : L2.St} {H : Hp} {Q : VK} (r : RelE K M N ρ σ H) (hx : ∀ c, f ρ = .exc c → ∀ H', Same H H' → W (.ref (He.ga K c)) none σ H') (hb : f ρ ≠ .bad)
    (hk : ∀ d, f ρ = .ok d → ∀ v H', Same H H' → RpG g K H H' N v d → Q v H') : tE g K M W f σ H Q := by
  refine ⟨ρ, N, r, ?_⟩
  cases h : f ρ with
  | ok d => exact hk d h
  | exc c => exact hx c h
  | bad => exact absurd h hb
theorem tE_loose {f : Env → R D} {σ : L2.St} {H : Hp} {Q : VK} (h : tE .loose K M W f σ H Q) : tE g K M W f σ H Q := by
  obtain ⟨ρ, N, r, h⟩ := h
  refine ⟨ρ, N, r, ?_⟩
  cases q : f ρ with
  | ok d =>
    rw [q] at h
    exact fun v H' s k => h v H' s k.l
  | exc c =>
    rw [q] at h
    exact h
  | bad =>
    rw [q] at h
    exact h
theorem tE_strict {f : Env → R D} {σ : L2.St} {H : Hp} {Q : VK} (hg : g ≠ .loose) (h : tE .strict K M W f σ H Q) : tE g K M W f σ H Q := by
  obtain ⟨ρ, N, r, h⟩ := h
  refine ⟨ρ, N, r, ?_⟩
  cases q : f ρ with
  | ok d =>
    rw [q] at h
    exact fun v H' s k => h v H' s (k.s hg)
  | exc c =>
    rw [q] at h
    exact h
  | bad =>
    rw [q] at h
    exact h
theorem RpAllL.of {H : Hp} {N : Addr → Prop} : ∀ {ds : List D} {vs : List V}, RpAll K H N vs ds → RpAllL K H N vs ds
  | [], _, h => by cases h; exact .nil
  | d :: ds, _, h => by
    cases h with
    | cons h1 h2 => exact .cons (.inl h1) (RpAllL.of h2)
theorem RpAllB.l {b : Bool} {H : Hp} {N : Addr → Prop} {ds : List D} {vs : List V} (h : RpAllB b K H N vs ds) : RpAllL K H N vs ds := match b, h with
  | true, h => RpAllL.of h
  | false, h => h
theorem RpL.off {H : Hp} {N : Addr → Prop} {d : D} {v : V} (h : RpL K H N v d) : Rp K H (fun _ => False) v d := by
  have z : ∀ {d : D} {v : V}, Rp K H N v d → Rp K H (fun _ => False) v d := fun {d v} h => Rp.less (fun _ _ z => z.elim) d v h
  rcases h with h | h
  · exact z h
  · cases d with
    | list ds =>
      obtain ⟨a, xs, rfl, n, h1, h2⟩ := h
      exact .lst (.inl ⟨id, .inl h1⟩) (RpAll.less (fun _ _ z => z.elim) _ _ h2)
    | _ => exact z h
theorem RpAllL.off {H : Hp} {N : Addr → Prop} : ∀ {ds : List D} {vs : List V}, RpAllL K H N vs ds → RpAll K H (fun _ => False) vs ds
  | [], _, h => by cases h; exact .nil
  | d :: ds, _, h => by
    cases h with
    | cons h1 h2 => exact .cons h1.off (RpAllL.off h2)
theorem RpAllL.length {H : Hp} {N : Addr → Prop} : ∀ {ds : List D} {vs : List V}, RpAllL K H N vs ds → vs.length = ds.length
  | [], _, h => by cases h; rfl
  | d :: ds, _, h => by
    cases h with
    | cons h1 h2 => rw [List.length_cons, List.length_cons, RpAllL.length h2]
/-- data without lists is not held back -/
theorem noL_rp {H : Hp} {N N' : Addr → Prop} : ∀ {d : D} {v : V}, flatR.noL d = true → Rp K H N v d → Rp K H N' v d := by
  have flat : ∀ {d : D} {v : V}, flatD d = true → Rp K H N v d → Rp K H N' v d := fun {d v} h r => by
    cases r <;> first | (cases h; done) | constructor
  have flats : ∀ {ds : List D} {vs : List V}, ds.all flatD = true → RpAll K H N vs ds → RpAll K H N' vs ds := by
    intro ds
    induction ds with
    | nil => intro vs _ r; cases r; exact .nil
    | cons d ds ih =>
      intro vs h r
      rw [List.all_cons, Bool.and_eq_true] at h
      cases r with
      | cons r1 r2 => exact .cons (flat h.1 r1) (ih h.2 r2)
  intro d v h r
  cases r with
  | tup h1 h2 => exact .tup h1 (flats h h2)
  | lst _ _ => cases h
  | _ => constructor
theorem noL_rps {H : Hp} {N N' : Addr → Prop} : ∀ {ds : List D} {vs : List V}, ds.all flatR.noL = true → RpAll K H N vs ds → RpAll K H N' vs ds
  | [], _, _, r => by cases r; exact .nil
  | d :: ds, _, h, r => by
    rw [List.all_cons, Bool.and_eq_true] at h
    cases r with
    | cons r1 r2 => exact .cons (noL_rp h.1 r1) (noL_rps h.2 r2)
/-- a fresh flat value, whatever was forbidden -/
theorem flat_fresh {H H' : Hp} {N N' : Addr → Prop} {d : D} {v : V} (ne : ∀ b, N' b → H b ≠ none) (h : flatR d = true) (r : RpG .fresh K H H' N v d) : RpG .fresh K H H' N' v d := by
  obtain ⟨r1, r2⟩ := r
  cases d with
  | list ds =>
    obtain ⟨a, xs, e, hn, hx, ra⟩ := r2 ds rfl
    have ra' := noL_rps (N' := N') h ra
    subst e
    exact ⟨.lst (.inl ⟨fun z => ne a z hn, .inl hx⟩) ra', fun ds' e => by
      injection e with e
      subst e
      exact ⟨a, xs, rfl, hn, hx, noL_rps h ra⟩⟩
  | _ => exact ⟨noL_rp h r1, fun _ z => nomatch z⟩
end

/-! ### what the text says of a term -/
section
variable {M : Os} {N : List Str} {sc : Scope}
theorem isE_star {x : Expr} {p : Pos} : ∀ m : ME, isE M N m sc (.Starred x p) = false
  | .var _ | .int _ | .str _ | .bl _ | .non | .gl _ _ | .nil | .cons _ _ | .tup _ | .lst _ | .bin _ _ _ | .neg _ | .nt _ | .andE _ | .orE _ | .cmp _ _ _ | .chn _ _ _ _ _ | .chn3 _ _ _ _ _ _ _ | .dget2 _ _ _ _ _ _ | .x2 _ _ _ | .ife _ _ _ | .ix _ _ | .sl _ _ _ | .call _ _ _ _ | .bi _ _ | .bi2 _ _ _ | .comp _ _ _ _ _ _ | .iSeq _ | .iRg1 _ | .iRg2 _ _ | .iRg3 _ _ _ | .iEnum _ | .iZip _ _ | .iRev _ | .isx _ _ | .callx _ _ _ => rfl
theorem isE_slice {x y z : Option Expr} {p : Pos} : ∀ m : ME, isE M N m sc (.Slice x y z p) = false
  | .var _ | .int _ | .str _ | .bl _ | .non | .gl _ _ | .nil | .cons _ _ | .tup _ | .lst _ | .bin _ _ _ | .neg _ | .nt _ | .andE _ | .orE _ | .cmp _ _ _ | .chn _ _ _ _ _ | .chn3 _ _ _ _ _ _ _ | .dget2 _ _ _ _ _ _ | .x2 _ _ _ | .ife _ _ _ | .ix _ _ | .sl _ _ _ | .call _ _ _ _ | .bi _ _ | .bi2 _ _ _ | .comp _ _ _ _ _ _ | .iSeq _ | .iRg1 _ | .iRg2 _ _ | .iRg3 _ _ _ | .iEnum _ | .iZip _ _ | .iRev _ | .isx _ _ | .callx _ _ _ => rfl
theorem isE_set {x : List Expr} {k : Nat} {p : Pos} : ∀ m : ME, isE M N m sc (.Set x k p) = false
  | .var _ | .int _ | .str _ | .bl _ | .non | .gl _ _ | .nil | .cons _ _ | .tup _ | .lst _ | .bin _ _ _ | .neg _ | .nt _ | .andE _ | .orE _ | .cmp _ _ _ | .chn _ _ _ _ _ | .chn3 _ _ _ _ _ _ _ | .dget2 _ _ _ _ _ _ | .x2 _ _ _ | .ife _ _ _ | .ix _ _ | .sl _ _ _ | .call _ _ _ _ | .bi _ _ | .bi2 _ _ _ | .comp _ _ _ _ _ _ | .iSeq _ | .iRg1 _ | .iRg2 _ _ | .iRg3 _ _ _ | .iEnum _ | .iZip _ _ | .iRev _ | .isx _ _ | .callx _ _ _ => rfl
theorem star_of {m : ME} {e : Expr} (h : isE M N m sc e = true) (es : List Expr) (env : PySem.Env) : starEach (e :: es) env = (false, eval e env) :: starEach es env := by
  cases e <;> first | rfl | (rw [isE_star] at h; cases h)
theorem mark_of {m : ME} {e : Expr} (op : CmpOp) (h : isE M N m sc e = true) : behindInMarks op e = false := by
  cases e <;> first | rfl | (rw [isE_set] at h; cases h)
theorem plain_of {m : ME} {e : Expr} (h : isE M N m sc e = true) : PlainIx e := by
  cases e <;> first | (intro _ _; rfl) | (rw [isE_slice] at h; cases h)
theorem backAny (env : PySem.Env) (pos : Pos) : ∀ (m : ME) (es : List Expr), isEs M N m sc es = true → (backTo pos (starEach es env)).any (·.1) = false
  | .nil, [], _ => rfl
  | .cons e m, x :: es, h => by
    have h' : (isE M N e sc x && isEs M N m sc es) = true := h
    rw [Bool.and_eq_true] at h'
    rw [star_of h'.1]
    show (false || (backTo pos (starEach es env)).any (·.1)) = false
    rw [backAny env pos m es h'.2] <;> rfl
  | .nil, _ :: _, h => by cases h
  | .cons _ _, [], h => by cases h
  | .var _, _, h | .int _, _, h | .str _, _, h | .bl _, _, h | .non, _, h | .gl _ _, _, h | .tup _, _, h | .lst _, _, h | .bin _ _ _, _, h | .neg _, _, h | .nt _, _, h | .andE _, _, h | .orE _, _, h | .cmp _ _ _, _, h
  | .chn _ _ _ _ _, _, h | .chn3 _ _ _ _ _ _ _, _, h | .dget2 _ _ _ _ _ _, _, h | .x2 _ _ _, _, h | .ife _ _ _, _, h | .ix _ _, _, h | .sl _ _ _, _, h | .call _ _ _ _, _, h | .bi _ _, _, h | .bi2 _ _ _, _, h | .comp _ _ _ _ _ _, _, h | .iSeq _, _, h | .iRg1 _, _, h | .iRg2 _ _, _, h | .iRg3 _ _ _, _, h
  | .iEnum _, _, h | .iZip _ _, _, h | .iRev _, _, h | .isx _ _, _, h | .callx _ _ _, _, h => by cases h
theorem vis_of {x : Str} (h : visB sc x = true) : Vis sc x := by
  unfold visB at h
  split at h
  · exact .inl (by assumption)
  · exact .inr (.inl (by assumption))
  · exact .inr (.inr (by assumption))
  · cases h
theorem gl_of {X : Cx} {x : Str} (h : glB X.env.scope x = true) : Gl X x := by
  unfold glB at h
  split at h
  · assumption
  · cases h
theorem nm_of {x : Str} (h : nmB x = true) : (x == ("__debug__" : Str)) = false ∧ (x == ("__classdict__" : Str)) = false := by
  unfold nmB at h
  rw [Bool.and_eq_true, Bool.not_eq_true', Bool.not_eq_true'] at h
  exact h
theorem op_of {o : BOp} {p : Operator} (h : bOpB o p = true) : p = opOf o := by
  cases o <;> cases p <;> first | rfl | cases h
theorem cop_of {o : COp} {p : CmpOp} (h : cOpB o p = true) : p = cmpOf o := by
  cases o <;> cases p <;> first | rfl | cases h
end
theorem bop_noE : ∀ (o : BOp) (d e : D) (c : Str), bop o d e ≠ .exc c := by
  intro o d e c
  cases o <;> cases d <;> cases e <;> first | (intro h; cases h; done) | (simp only [bop]; split <;> simp)
theorem ceq_noE (d e : D) (c : Str) : ceq d e ≠ .exc c := by
  unfold ceq
  split <;> intro h <;> cases h
theorem cmem_noE (d e : D) (c : Str) : cmem d e ≠ .exc c := by
  cases e <;> cases d <;> first | (intro h; cases h; done) | (simp only [cmem]; split <;> simp)
theorem intsB_noE : ∀ (l : List D) (c : Str), intsD l ≠ .exc c
  | [], c => fun h => nomatch h
  | d :: l, c => by
    cases d with
    | int i =>
      show (intsD l >>= fun r => R.ok (i :: r)) ≠ .exc c
      have := intsB_noE l
      cases e : intsD l with
      | ok r => intro z; cases z
      | exc c2 => exact absurd e (this c2)
      | bad => intro z; cases z
    | _ => intro z; cases z
theorem lt_noE (l m : List D) (c : Str) : (intsD l >>= fun a => intsD m >>= fun b => R.ok (PyData.bool (lexB a b))) ≠ .exc c := by
  have h1 := intsB_noE l
  have h2 := intsB_noE m
  cases e : intsD l with
  | ok a =>
    cases e2 : intsD m with
    | ok b => intro z; cases z
    | exc c2 => exact absurd e2 (h2 c2)
    | bad => intro z; cases z
  | exc c2 => exact absurd e (h1 c2)
  | bad => intro z; cases z
theorem cop_noE : ∀ (o : COp) (d e : D) (c : Str), cop o d e ≠ .exc c := by
  intro o d e c
  have k : ∀ {r : R Bool} (f : Bool → D), (∀ c, r ≠ .exc c) → (r >>= fun b => R.ok (f b)) ≠ .exc c := fun {r} f h => by
    cases r with
    | ok b => intro z; cases z
    | exc c => exact absurd rfl (h c)
    | bad => intro z; cases z
  cases o with
  | eq => exact k (fun b => .bool b) (ceq_noE d e)
  | ne => exact k (fun b => .bool !b) (ceq_noE d e)
  | mem => exact k (fun b => .bool b) (cmem_noE d e)
  | nmem => exact k (fun b => .bool !b) (cmem_noE d e)
  | lt => cases d <;> cases e <;> first | exact lt_noE _ _ c | simp [cop]
  | _ => cases d <;> cases e <;> simp [cop]
theorem RpG.of_fresh {g : Gr} {K : PySem.W.Frag} {H H' : Hp} {N : Addr → Prop} {v : V} {d : D} (h : RpG .fresh K H H' N v d) : RpG g K H H' N v d := match g with
  | .loose => .inl h.1
  | .strict => h.1
  | .fresh => h

section
variable {K : PySem.W.Frag} {M : Ow} {W : WX} {g : Gr} {σ : L2.St} {H : Hp} {Q : VK} {fa fb : Env → R D}
theorem rd_op2 {h : D → D → R D} (hx : ∀ d e c, h d e ≠ .exc c) (q : tE g K M W (fun ρ => fa ρ >>= fun x => fb ρ >>= fun y => h x y) σ H Q) : tOp (rD K h) (tE .loose K M W fa) (tE .loose K M W fb) σ H Q := by
  obtain ⟨ρ, N, r, q⟩ := q
  refine ⟨ρ, N, r, ?_⟩
  dsimp only at q
  cases ea : fa ρ with
  | ok d =>
    rw [ea, ok_bind] at q
    intro v1 H1 s1 k1
    refine ⟨ρ, N, r.same s1, ?_⟩
    cases eb : fb ρ with
    | ok e =>
      rw [eb, ok_bind] at q
      intro v2 H2 s2 k2
      refine ⟨N, d, e, (r.same (s1.trans s2)).ne, RpL.same s2 k1, k2, ?_⟩
      cases eh : h d e with
      | ok z =>
        rw [eh] at q
        exact ⟨z, rfl, fun v H' s k => q v H' ((s1.trans s2).trans s) (k.back (s1.trans s2)).of_fresh⟩
      | exc c => exact absurd eh (hx d e c)
      | bad =>
        rw [eh] at q
        exact q.elim
    | exc c =>
      rw [eb, exc_bind] at q
      exact fun H' s => q H' (s1.trans s)
    | bad =>
      rw [eb, bad_bind] at q
      exact q.elim
  | exc c =>
    rw [ea, exc_bind] at q
    exact q
  | bad =>
    rw [ea, bad_bind] at q
    exact q.elim
/-- one operand, then a rule that hands on -/
theorem rd_op1 {te : V → Hp → VK → Prop} {h : D → R D} (hx : ∀ d c, h d ≠ .exc c) (hr : ∀ N v H d Q, (∀ b, N b → H b ≠ none) → RpL K H N v d → FinD K H N (h d) Q → te v H Q)
    (q : tE g K M W (fun ρ => fa ρ >>= fun x => h x) σ H Q) : tE .loose K M W fa σ H (fun v H1 => te v H1 Q) := by
  obtain ⟨ρ, N, r, q⟩ := q
  refine ⟨ρ, N, r, ?_⟩
  dsimp only at q
  cases ea : fa ρ with
  | ok d =>
    rw [ea, ok_bind] at q
    intro v1 H1 s1 k1
    refine hr N v1 H1 d Q (r.same s1).ne k1 ?_
    cases eh : h d with
    | ok z =>
      rw [eh] at q
      exact ⟨z, rfl, fun v H' s k => q v H' (s1.trans s) (k.back s1).of_fresh⟩
    | exc c => exact absurd eh (hx d c)
    | bad =>
      rw [eh] at q
      exact q.elim
  | exc c =>
    rw [ea, exc_bind] at q
    exact q
  | bad =>
    rw [ea, bad_bind] at q
    exact q.elim
/-- a test -/
theorem rd_test {Q' : Bool → Hp → Prop} (q : tT K M W (fun ρ => fa ρ >>= fun x => asBool x) σ H Q') : tE .loose K M W fa σ H (fun v H1 => ∃ k, v = .bl k ∧ Q' k H1) := by
  obtain ⟨ρ, N, r, q⟩ := q
  refine ⟨ρ, N, r, ?_⟩
  dsimp only at q
  cases ea : fa ρ with
  | ok d =>
    rw [ea, ok_bind] at q
    intro v1 H1 s1 k1
    cases d with
    | bool b => exact ⟨b, RpL.bl_inv k1, q H1 s1⟩
    | _ => exact q.elim
  | exc c =>
    rw [ea, exc_bind] at q
    exact q
  | bad =>
    rw [ea, bad_bind] at q
    exact q.elim
end
end Mn
/-! Mn, part G: the single terms. -/
namespace Mn
open PySem PySem.Spec PyProof.Rows L2
def SE (X : Cx) (M : Ow) (m : ME) (e : Expr) : Prop := ∀ W, Takes X W → PE X e (tE (gr M m) X.K M W (denE m))
def ST (X : Cx) (M : Ow) (m : ME) (e : Expr) : Prop := ∀ W, Takes X W → PT X e (tT X.K M W (fun ρ => denE m ρ >>= fun x => asBool x))
def SA (X : Cx) (M : Ow) (m : ME) (es : List Expr) : Prop := ∀ W, Takes X W → PA X es (tA (noL M m) X.K M W (denEs m))
section
variable {X : Cx} {M : Ow} {k : Nat}
theorem SE.l {m : ME} {e : Expr} (h : SE X M m e) {W : WX} (tk : Takes X W) : PE X e (tE .loose X.K M W (denE m)) := PE.imp (h W tk) fun _ _ _ q => tE_loose q
/-- as a test, where the value is read plainly -/
theorem SE.t {m : ME} {e : Expr} (h : SE X M m e) (he : ∀ whole, isTrue e X.env whole = (do let v ← whole; standAt e.pos; holding [v] (truthy v))) : ST X M m e := fun W tk =>
  PT.imp (pt_val (h.l tk) he) fun σ H Q q => rd_test q
theorem s_var {i : Nat} {x : Str} {p : Pos} (h1 : X.N[i]? = some x) (h2 : visB X.env.scope x = true) (h3 : nmB x = true) (hx : i ∉ M.o.e) : SE X M (.var i) (.Name x p) := fun W tk => by
  refine PE.imp (pe_var h1 (vis_of h2) (nm_of h3).1 (nm_of h3).2) ?_
  rintro σ H Q ⟨ρ, N, r, q⟩
  have q' : Post (gr M (.var i)) X.K H N (fun c d H' => W c d σ H') (match ρ[i]? with
    | some (some d) => .ok d
    | _ => .bad) Q := q
  cases e : ρ[i]? with
  | none => rw [e] at q'; exact q'.elim
  | some o =>
    rw [e] at q'
    cases o with
    | none => exact q'.elim
    | some d =>
      obtain ⟨v, e1, k1, k2⟩ := r.sl i d e (r.noX hx e)
      refine ⟨v, e1, q' v H (Same.refl _) ?_⟩
      show RpG (if i ∈ M then .loose else .strict) X.K H H N v d
      by_cases hi : i ∈ M
      · rw [if_pos hi]
        exact .inr (k1 hi)
      · rw [if_neg hi]
        exact k2 hi
theorem rd_const {g : Gr} {M : Ow} {W : WX} {d : D} {v : V} (h : ∀ H N, Rp X.K H N v d) (hd : ∀ ds, d ≠ .list ds) : ∀ σ H Q, tE g X.K M W (fun _ => .ok d) σ H Q → tC v σ H Q := by
  rintro σ H Q ⟨ρ, N, r, q⟩
  exact q v H (Same.refl _) (RpG.any (h H N) hd)
theorem s_int {n : Int} {j : Nat} {p : Pos} : SE X M (.int n) (.Constant (.int n) j p) := fun W tk => PE.imp pe_int (rd_const (fun _ _ => .int n) fun _ z => nomatch z)
theorem s_str {n : Str} {j : Nat} {p : Pos} : SE X M (.str n) (.Constant (.str n) j p) := fun W tk => PE.imp pe_str (rd_const (fun _ _ => .str n) fun _ z => nomatch z)
theorem s_bl {n : Bool} {j : Nat} {p : Pos} : SE X M (.bl n) (.Constant (.bool n) j p) := fun W tk => PE.imp pe_bl (rd_const (fun _ _ => .bl n) fun _ z => nomatch z)
theorem s_non {j : Nat} {p : Pos} : SE X M .non (.Constant .none j p) := fun W tk => PE.imp pe_non (rd_const (fun _ _ => .non) fun _ z => nomatch z)
theorem s_gl {x : Str} {d : D} {p : Pos} (h1 : glB X.env.scope x = true) (h2 : nmB x = true) (h3 : HasGl X.K X.mg x d) : SE X M (.gl x d) (.Name x p) := fun W tk => by
  obtain ⟨u, v, hm, rv, hr⟩ := h3
  refine PE.imp (pe_glob (gl_of h1) hm rv (nm_of h2).1) ?_
  rintro σ H Q ⟨ρ, N, r, q⟩
  exact q v H (Same.refl _) (hr H N)
theorem rd_args {g : Gr} {W : WX} {f : Env → R (List D)} {k : List D → R D} {kk : List V → Hp → VK → Prop} {σ : L2.St} {H : Hp} {Q : VK} {b : Bool} (hk : ∀ ds c, k ds ≠ .exc c)
    (h : ∀ N vs ds z H1, (∀ b, N b → H1 b ≠ none) → RpAllB b X.K H1 N vs ds → k ds = .ok z → (∀ v H', Same H1 H' → RpG g X.K H1 H' N v z → Q v H') → kk vs H1 Q)
    (q : tE g X.K M W (fun ρ => f ρ >>= fun ds => k ds) σ H Q) : tA b X.K M W f σ H (fun vs H1 => kk vs H1 Q) := by
  obtain ⟨ρ, N, r, q⟩ := q
  refine ⟨ρ, N, r, ?_⟩
  dsimp only at q
  cases ea : f ρ with
  | ok d =>
    rw [ea, ok_bind] at q
    intro v1 H1 s1 k1
    cases eh : k d with
    | ok z =>
      rw [eh] at q
      exact h N v1 d z H1 (r.same s1).ne k1 eh fun v H' s kr => q v H' (s1.trans s) (kr.back s1)
    | exc c => exact absurd eh (hk d c)
    | bad =>
      rw [eh] at q
      exact q.elim
  | exc c =>
    rw [ea, exc_bind] at q
    exact q
  | bad =>
    rw [ea, bad_bind] at q
    exact q.elim
theorem iteR {c : Prop} [Decidable c] {a : D} {z : D} (h : (if c then R.ok a else .bad) = .ok z) : c ∧ z = a := by
  split at h
  · exact ⟨by assumption, (R.ok_inj h).symm⟩
  · cases h
theorem iteE {c : Prop} [Decidable c] {a : D} {e : Str} (h : (if c then R.ok a else .bad) = .exc e) : False := by
  split at h <;> cases h
theorem le1000 {n : Nat} (h : n ≤ 1000) : n ≤ sizeLine := Nat.le_trans h (by decide)
theorem s_tup {es : ME} {l : List Expr} {j : Nat} {p : Pos} (ha : SA X M es l) (hn : noL M es = true) : SE X M (.tup es) (.Tuple l j p) := fun W tk => by
  have ha := ha W tk
  rw [hn] at ha
  refine PE.imp (pe_tup ha) fun σ H Q q => ?_
  refine rd_args (g := .fresh) (b := true) (kk := fun xs H1 Q => xs.length ≤ sizeLine ∧ ∀ p, H1 p = none → Q (.ref p) (upd H1 p (.tup xs))) (k := fun ds => if ds.length ≤ 1000 then R.ok (.tuple ds) else .bad)
    (fun ds c h => iteE h) (fun N vs ds z H1 ne r hz q => ?_) q
  obtain ⟨h1, rfl⟩ := iteR hz
  have r' : RpAll X.K H1 N vs ds := r
  exact ⟨by rw [r'.length]; exact le1000 h1, fun p hp => q _ _ (same_upd hp) (RpG.newT hp r')⟩
theorem s_lst {es : ME} {l : List Expr} {p : Pos} (ha : SA X M es l) (hn : noL M es = true) : SE X M (.lst es) (.List l p) := fun W tk => by
  have ha := ha W tk
  rw [hn] at ha
  refine PE.imp (pe_lst ha) fun σ H Q q => ?_
  refine rd_args (g := .fresh) (b := true) (kk := fun xs H1 Q => xs.length ≤ sizeLine ∧ ∀ p, H1 p = none → Q (.ref p) (upd H1 p (.lst xs))) (k := fun ds => if ds.length ≤ 1000 then R.ok (.list ds) else .bad)
    (fun ds c h => iteE h) (fun N vs ds z H1 ne r hz q => ?_) q
  obtain ⟨h1, rfl⟩ := iteR hz
  have r' : RpAll X.K H1 N vs ds := r
  exact ⟨by rw [r'.length]; exact le1000 h1, fun p hp => q _ _ (same_upd hp) (RpG.new ne hp r')⟩
theorem s_bin {o : BOp} {a b : ME} {x y : Expr} {q : Operator} {p : Pos} (ho : bOpB o q = true) (hr : o ≠ .rep) (ha : SE X M a x) (hb : SE X M b y) : SE X M (.bin o a b) (.BinOp x q y p) := fun W tk => by
  rw [op_of ho]
  exact PE.imp (pe_op (bop_ok o hr) (ha.l tk) (hb.l tk)) fun σ H Q q => rd_op2 (bop_noE o) q
theorem trk_of {a : ME} {H0 H : Hp} {N : Addr → Prop} {v : V} {d : D} (h : gr M a = .fresh) (r : RpG (gr M a) X.K H0 H N v d) : Trk X.K H N v d := fun ds e => by
  rw [h] at r
  obtain ⟨a, xs, e1, _, e2, e3⟩ := r.2 ds e
  exact ⟨a, xs, e1, e2, RpAll.less (fun _ _ => .inl) _ _ e3⟩
theorem Trk.same {K : PySem.W.Frag} {H H' : Hp} {N : Addr → Prop} {v : V} {d : D} (s : Same H H') (h : Trk K H N v d) : Trk K H' N v d := fun ds e => by
  obtain ⟨a, xs, e1, e2, e3⟩ := h ds e
  exact ⟨a, xs, e1, s _ _ e2, e3.same s⟩
/-- list * int: the left side's reading -/
def TrkT (K : PySem.W.Frag) (M : Ow) (W : WX) (f : Env → R D) (t : TE) : Prop := ∀ (σ : L2.St) (H : Hp) (Q : VK) (ρ : Env) (N : Addr → Prop), RelE K M N ρ σ H → (match f ρ with
  | .ok d => ∀ v H', Same H H' → Trk K H' N v d → Q v H'
  | .exc c => ∀ H', Same H H' → W (.ref (He.ga K c)) none σ H'
  | .bad => False) → t σ H Q
theorem s_rep0 {a b : ME} {x y : Expr} {p : Pos} {W : WX} {t : TE} (ha : PE X x t) (ht : TrkT X.K M W (denE a) t) (tk : Takes X W) (hb : SE X M b y) : PE X (.BinOp x .Mult y p) (tE .fresh X.K M W (denE (.bin .rep a b))) := by
  refine PE.imp (pe_op rep_ok ha (hb.l tk)) ?_
  rintro σ H Q ⟨ρ, N, r, q⟩
  refine ht σ H _ ρ N r ?_
  have q' : Post .fresh X.K H N (fun c d H' => W c d σ H') (denE a ρ >>= fun x => denE b ρ >>= fun y => bop .rep x y) Q := q
  cases ea : denE a ρ with
  | ok d =>
    rw [ea, ok_bind] at q'
    intro v1 H1 s1 k1
    refine ⟨ρ, N, r.same s1, ?_⟩
    cases eb : denE b ρ with
    | ok e =>
      rw [eb, ok_bind] at q'
      intro v2 H2 s2 k2
      refine ⟨N, d, e, (r.same (s1.trans s2)).ne, Trk.same s2 k1, k2, ?_⟩
      cases eh : bop .rep d e with
      | ok z =>
        rw [eh] at q'
        exact ⟨z, rfl, fun v H' s k => q' v H' ((s1.trans s2).trans s) (k.back (s1.trans s2))⟩
      | exc c => exact absurd eh (bop_noE _ d e c)
      | bad =>
        rw [eh] at q'
        exact q'.elim
    | exc c =>
      rw [eb, exc_bind] at q'
      exact fun H' s => q' H' (s1.trans s)
    | bad =>
      rw [eb, bad_bind] at q'
      exact q'.elim
  | exc c =>
    rw [ea, exc_bind] at q'
    exact q'
  | bad =>
    rw [ea, bad_bind] at q'
    exact q'.elim
theorem s_repF {a b : ME} {x y : Expr} {q : Operator} {p : Pos} (ho : bOpB .rep q = true) (hf : gr M a = .fresh) (ha : SE X M a x) (hb : SE X M b y) : SE X M (.bin .rep a b) (.BinOp x q y p) := fun W tk => by
  rw [op_of ho]
  refine s_rep0 (ha W tk) (fun σ H Q ρ N r q => ⟨ρ, N, r, ?_⟩) tk hb
  cases e : denE a ρ with
  | ok d =>
    rw [e] at q
    exact fun v H' s k => q v H' s (trk_of hf k)
  | exc c =>
    rw [e] at q
    exact q
  | bad =>
    rw [e] at q
    exact q
theorem s_repV {i : Nat} {b : ME} {x : Str} {y : Expr} {q : Operator} {p p2 : Pos} (ho : bOpB .rep q = true) (hi : i ∈ M) (h1 : X.N[i]? = some x) (h2 : visB X.env.scope x = true) (h3 : nmB x = true) (hx : i ∉ M.o.e) (hb : SE X M b y) : SE X M (.bin .rep (.var i) b) (.BinOp (.Name x p2) q y p) := fun W tk => by
  rw [op_of ho]
  refine s_rep0 (a := .var i) (pe_var h1 (vis_of h2) (nm_of h3).1 (nm_of h3).2) (fun σ H Q ρ N r q => ?_) tk hb
  have q' : (match (match ρ[i]? with
    | some (some d) => R.ok d
    | _ => .bad) with
    | .ok d => ∀ v H', Same H H' → Trk X.K H' N v d → Q v H'
    | .exc c => ∀ H', Same H H' → W (.ref (He.ga X.K c)) none σ H'
    | .bad => False) := q
  cases e : ρ[i]? with
  | none => rw [e] at q'; exact q'.elim
  | some o =>
    rw [e] at q'
    cases o with
    | none => exact q'.elim
    | some d =>
      obtain ⟨v, e1, k1, k2⟩ := r.sl i d e (r.noX hx e)
      refine ⟨v, e1, q' v H (Same.refl _) fun ds ed => ?_⟩
      have k := k1 hi
      rw [ed] at k
      obtain ⟨a, xs, z1, _, z2, z3⟩ := k
      exact ⟨a, xs, z1, z2, z3⟩
theorem s_neg {a : ME} {x : Expr} {p : Pos} (ha : SE X M a x) : SE X M (.neg a) (.UnaryOp .USub x p) := fun W tk => by
  refine PE.imp (pe_un un_neg (ha.l tk)) fun σ H Q q => ?_
  refine rd_op1 (te := fun v H Q => rU (fun i => .int (-i)) v H Q) (h := fun x => asInt x >>= fun i => .ok (.int (-i))) (fun d c z => by cases d <;> cases z) (fun N v H d Q ne r hh => ?_) q
  obtain ⟨z, hz, q⟩ := hh
  cases d <;> first | (cases hz; done) | skip
  rename_i i
  obtain rfl := R.ok_inj hz
  exact ⟨i, r.int_inv, fin_of q (.int _) fun _ w => nomatch w⟩
theorem s_nt {a : ME} {x : Expr} {p : Pos} (ha : SE X M a x) (ta : ST X M a x) : SE X M (.nt a) (.UnaryOp .Not x p) ∧ ST X M (.nt a) (.UnaryOp .Not x p) := by
  refine ⟨fun W tk => ?_, fun W tk => ?_⟩
  · refine PE.imp (pe_not (ha.l tk)) fun σ H Q q => ?_
    refine rd_op1 (te := fun v H Q => ∃ c, v = .bl c ∧ Q (.bl (!c)) H) (h := fun x => asBool x >>= fun i => .ok (.bool !i)) (fun d c z => by cases d <;> cases z) (fun N v H d Q ne r hh => ?_) q
    obtain ⟨z, hz, q⟩ := hh
    cases d <;> first | (cases hz; done) | skip
    rename_i i
    obtain rfl := R.ok_inj hz
    exact ⟨i, r.bl_inv, fin_of q (.bl _) fun _ w => nomatch w⟩
  · refine PT.imp (pt_not (ta W tk)) ?_
    rintro σ H Q ⟨ρ, N, r, q⟩
    refine ⟨ρ, N, r, ?_⟩
    have q' : (match ((denE a ρ >>= fun x => asBool x >>= fun b => R.ok (PyData.bool !b)) >>= fun x => asBool x) with
      | .ok b => ∀ H', Same H H' → Q b H'
      | .exc c => ∀ H', Same H H' → W (.ref (He.ga X.K c)) none σ H'
      | .bad => False) := q
    dsimp only
    cases e : denE a ρ with
    | ok d =>
      rw [e] at q'
      rw [ok_bind]
      cases d with
      | bool b => exact q'
      | _ => exact q'
    | exc c =>
      rw [e] at q'
      exact q'
    | bad =>
      rw [e] at q'
      exact q'
theorem rd_tst2 {W : WX} {f : Env → R D} {t : TE} (h : ∀ σ H Q, tE .fresh X.K M W f σ H Q → t σ H Q) : ∀ σ H Q, tT X.K M W (fun ρ => f ρ >>= fun x => asBool x) σ H Q → tTest t σ H Q := by
  rintro σ H Q ⟨ρ, N, r, q⟩
  refine h σ H _ ⟨ρ, N, r, ?_⟩
  dsimp only at q
  cases ea : f ρ with
  | ok d =>
    rw [ea, ok_bind] at q
    intro v1 H1 s1 k1
    cases d with
    | bool b => exact ⟨b, RpL.bl_inv k1.l, q H1 s1⟩
    | _ => exact q.elim
  | exc c =>
    rw [ea, exc_bind] at q
    exact q
  | bad =>
    rw [ea, bad_bind] at q
    exact q.elim
theorem s_cmp {o : COp} {a b : ME} {x y : Expr} {q : CmpOp} {p : Pos} (hu : X.A.units + 64 < cLine) (ho : cOpB o q = true) (hm : behindInMarks q y = false) (ha : SE X M a x) (hb : SE X M b y) : SE X M (.cmp o a b) (.Compare x [q] [y] p) ∧ ST X M (.cmp o a b) (.Compare x [q] [y] p) := by
  have e := cop_of ho
  subst e
  exact ⟨fun W tk => PE.imp (pe_cmpR (cop_ok o hu) (ha.l tk) (hb.l tk) hm) fun σ H Q q => rd_op2 (cop_noE o) q,
    fun W tk => PT.imp (pt_cmpR (cop_ok o hu) (ha.l tk) (hb.l tk) hm) (rd_tst2 fun σ H Q q => rd_op2 (cop_noE o) q)⟩

theorem rd_chn {o o' : COp} {fa fb fc : Env → R D} {W : WX} {g : Gr} : ∀ σ H Q, tE g X.K M W (fun ρ => fa ρ >>= fun x => fb ρ >>= fun y => cop o x y >>= fun z => asBool z >>= fun k => if k = true then fc ρ >>= fun w => cop o' y w else .ok (.bool false)) σ H Q →
    tChain (rD X.K (cop o)) (rD X.K (cop o')) (tE .loose X.K M W fa) (tE .loose X.K M W fb) (tE .loose X.K M W fc) σ H Q := by
  rintro σ H Q ⟨ρ, N, r, q⟩
  refine ⟨ρ, N, r, ?_⟩
  dsimp only at q
  cases ea : fa ρ with
  | ok d =>
    rw [ea, ok_bind] at q
    intro v1 H1 s1 k1
    refine ⟨ρ, N, r.same s1, ?_⟩
    cases eb : fb ρ with
    | ok e =>
      rw [eb, ok_bind] at q
      intro v2 H2 s2 k2
      have s12 := s1.trans s2
      refine ⟨N, d, e, (r.same s12).ne, RpL.same s2 k1, k2, ?_⟩
      cases eh : cop o d e with
      | ok z =>
        rw [eh, ok_bind] at q
        cases z with
        | bool c =>
          refine ⟨.bool c, rfl, fun v H' s k => ⟨c, RpL.bl_inv k.l, ?_⟩⟩
          have q' : Post g X.K H N (fun c d H' => W c d σ H') (if c = true then fc ρ >>= fun w => cop o' e w else .ok (.bool false)) Q := q
          cases c with
          | true =>
            rw [if_pos rfl] at q' ⊢
            refine ⟨ρ, N, r.same (s12.trans s), ?_⟩
            cases ec : fc ρ with
            | ok f =>
              rw [ec, ok_bind] at q'
              intro v3 H3 s3 k3
              refine ⟨N, e, f, (r.same ((s12.trans s).trans s3)).ne, RpL.same (s.trans s3) k2, k3, ?_⟩
              cases eh2 : cop o' e f with
              | ok z =>
                rw [eh2] at q'
                exact ⟨z, rfl, fun v H' s' k => q' v H' (((s12.trans s).trans s3).trans s') (k.back ((s12.trans s).trans s3)).of_fresh⟩
              | exc c => exact absurd eh2 (cop_noE _ _ _ c)
              | bad =>
                rw [eh2] at q'
                exact q'.elim
            | exc c =>
              rw [ec, exc_bind] at q'
              exact fun H' s' => q' H' ((s12.trans s).trans s')
            | bad =>
              rw [ec, bad_bind] at q'
              exact q'.elim
          | false =>
            rw [if_neg Bool.false_ne_true] at q' ⊢
            exact q' _ _ (s12.trans s) (RpG.any (.bl false) fun _ w => nomatch w)
        | _ => exact q.elim
      | exc c => exact absurd eh (cop_noE o d e c)
      | bad =>
        rw [eh] at q
        exact q.elim
    | exc c =>
      rw [eb, exc_bind] at q
      exact fun H' s => q H' (s1.trans s)
    | bad =>
      rw [eb, bad_bind] at q
      exact q.elim
  | exc c =>
    rw [ea, exc_bind] at q
    exact q
  | bad =>
    rw [ea, bad_bind] at q
    exact q.elim
theorem marks2 {m m2 : ME} {N : List Str} {sc : Scope} {x y : Expr} (q r : CmpOp) (h : isE M N m sc x = true) (h2 : isE M N m2 sc y = true) : lastMarks [q, r] [x, y] = false := by
  show lastMarks [r] [y] = false
  exact mark_of r h2
theorem s_chn {o o' : COp} {a b c : ME} {x y z : Expr} {q q' : CmpOp} {p : Pos} (G : Good X k) (ho : cOpB o q = true) (ho' : cOpB o' q' = true) (hm : lastMarks [q, q'] [y, z] = false) (ha : SE X M a x) (hb : SE X M b y) (hc : SE X M c z) :
    SE X M (.chn o a b o' c) (.Compare x [q, q'] [y, z] p) ∧ ST X M (.chn o a b o' c) (.Compare x [q, q'] [y, z] p) := by
  have hu : X.A.units + 64 < cLine := G.room.units
  have e := cop_of ho
  subst e
  have e := cop_of ho'
  subst e
  exact ⟨fun W tk => PE.imp (pe_chain (cop_ok o hu) (cop_ok o' hu) (ha.l tk) (hb.l tk) (hc.l tk) hm) rd_chn,
    fun W tk => PT.imp (pt_chain (cop_ok o hu) (cop_ok o' hu) (ha.l tk) (hb.l tk) (hc.l tk) hm) (rd_tst2 rd_chn)⟩
/-! ### a < b < c < d -/
def tChain3 (r1 r2 r3 : R2) (ta tb tc td : TE) : TE := fun σ H Q => ta σ H fun x H1 => tb σ H1 fun y H2 => r1 x y H2 fun z H3 => ∃ k, z = V.bl k ∧
  if k = true then tc σ H3 fun w H4 => r2 y w H4 fun z2 H5 => ∃ k2, z2 = V.bl k2 ∧ if k2 = true then td σ H5 fun u H6 => r3 w u H6 Q else Q (V.bl false) H5 else Q (V.bl false) H3
section
variable {a b c d : PySem.Expr} {ta tb tc td : TE} {pos : Pos} {o1 o2 o3 : CmpOp} {r1 r2 r3 : R2}
theorem pe_chain3 (h1 : OpR X (compareOp o1) r1) (h2 : OpR X (compareOp o2) r2) (h3 : OpR X (compareOp o3) r3) (ha : PE X a ta) (hb : PE X b tb) (hc : PE X c tc) (hd : PE X d td) (hm : lastMarks [o1, o2, o3] [b, c, d] = false) :
    PE X (a.Compare [o1, o2, o3] [b, c, d] pos) (tChain3 r1 r2 r3 ta tb tc td) := ⟨fun pins s σ H Q I q => by
  refine Compare_chain (thn (ha.run pins s σ H _ I q) ?_) hm
  rintro v s1 ⟨x, H1, I1, rv, q1⟩
  refine chain_link (thn (hb.run pins s1 σ H1 _ I1 q1) ?_)
  rintro u s2 ⟨y, H2, I2, ru, q2⟩
  refine thn (h1 pins s2 σ H2 x y v u _ I2 rv ru q2) ?_
  rintro t s3 ⟨z, H3, I3, rt, k, rfl, q3⟩
  have et : t = Value.bool k := rt
  subst et
  refine wpAny_truthy_bool ?_
  cases k with
  | false =>
    rw [if_neg Bool.false_ne_true] at q3 ⊢
    exact ⟨.bl false, H3, I3, rfl, q3⟩
  | true =>
    rw [if_pos rfl] at q3 ⊢
    refine chain_link (thn (hc.run pins s3 σ H3 _ I3 q3) ?_)
    rintro w s4 ⟨wv, H4, I4, rw', q4⟩
    refine thn (h2 pins s4 σ H4 y wv u w _ I4 ru rw' q4) ?_
    rintro t2 s5 ⟨z2, H5, I5, rt2, k2, rfl, q5⟩
    have et : t2 = Value.bool k2 := rt2
    subst et
    refine wpAny_truthy_bool ?_
    cases k2 with
    | false =>
      rw [if_neg Bool.false_ne_true] at q5 ⊢
      exact ⟨.bl false, H5, I5, rfl, q5⟩
    | true =>
      rw [if_pos rfl] at q5 ⊢
      refine chain_last (thn (hd.run pins s5 σ H5 _ I5 q5) ?_)
      rintro v6 s6 ⟨y6, H6, I6, r6, q6⟩
      exact h3 pins s6 σ H6 wv y6 w v6 _ I6 rw' r6 q6⟩
theorem pt_chain3 (h1 : OpR X (compareOp o1) r1) (h2 : OpR X (compareOp o2) r2) (h3 : OpR X (compareOp o3) r3) (ha : PE X a ta) (hb : PE X b tb) (hc : PE X c tc) (hd : PE X d td) (hm : lastMarks [o1, o2, o3] [b, c, d] = false) :
    PT X (a.Compare [o1, o2, o3] [b, c, d] pos) (tTest (tChain3 r1 r2 r3 ta tb tc td)) := ⟨fun pins s σ H Q I q => by
  refine isTrue_chain (thn (ha.run pins s σ H _ I q) ?_) hm
  rintro v s1 ⟨x, H1, I1, rv, q1⟩
  refine test_link (thn (hb.run pins s1 σ H1 _ I1 q1) ?_)
  rintro u s2 ⟨y, H2, I2, ru, q2⟩
  refine thn (h1 pins s2 σ H2 x y v u _ I2 rv ru q2) ?_
  rintro t s3 ⟨z, H3, I3, rt, k, rfl, q3⟩
  have et : t = Value.bool k := rt
  subst et
  refine wpAny_truthy_bool ?_
  cases k with
  | false =>
    rw [if_neg Bool.false_ne_true] at q3 ⊢
    obtain ⟨k', e, q3⟩ := q3
    injection e with e
    subst e
    exact ⟨H3, I3, q3⟩
  | true =>
    rw [if_pos rfl] at q3 ⊢
    refine test_link (thn (hc.run pins s3 σ H3 _ I3 q3) ?_)
    rintro w s4 ⟨wv, H4, I4, rw', q4⟩
    refine thn (h2 pins s4 σ H4 y wv u w _ I4 ru rw' q4) ?_
    rintro t2 s5 ⟨z2, H5, I5, rt2, k2, rfl, q5⟩
    have et : t2 = Value.bool k2 := rt2
    subst et
    refine wpAny_truthy_bool ?_
    cases k2 with
    | false =>
      rw [if_neg Bool.false_ne_true] at q5 ⊢
      obtain ⟨k', e, q5⟩ := q5
      injection e with e
      subst e
      exact ⟨H5, I5, q5⟩
    | true =>
      rw [if_pos rfl] at q5 ⊢
      refine test_last (thn (hd.run pins s5 σ H5 _ I5 q5) ?_)
      rintro v6 s6 ⟨y6, H6, I6, r6, q6⟩
      refine thn (h3 pins s6 σ H6 wv y6 w v6 _ I6 rw' r6 q6) ?_
      rintro t7 s7 ⟨z7, H7, I7, rt7, k7, rfl, q7⟩
      have et : t7 = Value.bool k7 := rt7
      subst et
      exact wpAny_truthy_bool ⟨H7, I7, q7⟩⟩
end
theorem rd_chn3 {o o' o2 : COp} {fa fb fc fd : Env → R D} {W : WX} {g : Gr} : ∀ σ H Q, tE g X.K M W (fun ρ => fa ρ >>= fun x => fb ρ >>= fun y => cop o x y >>= fun z => asBool z >>= fun k => if k = true then fc ρ >>= fun w => cop o' y w >>= fun z2 => asBool z2 >>= fun k2 => if k2 = true then fd ρ >>= fun u => cop o2 w u else .ok (.bool false) else .ok (.bool false)) σ H Q →
    tChain3 (rD X.K (cop o)) (rD X.K (cop o')) (rD X.K (cop o2)) (tE .loose X.K M W fa) (tE .loose X.K M W fb) (tE .loose X.K M W fc) (tE .loose X.K M W fd) σ H Q := by
  rintro σ H Q ⟨ρ, N, r, q⟩
  refine ⟨ρ, N, r, ?_⟩
  dsimp only at q
  cases ea : fa ρ with
  | ok d =>
    rw [ea, ok_bind] at q
    intro v1 H1 s1 k1
    refine ⟨ρ, N, r.same s1, ?_⟩
    cases eb : fb ρ with
    | ok e =>
      rw [eb, ok_bind] at q
      intro v2 H2 s2 k2
      have s12 := s1.trans s2
      refine ⟨N, d, e, (r.same s12).ne, RpL.same s2 k1, k2, ?_⟩
      cases eh : cop o d e with
      | ok z =>
        rw [eh, ok_bind] at q
        cases z with
        | bool c =>
          refine ⟨.bool c, rfl, fun v H' s k => ⟨c, RpL.bl_inv k.l, ?_⟩⟩
          have q' : Post g X.K H N (fun c d H' => W c d σ H') (if c = true then fc ρ >>= fun w => cop o' e w >>= fun z2 => asBool z2 >>= fun k2 => if k2 = true then fd ρ >>= fun u => cop o2 w u else .ok (.bool false) else .ok (.bool false)) Q := q
          cases c with
          | true =>
            rw [if_pos rfl] at q' ⊢
            refine ⟨ρ, N, r.same (s12.trans s), ?_⟩
            cases ec : fc ρ with
            | ok f =>
              rw [ec, ok_bind] at q'
              intro v3 H3 s3 k3
              refine ⟨N, e, f, (r.same ((s12.trans s).trans s3)).ne, RpL.same (s.trans s3) k2, k3, ?_⟩
              have s123 := (s12.trans s).trans s3
              cases eh2 : cop o' e f with
              | ok z =>
                rw [eh2, ok_bind] at q'
                cases z with
                | bool c2 =>
                  refine ⟨.bool c2, rfl, fun v' H4 s4 k4 => ⟨c2, RpL.bl_inv k4.l, ?_⟩⟩
                  have s1234 := s123.trans s4
                  have q2 : Post g X.K H N (fun c d H' => W c d σ H') (if c2 = true then fd ρ >>= fun u => cop o2 f u else .ok (.bool false)) Q := q'
                  cases c2 with
                  | true =>
                    rw [if_pos rfl] at q2 ⊢
                    refine ⟨ρ, N, r.same s1234, ?_⟩
                    cases ed : fd ρ with
                    | ok u =>
                      rw [ed, ok_bind] at q2
                      intro v5 H5 s5 k5
                      have s12345 := s1234.trans s5
                      refine ⟨N, f, u, (r.same s12345).ne, RpL.same (s4.trans s5) k3, k5, ?_⟩
                      cases eh3 : cop o2 f u with
                      | ok z =>
                        rw [eh3] at q2
                        exact ⟨z, rfl, fun v H' s' k => q2 v H' (s12345.trans s') (k.back s12345).of_fresh⟩
                      | exc c => exact absurd eh3 (cop_noE _ _ _ c)
                      | bad =>
                        rw [eh3] at q2
                        exact q2.elim
                    | exc c =>
                      rw [ed, exc_bind] at q2
                      exact fun H' s' => q2 H' (s1234.trans s')
                    | bad =>
                      rw [ed, bad_bind] at q2
                      exact q2.elim
                  | false =>
                    rw [if_neg Bool.false_ne_true] at q2 ⊢
                    exact q2 _ _ s1234 (RpG.any (.bl false) fun _ w => nomatch w)
                | _ => exact q'.elim
              | exc c => exact absurd eh2 (cop_noE _ _ _ c)
              | bad =>
                rw [eh2] at q'
                exact q'.elim
            | exc c =>
              rw [ec, exc_bind] at q'
              exact fun H' s' => q' H' ((s12.trans s).trans s')
            | bad =>
              rw [ec, bad_bind] at q'
              exact q'.elim
          | false =>
            rw [if_neg Bool.false_ne_true] at q' ⊢
            exact q' _ _ (s12.trans s) (RpG.any (.bl false) fun _ w => nomatch w)
        | _ => exact q.elim
      | exc c => exact absurd eh (cop_noE o d e c)
      | bad =>
        rw [eh] at q
        exact q.elim
    | exc c =>
      rw [eb, exc_bind] at q
      exact fun H' s => q H' (s1.trans s)
    | bad =>
      rw [eb, bad_bind] at q
      exact q.elim
  | exc c =>
    rw [ea, exc_bind] at q
    exact q
  | bad =>
    rw [ea, bad_bind] at q
    exact q.elim
theorem marks3 {m3 : ME} {N : List Str} {sc : Scope} {x y z : Expr} (q r t : CmpOp) (h : isE M N m3 sc z = true) : lastMarks [q, r, t] [x, y, z] = false := by
  show lastMarks [t] [z] = false
  exact mark_of t h
theorem s_chn3 {o o' o2 : COp} {a b c d : ME} {x y z u : Expr} {q q' q2 : CmpOp} {p : Pos} (G : Good X k) (ho : cOpB o q = true) (ho' : cOpB o' q' = true) (ho2 : cOpB o2 q2 = true) (hm : lastMarks [q, q', q2] [y, z, u] = false) (ha : SE X M a x) (hb : SE X M b y) (hc : SE X M c z) (hd : SE X M d u) :
    SE X M (.chn3 o a b o' c o2 d) (.Compare x [q, q', q2] [y, z, u] p) ∧ ST X M (.chn3 o a b o' c o2 d) (.Compare x [q, q', q2] [y, z, u] p) := by
  have hu : X.A.units + 64 < cLine := G.room.units
  have e := cop_of ho
  subst e
  have e := cop_of ho'
  subst e
  have e := cop_of ho2
  subst e
  exact ⟨fun W tk => PE.imp (pe_chain3 (cop_ok o hu) (cop_ok o' hu) (cop_ok o2 hu) (ha.l tk) (hb.l tk) (hc.l tk) (hd.l tk) hm) rd_chn3,
    fun W tk => PT.imp (pt_chain3 (cop_ok o hu) (cop_ok o' hu) (cop_ok o2 hu) (ha.l tk) (hb.l tk) (hc.l tk) (hd.l tk) hm) (rd_tst2 rd_chn3)⟩
def pairK (k1 v1 k2 v2 : Str) : List (Key × V) := [(Sum.inr k1, .str v1), (Sum.inr k2, .str v2)]
theorem pair_merge {k1 v1 k2 v2 : Str} (h : k1 ≠ k2) : mergeK [] (pairK k1 v1 k2 v2) = pairK k1 v1 k2 v2 := by
  simp [mergeK, pairK, putK, h]
theorem pair_get {k1 v1 k2 v2 s t : Str} : (valV (pairK k1 v1 k2 v2) (Sum.inr s)).getD (.str t) = .str (if s = k1 then v1 else if s = k2 then v2 else t) := by
  unfold valV pairK
  by_cases h1 : s = k1
  · simp [h1]
  · have h1' : ¬ k1 = s := fun e => h1 e.symm
    by_cases h2 : s = k2
    · subst h2
      simp [h1, h1']
    · have h2' : ¬ k2 = s := fun e => h2 e.symm
      simp [h1, h2, h1', h2']
theorem upd_at {H : Hp} {p : Addr} {o : HO} : upd H p o p = some o := by
  unfold upd
  simp
theorem upd_twice {H : Hp} {p : Addr} {a b : HO} : upd (upd H p a) p b = upd H p b := by
  funext q
  unfold upd
  split <;> rfl
theorem rd_dget2 {k1 v1 k2 v2 : Str} (h : k1 ≠ k2) {fx fy : Env → R D} {W : WX} {g : Gr} : ∀ σ H Q, tE g X.K M W (fun ρ => fx ρ >>= fun x => fy ρ >>= fun z => getS k1 v1 k2 v2 x z) σ H Q →
    tDGet2 (tDisp [(tC (.str k1), tC (.str v1)), (tC (.str k2), tC (.str v2))]) (tE .loose X.K M W fx) (tE .loose X.K M W fy) σ H Q := by
  rintro σ H Q ⟨ρ, N, r, q⟩ p hp
  refine ⟨upd_at, pairK k1 v1 k2 v2, rfl, by show 2 ≤ 15; decide, ?_⟩
  rw [pair_merge h, upd_twice]
  have s0 : Same H (upd H p (.dK (pairK k1 v1 k2 v2))) := same_upd hp
  have at0 : upd H p (.dK (pairK k1 v1 k2 v2)) p = some (.dK (pairK k1 v1 k2 v2)) := upd_at
  generalize upd H p (.dK (pairK k1 v1 k2 v2)) = H0 at s0 at0
  refine ⟨p, rfl, .inl ⟨_, .inl at0⟩, ρ, N, r.same s0, ?_⟩
  dsimp only at q
  cases ex : fx ρ with
  | ok d =>
    rw [ex, ok_bind] at q
    intro w1 H1 s1 c1
    refine ⟨ρ, N, r.same (s0.trans s1), ?_⟩
    cases ey : fy ρ with
    | ok e =>
      rw [ey, ok_bind] at q
      intro w2 H2 s2 c2
      cases d with
      | str s =>
        cases e with
        | str t =>
          have e1 := RpL.str_inv c1.l
          have e2 := RpL.str_inv c2.l
          subst e1
          subst e2
          refine ⟨_, DGet.k (k := Sum.inr s) (s2 _ _ (s1 _ _ at0)), ?_⟩
          rw [pair_get]
          exact q _ _ ((s0.trans s1).trans s2) (RpG.any (.str _) fun _ z => nomatch z)
        | _ => exact q.elim
      | _ => cases e <;> exact q.elim
    | exc c =>
      rw [ey, exc_bind] at q
      exact fun H' s' => q H' ((s0.trans s1).trans s')
    | bad =>
      rw [ey, bad_bind] at q
      exact q.elim
  | exc c =>
    rw [ex, exc_bind] at q
    exact fun H' s' => q H' (s0.trans s')
  | bad =>
    rw [ex, bad_bind] at q
    exact q.elim
theorem s_dget2 {k1 v1 k2 v2 : Str} {e f : ME} {j1 j2 j3 j4 : Nat} {p1 p2 p3 p4 dp ap cp : Pos} {x y : Expr} (G : Good X k) (h : k1 ≠ k2) (hl : (ap.endLine == cp.line) = true)
    (hs : backTo cp (starEach [x, y] X.env) = [(false, eval x X.env), (false, eval y X.env)]) (he : SE X M e x) (hf : SE X M f y) :
    SE X M (.dget2 k1 v1 k2 v2 e f) (.Call (.Attribute (.Dict [some (.Constant (.str k1) j1 p1), some (.Constant (.str k2) j2 p2)] [.Constant (.str v1) j3 p3, .Constant (.str v2) j4 p4] dp) "get" ap) [x, y] [] cp) := fun W tk => by
  have hu : X.A.units + 64 < cLine := G.room.units
  refine PE.imp (pe_dget2 (by omega) (pe_disp (pps_cons pe_str pe_str (pps_cons pe_str pe_str pps_nil)) rfl rfl (fun z => by cases z) (by show 2 ≤ 15; decide)) (he.l tk) (hf.l tk) ⟨rfl, by rw [hs]; rfl, hl, hs⟩) (rd_dget2 h)
theorem s_ife {c a b : ME} {x y z : Expr} {p : Pos} (hc : ST X M c x) (ha : SE X M a y) (hb : SE X M b z) : SE X M (.ife c a b) (.IfExp x y z p) := fun W tk => by
  refine PE.imp (pe_ifExp (hc W tk) (ha W tk) (hb W tk)) ?_
  rintro σ H Q ⟨ρ, N, r, q⟩
  refine ⟨ρ, N, r, ?_⟩
  have q' : Post (gr M (.ife c a b)) X.K H N (fun c d H' => W c d σ H') (denE c ρ >>= fun x => asBool x >>= fun k => if k = true then denE a ρ else denE b ρ) Q := q
  have up : ∀ {g : Gr}, (gr M (.ife c a b) = .loose ∨ g ≠ .loose) → ∀ {f : Env → R D} {H1 : Hp} (s : Same H H1), Post (gr M (.ife c a b)) X.K H N (fun c d H' => W c d σ H') (f ρ) Q → tE g X.K M W f σ H1 Q := by
    intro g hg f H1 s q
    refine ⟨ρ, N, r.same s, ?_⟩
    cases e : f ρ with
    | ok d =>
      rw [e] at q
      refine fun v H' s' k => q v H' (s.trans s') ?_
      rcases hg with hg | hg
      · rw [hg]
        exact k.l
      · have k' := k.s hg
        have hs : gr M (.ife c a b) = .loose ∨ gr M (.ife c a b) = .strict := by
          show (if gr M a = .loose ∨ gr M b = .loose then Gr.loose else .strict) = .loose ∨ (if gr M a = .loose ∨ gr M b = .loose then Gr.loose else .strict) = .strict
          by_cases z : gr M a = .loose ∨ gr M b = .loose
          · rw [if_pos z]
            exact .inl rfl
          · rw [if_neg z]
            exact .inr rfl
        rcases hs with z | z
        · rw [z]
          exact .inl k'
        · rw [z]
          exact k'
    | exc c =>
      rw [e] at q
      exact fun H' s' => q H' (s.trans s')
    | bad =>
      rw [e] at q
      exact q
  have hA : gr M (.ife c a b) = .loose ∨ gr M a ≠ .loose := by
    by_cases z : gr M a = .loose
    · exact .inl (if_pos (.inl z))
    · exact .inr z
  have hB : gr M (.ife c a b) = .loose ∨ gr M b ≠ .loose := by
    by_cases z : gr M b = .loose
    · exact .inl (if_pos (.inr z))
    · exact .inr z
  dsimp only
  cases e : denE c ρ with
  | ok d =>
    rw [e, ok_bind] at q'
    rw [ok_bind]
    cases d with
    | bool t =>
      have q2 : Post (gr M (.ife c a b)) X.K H N (fun c d H' => W c d σ H') (if t = true then denE a ρ else denE b ρ) Q := q'
      refine fun H1 s => ?_
      cases t with
      | true => exact up hA s (by rw [if_pos rfl] at q2; exact q2)
      | false => exact up hB s (by rw [if_neg Bool.false_ne_true] at q2; exact q2)
    | _ => exact q'
  | exc c =>
    rw [e] at q'
    exact q'
  | bad =>
    rw [e] at q'
    exact q'
theorem ixD_noE (d e : D) (c : Str) : ixD d e ≠ .exc c := by
  cases d <;> cases e <;> first | (intro h; cases h; done) | (simp only [ixD]; repeat' split) <;> simp
theorem s_ix {a i : ME} {x y : Expr} {p : Pos} (hp : PlainIx y) (ha : SE X M a x) (hi : SE X M i y) : SE X M (.ix a i) (.Subscript x y p) := fun W tk => by
  refine PE.imp (pe_ix ix_seq (ha.l tk) (hi.l tk) hp) ?_
  rintro σ H Q ⟨ρ, N, r, q⟩
  refine ⟨ρ, N, r, ?_⟩
  have q : Post .strict X.K H N (fun c d H' => W c d σ H') (denE a ρ >>= fun x => denE i ρ >>= fun y => ixD x y) Q := q
  cases ea : denE a ρ with
  | ok d =>
    rw [ea, ok_bind] at q
    intro v1 H1 s1 k1
    refine ⟨ρ, N, r.same s1, ?_⟩
    cases eb : denE i ρ with
    | ok e =>
      rw [eb, ok_bind] at q
      intro v2 H2 s2 k2
      have k1' : RpL X.K H2 N v1 d := RpL.same s2 k1
      have k2' : RpL X.K H2 N v2 e := k2
      have fin : ∀ z, ixD d e = .ok z → ∀ v, Rp X.K H2 N v z → Q v H2 := fun z hz v rv => by
        rw [hz] at q
        exact q v H2 (s1.trans s2) rv
      have nb : ixD d e ≠ .bad := fun hz => by
        rw [hz] at q
        exact q
      cases d <;> cases e <;> first | exact absurd rfl nb | skip
      · rename_i z j
        have nb' : (if z.length ≤ sizeLine then (match atI z.cps.toList j with
          | some c => R.ok (PyData.str ⟨#[c]⟩)
          | none => .bad) else .bad) ≠ R.bad := nb
        have fin' : ∀ w, (if z.length ≤ sizeLine then (match atI z.cps.toList j with
          | some c => R.ok (PyData.str ⟨#[c]⟩)
          | none => .bad) else .bad) = R.ok w → ∀ v, Rp X.K H2 N v w → Q v H2 := fin
        by_cases hl : z.length ≤ sizeLine
        · rw [if_pos hl] at nb' fin'
          cases hc : atI z.cps.toList j with
          | some c =>
            rw [hc] at fin'
            exact .inr (.inr ⟨z, j, c, k1'.str_inv, k2'.int_inv, hl, hc, fin' _ rfl _ (.str _)⟩)
          | none =>
            rw [hc] at nb'
            exact absurd rfl nb'
        · rw [if_neg hl] at nb'
          exact absurd rfl nb'
      · rename_i l j
        have nb' : (match atI l j with
          | some d => R.ok d
          | none => .bad) ≠ R.bad := nb
        have fin' : ∀ w, (match atI l j with
          | some d => R.ok d
          | none => .bad) = R.ok w → ∀ v, Rp X.K H2 N v w → Q v H2 := fin
        obtain ⟨a', xs, e1, sq, ra⟩ := k1'.list_inv
        cases hc : atI l j with
        | some c =>
          rw [hc] at fin'
          obtain ⟨n, hn, hln⟩ : ∃ n, ixN l.length j = some n ∧ l[n]? = some c := by
            have hc' : (ixN l.length j).bind (fun n => l[n]?) = some c := hc
            cases hn : ixN l.length j with
            | none =>
              rw [hn] at hc'
              cases hc'
            | some n =>
              rw [hn] at hc'
              exact ⟨n, rfl, hc'⟩
          obtain ⟨v, ev, rv⟩ := ra.get hln
          refine .inl ⟨a', xs, j, v, e1, k2'.int_inv, sq, ?_, fin' _ rfl _ rv⟩
          show (ixN xs.length j).bind (fun n => xs[n]?) = some v
          rw [ra.length, hn]
          exact ev
        | none =>
          rw [hc] at nb'
          exact absurd rfl nb'
      · rename_i l j
        have nb' : (match atI l j with
          | some d => R.ok d
          | none => .bad) ≠ R.bad := nb
        have fin' : ∀ w, (match atI l j with
          | some d => R.ok d
          | none => .bad) = R.ok w → ∀ v, Rp X.K H2 N v w → Q v H2 := fin
        obtain ⟨a', xs, e1, sq, ra⟩ := k1'.tup_inv
        cases hc : atI l j with
        | some c =>
          rw [hc] at fin'
          obtain ⟨n, hn, hln⟩ : ∃ n, ixN l.length j = some n ∧ l[n]? = some c := by
            have hc' : (ixN l.length j).bind (fun n => l[n]?) = some c := hc
            cases hn : ixN l.length j with
            | none =>
              rw [hn] at hc'
              cases hc'
            | some n =>
              rw [hn] at hc'
              exact ⟨n, rfl, hc'⟩
          obtain ⟨v, ev, rv⟩ := ra.get hln
          refine .inr (.inl ⟨a', xs, j, v, e1, k2'.int_inv, sq, ?_, fin' _ rfl _ rv⟩)
          show (ixN xs.length j).bind (fun n => xs[n]?) = some v
          rw [ra.length, hn]
          exact ev
        | none =>
          rw [hc] at nb'
          exact absurd rfl nb'
    | exc c =>
      rw [eb, exc_bind] at q
      exact fun H' s => q H' (s1.trans s)
    | bad =>
      rw [eb, bad_bind] at q
      exact q.elim
  | exc c =>
    rw [ea, exc_bind] at q
    exact q
  | bad =>
    rw [ea, bad_bind] at q
    exact q.elim
end
end Mn
/-! Mn, part H: slices, calls, built-ins. -/
namespace Mn
open PySem PySem.Spec PyProof.Rows L2
def tOo (K : PySem.W.Frag) (M : Ow) (W : WX) (f : Env → R (Option Int)) : TO := fun σ H Q => ∃ ρ N, RelE K M N ρ σ H ∧ match f ρ with
  | .ok b => ∀ H', Same H H' → Q b H'
  | .exc c => ∀ H', Same H H' → W (.ref (He.ga K c)) none σ H'
  | .bad => False
def SO (X : Cx) (M : Ow) (m : ME) (e : Option Expr) : Prop := ∀ W, Takes X W → PO X e (tOo X.K M W (denO m))
section
variable {X : Cx} {M : Ow} {k : Nat}
theorem PO.imp {e : Option Expr} {t t' : TO} (h : PO X e t) (k : ∀ σ H Q, t' σ H Q → t σ H Q) : PO X e t' := ⟨fun pins s σ H Q I q => h.run pins s σ H Q I (k _ _ _ q)⟩
theorem s_oNone : SO X M .nil none := fun W tk => PO.imp po_none fun σ H Q ⟨ρ, N, r, q⟩ => q H (Same.refl _)
theorem s_oSome {m : ME} {e : Expr} (h : SE X M m e) : SO X M (.cons m .nil) (some e) := fun W tk => by
  refine PO.imp (po_some (h.l tk)) ?_
  rintro σ H Q ⟨ρ, N, r, q⟩
  refine ⟨ρ, N, r, ?_⟩
  have q : (match (denE m ρ >>= fun x => asInt x >>= fun i => R.ok (some i)) with
    | .ok b => ∀ H', Same H H' → Q b H'
    | .exc c => ∀ H', Same H H' → W (.ref (He.ga X.K c)) none σ H'
    | .bad => False) := q
  cases ea : denE m ρ with
  | ok d =>
    rw [ea, ok_bind] at q
    intro v1 H1 s1 k1
    cases d with
    | int i => exact ⟨i, RpL.int_inv k1, q H1 s1⟩
    | _ => exact q.elim
  | exc c =>
    rw [ea, exc_bind] at q
    exact q
  | bad =>
    rw [ea, bad_bind] at q
    exact q.elim
theorem cut_rp {H : Hp} {N : Addr → Prop} {xs : List V} {ds : List D} (lo hi : Option Int) (r : RpAll X.K H N xs ds) : RpAll X.K H N (cutV xs lo hi) (cutD ds lo hi) := by
  unfold cutV cutD
  rw [r.length]
  exact (r.drop _).take _
theorem slD_noE (d : D) (l h : Option Int) (c : Str) : slD d l h ≠ .exc c := by
  cases d <;> first | (intro h; cases h; done) | (simp only [slD]; split <;> simp)
theorem s_sl {a lo hi : ME} {x : Expr} {l h : Option Expr} {p p2 : Pos} (ha : SE X M a x) (hl : SO X M lo l) (hh : SO X M hi h) : SE X M (.sl a lo hi) (.Subscript x (.Slice l h none p2) p) := fun W tk => by
  refine PE.imp (pe_slice (SlR.or sl_list sl_str) (ha.l tk) (hl W tk) (hh W tk)) ?_
  rintro σ H Q ⟨ρ, N, r, q⟩
  refine ⟨ρ, N, r, ?_⟩
  have q : Post .fresh X.K H N (fun c d H' => W c d σ H') (denE a ρ >>= fun x => denO lo ρ >>= fun l => denO hi ρ >>= fun h => slD x l h) Q := q
  cases ea : denE a ρ with
  | ok d =>
    rw [ea, ok_bind] at q
    intro v1 H1 s1 k1
    refine ⟨ρ, N, r.same s1, ?_⟩
    cases el : denO lo ρ with
    | ok o1 =>
      rw [el, ok_bind] at q
      intro H2 s2
      refine ⟨ρ, N, r.same (s1.trans s2), ?_⟩
      cases eh : denO hi ρ with
      | ok o2 =>
        rw [eh, ok_bind] at q
        intro H3 s3
        have s := (s1.trans s2).trans s3
        have k3 : RpL X.K H3 N v1 d := RpL.same (s2.trans s3) k1
        have ne := (r.same s).ne
        cases d with
        | list ds =>
          obtain ⟨b, xs, e1, sq, ra⟩ := k3.list_inv
          exact .inl ⟨b, xs, e1, sq, fun p hp => q _ _ (s.trans (same_upd hp)) ((RpG.new ne hp (cut_rp o1 o2 ra)).back s)⟩
        | str z =>
          have q : Post .fresh X.K H N (fun c d H' => W c d σ H') (if z.length ≤ sizeLine then R.ok (PyData.str (cutS z o1 o2)) else .bad) Q := q
          by_cases hz : z.length ≤ sizeLine
          · rw [if_pos hz] at q
            exact .inr ⟨z, k3.str_inv, hz, q _ _ s (RpG.any (.str _) fun _ w => nomatch w)⟩
          · rw [if_neg hz] at q
            exact q.elim
        | _ => exact q.elim
      | exc c =>
        rw [eh, exc_bind] at q
        exact fun H' s => q H' ((s1.trans s2).trans s)
      | bad =>
        rw [eh, bad_bind] at q
        exact q.elim
    | exc c =>
      rw [el, exc_bind] at q
      exact fun H' s => q H' (s1.trans s)
    | bad =>
      rw [el, bad_bind] at q
      exact q.elim
  | exc c =>
    rw [ea, exc_bind] at q
    exact q
  | bad =>
    rw [ea, bad_bind] at q
    exact q.elim
/-! ### argument lists -/
theorem s_nil : SA X M .nil [] := fun W tk => PA.imp pa_nil fun σ H Q ⟨ρ, N, r, q⟩ => q [] H (Same.refl _) RpAll.nil
theorem RpAllB.cons {b : Bool} {g : Gr} {H0 H1 H2 : Hp} {N : Addr → Prop} {v : V} {d : D} {vs : List V} {ds : List D} (s : Same H1 H2) (h : RpG g X.K H0 H1 N v d) (t : RpAllB b X.K H2 N vs ds) : RpAllB (decide (g ≠ .loose) && b) X.K H2 N (v :: vs) (d :: ds) := by
  by_cases hg : g ≠ .loose
  · rw [decide_eq_true hg]
    cases b with
    | true => exact RpAll.cons ((h.s hg).same s) t
    | false => exact RpAllL.cons (.inl ((h.s hg).same s)) t
  · rw [decide_eq_false hg]
    exact RpAllL.cons (h.l.same s) t.l
theorem s_cons {m ms : ME} {e : Expr} {es : List Expr} (hs : starEach (e :: es) X.env = (false, eval e X.env) :: starEach es X.env) (h : SE X M m e) (t : SA X M ms es) : SA X M (.cons m ms) (e :: es) := fun W tk => by
  refine PA.imp (pa_cons (h W tk) (t W tk) hs) ?_
  rintro σ H Q ⟨ρ, N, r, q⟩
  refine ⟨ρ, N, r, ?_⟩
  have q : (match (denE m ρ >>= fun d => denEs ms ρ >>= fun ds => R.ok (d :: ds)) with
    | .ok ds => ∀ vs H', Same H H' → RpAllB (noL M (.cons m ms)) X.K H' N vs ds → Q vs H'
    | .exc c => ∀ H', Same H H' → W (.ref (He.ga X.K c)) none σ H'
    | .bad => False) := q
  cases ea : denE m ρ with
  | ok d =>
    rw [ea, ok_bind] at q
    intro v1 H1 s1 k1
    refine ⟨ρ, N, r.same s1, ?_⟩
    cases eb : denEs ms ρ with
    | ok ds =>
      rw [eb, ok_bind] at q
      intro vs H2 s2 k2
      exact q (v1 :: vs) H2 (s1.trans s2) (RpAllB.cons s2 k1 k2)
    | exc c =>
      rw [eb, exc_bind] at q
      exact fun H' s => q H' (s1.trans s)
    | bad =>
      rw [eb, bad_bind] at q
      exact q.elim
  | exc c =>
    rw [ea, exc_bind] at q
    exact q
  | bad =>
    rw [ea, bad_bind] at q
    exact q.elim
/-! ### calls -/
theorem Post.imp {g : Gr} {K : PySem.W.Frag} {H : Hp} {N N' : Addr → Prop} {E E' : XK} {r r' : R D} {Q : VK} (h : Post g K H N E r Q) (e : r' = r) (hE : ∀ c H', E c none H' → E' c none H') (hN : ∀ d v H', Same H H' → RpG g K H H' N' v d → RpG g K H H' N v d) : Post g K H N' E' r' Q := by
  subst e
  cases r' with
  | ok d => exact fun v H' s k => h v H' s (hN d v H' s k)
  | exc c => exact fun H' s => hE _ _ (h H' s)
  | bad => exact h
theorem s_call {chk : Bool} {F : List D → R D} {x : Str} {es : ME} {e : Expr} {l : List Expr} {p p2 : Pos} (G : Good X k) (hF : HasFn X.prog X.w X.K X.mg X.base k x F) (h1 : glB X.env.scope x = true) (h2 : nmB x = true) (ha : SA X M es (e :: l))
    (hs : starEach (e :: l) X.env = (false, eval e X.env) :: starEach l X.env) (hpl : (backTo p (starEach l X.env)).any (·.1) = false) (hc : chk = true ∨ noL M es = true) :
    SE X M (.call chk F x es) (.Call (.Name x p2) (e :: l) [] p) := fun W tk => by
  obtain ⟨f, fd, ps, hf, hlen, hm, hk, hb⟩ := hF
  refine PE.imp (pe_callS (E := WE W) hf G.room (gl_of h1) hm hk hb (fun σ => passAt tk σ) (ha W tk) (nm_of h2).1 hs hpl) ?_
  rintro σ H Q ⟨ρ, N, r, q⟩
  refine ⟨ρ, N, r, ?_⟩
  have q : Post .fresh X.K H N (fun c d H' => W c d σ H') (denEs es ρ >>= fun ds => F ds >>= fun d => flatChk chk d) Q := q
  cases ea : denEs es ρ with
  | ok ds =>
    rw [ea, ok_bind] at q
    intro vs H1 s1 k1
    have ne1 := (r.same s1).ne
    have hl : vs.length = ds.length := k1.l.length
    cases eF : F ds with
    | ok d =>
      rw [eF, ok_bind] at q
      refine ⟨by rw [hl]; exact hlen ds (by rw [eF]; exact fun z => nomatch z), ?_⟩
      cases chk with
      | false =>
        have hn : noL M es = true := hc.resolve_left Bool.false_ne_true
        rw [hn] at k1
        refine ⟨N, ds, ne1, k1, ?_⟩
        rw [eF]
        exact fun v H' s k => q v H' (s1.trans s) (k.back s1)
      | true =>
        refine ⟨fun _ => False, ds, fun _ z => z.elim, k1.l.off, ?_⟩
        rw [eF]
        intro v H' s k
        have q : Post .fresh X.K H N (fun c d H' => W c d σ H') (if flatR d then R.ok d else .bad) Q := q
        by_cases hfl : flatR d = true
        · rw [if_pos hfl] at q
          exact q v H' (s1.trans s) ((flat_fresh ne1 hfl k).back s1)
        · rw [if_neg hfl] at q
          exact q.elim
    | exc c =>
      rw [eF, exc_bind] at q
      refine ⟨by rw [hl]; exact hlen ds (by rw [eF]; exact fun z => nomatch z), fun _ => False, ds, fun _ z => z.elim, k1.l.off, ?_⟩
      rw [eF]
      exact fun H' s => q H' (s1.trans s)
    | bad =>
      rw [eF, bad_bind] at q
      exact q.elim
  | exc c =>
    rw [ea, exc_bind] at q
    exact q
  | bad =>
    rw [ea, bad_bind] at q
    exact q.elim
/-! ### built-in functions -/
theorem intsD_noE : ∀ (l : List D) (c : Str), intsD l ≠ .exc c
  | [], c => fun z => nomatch z
  | .int i :: l, c => fun z => by
    have z' : (intsD l >>= fun r => R.ok (i :: r)) = .exc c := z
    cases e : intsD l with
    | ok r => rw [e] at z'; cases z'
    | exc c => exact intsD_noE l c e
    | bad => rw [e] at z'; cases z'
  | .none :: _, _ | .bool _ :: _, _ | .str _ :: _, _ | .list _ :: _, _ | .tuple _ :: _, _ | .dict _ :: _, _ => fun z => nomatch z
theorem boolsD_noE : ∀ (l : List D) (c : Str), boolsD l ≠ .exc c
  | [], c => fun z => nomatch z
  | .bool i :: l, c => fun z => by
    have z' : (boolsD l >>= fun r => R.ok (i :: r)) = .exc c := z
    cases e : boolsD l with
    | ok r => rw [e] at z'; cases z'
    | exc c => exact boolsD_noE l c e
    | bad => rw [e] at z'; cases z'
  | .none :: _, _ | .int _ :: _, _ | .str _ :: _, _ | .list _ :: _, _ | .tuple _ :: _, _ | .dict _ :: _, _ => fun z => nomatch z
theorem bind_noE {α β : Type} {r : R α} {f : α → R β} {c : Str} (h : ∀ c, r ≠ .exc c) (k : ∀ a c, f a ≠ .exc c) : (r >>= f) ≠ .exc c := by
  cases r with
  | ok a => exact k a c
  | exc c => exact absurd rfl (h c)
  | bad => exact fun z => nomatch z
theorem biD_noE (f : BI) (d : D) (c : Str) : biD f d ≠ .exc c := by
  cases f with
  | isi T =>
    have e : biD (.isi T) d = (match kitB (tyD d) T with
      | some b => R.ok (PyData.bool b)
      | none => .bad) := by cases d <;> rfl
    rw [e]
    split <;> exact fun z => nomatch z
  | sum => cases d <;> first | (intro z; cases z; done) | exact bind_noE (intsD_noE _) fun _ _ z => nomatch z
  | sorted => cases d <;> first | (intro z; cases z; done) | exact bind_noE (intsD_noE _) fun _ _ z => nomatch z
  | all => cases d <;> first | (intro z; cases z; done) | exact bind_noE (boolsD_noE _) fun _ _ z => nomatch z
  | minL => cases d <;> first | (intro z; cases z; done) | exact bind_noE (intsD_noE _) fun l _ => by cases l <;> exact fun z => nomatch z
  | maxL => cases d <;> first | (intro z; cases z; done) | exact bind_noE (intsD_noE _) fun l _ => by cases l <;> exact fun z => nomatch z
  | maxD k => cases d <;> first | (intro z; cases z; done) | exact bind_noE (intsD_noE _) fun l _ => by cases l <;> exact fun z => nomatch z
  | minD k => cases d <;> first | (intro z; cases z; done) | exact bind_noE (intsD_noE _) fun l _ => by cases l <;> exact fun z => nomatch z
  | int => cases d <;> first | (intro z; cases z; done) | (simp only [biD]; repeat' split; all_goals simp)
  | _ => cases d <;> first | (intro z; cases z; done) | (simp only [biD]; split <;> simp)
theorem biD2_noE (f : BI) (d e : D) (c : Str) : biD2 f d e ≠ .exc c := by
  cases f <;> cases d <;> cases e <;> exact fun z => nomatch z
theorem pa_one {m : ME} {e : Expr} {W : WX} (hs : starEach [e] X.env = (false, eval e X.env) :: starEach [] X.env) (h : SE X M m e) (tk : Takes X W) : PA X [e] (tCons (tE .loose X.K M W (denE m)) tNil) := pa_cons (h.l tk) pa_nil hs
theorem s_biB {f : BI} {a : ME} {e : Expr} {id : String} {x : Str} {p p2 : Pos} (hc : CallR X (.builtin id) (rC X.K (biD f))) (h1 : glB X.env.scope x = true) (h2 : nmB x = true) (hm : X.mg x = none) (hv : bootBuiltins x = some (.builtin id)) (hn : x ≠ "__name__")
    (hs : starEach [e] X.env = (false, eval e X.env) :: starEach [] X.env) (ha : SE X M a e) : SE X M (.bi f a) (.Call (.Name x p2) [e] [] p) := fun W tk => by
  refine PE.imp (pe_callB hc (gl_of h1) hm hv (pa_one hs ha tk) hn (nm_of h2).1 hs rfl) fun σ H Q q => ?_
  exact rd_op1 (te := fun v H Q => rC X.K (biD f) [v] H Q) (biD_noE f) (fun N v H d Q ne r h => ⟨N, v, d, ne, rfl, r, h⟩) q
theorem s_biT {f : BI} {a : ME} {e : Expr} {id : String} {x : Str} {p p2 : Pos} (hc : CallR X (.type id) (rC X.K (biD f))) (h1 : glB X.env.scope x = true) (h2 : nmB x = true) (hm : X.mg x = none) (hv : bootBuiltins x = some (.type id)) (hn : x ≠ "__name__")
    (hs : starEach [e] X.env = (false, eval e X.env) :: starEach [] X.env) (ha : SE X M a e) : SE X M (.bi f a) (.Call (.Name x p2) [e] [] p) := fun W tk => by
  refine PE.imp (pe_callTy hc (gl_of h1) hm hv (pa_one hs ha tk) hn (nm_of h2).1 hs rfl) fun σ H Q q => ?_
  exact rd_op1 (te := fun v H Q => rC X.K (biD f) [v] H Q) (biD_noE f) (fun N v H d Q ne r h => ⟨N, v, d, ne, rfl, r, h⟩) q
theorem s_biK {f : BI} {a : ME} {e : Expr} {id : String} {x : Str} {d : Int} {j : Nat} {p p2 pc kp : Pos} (hc : CallRK X (.builtin id) [("default" : Str)] (rCD X.K d (biD f))) (h1 : glB X.env.scope x = true) (h2 : nmB x = true) (hm : X.mg x = none) (hv : bootBuiltins x = some (.builtin id)) (hn : x ≠ "__name__")
    (hs : starEach [e] X.env = (false, eval e X.env) :: starEach [] X.env) (ha : SE X M a e) : SE X M (.bi f a) (.Call (.Name x p2) [e] [⟨some "default", .Constant (.int d) j pc, kp⟩] p) := fun W tk => by
  refine PE.imp (pe_callBK hc (gl_of h1) hm hv (pa_one hs ha tk) (pk_cons pe_int pk_nil) hn (nm_of h2).1 (by rw [hs] <;> rfl) (by rw [hs] <;> rfl)) fun σ H Q q => ?_
  exact rd_op1 (te := fun v H Q => rCD X.K d (biD f) [v] [.int d] H Q) (biD_noE f) (fun N v H d' Q ne r h => ⟨rfl, N, v, d', ne, rfl, r, h⟩) q
theorem s_bi2B {f : BI} {a b : ME} {e e2 : Expr} {id : String} {x : Str} {p p2 : Pos} (hc : CallR X (.builtin id) (rC2 X.K (biD2 f))) (h1 : glB X.env.scope x = true) (h2 : nmB x = true) (hm : X.mg x = none) (hv : bootBuiltins x = some (.builtin id)) (hn : x ≠ "__name__")
    (hs : starEach [e, e2] X.env = (false, eval e X.env) :: starEach [e2] X.env) (hs2 : starEach [e2] X.env = (false, eval e2 X.env) :: starEach [] X.env) (ha : SE X M a e) (hb : SE X M b e2) : SE X M (.bi2 f a b) (.Call (.Name x p2) [e, e2] [] p) := fun W tk => by
  refine PE.imp (pe_callB hc (gl_of h1) hm hv (pa_cons (ha.l tk) (pa_one hs2 hb tk) hs) hn (nm_of h2).1 hs (by rw [hs2] <;> rfl)) ?_
  rintro σ H Q ⟨ρ, N, r, q⟩
  refine ⟨ρ, N, r, ?_⟩
  have q : Post .fresh X.K H N (fun c d H' => W c d σ H') (denE a ρ >>= fun x => denE b ρ >>= fun y => biD2 f x y) Q := q
  cases ea : denE a ρ with
  | ok d =>
    rw [ea, ok_bind] at q
    intro v1 H1 s1 k1
    refine ⟨ρ, N, r.same s1, ?_⟩
    cases eb : denE b ρ with
    | ok e =>
      rw [eb, ok_bind] at q
      intro v2 H2 s2 k2
      refine ⟨N, v1, v2, d, e, (r.same (s1.trans s2)).ne, rfl, RpL.same s2 k1, k2, ?_⟩
      cases eh : biD2 f d e with
      | ok z =>
        rw [eh] at q
        exact ⟨z, rfl, fun v H' s k => q v H' ((s1.trans s2).trans s) (k.back (s1.trans s2))⟩
      | exc c => exact absurd eh (biD2_noE f d e c)
      | bad =>
        rw [eh] at q
        exact q.elim
    | exc c =>
      rw [eb, exc_bind] at q
      exact fun H' s => q H' (s1.trans s)
    | bad =>
      rw [eb, bad_bind] at q
      exact q.elim
  | exc c =>
    rw [ea, exc_bind] at q
    exact q
  | bad =>
    rw [ea, bad_bind] at q
    exact q.elim
/-- isinstance(x, T) -/
theorem s_isi {T : String} {a : ME} {e : Expr} {p p2 p3 : Pos} (h1 : glB X.env.scope "isinstance" = true) (hm : X.mg "isinstance" = none) (g1 : glB X.env.scope T = true) (g2 : nmB T = true) (gm : X.mg T = none) (hv : bootBuiltins T = some (.type T)) (hn : (T : Str) ≠ "__name__")
    (hs : starEach [e, .Name T p3] X.env = (false, eval e X.env) :: starEach [.Name T p3] X.env) (ha : SE X M a e) : SE X M (.bi (.isi T) a) (.Call (.Name "isinstance" p2) [e, .Name T p3] [] p) := fun W tk => by
  have pt : PE X (.Name T p3) (tC (.ty T)) := pe_bltn (gl_of g1) gm hv rfl hn (nm_of g2).1
  refine PE.imp (pe_callB (bi_isi T) (gl_of h1) hm (by decide +kernel) (pa_cons (ha.l tk) (pa_cons pt pa_nil) hs) (by decide) (by decide) hs rfl) fun σ H Q q => ?_
  exact rd_op1 (te := fun v H Q => ∃ N x d, (∀ b, N b → H b ≠ none) ∧ [v, V.ty T] = [x, .ty T] ∧ RpL X.K H N x d ∧ FinD X.K H N (biD (.isi T) d) Q) (biD_noE _) (fun N v H d Q ne r h => ⟨N, v, d, ne, rfl, r, h⟩) q
end
end Mn
/-! Mn, part H2: the built-ins of one argument, all together. -/
namespace Mn
open PySem PySem.Spec PyProof.Rows L2
section
variable {X : Cx} {M : Ow} {k : Nat}
theorem s_rev {a : ME} {e : Expr} {p p2 pos pos2 : Pos} (G : Good X k) (h1 : glB X.env.scope "list" = true) (h2 : glB X.env.scope "reversed" = true) (hs : starEach [e] X.env = (false, eval e X.env) :: starEach [] X.env) (ha : SE X M a e) :
    SE X M (.bi .rev a) (.Call (.Name "list" p) [.Call (.Name "reversed" p2) [e] [] pos2] [] pos) := fun W tk => by
  refine PE.imp (pe_listRev G.calm (gl_of h1) (G.bi _ (by decide)) (gl_of h2) (G.bi _ (by decide)) (ha.l tk) hs) fun σ H Q q => ?_
  refine rd_op1 (te := fun v H1 Q => ∃ (a : Addr) (xs : List V), v = .ref a ∧ SqL X.K H1 a xs ∧ ∀ q, H1 q = none → Q (.ref q) (upd H1 q (.lst xs.reverse))) (biD_noE .rev) (fun N v H d Q ne r f => ?_) q
  obtain ⟨z, ez, q⟩ := f
  cases d with
  | list ds =>
    obtain rfl := R.ok_inj ez
    obtain ⟨b, xs, rfl, sq, ra⟩ := r.list_inv
    exact ⟨b, xs, rfl, sq, fun p hp => q _ _ (same_upd hp) (RpG.new ne hp ra.reverse)⟩
  | _ => cases ez
theorem s_rg1 {a : ME} {e : Expr} {p p2 pos pos2 : Pos} (G : Good X k) (h1 : glB X.env.scope "list" = true) (h2 : glB X.env.scope "range" = true) (hs : starEach [e] X.env = (false, eval e X.env) :: starEach [] X.env) (ha : SE X M a e) :
    SE X M (.bi .listRg1 a) (.Call (.Name "list" p) [.Call (.Name "range" p2) [e] [] pos2] [] pos) := fun W tk => by
  refine PE.imp (pe_listRg G.calm (gl_of h1) (G.bi _ (by decide)) (prg_1 (gl_of h2) (G.bi _ (by decide)) (ha.l tk) hs) rfl) fun σ H Q q => ?_
  refine rd_op1 (te := fun v H1 Q => ∃ n, v = .int n ∧ RgOk 0 n ∧ ∀ q, H1 q = none → Q (.ref q) (upd H1 q (.lst (rgV 0 n)))) (biD_noE .listRg1) (fun N v H d Q ne r f => ?_) q
  obtain ⟨z, ez, q⟩ := f
  cases d with
  | int n =>
    have ez : (if 0 ≤ n ∧ n.toNat ≤ 16777216 then R.ok (PyData.list (rgL 0 n.toNat)) else .bad) = .ok z := ez
    by_cases hn : 0 ≤ n ∧ n.toNat ≤ 16777216
    · rw [if_pos hn] at ez
      obtain rfl := R.ok_inj ez
      refine ⟨n, r.int_inv, RgOk.of_le (by omega) (by omega) (by omega) hn.1, fun p hp => q _ _ (same_upd hp) (RpG.new ne hp ?_)⟩
      unfold rgV rgL
      rw [Int.sub_zero]
      have z := RpAll.ofInts (K := X.K) (H := H) (N := N) ((List.range n.toNat).map fun i => (0 : Int) + (i : Nat))
      rw [List.map_map, List.map_map] at z
      exact z
    · rw [if_neg hn] at ez
      cases ez
  | _ => cases ez
theorem s_bits {a : ME} {x : Str} {px ap cp : Pos} (hl : ap.endLine = cp.line) (ha : SE X M a (.Name x px)) : SE X M (.bi .bits a) (.Call (.Attribute (.Name x px) "bit_length" ap) [] [] cp) := fun W tk => by
  refine PE.imp (pe_bits (ha.l tk) rfl (by rw [hl]; exact beq_self_eq_true _)) fun σ H Q q => ?_
  refine rd_op1 (te := fun v H1 Q => ∃ i, v = .int i ∧ Q (.int (Builtin.Int.intBits i : Nat)) H1) (biD_noE .bits) (fun N v H d Q ne r f => ?_) q
  obtain ⟨z, ez, q⟩ := f
  cases d with
  | int n =>
    obtain rfl := R.ok_inj ez
    exact ⟨n, r.int_inv, q _ _ (Same.refl _) (RpG.any (.int _) fun _ z => nomatch z)⟩
  | _ => cases ez
theorem s_upper {a : ME} {x : Str} {px ap cp : Pos} (hl : ap.endLine = cp.line) (ha : SE X M a (.Name x px)) : SE X M (.bi .upper a) (.Call (.Attribute (.Name x px) "upper" ap) [] [] cp) := fun W tk => by
  refine PE.imp (pe_upper (ha.l tk) rfl (by rw [hl]; exact beq_self_eq_true _)) fun σ H Q q => ?_
  refine rd_op1 (te := fun v H1 Q => (∃ a, v = .str a) ∧ ∃ a, v = .str a ∧ ([] : List V) = [] ∧ a.length ≤ 5592405 ∧ Q (.str (Txt.upper a)) H1) (biD_noE .upper) (fun N v H d Q ne r f => ?_) q
  obtain ⟨z, ez, q⟩ := f
  cases d with
  | str s =>
    have ez : (if s.length ≤ 5592405 then R.ok (PyData.str (Txt.upper s)) else .bad) = .ok z := ez
    split at ez
    · obtain rfl := R.ok_inj ez
      exact ⟨⟨s, r.str_inv⟩, s, r.str_inv, rfl, by assumption, q _ _ (Same.refl _) (RpG.any (.str _) fun _ z => nomatch z)⟩
    · cases ez
  | _ => cases ez
theorem s_isdig {a : ME} {x : Str} {px ap cp : Pos} (hl : ap.endLine = cp.line) (ha : SE X M a (.Name x px)) : SE X M (.bi .isdig a) (.Call (.Attribute (.Name x px) "isdigit" ap) [] [] cp) := fun W tk => by
  refine PE.imp (pe_m0 PySem.F.slot_str_isdigit PySem.F.type_str_isdigit mt_isdigit (ha.l tk) rfl (by rw [hl]; exact beq_self_eq_true _)) fun σ H Q q => ?_
  refine rd_op1 (te := fun v H1 Q => (∃ a, v = .str a) ∧ ∃ a, v = .str a ∧ ([] : List V) = [] ∧ True ∧ Q (.bl (Txt.isdigit a)) H1) (biD_noE .isdig) (fun N v H d Q ne r f => ?_) q
  obtain ⟨z, ez, q⟩ := f
  cases d with
  | str s =>
    obtain rfl := R.ok_inj ez
    exact ⟨⟨s, r.str_inv⟩, s, r.str_inv, rfl, trivial, q _ _ (Same.refl _) (RpG.any (.bl _) fun _ z => nomatch z)⟩
  | _ => cases ez
/-! ### methods of one argument -/
theorem strsD_noE : ∀ (l : List D) (c : Str), strsD l ≠ .exc c
  | [], _ => fun z => nomatch z
  | .str i :: l, c => bind_noE (strsD_noE l) fun _ _ z => nomatch z
  | .none :: _, _ | .int _ :: _, _ | .bool _ :: _, _ | .list _ :: _, _ | .tuple _ :: _, _ | .dict _ :: _, _ => fun z => nomatch z
theorem x2D_noE (f : X2) (d e : D) (c : Str) : x2D f d e ≠ .exc c := by
  cases f with
  | join => cases d <;> cases e <;> first | (intro z; cases z; done) | exact bind_noE (strsD_noE _) fun _ _ => by split <;> exact fun z => nomatch z
  | lindex => cases d <;> cases e <;> first | (intro z; cases z; done) | exact bind_noE (strsD_noE _) fun _ _ => by split <;> exact fun z => nomatch z
  | _ => cases d <;> cases e <;> first | (intro z; cases z; done) | (simp only [x2D]; split <;> simp)
theorem RpAll.strsOf {K : PySem.W.Frag} {H : Hp} {N : Addr → Prop} : ∀ {ds : List D} {vs : List V} {ns : List Str}, RpAll K H N vs ds → strsD ds = .ok ns → vs = ns.map V.str
  | [], _, _, h, e => by
    cases h
    obtain rfl := R.ok_inj e
    rfl
  | .str i :: ds, _, ns, h, e => by
    cases h with
    | cons h1 h2 =>
      cases h1
      have e : (strsD ds >>= fun r => R.ok (i :: r)) = .ok ns := e
      cases q : strsD ds with
      | ok r =>
        rw [q] at e
        obtain rfl := R.ok_inj e
        rw [RpAll.strsOf h2 q]
        rfl
      | exc c => rw [q] at e; cases e
      | bad => rw [q] at e; cases e
  | .none :: _, _, _, _, e => by cases e
  | .int _ :: _, _, _, _, e => by cases e
  | .bool _ :: _, _, _, _, e => by cases e
  | .list _ :: _, _, _, _, e => by cases e
  | .tuple _ :: _, _, _, _, e => by cases e
  | .dict _ :: _, _, _, _, e => by cases e
theorem rd_x2 {f : X2} {W : WX} {fa fb : Env → R D} {σ : L2.St} {H : Hp} {Q : VK} {te : V → V → Hp → VK → Prop} {P : V → Hp → Prop} (hP : ∀ N v d H, x2k f d = true → RpL X.K H N v d → P v H)
    (hr : ∀ N x y H d e Q, (∀ b, N b → H b ≠ none) → x2k f d = true → RpL X.K H N x d → RpL X.K H N y e → FinD X.K H N (x2D f d e) Q → te x y H Q)
    (q : tE .fresh X.K M W (fun ρ => fa ρ >>= fun x => if x2k f x = true then fb ρ >>= fun y => x2D f x y else .bad) σ H Q) : tE .loose X.K M W fa σ H (fun v H1 => P v H1 ∧ tE .loose X.K M W fb σ H1 (fun u H2 => te v u H2 Q)) := by
  obtain ⟨ρ, N, r, q⟩ := q
  refine ⟨ρ, N, r, ?_⟩
  dsimp only at q
  cases ea : fa ρ with
  | ok d =>
    rw [ea, ok_bind] at q
    intro v1 H1 s1 k1
    by_cases hk : x2k f d = true
    · rw [if_pos hk] at q
      refine ⟨hP N v1 d H1 hk k1, ρ, N, r.same s1, ?_⟩
      cases eb : fb ρ with
      | ok e =>
        rw [eb, ok_bind] at q
        intro v2 H2 s2 k2
        refine hr N v1 v2 H2 d e Q (r.same (s1.trans s2)).ne hk (RpL.same s2 k1) k2 ?_
        cases eh : x2D f d e with
        | ok z =>
          rw [eh] at q
          exact ⟨z, rfl, fun v H' s k => q v H' ((s1.trans s2).trans s) (k.back (s1.trans s2))⟩
        | exc c => exact absurd eh (x2D_noE f d e c)
        | bad =>
          rw [eh] at q
          exact q.elim
      | exc c =>
        rw [eb, exc_bind] at q
        exact fun H' s => q H' (s1.trans s)
      | bad =>
        rw [eb, bad_bind] at q
        exact q.elim
    · rw [if_neg hk] at q
      exact q.elim
  | exc c =>
    rw [ea, exc_bind] at q
    exact q
  | bad =>
    rw [ea, bad_bind] at q
    exact q.elim
theorem attr_of {o : Expr} {m : Str} {env : PySem.Env} (h : noSuper o = true) : attributeBase o m env (eval o env) = eval o env := by
  unfold attributeBase
  split
  · cases h
  · rfl
theorem star1 {e : Expr} {env : PySem.Env} (hs : starEach [e] env = (false, eval e env) :: starEach [] env) : starEach [e] env = [(false, eval e env)] := by rw [hs]; rfl
theorem x2_str {f : X2} {N : Addr → Prop} {v : V} {d : D} {H : Hp} (hf : f = .part ∨ f = .find ∨ f = .count ∨ f = .join ∨ f = .split) (hk : x2k f d = true) (r : RpL X.K H N v d) : ∃ a, v = .str a := by
  rcases hf with rfl | rfl | rfl | rfl | rfl <;> cases d <;> first | (cases hk; done) | exact ⟨_, r.str_inv⟩
theorem s_x2m {f : X2} {a b : ME} {o e : Expr} {m : Str} {ap cp : Pos} (hn : x2Name f = some m) (hl : ap.endLine = cp.line) (ho : noSuper o = true) (hs : starEach [e] X.env = (false, eval e X.env) :: starEach [] X.env) (ha : SE X M a o) (hb : SE X M b e) :
    SE X M (.x2 f a b) (.Call (.Attribute o m ap) [e] [] cp) := fun W tk => by
  have hl' : (ap.endLine == cp.line) = true := by rw [hl]; exact beq_self_eq_true _
  cases f with
  | part =>
    obtain rfl := Option.some.inj hn
    refine PE.imp (pe_partition (ha.l tk) (hb.l tk) (star1 hs) (attr_of ho) hl') fun σ H Q q => ?_
    refine rd_x2 (f := .part) (P := fun v H => ∃ a, v = .str a) (te := fun x y H Q => ∃ a b, x = .str a ∧ [y] = [.str b] ∧ (b.length == 0) = false ∧ a.length ≤ sizeLine ∧ ∀ p, H p = none → Q (.ref p) (upd H p (.tup [.str (Txt.partition a b).1, .str (Txt.partition a b).2.1, .str (Txt.partition a b).2.2]))) (fun N v d H hk r => x2_str (f := .part) (.inl rfl) hk r) (fun N x y H d e Q ne hk rx ry f => ?_) q
    obtain ⟨z, ez, q⟩ := f
    cases d <;> cases e <;> first | (cases ez; done) | skip
    rename_i s t
    have ez : (if (t.length == 0) = false ∧ s.length ≤ sizeLine then R.ok (PyData.tuple [.str (Txt.partition s t).1, .str (Txt.partition s t).2.1, .str (Txt.partition s t).2.2]) else .bad) = .ok z := ez
    split at ez
    · rename_i hc
      obtain rfl := R.ok_inj ez
      exact ⟨s, t, rx.str_inv, by rw [ry.str_inv], hc.1, hc.2, fun p hp => q _ _ (same_upd hp) (RpG.newT hp (.cons (.str _) (.cons (.str _) (.cons (.str _) .nil))))⟩
    · cases ez
  | find =>
    obtain rfl := Option.some.inj hn
    refine PE.imp (pe_m1 PySem.F.slot_str_find PySem.F.type_str_find mt_find (ha.l tk) (hb.l tk) (star1 hs) (attr_of ho) hl') fun σ H Q q => ?_
    refine rd_x2 (f := .find) (P := fun v H => ∃ a, v = .str a) (te := fun x y H Q => ∃ a b, x = .str a ∧ [y] = [.str b] ∧ Q (.int (Txt.find a b)) H) (fun N v d H hk r => x2_str (f := .find) (.inr (.inl rfl)) hk r) (fun N x y H d e Q ne hk rx ry f => ?_) q
    obtain ⟨z, ez, q⟩ := f
    cases d <;> cases e <;> first | (cases ez; done) | skip
    obtain rfl := R.ok_inj ez
    exact ⟨_, _, rx.str_inv, by rw [ry.str_inv], q _ _ (Same.refl _) (RpG.any (.int _) fun _ z => nomatch z)⟩
  | count =>
    obtain rfl := Option.some.inj hn
    refine PE.imp (pe_m1 PySem.F.slot_str_count PySem.F.type_str_count mt_count (ha.l tk) (hb.l tk) (star1 hs) (attr_of ho) hl') fun σ H Q q => ?_
    refine rd_x2 (f := .count) (P := fun v H => ∃ a, v = .str a) (te := fun x y H Q => ∃ a b, x = .str a ∧ [y] = [.str b] ∧ Q (.int (Txt.count a b)) H) (fun N v d H hk r => x2_str (f := .count) (.inr (.inr (.inl rfl))) hk r) (fun N x y H d e Q ne hk rx ry f => ?_) q
    obtain ⟨z, ez, q⟩ := f
    cases d <;> cases e <;> first | (cases ez; done) | skip
    obtain rfl := R.ok_inj ez
    exact ⟨_, _, rx.str_inv, by rw [ry.str_inv], q _ _ (Same.refl _) (RpG.any (.int _) fun _ z => nomatch z)⟩
  | join =>
    obtain rfl := Option.some.inj hn
    refine PE.imp (pe_join (ha.l tk) (hb.l tk) (star1 hs) (attr_of ho) hl') fun σ H Q q => ?_
    refine rd_x2 (f := .join) (P := fun v H => ∃ a, v = .str a) (te := fun x y H Q => ∃ a p, ∃ ys : List Str, x = .str a ∧ [y] = [.ref p] ∧ (SqL X.K H p (ys.map V.str) ∨ SqT X.K H p (ys.map V.str)) ∧ (ys.map (·.length)).sum + ys.length * a.length ≤ 16777216 ∧ Q (.str (Txt.join a ys)) H) (fun N v d H hk r => x2_str (f := .join) (.inr (.inr (.inr (.inl rfl)))) hk r) (fun N x y H d e Q ne hk rx ry f => ?_) q
    obtain ⟨z, ez, q⟩ := f
    cases d <;> cases e <;> first | (cases ez; done) | skip
    rename_i s l
    have ez : (strsD l >>= fun ys => if (ys.map (·.length)).sum + ys.length * s.length ≤ 16777216 then R.ok (PyData.str (Txt.join s ys)) else .bad) = .ok z := ez
    cases el : strsD l with
    | ok ys =>
      rw [el, ok_bind] at ez
      split at ez
      · rename_i hc
        obtain rfl := R.ok_inj ez
        obtain ⟨p, xs, e1, sq, ra⟩ := ry.list_inv
        have := ra.strsOf el
        subst this
        exact ⟨s, p, ys, rx.str_inv, by rw [e1], .inl sq, hc, q _ _ (Same.refl _) (RpG.any (.str _) fun _ z => nomatch z)⟩
      · cases ez
    | exc c => rw [el] at ez; cases ez
    | bad => rw [el] at ez; cases ez
  | split =>
    obtain rfl := Option.some.inj hn
    refine PE.imp (pe_split (ha.l tk) (hb.l tk) (star1 hs) (attr_of ho) hl') fun σ H Q q => ?_
    refine rd_x2 (f := .split) (P := fun v H => ∃ a, v = .str a) (te := fun x y H Q => ∃ a b, x = .str a ∧ [y] = [.str b] ∧ (b.length == 0) = false ∧ a.length + 2 ≤ sizeLine ∧ rNewStrs (Txt.split a b) H Q) (fun N v d H hk r => x2_str (f := .split) (.inr (.inr (.inr (.inr rfl)))) hk r) (fun N x y H d e Q ne hk rx ry f => ?_) q
    obtain ⟨z, ez, q⟩ := f
    cases d <;> cases e <;> first | (cases ez; done) | skip
    rename_i s t
    have ez : (if (t.length == 0) = false ∧ s.length + 2 ≤ sizeLine then R.ok (PyData.list ((Txt.split s t).map .str)) else .bad) = .ok z := ez
    split at ez
    · rename_i hc
      obtain rfl := R.ok_inj ez
      refine ⟨s, t, rx.str_inv, by rw [ry.str_inv], hc.1, hc.2, fun p hp => q _ _ (same_upd hp) (RpG.new ne hp ?_)⟩
      generalize Txt.split s t = ys
      induction ys with
      | nil => exact .nil
      | cons y ys ih => exact .cons (.str y) ih
    · cases ez
  | lindex =>
    obtain rfl := Option.some.inj hn
    refine PE.imp (pe_bm PySem.F.plainAttrs_list PySem.F.slot_list_index PySem.F.type_list_index mt_index (ha.l tk) (pa_cons (hb.l tk) pa_nil hs) (attr_of ho) (by rw [hs]; rfl) hl' hs rfl) fun σ H Q q => ?_
    refine rd_x2 (f := .lindex) (P := fun v H => tyV X.K "list" v H) (te := fun x y H Q => rIndex X.K x [y] H Q) (fun N v d H hk r => ?_) (fun N x y H d e Q ne hk rx ry f => ?_) q
    · cases d <;> first | (cases hk; done) | skip
      obtain ⟨p, xs, e1, sq, ra⟩ := r.list_inv
      exact e1 ▸ .inl ⟨rfl, xs, sq⟩
    · obtain ⟨z, ez, q⟩ := f
      cases d <;> cases e <;> first | (cases ez; done) | skip
      rename_i l s
      have ez : (strsD l >>= fun ys => if s ∈ ys then R.ok (PyData.int (ys.idxOf s : Nat)) else .bad) = .ok z := ez
      cases el : strsD l with
      | ok ys =>
        rw [el, ok_bind] at ez
        split at ez
        · rename_i hc
          obtain rfl := R.ok_inj ez
          obtain ⟨p, xs, e1, sq, ra⟩ := rx.list_inv
          have := ra.strsOf el
          subst this
          have fl : ∀ ys : List Str, (ys.map V.str).all flatV = true := fun ys => by
            rw [List.all_map, List.all_eq_true]
            intro y _
            rfl
          have hlt : ys.idxOf s < ys.length := List.idxOf_lt_length_of_mem hc
          refine ⟨p, ys.map V.str, y, ys.idxOf s, .str s, e1, rfl, sq, by rw [ry.str_inv]; rfl, fl ys, ?_, ?_, fun m z' hm hz => ?_, q _ _ (Same.refl _) (RpG.any (.int _) fun _ z => nomatch z)⟩
          · rw [List.getElem?_map, List.getElem?_eq_getElem hlt, List.getElem_idxOf hlt]
            rfl
          · rw [ry.str_inv]
            exact decide_eq_true rfl
          · rw [List.getElem?_map] at hz
            have hml : m < ys.length := by omega
            rw [List.getElem?_eq_getElem hml] at hz
            obtain rfl := Option.some.inj hz
            rw [ry.str_inv]
            refine decide_eq_false fun e => ?_
            have h2 := List.not_of_lt_findIdx (p := (· == s)) (xs := ys) hm
            rw [e] at h2
            simp at h2
        · cases ez
      | exc c => rw [el] at ez; cases ez
      | bad => rw [el] at ez; cases ez
  | fs sep => cases hn
theorem s_fs {sep : Str} {a b : ME} {x y : Expr} {j : Nat} {p1 p2 p3 p4 : Pos} (ha : SE X M a x) (hb : SE X M b y) : SE X M (.x2 (.fs sep) a b) (.JoinedStr [.FormattedValue x (-1) none p1, .Constant (.str sep) j p2, .FormattedValue y (-1) none p3] p4) := fun W tk => by
  refine PE.imp (pe_joined (PJ.cons (pe_fmt (ha.l tk)) (PJ.cons pe_str (PJ.cons (pe_fmt (hb.l tk)) PJ.nil)))) ?_
  rintro σ H Q ⟨ρ, N, r, q⟩
  refine ⟨ρ, N, r, ?_⟩
  have q : Post .fresh X.K H N (fun c d H' => W c d σ H') (denE a ρ >>= fun x => if x2k (.fs sep) x = true then denE b ρ >>= fun y => x2D (.fs sep) x y else .bad) Q := q
  cases ea : denE a ρ with
  | ok d =>
    rw [ea, ok_bind] at q
    intro v1 H1 s1 k1
    by_cases hk : x2k (.fs sep) d = true
    · rw [if_pos hk] at q
      cases d <;> first | (cases hk; done) | skip
      rename_i i
      have k := (Bool.and_eq_true _ _).mp (show (decide (i.natAbs.log2 < 1920) && decide ((Str.empty ++ toString i).length ≤ sizeLine) && decide ((Str.empty ++ toString i ++ sep).length ≤ sizeLine)) = true from hk)
      have k2 := (Bool.and_eq_true _ _).mp k.1
      refine .inr ⟨i, k1.int_inv, of_decide_eq_true k2.1, toString i, rfl, of_decide_eq_true k2.2, sep, rfl, of_decide_eq_true k.2, ρ, N, r.same s1, ?_⟩
      cases eb : denE b ρ with
      | ok e =>
        rw [eb, ok_bind] at q
        intro v2 H2 s2 k2
        cases e <;> first | exact q.elim | skip
        rename_i l
        have q : Post .fresh X.K H N (fun c d H' => W c d σ H') (if l.natAbs.log2 < 1920 ∧ (Str.empty ++ toString i ++ sep ++ toString l).length ≤ sizeLine then .ok (.str (Str.empty ++ toString i ++ sep ++ toString l)) else .bad) Q := q
        by_cases hc : l.natAbs.log2 < 1920 ∧ (Str.empty ++ toString i ++ sep ++ toString l).length ≤ sizeLine
        · rw [if_pos hc] at q
          exact .inr ⟨l, k2.int_inv, hc.1, toString l, rfl, hc.2, q _ _ (s1.trans s2) (RpG.any (.str _) fun _ z => nomatch z)⟩
        · rw [if_neg hc] at q
          exact q.elim
      | exc c =>
        rw [eb, exc_bind] at q
        exact fun H' s => q H' (s1.trans s)
      | bad =>
        rw [eb, bad_bind] at q
        exact q.elim
    · rw [if_neg hk] at q
      exact q.elim
  | exc c =>
    rw [ea, exc_bind] at q
    exact q
  | bad =>
    rw [ea, bad_bind] at q
    exact q.elim
theorem s_x2 {f : X2} {a b : ME} {e : Expr} {p : Expr × Expr} (hp : x2Pick f e = some p) (hx : isE M X.N b X.env.scope p.2 = true) (ha : SE X M a p.1) (hb : SE X M b p.2) : SE X M (.x2 f a b) e ∧ (∀ whole, isTrue e X.env whole = (do let v ← whole; standAt e.pos; holding [v] (truthy v))) := by
  unfold x2Pick at hp
  split at hp
  · split at hp
    · rename_i hc
      obtain rfl := Option.some.inj hp
      exact ⟨s_x2m hc.1 hc.2.1 hc.2.2 (star_of hx _ _) ha hb, fun _ => rfl⟩
    · cases hp
  · split at hp
    · rename_i hc
      obtain rfl := Option.some.inj hp
      obtain ⟨rfl, rfl, rfl⟩ := hc
      exact ⟨s_fs ha hb, fun _ => rfl⟩
    · cases hp
  · cases hp
theorem pickN {f : BI} {n : Str} {t : Bool} {y : Str} {e x : Expr} (hn : biName f = some (n, t)) (h : (match biName f with
      | some (n, _) => if y = n then some e else none
      | none => none) = some x) : y = n ∧ e = x := by
  rw [hn] at h
  have h : (if y = n then some e else none) = some x := h
  by_cases hy : y = n
  · rw [if_pos hy] at h
    exact ⟨hy, Option.some.inj h⟩
  · rw [if_neg hy] at h
    cases h
theorem s_biAll {f : BI} {a : ME} {e x : Expr} (G : Good X k) (hp : biPick f X.env.scope e = some x) (hx : isE M X.N a X.env.scope x = true) (ha : SE X M a x) : SE X M (.bi f a) e := by
  cases e with
  | Call fe args kws p =>
    match fe, args, kws, hp with
    | .Attribute (.Name z px) at_ ap, [], [], hp =>
      have hp : (if biMeth f = some at_ ∧ ap.endLine = p.line then some (Expr.Name z px) else none) = some x := hp
      by_cases hc : biMeth f = some at_ ∧ ap.endLine = p.line
      · rw [if_pos hc] at hp
        obtain rfl := Option.some.inj hp
        obtain ⟨hf, hl⟩ := hc
        cases f <;> first | (cases hf; done) | skip
        · obtain rfl := Option.some.inj hf
          exact s_bits hl ha
        · obtain rfl := Option.some.inj hf
          exact s_upper hl ha
        · obtain rfl := Option.some.inj hf
          exact s_isdig hl ha
      · rw [if_neg hc] at hp
        cases hp
    | .Name y p2, args, [], hp =>
      have hp : (if (glB X.env.scope y && nmB y) = true then (match f, args with
        | .isi T, [e, .Name t _] => if y = ("isinstance" : Str) ∧ t = (T : Str) ∧ T ∈ tyName ∧ glB X.env.scope t = true ∧ nmB t = true then some e else none
        | .rev, [u] => (match oneArg u with
          | some (z, e) => if y = ("list" : Str) ∧ z = ("reversed" : Str) ∧ glB X.env.scope z = true then some e else none
          | none => none)
        | .listRg1, [u] => (match oneArg u with
          | some (z, e) => if y = ("list" : Str) ∧ z = ("range" : Str) ∧ glB X.env.scope z = true then some e else none
          | none => none)
        | f, [e] => (match biName f with
          | some (n, _) => if y = n then some e else none
          | none => none)
        | _, _ => none) else none) = some x := hp
      by_cases hg : (glB X.env.scope y && nmB y) = true
      · rw [if_pos hg] at hp
        obtain ⟨hg, hn⟩ := (Bool.and_eq_true _ _ ▸ hg : glB X.env.scope y = true ∧ nmB y = true)
        cases f with
        | len => match args, hp with | [e], hp => obtain ⟨rfl, rfl⟩ := pickN (f := .len) rfl hp; exact s_biB bi_len hg hn (G.bi _ (by decide)) (by decide +kernel) (by decide) (star_of hx _ _) ha
        | abs => match args, hp with | [e], hp => obtain ⟨rfl, rfl⟩ := pickN (f := .abs) rfl hp; exact s_biB bi_abs hg hn (G.bi _ (by decide)) (by decide +kernel) (by decide) (star_of hx _ _) ha
        | sum => match args, hp with | [e], hp => obtain ⟨rfl, rfl⟩ := pickN (f := .sum) rfl hp; exact s_biB (bi_sum G.calm) hg hn (G.bi _ (by decide)) (by decide +kernel) (by decide) (star_of hx _ _) ha
        | sorted => match args, hp with | [e], hp => obtain ⟨rfl, rfl⟩ := pickN (f := .sorted) rfl hp; exact s_biB bi_sorted hg hn (G.bi _ (by decide)) (by decide +kernel) (by decide) (star_of hx _ _) ha
        | all => match args, hp with | [e], hp => obtain ⟨rfl, rfl⟩ := pickN (f := .all) rfl hp; exact s_biB (bi_all G.calm) hg hn (G.bi _ (by decide)) (by decide +kernel) (by decide) (star_of hx _ _) ha
        | minL => match args, hp with | [e], hp => obtain ⟨rfl, rfl⟩ := pickN (f := .minL) rfl hp; exact s_biB (bi_minL G.calm) hg hn (G.bi _ (by decide)) (by decide +kernel) (by decide) (star_of hx _ _) ha
        | maxL => match args, hp with | [e], hp => obtain ⟨rfl, rfl⟩ := pickN (f := .maxL) rfl hp; exact s_biB (bi_maxL G.calm) hg hn (G.bi _ (by decide)) (by decide +kernel) (by decide) (star_of hx _ _) ha
        | list => match args, hp with | [e], hp => obtain ⟨rfl, rfl⟩ := pickN (f := .list) rfl hp; exact s_biT bi_list hg hn (G.bi _ (by decide)) (by decide +kernel) (by decide) (star_of hx _ _) ha
        | int => match args, hp with | [e], hp => obtain ⟨rfl, rfl⟩ := pickN (f := .int) rfl hp; exact s_biT bi_int hg hn (G.bi _ (by decide)) (by decide +kernel) (by decide) (star_of hx _ _) ha
        | strI => match args, hp with | [e], hp => obtain ⟨rfl, rfl⟩ := pickN (f := .strI) rfl hp; exact s_biT bi_strI hg hn (G.bi _ (by decide)) (by decide +kernel) (by decide) (star_of hx _ _) ha
        | isi T =>
          match args, hp with
          | [e, .Name t pt], hp =>
            have hp : (if y = ("isinstance" : Str) ∧ t = (T : Str) ∧ T ∈ tyName ∧ glB X.env.scope t = true ∧ nmB t = true then some e else none) = some x := hp
            by_cases hc : y = ("isinstance" : Str) ∧ t = (T : Str) ∧ T ∈ tyName ∧ glB X.env.scope t = true ∧ nmB t = true
            · rw [if_pos hc] at hp
              obtain rfl := Option.some.inj hp
              obtain ⟨rfl, rfl, hT, k1, k2⟩ := hc
              have hb : (T : Str) ∈ biNames ∧ bootBuiltins T = some (.type T) ∧ (T : Str) ≠ "__name__" := by
                simp only [tyName, List.mem_cons, List.not_mem_nil, or_false] at hT
                rcases hT with rfl | rfl | rfl | rfl | rfl <;> exact ⟨by decide, by decide +kernel, by decide⟩
              exact s_isi hg (G.bi _ (by decide)) k1 k2 (G.bi _ hb.1) hb.2.1 hb.2.2 (star_of hx _ _) ha
            · rw [if_neg hc] at hp
              cases hp
          | [e], hp => cases hp
        | rev =>
          match args, hp with
          | [u], hp =>
            have hq : (match oneArg u with
              | some (z, e) => if y = ("list" : Str) ∧ z = ("reversed" : Str) ∧ glB X.env.scope z = true then some e else none
              | none => none) = some x := hp
            split at hq
            rotate_left
            · cases hq
            rename_i z e eu
            obtain ⟨pz, pq, rfl⟩ := oneArg_of eu
            by_cases hc : y = ("list" : Str) ∧ z = ("reversed" : Str) ∧ glB X.env.scope z = true
            · rw [if_pos hc] at hq
              obtain rfl := Option.some.inj hq
              obtain ⟨rfl, rfl, k1⟩ := hc
              exact s_rev G hg k1 (star_of hx _ _) ha
            · rw [if_neg hc] at hq
              cases hq
        | listRg1 =>
          match args, hp with
          | [u], hp =>
            have hq : (match oneArg u with
              | some (z, e) => if y = ("list" : Str) ∧ z = ("range" : Str) ∧ glB X.env.scope z = true then some e else none
              | none => none) = some x := hp
            split at hq
            rotate_left
            · cases hq
            rename_i z e eu
            obtain ⟨pz, pq, rfl⟩ := oneArg_of eu
            by_cases hc : y = ("list" : Str) ∧ z = ("range" : Str) ∧ glB X.env.scope z = true
            · rw [if_pos hc] at hq
              obtain rfl := Option.some.inj hq
              obtain ⟨rfl, rfl, k1⟩ := hc
              exact s_rg1 G hg k1 (star_of hx _ _) ha
            · rw [if_neg hc] at hq
              cases hq
        | _ => match args, hp with | [e], hp => cases hp
      · rw [if_neg hg] at hp
        cases hp
    | .Name y p2, [e], [⟨some kx, .Constant (.int n) j pc, kp⟩], hp =>
      have hq : (if (glB X.env.scope y && nmB y) = true ∧ kx = ("default" : Str) then (match f with
        | .maxD d => if y = ("max" : Str) ∧ n = d then some e else none
        | .minD d => if y = ("min" : Str) ∧ n = d then some e else none
        | _ => none) else none) = some x := hp
      by_cases hg : (glB X.env.scope y && nmB y) = true ∧ kx = ("default" : Str)
      · rw [if_pos hg] at hq
        obtain ⟨hg, rfl⟩ := hg
        obtain ⟨hg, hn⟩ := (Bool.and_eq_true _ _ ▸ hg : glB X.env.scope y = true ∧ nmB y = true)
        cases f with
        | maxD d =>
          have hq : (if y = ("max" : Str) ∧ n = d then some e else none) = some x := hq
          by_cases hc : y = ("max" : Str) ∧ n = d
          · rw [if_pos hc] at hq
            obtain rfl := Option.some.inj hq
            obtain ⟨rfl, rfl⟩ := hc
            exact s_biK (bi_maxD G.calm G.room.units n) hg hn (G.bi _ (by decide)) (by decide +kernel) (by decide) (star_of hx _ _) ha
          · rw [if_neg hc] at hq
            cases hq
        | minD d =>
          have hq : (if y = ("min" : Str) ∧ n = d then some e else none) = some x := hq
          by_cases hc : y = ("min" : Str) ∧ n = d
          · rw [if_pos hc] at hq
            obtain rfl := Option.some.inj hq
            obtain ⟨rfl, rfl⟩ := hc
            exact s_biK (bi_minD G.calm G.room.units n) hg hn (G.bi _ (by decide)) (by decide +kernel) (by decide) (star_of hx _ _) ha
          · rw [if_neg hc] at hq
            cases hq
        | _ => cases hq
      · rw [if_neg hg] at hq
        cases hq
  | _ => cases hp
end
end Mn
/-! Mn, part I: and, or; what is walked; targets; comprehensions. -/
namespace Mn
open PySem PySem.Spec PyProof.Rows L2
section
variable {X : Cx} {M : Ow} {k : Nat}
/-! ### and, or -/
def tB2 (K : PySem.W.Frag) (M : Ow) (W : WX) (f : Env → R D) : TT := tT K M W (fun ρ => f ρ >>= fun x => asBool x)
theorem and_cons {e e2 : ME} {ms : ME} {ρ : Env} : denAnd (.cons e (.cons e2 ms)) ρ = denE e ρ >>= fun x => asBool x >>= fun b => if b = true then denAnd (.cons e2 ms) ρ else .ok (.bool false) := rfl
theorem or_cons {e e2 : ME} {ms : ME} {ρ : Env} : denOr (.cons e (.cons e2 ms)) ρ = denE e ρ >>= fun x => asBool x >>= fun b => if b = true then .ok (.bool true) else denOr (.cons e2 ms) ρ := rfl
/-- a value that is a truth: rest by it -/
theorem rd_bool {W : WX} {fa : Env → R D} {fk : Env → Bool → R D} {g : Gr} {σ : L2.St} {H : Hp} {Q : VK} {kk : Bool → Hp → Prop} (h : ∀ ρ N b H1, RelE X.K M N ρ σ H1 → Post g X.K H1 N (fun c d H' => W c d σ H') (fk ρ b) Q → kk b H1)
    (q : tE g X.K M W (fun ρ => fa ρ >>= fun x => asBool x >>= fun b => fk ρ b) σ H Q) : tE .loose X.K M W fa σ H (fun x H1 => ∃ c, x = .bl c ∧ kk c H1) := by
  obtain ⟨ρ, N, r, q⟩ := q
  refine ⟨ρ, N, r, ?_⟩
  dsimp only at q
  cases ea : fa ρ with
  | ok d =>
    rw [ea, ok_bind] at q
    intro v1 H1 s1 k1
    cases d with
    | bool b =>
      refine ⟨b, RpL.bl_inv k1, h ρ N b H1 (r.same s1) ?_⟩
      have q : Post g X.K H N (fun c d H' => W c d σ H') (fk ρ b) Q := q
      cases e : fk ρ b with
      | ok d =>
        rw [e] at q
        exact fun v H' s k => q v H' (s1.trans s) (k.back s1)
      | exc c =>
        rw [e] at q
        exact fun H' s => q H' (s1.trans s)
      | bad =>
        rw [e] at q
        exact q
    | _ => exact q.elim
  | exc c =>
    rw [ea, exc_bind] at q
    exact q
  | bad =>
    rw [ea, bad_bind] at q
    exact q.elim
theorem rd_boolT {W : WX} {fa : Env → R D} {fk : Env → Bool → R Bool} {σ : L2.St} {H : Hp} {Q : Bool → Hp → Prop} {kk : Bool → Hp → Prop} (h : ∀ ρ N b H1, RelE X.K M N ρ σ H1 → (match fk ρ b with
      | .ok b => ∀ H', Same H1 H' → Q b H'
      | .exc c => ∀ H', Same H1 H' → W (.ref (He.ga X.K c)) none σ H'
      | .bad => False) → kk b H1)
    (q : tT X.K M W (fun ρ => fa ρ >>= fun x => asBool x >>= fun b => fk ρ b) σ H Q) : tT X.K M W (fun ρ => fa ρ >>= fun x => asBool x) σ H (fun x H1 => kk x H1) := by
  obtain ⟨ρ, N, r, q⟩ := q
  refine ⟨ρ, N, r, ?_⟩
  dsimp only at q ⊢
  cases ea : fa ρ with
  | ok d =>
    rw [ea, ok_bind] at q
    rw [ok_bind]
    cases d with
    | bool b =>
      intro H1 s1
      refine h ρ N b H1 (r.same s1) ?_
      have q : (match fk ρ b with
        | .ok b => ∀ H', Same H H' → Q b H'
        | .exc c => ∀ H', Same H H' → W (.ref (He.ga X.K c)) none σ H'
        | .bad => False) := q
      cases e : fk ρ b with
      | ok d =>
        rw [e] at q
        exact fun H' s => q H' (s1.trans s)
      | exc c =>
        rw [e] at q
        exact fun H' s => q H' (s1.trans s)
      | bad =>
        rw [e] at q
        exact q
    | _ => exact q.elim
  | exc c =>
    rw [ea, exc_bind] at q
    exact q
  | bad =>
    rw [ea, bad_bind] at q
    exact q.elim
def SB (X : Cx) (M : Ow) (f : Env → R D) (op : PySem.BoolOp) (es : List Expr) : Prop := ∀ pos W, Takes X W → PE X (.BoolOp op es pos) (tE .fresh X.K M W f) ∧ PW X (.BoolOp op es pos) (tB2 X.K M W f)
theorem R_unit (r : R D) : (r >>= fun x => asBool x >>= fun b => R.ok (PyData.bool b)) = match r with
  | .ok (.bool b) => .ok (.bool b)
  | .ok _ => .bad
  | .exc c => .exc c
  | .bad => .bad := by
  cases r with
  | ok d => cases d <;> rfl
  | exc c => rfl
  | bad => rfl
theorem one_post {e : ME} {W : WX} {σ : L2.St} {H : Hp} {Q : VK} (q : tE .fresh X.K M W (fun ρ => denE e ρ >>= fun x => asBool x >>= fun b => R.ok (PyData.bool b)) σ H Q) : tE .loose X.K M W (denE e) σ H Q := by
  obtain ⟨ρ, N, r, q⟩ := q
  refine ⟨ρ, N, r, ?_⟩
  dsimp only at q
  cases ea : denE e ρ with
  | ok d =>
    rw [ea, ok_bind] at q
    intro v1 H1 s1 k1
    cases d with
    | bool b => exact q v1 H1 s1 (by rw [RpL.bl_inv k1]; exact RpG.any (.bl b) fun _ z => nomatch z)
    | _ => exact q.elim
  | exc c =>
    rw [ea, exc_bind] at q
    exact q
  | bad =>
    rw [ea, bad_bind] at q
    exact q.elim
theorem one_postT {e : ME} {W : WX} {σ : L2.St} {H : Hp} {Q : Bool → Hp → Prop} (q : tT X.K M W (fun ρ => (denE e ρ >>= fun x => asBool x >>= fun b => R.ok (PyData.bool b)) >>= fun x => asBool x) σ H Q) : tT X.K M W (fun ρ => denE e ρ >>= fun x => asBool x) σ H Q := by
  obtain ⟨ρ, N, r, q⟩ := q
  refine ⟨ρ, N, r, ?_⟩
  dsimp only at q ⊢
  cases ea : denE e ρ with
  | ok d =>
    rw [ea] at q
    cases d with
    | bool b => exact q
    | _ => exact q.elim
  | exc c =>
    rw [ea] at q
    exact q
  | bad =>
    rw [ea] at q
    exact q.elim
theorem s_and1 {e : ME} {x : Expr} (h : SE X M e x) (t : ST X M e x) : SB X M (denAnd (.cons e .nil)) .And [x] := fun pos W tk =>
  ⟨PE.imp (pe_one (h.l tk)) fun σ H Q q => one_post q, PW.imp (pw_and1 (t W tk)) fun σ H Q q => one_postT q⟩
theorem s_or1 {e : ME} {x : Expr} (h : SE X M e x) (t : ST X M e x) : SB X M (denOr (.cons e .nil)) .Or [x] := fun pos W tk =>
  ⟨PE.imp (pe_one (h.l tk)) fun σ H Q q => one_post q, PW.imp (pw_or1 (t W tk)) fun σ H Q q => one_postT q⟩
theorem s_and2 {e e2 ms : ME} {x y : Expr} {l : List Expr} (h : SE X M e x) (t : ST X M e x) (b : SB X M (denAnd (.cons e2 ms)) .And (y :: l)) : SB X M (denAnd (.cons e (.cons e2 ms))) .And (x :: y :: l) := fun pos W tk => by
  refine ⟨PE.imp (pe_and (h.l tk) (b pos W tk).1) fun σ H Q q => ?_, PW.imp (pw_and (t W tk) (b pos W tk).2) fun σ H Q q => ?_⟩
  · refine rd_bool (fk := fun ρ b => if b = true then denAnd (.cons e2 ms) ρ else .ok (.bool false)) (fun ρ N b H1 r q => ?_) q
    cases b with
    | true => exact ⟨ρ, N, r, q⟩
    | false => exact q _ _ (Same.refl _) (RpG.any (.bl false) fun _ z => nomatch z)
  · have q' : tT X.K M W (fun ρ => denE e ρ >>= fun x => asBool x >>= fun b => (if b = true then denAnd (.cons e2 ms) ρ else .ok (.bool false)) >>= fun x => asBool x) σ H Q := by
      obtain ⟨ρ, N, r, q⟩ := q
      refine ⟨ρ, N, r, ?_⟩
      dsimp only at q ⊢
      rw [and_cons] at q
      cases ea : denE e ρ with
      | ok d => rw [ea] at q; cases d <;> exact q
      | exc c => rw [ea] at q; exact q
      | bad => rw [ea] at q; exact q
    refine rd_boolT (fk := fun ρ b => (if b = true then denAnd (.cons e2 ms) ρ else .ok (.bool false)) >>= fun x => asBool x) (fun ρ N b H1 r q => ?_) q'
    cases b with
    | true => exact ⟨ρ, N, r, q⟩
    | false => exact q _ (Same.refl _)
theorem s_or2 {e e2 ms : ME} {x y : Expr} {l : List Expr} (h : SE X M e x) (t : ST X M e x) (b : SB X M (denOr (.cons e2 ms)) .Or (y :: l)) : SB X M (denOr (.cons e (.cons e2 ms))) .Or (x :: y :: l) := fun pos W tk => by
  refine ⟨PE.imp (pe_or (h.l tk) (b pos W tk).1) fun σ H Q q => ?_, PW.imp (pw_or (t W tk) (b pos W tk).2) fun σ H Q q => ?_⟩
  · refine rd_bool (fk := fun ρ b => if b = true then .ok (.bool true) else denOr (.cons e2 ms) ρ) (fun ρ N b H1 r q => ?_) q
    cases b with
    | false => exact ⟨ρ, N, r, q⟩
    | true => exact q _ _ (Same.refl _) (RpG.any (.bl true) fun _ z => nomatch z)
  · have q' : tT X.K M W (fun ρ => denE e ρ >>= fun x => asBool x >>= fun b => (if b = true then .ok (.bool true) else denOr (.cons e2 ms) ρ) >>= fun x => asBool x) σ H Q := by
      obtain ⟨ρ, N, r, q⟩ := q
      refine ⟨ρ, N, r, ?_⟩
      dsimp only at q ⊢
      rw [or_cons] at q
      cases ea : denE e ρ with
      | ok d => rw [ea] at q; cases d <;> exact q
      | exc c => rw [ea] at q; exact q
      | bad => rw [ea] at q; exact q
    refine rd_boolT (fk := fun ρ b => (if b = true then .ok (.bool true) else denOr (.cons e2 ms) ρ) >>= fun x => asBool x) (fun ρ N b H1 r q => ?_) q'
    cases b with
    | false => exact ⟨ρ, N, r, q⟩
    | true => exact q _ (Same.refl _)
/-! ### what is walked -/
def SI (X : Cx) (M : Ow) (m : ME) (tg e : Expr) : Prop := ∀ W, Takes X W → PI X tg e (tI (stI M m) X.K M W (denI m))
theorem SqL.ext {K : PySem.W.Frag} {N N' : Addr → Prop} {H H' : Hp} {g : Gr} {H0 : Hp} {v : V} {ds : List D} (k : RpG g K H0 H N v (.list ds)) (x : Ext N H N' H') (s : decide (g ≠ .loose) = false → Same H H') (ne : ∀ b, N b → H b ≠ none) : ∃ a xs, v = .ref a ∧ SqL K H' a xs ∧ RpAll K H' N' xs ds := by
  by_cases hg : g ≠ .loose
  · have r := Rp.ext x _ _ (k.s hg)
    exact r.list_inv
  · have sm := s (decide_eq_false hg)
    rcases k.l with r | ⟨a, xs, e, n, h1, h2⟩
    · exact (Rp.ext x _ _ r).list_inv
    · exact ⟨a, xs, e, .inl (.inl (sm _ _ h1)), RpAll.ext x _ _ h2⟩
/-- the walk of the items of a list -/
theorem it_list {K : PySem.W.Frag} {N : Addr → Prop} {H : Hp} {g : Gr} {H0 : Hp} {a : Addr} {ds : List D} (k : RpG g K H0 H N (.ref a) (.list ds)) (ne : ∀ b, N b → H b ≠ none) : ItOk (decide (g ≠ .loose)) K N (Itl K a) ds H := by
  intro H' N' x s
  obtain ⟨b, xs, e, sq, ra⟩ := SqL.ext k x s ne
  cases e
  refine ⟨fun i d hd => ?_, ⟨xs, sq, Nat.le_of_eq ra.length⟩⟩
  obtain ⟨v, hv, rv⟩ := ra.get hd
  refine ⟨⟨xs, v, sq, hv⟩, fun y H'' hy => ?_⟩
  obtain ⟨rfl, hy⟩ := hy
  have e2 := hy xs sq
  rw [hv] at e2
  cases e2
  exact ⟨Same.refl _, rv⟩
theorem it_tup {K : PySem.W.Frag} {N : Addr → Prop} {H : Hp} {s : Bool} {a : Addr} {ds : List D} (k : Rp K H N (.ref a) (.tuple ds)) : ItOk s K N (Itt K a) ds H := by
  intro H' N' x _
  obtain ⟨b, xs, e, sq, ra⟩ := (Rp.ext x _ _ k).tup_inv
  cases e
  refine ⟨fun i d hd => ?_, ⟨xs, sq, Nat.le_of_eq ra.length⟩⟩
  obtain ⟨v, hv, rv⟩ := ra.get hd
  refine ⟨⟨xs, v, sq, hv⟩, fun y H'' hy => ?_⟩
  obtain ⟨rfl, hy⟩ := hy
  have e2 := hy xs sq
  rw [hv] at e2
  cases e2
  exact ⟨Same.refl _, rv⟩
theorem it_str {K : PySem.W.Frag} {N : Addr → Prop} {H : Hp} {s : Bool} {z : Str} : ItOk s K N (Its z) (z.cps.toList.map fun c => .str ⟨#[c]⟩) H := by
  intro H' N' x _
  refine ⟨fun i d hd => ?_, ?_⟩
  · rw [List.getElem?_map] at hd
    cases hc : z.cps.toList[i]? with
    | none => rw [hc] at hd; cases hd
    | some c =>
      rw [hc] at hd
      cases hd
      have hi : i < z.cps.size := by
        have := (List.getElem?_eq_some_iff.mp hc).1
        simpa using this
      refine ⟨hi, fun y H'' hy => ?_⟩
      obtain ⟨rfl, c', hc', rfl⟩ := hy
      have hc2 : z.cps[i]? = some c := by rw [← Array.getElem?_toList]; exact hc
      rw [hc2] at hc'
      cases hc'
      exact ⟨Same.refl _, .str _⟩
  · show z.cps.size ≤ (z.cps.toList.map _).length
    rw [List.length_map, Array.length_toList]
    exact Nat.le_refl _
theorem it_rng {K : PySem.W.Frag} {N : Addr → Prop} {H : Hp} {s : Bool} {lo : Int} {n : Nat} : ItOk s K N (Itr lo n) (rgL lo n) H := by
  intro H' N' x _
  refine ⟨fun i d hd => ?_, ?_⟩
  · unfold rgL at hd
    rw [List.getElem?_map] at hd
    cases hc : (List.range n)[i]? with
    | none => rw [hc] at hd; cases hd
    | some c =>
      rw [hc] at hd
      cases hd
      obtain ⟨hi, e⟩ := List.getElem?_eq_some_iff.mp hc
      rw [List.getElem_range] at e
      subst e
      rw [List.length_range] at hi
      exact ⟨hi, fun y H'' hy => by
        obtain ⟨rfl, rfl⟩ := hy
        exact ⟨Same.refl _, .int _⟩⟩
  · show n ≤ (rgL lo n).length
    unfold rgL
    rw [List.length_map, List.length_range]
    exact Nat.le_refl _
theorem it_rngC {K : PySem.W.Frag} {N : Addr → Prop} {H : Hp} {s : Bool} {lo c : Int} {n : Nat} : ItOk s K N (Itc lo c n) ((List.range n).map fun (i : Nat) => .int (lo + (i : Int) * c)) H := by
  intro H' N' x _
  refine ⟨fun i d hd => ?_, ?_⟩
  · rw [List.getElem?_map] at hd
    cases hc : (List.range n)[i]? with
    | none => rw [hc] at hd; cases hd
    | some c =>
      rw [hc] at hd
      cases hd
      obtain ⟨hi, e⟩ := List.getElem?_eq_some_iff.mp hc
      rw [List.getElem_range] at e
      subst e
      rw [List.length_range] at hi
      exact ⟨hi, fun y H'' hy => by
        obtain ⟨rfl, rfl⟩ := hy
        exact ⟨Same.refl _, .int _⟩⟩
  · show n ≤ ((List.range n).map _).length
    rw [List.length_map, List.length_range]
    exact Nat.le_refl _
theorem it_rev {K : PySem.W.Frag} {N : Addr → Prop} {H : Hp} {g : Gr} {H0 : Hp} {a : Addr} {ds : List D} (k : RpG g K H0 H N (.ref a) (.list ds)) (ne : ∀ b, N b → H b ≠ none) : ItOk (decide (g ≠ .loose)) K N (Itv K a ds.length) ds.reverse H := by
  intro H' N' x s
  obtain ⟨b, xs, e, sq, ra⟩ := SqL.ext k x s ne
  cases e
  refine ⟨fun i d hd => ?_, by show ds.length ≤ ds.reverse.length; rw [List.length_reverse]; exact Nat.le_refl _⟩
  have hi : i < ds.length := by
    have := (List.getElem?_eq_some_iff.mp hd).1
    simpa using this
  rw [List.getElem?_reverse hi] at hd
  obtain ⟨v, hv, rv⟩ := ra.get hd
  refine ⟨⟨hi, xs, v, sq, hv⟩, fun y H'' hy => ?_⟩
  obtain ⟨rfl, hy⟩ := hy
  have e2 := hy xs sq
  rw [hv] at e2
  cases e2
  exact ⟨Same.refl _, rv⟩
theorem enum_get : ∀ (l : List D) (j i : Nat) (d : D), (enumD j l)[i]? = some d → ∃ y, l[i]? = some y ∧ d = .tuple [.int ((j + i : Nat) : Int), y]
  | [], j, i, d, h => by simp [enumD] at h
  | x :: l, j, 0, d, h => by
    have h' : some (PyData.tuple [.int (j : Int), x]) = some d := h
    cases h'
    exact ⟨x, rfl, rfl⟩
  | x :: l, j, i + 1, d, h => by
    have h' : (enumD (j + 1) l)[i]? = some d := by simpa [enumD] using h
    obtain ⟨y, h1, h2⟩ := enum_get l (j + 1) i d h'
    exact ⟨y, by simpa using h1, by rw [h2, show j + 1 + i = j + (i + 1) by omega]⟩
theorem enum_len : ∀ (l : List D) (j : Nat), (enumD j l).length = l.length
  | [], _ => rfl
  | x :: l, j => by
    show (enumD (j + 1) l).length + 1 = l.length + 1
    rw [enum_len l (j + 1)]
theorem it_enum {K : PySem.W.Frag} {N : Addr → Prop} {H : Hp} {g : Gr} {H0 : Hp} {a : Addr} {ds : List D} (k : RpG g K H0 H N (.ref a) (.list ds)) (ne : ∀ b, N b → H b ≠ none) : ItOk (decide (g ≠ .loose)) K N (Ite K a) (enumD 0 ds) H := by
  intro H' N' x s
  obtain ⟨b, xs, e, sq, ra⟩ := SqL.ext k x s ne
  cases e
  refine ⟨fun i d hd => ?_, ⟨xs, sq, by rw [enum_len, ra.length]; exact Nat.le_refl _⟩⟩
  obtain ⟨y, hy, rfl⟩ := enum_get ds 0 i d hd
  obtain ⟨v, hv, rv⟩ := ra.get hy
  refine ⟨⟨xs, v, sq, hv⟩, fun z H'' hz => ?_⟩
  obtain ⟨T, x', rfl, nT, rfl, hx⟩ := hz
  have e2 := hx xs sq
  rw [hv] at e2
  cases e2
  refine ⟨same_upd nT, .tup (.inl (.inl upd_same)) (.cons ?_ (.cons (rv.same (same_upd nT)) .nil))⟩
  rw [Nat.zero_add]
  exact .int _
theorem zip_get : ∀ (l m : List D) (i : Nat) (d : D), (zipD l m)[i]? = some d → ∃ x y, l[i]? = some x ∧ m[i]? = some y ∧ d = .tuple [x, y]
  | [], _, i, d, h => by simp [zipD] at h
  | _ :: _, [], i, d, h => by simp [zipD] at h
  | x :: l, y :: m, 0, d, h => by
    have h' : some (PyData.tuple [x, y]) = some d := h
    cases h'
    exact ⟨x, y, rfl, rfl, rfl⟩
  | x :: l, y :: m, i + 1, d, h => by
    have h' : (zipD l m)[i]? = some d := by simpa [zipD] using h
    obtain ⟨x', y', h1, h2, h3⟩ := zip_get l m i d h'
    exact ⟨x', y', by simpa using h1, by simpa using h2, h3⟩
theorem zip_len : ∀ (l m : List D), (zipD l m).length = min l.length m.length
  | [], m => by simp [zipD]
  | _ :: _, [] => by simp [zipD]
  | x :: l, y :: m => by
    show (zipD l m).length + 1 = min (l.length + 1) (m.length + 1)
    rw [zip_len l m]
    omega
end
end Mn
/-! Mn, part J: iterables, targets, comprehensions. -/
namespace Mn
open PySem PySem.Spec PyProof.Rows L2
theorem ItOk.weak {s s' : Bool} {K : PySem.W.Frag} {N : Addr → Prop} {J : It} {ds : List D} {H : Hp} (h : ItOk s K N J ds H) (e : s' = true → s = true) : ItOk s' K N J ds H := fun H' N' x k => h H' N' x fun hs => k (by
  cases s' with
  | false => rfl
  | true => rw [e rfl] at hs; cases hs)
section
variable {X : Cx} {M : Ow} {k : Nat} {tg : Expr}
/-- a walk made of one value -/
theorem rd_it {W : WX} {m : ME} {fk : D → R (List D)} {s : Bool} {σ : L2.St} {H : Hp} {R' : It → Hp → Prop} {kk : V → Hp → Prop} (hx : ∀ d c, fk d ≠ .exc c)
    (h : ∀ v d ds H0 H1 N, (∀ b, N b → H1 b ≠ none) → RpG (gr M m) X.K H0 H1 N v d → fk d = .ok ds → (∀ J H2, Same H1 H2 → ItOk s X.K N J ds H2 → R' J H2) → kk v H1)
    (q : tI s X.K M W (fun ρ => denE m ρ >>= fun x => fk x) σ H R') : tE (gr M m) X.K M W (denE m) σ H kk := by
  obtain ⟨ρ, N, r, q⟩ := q
  refine ⟨ρ, N, r, ?_⟩
  dsimp only at q
  cases ea : denE m ρ with
  | ok d =>
    rw [ea, ok_bind] at q
    intro v1 H1 s1 k1
    cases e : fk d with
    | ok ds =>
      rw [e] at q
      exact h v1 d ds H H1 N (r.same s1).ne k1 e fun J H2 s2 i => q J H2 (s1.trans s2) i
    | exc c => exact absurd e (hx d c)
    | bad =>
      rw [e] at q
      exact q.elim
  | exc c =>
    rw [ea, exc_bind] at q
    exact q
  | bad =>
    rw [ea, bad_bind] at q
    exact q.elim
theorem s_iSeq {m : ME} {e : Expr} (h : SE X M m e) : SI X M (.iSeq m) tg e := fun W tk => by
  refine PI.imp (PI.or (pi_list (h W tk)) (PI.or (pi_tup (h W tk)) (pi_str (h W tk)))) ?_
  rintro σ H R' ⟨ρ, N, r, q⟩
  have q : (match (denE m ρ >>= fun x => match x with
      | .list l => R.ok l
      | .tuple l => .ok l
      | .str s => .ok (s.cps.toList.map fun c => .str ⟨#[c]⟩)
      | _ => .bad) with
    | .ok ds => ∀ J H1, Same H H1 → ItOk (decide (gr M m ≠ .loose)) X.K N J ds H1 → R' J H1
    | .exc c => ∀ H', Same H H' → W (.ref (He.ga X.K c)) none σ H'
    | .bad => False) := q
  cases ea : denE m ρ with
  | ok d =>
    rw [ea, ok_bind] at q
    cases d with
    | list l =>
      refine .inl ⟨ρ, N, r, ?_⟩
      rw [ea]
      intro v H1 s1 k1
      obtain ⟨a, xs, rfl, sq, _⟩ := k1.l.list_inv
      exact ⟨a, rfl, ⟨xs, sq⟩, q _ _ s1 (it_list k1 (r.same s1).ne)⟩
    | tuple l =>
      refine .inr (.inl ⟨ρ, N, r, ?_⟩)
      rw [ea]
      intro v H1 s1 k1
      have k2 := k1.l.to fun _ z => nomatch z
      obtain ⟨a, xs, rfl, sq, _⟩ := k1.l.tup_inv
      exact ⟨a, rfl, ⟨xs, sq⟩, q _ _ s1 (it_tup k2)⟩
    | str z =>
      refine .inr (.inr ⟨ρ, N, r, ?_⟩)
      rw [ea]
      intro v H1 s1 k1
      exact ⟨z, k1.l.str_inv, q _ _ s1 it_str⟩
    | _ => exact q.elim
  | exc c =>
    rw [ea, exc_bind] at q
    refine .inl ⟨ρ, N, r, ?_⟩
    rw [ea]
    exact q
  | bad =>
    rw [ea, bad_bind] at q
    exact q.elim
theorem sm62 {i : Int} (h : small62 i = true) : -(2 ^ 62) ≤ i ∧ i < 2 ^ 62 := by
  have h := of_decide_eq_true h
  omega
theorem s_iRg1 {m : ME} {e : Expr} {p p2 : Pos} (G : Good X k) (h1 : glB X.env.scope "range" = true) (hs : starEach [e] X.env = (false, eval e X.env) :: starEach [] X.env) (h : SE X M m e) : SI X M (.iRg1 m) tg (.Call (.Name "range" p2) [e] [] p) := fun W tk => by
  refine PI.imp (pi_range1 (gl_of h1) (G.bi _ (by decide)) (pa_cons (h W tk) pa_nil hs) hs) fun σ H R' q => ?_
  refine rd_it (kk := fun v H1 => ∃ j : Int, [v] = [.int j] ∧ -(2 ^ 62) ≤ j ∧ j < 2 ^ 62 ∧ R' (Itr 0 j.toNat) H1) (fk := fun x => asInt x >>= fun n => if small62 n then R.ok (rgL 0 n.toNat) else .bad) (fun d c z => ?_) (fun v d ds H0 H1 N ne r hk hq => ?_) q
  · cases d <;> first | (cases z; done) | skip
    rename_i n
    have z' : (if small62 n then R.ok (rgL 0 n.toNat) else .bad) = .exc c := z
    split at z' <;> cases z'
  · cases d <;> first | (cases hk; done) | skip
    rename_i n
    have z' : (if small62 n then R.ok (rgL 0 n.toNat) else .bad) = .ok ds := hk
    split at z'
    · rename_i hn
      obtain rfl := R.ok_inj z'
      obtain ⟨a, b⟩ := sm62 hn
      exact ⟨n, by rw [r.l.int_inv], a, b, hq _ _ (Same.refl _) it_rng⟩
    · cases z'
/-- two ints, three -/
theorem rd_two {W : WX} {m m2 : ME} {fk : Int → Int → R (List D)} {s : Bool} {σ : L2.St} {H : Hp} {R' : It → Hp → Prop} {kk : Int → Int → Hp → Prop} (hx : ∀ i j c, fk i j ≠ .exc c)
    (h : ∀ i j ds H1 N, fk i j = .ok ds → (∀ J H2, Same H1 H2 → ItOk s X.K N J ds H2 → R' J H2) → kk i j H1)
    (q : tI s X.K M W (fun ρ => denE m ρ >>= fun x => denE m2 ρ >>= fun y => asInt x >>= fun i => asInt y >>= fun j => fk i j) σ H R') : tE .loose X.K M W (denE m) σ H (fun x H1 => tE .loose X.K M W (denE m2) σ H1 fun y H2 => ∃ i j, x = .int i ∧ y = .int j ∧ kk i j H2) := by
  obtain ⟨ρ, N, r, q⟩ := q
  refine ⟨ρ, N, r, ?_⟩
  dsimp only at q
  cases ea : denE m ρ with
  | ok d =>
    rw [ea, ok_bind] at q
    intro v1 H1 s1 k1
    refine ⟨ρ, N, r.same s1, ?_⟩
    cases eb : denE m2 ρ with
    | ok d2 =>
      rw [eb, ok_bind] at q
      intro v2 H2 s2 k2
      cases d <;> cases d2 <;> first | exact q.elim | skip
      rename_i i j
      refine ⟨i, j, RpL.int_inv k1, RpL.int_inv k2, ?_⟩
      have q : (match fk i j with
        | .ok ds => ∀ J H1, Same H H1 → ItOk s X.K N J ds H1 → R' J H1
        | .exc c => ∀ H', Same H H' → W (.ref (He.ga X.K c)) none σ H'
        | .bad => False) := q
      cases e : fk i j with
      | ok ds =>
        rw [e] at q
        exact h i j ds H2 N e fun J H3 s3 i => q J H3 ((s1.trans s2).trans s3) i
      | exc c => exact absurd e (hx i j c)
      | bad =>
        rw [e] at q
        exact q.elim
    | exc c =>
      rw [eb, exc_bind] at q
      exact fun H' s => q H' (s1.trans s)
    | bad =>
      rw [eb, bad_bind] at q
      exact q.elim
  | exc c =>
    rw [ea, exc_bind] at q
    exact q
  | bad =>
    rw [ea, bad_bind] at q
    exact q.elim
theorem s_iRg2 {m m2 : ME} {e e2 : Expr} {p p2 : Pos} (G : Good X k) (h1 : glB X.env.scope "range" = true) (hs : starEach [e, e2] X.env = (false, eval e X.env) :: starEach [e2] X.env) (hs2 : starEach [e2] X.env = (false, eval e2 X.env) :: starEach [] X.env) (h : SE X M m e) (h2 : SE X M m2 e2) :
    SI X M (.iRg2 m m2) tg (.Call (.Name "range" p2) [e, e2] [] p) := fun W tk => by
  refine PI.imp (pi_range2 (gl_of h1) (G.bi _ (by decide)) (pa_cons (h.l tk) (pa_cons (h2.l tk) pa_nil hs2) hs) (by rw [hs, hs2] <;> rfl) hs2) fun σ H R' q => ?_
  have := rd_two (kk := fun i j H => (-(2 ^ 62) ≤ i ∧ i < 2 ^ 62 ∧ -(2 ^ 62) ≤ j ∧ j < 2 ^ 62) ∧ R' (Itr i (j - i).toNat) H) (fk := fun i j => if small62 i && small62 j then R.ok (rgL i (j - i).toNat) else .bad) (fun i j c z => ?_) (fun i j ds H1 N hk hq => ?_) q
  · obtain ⟨ρ, N, r, t⟩ := this
    refine ⟨ρ, N, r, ?_⟩
    cases ea : denE m ρ with
    | ok d =>
      rw [ea] at t
      intro v1 H1 s1 k1
      obtain ⟨ρ2, N2, r2, t2⟩ := t v1 H1 s1 k1
      refine ⟨ρ2, N2, r2, ?_⟩
      cases eb : denE m2 ρ2 with
      | ok d2 =>
        rw [eb] at t2
        intro v2 H2 s2 k2
        obtain ⟨i, j, rfl, rfl, c⟩ := t2 v2 H2 s2 k2
        exact ⟨i, j, rfl, c⟩
      | exc c => rw [eb] at t2; exact t2
      | bad => rw [eb] at t2; exact t2
    | exc c => rw [ea] at t; exact t
    | bad => rw [ea] at t; exact t
  · split at z <;> cases z
  · split at hk
    · rename_i hn
      rw [Bool.and_eq_true] at hn
      obtain rfl := R.ok_inj hk
      obtain ⟨a, b⟩ := sm62 hn.1
      obtain ⟨c, d⟩ := sm62 hn.2
      exact ⟨⟨a, b, c, d⟩, hq _ _ (Same.refl _) it_rng⟩
    · cases hk
theorem s_iRg3 {m m2 m3 : ME} {e e2 e3 : Expr} {p p2 : Pos} (G : Good X k) (h1 : glB X.env.scope "range" = true) (hs : starEach [e, e2, e3] X.env = (false, eval e X.env) :: starEach [e2, e3] X.env) (hs2 : starEach [e2, e3] X.env = (false, eval e2 X.env) :: starEach [e3] X.env)
    (hs3 : starEach [e3] X.env = (false, eval e3 X.env) :: starEach [] X.env) (h : SE X M m e) (h2 : SE X M m2 e2) (h3 : SE X M m3 e3) : SI X M (.iRg3 m m2 m3) tg (.Call (.Name "range" p2) [e, e2, e3] [] p) := fun W tk => by
  refine PI.imp (pi_range3 (gl_of h1) (G.bi _ (by decide)) (pa_cons (h.l tk) (pa_cons (h2.l tk) (pa_cons (h3.l tk) pa_nil hs3) hs2) hs) hs (by rw [hs2, hs3] <;> rfl)) ?_
  rintro σ H R' ⟨ρ, N, r, q⟩
  refine ⟨ρ, N, r, ?_⟩
  have q : (match (denE m ρ >>= fun x => denE m2 ρ >>= fun y => denE m3 ρ >>= fun z => asInt x >>= fun i => asInt y >>= fun j => asInt z >>= fun k => rng3 i j k) with
    | .ok ds => ∀ J H1, Same H H1 → ItOk true X.K N J ds H1 → R' J H1
    | .exc c => ∀ H', Same H H' → W (.ref (He.ga X.K c)) none σ H'
    | .bad => False) := q
  cases ea : denE m ρ with
  | ok d =>
    rw [ea, ok_bind] at q
    intro v1 H1 s1 k1
    refine ⟨ρ, N, r.same s1, ?_⟩
    cases eb : denE m2 ρ with
    | ok d2 =>
      rw [eb, ok_bind] at q
      intro v2 H2 s2 k2
      refine ⟨ρ, N, r.same (s1.trans s2), ?_⟩
      cases ec : denE m3 ρ with
      | ok d3 =>
        rw [ec, ok_bind] at q
        intro v3 H3 s3 k3
        obtain ⟨i, rfl⟩ : ∃ i, d = .int i := by cases d <;> first | exact q.elim | exact ⟨_, rfl⟩
        obtain ⟨j, rfl⟩ : ∃ i, d2 = .int i := by cases d2 <;> first | exact q.elim | exact ⟨_, rfl⟩
        obtain ⟨c, rfl⟩ : ∃ i, d3 = .int i := by cases d3 <;> first | exact q.elim | exact ⟨_, rfl⟩
        have q : (match rng3 i j c with
          | .ok ds => ∀ J H1, Same H H1 → ItOk true X.K N J ds H1 → R' J H1
          | .exc c => ∀ H', Same H H' → W (.ref (He.ga X.K c)) none σ H'
          | .bad => False) := q
        unfold rng3 at q
        split at q
        · rename_i ds hk
          split at hk
          · rename_i hc
            obtain rfl := R.ok_inj hk
            refine ⟨i, j, c, _, ?_, ⟨hc.1, hc.2.1, hc.2.2.1, (Int.toNat_of_nonneg hc.2.2.2).symm⟩, q _ _ ((s1.trans s2).trans s3) it_rngC⟩
            rw [RpL.int_inv k1, RpL.int_inv k2, RpL.int_inv k3]
          · cases hk
        · rename_i c' hk
          split at hk <;> cases hk
        · exact q.elim
      | exc c =>
        rw [ec, exc_bind] at q
        exact fun H' s => q H' ((s1.trans s2).trans s)
      | bad =>
        rw [ec, bad_bind] at q
        exact q.elim
    | exc c =>
      rw [eb, exc_bind] at q
      exact fun H' s => q H' (s1.trans s)
    | bad =>
      rw [eb, bad_bind] at q
      exact q.elim
  | exc c =>
    rw [ea, exc_bind] at q
    exact q
  | bad =>
    rw [ea, bad_bind] at q
    exact q.elim
theorem asList_noE (f : List D → List D) (d : D) (c : Str) : (asList d >>= fun l => R.ok (f l)) ≠ .exc c := by
  cases d <;> (intro z; cases z)
theorem asList_inv {f : List D → List D} {d : D} {ds : List D} (h : (asList d >>= fun l => R.ok (f l)) = .ok ds) : ∃ l, d = .list l ∧ ds = f l := by
  cases d <;> first | (cases h; done) | exact ⟨_, rfl, (R.ok_inj h).symm⟩
theorem s_iRev {m : ME} {e : Expr} {p p2 : Pos} (G : Good X k) (h1 : glB X.env.scope "reversed" = true) (hs : starEach [e] X.env = (false, eval e X.env) :: starEach [] X.env) (h : SE X M m e) : SI X M (.iRev m) tg (.Call (.Name "reversed" p2) [e] [] p) := fun W tk => by
  refine PI.imp (pi_reversed (gl_of h1) (G.bi _ (by decide)) (pa_cons (h W tk) pa_nil hs) hs) fun σ H R' q => ?_
  refine rd_it (kk := fun v H1 => ∃ (a : Addr) (xs : List V), [v] = [V.ref a] ∧ SqL X.K H1 a xs ∧ R' (Itv X.K a xs.length) H1) (fk := fun x => asList x >>= fun l => R.ok l.reverse) (asList_noE _) (fun v d ds H0 H1 N ne r hk hq => ?_) q
  obtain ⟨l, rfl, rfl⟩ := asList_inv hk
  obtain ⟨a, xs, rfl, sq, ra⟩ := r.l.list_inv
  exact ⟨a, xs, rfl, sq, by rw [ra.length]; exact hq _ _ (Same.refl _) (it_rev r ne)⟩
theorem s_iEnum {m : ME} {e : Expr} {p p2 tp : Pos} {es : List Expr} {kk : Nat} (G : Good X k) (h1 : glB X.env.scope "enumerate" = true) (hs : starEach [e] X.env = (false, eval e X.env) :: starEach [] X.env) (h : SE X M m e) : SI X M (.iEnum m) (.Tuple es kk tp) (.Call (.Name "enumerate" p2) [e] [] p) := fun W tk => by
  refine PI.imp (pi_enum (gl_of h1) (G.bi _ (by decide)) (pa_cons (h W tk) pa_nil hs) hs) fun σ H R' q => ?_
  refine rd_it (kk := fun v H1 => ∃ (a : Addr) (xs : List V), [v] = [V.ref a] ∧ SqL X.K H1 a xs ∧ R' (Ite X.K a) H1) (fk := fun x => asList x >>= fun l => R.ok (enumD 0 l)) (asList_noE _) (fun v d ds H0 H1 N ne r hk hq => ?_) q
  obtain ⟨l, rfl, rfl⟩ := asList_inv hk
  obtain ⟨a, xs, rfl, sq, ra⟩ := r.l.list_inv
  exact ⟨a, xs, rfl, sq, hq _ _ (Same.refl _) (it_enum r ne)⟩
theorem s_iZip {m m2 : ME} {e e2 : Expr} {p p2 tp : Pos} {es : List Expr} {kk : Nat} (G : Good X k) (h1 : glB X.env.scope "zip" = true) (hs : starEach [e, e2] X.env = (false, eval e X.env) :: starEach [e2] X.env) (hs2 : starEach [e2] X.env = (false, eval e2 X.env) :: starEach [] X.env)
    (h : SE X M m e) (h2 : SE X M m2 e2) : SI X M (.iZip m m2) (.Tuple es kk tp) (.Call (.Name "zip" p2) [e, e2] [] p) := fun W tk => by
  refine PI.imp (pi_zip (gl_of h1) (G.bi _ (by decide)) (pa_cons (h W tk) (pa_cons (h2 W tk) pa_nil hs2) hs) hs (by rw [hs2] <;> rfl)) ?_
  rintro σ H R' ⟨ρ, N, r, q⟩
  refine ⟨ρ, N, r, ?_⟩
  have q : (match (denE m ρ >>= fun x => denE m2 ρ >>= fun y => asList x >>= fun l => asList y >>= fun m => R.ok (zipD l m)) with
    | .ok ds => ∀ J H1, Same H H1 → ItOk (decide (gr M m ≠ .loose) && decide (gr M m2 ≠ .loose)) X.K N J ds H1 → R' J H1
    | .exc c => ∀ H', Same H H' → W (.ref (He.ga X.K c)) none σ H'
    | .bad => False) := q
  cases ea : denE m ρ with
  | ok d =>
    rw [ea, ok_bind] at q
    intro v1 H1 s1 k1
    refine ⟨ρ, N, r.same s1, ?_⟩
    cases eb : denE m2 ρ with
    | ok d2 =>
      rw [eb, ok_bind] at q
      intro v2 H2 s2 k2
      cases d <;> first | exact q.elim | skip
      cases d2 <;> first | exact q.elim | skip
      rename_i l l2
      obtain ⟨a, xs, e1, sq1, _⟩ := (k1.l.same s2).list_inv
      obtain ⟨b, ys, e2, sq2, _⟩ := k2.l.list_inv
      subst e1 e2
      refine ⟨a, b, xs, ys, rfl, sq1, sq2, q _ _ (s1.trans s2) ?_⟩
      have ne1 := (r.same s1).ne
      have ne2 := (r.same (s1.trans s2)).ne
      intro H' N' x s
      have x1 : Ext N H1 N' H' := ⟨fun z hz => (x.sub z hz).imp_right fun w => s2.free w, fun z o ho hn => x.keep z o (s2 z o ho) hn⟩
      obtain ⟨a', xs', e1, sq1, ra⟩ := SqL.ext k1 x1 (fun hg => s2.trans (s (by rw [hg] <;> rfl))) ne1
      cases e1
      obtain ⟨b', ys', e2, sq2, rb⟩ := SqL.ext k2 x (fun hg => s (by rw [hg, Bool.and_false])) ne2
      cases e2
      refine ⟨fun i d hd => ?_, ⟨xs', ys', sq1, sq2, ?_⟩⟩
      · obtain ⟨x', y', h1, h2, rfl⟩ := zip_get _ _ _ _ hd
        obtain ⟨v, hv, rv⟩ := ra.get h1
        obtain ⟨u, hu, ru⟩ := rb.get h2
        refine ⟨⟨xs', ys', v, u, sq1, sq2, hv, hu⟩, fun z H'' hz => ?_⟩
        obtain ⟨T, x'', y'', rfl, nT, rfl, hx, hy⟩ := hz
        have e1 := hx xs' sq1
        rw [hv] at e1
        cases e1
        have e2 := hy ys' sq2
        rw [hu] at e2
        cases e2
        exact ⟨same_upd nT, .tup (.inl (.inl upd_same)) (.cons (rv.same (same_upd nT)) (.cons (ru.same (same_upd nT)) .nil))⟩
      · rw [zip_len, ra.length, rb.length]
        omega
    | exc c =>
      rw [eb, exc_bind] at q
      exact fun H' s => q H' (s1.trans s)
    | bad =>
      rw [eb, bad_bind] at q
      exact q.elim
  | exc c =>
    rw [ea, exc_bind] at q
    exact q
  | bad =>
    rw [ea, bad_bind] at q
    exact q.elim
end
end Mn
/-! Mn, part K: targets, comprehensions. -/
namespace Mn
open PySem PySem.Spec PyProof.Rows L2
/-! ### slots stored -/
def setS (σ : L2.St) : List Nat → List V → L2.St
  | i :: is, v :: vs => setS (σ.set i (some v)) is vs
  | _, _ => σ
theorem RelE.set {K : PySem.W.Frag} {M : Ow} {N : Addr → Prop} {ρ : Env} {σ : L2.St} {H : Hp} {i : Nat} {v : V} {d : D} (r : RelE K M N ρ σ H) (hi : i ∉ M) (k : Rp K H N v d) : RelE K M N (ρ.set i (some d)) (σ.set i (some v)) H := by
  refine ⟨r.ne, by rw [List.length_set, List.length_set, r.len], fun j e h hX => ?_, fun j e h hX => ?_⟩
  · by_cases hj : i = j
    · subst hj
      by_cases hl : i < ρ.length
      · rw [List.getElem?_set_self hl] at h
        have h' : d = e := Option.some.inj (Option.some.inj h)
        subst h'
        exact ⟨v, by rw [List.getElem?_set_self (by rw [← r.len]; exact hl)], fun z => absurd z hi, fun _ => k⟩
      · rw [List.getElem?_eq_none (by rw [List.length_set]; omega)] at h
        cases h
    · rw [List.getElem?_set_ne hj] at h
      obtain ⟨u, e1, h1, h2⟩ := r.sl j e h hX
      exact ⟨u, by rw [List.getElem?_set_ne hj]; exact e1, h1, h2⟩
  · by_cases hj : i = j
    · subst hj
      by_cases hl : i < ρ.length
      · rw [List.getElem?_set_self hl] at h
        have h' : d = e := Option.some.inj (Option.some.inj h)
        subst h'
        rw [k.noX] at hX
        cases hX
      · rw [List.getElem?_eq_none (by rw [List.length_set]; omega)] at h
        cases h
    · rw [List.getElem?_set_ne hj] at h ⊢
      exact r.sx j e h hX
theorem RelE.drop {K : PySem.W.Frag} {M : Ow} {N : Addr → Prop} {ρ : Env} {σ : L2.St} {H : Hp} {i : Nat} (r : RelE K M N ρ σ H) : RelE K M N (ρ.set i none) σ H := by
  have g : ∀ {j : Nat} {e : D}, (ρ.set i none)[j]? = some (some e) → ρ[j]? = some (some e) := fun {j e} h => by
    by_cases hj : i = j
    · subst hj
      by_cases hl : i < ρ.length
      · rw [List.getElem?_set_self hl] at h
        cases h
      · rw [List.getElem?_eq_none (by rw [List.length_set]; omega)] at h
        cases h
    · rw [List.getElem?_set_ne hj] at h
      exact h
  exact ⟨r.ne, by rw [List.length_set, r.len], fun j e h => r.sl j e (g h), fun j e h => r.sx j e (g h)⟩
theorem wipeE_get {ρ : Env} {j : Nat} {d : D} : ∀ {vs : List Nat}, (wipeE ρ vs)[j]? = some (some d) → ρ[j]? = some (some d) ∧ j ∉ vs
  | [], h => ⟨h, by simp⟩
  | i :: vs, h => by
    have h : ((wipeE ρ vs).set i none)[j]? = some (some d) := h
    by_cases hj : i = j
    · subst hj
      by_cases hl : i < (wipeE ρ vs).length
      · rw [List.getElem?_set_self hl] at h; cases h
      · rw [List.getElem?_eq_none (by rw [List.length_set]; omega)] at h; cases h
    · rw [List.getElem?_set_ne hj] at h
      obtain ⟨a, b⟩ := wipeE_get h
      exact ⟨a, fun z => (List.mem_cons.mp z).elim (fun e => hj e.symm) b⟩
theorem wipeE_len {ρ : Env} : ∀ {vs : List Nat}, (wipeE ρ vs).length = ρ.length
  | [] => rfl
  | i :: vs => by
    show ((wipeE ρ vs).set i none).length = _
    rw [List.length_set, wipeE_len]
theorem wipe_get {σ : L2.St} {j : Nat} : ∀ {vs : List Nat}, (wipe σ vs)[j]? = if j ∈ vs then (if j < σ.length then some none else none) else σ[j]?
  | [] => by simp [wipe]
  | i :: vs => by
    have ih := wipe_get (σ := σ) (j := j) (vs := vs)
    show ((wipe σ vs).set i none)[j]? = _
    by_cases hj : i = j
    · subst hj
      rw [if_pos List.mem_cons_self]
      by_cases hl : i < σ.length
      · rw [if_pos hl, List.getElem?_set_self (by rw [wipe_length]; exact hl)]
      · rw [if_neg hl, List.getElem?_eq_none (by rw [List.length_set, wipe_length]; omega)]
    · rw [List.getElem?_set_ne hj, ih]
      by_cases hm : j ∈ vs
      · rw [if_pos hm, if_pos (List.mem_cons_of_mem _ hm)]
      · rw [if_neg hm, if_neg (by simp only [List.mem_cons, not_or]; exact ⟨fun e => hj e.symm, hm⟩)]
theorem wipe_wipe {σ : L2.St} {vs : List Nat} : wipe (wipe σ vs) vs = wipe σ vs := by
  refine List.ext_getElem? fun j => ?_
  rw [wipe_get, wipe_get, wipe_length]
  by_cases hm : j ∈ vs
  · rw [if_pos hm, if_pos hm]
  · rw [if_neg hm, if_neg hm]
theorem wipe_set {σ : L2.St} {vs : List Nat} {i : Nat} {x : Option V} (h : i ∈ vs) : wipe (σ.set i x) vs = wipe σ vs := by
  refine List.ext_getElem? fun j => ?_
  rw [wipe_get, wipe_get, List.length_set]
  by_cases hm : j ∈ vs
  · rw [if_pos hm, if_pos hm]
  · rw [if_neg hm, if_neg hm, List.getElem?_set_ne (fun e => hm (by rw [← e]; exact h))]
theorem wipe_setS {vs : List Nat} : ∀ {tg : List Nat} {ws : List V} {σ : L2.St}, (∀ i ∈ tg, i ∈ vs) → wipe (setS σ tg ws) vs = wipe σ vs
  | [], _, _, _ => rfl
  | i :: is, [], _, _ => rfl
  | i :: is, w :: ws, σ, h => by
    show wipe (setS (σ.set i (some w)) is ws) vs = _
    rw [wipe_setS fun j hj => h j (List.mem_cons_of_mem _ hj), wipe_set (h i List.mem_cons_self)]
theorem RelE.wiped {K : PySem.W.Frag} {M : Ow} {N : Addr → Prop} {ρ : Env} {σ : L2.St} {H : Hp} {vs : List Nat} (r : RelE K M N ρ σ H) : RelE K M N (wipeE ρ vs) (wipe σ vs) H := by
  refine ⟨r.ne, by rw [wipeE_len, wipe_length, r.len], fun j e h hX => ?_, fun j e h hX => ?_⟩
  · obtain ⟨a, b⟩ := wipeE_get h
    obtain ⟨u, e1, h1, h2⟩ := r.sl j e a hX
    exact ⟨u, by rw [wipe_get, if_neg b]; exact e1, h1, h2⟩
  · obtain ⟨a, b⟩ := wipeE_get h
    rw [wipe_get, if_neg b]
    exact r.sx j e a hX
theorem RelE.setS {K : PySem.W.Frag} {M : Ow} {N : Addr → Prop} {H : Hp} : ∀ {tg : List Nat} {ds : List D} {ws : List V} {ρ : Env} {σ : L2.St}, RelE K M N ρ σ H → (∀ i ∈ tg, i ∉ M) → RpAll K H N ws ds → RelE K M N (setL ρ tg ds) (Mn.setS σ tg ws) H
  | [], _, _, _, _, r, _, _ => r
  | i :: is, [], _, _, _, r, _, k => by cases k; exact r
  | i :: is, d :: ds, _, _, _, r, h, k => by
    cases k with
    | cons k1 k2 =>
      have q := RelE.setS (tg := is) (RelE.set r (h i List.mem_cons_self) k1) (fun j hj => h j (List.mem_cons_of_mem _ hj)) k2
      exact q
theorem RpO.grow {K : PySem.W.Frag} {N N' : Addr → Prop} {H H' : Hp} {v : V} {d : D} (x : Ext N H N' H') (hN : ∀ b, N b → N' b) (s : Same H H') (h : RpO K H N v d) : RpO K H' N' v d := by
  cases d with
  | list ds =>
    obtain ⟨a, xs, e, n, h1, h2⟩ := h
    exact ⟨a, xs, e, hN _ n, s _ _ h1, RpAll.ext x _ _ h2⟩
  | _ => exact Rp.ext x _ _ h
theorem RelE.grow {K : PySem.W.Frag} {M : Ow} {N N' : Addr → Prop} {ρ : Env} {σ : L2.St} {H H' : Hp} (r : RelE K M N ρ σ H) (x : Ext N H N' H') (hN : ∀ b, N b → N' b) (s : Same H H') (ne : ∀ b, N' b → H' b ≠ none) : RelE K M N' ρ σ H' :=
  ⟨ne, r.len, fun i d e z => let ⟨v, e1, h1, h2⟩ := r.sl i d e z; ⟨v, e1, fun q => RpO.grow x hN s (h1 q), fun q => Rp.ext x _ _ (h2 q)⟩, r.sx⟩
theorem Ext.upd {N : Addr → Prop} {H : Hp} {a : Addr} {xs : List V} (h : N a) : Ext N H N (upd H a (.lst xs)) ∨ ∃ o, H a = some o ∧ ∀ xs, o ≠ .lst xs := by
  by_cases q : ∃ o, H a = some o ∧ ∀ xs, o ≠ .lst xs
  · exact .inr q
  · refine .inl ⟨fun _ z => .inl z, fun b o hb hn => ?_⟩
    by_cases hba : b = a
    · subst hba
      rcases hn with z | z
      · exact absurd h z
      · exact absurd ⟨o, hb, z⟩ q
    · rw [upd_ne hba]
      exact hb
theorem Ext.updL {N : Addr → Prop} {H : Hp} {a : Addr} {xs ys : List V} (h : N a) (hx : H a = some (.lst ys)) : Ext N H N (L2.upd H a (.lst xs)) := (Ext.upd h).resolve_right fun ⟨o, e, z⟩ => by
  rw [hx] at e
  cases e
  exact z _ rfl
/-! ### targets -/
def gTs : List Nat → TGs
  | [] => gNil
  | i :: is => gCons (gName i) (gTs is)
def gT (K : PySem.W.Frag) (tg : List Nat) : Bool → TG
  | true => gTup K tg.length (gTs tg)
  | false => (match tg with
    | [i] => gName i
    | _ => fun _ _ _ _ => False)
theorem loc_of {sc : Scope} {fn : Str → Bool} {x : Str} (h : locB sc fn x = true) : Loc sc x ∧ (fn x = true ∨ sc.names.lookup x = some .local) := by
  unfold locB at h
  split at h
  · exact ⟨.inl (by assumption), .inr (by assumption)⟩
  · exact ⟨.inr (by assumption), .inl h⟩
  · cases h
section
variable {X : Cx} {M : Ow} {k : Nat}
theorem pgs_of (hN : X.N.Nodup) : ∀ (tg : List Nat) (es : List Expr), isT.isTs X.N X.env.scope X.fn tg es = true → PGs X es (gTs tg) ∧ (assignEach es X.env).length = tg.length ∧ (assignEach es X.env).findIdx? (·.1) = none
  | [], [], _ => ⟨pgs_nil, rfl, rfl⟩
  | i :: is, e :: es, h => by
    cases e with
    | Name x p =>
      have h' : (decide (X.N[i]? = some x) && locB X.env.scope X.fn x && isT.isTs X.N X.env.scope X.fn is es) = true := h
      rw [Bool.and_eq_true, Bool.and_eq_true] at h'
      obtain ⟨a, b, c⟩ := pgs_of hN is es h'.2
      obtain ⟨l1, l2⟩ := loc_of h'.1.2
      refine ⟨pgs_cons (pg_name hN (of_decide_eq_true h'.1.1) l1 l2) a, ?_, ?_⟩
      · show (assignEach es X.env).length + 1 = is.length + 1
        rw [b]
      · show List.findIdx? (·.1) ((false, assign (.Name x p) X.env) :: assignEach es X.env) = none
        rw [List.findIdx?_cons, c]
        rfl
    | _ => cases h
  | [], _ :: _, h => by cases h
  | _ :: _, [], h => by cases h
theorem pg_of (hc : X.calm = true) (hN : X.N.Nodup) {tg : List Nat} {tup : Bool} {e : Expr} (h : isT X.N X.env.scope X.fn tg tup e = true) : PG X e (gT X.K tg tup) := by
  cases tup with
  | false =>
    cases e with
    | Name x p =>
      match tg, h with
      | [i], h =>
        have h' : (decide (X.N[i]? = some x) && locB X.env.scope X.fn x) = true := h
        rw [Bool.and_eq_true] at h'
        obtain ⟨l1, l2⟩ := loc_of h'.2
        exact pg_name hN (of_decide_eq_true h'.1) l1 l2
    | _ => cases h
  | true =>
    cases e with
    | Tuple es kk p =>
      obtain ⟨a, b, c⟩ := pgs_of hN tg es h
      exact pg_tup hc a b c
    | _ => cases h
theorem pgl_of (hc : X.calm = true) (hN : X.N.Nodup) {tg : List Nat} {es : List Expr} {kk : Nat} {p : Pos} (h : isT X.N X.env.scope X.fn tg true (.Tuple es kk p) = true) : PG X (.Tuple es kk p) (gLst X.K tg.length (gTs tg)) := by
  obtain ⟨a, b, c⟩ := pgs_of hN tg es h
  exact pg_lst hc a b c
theorem gTs_by {H : Hp} {Q : L2.St → Hp → Prop} : ∀ {tg : List Nat} {ws : List V} {σ : L2.St}, ws.length = tg.length → Q (setS σ tg ws) H → gTs tg ws σ H Q
  | [], [], _, _, q => ⟨rfl, q⟩
  | i :: is, w :: ws, σ, h, q => ⟨w, ws, rfl, gTs_by (tg := is) (by simpa using h) q⟩
  | [], _ :: _, _, h, _ => by cases h
  | _ :: _, [], _, h, _ => by cases h
/-- a target takes what it is given -/
theorem gT_by {N : Addr → Prop} {ρ ρ' : Env} {σ : L2.St} {H : Hp} {tg : List Nat} {tup : Bool} {v : V} {d : D} {Q : L2.St → Hp → Prop} (r : RelE X.K M N ρ σ H) (hM : ∀ i ∈ tg, i ∉ M) (k : Rp X.K H N v d) (hb : bindT tg tup d ρ = .ok ρ')
    (q : ∀ ws, RelE X.K M N ρ' (setS σ tg ws) H → Q (setS σ tg ws) H) : gT X.K tg tup v σ H Q := by
  cases tup with
  | false =>
    match tg, hb with
    | [i], hb =>
      obtain rfl := R.ok_inj hb
      exact q [v] (RelE.set r (hM i List.mem_cons_self) k)
  | true =>
    cases d with
    | tuple ds =>
      have hb : (if ds.length = tg.length then R.ok (setL ρ tg ds) else .bad) = .ok ρ' := hb
      by_cases hl : ds.length = tg.length
      · rw [if_pos hl] at hb
        obtain rfl := R.ok_inj hb
        obtain ⟨a, xs, e, sq, ra⟩ := k.tup_inv
        have hx : xs.length = tg.length := by rw [ra.length, hl]
        exact ⟨a, xs, e, sq, hx, gTs_by hx (q xs (RelE.setS r hM ra))⟩
      · rw [if_neg hl] at hb
        cases hb
    | _ => cases hb
/-! ### comprehensions -/
def SC (X : Cx) (M : Ow) (m : ME) (ifs : List Expr) : Prop := ∀ W, Takes X W → PTs X ifs (tT X.K M W (denC m))
theorem PTs.imp {es : List Expr} {t t' : TT} (h : PTs X es t) (k : ∀ σ H Q, t' σ H Q → t σ H Q) : PTs X es t' := ⟨fun pins s σ H Q I q => h.run pins s σ H Q I (k _ _ _ q)⟩
theorem s_c0 : SC X M .nil [] := fun W tk => PTs.imp pts_nil fun σ H Q ⟨ρ, N, r, q⟩ => q H (Same.refl _)
theorem s_c1 {m : ME} {e : Expr} (h : ST X M m e) : SC X M (.cons m .nil) [e] := fun W tk => pts_one (h W tk)
theorem filt_step {f : D → R (Option D)} {ds : List D} {i : Nat} {d : D} {r : List D} (hd : ds[i]? = some d) (h : filt f (ds.drop i) = .ok r) : ∃ o r', f d = .ok o ∧ filt f (ds.drop (i + 1)) = .ok r' ∧ r = (match o with | some y => y :: r' | none => r') := by
  obtain ⟨hi, e⟩ := List.getElem?_eq_some_iff.mp hd
  rw [List.drop_eq_getElem_cons hi, e] at h
  have h : (f d >>= fun o => filt f (ds.drop (i + 1)) >>= fun r => R.ok (match o with | some y => y :: r | none => r)) = .ok r := h
  cases ef : f d with
  | ok o =>
    rw [ef, ok_bind] at h
    cases er : filt f (ds.drop (i + 1)) with
    | ok r' =>
      rw [er, ok_bind] at h
      exact ⟨o, r', rfl, rfl, (R.ok_inj h).symm⟩
    | exc c => rw [er] at h; cases h
    | bad => rw [er] at h; cases h
  | exc c => rw [ef] at h; cases h
  | bad => rw [ef] at h; cases h
theorem noexc_ok {α : Type} {r : R α} {a : α} (h : noexc r = .ok a) : r = .ok a := by
  cases r with
  | ok b => exact h
  | exc c => cases h
  | bad => cases h
def compF (own : List Nat) (tg : List Nat) (tup : Bool) (cond elt : ME) (ρ : Env) (d : D) : R (Option D) :=
  bindT tg tup d (wipeE ρ own) >>= fun ρ' => denC cond ρ' >>= fun k => if k = true then denE elt ρ' >>= fun y => .ok (some y) else .ok none
theorem compF_inv {own tg : List Nat} {tup : Bool} {cond elt : ME} {ρ : Env} {d : D} {o : Option D} (h : compF own tg tup cond elt ρ d = .ok o) :
    ∃ ρ' b, bindT tg tup d (wipeE ρ own) = .ok ρ' ∧ denC cond ρ' = .ok b ∧ (b = true → ∃ y, denE elt ρ' = .ok y ∧ o = some y) ∧ (b = false → o = none) := by
  unfold compF at h
  cases e1 : bindT tg tup d (wipeE ρ own) with
  | ok ρ' =>
    rw [e1, ok_bind] at h
    cases e2 : denC cond ρ' with
    | ok b =>
      rw [e2, ok_bind] at h
      refine ⟨ρ', b, rfl, e2, fun hb => ?_, fun hb => ?_⟩
      · rw [if_pos hb] at h
        cases e3 : denE elt ρ' with
        | ok y => rw [e3] at h; exact ⟨y, rfl, (R.ok_inj h).symm⟩
        | exc c => rw [e3] at h; cases h
        | bad => rw [e3] at h; cases h
      · rw [if_neg (by rw [hb]; exact Bool.false_ne_true)] at h
        exact (R.ok_inj h).symm
    | exc c => rw [e2] at h; cases h
    | bad => rw [e2] at h; cases h
  | exc c => rw [e1] at h; cases h
  | bad => rw [e1] at h; cases h
theorem lc_read {own : List (Str × Nat)} {tg : List Nat} {tup : Bool} {it cond elt : ME} {W : WX} (htg : ∀ j ∈ tg, j ∈ own.map (·.2)) (hM : ∀ j ∈ tg, j ∉ M) (hgr : gr M elt ≠ .loose) :
    ∀ σ H Q, tE .fresh X.K M W (denE (.comp own tg tup it cond elt)) σ H Q → tLc (tI (stI M it) X.K M W (denI it)) (gT X.K tg tup) (tT X.K M (fun _ _ _ _ => False) (denC cond)) (tE (gr M elt) X.K M (fun _ _ _ _ => False) (denE elt)) (own.map (·.2)) σ H Q := by
  rintro σ H Q ⟨ρ, N, r, q⟩
  refine ⟨ρ, N, r, ?_⟩
  have q : Post .fresh X.K H N (fun c d H' => W c d σ H') (denI it ρ >>= fun ds => noexc (filt (compF (own.map (·.2)) tg tup cond elt ρ) ds) >>= fun r => if r.length ≤ sizeLine then .ok (.list r) else .bad) Q := q
  cases ei : denI it ρ with
  | ok ds =>
    rw [ei, ok_bind] at q
    intro J H1 s1 ok1 Dn hD
    cases ef : noexc (filt (compF (own.map (·.2)) tg tup cond elt ρ) ds) with
    | ok rs =>
      rw [ef, ok_bind] at q
      have ef := noexc_ok ef
      by_cases hl : rs.length ≤ sizeLine
      · rw [if_pos hl] at q
        have ne1 := (r.same s1).ne
        have hDN : ¬ N Dn := fun z => ne1 Dn z hD
        let N' : Addr → Prop := fun b => N b ∨ b = Dn
        have hN' : N' Dn := .inr rfl
        have ex1 : ∀ {H'}, Same H1 H' → Ext N H1 N' H' := fun {H'} s => ⟨fun b z => z.imp_right fun e => by rw [e]; exact hD, toN s⟩
        have ne' : ∀ {H'}, Same H1 H' → H' Dn ≠ none → ∀ b, N' b → H' b ≠ none := fun {H'} s hd b z => z.elim (fun w q => ne1 b w (s.free q)) fun e => by rw [e]; exact hd
        refine ⟨fun n m H' => n ≤ ds.length ∧ m = ds.length - n ∧ Same H1 H' ∧ ∃ acc accD rest, H' Dn = some (.lst acc) ∧ RpAll X.K H' N' acc accD ∧ filt (compF (own.map (·.2)) tg tup cond elt ρ) (ds.drop n) = .ok rest ∧ rs = accD ++ rest, ⟨ds.length, Nat.zero_le _, rfl, same_upd hD, [], [], rs, upd_same, .nil, ef, rfl⟩, ?_⟩
        rintro n m H' ⟨hn, rfl, s2, acc, accD, rest, hacc, ra, efr, ers⟩
        obtain ⟨go, stop⟩ := ok1 H' N' (ex1 s2) fun _ => s2
        by_cases hlt : n < ds.length
        · obtain ⟨gon, yld⟩ := go n ds[n] (List.getElem?_eq_getElem hlt)
          obtain ⟨o, r', efd, efr', hrest⟩ := filt_step (List.getElem?_eq_getElem hlt) efr
          obtain ⟨ρ', b, hbt, hcd, hy1, hy2⟩ := compF_inv efd
          refine .inr ⟨gon, fun H'' => Same H1 H'' ∧ ∃ acc accD rest, H'' Dn = some (.lst acc) ∧ RpAll X.K H'' N' acc accD ∧ filt (compF (own.map (·.2)) tg tup cond elt ρ) (ds.drop (n + 1)) = .ok rest ∧ rs = accD ++ rest, ?_, ?_⟩
          · rintro H'' ⟨s3, w⟩
            exact ⟨ds.length - (n + 1), by omega, hlt, rfl, s3, w⟩
          · intro x H3 hx
            obtain ⟨s3, rx⟩ := yld x H3 hx
            have r3 : RelE X.K M N' ρ σ H3 := (r.same s1).grow (ex1 (s2.trans s3)) (fun _ => .inl) (s2.trans s3) (ne' (s2.trans s3) (by rw [s3 _ _ hacc]; exact fun z => nomatch z))
            refine gT_by r3.wiped hM rx hbt fun ws r' => ?_
            refine ⟨by rw [wipe_setS htg, wipe_wipe], ρ', N', r', ?_⟩
            rw [hcd]
            intro H4 s4
            cases b with
            | true =>
              obtain ⟨y, ey, ho⟩ := hy1 rfl
              refine ⟨ρ', N', r'.same s4, ?_⟩
              rw [ey]
              intro v H5 s5 k5
              have s35 := (s3.trans s4).trans s5
              have hD5 : H5 Dn = some (.lst acc) := s35 _ _ hacc
              have k5 : Rp X.K H5 N' v y := RpG.s hgr k5
              subst ho
              subst hrest
              refine ⟨acc, hD5, ?_, ?_, acc ++ [v], accD ++ [y], _, upd_same, RpAll.ext (Ext.updL hN' hD5) _ _ ((ra.same s35).snoc k5), efr', by rw [ers, List.append_assoc]; rfl⟩
              · have := ra.length
                rw [ers, List.length_append, List.length_cons] at hl
                omega
              · intro b o hbo
                have hne : b ≠ Dn := ne_of_none hbo hD
                rw [upd_ne hne]
                exact ((s2.trans s35) b o hbo)
            | false =>
              have ho := hy2 rfl
              subst ho
              subst hrest
              exact ⟨(s2.trans s3).trans s4, acc, accD, _, (s3.trans s4) _ _ hacc, ra.same (s3.trans s4), efr', ers⟩
        · have hn' : n = ds.length := by omega
          subst hn'
          have er : rest = [] := by
            rw [List.drop_length] at efr
            exact (R.ok_inj efr).symm
          subst er
          rw [List.append_nil] at ers
          subst ers
          have ra1 := RpAll.less (N' := N) (fun _ _ => .inl) _ _ ra
          refine .inl ⟨stop, q _ _ (s1.trans s2) ?_⟩
          exact ⟨.lst (.inl ⟨hDN, .inl hacc⟩) ra1, fun ds' e => by
            injection e with e
            subst e
            exact ⟨Dn, acc, rfl, s1.free hD, hacc, ra⟩⟩
      · rw [if_neg hl] at q
        exact q.elim
    | exc c =>
      cases ee : filt (compF (own.map (·.2)) tg tup cond elt ρ) ds with
      | ok _ => rw [ee] at ef; cases ef
      | exc _ => rw [ee] at ef; cases ef
      | bad => rw [ee] at ef; cases ef
    | bad =>
      rw [ef, bad_bind] at q
      exact q.elim
  | exc c =>
    rw [ei, exc_bind] at q
    exact q
  | bad =>
    rw [ei, bad_bind] at q
    exact q.elim
theorem s_comp {own : List (Str × Nat)} {tg : List Nat} {tup : Bool} {it cond elt : ME} {t i e : Expr} {ifs : List Expr} {scope : Scope} {pos : Pos} (G : Good X k) (hb : blkC X.N X.env.scope scope own = true)
    (htg : ∀ j ∈ tg, j ∈ own.map (·.2)) (hM : ∀ j ∈ tg, j ∉ M) (hg : ∀ (s : Shared) (H : Hp) (C : Addr) (cl : List (Str × Addr)) (fp : List Addr), PG (X.blk s H scope (compEnvC scope cl C X.env) fp) t (gT X.K tg tup))
    (hi : SI X M it t i) (hc : ∀ (s : Shared) (H : Hp) (C : Addr) (cl : List (Str × Addr)) (fp : List Addr), SC (X.blk s H scope (compEnvC scope cl C X.env) fp) M cond ifs)
    (he : ∀ (s : Shared) (H : Hp) (C : Addr) (cl : List (Str × Addr)) (fp : List Addr), SE (X.blk s H scope (compEnvC scope cl C X.env) fp) M elt e) (hgr : gr M elt ≠ .loose) (hs : ∀ x, foldedSetIterable i X.env x = pure x) :
    SE X M (.comp own tg tup it cond elt) (.ListComp e [⟨t, i, ifs, 0⟩] scope pos) := fun W tk => by
  exact PE.imp (pe_lc G.calm G.nd (hi W tk) (blkOk_by hb) hg (tt := tT X.K M (fun _ _ _ _ => False) (denC cond)) (te := tE (gr M elt) X.K M (fun _ _ _ _ => False) (denE elt)) (fun s H C cl fp => hc s H C cl fp (fun _ _ _ _ => False) takes0) (fun s H C cl fp => he s H C cl fp (fun _ _ _ _ => False) takes0) hs) (lc_read htg hM hgr)
/-- name = [..] -/
theorem s_setLc {own : List (Str × Nat)} {tg : List Nat} {tup : Bool} {it cond elt : ME} {t i e : Expr} {ifs : List Expr} {scope : Scope} {pos py spos : Pos} {j : Nat} {y : Str} {W : WX} (G : Good X k) (hb : blkC X.N X.env.scope scope own = true)
    (htg : ∀ j ∈ tg, j ∈ own.map (·.2)) (hM : ∀ j ∈ tg, j ∉ M) (hg : ∀ (s : Shared) (H : Hp) (C : Addr) (cl : List (Str × Addr)) (fp : List Addr), PG (X.blk s H scope (compEnvC scope cl C X.env) fp) t (gT X.K tg tup))
    (hi : SI X M it t i) (hc : ∀ (s : Shared) (H : Hp) (C : Addr) (cl : List (Str × Addr)) (fp : List Addr), SC (X.blk s H scope (compEnvC scope cl C X.env) fp) M cond ifs)
    (he : ∀ (s : Shared) (H : Hp) (C : Addr) (cl : List (Str × Addr)) (fp : List Addr), SE (X.blk s H scope (compEnvC scope cl C X.env) fp) M elt e) (hgr : gr M elt ≠ .loose) (hs : ∀ x, foldedSetIterable i X.env x = pure x)
    (tk : Takes X W) (hy : X.N[j]? = some y) (hyl : X.env.scope.names.lookup y = some .local) (hsw : swapsWith (.ListComp e [⟨t, i, ifs, 0⟩] scope pos) (some (.Name y py)) spos.line X.env = pure true) :
    PS X (.Assign [.Name y py] (.ListComp e [⟨t, i, ifs, 0⟩] scope pos) spos) (tAsg (tE .fresh X.K M W (denE (.comp own tg tup it cond elt))) (gName j)) := by
  have h := ps_setLc G.calm G.nd hy hyl hsw (hi W tk) (blkOk_by hb) hg (tt := tT X.K M (fun _ _ _ _ => False) (denC cond)) (te := tE (gr M elt) X.K M (fun _ _ _ _ => False) (denE elt)) (fun s H C cl fp => hc s H C cl fp (fun _ _ _ _ => False) takes0) (fun s H C cl fp => he s H C cl fp (fun _ _ _ _ => False) takes0) hs
  exact ⟨fun pins s σ H D I q => h.run pins s σ H D I (lc_read htg hM hgr σ H _ q)⟩
end
end Mn
/-! Mn, part L: every term means what it says. -/
namespace Mn
open PySem PySem.Spec PyProof.Rows L2
section
variable {M : Ow}
theorem and3 {a b : Bool} (h : (a && b) = true) : a = true ∧ b = true := by rwa [Bool.and_eq_true] at h
theorem s_ifeT {X : Cx} {c a b : ME} {x y z : Expr} {p : Pos} (hc : ST X M c x) (ha : ST X M a y) (hb : ST X M b z) : ST X M (.ife c a b) (.IfExp x y z p) := fun W tk => ⟨fun pins s σ H Q I q => by
  rw [show isTrue (.IfExp x y z p) X.env (eval (.IfExp x y z p) X.env) = (do if ← isTrue x X.env (eval x X.env) then isTrue y X.env (eval y X.env) else isTrue z X.env (eval z X.env)) from rfl]
  have q' : tT X.K M W (fun ρ => denE c ρ >>= fun x => asBool x >>= fun k => (if k = true then denE a ρ else denE b ρ) >>= fun x => asBool x) σ H Q := by
    obtain ⟨ρ, N, r, q⟩ := q
    refine ⟨ρ, N, r, ?_⟩
    have q : (match ((denE c ρ >>= fun x => asBool x >>= fun k => if k = true then denE a ρ else denE b ρ) >>= fun x => asBool x) with
      | .ok b => ∀ H', Same H H' → Q b H'
      | .exc c => ∀ H', Same H H' → W (.ref (He.ga X.K c)) none σ H'
      | .bad => False) := q
    dsimp only
    cases ea : denE c ρ with
    | ok d => rw [ea] at q; cases d <;> exact q
    | exc c => rw [ea] at q; exact q
    | bad => rw [ea] at q; exact q
  refine wpAny_bind (thn ((hc W tk).run pins s σ H (fun k H1 => if k = true then tT X.K M W (fun ρ => denE a ρ >>= fun x => asBool x) σ H1 Q else tT X.K M W (fun ρ => denE b ρ >>= fun x => asBool x) σ H1 Q) I
    (rd_boolT (fk := fun ρ k => (if k = true then denE a ρ else denE b ρ) >>= fun x => asBool x) (fun ρ N k H1 r q => ?_) q')) fun k s1 ⟨H1, I1, q1⟩ => ?_)
  · cases k with
    | true => exact ⟨ρ, N, r, q⟩
    | false => exact ⟨ρ, N, r, q⟩
  · cases k with
    | true => exact (ha W tk).run pins s1 σ H1 Q I1 q1
    | false => exact (hb W tk).run pins s1 σ H1 Q I1 q1⟩
theorem trkB_of {M : Os} {a : ME} (h : trkB M a = true) : gr M a = .fresh ∨ ∃ i, a = .var i ∧ i ∈ M := by
  unfold trkB at h
  split at h
  · exact .inr ⟨_, rfl, of_decide_eq_true h⟩
  · exact .inl (of_decide_eq_true h)
theorem folded_of {M : Os} {N : List Str} {sc : Scope} {e : Expr} {env : PySem.Env} : ∀ {m : ME} {t : Expr}, isI M N m sc t e = true → ∀ x, foldedSetIterable e env x = pure x := by
  intro m t h x
  cases e <;> first | rfl | skip
  cases m <;> first | (cases h; done) | skip
  case iSeq a =>
    have h' : isE M N a sc _ = true := h
    rw [isE_set] at h'
    cases h'
  all_goals (cases t <;> cases h)
theorem no_isx {X : Cx} {e : Expr} {i : Nat} {W : WX} {g : Gr} {f : D → R D} (hM : M.x = none) (hf : ∀ d, f d ≠ .bad → isX d = true) : PE X e (tE g X.K M W fun ρ => match ρ[i]? with
    | some (some d) => f d
    | _ => .bad) := ⟨fun pins s σ H Q I q => by
  obtain ⟨ρ, N, r, q⟩ := q
  dsimp only at q
  cases e : ρ[i]? with
  | none => rw [e] at q; exact q.elim
  | some o =>
    rw [e] at q
    cases o with
    | none => exact q.elim
    | some d =>
      have q : Post g X.K H N (fun c d H' => W c d σ H') (f d) Q := q
      have hb : f d ≠ .bad := fun z => by rw [z] at q; exact q
      obtain ⟨_, a, c, hx, _⟩ := r.sx i d e (hf d hb)
      rw [hM] at hx
      cases hx⟩
theorem isxD_X {cs : List Str} (d : D) (h : isxD d cs ≠ .bad) : isX d = true := by
  cases d <;> first | rfl | exact absurd rfl h
theorem callx_X {F : List D → R D} (d : D) (h : (if isX d = true then noexc (F [d]) else .bad) ≠ .bad) : isX d = true := by
  cases q : isX d with
  | true => rfl
  | false => rw [q] at h; exact absurd rfl h
variable (hM : M.x = none)
include hM
mutual
theorem sE : ∀ (m : ME) (X : Cx) (k : Nat) (e : Expr), Good X k → isE M X.N m X.env.scope e = true → OkX X k m → SE X M m e ∧ ST X M m e
  | .var i, X, k, e, G, h, o => by
    cases e with
    | Name x p =>
      have h0 := and3 h
      have h' := and3 h0.1
      have h2 := and3 h'.1
      have s : SE X M (.var i) (.Name x p) := s_var (of_decide_eq_true h2.1) h2.2 h'.2 (of_decide_eq_true h0.2)
      exact ⟨s, s.t fun _ => rfl⟩
    | _ => cases h
  | .int n, X, k, e, G, h, o => by
    cases e with
    | Constant c j p =>
      cases c with
      | int i =>
        obtain rfl : n = i := of_decide_eq_true h
        have s : SE X M (.int n) (.Constant (.int n) j p) := s_int
        exact ⟨s, s.t fun _ => rfl⟩
      | _ => cases h
    | _ => cases h
  | .str n, X, k, e, G, h, o => by
    cases e with
    | Constant c j p =>
      cases c with
      | str i =>
        obtain rfl : n = i := of_decide_eq_true h
        have s : SE X M (.str n) (.Constant (.str n) j p) := s_str
        exact ⟨s, s.t fun _ => rfl⟩
      | _ => cases h
    | _ => cases h
  | .bl n, X, k, e, G, h, o => by
    cases e with
    | Constant c j p =>
      cases c with
      | bool i =>
        obtain rfl : n = i := of_decide_eq_true h
        have s : SE X M (.bl n) (.Constant (.bool n) j p) := s_bl
        exact ⟨s, s.t fun _ => rfl⟩
      | _ => cases h
    | _ => cases h
  | .non, X, k, e, G, h, o => by
    cases e with
    | Constant c j p =>
      cases c with
      | none =>
        have s : SE X M .non (.Constant .none j p) := s_non
        exact ⟨s, s.t fun _ => rfl⟩
      | _ => cases h
    | _ => cases h
  | .gl x d, X, k, e, G, h, o => by
    cases e with
    | Name y p =>
      have h' := and3 h
      have h2 := and3 h'.1
      obtain rfl : x = y := of_decide_eq_true h2.1
      have s : SE X M (.gl x d) (.Name x p) := s_gl h2.2 h'.2 o
      exact ⟨s, s.t fun _ => rfl⟩
    | _ => cases h
  | .nil, X, k, e, G, h, o => by cases e <;> cases h
  | .cons _ _, X, k, e, G, h, o => by cases e <;> cases h
  | .tup es, X, k, e, G, h, o => by
    cases e with
    | Tuple l j p =>
      have h' := and3 h
      have s : SE X M (.tup es) (.Tuple l j p) := s_tup (sEs es X k l G h'.1 o) h'.2
      exact ⟨s, s.t fun _ => rfl⟩
    | _ => cases h
  | .lst es, X, k, e, G, h, o => by
    cases e with
    | List l p =>
      have h' := and3 h
      have s : SE X M (.lst es) (.List l p) := s_lst (sEs es X k l G h'.1 o) h'.2
      exact ⟨s, s.t fun _ => rfl⟩
    | _ => cases h
  | .bin q a b, X, k, e, G, h, o => by
    cases e with
    | BinOp x q' y p =>
      have h' := and3 h
      have h2 := and3 h'.1
      have h3 := and3 h2.1
      have sa := (sE a X k x G h3.2 o.1).1
      have sb := (sE b X k y G h2.2 o.2).1
      have s : SE X M (.bin q a b) (.BinOp x q' y p) := by
        by_cases hr : q = .rep
        · subst hr
          have ht : trkB M a = true := h'.2
          rcases trkB_of ht with hf | ⟨i, rfl, hi⟩
          · exact s_repF h3.1 hf sa sb
          · cases x with
            | Name x px =>
              have k0 := and3 h3.2
              have k' := and3 k0.1
              have k2 := and3 k'.1
              exact s_repV h3.1 hi (of_decide_eq_true k2.1) k2.2 k'.2 (of_decide_eq_true k0.2) sb
            | _ => cases h3.2
        · exact s_bin h3.1 hr sa sb
      exact ⟨s, s.t fun _ => rfl⟩
    | _ => cases h
  | .neg a, X, k, e, G, h, o => by
    cases e with
    | UnaryOp u x p =>
      cases u with
      | USub =>
        have s : SE X M (.neg a) (.UnaryOp .USub x p) := s_neg (sE a X k x G h o).1
        exact ⟨s, s.t fun _ => rfl⟩
      | _ => cases h
    | _ => cases h
  | .nt a, X, k, e, G, h, o => by
    cases e with
    | UnaryOp u x p =>
      cases u with
      | Not => exact s_nt (sE a X k x G h o).1 (sE a X k x G h o).2
      | _ => cases h
    | _ => cases h
  | .andE es, X, k, e, G, h, o => by
    cases e with
    | BoolOp u l p =>
      cases u with
      | And =>
        have b := sBa es X k l G h o
        exact ⟨fun W tk => (b p W tk).1, fun W tk => (b p W tk).2.pt⟩
      | _ => cases h
    | _ => cases h
  | .orE es, X, k, e, G, h, o => by
    cases e with
    | BoolOp u l p =>
      cases u with
      | Or =>
        have b := sBo es X k l G h o
        exact ⟨fun W tk => (b p W tk).1, fun W tk => (b p W tk).2.pt⟩
      | _ => cases h
    | _ => cases h
  | .cmp q a b, X, k, e, G, h, o => by
    cases e with
    | Compare x ops ys p =>
      match ops, ys, h with
      | [q'], [y], h =>
        have h' := and3 h
        have h2 := and3 h'.1
        exact s_cmp G.room.units h2.1 (mark_of _ h'.2) (sE a X k x G h2.2 o.1).1 (sE b X k y G h'.2 o.2).1
    | _ => cases h
  | .chn q a b q2 c, X, k, e, G, h, o => by
    cases e with
    | Compare x ops ys p =>
      match ops, ys, h with
      | [r, r2], [y, z], h =>
        have h' := and3 h
        have h2 := and3 h'.1
        have h3 := and3 h2.1
        have h4 := and3 h3.1
        exact s_chn G h4.1 h4.2 (marks2 _ _ h2.2 h'.2) (sE a X k x G h3.2 o.1).1 (sE b X k y G h2.2 o.2.1).1 (sE c X k z G h'.2 o.2.2).1
    | _ => cases h
  | .chn3 q a b q2 c q3 d, X, k, e, G, h, o => by
    cases e with
    | Compare x ops ys p =>
      match ops, ys, h with
      | [r, r2, r3], [y, z, u], h =>
        have h' := and3 h
        have h2 := and3 h'.1
        have h3 := and3 h2.1
        have h4 := and3 h3.1
        have h5 := and3 h4.1
        have h6 := and3 h5.1
        exact s_chn3 G h6.1 h6.2 h5.2 (marks3 _ _ _ h'.2) (sE a X k x G h4.2 o.1).1 (sE b X k y G h3.2 o.2.1).1 (sE c X k z G h2.2 o.2.2.1).1 (sE d X k u G h'.2 o.2.2.2).1
    | _ => cases h
  | .dget2 k1 v1 k2 v2 e1 f1, X, k, e, G, h, o => by
    cases e with
    | Call fe args kws cp =>
      match fe, args, kws, h with
      | .Attribute (.Dict [some (.Constant (.str a') j1 p1), some (.Constant (.str c') j2 p2)] [.Constant (.str b') j3 p3, .Constant (.str d') j4 p4] dp) m ap, [x, y], [], h =>
        have h1 := and3 h
        have h2 := and3 h1.1
        have h3 := and3 h2.1
        have h4 := and3 h3.1
        have h5 := and3 h4.1
        have h6 := and3 h5.1
        have h7 := and3 h6.1
        have h8 := and3 h7.1
        obtain rfl := of_decide_eq_true h8.1
        obtain rfl := of_decide_eq_true h8.2
        obtain rfl := of_decide_eq_true h7.2
        obtain rfl := of_decide_eq_true h6.2
        obtain rfl := of_decide_eq_true h4.2
        have hs : backTo cp (starEach [x, y] X.env) = [(false, eval x X.env), (false, eval y X.env)] := by
          rw [star_of h2.2, star_of h1.2]
          rfl
        have s := s_dget2 (v1 := v1) (v2 := v2) (dp := dp) (j1 := j1) (j2 := j2) (j3 := j3) (j4 := j4) (p1 := p1) (p2 := p2) (p3 := p3) (p4 := p4) G (of_decide_eq_true h5.2) h3.2 hs (sE e1 X k x G h2.2 o.1).1 (sE f1 X k y G h1.2 o.2).1
        exact ⟨s, s.t fun _ => rfl⟩
    | _ => cases h
  | .ife c a b, X, k, e, G, h, o => by
    cases e with
    | IfExp x y z p =>
      have h' := and3 h
      have h2 := and3 h'.1
      have s : SE X M (.ife c a b) (.IfExp x y z p) := s_ife (sE c X k x G h2.1 o.1).2 (sE a X k y G h2.2 o.2.1).1 (sE b X k z G h'.2 o.2.2).1
      exact ⟨s, s_ifeT (sE c X k x G h2.1 o.1).2 (sE a X k y G h2.2 o.2.1).2 (sE b X k z G h'.2 o.2.2).2⟩
    | _ => cases h
  | .ix a i, X, k, e, G, h, o => by
    cases e with
    | Subscript x y p =>
      have h' := and3 h
      have s : SE X M (.ix a i) (.Subscript x y p) := s_ix (plain_of h'.2) (sE a X k x G h'.1 o.1).1 (sE i X k y G h'.2 o.2).1
      exact ⟨s, s.t fun _ => rfl⟩
    | _ => cases h
  | .sl a lo hi, X, k, e, G, h, o => by
    cases e with
    | Subscript x y p =>
      cases y with
      | Slice l u st p2 =>
        cases st with
        | none =>
          have h' := and3 h
          have h2 := and3 h'.1
          have s : SE X M (.sl a lo hi) (.Subscript x (.Slice l u none p2) p) := s_sl (sE a X k x G h2.1 o.1).1 (sO lo X k l G h2.2 o.2.1) (sO hi X k u G h'.2 o.2.2)
          exact ⟨s, s.t fun _ => rfl⟩
        | some _ => cases h
      | _ => cases h
    | _ => cases h
  | .call chk F x es, X, k, e, G, h, o => by
    cases e with
    | Call f args kws p =>
      match f, args, kws, h with
      | .Name y p2, e :: l, [], h =>
        have h' := and3 h
        have h2 := and3 h'.1
        have h3 := and3 h2.1
        have h4 := and3 h3.1
        obtain rfl : x = y := of_decide_eq_true h4.1
        have hst : starEach (e :: l) X.env = (false, eval e X.env) :: starEach l X.env ∧ (backTo p (starEach l X.env)).any (·.1) = false := by
          cases es with
          | cons m ms =>
            have q := and3 (show (isE M X.N m X.env.scope e && isEs M X.N ms X.env.scope l) = true from h2.2)
            exact ⟨star_of q.1 l X.env, backAny X.env p ms l q.2⟩
          | _ => cases h2.2
        have s : SE X M (.call chk F x es) (.Call (.Name x p2) (e :: l) [] p) := s_call G o.1 h4.2 h3.2 (sEs es X k (e :: l) G h2.2 o.2) hst.1 hst.2 (by
          have z := h'.2
          rwa [Bool.or_eq_true] at z)
        exact ⟨s, s.t fun _ => rfl⟩
    | _ => cases h
  | .isx i cs, X, k, e, G, h, o => by
    have s : SE X M (.isx i cs) e := fun W tk => no_isx hM isxD_X
    refine ⟨s, s.t fun _ => ?_⟩
    cases e <;> first | rfl | (cases h; done)
  | .callx F x i, X, k, e, G, h, o => by
    have s : SE X M (.callx F x i) e := fun W tk => no_isx hM callx_X
    refine ⟨s, s.t fun _ => ?_⟩
    cases e <;> first | rfl | (cases h; done)
  | .bi f a, X, k, e, G, h, o => by
    have ia := fun x hx => (sE a X k x G hx o).1
    have h : (match biPick f X.env.scope e with
      | some x => isE M X.N a X.env.scope x
      | none => false) = true := h
    split at h
    · rename_i x hp
      have s : SE X M (.bi f a) e := s_biAll G hp h (ia x h)
      refine ⟨s, s.t fun _ => ?_⟩
      cases e <;> first | rfl | (cases hp; done)
    · cases h
  | .bi2 f a b, X, k, e, G, h, o => by
    cases e with
    | Call fe args kws p =>
      match fe, args, kws, h with
      | .Name y p2, [e, e2], [], h =>
        have h1 := and3 h
        have h2 := and3 h1.1
        have h3 := and3 h2.1
        have h4 := and3 h3.1
        have hn := of_decide_eq_true h3.2
        have s : SE X M (.bi2 f a b) (.Call (.Name y p2) [e, e2] [] p) := by
          cases f with
          | min2 => obtain rfl := Option.some.inj hn; exact s_bi2B (bi_min2 G.calm) h4.1 h4.2 (G.bi _ (by decide)) (by decide +kernel) (by decide) (star_of h2.2 _ _) (star_of h1.2 _ _) (sE a X k e G h2.2 o.1).1 (sE b X k e2 G h1.2 o.2).1
          | max2 => obtain rfl := Option.some.inj hn; exact s_bi2B (bi_max2 G.calm) h4.1 h4.2 (G.bi _ (by decide)) (by decide +kernel) (by decide) (star_of h2.2 _ _) (star_of h1.2 _ _) (sE a X k e G h2.2 o.1).1 (sE b X k e2 G h1.2 o.2).1
          | _ => cases hn
        exact ⟨s, s.t fun _ => rfl⟩
    | _ => cases h
  | .x2 f a b, X, k, e, G, h, o => by
    have ia := fun x hx => (sE a X k x G hx o.1).1
    have ib := fun x hx => (sE b X k x G hx o.2).1
    have h : (match x2Pick f e with
      | some p => isE M X.N a X.env.scope p.1 && isE M X.N b X.env.scope p.2
      | none => false) = true := h
    split at h
    · rename_i p hp
      have h' := and3 h
      obtain ⟨s, t⟩ := s_x2 hp h'.2 (ia _ h'.1) (ib _ h'.2)
      exact ⟨s, s.t t⟩
    · cases h
  | .comp own tg tup it cond elt, X, k, e, G, h, o => by
    cases e with
    | ListComp e gens scope p =>
      match gens, h with
      | [⟨t, i, ifs, 0⟩], h =>
        have h1 := and3 h
        have h2 := and3 h1.1
        have h3 := and3 h2.1
        have h4 := and3 h3.1
        have h5 := and3 h4.1
        have h6 := and3 h5.1
        have h7 := and3 h6.1
        have h8 := and3 h7.1
        have ok := blkOk_by h8.1
        have htg : ∀ j ∈ tg, j ∈ own.map (·.2) := fun j hj => of_decide_eq_true (List.all_eq_true.mp h8.2 j hj)
        have hM : ∀ j ∈ tg, j ∉ M := fun j hj => of_decide_eq_true (List.all_eq_true.mp h7.2 j hj)
        have GB : ∀ (s : Shared) (H : Hp) (C : Addr) (cl : List (Str × Addr)) (fp : List Addr), Good (X.blk s H scope (compEnvC scope cl C X.env) fp) k := fun s H C cl fp => ⟨G.calm, G.room, ok.kind, G.nd, G.bi⟩
        have s : SE X M (.comp own tg tup it cond elt) (.ListComp e [⟨t, i, ifs, 0⟩] scope p) :=
          s_comp G h8.1 htg hM (fun s H C cl fp => pg_of (X := X.blk s H scope (compEnvC scope cl C X.env) fp) G.calm G.nd h5.2) (sI it X k t i G h4.2 o.1)
            (fun s H C cl fp => sC cond (X.blk s H scope (compEnvC scope cl C X.env) fp) k ifs (GB s H C cl fp) h3.2 o.2.1)
            (fun s H C cl fp => (sE elt (X.blk s H scope (compEnvC scope cl C X.env) fp) k e (GB s H C cl fp) h2.2 o.2.2).1) (of_decide_eq_true h1.2) (folded_of h4.2)
        exact ⟨s, s.t fun _ => rfl⟩
    | _ => cases h
  | .iSeq _, X, k, e, G, h, o => by cases e <;> cases h
  | .iRg1 _, X, k, e, G, h, o => by cases e <;> cases h
  | .iRg2 _ _, X, k, e, G, h, o => by cases e <;> cases h
  | .iRg3 _ _ _, X, k, e, G, h, o => by cases e <;> cases h
  | .iEnum _, X, k, e, G, h, o => by cases e <;> cases h
  | .iZip _ _, X, k, e, G, h, o => by cases e <;> cases h
  | .iRev _, X, k, e, G, h, o => by cases e <;> cases h
theorem sEs : ∀ (m : ME) (X : Cx) (k : Nat) (es : List Expr), Good X k → isEs M X.N m X.env.scope es = true → OkX X k m → SA X M m es
  | .nil, X, k, [], G, h, o => s_nil
  | .cons e es, X, k, x :: l, G, h, o => by
    have h' := and3 (show (isE M X.N e X.env.scope x && isEs M X.N es X.env.scope l) = true from h)
    exact s_cons (star_of h'.1 l X.env) (sE e X k x G h'.1 o.1).1 (sEs es X k l G h'.2 o.2)
  | .nil, _, _, _ :: _, _, h, _ => by cases h
  | .cons _ _, _, _, [], _, h, _ => by cases h
  | .var _, _, _, _, _, h, _ | .int _, _, _, _, _, h, _ | .str _, _, _, _, _, h, _ | .bl _, _, _, _, _, h, _ | .non, _, _, _, _, h, _ | .gl _ _, _, _, _, _, h, _ | .tup _, _, _, _, _, h, _ | .lst _, _, _, _, _, h, _ | .bin _ _ _, _, _, _, _, h, _ | .neg _, _, _, _, _, h, _ | .nt _, _, _, _, _, h, _
  | .andE _, _, _, _, _, h, _ | .orE _, _, _, _, _, h, _ | .cmp _ _ _, _, _, _, _, h, _ | .chn _ _ _ _ _, _, _, _, _, h, _ | .chn3 _ _ _ _ _ _ _, _, _, _, _, h, _ | .dget2 _ _ _ _ _ _, _, _, _, _, h, _ | .x2 _ _ _, _, _, _, _, h, _ | .ife _ _ _, _, _, _, _, h, _ | .ix _ _, _, _, _, _, h, _ | .sl _ _ _, _, _, _, _, h, _ | .call _ _ _ _, _, _, _, _, h, _ | .bi _ _, _, _, _, _, h, _ | .bi2 _ _ _, _, _, _, _, h, _
  | .comp _ _ _ _ _ _, _, _, _, _, h, _ | .iSeq _, _, _, _, _, h, _ | .iRg1 _, _, _, _, _, h, _ | .iRg2 _ _, _, _, _, _, h, _ | .iRg3 _ _ _, _, _, _, _, h, _ | .iEnum _, _, _, _, _, h, _ | .iZip _ _, _, _, _, _, h, _ | .iRev _, _, _, _, _, h, _ | .isx _ _, _, _, _, _, h, _ | .callx _ _ _, _, _, _, _, h, _ => by cases h
theorem sBa : ∀ (m : ME) (X : Cx) (k : Nat) (l : List Expr), Good X k → isBs M X.N m X.env.scope l = true → OkX X k m → SB X M (denAnd m) .And l
  | .cons e es, X, k, l, G, h, o => by
    have ih := fun l h => sBa es X k l G h o.2
    have ie := fun x h => sE e X k x G h o.1
    cases es with
    | nil =>
      match l, h with
      | [x], h => exact s_and1 (ie x h).1 (ie x h).2
      | x :: y :: l, h =>
        have h' := and3 h
        exact absurd h'.2 (by intro z; cases z)
    | cons e2 ms =>
      match l, h with
      | x :: y :: l, h =>
        have h' := and3 (show (isE M X.N e X.env.scope x && isBs M X.N (.cons e2 ms) X.env.scope (y :: l)) = true from h)
        exact s_and2 (ie x h'.1).1 (ie x h'.1).2 (ih (y :: l) h'.2)
    | _ =>
      match l, h with
      | x :: y :: l, h =>
        have h' := and3 h
        exact absurd h'.2 (by intro z; cases z)
  | .nil, _, _, _, _, h, _ | .var _, _, _, _, _, h, _ | .int _, _, _, _, _, h, _ | .str _, _, _, _, _, h, _ | .bl _, _, _, _, _, h, _ | .non, _, _, _, _, h, _ | .gl _ _, _, _, _, _, h, _ | .tup _, _, _, _, _, h, _ | .lst _, _, _, _, _, h, _ | .bin _ _ _, _, _, _, _, h, _ | .neg _, _, _, _, _, h, _ | .nt _, _, _, _, _, h, _
  | .andE _, _, _, _, _, h, _ | .orE _, _, _, _, _, h, _ | .cmp _ _ _, _, _, _, _, h, _ | .chn _ _ _ _ _, _, _, _, _, h, _ | .chn3 _ _ _ _ _ _ _, _, _, _, _, h, _ | .dget2 _ _ _ _ _ _, _, _, _, _, h, _ | .x2 _ _ _, _, _, _, _, h, _ | .ife _ _ _, _, _, _, _, h, _ | .ix _ _, _, _, _, _, h, _ | .sl _ _ _, _, _, _, _, h, _ | .call _ _ _ _, _, _, _, _, h, _ | .bi _ _, _, _, _, _, h, _ | .bi2 _ _ _, _, _, _, _, h, _
  | .comp _ _ _ _ _ _, _, _, _, _, h, _ | .iSeq _, _, _, _, _, h, _ | .iRg1 _, _, _, _, _, h, _ | .iRg2 _ _, _, _, _, _, h, _ | .iRg3 _ _ _, _, _, _, _, h, _ | .iEnum _, _, _, _, _, h, _ | .iZip _ _, _, _, _, _, h, _ | .iRev _, _, _, _, _, h, _ | .isx _ _, _, _, _, _, h, _ | .callx _ _ _, _, _, _, _, h, _ => by cases h
theorem sBo : ∀ (m : ME) (X : Cx) (k : Nat) (l : List Expr), Good X k → isBs M X.N m X.env.scope l = true → OkX X k m → SB X M (denOr m) .Or l
  | .cons e es, X, k, l, G, h, o => by
    have ih := fun l h => sBo es X k l G h o.2
    have ie := fun x h => sE e X k x G h o.1
    cases es with
    | nil =>
      match l, h with
      | [x], h => exact s_or1 (ie x h).1 (ie x h).2
      | x :: y :: l, h =>
        have h' := and3 h
        exact absurd h'.2 (by intro z; cases z)
    | cons e2 ms =>
      match l, h with
      | x :: y :: l, h =>
        have h' := and3 (show (isE M X.N e X.env.scope x && isBs M X.N (.cons e2 ms) X.env.scope (y :: l)) = true from h)
        exact s_or2 (ie x h'.1).1 (ie x h'.1).2 (ih (y :: l) h'.2)
    | _ =>
      match l, h with
      | x :: y :: l, h =>
        have h' := and3 h
        exact absurd h'.2 (by intro z; cases z)
  | .nil, _, _, _, _, h, _ | .var _, _, _, _, _, h, _ | .int _, _, _, _, _, h, _ | .str _, _, _, _, _, h, _ | .bl _, _, _, _, _, h, _ | .non, _, _, _, _, h, _ | .gl _ _, _, _, _, _, h, _ | .tup _, _, _, _, _, h, _ | .lst _, _, _, _, _, h, _ | .bin _ _ _, _, _, _, _, h, _ | .neg _, _, _, _, _, h, _ | .nt _, _, _, _, _, h, _
  | .andE _, _, _, _, _, h, _ | .orE _, _, _, _, _, h, _ | .cmp _ _ _, _, _, _, _, h, _ | .chn _ _ _ _ _, _, _, _, _, h, _ | .chn3 _ _ _ _ _ _ _, _, _, _, _, h, _ | .dget2 _ _ _ _ _ _, _, _, _, _, h, _ | .x2 _ _ _, _, _, _, _, h, _ | .ife _ _ _, _, _, _, _, h, _ | .ix _ _, _, _, _, _, h, _ | .sl _ _ _, _, _, _, _, h, _ | .call _ _ _ _, _, _, _, _, h, _ | .bi _ _, _, _, _, _, h, _ | .bi2 _ _ _, _, _, _, _, h, _
  | .comp _ _ _ _ _ _, _, _, _, _, h, _ | .iSeq _, _, _, _, _, h, _ | .iRg1 _, _, _, _, _, h, _ | .iRg2 _ _, _, _, _, _, h, _ | .iRg3 _ _ _, _, _, _, _, h, _ | .iEnum _, _, _, _, _, h, _ | .iZip _ _, _, _, _, _, h, _ | .iRev _, _, _, _, _, h, _ | .isx _ _, _, _, _, _, h, _ | .callx _ _ _, _, _, _, _, h, _ => by cases h
theorem sC : ∀ (m : ME) (X : Cx) (k : Nat) (l : List Expr), Good X k → isC M X.N m X.env.scope l = true → OkX X k m → SC X M m l
  | .nil, X, k, l, G, h, o => by
    match l, h with
    | [], h => exact s_c0
  | .cons e es, X, k, l, G, h, o => by
    have ie := fun x h => sE e X k x G h o.1
    cases es with
    | nil =>
      match l, h with
      | [x], h => exact s_c1 (ie x h).2
    | _ => cases h
  | .var _, _, _, _, _, h, _ | .int _, _, _, _, _, h, _ | .str _, _, _, _, _, h, _ | .bl _, _, _, _, _, h, _ | .non, _, _, _, _, h, _ | .gl _ _, _, _, _, _, h, _ | .tup _, _, _, _, _, h, _ | .lst _, _, _, _, _, h, _ | .bin _ _ _, _, _, _, _, h, _ | .neg _, _, _, _, _, h, _ | .nt _, _, _, _, _, h, _
  | .andE _, _, _, _, _, h, _ | .orE _, _, _, _, _, h, _ | .cmp _ _ _, _, _, _, _, h, _ | .chn _ _ _ _ _, _, _, _, _, h, _ | .chn3 _ _ _ _ _ _ _, _, _, _, _, h, _ | .dget2 _ _ _ _ _ _, _, _, _, _, h, _ | .x2 _ _ _, _, _, _, _, h, _ | .ife _ _ _, _, _, _, _, h, _ | .ix _ _, _, _, _, _, h, _ | .sl _ _ _, _, _, _, _, h, _ | .call _ _ _ _, _, _, _, _, h, _ | .bi _ _, _, _, _, _, h, _ | .bi2 _ _ _, _, _, _, _, h, _
  | .comp _ _ _ _ _ _, _, _, _, _, h, _ | .iSeq _, _, _, _, _, h, _ | .iRg1 _, _, _, _, _, h, _ | .iRg2 _ _, _, _, _, _, h, _ | .iRg3 _ _ _, _, _, _, _, h, _ | .iEnum _, _, _, _, _, h, _ | .iZip _ _, _, _, _, _, h, _ | .iRev _, _, _, _, _, h, _ | .isx _ _, _, _, _, _, h, _ | .callx _ _ _, _, _, _, _, h, _ => by cases h
theorem sO : ∀ (m : ME) (X : Cx) (k : Nat) (l : Option Expr), Good X k → isO M X.N m X.env.scope l = true → OkX X k m → SO X M m l
  | .nil, X, k, l, G, h, o => by
    cases l with
    | none => exact s_oNone
    | some _ => cases h
  | .cons e es, X, k, l, G, h, o => by
    have ie := fun x h => sE e X k x G h o.1
    cases es with
    | nil =>
      cases l with
      | some x => exact s_oSome (ie x h).1
      | none => cases h
    | _ => cases h
  | .var _, _, _, _, _, h, _ | .int _, _, _, _, _, h, _ | .str _, _, _, _, _, h, _ | .bl _, _, _, _, _, h, _ | .non, _, _, _, _, h, _ | .gl _ _, _, _, _, _, h, _ | .tup _, _, _, _, _, h, _ | .lst _, _, _, _, _, h, _ | .bin _ _ _, _, _, _, _, h, _ | .neg _, _, _, _, _, h, _ | .nt _, _, _, _, _, h, _
  | .andE _, _, _, _, _, h, _ | .orE _, _, _, _, _, h, _ | .cmp _ _ _, _, _, _, _, h, _ | .chn _ _ _ _ _, _, _, _, _, h, _ | .chn3 _ _ _ _ _ _ _, _, _, _, _, h, _ | .dget2 _ _ _ _ _ _, _, _, _, _, h, _ | .x2 _ _ _, _, _, _, _, h, _ | .ife _ _ _, _, _, _, _, h, _ | .ix _ _, _, _, _, _, h, _ | .sl _ _ _, _, _, _, _, h, _ | .call _ _ _ _, _, _, _, _, h, _ | .bi _ _, _, _, _, _, h, _ | .bi2 _ _ _, _, _, _, _, h, _
  | .comp _ _ _ _ _ _, _, _, _, _, h, _ | .iSeq _, _, _, _, _, h, _ | .iRg1 _, _, _, _, _, h, _ | .iRg2 _ _, _, _, _, _, h, _ | .iRg3 _ _ _, _, _, _, _, h, _ | .iEnum _, _, _, _, _, h, _ | .iZip _ _, _, _, _, _, h, _ | .iRev _, _, _, _, _, h, _ | .isx _ _, _, _, _, _, h, _ | .callx _ _ _, _, _, _, _, h, _ => by cases h
theorem sI : ∀ (m : ME) (X : Cx) (k : Nat) (t e : Expr), Good X k → isI M X.N m X.env.scope t e = true → OkX X k m → SI X M m t e
  | .iSeq a, X, k, t, e, G, h, o => s_iSeq (sE a X k e G h o).1
  | .iRg1 a, X, k, t, e, G, h, o => by
    have ia := fun x h => sE a X k x G h o
    cases e with
    | Call f args kws p =>
      match f, args, kws, h with
      | .Name y p2, [e], [], h =>
        have h1 := and3 h
        have h2 := and3 h1.1
        obtain rfl := of_decide_eq_true h2.1
        exact s_iRg1 G h2.2 (star_of h1.2 _ _) (ia _ h1.2).1
    | _ => cases h
  | .iRg2 a b, X, k, t, e, G, h, o => by
    have ia := fun x h => sE a X k x G h o.1
    have ib := fun x h => sE b X k x G h o.2
    cases e with
    | Call f args kws p =>
      match f, args, kws, h with
      | .Name y p2, [e, e2], [], h =>
        have h1 := and3 h
        have h2 := and3 h1.1
        have h3 := and3 h2.1
        obtain rfl := of_decide_eq_true h3.1
        exact s_iRg2 G h3.2 (star_of h2.2 _ _) (star_of h1.2 _ _) (ia _ h2.2).1 (ib _ h1.2).1
    | _ => cases h
  | .iRg3 a b c, X, k, t, e, G, h, o => by
    have ia := fun x h => sE a X k x G h o.1
    have ib := fun x h => sE b X k x G h o.2.1
    have ic := fun x h => sE c X k x G h o.2.2
    cases e with
    | Call f args kws p =>
      match f, args, kws, h with
      | .Name y p2, [e, e2, e3], [], h =>
        have h1 := and3 h
        have h2 := and3 h1.1
        have h3 := and3 h2.1
        have h4 := and3 h3.1
        obtain rfl := of_decide_eq_true h4.1
        exact s_iRg3 G h4.2 (star_of h3.2 _ _) (star_of h2.2 _ _) (star_of h1.2 _ _) (ia _ h3.2).1 (ib _ h2.2).1 (ic _ h1.2).1
    | _ => cases h
  | .iEnum a, X, k, t, e, G, h, o => by
    have ia := fun x h => sE a X k x G h o
    cases t with
    | Tuple es kk tp =>
      cases e with
      | Call f args kws p =>
        match f, args, kws, h with
        | .Name y p2, [e], [], h =>
          have h1 := and3 h
          have h2 := and3 h1.1
          obtain rfl := of_decide_eq_true h2.1
          exact s_iEnum G h2.2 (star_of h1.2 _ _) (ia _ h1.2).1
      | _ => cases h
    | _ => cases h
  | .iZip a b, X, k, t, e, G, h, o => by
    have ia := fun x h => sE a X k x G h o.1
    have ib := fun x h => sE b X k x G h o.2
    cases t with
    | Tuple es kk tp =>
      cases e with
      | Call f args kws p =>
        match f, args, kws, h with
        | .Name y p2, [e, e2], [], h =>
          have h1 := and3 h
          have h2 := and3 h1.1
          have h3 := and3 h2.1
          obtain rfl := of_decide_eq_true h3.1
          exact s_iZip G h3.2 (star_of h2.2 _ _) (star_of h1.2 _ _) (ia _ h2.2).1 (ib _ h1.2).1
      | _ => cases h
    | _ => cases h
  | .iRev a, X, k, t, e, G, h, o => by
    have ia := fun x h => sE a X k x G h o
    cases e with
    | Call f args kws p =>
      match f, args, kws, h with
      | .Name y p2, [e], [], h =>
        have h1 := and3 h
        have h2 := and3 h1.1
        obtain rfl := of_decide_eq_true h2.1
        exact s_iRev G h2.2 (star_of h1.2 _ _) (ia _ h1.2).1
    | _ => cases h
  | .cons _ _, _, _, _, _, _, h, _ | .nil, _, _, _, _, _, h, _ | .var _, _, _, _, _, _, h, _ | .int _, _, _, _, _, _, h, _ | .str _, _, _, _, _, _, h, _ | .bl _, _, _, _, _, _, h, _ | .non, _, _, _, _, _, h, _ | .gl _ _, _, _, _, _, _, h, _ | .tup _, _, _, _, _, _, h, _ | .lst _, _, _, _, _, _, h, _ | .bin _ _ _, _, _, _, _, _, h, _ | .neg _, _, _, _, _, _, h, _ | .nt _, _, _, _, _, _, h, _
  | .andE _, _, _, _, _, _, h, _ | .orE _, _, _, _, _, _, h, _ | .cmp _ _ _, _, _, _, _, _, h, _ | .chn _ _ _ _ _, _, _, _, _, _, h, _ | .chn3 _ _ _ _ _ _ _, _, _, _, _, _, h, _ | .dget2 _ _ _ _ _ _, _, _, _, _, _, h, _ | .x2 _ _ _, _, _, _, _, _, h, _ | .ife _ _ _, _, _, _, _, _, h, _ | .ix _ _, _, _, _, _, _, h, _ | .sl _ _ _, _, _, _, _, _, h, _ | .call _ _ _ _, _, _, _, _, _, h, _ | .bi _ _, _, _, _, _, _, h, _ | .bi2 _ _ _, _, _, _, _, _, h, _
  | .comp _ _ _ _ _ _, _, _, _, _, _, h, _ | .isx _ _, _, _, _, _, _, h, _ | .callx _ _ _, _, _, _, _, _, h, _ => by cases h
end
end
end Mn
/-! Mn, part M: statements, their meaning, which text they stand for. -/
namespace Mn
open PySem PySem.Spec PyProof.Rows L2
/-- how what a def handed out is spoilt: xs[0].append(e); for y in xs: y[1].append(e), then xs.clear() -/
inductive Jm where
  | one (e : ME) | all (j : Nat) (e : ME)
inductive MS where
  | nil | cons (s rest : MS)
  | asg (i : Nat) (e : ME)
  | unp (tg : List Nat) (e : ME)
  | unl (tg : List Nat) (e : ME)
  | par (i j : Nat) (a b : ME)
  | aug (i : Nat) (o : BOp) (e : ME)
  | app (i : Nat) (e : ME)
  | appM (i j : Nat)
  | ins (i : Nat) (a e : ME)
  | setix (i : Nat) (a e : ME)
  | expr (e : ME)
  | ret (chk : Bool) (e : ME)
  | ret2 (a b : ME)
  | mov (i j : Nat)
  | forL (i : Nat) (fg tg : List Nat) (tup : Bool) (body : MS)
  | popA (k i : Nat) (e : ME)
  | appPop (k i : Nat) (e : ME)
  | popE (i : Nat) (e : ME)
  | retN
  | rai (c m : Str)
  | ite (c : ME) (a b : MS)
  | forS (fg tg : List Nat) (tup : Bool) (it : ME) (body : MS)
  | whl (fg : List Nat) (fuel : Env → Nat) (c : ME) (body : MS)
  | cnt
  | pas
  | try1 (i : Nat) (cl : Str) (body suite : MS)
  | try2 (i : Nat) (cl : Str) (body suite : MS) (cl2 : Str) (suite2 : MS)
  | jnk (i : Nat) (F : List D → R D) (x : Str) (es : ME) (ts : List (ME × Bool)) (mu : Jm) (rest : MS)
/-- how a statement ends -/
inductive Ot where
  | next (ρ : Env) | cont (ρ : Env) | ret (d : D) | exc (c : Str) | bad
def R.ot {α : Type} (r : R α) (k : α → Ot) : Ot := match r with
  | .ok a => k a
  | .exc c => .exc c
  | .bad => .bad
@[simp] theorem R.ot_ok {α : Type} (a : α) (k : α → Ot) : (R.ok a).ot k = k a := rfl
@[simp] theorem R.ot_exc {α : Type} (c : Str) (k : α → Ot) : (R.exc c : R α).ot k = .exc c := rfl
@[simp] theorem R.ot_bad {α : Type} (k : α → Ot) : (R.bad : R α).ot k = .bad := rfl
def Ot.bind (o : Ot) (k : Env → Ot) : Ot := match o with
  | .next ρ => k ρ
  | o => o
@[simp] def slot (ρ : Env) (i : Nat) : R D := match ρ[i]? with
  | some (some d) => .ok d
  | _ => .bad
def isL : D → Bool
  | .list _ => true
  | _ => false
def forO (fg tg : List Nat) (tup : Bool) (body : Env → Ot) : List D → Env → Ot
  | [], ρ => .next (wipeE ρ fg)
  | d :: ds, ρ => (bindT tg tup d (wipeE ρ fg)).ot fun ρ' => match body ρ' with
    | .next ρ'' => forO fg tg tup body ds ρ''
    | .cont ρ'' => forO fg tg tup body ds ρ''
    | o => o
def whlO (fg : List Nat) (c : Env → R Bool) (body : Env → Ot) : Nat → Env → Ot
  | 0, _ => .bad
  | n + 1, ρ => (c (wipeE ρ fg)).ot fun b => match b with
    | true => (match body (wipeE ρ fg) with
      | .next ρ' => whlO fg c body n ρ'
      | .cont ρ' => whlO fg c body n ρ'
      | o => o)
    | false => .next (wipeE ρ fg)
/-- an exception of the body is looked at -/
def tryO (o : Ot) (k : Str → Ot) : Ot := match o with
  | .exc c => if c ∈ excAll then k c else .bad
  | o => o
/-- behind a suite that held its exception in slot i -/
def hdlO (i : Nat) : Ot → Ot
  | .next ρ => .next (ρ.set i none)
  | .cont ρ => .cont (ρ.set i none)
  | .ret d => .ret d
  | _ => .bad
def hdl0 : Ot → Ot
  | .exc _ => .bad
  | o => o
/-- what is taken out, and the rest -/
def popO (l : List D) (n : Int) (k : D → List D → Ot) : Ot := match ixN l.length n with
  | some j => (match l[j]? with
    | some d => if small62 n = true then k d (l.eraseIdx j) else .bad
    | none => .bad)
  | none => .bad
/-- tests, each with a return behind it -/
def jT : List (ME × Bool) → Env → Ot → Ot
  | [], _, k => k
  | (c, b) :: ts, ρ, k => (denE c ρ >>= asBool).ot fun t => match t with
    | true => .ret (.bool b)
    | false => jT ts ρ k
/-- pairs with a list behind -/
def jPs (n : Nat) : List D → Bool
  | [] => true
  | .tuple [_, .list l] :: ds => decide (l.length + n < sizeLine) && jPs n ds
  | _ => false
/-- what may be spoilt so -/
def jOk : Jm → D → Bool
  | .one _, .tuple (.list l :: _) => decide (l.length < sizeLine)
  | .all _ _, .list ds => jPs ds.length ds
  | _, _ => false
def jMo (i : Nat) : Jm → D → Env → Ot
  | .one e, d, ρ => if jOk (.one e) d = true then (match denE e (ρ.set i none) with
    | .ok _ => .next (ρ.set i none)
    | _ => .bad) else .bad
  | .all j e, d, ρ => if (decide (j < ρ.length) && jOk (.all j e) d) = true then (match denE e ((ρ.set i none).set j none) with
    | .ok _ => .next ((ρ.set i none).set j none)
    | _ => .bad) else .bad
def denS : MS → Env → Ot
  | .nil, ρ => .next ρ
  | .cons s r, ρ => (denS s ρ).bind (denS r)
  | .asg i e, ρ => (denE e ρ).ot fun d => .next (ρ.set i (some d))
  | .unp tg e, ρ => (denE e ρ).ot fun d => (bindT tg true d ρ).ot .next
  | .unl tg e, ρ => (denE e ρ).ot fun d => (bindL tg d ρ).ot .next
  | .par i j a b, ρ => (denE a ρ).ot fun x => (denE b ρ).ot fun y => .next ((ρ.set i (some x)).set j (some y))
  | .aug i o e, ρ => (slot ρ i >>= asInt).ot fun x => (denE e ρ >>= asInt).ot fun y => (bop o (.int x) (.int y) >>= asInt).ot fun z => .next (ρ.set i (some (.int z)))
  | .app i e, ρ => (slot ρ i >>= asList).ot fun l => (denE e ρ).ot fun d => if l.length < sizeLine then .next (ρ.set i (some (.list (l ++ [d])))) else .bad
  | .appM i j, ρ => (slot ρ i >>= asList).ot fun l => (slot ρ j >>= asList).ot fun m => if l.length < sizeLine then .next ((ρ.set i (some (.list (l ++ [.list m])))).set j none) else .bad
  | .ins i a e, ρ => (slot ρ i >>= asList).ot fun l => (denE a ρ >>= asInt).ot fun k => (denE e ρ).ot fun d =>
    if l.length < sizeLine ∧ 0 ≤ k ∧ k.toNat < 2 ^ 62 then .next (ρ.set i (some (.list (l.take k.toNat ++ [d] ++ l.drop k.toNat)))) else .bad
  | .setix i a e, ρ => (slot ρ i >>= asList).ot fun l => (denE e ρ).ot fun d => (denE a ρ >>= asInt).ot fun k => match ixN l.length k with
    | some j => .next (ρ.set i (some (.list (l.set j d))))
    | none => .bad
  | .expr e, ρ => (denE e ρ).ot fun _ => .next ρ
  | .ret chk e, ρ => (denE e ρ).ot fun d => if chk && isL d then .bad else .ret d
  | .ret2 a b, ρ => (denE a ρ).ot fun x => (denE b ρ).ot fun y => .ret (.tuple [x, y])
  | .mov i j, ρ => (slot ρ j >>= asList).ot fun l => .next ((ρ.set i (some (.list l))).set j none)
  | .forL i fg tg tup body, ρ => (slot ρ i >>= asList).ot fun l => forO fg tg tup (denS body) l (ρ.set i none)
  | .popA k i e, ρ => (slot ρ i >>= asList).ot fun l => (denE e ρ >>= asInt).ot fun n => popO l n fun d l' => .next ((ρ.set i (some (.list l'))).set k (some d))
  | .appPop k i e, ρ => (slot ρ k >>= asList).ot fun m => (slot ρ i >>= asList).ot fun l => (denE e ρ >>= asInt).ot fun n => popO l n fun d l' => if m.length < sizeLine then .next ((ρ.set i (some (.list l'))).set k (some (.list (m ++ [d])))) else .bad
  | .popE i e, ρ => (slot ρ i >>= asList).ot fun l => (denE e ρ >>= asInt).ot fun n => popO l n fun _ l' => .next (ρ.set i (some (.list l')))
  | .retN, _ => .ret .none
  | .rai c _, _ => .exc c
  | .ite c a b, ρ => (denE c ρ >>= asBool).ot fun k => match k with
    | true => denS a ρ
    | false => denS b ρ
  | .forS fg tg tup it body, ρ => (denI it ρ).ot fun ds => forO fg tg tup (denS body) ds ρ
  | .whl fg fuel c body, ρ => whlO fg (fun ρ => denE c ρ >>= asBool) (denS body) (fuel ρ) ρ
  | .cnt, ρ => .cont ρ
  | .pas, ρ => .next ρ
  | .try1 i cl b s, ρ => tryO (denS b ρ) fun c => match subB c cl with
    | true => hdlO i (denS s (ρ.set i (some (excD c))))
    | false => .exc c
  | .try2 i cl b s cl2 s2, ρ => tryO (denS b ρ) fun c => match subB c cl with
    | true => hdlO i (denS s (ρ.set i (some (excD c))))
    | false => (match subB c cl2 with
      | true => hdl0 (denS s2 ρ)
      | false => .exc c)
  | .jnk i F _ es ts mu rest, ρ => (denEs es ρ).ot fun ds => (F ds).ot fun d => if i < ρ.length then jT ts (ρ.set i (some d)) ((jMo i mu d ρ).bind (denS rest)) else .bad

/-! ### the text -/
def augB : BOp → Bool
  | .add | .sub | .mul | .shr | .bor => true
  | _ => false
def locT (sc : Scope) (x : Str) : Bool := match sc.names.lookup x with
  | some .local => true
  | some .cell => true
  | _ => false
def loc1 (sc : Scope) (x : Str) : Bool := match sc.names.lookup x with
  | some .local => true
  | _ => false
/-- what may be returned with no look at run time: new, or an owned list -/
def retB (M : Os) : ME → Bool
  | .var i => decide (i ∈ M)
  | m => decide (gr M m = .fresh)
def retB2 (M : Os) : ME → Bool
  | .var _ => true
  | m => decide (gr M m ≠ .loose)
def notTup : Expr → Bool
  | .Tuple _ _ _ => false
  | _ => true
/-- a, b = x, y: the stores go swapped -/
def swapB (sc : Scope) (px py : Pos) (x y : Str) (vs : List Expr) : Bool :=
  loc1 sc x && loc1 sc y && decide (px.line = py.line) && !(x == y) && !(vs.all (foldedForSure 8)) && !(vs.all (constantsAlone 8))
/-- terms that an except suite may hold -/
def hotB : ME → Bool
  | .var _ | .int _ | .str _ | .bl _ | .non | .isx _ _ | .callx _ _ _ | .nil => true
  | .cons e es => hotB e && hotB es
  | .tup e | .lst e | .nt e | .andE e | .orE e => hotB e
  | .x2 _ a b => hotB a && hotB b
  | .bi f a => decide (f = .int ∨ f = .list ∨ f = .len) && hotB a
  | .bin o a b => decide (o ≠ .rep) && hotB a && hotB b
  | .cmp _ a b => hotB a && hotB b
  | .ife c a b => hotB c && hotB a && hotB b
  | _ => false
def hotS : MS → Bool
  | .nil => true
  | .cons s r => hotS s && hotS r
  | .asg _ e | .app _ e | .ret _ e => hotB e
  | .ite c a b => hotB c && hotS a && hotS b
  | _ => false
/-- a try's body: one expression, or one store, or a choice of such -/
def bodyB : MS → Bool
  | .cons (.expr _) .nil | .cons (.asg _ (.call _ _ _ _)) .nil => true
  | .cons (.ite _ (.cons (.expr _) .nil) (.cons (.expr _) .nil)) .nil => true
  | _ => false
def jTs (M : Os) (N : List Str) (sc : Scope) : List (ME × Bool) → List Stmt → Option (List Stmt)
  | [], sts => some sts
  | (c, b) :: ts, .If v [.Return (some (.Constant (.bool k) _ _)) _] [] _ :: sts => if (isE M N c sc v && decide (b = k)) = true then jTs M N sc ts sts else none
  | _, _ => none
def jMs (M : Os) (N : List Str) (sc : Scope) (y : Str) : Jm → List Stmt → Option (List Stmt)
  | .one e, .Expr (.Call (.Attribute (.Subscript (.Name x _) (.Constant (.int n) _ _) _) f ap) [v] [] cp) _ :: sts =>
    if (decide (x = y) && decide (n = 0) && decide (f = ("append" : Str)) && decide (ap.endLine = cp.line) && isE M N e sc v && decide (gr M e ≠ .loose)) = true then some sts else none
  | .all j e, .For (.Name u _) (.Name x _) [.Expr (.Call (.Attribute (.Subscript (.Name u2 _) (.Constant (.int n) _ _) _) f ap) [v] [] cp) _] [] _ :: .Expr (.Call (.Attribute (.Name x2 _) f2 ap2) [] [] cp2) _ :: sts =>
    if (decide (x = y) && decide (x2 = y) && decide (u2 = u) && decide (N[j]? = some u) && locT sc u && visB sc u && nmB u && decide (j ∉ M) && decide (u ≠ y) && decide (n = 1) && decide (f = ("append" : Str)) && decide (ap.endLine = cp.line) && decide (f2 = ("clear" : Str)) && decide (ap2.endLine = cp2.line) && isE M N e sc v && decide (gr M e ≠ .loose)) = true then some sts else none
  | _, _ => none
mutual
def isS (M : Os) (N : List Str) : MS → Scope → Stmt → Bool
  | .asg i e, sc, .Assign [.Name x _] v _ => decide (N[i]? = some x) && locT sc x && isE M N e sc v && (if i ∈ M then decide (gr M e = .fresh) else decide (gr M e ≠ .loose))
  | .unp tg e, sc, .Assign [t] v _ => isT N sc (fun _ => true) tg true t && tg.all (fun j => decide (j ∉ M)) && isE M N e sc v && notTup v && decide (gr M e ≠ .loose)
  | .unl tg e, sc, .Assign [t] v _ => isT N sc (fun _ => true) tg true t && tg.all (fun j => decide (j ∉ M)) && isE M N e sc v && notTup v && decide (gr M e ≠ .loose)
  | .par i j a b, sc, .Assign [.Tuple [.Name x px, .Name y py] _ _] (.Tuple [v, w] _ _) _ => decide (N[i]? = some x) && decide (N[j]? = some y) && decide (i ≠ j) && decide (i ∉ M) && decide (j ∉ M) && isE M N a sc v && isE M N b sc w &&
      decide (gr M a ≠ .loose) && decide (gr M b ≠ .loose) && swapB sc px py x y [v, w]
  | .aug i o e, sc, .AugAssign (.Name x _) p v _ => decide (N[i]? = some x) && locT sc x && isE M N e sc v && bOpB o p && augB o && decide (i ∉ M)
  | .app i e, sc, .Expr (.Call (.Attribute (.Name x _) f ap) [v] [] cp) _ => decide (N[i]? = some x) && visB sc x && nmB x && decide (f = ("append" : Str)) && decide (ap.endLine = cp.line) && decide (i ∈ M) && isE M N e sc v && decide (gr M e ≠ .loose)
  | .appM i j, sc, .Expr (.Call (.Attribute (.Name x _) f ap) [.Name y _] [] cp) _ => decide (N[i]? = some x) && visB sc x && nmB x && decide (f = ("append" : Str)) && decide (ap.endLine = cp.line) && decide (i ∈ M) && decide (N[j]? = some y) && visB sc y && nmB y && decide (j ∈ M) && decide (i ≠ j)
  | .ins i a e, sc, .Expr (.Call (.Attribute (.Name x _) f ap) [u, v] [] cp) _ => decide (N[i]? = some x) && visB sc x && nmB x && decide (f = ("insert" : Str)) && decide (ap.endLine = cp.line) && decide (i ∈ M) && isE M N a sc u && isE M N e sc v && decide (gr M e ≠ .loose)
  | .setix i a e, sc, .Assign [.Subscript (.Name x _) u _] v _ => decide (N[i]? = some x) && visB sc x && nmB x && decide (i ∈ M) && isE M N a sc u && isE M N e sc v && decide (gr M e ≠ .loose)
  | .expr e, sc, .Expr v _ => isE M N e sc v && (match v with | .Call _ _ _ _ => true | _ => false)
  | .ret chk e, sc, .Return (some v) _ => isE M N e sc v && (chk || retB M e)
  | .ret2 a b, sc, .Return (some (.Tuple [v, w] _ _)) _ => isE M N a sc v && isE M N b sc w && retB2 M a && retB2 M b
  | .mov i j, sc, .Assign [.Name x _] (.Name y _) _ => decide (N[i]? = some x) && locT sc x && decide (N[j]? = some y) && visB sc y && nmB y && decide (i ∈ M) && decide (j ∈ M) && decide (i ≠ j)
  | .forL i fg tg tup body, sc, .For t (.Name x _) p [] _ => decide (N[i]? = some x) && visB sc x && nmB x && decide (i ∈ M) && isT N sc (fun _ => true) tg tup t && tg.all (fun j => decide (j ∉ M)) && isSs M N body sc p
  | .popA k i e, sc, .Assign [.Name x _] (.Call (.Attribute (.Name y _) f ap) [v] [] cp) _ => decide (N[k]? = some x) && locT sc x && decide (k ∉ M) && decide (N[i]? = some y) && visB sc y && nmB y && decide (f = ("pop" : Str)) && decide (ap.endLine = cp.line) && decide (i ∈ M) && isE M N e sc v
  | .appPop k i e, sc, .Expr (.Call (.Attribute (.Name x _) g bp) [.Call (.Attribute (.Name y _) f ap) [v] [] cp] [] dp) _ => decide (N[k]? = some x) && visB sc x && nmB x && decide (k ∈ M) && decide (g = ("append" : Str)) && decide (bp.endLine = dp.line) && decide (N[i]? = some y) && visB sc y && nmB y && decide (f = ("pop" : Str)) && decide (ap.endLine = cp.line) && decide (i ∈ M) && isE M N e sc v && decide (k ≠ i)
  | .popE i e, sc, .Expr (.Call (.Attribute (.Name y _) f ap) [v] [] cp) _ => decide (N[i]? = some y) && visB sc y && nmB y && decide (f = ("pop" : Str)) && decide (ap.endLine = cp.line) && decide (i ∈ M) && isE M N e sc v
  | .retN, sc, .Return none _ => true
  | .rai c m, sc, .Raise (some (.Call (.Name x _) [.Constant (.str z) _ _] [] _)) none _ => decide (c = x) && decide (m = z) && glB sc x && nmB x
  | .ite c a b, sc, .If v p q _ => isE M N c sc v && isSs M N a sc p && isSs M N b sc q
  | .forS fg tg tup it body, sc, .For t v p [] _ => isT N sc (fun _ => true) tg tup t && tg.all (fun j => decide (j ∉ M)) && isI M N it sc t v && stI M it && isSs M N body sc p
  | .whl fg _ c body, sc, .While v p [] _ => isE M N c sc v && isSs M N body sc p
  | .cnt, sc, .Continue _ => true
  | .pas, sc, .Pass _ => true
  | .try1 i cl b s, sc, .Try body [.ExceptHandler (some (.Name x _)) (some n) (s0 :: suite) _] [] [] _ => decide (N[i]? = some n) && loc1 sc n && decide (M.e = [i]) && decide (cl = x) && glB sc x && nmB x && decide (x ∈ tstAll) && bodyB b && isSs M N b sc body && hotS s && isSs M N s sc (s0 :: suite)
  | .try2 i cl b s cl2 s2, sc, .Try body [.ExceptHandler (some (.Name x _)) (some n) (s0 :: suite) _, .ExceptHandler (some (.Name x2 _)) none (s02 :: suite2) _] [] [] _ => decide (N[i]? = some n) && loc1 sc n && decide (M.e = [i]) && decide (cl = x) && glB sc x && nmB x && decide (x ∈ tstAll) && bodyB b && isSs M N b sc body && hotS s && isSs M N s sc (s0 :: suite) &&
      decide (cl2 = x2) && glB sc x2 && nmB x2 && decide (x2 ∈ tstAll) && hotS s2 && isSs M N s2 sc (s02 :: suite2)
  | _, _, _ => false
def isSs (M : Os) (N : List Str) : MS → Scope → List Stmt → Bool
  | .nil, _, [] => true
  | .cons s r, sc, st :: sts => isS M N s sc st && isSs M N r sc sts
  | .jnk i _ x es ts mu rest, sc, .Assign [.Name y _] (.Call (.Name z _) (e :: l) [] _) _ :: sts => decide (N[i]? = some y) && locT sc y && visB sc y && nmB y && decide (i ∉ M) && decide (x = z) && glB sc x && nmB x && isEs M N es sc (e :: l) && noL M es && (match jTs M N sc ts sts with
    | some st1 => (match jMs M N sc y mu st1 with
      | some st2 => isSs M N rest sc st2
      | none => false)
    | none => false)
  | _, _, _ => false
end
/-! ### what is asked of the surroundings -/
def OkT (S : Sur) : List (ME × Bool) → Prop
  | [] => True
  | (c, _) :: ts => OkM S c ∧ OkT S ts
def OkJ (S : Sur) : Jm → Prop
  | .one e | .all _ e => OkM S e
def OkS (S : Sur) : MS → Prop
  | .cons a b => OkS S a ∧ OkS S b
  | .asg _ e | .unp _ e | .unl _ e | .aug _ _ e | .app _ e | .expr e | .ret _ e => OkM S e
  | .par _ _ a b | .ins _ a b | .setix _ a b | .ret2 a b => OkM S a ∧ OkM S b
  | .popA _ _ e | .appPop _ _ e | .popE _ e => OkM S e
  | .forL _ _ _ _ b => OkS S b
  | .rai c _ => S.ex c
  | .ite c a b => OkM S c ∧ OkS S a ∧ OkS S b
  | .forS _ _ _ it b => OkM S it ∧ OkS S b
  | .whl _ _ c b => OkM S c ∧ OkS S b
  | .try1 _ _ b s => S.ix ∧ OkS S b ∧ OkS S s
  | .try2 _ _ b s _ s2 => S.ix ∧ OkS S b ∧ OkS S s ∧ OkS S s2
  | .jnk _ F x es ts mu rest => S.nf x F ∧ OkM S es ∧ OkT S ts ∧ OkJ S mu ∧ OkS S rest
  | _ => True
end Mn
/-! Mn, part N: the frame's state; the plain statements. -/
namespace Mn
open PySem PySem.Spec PyProof.Rows L2
structure RelS (K : PySem.W.Frag) (M : Ow) (N0 : Addr → Prop) (H0 : Hp) (N : Addr → Prop) (ρ : Env) (σ : L2.St) (H : Hp) : Prop where
  r : RelE K M N ρ σ H
  s : Same H0 H
  n0 : ∀ b, N0 b → N b
  nw : ∀ b, N b → N0 b ∨ H0 b = none
  ne0 : ∀ b, N0 b → H0 b ≠ none
  ow : ∀ i ∈ M, ∀ ds a, ρ[i]? = some (some (.list ds)) → σ[i]? = some (some (.ref a)) → H0 a = none
  inj : ∀ i ∈ M, ∀ j ∈ M, ∀ ds es a, i ≠ j → ρ[i]? = some (some (.list ds)) → ρ[j]? = some (some (.list es)) → σ[i]? = some (some (.ref a)) → σ[j]? = some (some (.ref a)) → False
theorem Ext.trans {N N1 N2 : Addr → Prop} {H H1 H2 : Hp} (x : Ext N H N1 H1) (y : Ext N1 H1 N2 H2) : Ext N H N2 H2 :=
  ⟨fun b z => (y.sub b z).elim (x.sub b) fun h => x.keep.free h, fun b o h hn => y.keep b o (x.keep b o h hn) (hn.imp_left fun nb z => (x.sub b z).elim nb fun e => by rw [e] at h; cases h)⟩
theorem Ext.refl {N : Addr → Prop} {H : Hp} : Ext N H N H := Ext.of_same (Same.refl _)
def PostS (K : PySem.W.Frag) (M : Ow) (W : WX) (N0 : Addr → Prop) (H0 : Hp) (N : Addr → Prop) (H : Hp) (D : Ends) : Ot → Prop
  | .next ρ' => ∀ σ' H' N', RelS K M N0 H0 N' ρ' σ' H' → Ext N H N' H' → D.nx σ' H'
  | .cont ρ' => ∀ σ' H' N', RelS K M N0 H0 N' ρ' σ' H' → Ext N H N' H' → D.ct σ' H'
  | .ret d => ∀ v H', Same H0 H' → RpG .fresh K H0 H' N0 v d → D.rt v H'
  | .exc c => ∀ σ' H', Same H0 H' → W (.ref (He.ga K c)) none σ' H'
  | .bad => False
def tS (K : PySem.W.Frag) (M : Ow) (W : WX) (N0 : Addr → Prop) (H0 : Hp) (f : Env → Ot) : TS := fun D σ H => ∃ ρ N, RelS K M N0 H0 N ρ σ H ∧ PostS K M W N0 H0 N H D (f ρ)
section
variable {K : PySem.W.Frag} {M : Ow} {W : WX} {N0 : Addr → Prop} {H0 : Hp} {N N1 : Addr → Prop} {ρ : Env} {σ : L2.St} {H H1 : Hp} {Z : Ends}
theorem PostS.adv {o : Ot} (x : Ext N H N1 H1) (q : PostS K M W N0 H0 N H Z o) : PostS K M W N0 H0 N1 H1 Z o := by
  cases o with
  | next ρ' => exact fun σ' H' N' r y => q σ' H' N' r (x.trans y)
  | cont ρ' => exact fun σ' H' N' r y => q σ' H' N' r (x.trans y)
  | _ => exact q
theorem RelS.same (r : RelS K M N0 H0 N ρ σ H) (s : Same H H1) : RelS K M N0 H0 N ρ σ H1 := ⟨r.r.same s, r.s.trans s, r.n0, r.nw, r.ne0, r.ow, r.inj⟩
/-- a term, then the rest -/
theorem rs_e {g : Gr} {f : Env → R D} {kk : D → Ot} {Q : VK} (r : RelS K M N0 H0 N ρ σ H) (q : PostS K M W N0 H0 N H Z ((f ρ).ot kk))
    (k : ∀ d v H1, f ρ = .ok d → Same H H1 → RpG g K H H1 N v d → RelS K M N0 H0 N ρ σ H1 → PostS K M W N0 H0 N H Z (kk d) → PostS K M W N0 H0 N H1 Z (kk d) → Q v H1) : tE g K M W f σ H Q := by
  refine ⟨ρ, N, r.r, ?_⟩
  cases e : f ρ with
  | ok d =>
    rw [e] at q
    exact fun v H' s rv => k d v H' e s rv (r.same s) q (q.adv (Ext.of_same s))
  | exc c =>
    rw [e] at q
    exact fun H' s => q σ H' (r.s.trans s)
  | bad =>
    rw [e] at q
    exact q.elim
/-- a test, then the rest -/
theorem rs_t {f : Env → R Bool} {kk : Bool → Ot} {Q : Bool → Hp → Prop} (r : RelS K M N0 H0 N ρ σ H) (q : PostS K M W N0 H0 N H Z ((f ρ).ot kk))
    (k : ∀ b H1, f ρ = .ok b → Same H H1 → RelS K M N0 H0 N ρ σ H1 → PostS K M W N0 H0 N H1 Z (kk b) → Q b H1) : tT K M W f σ H Q := by
  refine ⟨ρ, N, r.r, ?_⟩
  cases e : f ρ with
  | ok d =>
    rw [e] at q
    exact fun H' s => k d H' e s (r.same s) (q.adv (Ext.of_same s))
  | exc c =>
    rw [e] at q
    exact fun H' s => q σ H' (r.s.trans s)
  | bad =>
    rw [e] at q
    exact q.elim
theorem setO_get {ρ : Env} {i j : Nat} {o : Option D} {d : D} (h : (ρ.set i o)[j]? = some (some d)) : (j = i ∧ o = some d ∧ i < ρ.length) ∨ (j ≠ i ∧ ρ[j]? = some (some d)) := by
  by_cases hj : i = j
  · subst hj
    by_cases hl : i < ρ.length
    · rw [List.getElem?_set_self hl] at h
      exact .inl ⟨rfl, Option.some.inj h, hl⟩
    · rw [List.getElem?_eq_none (by rw [List.length_set]; omega)] at h
      cases h
  · rw [List.getElem?_set_ne hj] at h
    exact .inr ⟨fun e => hj e.symm, h⟩
theorem setS_ne {σ : L2.St} {i j : Nat} {v : Option V} (h : j ≠ i) : (σ.set i v)[j]? = σ[j]? := List.getElem?_set_ne fun e => h e.symm
theorem RelS.set {i : Nat} {v : V} {d : D} (r : RelS K M N0 H0 N ρ σ H) (hi : i ∉ M) (k : Rp K H N v d) : RelS K M N0 H0 N (ρ.set i (some d)) (σ.set i (some v)) H := by
  refine ⟨r.r.set hi k, r.s, r.n0, r.nw, r.ne0, fun j hj ds a h1 h2 => ?_, fun j hj l hl ds es a hne h1 h2 h3 h4 => ?_⟩
  · rcases setO_get h1 with ⟨rfl, _⟩ | ⟨hne, h1⟩
    · exact absurd hj hi
    · rw [setS_ne hne] at h2
      exact r.ow j hj ds a h1 h2
  · rcases setO_get h1 with ⟨rfl, _⟩ | ⟨hj1, h1⟩
    · exact absurd hj hi
    · rcases setO_get h2 with ⟨rfl, _⟩ | ⟨hl1, h2⟩
      · exact absurd hl hi
      · rw [setS_ne hj1] at h3
        rw [setS_ne hl1] at h4
        exact r.inj j hj l hl ds es a hne h1 h2 h3 h4
theorem RelS.drop {i : Nat} (r : RelS K M N0 H0 N ρ σ H) : RelS K M N0 H0 N (ρ.set i none) σ H := by
  have g : ∀ {j : Nat} {d : D}, (ρ.set i none)[j]? = some (some d) → ρ[j]? = some (some d) := fun {j d} h => by
    rcases setO_get h with ⟨_, e, _⟩ | ⟨_, h⟩
    · cases e
    · exact h
  exact ⟨r.r.drop, r.s, r.n0, r.nw, r.ne0, fun j hj ds a h1 h2 => r.ow j hj ds a (g h1) h2, fun j hj l hl ds es a hne h1 h2 h3 h4 => r.inj j hj l hl ds es a hne (g h1) (g h2) h3 h4⟩
theorem RelS.wipe (r : RelS K M N0 H0 N ρ σ H) : ∀ fg : List Nat, RelS K M N0 H0 N (wipeE ρ fg) σ H
  | [] => r
  | i :: fg => (RelS.wipe r fg).drop
theorem RelS.setS : ∀ {tg : List Nat} {ds : List D} {ws : List V} {ρ : Env} {σ : L2.St}, RelS K M N0 H0 N ρ σ H → (∀ i ∈ tg, i ∉ M) → RpAll K H N ws ds → RelS K M N0 H0 N (setL ρ tg ds) (Mn.setS σ tg ws) H
  | [], _, _, _, _, r, _, _ => r
  | i :: is, [], _, _, _, r, _, k => by cases k; exact r
  | i :: is, d :: ds, _, _, _, r, h, k => by
    cases k with
    | cons k1 k2 =>
      have q := RelS.setS (tg := is) (RelS.set r (h i List.mem_cons_self) k1) (fun j hj => h j (List.mem_cons_of_mem _ hj)) k2
      exact q
/-- a new list, owned from now on -/
theorem RelS.own {i : Nat} {v : V} {d : D} (r : RelS K M N0 H0 N ρ σ H) (hi : i ∈ M) (s : Same H H1) (k : RpG .fresh K H H1 N v d) : ∃ N', RelS K M N0 H0 N' (ρ.set i (some d)) (σ.set i (some v)) H1 ∧ Ext N H N' H1 := by
  by_cases hd : ∃ ds, d = .list ds
  · obtain ⟨ds, rfl⟩ := hd
    obtain ⟨a, xs, rfl, hn, hx, ra⟩ := k.2 ds rfl
    have ex : Ext N H (fun b => N b ∨ b = a) H1 := ⟨fun b z => z.imp_right fun e => by rw [e]; exact hn, toN s⟩
    have ne' : ∀ b, (N b ∨ b = a) → H1 b ≠ none := fun b z => z.elim (fun w q => r.r.ne b w (s.free q)) fun e => by rw [e, hx]; exact fun z => nomatch z
    have r1 : RelE K M (fun b => N b ∨ b = a) ρ σ H1 := r.r.grow ex (fun _ => .inl) s ne'
    have old : ∀ {j : Nat} {es : List D}, j ∈ M → ρ[j]? = some (some (.list es)) → σ[j]? ≠ some (some (.ref a)) := fun {j es} hj h1 h2 => by
      obtain ⟨u, e1, h3, _⟩ := r.r.sl j _ h1 rfl
      obtain ⟨b, ys, rfl, nb, hb, _⟩ := h3 hj
      rw [h2] at e1
      cases e1
      rw [hn] at hb
      cases hb
    refine ⟨fun b => N b ∨ b = a, ⟨⟨r1.ne, by rw [List.length_set, List.length_set, r1.len], fun j e h hX => ?_, fun j e h hX => ?_⟩, r.s.trans s, fun b z => .inl (r.n0 b z), fun b z => z.elim (r.nw b) fun e => .inr (r.s.free (by rw [e]; exact hn)), r.ne0, fun j hj es b h1 h2 => ?_, fun j hj l hl ds' es b hne h1 h2 h3 h4 => ?_⟩, ex⟩
    · rcases setO_get h with ⟨rfl, e', hl⟩ | ⟨hne, h⟩
      · cases e'
        exact ⟨.ref a, by rw [List.getElem?_set_self (by rw [← r.r.len]; exact hl)], fun _ => ⟨a, xs, rfl, .inr rfl, hx, ra⟩, fun z => absurd hi z⟩
      · obtain ⟨u, e1, h1, h2⟩ := r1.sl j e h hX
        exact ⟨u, by rw [setS_ne hne]; exact e1, h1, h2⟩
    · rcases setO_get h with ⟨rfl, e', hl⟩ | ⟨hne, h⟩
      · cases e'
        cases hX
      · rw [setS_ne hne]
        exact r1.sx j e h hX
    · rcases setO_get h1 with ⟨rfl, e', hl⟩ | ⟨hne, h1⟩
      · rw [List.getElem?_set_self (by rw [← r.r.len]; exact hl)] at h2
        cases h2
        exact r.s.free hn
      · rw [setS_ne hne] at h2
        exact r.ow j hj es b h1 h2
    · rcases setO_get h1 with ⟨rfl, e', hl'⟩ | ⟨hj1, g1⟩
      · rw [List.getElem?_set_self (by rw [← r.r.len]; exact hl')] at h3
        cases h3
        rcases setO_get h2 with ⟨rfl, _⟩ | ⟨hl1, h2⟩
        · exact hne rfl
        · rw [setS_ne hl1] at h4
          exact old hl h2 h4
      · have g3 := h3
        rw [setS_ne hj1] at g3
        rcases setO_get h2 with ⟨rfl, e', hl'⟩ | ⟨hl1, h2⟩
        · rw [List.getElem?_set_self (by rw [← r.r.len]; exact hl')] at h4
          cases h4
          exact old hj g1 g3
        · rw [setS_ne hl1] at h4
          exact r.inj j hj l hl ds' es b hne g1 h2 g3 h4
  · have hd' : ∀ ds, d ≠ .list ds := fun ds e => hd ⟨ds, e⟩
    have r1 := r.same s
    refine ⟨N, ⟨⟨r1.r.ne, by rw [List.length_set, List.length_set, r1.r.len], fun j e h hX => ?_, fun j e h hX => ?_⟩, r1.s, r.n0, r.nw, r.ne0, fun j hj es b h1 h2 => ?_, fun j hj l hl ds' es b hne h1 h2 h3 h4 => ?_⟩, Ext.of_same s⟩
    · rcases setO_get h with ⟨rfl, e', hl⟩ | ⟨hne, h⟩
      · cases e'
        refine ⟨v, by rw [List.getElem?_set_self (by rw [← r.r.len]; exact hl)], fun _ => ?_, fun z => absurd hi z⟩
        cases d with
        | list ds => exact absurd rfl (hd' ds)
        | _ => exact k.1
      · obtain ⟨u, e1, h1, h2⟩ := r1.r.sl j e h hX
        exact ⟨u, by rw [setS_ne hne]; exact e1, h1, h2⟩
    · rcases setO_get h with ⟨rfl, e', hl⟩ | ⟨hne, h⟩
      · cases e'
        rw [k.1.noX] at hX
        cases hX
      · rw [setS_ne hne]
        exact r1.r.sx j e h hX
    · rcases setO_get h1 with ⟨rfl, e', hl⟩ | ⟨hne, h1⟩
      · cases e'
        exact absurd rfl (hd' es)
      · rw [setS_ne hne] at h2
        exact r.ow j hj es b h1 h2
    · rcases setO_get h1 with ⟨rfl, e', hl'⟩ | ⟨hj1, h1⟩
      · cases e'
        exact absurd rfl (hd' ds')
      · rcases setO_get h2 with ⟨rfl, e', hl'⟩ | ⟨hl1, h2⟩
        · cases e'
          exact absurd rfl (hd' es)
        · rw [setS_ne hj1] at h3
          rw [setS_ne hl1] at h4
          exact r.inj j hj l hl ds' es b hne h1 h2 h3 h4
/-- an owned list is changed in place -/
theorem RelS.put {i : Nat} {ds ds' : List D} {a : Addr} {xs xs' : List V} (r : RelS K M N0 H0 N ρ σ H) (hi : i ∈ M) (h : ρ[i]? = some (some (.list ds))) (hs : σ[i]? = some (some (.ref a))) (na : N a) (hx : H a = some (.lst xs)) (k : RpAll K H N xs' ds') :
    RelS K M N0 H0 N (ρ.set i (some (.list ds'))) σ (upd H a (.lst xs')) ∧ Ext N H N (upd H a (.lst xs')) := by
  have ex : Ext N H N (upd H a (.lst xs')) := Ext.updL na hx
  have g : ∀ {j : Nat} {es : List D}, (ρ.set i (some (.list ds')))[j]? = some (some (.list es)) → ∃ es', ρ[j]? = some (some (.list es')) := fun {j es} h1 => by
    rcases setO_get h1 with ⟨rfl, _, _⟩ | ⟨_, h1⟩
    · exact ⟨_, h⟩
    · exact ⟨_, h1⟩
  refine ⟨⟨⟨fun b nb z => ?_, by rw [List.length_set, r.r.len], fun j e hj hX => ?_, fun j e hj hX => ?_⟩, fun b o hb => ?_, r.n0, r.nw, r.ne0, fun j hj es b h1 h2 => ?_, fun j hj l hl ds1 es b hne h1 h2 h3 h4 => ?_⟩, ex⟩
  · by_cases hb : b = a
    · subst hb
      rw [upd_same] at z
      cases z
    · rw [upd_ne hb] at z
      exact r.r.ne b nb z
  · rcases setO_get hj with ⟨rfl, e', hl⟩ | ⟨hne, hj⟩
    · cases e'
      exact ⟨.ref a, hs, fun _ => ⟨a, xs', rfl, na, upd_same, RpAll.ext ex _ _ k⟩, fun z => absurd hi z⟩
    · obtain ⟨u, e1, h1, h2⟩ := r.r.sl j e hj hX
      refine ⟨u, e1, fun hm => ?_, fun hm => Rp.ext ex _ _ (h2 hm)⟩
      have h1 := h1 hm
      cases e with
      | list es =>
        obtain ⟨b, ys, rfl, nb, hb, rb⟩ := h1
        have hba : b ≠ a := fun e => r.inj j hm i hi es ds a hne hj h (by rw [e1, e]) hs
        exact ⟨b, ys, rfl, nb, by rw [upd_ne hba]; exact hb, RpAll.ext ex _ _ rb⟩
      | _ => exact Rp.ext ex _ _ h1
  · rcases setO_get hj with ⟨rfl, e', hl⟩ | ⟨hne, hj⟩
    · cases e'
      cases hX
    · exact r.r.sx j e hj hX
  · have hba : b ≠ a := fun e => by
      rw [e, r.ow i hi ds a h hs] at hb
      cases hb
    rw [upd_ne hba]
    exact r.s b o hb
  · obtain ⟨es', h1⟩ := g h1
    exact r.ow j hj es' b h1 h2
  · obtain ⟨ds2, h1⟩ := g h1
    obtain ⟨es2, h2⟩ := g h2
    exact r.inj j hj l hl ds2 es2 b hne h1 h2 h3 h4
/-- an owned list is let go: from now on it stays as it is -/
theorem RelS.let_ {j : Nat} {es : List D} {b : Addr} {ys : List V} (r : RelS K M N0 H0 N ρ σ H) (hj : j ∈ M) (h : ρ[j]? = some (some (.list es))) (hs : σ[j]? = some (some (.ref b))) (hy : H b = some (.lst ys)) (k : RpAll K H N ys es) :
    ∃ N', RelS K M N0 H0 N' (ρ.set j none) σ H ∧ Ext N H N' H ∧ Rp K H N' (.ref b) (.list es) ∧ (∀ a, N a → a ≠ b → N' a) ∧ (∀ a, N' a → N a) := by
  have hb0 := r.ow j hj es b h hs
  have less : ∀ c, (N c ∧ c ≠ b) → N c := fun c z => z.1
  refine ⟨fun c => N c ∧ c ≠ b, ⟨⟨fun c z => r.r.ne c z.1, by rw [List.length_set, r.r.len], fun l e hl hX => ?_, fun l e hl hX => r.r.drop.sx l e hl hX⟩, r.s, fun c z => ⟨r.n0 c z, fun e => r.ne0 c z (by rw [e]; exact hb0)⟩, fun c z => r.nw c z.1, r.ne0, r.drop.ow, r.drop.inj⟩, ⟨fun c z => .inl z.1, fun c o hc _ => hc⟩, .lst (.inl ⟨fun z => z.2 rfl, .inl hy⟩) (RpAll.less (fun c _ => less c) _ _ k), fun a na hab => ⟨na, hab⟩, less⟩
  rcases setO_get hl with ⟨_, e', _⟩ | ⟨hne, hl⟩
  · cases e'
  · obtain ⟨u, e1, h1, h2⟩ := r.r.sl l e hl hX
    refine ⟨u, e1, fun hm => ?_, fun hm => Rp.less (fun c _ => less c) _ _ (h2 hm)⟩
    have h1 := h1 hm
    cases e with
    | list fs =>
      obtain ⟨c, zs, rfl, nc, hc, rc⟩ := h1
      refine ⟨c, zs, rfl, ⟨nc, fun e => ?_⟩, hc, RpAll.less (fun c _ => less c) _ _ rc⟩
      exact r.inj l hm j hj fs es b hne hl h (by rw [e1, e]) hs
    | _ => exact Rp.less (fun c _ => less c) _ _ h1
end
end Mn
/-! Mn, part O: the single statements. -/
namespace Mn
open PySem PySem.Spec PyProof.Rows L2
structure GoodS (X : Cx) (k : Nat) : Prop extends Good X k where
  own : PassesOwn (model X.prog X.w) X.A X.env X.xe
  fn : ∀ x, X.fn x = true
  blk : X.env.blockKind = .function
  stk : X.stack = X.env :: X.outer
  frm : X.env.frame = some X.env.locals
def SS (X : Cx) (M : Ow) (N0 : Addr → Prop) (H0 : Hp) (m : MS) (st : Stmt) : Prop := ∀ W, Takes X W → PS X st (tS X.K M W N0 H0 (denS m))
def SSs (X : Cx) (M : Ow) (N0 : Addr → Prop) (H0 : Hp) (m : MS) (st : List Stmt) : Prop := ∀ W, Takes X W → PSs X st (tS X.K M W N0 H0 (denS m))
section
variable {X : Cx} {M : Ow} {N0 : Addr → Prop} {H0 : Hp} {k : Nat}
theorem PS.imp {st : Stmt} {t t' : TS} (h : PS X st t) (k : ∀ D σ H, t' D σ H → t D σ H) : PS X st t' := ⟨fun pins s σ H D I q => h.run pins s σ H D I (k _ _ _ q)⟩
theorem PSs.imp {st : List Stmt} {t t' : TS} (h : PSs X st t) (k : ∀ D σ H, t' D σ H → t D σ H) : PSs X st t' := ⟨fun pins s σ H D I q => h.run pins s σ H D I (k _ _ _ q)⟩
theorem locT_of {sc : Scope} {x : Str} (h : locT sc x = true) : Loc sc x := by
  unfold locT at h
  split at h
  · exact .inl (by assumption)
  · exact .inr (by assumption)
  · cases h
theorem loc1_of {sc : Scope} {x : Str} (h : loc1 sc x = true) : sc.names.lookup x = some .local := by
  unfold loc1 at h
  split at h
  · assumption
  · cases h
/-- name = e -/
theorem rd_asg {i : Nat} {e : ME} {W : WX} (hg : if i ∈ M then gr M e = .fresh else gr M e ≠ .loose) : ∀ D σ H, tS X.K M W N0 H0 (denS (.asg i e)) D σ H → tAsg (tE (gr M e) X.K M W (denE e)) (gName i) D σ H := by
  rintro D σ H ⟨ρ, N, r, q⟩
  refine rs_e (kk := fun d => .next (ρ.set i (some d))) r q fun d v H1 ed s rv r1 q0 q1 => ?_
  by_cases hi : i ∈ M
  · rw [if_pos hi] at hg
    rw [hg] at rv
    obtain ⟨N', r', x⟩ := r.own hi s rv
    exact q0 _ _ N' r' x
  · rw [if_neg hi] at hg
    exact q1 _ _ N (r1.set hi (rv.s hg)) Ext.refl
theorem ss_asg {i : Nat} {e : ME} {x : Str} {v : Expr} {px pos : Pos} (nd : X.N.Nodup) (fn : ∀ x, X.fn x = true) (hN : X.N[i]? = some x) (hl : locT X.env.scope x = true) (he : SE X M e v) (hg : if i ∈ M then gr M e = .fresh else gr M e ≠ .loose)
    (hs : swapsWith v (some (.Name x px)) pos.line X.env = pure false) : SS X M N0 H0 (.asg i e) (.Assign [.Name x px] v pos) := fun W tk =>
  PS.imp (ps_set nd hN (locT_of hl) (he W tk) hs (.inl (fn x))) (rd_asg hg)
/-- (a, b) = e -/
theorem ss_unp {tg : List Nat} {e : ME} {t v : Expr} {pos : Pos} (G : GoodS X k) (hg : PG X t (gT X.K tg true)) (hM : ∀ j ∈ tg, j ∉ M) (he : SE X M e v) (hgr : gr M e ≠ .loose) (hs : swapsWithSole [t] v pos.line X.env = pure false) (hw : swappedStores [t] v X.env = pure none)
    (h1 : (assignEach [t] X.env).map (·.2) = [assign t X.env]) : SS X M N0 H0 (.unp tg e) (.Assign [t] v pos) := fun W tk => by
  refine PS.imp (ps_asg (he W tk) hg hs hw h1) ?_
  rintro D σ H ⟨ρ, N, r, q⟩
  refine rs_e (kk := fun d => (bindT tg true d ρ).ot .next) r q fun d v H1 ed s rv r1 q0 q1 => ?_
  cases eb : bindT tg true d ρ with
  | ok ρ' =>
    rw [eb] at q1
    cases d with
    | tuple ds =>
      have hb : (if ds.length = tg.length then R.ok (setL ρ tg ds) else .bad) = .ok ρ' := eb
      by_cases hl : ds.length = tg.length
      · rw [if_pos hl] at hb
        obtain rfl := R.ok_inj hb
        obtain ⟨a, xs, e, sq, ra⟩ := (rv.s hgr).tup_inv
        have hx : xs.length = tg.length := by rw [ra.length, hl]
        exact ⟨a, xs, e, sq, hx, gTs_by hx (q1 _ _ N (RelS.setS r1 hM ra) Ext.refl)⟩
      · rw [if_neg hl] at hb
        cases hb
    | _ => cases eb
  | exc c => cases d <;> first | (cases eb; done) | (simp only [bindT] at eb; split at eb <;> cases eb)
  | bad =>
    rw [eb] at q1
    exact q1.elim
/-- (a, b) = e, a list -/
theorem ss_unl {tg : List Nat} {e : ME} {t v : Expr} {pos : Pos} (G : GoodS X k) (hg : PG X t (gLst X.K tg.length (gTs tg))) (hM : ∀ j ∈ tg, j ∉ M) (he : SE X M e v) (hgr : gr M e ≠ .loose) (hs : swapsWithSole [t] v pos.line X.env = pure false) (hw : swappedStores [t] v X.env = pure none)
    (h1 : (assignEach [t] X.env).map (·.2) = [assign t X.env]) : SS X M N0 H0 (.unl tg e) (.Assign [t] v pos) := fun W tk => by
  refine PS.imp (ps_asg (he W tk) hg hs hw h1) ?_
  rintro D σ H ⟨ρ, N, r, q⟩
  refine rs_e (kk := fun d => (bindL tg d ρ).ot .next) r q fun d v H1 ed s rv r1 q0 q1 => ?_
  cases eb : bindL tg d ρ with
  | ok ρ' =>
    rw [eb] at q1
    cases d with
    | list ds =>
      have hb : (if ds.length = tg.length then R.ok (setL ρ tg ds) else .bad) = .ok ρ' := eb
      by_cases hl : ds.length = tg.length
      · rw [if_pos hl] at hb
        obtain rfl := R.ok_inj hb
        obtain ⟨a, xs, e, sq, ra⟩ := (rv.s hgr).list_inv
        have hx : xs.length = tg.length := by rw [ra.length, hl]
        exact ⟨a, xs, e, sq, hx, gTs_by hx (q1 _ _ N (RelS.setS r1 hM ra) Ext.refl)⟩
      · rw [if_neg hl] at hb
        cases hb
    | _ => cases eb
  | exc c => cases d <;> first | (cases eb; done) | (simp only [bindL] at eb; split at eb <;> cases eb)
  | bad =>
    rw [eb] at q1
    exact q1.elim
/-- a, b = x, y -/
theorem ss_par {i j : Nat} {a b : ME} {x y : Str} {v w : Expr} {px py pt pt2 pos : Pos} {kt k2 : Nat} (G : GoodS X k) (hi : X.N[i]? = some x) (hj : X.N[j]? = some y) (hij : i ≠ j) (iM : i ∉ M) (jM : j ∉ M) (ga : gr M a ≠ .loose) (gb : gr M b ≠ .loose)
    (hx : X.env.scope.names.lookup x = some .local) (hy : X.env.scope.names.lookup y = some .local) (ha : SE X M a v) (hb : SE X M b w) (h1 : starEach [v, w] X.env = (false, eval v X.env) :: starEach [w] X.env) (h2 : starEach [w] X.env = (false, eval w X.env) :: starEach [] X.env)
    (hw : swappedStores [.Tuple [.Name x px, .Name y py] kt pt] (.Tuple [v, w] k2 pt2) X.env = pure (some [x, y])) : SS X M N0 H0 (.par i j a b) (.Assign [.Tuple [.Name x px, .Name y py] kt pt] (.Tuple [v, w] k2 pt2) pos) := fun W tk => by
  refine PS.imp (ps_par G.calm G.nd hi hj hij hx hy (pa_cons (ha W tk) (pa_cons (hb W tk) pa_nil h2) h1) hw) ?_
  rintro D σ H ⟨ρ, N, r, q⟩
  refine rs_e (kk := fun d => (denE b ρ).ot fun y => .next ((ρ.set i (some d)).set j (some y))) r q fun d v1 H1 ed s rv r1 q0 q1 => ?_
  refine rs_e (kk := fun y => .next ((ρ.set i (some d)).set j (some y))) r1 q1 fun d2 v2 H2 ed2 s2 rv2 r2 q2 q3 => ?_
  exact ⟨v1, v2, rfl, q3 _ _ N ((r2.set iM ((rv.s ga).same s2)).set jM (rv2.s gb)) Ext.refl⟩
theorem slot_ok {ρ : Env} {i : Nat} {d : D} (h : slot ρ i = .ok d) : ρ[i]? = some (some d) := by
  unfold slot at h
  split at h
  · rw [← R.ok_inj h]
    assumption
  · cases h
theorem slot_noE {ρ : Env} {i : Nat} {c : Str} : slot ρ i ≠ .exc c := by
  unfold slot
  split <;> exact fun z => nomatch z
/-- name op= e -/
def ipD (o : BOp) : TIp := fun x y H Q => ∃ i j z, x = .int i ∧ y = .int j ∧ bop o (.int i) (.int j) = .ok (.int z) ∧ Q (.int z) H
theorem int_inj {i j : Int} (h : (R.ok (PyData.int i) : R D) = R.ok (.int j)) : i = j := by
  injection h with h
  injection h
theorem ip_ok {o : BOp} (h : augB o = true) : PIp X (opOf o) (ipD o) := by
  cases o <;> first | (cases h; done) | skip
  case add =>
    rintro pins s σ H x y v u Q I r1 r2 ⟨i, j, z, rfl, rfl, e, q⟩
    obtain rfl := int_inj e
    exact iop_add pins s σ H _ _ v u Q I r1 r2 ⟨_, _, rfl, rfl, q⟩
  case sub =>
    rintro pins s σ H x y v u Q I r1 r2 ⟨i, j, z, rfl, rfl, e, q⟩
    obtain rfl := int_inj e
    exact iop_sub pins s σ H _ _ v u Q I r1 r2 ⟨_, _, rfl, rfl, q⟩
  case mul =>
    rintro pins s σ H x y v u Q I r1 r2 ⟨i, j, z, rfl, rfl, e, q⟩
    have e : (if mulOk i j = true then R.ok (PyData.int (i * j)) else .bad) = .ok (.int z) := e
    by_cases hm : mulOk i j = true
    · rw [if_pos hm] at e
      obtain rfl := int_inj e
      obtain ⟨t, rfl⟩ := r1
      obtain ⟨t', rfl⟩ := r2
      exact imul_int ⟨.int _, H, I.tok _, ⟨_, rfl⟩, q⟩ (mulOk_ok hm)
    · rw [if_neg hm] at e
      cases e
  case shr =>
    rintro pins s σ H x y v u Q I r1 r2 ⟨i, j, z, rfl, rfl, e, q⟩
    have e : (if 0 ≤ j then R.ok (PyData.int (i / 2 ^ j.toNat)) else .bad) = .ok (.int z) := e
    by_cases hm : 0 ≤ j
    · rw [if_pos hm] at e
      obtain rfl := int_inj e
      exact iop_shr pins s σ H _ _ v u Q I r1 r2 ⟨_, _, rfl, rfl, hm, q⟩
    · rw [if_neg hm] at e
      cases e
  case bor =>
    rintro pins s σ H x y v u Q I r1 r2 ⟨i, j, z, rfl, rfl, e, q⟩
    obtain rfl := int_inj e
    exact iop_or pins s σ H _ _ v u Q I r1 r2 ⟨_, _, rfl, rfl, q⟩
theorem asInt_ot {r : R D} {kk : Int → Ot} {K : PySem.W.Frag} {W : WX} {N : Addr → Prop} {H : Hp} {Z : Ends} (q : PostS K M W N0 H0 N H Z ((r >>= asInt).ot kk)) : PostS K M W N0 H0 N H Z (r.ot fun d => (asInt d).ot kk) := by
  cases r <;> exact q
theorem asBool_ot {r : R D} {kk : Bool → Ot} {K : PySem.W.Frag} {W : WX} {N : Addr → Prop} {H : Hp} {Z : Ends} (q : PostS K M W N0 H0 N H Z ((r >>= asBool).ot kk)) : PostS K M W N0 H0 N H Z (r.ot fun d => (asBool d).ot kk) := by
  cases r <;> exact q
/-- a slot's int, list -/
theorem slotI {ρ : Env} {i : Nat} {kk : Int → Ot} {K : PySem.W.Frag} {W : WX} {N : Addr → Prop} {H : Hp} {Z : Ends} (q : PostS K M W N0 H0 N H Z ((slot ρ i >>= asInt).ot kk)) : ∃ n, ρ[i]? = some (some (.int n)) ∧ PostS K M W N0 H0 N H Z (kk n) := by
  cases e : slot ρ i with
  | ok d =>
    rw [e] at q
    cases d with
    | int n => exact ⟨n, slot_ok e, q⟩
    | _ => exact q.elim
  | exc c => exact absurd e slot_noE
  | bad => rw [e] at q; exact q.elim
theorem slotL {ρ : Env} {i : Nat} {kk : List D → Ot} {K : PySem.W.Frag} {W : WX} {N : Addr → Prop} {H : Hp} {Z : Ends} (q : PostS K M W N0 H0 N H Z ((slot ρ i >>= asList).ot kk)) : ∃ n, ρ[i]? = some (some (.list n)) ∧ PostS K M W N0 H0 N H Z (kk n) := by
  cases e : slot ρ i with
  | ok d =>
    rw [e] at q
    cases d with
    | list n => exact ⟨n, slot_ok e, q⟩
    | _ => exact q.elim
  | exc c => exact absurd e slot_noE
  | bad => rw [e] at q; exact q.elim
theorem ss_aug {i : Nat} {o : BOp} {e : ME} {x : Str} {v : Expr} {p : Operator} {px pos : Pos} (G : GoodS X k) (hN : X.N[i]? = some x) (hl : locT X.env.scope x = true) (he : SE X M e v) (ho : bOpB o p = true) (ha : augB o = true) (hi : i ∉ M) :
    SS X M N0 H0 (.aug i o e) (.AugAssign (.Name x px) p v pos) := fun W tk => by
  rw [op_of ho]
  refine PS.imp (ps_aug G.nd hN (locT_of hl) (he W tk) (ip_ok ha) (.inl (G.fn x))) ?_
  rintro D σ H ⟨ρ, N, r, q⟩
  obtain ⟨n, h, q⟩ := slotI (kk := fun x => (denE e ρ >>= asInt).ot fun y => (bop o (.int x) (.int y) >>= asInt).ot fun z => .next (ρ.set i (some (.int z)))) q
  obtain ⟨u, hu, _, rv⟩ := r.r.sl i _ h rfl
  refine ⟨u, hu, rs_e (kk := fun d => (asInt d).ot fun y => (bop o (.int n) (.int y) >>= asInt).ot fun z => .next (ρ.set i (some (.int z)))) r (asInt_ot q) fun d v1 H1 ed s rv1 r1 q0 q1 => ?_⟩
  cases d with
  | int m =>
    have q1 : PostS X.K M W N0 H0 N H1 D ((bop o (.int n) (.int m) >>= asInt).ot fun z => .next (ρ.set i (some (.int z)))) := q1
    cases eb : bop o (.int n) (.int m) with
    | ok z =>
      rw [eb] at q1
      cases z with
      | int z =>
        have q1 : PostS X.K M W N0 H0 N H1 D (.next (ρ.set i (some (.int z)))) := q1
        exact ⟨n, m, z, RpL.int_inv (.inl (rv hi)), rv1.l.int_inv, eb, q1 _ _ N (r1.set hi (.int z)) Ext.refl⟩
      | _ => exact q1.elim
    | exc c => exact absurd eb (bop_noE o _ _ c)
    | bad =>
      rw [eb] at q1
      exact q1.elim
  | _ => exact q1.elim
/-- xs.append(e) -/
theorem pv_of {i : Nat} {x : Str} {px : Pos} (h1 : X.N[i]? = some x) (h2 : visB X.env.scope x = true) (h3 : nmB x = true) : PE X (.Name x px) (tVar i) := pe_var h1 (vis_of h2) (nm_of h3).1 (nm_of h3).2
theorem own_of {ρ : Env} {σ : L2.St} {N : Addr → Prop} {H : Hp} {i : Nat} {l : List D} (r : RelS X.K M N0 H0 N ρ σ H) (hi : i ∈ M) (h : ρ[i]? = some (some (.list l))) : ∃ a xs, σ[i]? = some (some (.ref a)) ∧ N a ∧ H a = some (.lst xs) ∧ RpAll X.K H N xs l := by
  obtain ⟨u, hu, h1, _⟩ := r.r.sl i _ h rfl
  obtain ⟨a, xs, rfl, na, ha, ra⟩ := h1 hi
  exact ⟨a, xs, hu, na, ha, ra⟩
theorem few1 {v : Expr} {cp : Pos} (hs : starEach [v] X.env = (false, eval v X.env) :: starEach [] X.env) : ((backTo cp (starEach [v] X.env)).all (fun x => !x.1) && (backToKw cp (keywordEach [] X.env)).all (fun x => x.1.isSome)
      && decide ([v].length + ([] : List Keyword).length + (if ([] : List Keyword).isEmpty then 0 else 1) < 30)) = true := by
  rw [hs]
  rfl
theorem few2 {u v : Expr} {cp : Pos} (hs : starEach [u, v] X.env = (false, eval u X.env) :: starEach [v] X.env) (hs2 : starEach [v] X.env = (false, eval v X.env) :: starEach [] X.env) : ((backTo cp (starEach [u, v] X.env)).all (fun x => !x.1) && (backToKw cp (keywordEach [] X.env)).all (fun x => x.1.isSome)
      && decide ([u, v].length + ([] : List Keyword).length + (if ([] : List Keyword).isEmpty then 0 else 1) < 30)) = true := by
  rw [hs, hs2]
  rfl
theorem ss_app {i : Nat} {e : ME} {x : Str} {v : Expr} {px ap cp pos : Pos} (hN : X.N[i]? = some x) (h2 : visB X.env.scope x = true) (h3 : nmB x = true) (hl : ap.endLine = cp.line) (hi : i ∈ M) (he : SE X M e v) (hg : gr M e ≠ .loose)
    (hs : starEach [v] X.env = (false, eval v X.env) :: starEach [] X.env) : SS X M N0 H0 (.app i e) (.Expr (.Call (.Attribute (.Name x px) "append" ap) [v] [] cp) pos) := fun W tk => by
  refine PS.imp (ps_expr (pe_bm PySem.F.plainAttrs_list PySem.F.slot_list_append PySem.F.type_list_append mt_append (pv_of hN h2 h3) (pa_cons (he W tk) pa_nil hs) rfl (few1 hs) (by rw [hl]; exact beq_self_eq_true _) hs rfl)) ?_
  rintro D σ H ⟨ρ, N, r, q⟩
  obtain ⟨l, h, q⟩ := slotL (kk := fun l => (denE e ρ).ot fun d => if l.length < sizeLine then .next (ρ.set i (some (.list (l ++ [d])))) else .bad) q
  obtain ⟨a, xs, hu, na, ha, ra⟩ := own_of r hi h
  refine ⟨.ref a, hu, .inl ⟨rfl, xs, .inl (.inl ha)⟩, ?_⟩
  refine rs_e (kk := fun d => if l.length < sizeLine then .next (ρ.set i (some (.list (l ++ [d])))) else .bad) r q fun d v1 H1 ed s rv1 r1 q0 q1 => ?_
  by_cases hz : l.length < sizeLine
  · rw [if_pos hz] at q1
    obtain ⟨r2, ex⟩ := r1.put hi h hu na (s _ _ ha) ((ra.same s).snoc (rv1.s hg))
    exact ⟨a, xs, v1, rfl, rfl, s _ _ ha, by rw [ra.length]; exact hz, q1 _ _ N r2 ex⟩
  · rw [if_neg hz] at q1
    exact q1.elim
/-- xs.append(ys), ys owned: it is handed over -/
theorem ss_appM {i j : Nat} {x y : Str} {px py ap cp pos : Pos} (G : GoodS X k) (hN : X.N[i]? = some x) (h2 : visB X.env.scope x = true) (h3 : nmB x = true) (hl : ap.endLine = cp.line) (hi : i ∈ M) (hN' : X.N[j]? = some y) (h2' : visB X.env.scope y = true) (h3' : nmB y = true) (hj : j ∈ M) (hij : i ≠ j) :
    SS X M N0 H0 (.appM i j) (.Expr (.Call (.Attribute (.Name x px) "append" ap) [.Name y py] [] cp) pos) := fun W tk => by
  refine PS.imp (ps_expr (pe_bm PySem.F.plainAttrs_list PySem.F.slot_list_append PySem.F.type_list_append mt_append (pv_of hN h2 h3) (pa_cons (pv_of hN' h2' h3') pa_nil rfl) rfl (few1 rfl) (by rw [hl]; exact beq_self_eq_true _) rfl rfl)) ?_
  rintro D σ H ⟨ρ, N, r, q⟩
  obtain ⟨l, h, q⟩ := slotL (kk := fun l => (slot ρ j >>= asList).ot fun m => if l.length < sizeLine then .next ((ρ.set i (some (.list (l ++ [.list m])))).set j none) else .bad) q
  obtain ⟨m, h', q⟩ := slotL (kk := fun m => if l.length < sizeLine then .next ((ρ.set i (some (.list (l ++ [.list m])))).set j none) else .bad) q
  obtain ⟨a, xs, hu, na, ha, ra⟩ := own_of r hi h
  obtain ⟨b, ys, hu', nb, hb, rb⟩ := own_of r hj h'
  refine ⟨.ref a, hu, .inl ⟨rfl, xs, .inl (.inl ha)⟩, .ref b, hu', ?_⟩
  by_cases hz : l.length < sizeLine
  · rw [if_pos hz] at q
    obtain ⟨N', r1, ex1, rv, keep, less⟩ := r.let_ hj h' hu' hb rb
    have hab : a ≠ b := fun e => r.inj i hi j hj l m a hij h h' hu (by rw [e]; exact hu')
    obtain ⟨r2, ex⟩ := r1.put hi (by rw [List.getElem?_set_ne (fun e => hij e.symm)]; exact h) hu (keep a na hab) ha ((RpAll.less (fun c _ => less c) _ _ ra).snoc rv)
    refine ⟨a, xs, .ref b, rfl, rfl, ha, by rw [ra.length]; exact hz, q _ _ N' ?_ (ex1.trans ex)⟩
    rw [List.set_comm _ _ hij]
    exact r2
  · rw [if_neg hz] at q
    exact q.elim
/-- xs.insert(a, e) -/
theorem ss_ins {i : Nat} {a e : ME} {x : Str} {u v : Expr} {px ap cp pos : Pos} (G : GoodS X k) (hN : X.N[i]? = some x) (h2 : visB X.env.scope x = true) (h3 : nmB x = true) (hl : ap.endLine = cp.line) (hi : i ∈ M) (ha : SE X M a u) (he : SE X M e v) (hg : gr M e ≠ .loose)
    (hs : starEach [u, v] X.env = (false, eval u X.env) :: starEach [v] X.env) (hs2 : starEach [v] X.env = (false, eval v X.env) :: starEach [] X.env) : SS X M N0 H0 (.ins i a e) (.Expr (.Call (.Attribute (.Name x px) "insert" ap) [u, v] [] cp) pos) := fun W tk => by
  refine PS.imp (ps_expr (pe_bm PySem.F.plainAttrs_list PySem.F.slot_list_insert PySem.F.type_list_insert mt_insert (pv_of hN h2 h3) (pa_cons (ha W tk) (pa_cons (he W tk) pa_nil hs2) hs) rfl (few2 hs hs2) (by rw [hl]; exact beq_self_eq_true _) hs (by rw [hs2]; rfl))) ?_
  rintro D σ H ⟨ρ, N, r, q⟩
  obtain ⟨l, h, q⟩ := slotL (kk := fun l => (denE a ρ >>= asInt).ot fun k => (denE e ρ).ot fun d => if l.length < sizeLine ∧ 0 ≤ k ∧ k.toNat < 2 ^ 62 then .next (ρ.set i (some (.list (l.take k.toNat ++ [d] ++ l.drop k.toNat)))) else .bad) q
  obtain ⟨b, xs, hu, na, hb, ra⟩ := own_of r hi h
  refine ⟨.ref b, hu, .inl ⟨rfl, xs, .inl (.inl hb)⟩, ?_⟩
  refine rs_e (kk := fun d => (asInt d).ot fun k => (denE e ρ).ot fun d => if l.length < sizeLine ∧ 0 ≤ k ∧ k.toNat < 2 ^ 62 then .next (ρ.set i (some (.list (l.take k.toNat ++ [d] ++ l.drop k.toNat)))) else .bad) r (asInt_ot q) fun d1 v1 H1 ed s rv1 r1 q0 q1 => ?_
  cases d1 with
  | int n =>
    refine rs_e (kk := fun d => if l.length < sizeLine ∧ 0 ≤ n ∧ n.toNat < 2 ^ 62 then .next (ρ.set i (some (.list (l.take n.toNat ++ [d] ++ l.drop n.toNat)))) else .bad) r1 q1 fun d v2 H2 ed s2 rv2 r2 q2 q3 => ?_
    by_cases hz : l.length < sizeLine ∧ 0 ≤ n ∧ n.toNat < 2 ^ 62
    · rw [if_pos hz] at q3
      have ra2 := ra.same (s.trans s2)
      obtain ⟨r3, ex⟩ := r2.put hi h hu na ((s.trans s2) _ _ hb) (((ra2.take n.toNat).snoc (rv2.s hg)).append (ra2.drop n.toNat))
      exact ⟨b, xs, n, v2, rfl, by rw [rv1.l.int_inv], (s.trans s2) _ _ hb, by rw [ra.length]; exact hz.1, hz.2.1, by have := hz.2.2; have := hz.2.1; omega, q3 _ _ N r3 ex⟩
    · rw [if_neg hz] at q3
      exact q3.elim
  | _ => exact q1.elim
/-- xs[a] = e -/
theorem ss_setix {i : Nat} {a e : ME} {x : Str} {u v : Expr} {px ps pos : Pos} (G : GoodS X k) (hN : X.N[i]? = some x) (h2 : visB X.env.scope x = true) (h3 : nmB x = true) (hi : i ∈ M) (hp : PlainIx u) (ha : SE X M a u) (he : SE X M e v) (hg : gr M e ≠ .loose)
    (hs : swapsWithSole [.Subscript (.Name x px) u ps] v pos.line X.env = pure false) (hw : swappedStores [.Subscript (.Name x px) u ps] v X.env = pure none)
    (has : ∀ w, assign (.Subscript (.Name x px) u ps) X.env w = (do
      let ov ← holding [w] (eval (.Name x px) X.env)
      let iv ← holding [w, ov] (eval u X.env)
      standAt ps
      holding [w, ov, iv] (setItem ov iv w)
      release [w, ov, iv] [])) : SS X M N0 H0 (.setix i a e) (.Assign [.Subscript (.Name x px) u ps] v pos) := fun W tk => by
  refine PS.imp (ps_asg (he W tk) (pg_sub (pv_of hN h2 h3) (ha W tk) set_list has) hs hw rfl) ?_
  rintro D σ H ⟨ρ, N, r, q⟩
  obtain ⟨l, h, q⟩ := slotL (kk := fun l => (denE e ρ).ot fun d => (denE a ρ >>= asInt).ot fun k => match ixN l.length k with
    | some j => .next (ρ.set i (some (.list (l.set j d))))
    | none => .bad) q
  obtain ⟨b, xs, hu, na, hb, ra⟩ := own_of r hi h
  refine rs_e (kk := fun d => (denE a ρ >>= asInt).ot fun k => match ixN l.length k with
    | some j => .next (ρ.set i (some (.list (l.set j d))))
    | none => .bad) r q fun d v1 H1 ed s rv1 r1 q0 q1 => ?_
  refine ⟨.ref b, hu, ?_⟩
  refine rs_e (kk := fun d1 => (asInt d1).ot fun k => match ixN l.length k with
    | some j => .next (ρ.set i (some (.list (l.set j d))))
    | none => .bad) r1 (asInt_ot q1) fun d1 v2 H2 ed s2 rv2 r2 q2 q3 => ?_
  cases d1 with
  | int n =>
    have q3 : PostS X.K M W N0 H0 N H2 D (match ixN l.length n with
      | some j => .next (ρ.set i (some (.list (l.set j d))))
      | none => .bad) := q3
    cases ej : ixN l.length n with
    | some j =>
      rw [ej] at q3
      obtain ⟨r3, ex⟩ := r2.put hi h hu na ((s.trans s2) _ _ hb) (RpAll.set ((rv1.s hg).same s2) j (ra.same (s.trans s2)))
      exact ⟨b, xs, n, j, rfl, rv2.l.int_inv, (s.trans s2) _ _ hb, by rw [ra.length]; exact ej, q3 _ _ N r3 ex⟩
    | none =>
      rw [ej] at q3
      exact q3.elim
  | _ => exact q3.elim
/-- e; -/
theorem ss_expr {e : ME} {v : Expr} {pos : Pos} (he : SE X M e v) (hs : swapsWith v none pos.line X.env = pure false) : SS X M N0 H0 (.expr e) (.Expr v pos) := fun W tk => by
  refine PS.imp (ps_expr (he W tk) hs) ?_
  rintro D σ H ⟨ρ, N, r, q⟩
  exact rs_e (kk := fun _ => .next ρ) r q fun d v1 H1 ed s rv1 r1 q0 q1 => q1 _ _ N r1 Ext.refl
/-- return -/
theorem ss_ret {chk : Bool} {e : ME} {v : Expr} {pos : Pos} (he : SE X M e v) (hc : chk = true ∨ gr M e = .fresh) : SS X M N0 H0 (.ret chk e) (.Return (some v) pos) := fun W tk => by
  refine PS.imp (ps_ret (he W tk)) ?_
  rintro D σ H ⟨ρ, N, r, q⟩
  refine rs_e (kk := fun d => if (chk && isL d) = true then .bad else .ret d) r q fun d v1 H1 ed s rv1 r1 q0 q1 => ?_
  by_cases hb : (chk && isL d) = true
  · rw [if_pos hb] at q1
    exact q1.elim
  · rw [if_neg hb] at q1
    have fin : Rp X.K H1 N v1 d → (∀ ds, d ≠ .list ds) → D.rt v1 H1 := fun rv hd => q1 _ _ r1.s (RpG.any (Rp.less (fun b _ => r.n0 b) _ _ rv) hd)
    by_cases hd : ∃ ds, d = .list ds
    · obtain ⟨ds, rfl⟩ := hd
      have hf : gr M e = .fresh := hc.resolve_left fun h => hb (by rw [h]; rfl)
      have out : ∀ a xs, v1 = .ref a → H0 a = none → H1 a = some (.lst xs) → RpAll X.K H1 (fun b => N0 b ∨ b = a) xs ds → D.rt v1 H1 := fun a xs e1 hn hx ra => by
        refine q1 _ _ r1.s ⟨?_, fun ds' e => ?_⟩
        · rw [e1]
          exact .lst (.inl ⟨fun z => r.ne0 a z hn, .inl hx⟩) (RpAll.less (fun b _ z => .inl z) _ _ ra)
        · injection e with e
          subst e
          exact ⟨a, xs, e1, hn, hx, ra⟩
      rw [hf] at rv1
      obtain ⟨a, xs, e1, hn, hx, ra⟩ := rv1.2 ds rfl
      exact out a xs e1 (r.s.free hn) hx (RpAll.less (fun b _ z => z.imp_left (r.n0 b)) _ _ ra)
    · have hd : ∀ ds, d ≠ .list ds := fun ds e => hd ⟨ds, e⟩
      exact fin (rv1.l.to hd) hd
/-- return an owned list -/
theorem ss_retO {chk : Bool} {i : Nat} {x : Str} {px pos : Pos} (hN : X.N[i]? = some x) (h2 : visB X.env.scope x = true) (h3 : nmB x = true) (hi : i ∈ M) (hx : i ∉ M.o.e) : SS X M N0 H0 (.ret chk (.var i)) (.Return (some (.Name x px)) pos) := fun W tk => by
  refine PS.imp (ps_ret (pv_of hN h2 h3)) ?_
  rintro D σ H ⟨ρ, N, r, q⟩
  have q : PostS X.K M W N0 H0 N H D ((slot ρ i).ot fun d => if (chk && isL d) = true then .bad else .ret d) := q
  cases es : slot ρ i with
  | ok d =>
    rw [es] at q
    have q : PostS X.K M W N0 H0 N H D (if (chk && isL d) = true then .bad else .ret d) := q
    by_cases hb : (chk && isL d) = true
    · rw [if_pos hb] at q
      exact q.elim
    · rw [if_neg hb] at q
      have ei := slot_ok es
      obtain ⟨u, hu, h1, _⟩ := r.r.sl i _ ei (r.r.noX hx ei)
      refine ⟨u, hu, q _ _ r.s ?_⟩
      have h1 := h1 hi
      cases d with
      | list ds =>
        obtain ⟨a, xs, rfl, na, ha, ra⟩ := h1
        have hn := r.ow i hi ds a ei hu
        refine ⟨.lst (.inl ⟨fun z => r.ne0 a z hn, .inl ha⟩) (RpAll.less (fun b _ z => r.n0 b z) _ _ ra), fun ds' e => ?_⟩
        injection e with e
        subst e
        exact ⟨a, xs, rfl, hn, ha, RpAll.less (fun b _ z => z.elim (r.n0 b) fun e => by rw [e]; exact na) _ _ ra⟩
      | _ => exact RpG.any (Rp.less (fun b _ => r.n0 b) _ _ h1) fun _ z => nomatch z
  | exc c => exact absurd es slot_noE
  | bad => rw [es] at q; exact q.elim
/-- raise C('m') -/
theorem ss_rai {c m : Str} {j : Nat} {p p2 p3 pos : Pos} (G : GoodS X k) (hx : HasEx X.K X.mg c) (hg : glB X.env.scope c = true) (hn : nmB c = true) : SS X M N0 H0 (.rai c m) (.Raise (some (.Call (.Name c p) [.Constant (.str m) j p2] [] p3)) none pos) := fun W tk => by
  obtain ⟨h1, h2⟩ := hx
  obtain ⟨e1, e2, e3, e4⟩ := He.exc_ok h1
  refine PS.imp (ps_raise G.calm tk (pmk_own PySem.F.excBase_ValueError e1 h2 e2 (raises_own e3 e4) (gl_of hg) (nm_of hn).1)) ?_
  rintro D σ H ⟨ρ, N, r, q⟩
  exact q σ H r.s
/-! ### blocks -/
theorem ss_nil : SSs X M N0 H0 .nil [] := fun W tk => by
  refine PSs.imp pss_nil ?_
  rintro D σ H ⟨ρ, N, r, q⟩
  exact q σ H N r Ext.refl
theorem ss_cons {s r : MS} {st : Stmt} {sts : List Stmt} (h1 : SS X M N0 H0 s st) (h2 : SSs X M N0 H0 r sts) : SSs X M N0 H0 (.cons s r) (st :: sts) := fun W tk => by
  refine PSs.imp (pss_cons (h1 W tk) (h2 W tk)) ?_
  rintro D σ H ⟨ρ, N, rs, q⟩
  refine ⟨ρ, N, rs, ?_⟩
  have q : PostS X.K M W N0 H0 N H D ((denS s ρ).bind (denS r)) := q
  cases e : denS s ρ with
  | next ρ' =>
    rw [e] at q
    exact fun σ' H' N' r' x => ⟨ρ', N', r', PostS.adv x q⟩
  | cont ρ' => rw [e] at q; exact q
  | ret d => rw [e] at q; exact q
  | exc c => rw [e] at q; exact q
  | bad => rw [e] at q; exact q
theorem ss_pas {pos : Pos} : SS X M N0 H0 .pas (.Pass pos) := fun W tk => by
  refine PS.imp ps_pass ?_
  rintro D σ H ⟨ρ, N, r, q⟩
  exact q σ H N r Ext.refl
theorem ss_cnt {pos : Pos} : SS X M N0 H0 .cnt (.Continue pos) := fun W tk => by
  refine PS.imp ps_continue ?_
  rintro D σ H ⟨ρ, N, r, q⟩
  exact q σ H N r Ext.refl
theorem ss_retN {pos : Pos} : SS X M N0 H0 .retN (.Return none pos) := fun W tk => by
  refine PS.imp ps_retN ?_
  rintro D σ H ⟨ρ, N, r, q⟩
  exact q _ _ r.s (RpG.any .non fun _ z => nomatch z)
theorem ss_ite {c : ME} {a b : MS} {v : Expr} {p q : List Stmt} {pos : Pos} (hc : ST X M c v) (ha : SSs X M N0 H0 a p) (hb : SSs X M N0 H0 b q) : SS X M N0 H0 (.ite c a b) (.If v p q pos) := fun W tk => by
  refine PS.imp (ps_if (hc W tk) (ha W tk) (hb W tk)) ?_
  rintro D σ H ⟨ρ, N, r, q⟩
  refine rs_t (kk := fun k => match k with
    | true => denS a ρ
    | false => denS b ρ) r q fun k H1 ek s r1 q1 => ?_
  cases k with
  | true => exact ⟨ρ, N, r1, q1⟩
  | false => exact ⟨ρ, N, r1, q1⟩
end
end Mn
/-! Mn, part P: loops; every statement does what it says. -/
namespace Mn
open PySem PySem.Spec PyProof.Rows L2
section
variable {X : Cx} {M : Ow} {N0 : Addr → Prop} {H0 : Hp} {k : Nat}
theorem gT_byS {N : Addr → Prop} {ρ ρ' : Env} {σ : L2.St} {H : Hp} {tg : List Nat} {tup : Bool} {v : V} {d : D} {Q : L2.St → Hp → Prop} (r : RelS X.K M N0 H0 N ρ σ H) (hM : ∀ i ∈ tg, i ∉ M) (k : Rp X.K H N v d) (hb : bindT tg tup d ρ = .ok ρ')
    (q : ∀ ws, RelS X.K M N0 H0 N ρ' (setS σ tg ws) H → Q (setS σ tg ws) H) : gT X.K tg tup v σ H Q := by
  cases tup with
  | false =>
    match tg, hb with
    | [i], hb =>
      obtain rfl := R.ok_inj hb
      exact q [v] (RelS.set r (hM i List.mem_cons_self) k)
  | true =>
    cases d with
    | tuple ds =>
      have hb : (if ds.length = tg.length then R.ok (setL ρ tg ds) else .bad) = .ok ρ' := hb
      by_cases hl : ds.length = tg.length
      · rw [if_pos hl] at hb
        obtain rfl := R.ok_inj hb
        obtain ⟨a, xs, e, sq, ra⟩ := k.tup_inv
        have hx : xs.length = tg.length := by rw [ra.length, hl]
        exact ⟨a, xs, e, sq, hx, gTs_by hx (q xs (RelS.setS r hM ra))⟩
      · rw [if_neg hl] at hb
        cases hb
    | _ => cases hb
theorem bindT_noE {tg : List Nat} {tup : Bool} {d : D} {ρ : Env} {c : Str} : bindT tg tup d ρ ≠ .exc c := by
  unfold bindT
  intro h
  repeat' split at h
  all_goals cases h
theorem ss_for {fg tg : List Nat} {tup : Bool} {it : ME} {body : MS} {t v : Expr} {p : List Stmt} {pos : Pos} (G : GoodS X k) (hg : PG X t (gT X.K tg tup)) (hM : ∀ j ∈ tg, j ∉ M) (hi : SI X M it t v) (hst : stI M it = true) (hb : SSs X M N0 H0 body p) (hs : ∀ x, foldedSetIterable v X.env x = pure x) :
    SS X M N0 H0 (.forS fg tg tup it body) (.For t v p [] pos) := fun W tk => by
  have hi := hi W tk
  rw [hst] at hi
  refine PS.imp (ps_for G.own G.calm hi hg (hb W tk) hs) ?_
  rintro D σ H ⟨ρ, N, r, q⟩
  refine ⟨ρ, N, r.r, ?_⟩
  have q : PostS X.K M W N0 H0 N H D ((denI it ρ).ot fun ds => forO fg tg tup (denS body) ds ρ) := q
  cases ei : denI it ρ with
  | ok ds =>
    rw [ei] at q
    intro J H1 s1 ok1
    refine ⟨fun i m σ H' => m = ds.length - i ∧ i ≤ ds.length ∧ ∃ ρ N', RelS X.K M N0 H0 N' ρ σ H' ∧ Ext N H1 N' H' ∧ PostS X.K M W N0 H0 N' H' D (forO fg tg tup (denS body) (ds.drop i) ρ), ⟨ds.length, rfl, Nat.zero_le _, ρ, N, r.same s1, Ext.refl, PostS.adv (Ext.of_same s1) q⟩, ?_⟩
    rintro i m σ H' ⟨rfl, hle, ρ, N', r', x', q'⟩
    obtain ⟨go, stop⟩ := ok1 H' N' x' (fun z => nomatch z)
    by_cases hlt : i < ds.length
    · obtain ⟨gon, yld⟩ := go i ds[i] (List.getElem?_eq_getElem hlt)
      rw [List.drop_eq_getElem_cons hlt] at q'
      have q' : PostS X.K M W N0 H0 N' H' D ((bindT tg tup ds[i] (wipeE ρ fg)).ot fun ρ' => match denS body ρ' with
        | .next ρ'' => forO fg tg tup (denS body) (ds.drop (i + 1)) ρ''
        | .cont ρ'' => forO fg tg tup (denS body) (ds.drop (i + 1)) ρ''
        | o => o) := q'
      cases eb : bindT tg tup ds[i] (wipeE ρ fg) with
      | ok ρ' =>
        rw [eb] at q'
        have q' : PostS X.K M W N0 H0 N' H' D (match denS body ρ' with
          | .next ρ'' => forO fg tg tup (denS body) (ds.drop (i + 1)) ρ''
          | .cont ρ'' => forO fg tg tup (denS body) (ds.drop (i + 1)) ρ''
          | o => o) := q'
        refine .inr ⟨gon, fun σ' H'' => ∃ ρ'' N'', RelS X.K M N0 H0 N'' ρ'' σ' H'' ∧ Ext N H1 N'' H'' ∧ PostS X.K M W N0 H0 N'' H'' D (forO fg tg tup (denS body) (ds.drop (i + 1)) ρ''), fun σ' H'' w => ⟨ds.length - (i + 1), by omega, rfl, hlt, w⟩, ?_⟩
        intro y H2 hy
        obtain ⟨s2, ry⟩ := yld y H2 hy
        refine gT_byS ((r'.same s2).wipe fg) hM ry eb fun ws r2 => ?_
        refine ⟨ρ', N', r2, ?_⟩
        have q' := PostS.adv (Ext.of_same s2) q'
        cases ed : denS body ρ' with
        | next ρ'' =>
          rw [ed] at q'
          exact fun σ' H3 N'' r3 x3 => ⟨ρ'', N'', r3, x'.trans ((Ext.of_same s2).trans x3), PostS.adv x3 q'⟩
        | cont ρ'' =>
          rw [ed] at q'
          exact fun σ' H3 N'' r3 x3 => ⟨ρ'', N'', r3, x'.trans ((Ext.of_same s2).trans x3), PostS.adv x3 q'⟩
        | ret d => rw [ed] at q'; exact q'
        | exc c => rw [ed] at q'; exact q'
        | bad => rw [ed] at q'; exact q'
      | exc c => exact absurd eb bindT_noE
      | bad =>
        rw [eb] at q'
        exact q'.elim
    · have hn : i = ds.length := by omega
      subst hn
      rw [List.drop_length] at q'
      have q' : PostS X.K M W N0 H0 N' H' D (.next (wipeE ρ fg)) := q'
      exact .inl ⟨stop, q' _ _ N' (r'.wipe fg) Ext.refl⟩
  | exc c =>
    rw [ei] at q
    exact fun H' s => q σ H' (r.s.trans s)
  | bad =>
    rw [ei] at q
    exact q.elim
theorem ss_whl {fg : List Nat} {fuel : Env → Nat} {c : ME} {body : MS} {v : Expr} {p : List Stmt} {pos : Pos} (G : GoodS X k) (hc : ST X M c v) (hb : SSs X M N0 H0 body p) : SS X M N0 H0 (.whl fg fuel c body) (.While v p [] pos) := fun W tk => by
  refine PS.imp (ps_while G.own (hc W tk) (hb W tk)) ?_
  rintro D σ H ⟨ρ, N, r, q⟩
  refine ⟨fun m σ H' => ∃ ρ N', RelS X.K M N0 H0 N' ρ σ H' ∧ PostS X.K M W N0 H0 N' H' D (whlO fg (fun ρ => denE c ρ >>= asBool) (denS body) m ρ), ⟨fuel ρ, ρ, N, r, q⟩, ?_⟩
  rintro m σ H' ⟨ρ, N', r', q'⟩
  cases m with
  | zero => exact q'.elim
  | succ n =>
    refine rs_t (kk := fun b => match b with
      | true => (match denS body (wipeE ρ fg) with
        | .next ρ' => whlO fg (fun ρ => denE c ρ >>= asBool) (denS body) n ρ'
        | .cont ρ' => whlO fg (fun ρ => denE c ρ >>= asBool) (denS body) n ρ'
        | o => o)
      | false => .next (wipeE ρ fg)) (r'.wipe fg) q' fun b H1 eb s r1 q1 => ?_
    cases b with
    | false => exact q1 _ _ N' r1 Ext.refl
    | true =>
      have q1 : PostS X.K M W N0 H0 N' H1 D (match denS body (wipeE ρ fg) with
        | .next ρ' => whlO fg (fun ρ => denE c ρ >>= asBool) (denS body) n ρ'
        | .cont ρ' => whlO fg (fun ρ => denE c ρ >>= asBool) (denS body) n ρ'
        | o => o) := q1
      rw [if_pos rfl]
      refine ⟨fun σ' H'' => ∃ ρ N', RelS X.K M N0 H0 N' ρ σ' H'' ∧ PostS X.K M W N0 H0 N' H'' D (whlO fg (fun ρ => denE c ρ >>= asBool) (denS body) n ρ), fun σ' H'' w => ⟨n, Nat.lt_succ_self _, w⟩, wipeE ρ fg, N', r1, ?_⟩
      cases ed : denS body (wipeE ρ fg) with
      | next ρ'' =>
        rw [ed] at q1
        exact fun σ' H3 N'' r3 x3 => ⟨ρ'', N'', r3, PostS.adv x3 q1⟩
      | cont ρ'' =>
        rw [ed] at q1
        exact fun σ' H3 N'' r3 x3 => ⟨ρ'', N'', r3, PostS.adv x3 q1⟩
      | ret d => rw [ed] at q1; exact q1
      | exc c => rw [ed] at q1; exact q1
      | bad => rw [ed] at q1; exact q1
/-! ### name = [..] -/
variable (hM0 : M.x = none)
include hM0
theorem sAsg {i : Nat} {e : ME} {x : Str} {v : Expr} {px pos : Pos} (G : GoodS X k) (hN : X.N[i]? = some x) (hl : locT X.env.scope x = true) (hv : isE M X.N e X.env.scope v = true) (o : OkX X k e) (hg : if i ∈ M then gr M e = .fresh else gr M e ≠ .loose) :
    SS X M N0 H0 (.asg i e) (.Assign [.Name x px] v pos) := by
  have base := fun hs => ss_asg (M := M) (N0 := N0) (H0 := H0) (px := px) (pos := pos) G.nd G.fn hN hl (sE hM0 e X k v G.toGood hv o).1 hg hs
  cases v with
  | ListComp el gens scope p =>
    cases e with
    | comp own tg tup it cond elt =>
      match gens, hv with
      | [⟨t, j, ifs, 0⟩], h =>
        have h1 := and3 h
        have h2 := and3 h1.1
        have h3 := and3 h2.1
        have h4 := and3 h3.1
        have h5 := and3 h4.1
        have h6 := and3 h5.1
        have h7 := and3 h6.1
        have h8 := and3 h7.1
        have ok := blkOk_by h8.1
        have htg : ∀ j ∈ tg, j ∈ own.map (·.2) := fun j hj => of_decide_eq_true (List.all_eq_true.mp h8.2 j hj)
        have hM : ∀ j ∈ tg, j ∉ M := fun j hj => of_decide_eq_true (List.all_eq_true.mp h7.2 j hj)
        have GB : ∀ (s : Shared) (H : Hp) (C : Addr) (cl : List (Str × Addr)) (fp : List Addr), Good (X.blk s H scope (compEnvC scope cl C X.env) fp) k := fun s H C cl fp => ⟨G.calm, G.room, ok.kind, G.nd, G.bi⟩
        cases hb : (X.env.blockKind == .function && X.env.kindOf x == some .local && px.line == (Expr.ListComp el [⟨t, j, ifs, 0⟩] scope p).pos.line && !(scope.names.any fun (n, k) => n == x && (k == .local || k == .cell))) with
        | false => exact base (by show pure (X.env.blockKind == .function && X.env.kindOf x == some .local && px.line == (Expr.ListComp el [⟨t, j, ifs, 0⟩] scope p).pos.line && !(scope.names.any fun (n, k) => n == x && (k == .local || k == .cell))) = _; rw [hb])
        | true =>
          intro W tk
          have hloc : X.env.scope.names.lookup x = some .local := by
            have z := and3 (and3 (and3 hb).1).1
            exact eq_of_beq z.2
          refine PS.imp (s_setLc G.toGood h8.1 htg hM (fun s H C cl fp => pg_of (X := X.blk s H scope (compEnvC scope cl C X.env) fp) G.calm G.nd h5.2) (sI hM0 it X k t j G.toGood h4.2 o.1)
            (fun s H C cl fp => sC hM0 cond (X.blk s H scope (compEnvC scope cl C X.env) fp) k ifs (GB s H C cl fp) h3.2 o.2.1)
            (fun s H C cl fp => (sE hM0 elt (X.blk s H scope (compEnvC scope cl C X.env) fp) k el (GB s H C cl fp) h2.2 o.2.2).1) (of_decide_eq_true h1.2) (folded_of h4.2) tk hN hloc ?_) (rd_asg hg)
          show pure (X.env.blockKind == .function && X.env.kindOf x == some .local && px.line == (Expr.ListComp el [⟨t, j, ifs, 0⟩] scope p).pos.line && !(scope.names.any fun (n, k) => n == x && (k == .local || k == .cell))) = _
          rw [hb]
    | _ => cases hv
  | SetComp _ _ _ _ => cases e <;> cases hv
  | DictComp _ _ _ _ _ => cases e <;> cases hv
  | _ => exact base rfl
end
end Mn
/-! Mn, part O2: statements that hand lists on: return of a pair, a move, a loop over a list given up, pop. -/
namespace Mn
open PySem PySem.Spec PyProof.Rows L2
section
variable {X : Cx} {M : Ow} {N0 : Addr → Prop} {H0 : Hp} {k : Nat}
/-- a term at the end of the frame: what it owned is given away -/
def tOut (K : PySem.W.Frag) (M : Ow) (W : WX) (N0 : Addr → Prop) (H0 : Hp) (f : Env → R D) : TE := fun σ H Q => ∃ ρ N, RelS K M N0 H0 N ρ σ H ∧ match f ρ with
  | .ok d => ∀ v H', Same H H' → Rp K H' N0 v d → Q v H'
  | .exc c => ∀ H', Same H H' → W (.ref (He.ga K c)) none σ H'
  | .bad => False
theorem out_strict {e : ME} {v : Expr} {W : WX} (he : SE X M e v) (tk : Takes X W) (hg : gr M e ≠ .loose) : PE X v (tOut X.K M W N0 H0 (denE e)) := PE.imp (he W tk) (by
  rintro σ H Q ⟨ρ, N, r, q⟩
  refine ⟨ρ, N, r.r, ?_⟩
  cases ee : denE e ρ with
  | ok d =>
    rw [ee] at q
    exact fun v H' s rv => q v H' s (Rp.less (fun b _ => r.n0 b) _ _ (rv.s hg))
  | exc c => rw [ee] at q; exact q
  | bad => rw [ee] at q; exact q)
theorem out_var {i : Nat} {x : Str} {px : Pos} {W : WX} (hN : X.N[i]? = some x) (h2 : visB X.env.scope x = true) (h3 : nmB x = true) (hx : i ∉ M.o.e) : PE X (.Name x px) (tOut X.K M W N0 H0 (denE (.var i))) := PE.imp (pv_of hN h2 h3) (by
  rintro σ H Q ⟨ρ, N, r, q⟩
  have q : (match slot ρ i with
    | .ok d => ∀ v H', Same H H' → Rp X.K H' N0 v d → Q v H'
    | .exc c => ∀ H', Same H H' → W (.ref (He.ga X.K c)) none σ H'
    | .bad => False) := q
  cases es : slot ρ i with
  | ok d =>
    rw [es] at q
    have ei := slot_ok es
    obtain ⟨u, hu, h1, h1'⟩ := r.r.sl i _ ei (r.r.noX hx ei)
    refine ⟨u, hu, q _ _ (Same.refl _) ?_⟩
    by_cases hi : i ∈ M
    · have h1 := h1 hi
      cases d with
      | list ds =>
        obtain ⟨a, xs, rfl, na, ha, ra⟩ := h1
        have hn := r.ow i hi ds a ei hu
        exact .lst (.inl ⟨fun z => r.ne0 a z hn, .inl ha⟩) (RpAll.less (fun b _ z => r.n0 b z) _ _ ra)
      | _ => exact Rp.less (fun b _ => r.n0 b) _ _ h1
    · exact Rp.less (fun b _ => r.n0 b) _ _ (h1' hi)
  | exc c => exact absurd es slot_noE
  | bad => rw [es] at q; exact q.elim)
theorem ss_ret2 {a b : ME} {v w : Expr} {j : Nat} {p pos : Pos} (ha : ∀ W, Takes X W → PE X v (tOut X.K M W N0 H0 (denE a))) (hb : ∀ W, Takes X W → PE X w (tOut X.K M W N0 H0 (denE b))) (hs : starEach [v, w] X.env = (false, eval v X.env) :: starEach [w] X.env) (hs2 : starEach [w] X.env = (false, eval w X.env) :: starEach [] X.env) :
    SS X M N0 H0 (.ret2 a b) (.Return (some (.Tuple [v, w] j p)) pos) := fun W tk => by
  refine PS.imp (ps_ret (pe_tup (pa_cons (ha W tk) (pa_cons (hb W tk) pa_nil hs2) hs))) ?_
  rintro D σ H ⟨ρ, N, r, q⟩
  refine ⟨ρ, N, r, ?_⟩
  have q : PostS X.K M W N0 H0 N H D ((denE a ρ).ot fun x => (denE b ρ).ot fun y => .ret (.tuple [x, y])) := q
  cases ea : denE a ρ with
  | ok x =>
    rw [ea] at q
    have q : PostS X.K M W N0 H0 N H D ((denE b ρ).ot fun y => .ret (.tuple [x, y])) := q
    intro v1 H1 s1 k1
    refine ⟨ρ, N, r.same s1, ?_⟩
    cases eb : denE b ρ with
    | ok y =>
      rw [eb] at q
      intro v2 H2 s2 k2
      refine ⟨by show 2 ≤ 2 ^ 24; decide, fun t ht => q _ _ ((r.s.trans (s1.trans s2)).trans (same_upd ht)) (RpG.any (.tup (.inl (.inl upd_same)) (.cons ((k1.same s2).same (same_upd ht)) (.cons (k2.same (same_upd ht)) .nil))) fun _ z => nomatch z)⟩
    | exc c =>
      rw [eb] at q
      exact fun H' s => q σ H' (r.s.trans (s1.trans s))
    | bad => rw [eb] at q; exact q.elim
  | exc c =>
    rw [ea] at q
    exact fun H' s => q σ H' (r.s.trans s)
  | bad => rw [ea] at q; exact q.elim
/-- an owned list changes its name -/
theorem RelS.move {i j : Nat} {K : PySem.W.Frag} {N : Addr → Prop} {ρ : Env} {σ : L2.St} {H : Hp} {l : List D} {a : Addr} (r : RelS K M N0 H0 N ρ σ H) (hi : i ∈ M) (hj : j ∈ M) (hij : i ≠ j) (h : ρ[j]? = some (some (.list l))) (hs : σ[j]? = some (some (.ref a))) :
    RelS K M N0 H0 N ((ρ.set i (some (.list l))).set j none) (σ.set i (some (.ref a))) H := by
  have out : ∀ {m : Nat} {d : D}, ((ρ.set i (some (.list l))).set j none)[m]? = some (some d) → (m = i ∧ d = .list l ∧ i < ρ.length) ∨ (m ≠ i ∧ m ≠ j ∧ ρ[m]? = some (some d)) := fun {m d} hm => by
    rcases setO_get hm with ⟨_, e, _⟩ | ⟨hmj, hm⟩
    · cases e
    · rcases setO_get hm with ⟨rfl, e, hl⟩ | ⟨hmi, hm⟩
      · cases e
        exact .inl ⟨rfl, rfl, hl⟩
      · exact .inr ⟨hmi, hmj, hm⟩
  obtain ⟨u, hu, h1, _⟩ := r.r.sl j _ h rfl
  have h1 := h1 hj
  rw [hs] at hu
  cases hu
  refine ⟨⟨r.r.ne, by rw [List.length_set, List.length_set, List.length_set, r.r.len], fun m d hm hX => ?_, fun m d hm hX => ?_⟩, r.s, r.n0, r.nw, r.ne0, fun m hm ds b e1 e2 => ?_, fun m hm n hn ds es b hne e1 e2 e3 e4 => ?_⟩
  · rcases out hm with ⟨rfl, rfl, hl⟩ | ⟨hmi, hmj, hm⟩
    · exact ⟨.ref a, by rw [List.getElem?_set_self (by rw [← r.r.len]; exact hl)], fun _ => h1, fun z => absurd hi z⟩
    · obtain ⟨u, e1, g1, g2⟩ := r.r.sl m d hm hX
      exact ⟨u, by rw [setS_ne hmi]; exact e1, g1, g2⟩
  · rcases out hm with ⟨rfl, rfl, hl⟩ | ⟨hmi, hmj, hm⟩
    · cases hX
    · rw [setS_ne hmi]
      exact r.r.sx m d hm hX
  · rcases out e1 with ⟨rfl, e, hl⟩ | ⟨hmi, hmj, e1⟩
    · rw [List.getElem?_set_self (by rw [← r.r.len]; exact hl)] at e2
      cases e2
      exact r.ow j hj l a h hs
    · rw [setS_ne hmi] at e2
      exact r.ow m hm ds b e1 e2
  · rcases out e1 with ⟨rfl, e, hl⟩ | ⟨hmi, hmj, g1⟩
    · rw [List.getElem?_set_self (by rw [← r.r.len]; exact hl)] at e3
      cases e3
      rcases out e2 with ⟨rfl, e, _⟩ | ⟨hni, hnj, g2⟩
      · exact hne rfl
      · rw [setS_ne hni] at e4
        exact r.inj n hn j hj es l a hnj g2 h e4 hs
    · rw [setS_ne hmi] at e3
      rcases out e2 with ⟨rfl, e, hl⟩ | ⟨hni, hnj, g2⟩
      · rw [List.getElem?_set_self (by rw [← r.r.len]; exact hl)] at e4
        cases e4
        exact r.inj m hm j hj ds l a hmj g1 h e3 hs
      · rw [setS_ne hni] at e4
        exact r.inj m hm n hn ds es b hne g1 g2 e3 e4
theorem ss_mov {i j : Nat} {x y : Str} {px py pos : Pos} (G : GoodS X k) (hN : X.N[i]? = some x) (hl : locT X.env.scope x = true) (hN' : X.N[j]? = some y) (h2 : visB X.env.scope y = true) (h3 : nmB y = true) (hi : i ∈ M) (hj : j ∈ M) (hij : i ≠ j) :
    SS X M N0 H0 (.mov i j) (.Assign [.Name x px] (.Name y py) pos) := fun W tk => by
  refine PS.imp (ps_set G.nd hN (locT_of hl) (pv_of hN' h2 h3) rfl (.inl (G.fn x))) ?_
  rintro D σ H ⟨ρ, N, r, q⟩
  obtain ⟨l, h, q⟩ := slotL (kk := fun l => .next ((ρ.set i (some (.list l))).set j none)) q
  obtain ⟨a, xs, hu, na, ha, ra⟩ := own_of r hj h
  exact ⟨.ref a, hu, q _ _ N (r.move hi hj hij h hu) Ext.refl⟩
/-- the turns of a loop -/
theorem for_go {fg tg : List Nat} {tup : Bool} {body : MS} {p : List Stmt} {W : WX} {Z : Ends} {ds : List D} {J : It} {ρ : Env} {N : Addr → Prop} {σ : L2.St} {H1 : Hp} (hM : ∀ j ∈ tg, j ∉ M) (r : RelS X.K M N0 H0 N ρ σ H1) (ok1 : ItOk true X.K N J ds H1)
    (q : PostS X.K M W N0 H0 N H1 Z (forO fg tg tup (denS body) ds ρ)) : ∃ V : Nat → Nat → L2.St → Hp → Prop, (∃ m, V 0 m σ H1) ∧ ∀ i m σ H, V i m σ H →
      (J.stop i H ∧ Z.nx σ H) ∨ (J.go i H ∧ ∃ Nx : L2.St → Hp → Prop, (∀ σ' H', Nx σ' H' → ∃ m', m' < m ∧ V (i + 1) m' σ' H') ∧ ∀ x H', J.yld i H x H' → gT X.K tg tup x σ H' fun σ2 H2 => tS X.K M W N0 H0 (denS body) { Z with nx := Nx, ct := Nx, bk := Z.nx } σ2 H2) := by
  refine ⟨fun i m σ H' => m = ds.length - i ∧ i ≤ ds.length ∧ ∃ ρ N', RelS X.K M N0 H0 N' ρ σ H' ∧ Ext N H1 N' H' ∧ PostS X.K M W N0 H0 N' H' Z (forO fg tg tup (denS body) (ds.drop i) ρ), ⟨ds.length, rfl, Nat.zero_le _, ρ, N, r, Ext.refl, q⟩, ?_⟩
  rintro i m σ H' ⟨rfl, hle, ρ, N', r', x', q'⟩
  obtain ⟨go, stop⟩ := ok1 H' N' x' (fun z => nomatch z)
  by_cases hlt : i < ds.length
  · obtain ⟨gon, yld⟩ := go i ds[i] (List.getElem?_eq_getElem hlt)
    rw [List.drop_eq_getElem_cons hlt] at q'
    have q' : PostS X.K M W N0 H0 N' H' Z ((bindT tg tup ds[i] (wipeE ρ fg)).ot fun ρ' => match denS body ρ' with
      | .next ρ'' => forO fg tg tup (denS body) (ds.drop (i + 1)) ρ''
      | .cont ρ'' => forO fg tg tup (denS body) (ds.drop (i + 1)) ρ''
      | o => o) := q'
    cases eb : bindT tg tup ds[i] (wipeE ρ fg) with
    | ok ρ' =>
      rw [eb] at q'
      have q' : PostS X.K M W N0 H0 N' H' Z (match denS body ρ' with
        | .next ρ'' => forO fg tg tup (denS body) (ds.drop (i + 1)) ρ''
        | .cont ρ'' => forO fg tg tup (denS body) (ds.drop (i + 1)) ρ''
        | o => o) := q'
      refine .inr ⟨gon, fun σ' H'' => ∃ ρ'' N'', RelS X.K M N0 H0 N'' ρ'' σ' H'' ∧ Ext N H1 N'' H'' ∧ PostS X.K M W N0 H0 N'' H'' Z (forO fg tg tup (denS body) (ds.drop (i + 1)) ρ''), fun σ' H'' w => ⟨ds.length - (i + 1), by omega, rfl, hlt, w⟩, ?_⟩
      intro y H2 hy
      obtain ⟨s2, ry⟩ := yld y H2 hy
      refine gT_byS ((r'.same s2).wipe fg) hM ry eb fun ws r2 => ?_
      refine ⟨ρ', N', r2, ?_⟩
      have q' := PostS.adv (Ext.of_same s2) q'
      cases ed : denS body ρ' with
      | next ρ'' =>
        rw [ed] at q'
        exact fun σ' H3 N'' r3 x3 => ⟨ρ'', N'', r3, x'.trans ((Ext.of_same s2).trans x3), PostS.adv x3 q'⟩
      | cont ρ'' =>
        rw [ed] at q'
        exact fun σ' H3 N'' r3 x3 => ⟨ρ'', N'', r3, x'.trans ((Ext.of_same s2).trans x3), PostS.adv x3 q'⟩
      | ret d => rw [ed] at q'; exact q'
      | exc c => rw [ed] at q'; exact q'
      | bad => rw [ed] at q'; exact q'
    | exc c => exact absurd eb bindT_noE
    | bad =>
      rw [eb] at q'
      exact q'.elim
  · have hn : i = ds.length := by omega
    subst hn
    rw [List.drop_length] at q'
    have q' : PostS X.K M W N0 H0 N' H' Z (.next (wipeE ρ fg)) := q'
    exact .inl ⟨stop, q' _ _ N' (r'.wipe fg) Ext.refl⟩
theorem ss_forL {i : Nat} {fg tg : List Nat} {tup : Bool} {body : MS} {t : Expr} {x : Str} {px : Pos} {p : List Stmt} {pos : Pos} (G : GoodS X k) (hN : X.N[i]? = some x) (h2 : visB X.env.scope x = true) (h3 : nmB x = true) (hi : i ∈ M) (hg : PG X t (gT X.K tg tup)) (hM : ∀ j ∈ tg, j ∉ M) (hb : SSs X M N0 H0 body p) :
    SS X M N0 H0 (.forL i fg tg tup body) (.For t (.Name x px) p [] pos) := fun W tk => by
  refine PS.imp (ps_for G.own G.calm (pi_list (pv_of hN h2 h3)) hg (hb W tk)) ?_
  rintro D σ H ⟨ρ, N, r, q⟩
  obtain ⟨l, h, q⟩ := slotL (kk := fun l => forO fg tg tup (denS body) l (ρ.set i none)) q
  obtain ⟨a, xs, hu, na, ha, ra⟩ := own_of r hi h
  obtain ⟨N', r1, ex1, rv, keep, less⟩ := r.let_ hi h hu ha ra
  refine ⟨.ref a, hu, a, rfl, ⟨xs, .inl (.inl ha)⟩, ?_⟩
  exact for_go (p := p) hM r1 (it_list (g := .strict) (H0 := H) rv r1.r.ne) (PostS.adv ex1 q)
/-! ### pop -/
theorem popO_inv {l : List D} {n : Int} {kk : D → List D → Ot} {K : PySem.W.Frag} {W : WX} {N : Addr → Prop} {H : Hp} {Z : Ends} (q : PostS K M W N0 H0 N H Z (popO l n kk)) : ∃ j d, ixN l.length n = some j ∧ l[j]? = some d ∧ small62 n = true ∧ PostS K M W N0 H0 N H Z (kk d (l.eraseIdx j)) := by
  unfold popO at q
  split at q
  · rename_i j hj
    split at q
    · rename_i d hd
      split at q
      · rename_i hs
        exact ⟨j, d, hj, hd, hs, q⟩
      · exact q.elim
    · exact q.elim
  · exact q.elim
theorem sm63 {i : Int} (h : small62 i = true) : -(2 ^ 63) ≤ i ∧ i < 2 ^ 63 := by
  have := sm62 h
  omega
theorem rd_pop {i : Nat} {e : ME} {W : WX} {σ : L2.St} {H : Hp} {Z : Ends} {ρ : Env} {N : Addr → Prop} {kk : D → List D → Ot} {Q : VK} (hi : i ∈ M) (r : RelS X.K M N0 H0 N ρ σ H) {l : List D} (h : ρ[i]? = some (some (.list l)))
    (q : PostS X.K M W N0 H0 N H Z ((denE e ρ >>= asInt).ot fun n => popO l n kk))
    (hq : ∀ (v : V) (d : D) (l' : List D) (H1 : Hp), Ext N H N H1 → Rp X.K H1 N v d → RelS X.K M N0 H0 N (ρ.set i (some (.list l'))) σ H1 → PostS X.K M W N0 H0 N H1 Z (kk d l') → Q v H1) :
    tBM X.K "list" rPopAt (tVar i) (tCons (tE (gr M e) X.K M W (denE e)) tNil) σ H Q := by
  obtain ⟨a, xs, hu, na, ha, ra⟩ := own_of r hi h
  refine ⟨.ref a, hu, .inl ⟨rfl, xs, .inl (.inl ha)⟩, ?_⟩
  refine rs_e (kk := fun d => (asInt d).ot fun n => popO l n kk) r (asInt_ot q) fun d v1 H1 ed s rv1 r1 q0 q1 => ?_
  cases d with
  | int n =>
    obtain ⟨j, d, hj, hd, hs, q2⟩ := popO_inv q1
    obtain ⟨y, hy, ry⟩ := (ra.same s).get hd
    obtain ⟨r2, ex⟩ := r1.put hi h hu na (s _ _ ha) (RpAll.eraseIdx j (ra.same s))
    obtain ⟨b1, b2⟩ := sm63 hs
    exact ⟨a, xs, n, j, y, rfl, by rw [rv1.l.int_inv], s _ _ ha, b1, b2, by rw [ra.length]; exact (ixN_seq hj).1, hy, hq y d _ _ ((Ext.of_same s).trans ex) (Rp.ext ex _ _ ry) r2 (PostS.adv ex q2)⟩
  | _ => exact q1.elim
theorem pe_pop {i : Nat} {e : ME} {y : Str} {v : Expr} {py ap cp : Pos} {W : WX} (tk : Takes X W) (hN : X.N[i]? = some y) (h2 : visB X.env.scope y = true) (h3 : nmB y = true) (hl : ap.endLine = cp.line) (he : SE X M e v) (hs : starEach [v] X.env = (false, eval v X.env) :: starEach [] X.env) :
    PE X (.Call (.Attribute (.Name y py) "pop" ap) [v] [] cp) (tBM X.K "list" rPopAt (tVar i) (tCons (tE (gr M e) X.K M W (denE e)) tNil)) :=
  pe_bm PySem.F.plainAttrs_list PySem.F.slot_list_pop PySem.F.type_list_pop mt_popAt (pv_of hN h2 h3) (pa_cons (he W tk) pa_nil hs) rfl (few1 hs) (by rw [hl]; exact beq_self_eq_true _) hs rfl
theorem ss_popE {i : Nat} {e : ME} {y : Str} {v : Expr} {py ap cp pos : Pos} (hN : X.N[i]? = some y) (h2 : visB X.env.scope y = true) (h3 : nmB y = true) (hl : ap.endLine = cp.line) (hi : i ∈ M) (he : SE X M e v) (hs : starEach [v] X.env = (false, eval v X.env) :: starEach [] X.env) :
    SS X M N0 H0 (.popE i e) (.Expr (.Call (.Attribute (.Name y py) "pop" ap) [v] [] cp) pos) := fun W tk => by
  refine PS.imp (ps_expr (pe_pop tk hN h2 h3 hl he hs)) ?_
  rintro D σ H ⟨ρ, N, r, q⟩
  obtain ⟨l, h, q⟩ := slotL (kk := fun l => (denE e ρ >>= asInt).ot fun n => popO l n fun _ l' => .next (ρ.set i (some (.list l')))) q
  exact rd_pop hi r h q fun v d l' H1 ex rv r2 q2 => q2 _ _ N r2 Ext.refl
theorem ss_popA {j i : Nat} {e : ME} {x y : Str} {v : Expr} {px py ap cp pos : Pos} (G : GoodS X k) (hx : X.N[j]? = some x) (hlx : locT X.env.scope x = true) (hj : j ∉ M) (hN : X.N[i]? = some y) (h2 : visB X.env.scope y = true) (h3 : nmB y = true) (hl : ap.endLine = cp.line) (hi : i ∈ M) (he : SE X M e v) (hs : starEach [v] X.env = (false, eval v X.env) :: starEach [] X.env) :
    SS X M N0 H0 (.popA j i e) (.Assign [.Name x px] (.Call (.Attribute (.Name y py) "pop" ap) [v] [] cp) pos) := fun W tk => by
  refine PS.imp (ps_set G.nd hx (locT_of hlx) (pe_pop tk hN h2 h3 hl he hs) rfl (.inl (G.fn x))) ?_
  rintro D σ H ⟨ρ, N, r, q⟩
  obtain ⟨l, h, q⟩ := slotL (kk := fun l => (denE e ρ >>= asInt).ot fun n => popO l n fun d l' => .next ((ρ.set i (some (.list l'))).set j (some d))) q
  exact rd_pop hi r h q fun v d l' H1 ex rv r2 q2 => q2 _ _ N (r2.set hj rv) Ext.refl
theorem ss_appPop {j i : Nat} {e : ME} {x y : Str} {v : Expr} {px py bp dp ap cp pos : Pos} (G : GoodS X k) (hx : X.N[j]? = some x) (k2 : visB X.env.scope x = true) (k3 : nmB x = true) (hj : j ∈ M) (hlb : bp.endLine = dp.line) (hN : X.N[i]? = some y) (h2 : visB X.env.scope y = true) (h3 : nmB y = true) (hl : ap.endLine = cp.line) (hi : i ∈ M) (he : SE X M e v) (hji : j ≠ i) (hs : starEach [v] X.env = (false, eval v X.env) :: starEach [] X.env) :
    SS X M N0 H0 (.appPop j i e) (.Expr (.Call (.Attribute (.Name x px) "append" bp) [.Call (.Attribute (.Name y py) "pop" ap) [v] [] cp] [] dp) pos) := fun W tk => by
  refine PS.imp (ps_expr (pe_bm PySem.F.plainAttrs_list PySem.F.slot_list_append PySem.F.type_list_append mt_append (pv_of hx k2 k3) (pa_cons (pe_pop tk hN h2 h3 hl he hs) pa_nil rfl) rfl (few1 rfl) (by rw [hlb]; exact beq_self_eq_true _) rfl rfl)) ?_
  rintro D σ H ⟨ρ, N, r, q⟩
  obtain ⟨m, hm, q⟩ := slotL (kk := fun m => (slot ρ i >>= asList).ot fun l => (denE e ρ >>= asInt).ot fun n => popO l n fun d l' => if m.length < sizeLine then .next ((ρ.set i (some (.list l'))).set j (some (.list (m ++ [d])))) else .bad) q
  obtain ⟨l, h, q⟩ := slotL (kk := fun l => (denE e ρ >>= asInt).ot fun n => popO l n fun d l' => if m.length < sizeLine then .next ((ρ.set i (some (.list l'))).set j (some (.list (m ++ [d])))) else .bad) q
  obtain ⟨a, xs, hu, na, ha, ra⟩ := own_of r hj hm
  refine ⟨.ref a, hu, .inl ⟨rfl, xs, .inl (.inl ha)⟩, ?_⟩
  refine rd_pop hi r h q fun v1 d l' H1 ex rv r2 q2 => ?_
  by_cases hz : m.length < sizeLine
  · rw [if_pos hz] at q2
    have hm' : (ρ.set i (some (.list l')))[j]? = some (some (.list m)) := by rw [List.getElem?_set_ne (fun e => hji e.symm)]; exact hm
    obtain ⟨b, ys, hu', nb, hb, rb⟩ := own_of r2 hj hm'
    rw [hu] at hu'
    cases hu'
    obtain ⟨r3, ex3⟩ := r2.put hj hm' hu nb hb (rb.snoc rv)
    exact ⟨a, ys, v1, rfl, rfl, hb, by rw [rb.length]; exact hz, q2 _ _ N r3 ex3⟩
  · rw [if_neg hz] at q2
    exact q2.elim
end
end Mn
/-! Mn, part P2: except suites; defs that are handed an exception. -/
namespace Mn
open PySem PySem.Spec PyProof.Rows L2
def XHot (X : Cx) (M : Ow) : Prop := ∀ a c, M.x = some (a, c) → HotX X a c
section
variable {X : Cx} {M : Ow} {k : Nat}
/-! ### isinstance of the exception that is held -/
theorem inst_at {pins : List (Addr × Obj)} {σ : L2.St} {H : Hp} {s : Shared} {a E : Addr} {oe : Obj} (I : Inv X pins σ H s) (hm : (a, oe) ∈ X.pn) (hz : Zc (.ref E) none oe) (hf : ∃ vs, oe.data = .fields vs) : PySem.W.InstAt s.heap a oe E none := by
  have hg := (I.pin (a, oe) (List.mem_append.mpr (.inl hm))).1
  obtain ⟨ws, hw⟩ := hf
  obtain ⟨c0, d0, t0, l0⟩ := oe
  obtain ⟨z1, z2⟩ := hz
  dsimp only at z1 z2 hw
  subst z1 z2 hw
  exact ⟨hg, rfl, rfl, trivial⟩
def rHot1 (K : PySem.W.Frag) (E a : Addr) : List V → Hp → VK → Prop := fun xs H Q => ∃ (c : V) (u : Value) (b : Bool), xs = [.ref a, c] ∧ ClsV c u ∧ PySem.W.kitOne K (.ref E) u = some b ∧ Q (.bl b) H
def rHotT (K : PySem.W.Frag) (E a : Addr) : List V → Hp → VK → Prop := fun xs H Q => ∃ (t : Addr) (cs : List V) (us : List Value) (b : Bool), xs = [.ref a, .ref t] ∧ H t = some (.tup cs) ∧ Paired ClsV cs us ∧ PySem.W.kitAny K (.ref E) us = some b ∧ Q (.bl b) H
theorem call_hot1 {a E : Addr} {oe : Obj} (hm : (a, oe) ∈ X.pn) (hz : Zc (.ref E) none oe) (hf : ∃ vs, oe.data = .fields vs) (C : ExcC X.K E) : CallR X (.builtin "isinstance") (rHot1 X.K E a) := by
  intro ps st σ H xs ws Q I rw hh
  obtain ⟨c, u, b, rfl, hc, e, q⟩ := hh
  obtain ⟨w1, w2, rfl, g1, g2⟩ := vals2 rw
  cases (show w1 = Value.ref a from g1)
  have e2 := hc.eq g2
  subst e2
  have J := inst_at I hm hz hf
  refine PySem.W.kia_one (PySem.W.handS_kitx_exc C.hg C.hk C.hs C.hd C.ha C.hn C.ht C.hm) I.kIn J e (fun z => nomatch z) fun tk => ?_
  exact ⟨.bl b, H, I.tok tk, rfl, q⟩
theorem call_hotT {a E : Addr} {oe : Obj} (hm : (a, oe) ∈ X.pn) (hz : Zc (.ref E) none oe) (hf : ∃ vs, oe.data = .fields vs) (C : ExcC X.K E) : CallR X (.builtin "isinstance") (rHotT X.K E a) := by
  intro ps st σ H xs ws Q I rw hh
  obtain ⟨t, cs, us, b, rfl, hT, hc, e, q⟩ := hh
  obtain ⟨w1, w2, rfl, g1, g2⟩ := vals2 rw
  cases (show w1 = Value.ref a from g1)
  cases (show w2 = Value.ref t from g2)
  have J := inst_at I hm hz hf
  have ok : ObjOk X.prog X.w H st.heap t (.tup cs) := I.hok t _ hT
  obtain ⟨_, its, rv, ⟨c1, d1, t1, l1⟩, k1, k2, n, k3⟩ := ok
  have e3 := ClsV.all hc rv
  subst e3
  simp only at k2 k3
  subst k2 k3
  refine PySem.W.kia_tup (PySem.W.handS_kitx_exc C.hg C.hk C.hs C.hd C.ha C.hn C.ht C.hm) I.kIn J k1 e (fun z => nomatch z) fun tk => ?_
  exact ⟨.bl b, H, I.tok tk, rfl, q⟩
/-! class names -/
def clV (K : PySem.W.Frag) (C : Str) : V := if C = ("ValueError" : Str) then .ty "ValueError" else .ref (He.ga K C)
theorem cl_pair {K : PySem.W.Frag} {C : Str} : ClsV (clV K C) (clsV K C) := by
  unfold clV clsV
  split
  · exact .ty _
  · exact .own _
theorem cl_pairs {K : PySem.W.Frag} : ∀ cs : List Str, Paired ClsV (cs.map (clV K)) (cs.map (clsV K))
  | [] => .nil
  | _ :: cs => .cons cl_pair (cl_pairs cs)
def tstOk (sc : Scope) (C : Str) : Bool := glB sc C && nmB C && decide (C ∈ tstAll)
theorem pe_cls {C : Str} {p : Pos} (xa : XAll X.K X.mg) (h : tstOk X.env.scope C = true) : PE X (.Name C p) (tC (clV X.K C)) := by
  have h1 := and3 h
  have h2 := and3 h1.1
  have hm := of_decide_eq_true h1.2
  by_cases hC : C = ("ValueError" : Str)
  · subst hC
    exact pe_bltn (gl_of h2.1) xa.ve (by decide +kernel) rfl (by decide) (nm_of h2.2).1
  · have hm : C ∈ excAll := by
      rcases List.mem_append.mp hm with z | z
      · exact z
      · exact absurd (List.mem_singleton.mp z) hC
    have e : clV X.K C = .ref (He.ga X.K C) := if_neg hC
    rw [e]
    exact pe_glob (gl_of h2.1) (xa.nm C hm) rfl (nm_of h2.2).1
theorem pa_cls (xa : XAll X.K X.mg) : ∀ (es : List Expr) (cs : List Str), es.mapM (fun e => match e with
    | .Name x _ => some x
    | _ => none) = some cs → (∀ C ∈ cs, tstOk X.env.scope C = true) → PA X es (fun _ H Q => Q (cs.map (clV X.K)) H)
  | [], cs, h, _ => by
    have e : cs = [] := by simpa using h.symm
    subst e
    exact PA.imp pa_nil fun σ H Q q => q
  | e :: es, cs, h, hc => by
    rw [List.mapM_cons] at h
    cases e with
    | Name x p =>
      have h' : (do let r ← es.mapM (fun e => match e with
        | .Name x _ => some x
        | _ => none); some (x :: r)) = some cs := h
      cases er : es.mapM (fun e => match e with
        | Expr.Name x _ => some x
        | _ => none) with
      | none => rw [er] at h'; cases h'
      | some r =>
        rw [er] at h'
        obtain rfl : x :: r = cs := Option.some.inj h'
        exact PA.imp (pa_cons (pe_cls xa (hc x List.mem_cons_self)) (pa_cls xa es r er fun C hC => hc C (List.mem_cons_of_mem _ hC)) rfl) fun σ H Q q => q
    | _ => cases h
theorem kit_any {K : PySem.W.Frag} {mg : Str → Option Value} {c : Str} (xa : XAll K mg) (hc : c ∈ excAll) : ∀ cs : List Str, (∀ C ∈ cs, C ∈ tstAll) → PySem.W.kitAny K (.ref (He.ga K c)) (cs.map (clsV K)) = some (cs.any (subB c))
  | [], _ => rfl
  | C :: cs, h => by
    refine kitAny_cons (xa.kit c hc C (h C List.mem_cons_self)) (fun hb => ?_) fun hb => ?_
    · rw [List.any_cons, hb, Bool.false_or]
      exact kit_any xa hc cs fun D hD => h D (List.mem_cons_of_mem _ hD)
    · rw [List.any_cons, hb, Bool.true_or]
theorem tstOk_mem {sc : Scope} {C : Str} (h : tstOk sc C = true) : C ∈ tstAll := of_decide_eq_true (and3 h).2
theorem isx_at {N : Addr → Prop} {ρ : Env} {σ : L2.St} {H : Hp} {i : Nat} {cs : List Str} {a : Addr} {c : Str} {W : WX} {Q : VK} (r : RelE X.K M N ρ σ H) (hx : M.x = some (a, c))
    (q : Post .fresh X.K H N (fun c d H' => W c d σ H') (denE (.isx i cs) ρ) Q) : σ[i]? = some (some (.ref a)) ∧ ∀ H', Same H H' → Q (.bl (cs.any (subB c))) H' := by
  have q : Post .fresh X.K H N (fun c d H' => W c d σ H') (match ρ[i]? with
    | some (some d) => isxD d cs
    | _ => .bad) Q := q
  cases e : ρ[i]? with
  | none => rw [e] at q; exact q.elim
  | some o =>
    rw [e] at q
    cases o with
    | none => exact q.elim
    | some d =>
      have q : Post .fresh X.K H N (fun c d H' => W c d σ H') (isxD d cs) Q := q
      have hd : isX d = true := isxD_X (cs := cs) d fun z => by rw [z] at q; exact q
      obtain ⟨_, a', c', h1, h2, h3⟩ := r.sx i d e hd
      rw [hx] at h1
      cases h1
      subst h2
      exact ⟨h3, fun H' s => q _ H' s (RpG.any (.bl _) fun _ z => nomatch z)⟩
theorem s_isx {i : Nat} {cs : List Str} {n : Str} {t : Expr} {p p2 p3 : Pos} (hx : XHot X M) (xa : XAll X.K X.mg) (h1 : glB X.env.scope "isinstance" = true) (hm : X.mg "isinstance" = none) (hN : X.N[i]? = some n) (h2 : visB X.env.scope n = true) (h3 : nmB n = true)
    (hl : cs.length ≤ 1000) (hc : clsNames t = some cs) (hcs : ∀ C ∈ cs, tstOk X.env.scope C = true) : SE X M (.isx i cs) (.Call (.Name "isinstance" p) [.Name n p2, t] [] p3) := fun W tk => by
  cases hMx : M.x with
  | none => exact no_isx hMx isxD_X
  | some ac =>
    obtain ⟨a, c⟩ := ac
    obtain ⟨hcm, oe, hp, hz, hf⟩ := hx a c hMx
    cases t with
    | Name C p4 =>
      obtain rfl : [C] = cs := Option.some.inj hc
      refine PE.imp (pe_callB (call_hot1 hp hz hf (xa.cls c hcm)) (gl_of h1) hm (by decide +kernel) (pa_cons (pv_of hN h2 h3) (pa_cons (pe_cls xa (hcs C List.mem_cons_self)) pa_nil) rfl) (by decide) (by decide) rfl rfl) ?_
      rintro σ H Q ⟨ρ, N, r, q⟩
      obtain ⟨e1, q⟩ := isx_at r hMx q
      refine ⟨.ref a, e1, _, _, _, rfl, cl_pair, xa.kit c hcm C (tstOk_mem (hcs C List.mem_cons_self)), ?_⟩
      have := q H (Same.refl _)
      rwa [List.any_cons, List.any_nil, Bool.or_false] at this
    | Tuple es kk p4 =>
      refine PE.imp (pe_callB (call_hotT hp hz hf (xa.cls c hcm)) (gl_of h1) hm (by decide +kernel) (pa_cons (pv_of hN h2 h3) (pa_cons (pe_tup (pa_cls xa es cs hc hcs)) pa_nil) rfl) (by decide) (by decide) rfl rfl) ?_
      rintro σ H Q ⟨ρ, N, r, q⟩
      obtain ⟨e1, q⟩ := isx_at r hMx q
      refine ⟨.ref a, e1, by rw [List.length_map]; exact le1000 hl, fun T hT => ⟨T, _, _, _, rfl, upd_same, cl_pairs cs, kit_any xa hcm cs fun C hC => tstOk_mem (hcs C hC), q _ (same_upd hT)⟩⟩
    | _ => cases hc
theorem pick_hot {f : BI} {e x : Expr} {sc : Scope} (hf : f = .int ∨ f = .list ∨ f = .len) (hp : biPick f sc e = some x) : ∃ y p2 p n t, e = .Call (.Name y p2) [x] [] p ∧ glB sc y = true ∧ nmB y = true ∧ biName f = some (n, t) ∧ y = n := by
  unfold biPick at hp
  split at hp
  · split at hp
    · rename_i hc
      rcases hf with rfl | rfl | rfl <;> cases hc.1
    · cases hp
  · rename_i y p2 l p
    split at hp
    · rename_i hg
      have hg := and3 hg
      have key : ∀ (n : Str) (t : Bool), biName f = some (n, t) → (∃ e, l = [e] ∧ (if y = n then some e else none) = some x) → ∃ y' p2' p' n t, Expr.Call (.Name y p2) l [] p = .Call (.Name y' p2') [x] [] p' ∧ glB sc y' = true ∧ nmB y' = true ∧ biName f = some (n, t) ∧ y' = n := by
        rintro n t hn ⟨e, rfl, h⟩
        by_cases hy : y = n
        · rw [if_pos hy] at h
          obtain rfl := Option.some.inj h
          exact ⟨y, p2, p, n, t, rfl, hg.1, hg.2, hn, hy⟩
        · rw [if_neg hy] at h
          cases h
      rcases hf with rfl | rfl | rfl
      · match l, hp with
        | [], hp => exact absurd (show (none : Option Expr) = some x from hp) (by simp)
        | _ :: _ :: _, hp => exact absurd (show (none : Option Expr) = some x from hp) (by simp)
        | [e], hp => exact key "int" true rfl ⟨e, rfl, hp⟩
      · match l, hp with
        | [], hp => exact absurd (show (none : Option Expr) = some x from hp) (by simp)
        | _ :: _ :: _, hp => exact absurd (show (none : Option Expr) = some x from hp) (by simp)
        | [e], hp => exact key "list" true rfl ⟨e, rfl, hp⟩
      · match l, hp with
        | [], hp => exact absurd (show (none : Option Expr) = some x from hp) (by simp)
        | _ :: _ :: _, hp => exact absurd (show (none : Option Expr) = some x from hp) (by simp)
        | [e], hp => exact key "len" false rfl ⟨e, rfl, hp⟩
    · cases hp
  · split at hp
    · rcases hf with rfl | rfl | rfl <;> exact absurd (show (none : Option Expr) = some x from hp) (by simp)
    · cases hp
  · cases hp
theorem s_biHot {f : BI} {a : ME} {e x : Expr} (bi : ∀ x ∈ biNames, X.mg x = none) (hf : f = .int ∨ f = .list ∨ f = .len) (hp : biPick f X.env.scope e = some x) (hx : isE M X.N a X.env.scope x = true) (ha : SE X M a x) : SE X M (.bi f a) e ∧ (∀ whole, isTrue e X.env whole = (do let v ← whole; standAt e.pos; holding [v] (truthy v))) := by
  obtain ⟨y, p2, p, n, t, rfl, hg, hn, hb, rfl⟩ := pick_hot hf hp
  refine ⟨?_, fun _ => rfl⟩
  rcases hf with rfl | rfl | rfl
  · cases hb; exact s_biT bi_int hg hn (bi _ (by decide)) (by decide +kernel) (by decide) (star_of hx _ _) ha
  · cases hb; exact s_biT bi_list hg hn (bi _ (by decide)) (by decide +kernel) (by decide) (star_of hx _ _) ha
  · cases hb; exact s_biB bi_len hg hn (bi _ (by decide)) (by decide +kernel) (by decide) (star_of hx _ _) ha
/-! ### a def that is handed the exception -/
structure GoodH (X : Cx) (k : Nat) : Prop where
  room : L2H.RoomH k X.A
  nd : X.N.Nodup
  fn : ∀ x, X.fn x = true
  bi : ∀ x ∈ biNames, X.mg x = none
theorem GoodH.units (G : GoodH X k) : X.A.units + 64 < cLine := by
  have := G.room.un
  omega
theorem pe_callx {F : List D → R D} {a : Addr} {c x n : Str} {i : Nat} {q p pos : Pos} (G : GoodH X k) (hF : HasFx X.prog X.w X.K X.mg X.base k x F) (hot : HotX X a c) (h1 : glB X.env.scope x = true) (h2 : nmB x = true) (hN : X.N[i]? = some n) (h3 : visB X.env.scope n = true) (h4 : nmB n = true) :
    PE X (.Call (.Name x q) [.Name n p] [] pos) (fun σ H Q => σ[i]? = some (some (.ref a)) ∧ ∃ N, (∀ b, N b → H b ≠ none) ∧ Post .fresh X.K H N (fun _ _ _ => False) (F [excD c]) Q) := by
  obtain ⟨f, fd, y, hf, hm, hk, hb⟩ := hF
  obtain ⟨hcm, oe, hp, hz, hfl⟩ := hot
  refine ⟨fun pins s σ H Q I ⟨hσ, N, ne, hq⟩ => ?_⟩
  refine wpAny_Call_Name_kw (ld_glob I (gl_of h1) hm ?_ (nm_of h2).1)
  have pa := pa_cons (X := X) (pv_of (px := p) hN h3 h4) pa_nil rfl
  refine PySem.W.callWith_K (h₀ := X.base) I.ok.mod.kin hk (thn (pa.run pos pins s σ H (fun vs H1 => vs = [V.ref a] ∧ H1 = H) I ⟨.ref a, hσ, rfl, rfl⟩) fun ws s1 ⟨vs, H1, I1, rv, ev, eH⟩ => ⟨I1.kIn, ?_⟩) rfl rfl
  subst ev eH
  have ew : ws = [Value.ref a] := by
    cases rv with
    | cons r1 r2 => cases r2; cases r1; rfl
  subst ew
  have pin := I1.pin (a, oe) (List.mem_append.mpr (.inl hp))
  have ok : L2H.PinOk X.stack H1 s1 (a, oe) := ⟨pin.1, pin.2.1, fun z => by
    rcases List.mem_cons.mp (I1.stkSub a z) with e | e
    · exact pin.2.2.1 e
    · exact pin.2.2.2.1 e, pin.2.2.2.2⟩
  have b := hb s1 [Value.ref a] I1.kIn rfl
  refine wpAny_call (codeAny_mono (hf X.A X.stack s1 H1 ⟨[.ref a], []⟩ Q (a, oe) c N G.room ok hcm hz hfl I1.env0 b ne hq) fun rr s2 hr => ?_)
  cases rr with
  | ok fl =>
    cases fl with
    | ret u => exact I1.after hr
    | _ => exact hr.elim
  | error e => exact passAt (takes0 (X := X)) σ pins H1 s1 e s2 I1 hr
theorem s_callx {F : List D → R D} {x n : Str} {i : Nat} {q p pos : Pos} (hx : XHot X M) (G : GoodH X k) (hF : HasFx X.prog X.w X.K X.mg X.base k x F) (h1 : glB X.env.scope x = true) (h2 : nmB x = true) (hN : X.N[i]? = some n) (h3 : visB X.env.scope n = true) (h4 : nmB n = true) :
    SE X M (.callx F x i) (.Call (.Name x q) [.Name n p] [] pos) := fun W tk => by
  cases hMx : M.x with
  | none => exact no_isx hMx callx_X
  | some ac =>
    obtain ⟨a, c⟩ := ac
    refine PE.imp (pe_callx (p := p) G hF (hx a c hMx) h1 h2 hN h3 h4) ?_
    rintro σ H Q ⟨ρ, N, r, q⟩
    have q : Post .fresh X.K H N (fun c d H' => W c d σ H') (match ρ[i]? with
      | some (some d) => if isX d = true then noexc (F [d]) else .bad
      | _ => .bad) Q := q
    cases e : ρ[i]? with
    | none => rw [e] at q; exact q.elim
    | some o =>
      rw [e] at q
      cases o with
      | none => exact q.elim
      | some d =>
        have q : Post .fresh X.K H N (fun c d H' => W c d σ H') (if isX d = true then noexc (F [d]) else .bad) Q := q
        by_cases hd : isX d = true
        · rw [if_pos hd] at q
          obtain ⟨_, a', c', g1, g2, g3⟩ := r.sx i d e hd
          rw [hMx] at g1
          cases g1
          subst g2
          refine ⟨g3, N, r.ne, ?_⟩
          cases eF : F [excD c] with
          | ok z => rw [eF] at q; exact q
          | exc z => rw [eF] at q; exact q.elim
          | bad => rw [eF] at q; exact q.elim
        · rw [if_neg hd] at q
          exact q.elim
/-! ### hot terms -/
variable (hx : XHot X M)
include hx
mutual
theorem hE : ∀ (m : ME) (e : Expr), GoodH X k → hotB m = true → isE M X.N m X.env.scope e = true → OkX X k m → SE X M m e ∧ ST X M m e
  | .var i, e, G, hh, h, o => by
    cases e with
    | Name x p =>
      have h0 := and3 h
      have h' := and3 h0.1
      have h2 := and3 h'.1
      have s : SE X M (.var i) (.Name x p) := s_var (of_decide_eq_true h2.1) h2.2 h'.2 (of_decide_eq_true h0.2)
      exact ⟨s, s.t fun _ => rfl⟩
    | _ => cases h
  | .int n, e, G, hh, h, o => by
    cases e with
    | Constant c j p =>
      cases c with
      | int i =>
        obtain rfl : n = i := of_decide_eq_true h
        exact ⟨s_int, s_int.t fun _ => rfl⟩
      | _ => cases h
    | _ => cases h
  | .str n, e, G, hh, h, o => by
    cases e with
    | Constant c j p =>
      cases c with
      | str i =>
        obtain rfl : n = i := of_decide_eq_true h
        exact ⟨s_str, s_str.t fun _ => rfl⟩
      | _ => cases h
    | _ => cases h
  | .bl n, e, G, hh, h, o => by
    cases e with
    | Constant c j p =>
      cases c with
      | bool i =>
        obtain rfl : n = i := of_decide_eq_true h
        exact ⟨s_bl, s_bl.t fun _ => rfl⟩
      | _ => cases h
    | _ => cases h
  | .non, e, G, hh, h, o => by
    cases e with
    | Constant c j p =>
      cases c with
      | none => exact ⟨s_non, s_non.t fun _ => rfl⟩
      | _ => cases h
    | _ => cases h
  | .nil, e, G, hh, h, o => by cases e <;> cases h
  | .cons _ _, e, G, hh, h, o => by cases e <;> cases h
  | .tup es, e, G, hh, h, o => by
    cases e with
    | Tuple l j p =>
      have h' := and3 h
      have s : SE X M (.tup es) (.Tuple l j p) := s_tup (hEs es l G hh h'.1 o) h'.2
      exact ⟨s, s.t fun _ => rfl⟩
    | _ => cases h
  | .lst es, e, G, hh, h, o => by
    cases e with
    | List l p =>
      have h' := and3 h
      have s : SE X M (.lst es) (.List l p) := s_lst (hEs es l G hh h'.1 o) h'.2
      exact ⟨s, s.t fun _ => rfl⟩
    | _ => cases h
  | .bin q a b, e, G, hh, h, o => by
    have k1 := and3 (show ((decide (q ≠ .rep) && hotB a) && hotB b) = true from hh)
    have k2 := and3 k1.1
    cases e with
    | BinOp x q' y p =>
      have h' := and3 h
      have h2 := and3 h'.1
      have h3 := and3 h2.1
      have s : SE X M (.bin q a b) (.BinOp x q' y p) := s_bin h3.1 (of_decide_eq_true k2.1) (hE a x G k2.2 h3.2 o.1).1 (hE b y G k1.2 h2.2 o.2).1
      exact ⟨s, s.t fun _ => rfl⟩
    | _ => cases h
  | .nt a, e, G, hh, h, o => by
    cases e with
    | UnaryOp u x p =>
      cases u with
      | Not => exact s_nt (hE a x G hh h o).1 (hE a x G hh h o).2
      | _ => cases h
    | _ => cases h
  | .andE es, e, G, hh, h, o => by
    cases e with
    | BoolOp u l p =>
      cases u with
      | And =>
        have b := hBa es l G hh h o
        exact ⟨fun W tk => (b p W tk).1, fun W tk => (b p W tk).2.pt⟩
      | _ => cases h
    | _ => cases h
  | .orE es, e, G, hh, h, o => by
    cases e with
    | BoolOp u l p =>
      cases u with
      | Or =>
        have b := hBo es l G hh h o
        exact ⟨fun W tk => (b p W tk).1, fun W tk => (b p W tk).2.pt⟩
      | _ => cases h
    | _ => cases h
  | .cmp q a b, e, G, hh, h, o => by
    have k1 := and3 (show (hotB a && hotB b) = true from hh)
    cases e with
    | Compare x ops ys p =>
      match ops, ys, h with
      | [q'], [y], h =>
        have h' := and3 h
        have h2 := and3 h'.1
        exact s_cmp G.units h2.1 (mark_of _ h'.2) (hE a x G k1.1 h2.2 o.1).1 (hE b y G k1.2 h'.2 o.2).1
    | _ => cases h
  | .ife c a b, e, G, hh, h, o => by
    have k1 := and3 (show ((hotB c && hotB a) && hotB b) = true from hh)
    have k2 := and3 k1.1
    cases e with
    | IfExp x y z p =>
      have h' := and3 h
      have h2 := and3 h'.1
      exact ⟨s_ife (hE c x G k2.1 h2.1 o.1).2 (hE a y G k2.2 h2.2 o.2.1).1 (hE b z G k1.2 h'.2 o.2.2).1, s_ifeT (hE c x G k2.1 h2.1 o.1).2 (hE a y G k2.2 h2.2 o.2.1).2 (hE b z G k1.2 h'.2 o.2.2).2⟩
    | _ => cases h
  | .isx i cs, e, G, hh, h, o => by
    cases e with
    | Call f args kws p =>
      match f, args, kws, h with
      | .Name y p2, [.Name n p3, t], [], h =>
        have h1 := and3 h
        have h2 := and3 h1.1
        have h3 := and3 h2.1
        have h4 := and3 h3.1
        have h5 := and3 h4.1
        have h6 := and3 h5.1
        have h7 := and3 h6.1
        obtain rfl := of_decide_eq_true h7.1
        have s : SE X M (.isx i cs) (.Call (.Name "isinstance" p2) [.Name n p3, t] [] p) := s_isx hx o h7.2 (G.bi _ (by decide)) (of_decide_eq_true h6.2) h5.2 h4.2 (of_decide_eq_true h3.2) (of_decide_eq_true h2.2) fun C hC => List.all_eq_true.mp h1.2 C hC
        exact ⟨s, s.t fun _ => rfl⟩
    | _ => cases h
  | .callx F x i, e, G, hh, h, o => by
    cases e with
    | Call f args kws p =>
      match f, args, kws, h with
      | .Name y p2, [.Name n p3], [], h =>
        have h1 := and3 h
        have h2 := and3 h1.1
        have h3 := and3 h2.1
        have h4 := and3 h3.1
        have h5 := and3 h4.1
        obtain rfl : x = y := of_decide_eq_true h5.1
        have s : SE X M (.callx F x i) (.Call (.Name x p2) [.Name n p3] [] p) := s_callx hx G o h5.2 h4.2 (of_decide_eq_true h3.2) h2.2 h1.2
        exact ⟨s, s.t fun _ => rfl⟩
    | _ => cases h
  | .x2 f a b, e, G, hh, h, o => by
    have k1 := and3 (show (hotB a && hotB b) = true from hh)
    have h : (match x2Pick f e with
      | some p => isE M X.N a X.env.scope p.1 && isE M X.N b X.env.scope p.2
      | none => false) = true := h
    split at h
    · rename_i p hp
      have h' := and3 h
      obtain ⟨s, t⟩ := s_x2 hp h'.2 (hE a _ G k1.1 h'.1 o.1).1 (hE b _ G k1.2 h'.2 o.2).1
      exact ⟨s, s.t t⟩
    · cases h
  | .bi f a, e, G, hh, h, o => by
    have k1 := and3 (show (decide (f = .int ∨ f = .list ∨ f = .len) && hotB a) = true from hh)
    have hf := of_decide_eq_true k1.1
    have ia := fun x hx => (hE a x G k1.2 hx o).1
    have h : (match biPick f X.env.scope e with
      | some x => isE M X.N a X.env.scope x
      | none => false) = true := h
    split at h
    · rename_i x hp
      obtain ⟨s, t⟩ := s_biHot G.bi hf hp h (ia x h)
      exact ⟨s, s.t t⟩
    · cases h
  | .gl _ _, _, _, hh, _, _ | .neg _, _, _, hh, _, _ | .chn _ _ _ _ _, _, _, hh, _, _ | .chn3 _ _ _ _ _ _ _, _, _, hh, _, _ | .dget2 _ _ _ _ _ _, _, _, hh, _, _ | .ix _ _, _, _, hh, _, _ | .sl _ _ _, _, _, hh, _, _ | .call _ _ _ _, _, _, hh, _, _ | .bi2 _ _ _, _, _, hh, _, _
  | .comp _ _ _ _ _ _, _, _, hh, _, _ | .iSeq _, _, _, hh, _, _ | .iRg1 _, _, _, hh, _, _ | .iRg2 _ _, _, _, hh, _, _ | .iRg3 _ _ _, _, _, hh, _, _ | .iEnum _, _, _, hh, _, _ | .iZip _ _, _, _, hh, _, _ | .iRev _, _, _, hh, _, _ => by cases hh
theorem hEs : ∀ (m : ME) (es : List Expr), GoodH X k → hotB m = true → isEs M X.N m X.env.scope es = true → OkX X k m → SA X M m es
  | .nil, [], G, hh, h, o => s_nil
  | .cons e es, x :: l, G, hh, h, o => by
    have h' := and3 (show (isE M X.N e X.env.scope x && isEs M X.N es X.env.scope l) = true from h)
    have k1 := and3 (show (hotB e && hotB es) = true from hh)
    exact s_cons (star_of h'.1 l X.env) (hE e x G k1.1 h'.1 o.1).1 (hEs es l G k1.2 h'.2 o.2)
  | .nil, _ :: _, _, _, h, _ => by cases h
  | .cons _ _, [], _, _, h, _ => by cases h
  | .gl _ _, _, _, hh, _, _ | .neg _, _, _, hh, _, _ | .chn _ _ _ _ _, _, _, hh, _, _ | .chn3 _ _ _ _ _ _ _, _, _, hh, _, _ | .dget2 _ _ _ _ _ _, _, _, hh, _, _ | .ix _ _, _, _, hh, _, _ | .sl _ _ _, _, _, hh, _, _ | .call _ _ _ _, _, _, hh, _, _ | .bi2 _ _ _, _, _, hh, _, _
  | .comp _ _ _ _ _ _, _, _, hh, _, _ | .iSeq _, _, _, hh, _, _ | .iRg1 _, _, _, hh, _, _ | .iRg2 _ _, _, _, hh, _, _ | .iRg3 _ _ _, _, _, hh, _, _ | .iEnum _, _, _, hh, _, _ | .iZip _ _, _, _, hh, _, _ | .iRev _, _, _, hh, _, _ => by cases hh
  | .var _, _, _, _, h, _ | .int _, _, _, _, h, _ | .str _, _, _, _, h, _ | .bl _, _, _, _, h, _ | .non, _, _, _, h, _ | .isx _ _, _, _, _, h, _ | .callx _ _ _, _, _, _, h, _ | .tup _, _, _, _, h, _ | .lst _, _, _, _, h, _ | .bin _ _ _, _, _, _, h, _ | .nt _, _, _, _, h, _ | .andE _, _, _, _, h, _ | .orE _, _, _, _, h, _ | .cmp _ _ _, _, _, _, h, _ | .ife _ _ _, _, _, _, h, _ | .x2 _ _ _, _, _, _, h, _ | .bi _ _, _, _, _, h, _ => by cases h
theorem hBa : ∀ (m : ME) (l : List Expr), GoodH X k → hotB m = true → isBs M X.N m X.env.scope l = true → OkX X k m → SB X M (denAnd m) .And l
  | .cons e es, l, G, hh, h, o => by
    have k1 := and3 (show (hotB e && hotB es) = true from hh)
    have ih := fun l h => hBa es l G k1.2 h o.2
    have ie := fun x h => hE e x G k1.1 h o.1
    cases es with
    | nil =>
      match l, h with
      | [x], h => exact s_and1 (ie x h).1 (ie x h).2
      | x :: y :: l, h => exact absurd (and3 h).2 (by intro z; cases z)
    | cons e2 ms =>
      match l, h with
      | x :: y :: l, h =>
        have h' := and3 (show (isE M X.N e X.env.scope x && isBs M X.N (.cons e2 ms) X.env.scope (y :: l)) = true from h)
        exact s_and2 (ie x h'.1).1 (ie x h'.1).2 (ih (y :: l) h'.2)
    | _ =>
      match l, h with
      | x :: y :: l, h => exact absurd (and3 h).2 (by intro z; cases z)
  | .nil, _, _, _, h, _ | .gl _ _, _, _, _, h, _ | .neg _, _, _, _, h, _ | .chn _ _ _ _ _, _, _, _, h, _ | .chn3 _ _ _ _ _ _ _, _, _, _, h, _ | .dget2 _ _ _ _ _ _, _, _, _, h, _ | .x2 _ _ _, _, _, _, h, _ | .ix _ _, _, _, _, h, _ | .sl _ _ _, _, _, _, h, _ | .call _ _ _ _, _, _, _, h, _ | .bi _ _, _, _, _, h, _ | .bi2 _ _ _, _, _, _, h, _
  | .comp _ _ _ _ _ _, _, _, _, h, _ | .iSeq _, _, _, _, h, _ | .iRg1 _, _, _, _, h, _ | .iRg2 _ _, _, _, _, h, _ | .iRg3 _ _ _, _, _, _, h, _ | .iEnum _, _, _, _, h, _ | .iZip _ _, _, _, _, h, _ | .iRev _, _, _, _, h, _
  | .var _, _, _, _, h, _ | .int _, _, _, _, h, _ | .str _, _, _, _, h, _ | .bl _, _, _, _, h, _ | .non, _, _, _, h, _ | .isx _ _, _, _, _, h, _ | .callx _ _ _, _, _, _, h, _ | .tup _, _, _, _, h, _ | .lst _, _, _, _, h, _ | .bin _ _ _, _, _, _, h, _ | .nt _, _, _, _, h, _ | .andE _, _, _, _, h, _ | .orE _, _, _, _, h, _ | .cmp _ _ _, _, _, _, h, _ | .ife _ _ _, _, _, _, h, _ => by cases h
theorem hBo : ∀ (m : ME) (l : List Expr), GoodH X k → hotB m = true → isBs M X.N m X.env.scope l = true → OkX X k m → SB X M (denOr m) .Or l
  | .cons e es, l, G, hh, h, o => by
    have k1 := and3 (show (hotB e && hotB es) = true from hh)
    have ih := fun l h => hBo es l G k1.2 h o.2
    have ie := fun x h => hE e x G k1.1 h o.1
    cases es with
    | nil =>
      match l, h with
      | [x], h => exact s_or1 (ie x h).1 (ie x h).2
      | x :: y :: l, h => exact absurd (and3 h).2 (by intro z; cases z)
    | cons e2 ms =>
      match l, h with
      | x :: y :: l, h =>
        have h' := and3 (show (isE M X.N e X.env.scope x && isBs M X.N (.cons e2 ms) X.env.scope (y :: l)) = true from h)
        exact s_or2 (ie x h'.1).1 (ie x h'.1).2 (ih (y :: l) h'.2)
    | _ =>
      match l, h with
      | x :: y :: l, h => exact absurd (and3 h).2 (by intro z; cases z)
  | .nil, _, _, _, h, _ | .gl _ _, _, _, _, h, _ | .neg _, _, _, _, h, _ | .chn _ _ _ _ _, _, _, _, h, _ | .chn3 _ _ _ _ _ _ _, _, _, _, h, _ | .dget2 _ _ _ _ _ _, _, _, _, h, _ | .x2 _ _ _, _, _, _, h, _ | .ix _ _, _, _, _, h, _ | .sl _ _ _, _, _, _, h, _ | .call _ _ _ _, _, _, _, h, _ | .bi _ _, _, _, _, h, _ | .bi2 _ _ _, _, _, _, h, _
  | .comp _ _ _ _ _ _, _, _, _, h, _ | .iSeq _, _, _, _, h, _ | .iRg1 _, _, _, _, h, _ | .iRg2 _ _, _, _, _, h, _ | .iRg3 _ _ _, _, _, _, h, _ | .iEnum _, _, _, _, h, _ | .iZip _ _, _, _, _, h, _ | .iRev _, _, _, _, h, _
  | .var _, _, _, _, h, _ | .int _, _, _, _, h, _ | .str _, _, _, _, h, _ | .bl _, _, _, _, h, _ | .non, _, _, _, h, _ | .isx _ _, _, _, _, h, _ | .callx _ _ _, _, _, _, h, _ | .tup _, _, _, _, h, _ | .lst _, _, _, _, h, _ | .bin _ _ _, _, _, _, h, _ | .nt _, _, _, _, h, _ | .andE _, _, _, _, h, _ | .orE _, _, _, _, h, _ | .cmp _ _ _, _, _, _, h, _ | .ife _ _ _, _, _, _, h, _ => by cases h
end
/-! ### hot statements -/
variable {N0 : Addr → Prop} {H0 : Hp}
mutual
theorem hS : ∀ (m : MS) (st : Stmt), GoodH X k → hotS m = true → isS M X.N m X.env.scope st = true → OkS (sur X.prog X.w X.K X.mg X.base k) m → SS X M N0 H0 m st
  | .asg i e, st, G, hh, h, o => by
    cases st with
    | Assign ts v pos =>
      match ts, h with
      | [.Name x px], h =>
        have h1 := and3 h
        have h2 := and3 h1.1
        have h3 := and3 h2.1
        have h4 : (if i ∈ M then decide (gr M e = .fresh) else decide (gr M e ≠ .loose)) = true := h1.2
        have hv := h2.2
        have he := (hE hx e v G hh h2.2 o).1
        have hg : if i ∈ M then gr M e = .fresh else gr M e ≠ .loose := by
          by_cases hi : i ∈ M
          · rw [if_pos hi] at h4 ⊢
            exact of_decide_eq_true h4
          · rw [if_neg hi] at h4 ⊢
            exact of_decide_eq_true h4
        refine ss_asg G.nd G.fn (of_decide_eq_true h3.1) h3.2 he hg ?_
        cases v <;> first | rfl | (cases e <;> first | (cases hv; done) | (cases hh; done))
    | _ => cases h
  | .app i e, st, G, hh, h, o => by
    cases st with
    | Expr ex pos =>
      cases ex with
      | Call f args kws cp =>
        match f, args, kws, h with
        | .Attribute (.Name x px) at_ ap, [v], [], h =>
          have h1 := and3 h
          have h2 := and3 h1.1
          have h3 := and3 h2.1
          have h4 := and3 h3.1
          have h5 := and3 h4.1
          have h6 := and3 h5.1
          have h7 := and3 h6.1
          obtain rfl := of_decide_eq_true h5.2
          exact ss_app (of_decide_eq_true h7.1) h7.2 h6.2 (of_decide_eq_true h4.2) (of_decide_eq_true h3.2) (hE hx e v G hh h2.2 o).1 (of_decide_eq_true h1.2) (star_of h2.2 _ _)
      | _ => cases h
    | _ => cases h
  | .ret chk e, st, G, hh, h, o => by
    cases st with
    | Return v pos =>
      cases v with
      | some v =>
        have h1 := and3 h
        have h2 : (chk || retB M e) = true := h1.2
        rw [Bool.or_eq_true] at h2
        by_cases hv : ∃ i, e = .var i ∧ i ∈ M
        · obtain ⟨i, rfl, hi⟩ := hv
          have hx' := h1.1
          cases v with
          | Name x px =>
            have k0 := and3 hx'
            have k1 := and3 k0.1
            have k2 := and3 k1.1
            exact ss_retO (of_decide_eq_true k2.1) k2.2 k1.2 hi (of_decide_eq_true k0.2)
          | _ => cases hx'
        · refine ss_ret (hE hx e v G hh h1.1 o).1 (h2.imp_right fun z => ?_)
          cases e <;> first | exact of_decide_eq_true z | exact absurd ⟨_, rfl, of_decide_eq_true z⟩ hv
      | none => cases h
    | _ => cases h
  | .ite c a b, st, G, hh, h, o => by
    have k1 := and3 (show ((hotB c && hotS a) && hotS b) = true from hh)
    have k2 := and3 k1.1
    cases st with
    | If v p q pos =>
      have h1 := and3 h
      have h2 := and3 h1.1
      exact ss_ite (hE hx c v G k2.1 h2.1 o.1).2 (hSs a p G k2.2 h2.2 o.2.1) (hSs b q G k1.2 h1.2 o.2.2)
    | _ => cases h
  | .nil, st, G, _, h, o => by cases st <;> cases h
  | .cons _ _, st, G, _, h, o => by cases st <;> cases h
  | .unp _ _, _, _, hh, _, _ | .unl _ _, _, _, hh, _, _ | .par _ _ _ _, _, _, hh, _, _ | .aug _ _ _, _, _, hh, _, _ | .appM _ _, _, _, hh, _, _ | .ins _ _ _, _, _, hh, _, _ | .setix _ _ _, _, _, hh, _, _ | .expr _, _, _, hh, _, _ | .retN, _, _, hh, _, _ | .ret2 _ _, _, _, hh, _, _ | .mov _ _, _, _, hh, _, _ | .forL _ _ _ _ _, _, _, hh, _, _ | .popA _ _ _, _, _, hh, _, _ | .appPop _ _ _, _, _, hh, _, _ | .popE _ _, _, _, hh, _, _ | .rai _ _, _, _, hh, _, _
  | .forS _ _ _ _ _, _, _, hh, _, _ | .whl _ _ _ _, _, _, hh, _, _ | .cnt, _, _, hh, _, _ | .pas, _, _, hh, _, _ | .try1 _ _ _ _, _, _, hh, _, _ | .try2 _ _ _ _ _ _, _, _, hh, _, _ | .jnk _ _ _ _ _ _ _, _, _, hh, _, _ => by cases hh
theorem hSs : ∀ (m : MS) (st : List Stmt), GoodH X k → hotS m = true → isSs M X.N m X.env.scope st = true → OkS (sur X.prog X.w X.K X.mg X.base k) m → SSs X M N0 H0 m st
  | .nil, [], G, hh, h, o => ss_nil
  | .cons s r, st :: sts, G, hh, h, o => by
    have h1 := and3 (show (isS M X.N s X.env.scope st && isSs M X.N r X.env.scope sts) = true from h)
    have k1 := and3 (show (hotS s && hotS r) = true from hh)
    exact ss_cons (hS s st G k1.1 h1.1 o.1) (hSs r sts G k1.2 h1.2 o.2)
  | .nil, _ :: _, _, _, h, _ => by cases h
  | .cons _ _, [], _, _, h, _ => by cases h
  | .asg _ _, _, _, _, h, _ | .unp _ _, _, _, _, h, _ | .unl _ _, _, _, _, h, _ | .par _ _ _ _, _, _, _, h, _ | .aug _ _ _, _, _, _, h, _ | .app _ _, _, _, _, h, _ | .appM _ _, _, _, _, h, _ | .ins _ _ _, _, _, _, h, _ | .setix _ _ _, _, _, _, h, _ | .expr _, _, _, _, h, _ | .ret _ _, _, _, _, h, _ | .retN, _, _, _, h, _ | .ret2 _ _, _, _, _, h, _ | .mov _ _, _, _, _, h, _ | .forL _ _ _ _ _, _, _, _, h, _ | .popA _ _ _, _, _, _, h, _ | .appPop _ _ _, _, _, _, h, _ | .popE _ _, _, _, _, h, _ | .rai _ _, _, _, _, h, _
  | .ite _ _ _, _, _, _, h, _ | .forS _ _ _ _ _, _, _, _, h, _ | .whl _ _ _ _, _, _, _, h, _ | .cnt, _, _, _, h, _ | .pas, _, _, _, h, _ | .try1 _ _ _ _, _, _, _, h, _ | .try2 _ _ _ _ _ _, _, _, _, h, _ => by cases h
  | .jnk _ _ _ _ _ _ _, _, _, hh, _, _ => by cases hh
end
end
end Mn
/-! Mn, part P3: try: body, except A as n: suite, except B: suite. -/
namespace Mn
open PySem PySem.Spec PyProof.Rows L2
/-! ### an exception that has come to rest in this frame -/
structure Rest (X : Cx) (pins : List (Addr × Obj)) (σ : L2.St) (H : Hp) (a : Addr) (cls : Value) (d : Option Addr) (B : Heap) (sI s : Shared) : Prop where
  inv : Inv X pins σ H sI
  nb : ∀ b o, sI.heap.get? b = some o → b ∉ frs X.stack → B.get? b = some o
  up : sI.heap.UpToSlots s.heap
  fl : HandSPX.FlyingZ B (X.env :: X.outer) a (Zc cls d) s.heap
  na : H a = none
  os : s.os = sI.os
  ag : AllBare s.gens
section
variable {X : Cx} {pins : List (Addr × Obj)} {σ : L2.St} {H : Hp} {a : Addr} {cls c : Value} {d : Option Addr} {B : Heap} {sI s : Shared} {x n : Str} {i : Nat} {np pos pos' : Pos} {W : WX} {b : Bool}
theorem Rest.here (L : Rest X pins σ H a cls d B sI s) : Inv X pins σ H s := Inv.landed L.inv L.nb L.fl.1 L.up L.os L.ag
theorem Rest.within (L : Rest X pins σ H a cls d B sI s) (hs : X.stack = X.env :: X.outer) (hf : X.env.frame = some X.env.locals) :
    ∃ oe, s.heap.get? a = some oe ∧ Zc cls d oe ∧ (∃ ws, oe.data = .fields ws) ∧ Inv (X.suite a ((a, oe) :: (X.pn ++ pins))) [] σ H s := by
  obtain ⟨oe, ws, g, z, dd⟩ := L.fl.there
  have out : a ∉ frs (X.env :: X.outer) := fun hm => by
    obtain ⟨_, o', g', nf⟩ := Heap.FunFrames.mem L.fl.2.2.1 hm
    rw [g] at g'
    cases g'
    exact nf _ dd
  refine ⟨oe, g, z, ⟨ws, dd⟩, Inv.suite L.here g dd L.na (fun e => out ?_) fun hm => out ?_⟩
  · rw [e]
    exact List.mem_filterMap.mpr ⟨X.env, List.mem_cons_self, by rw [hf]⟩
  · obtain ⟨u, hu, q⟩ := List.mem_filterMap.mp hm
    exact List.mem_filterMap.mpr ⟨u, List.mem_cons_of_mem _ hu, q⟩
theorem Rest.move (L : Rest X pins σ H a cls d B sI s) {h : Heap} (fl : HandSPX.FlyingZ B (X.env :: X.outer) a (Zc cls d) h) (up : s.heap.UpToSlots h) : Rest X pins σ H a cls d B sI { s with heap := h } :=
  ⟨L.inv, L.nb, L.up.trans up, fl, L.na, L.os, L.ag⟩
/-- does the clause meet it? -/
theorem Rest.test (L : Rest X pins σ H a cls d B sI s) (hs : X.stack = X.env :: X.outer) (hf : X.env.frame = some X.env.locals) (hc : Names X x c) (hb : PySem.W.exmOne X.K cls c = some b) {T : Except Value Flow → Shared → Prop} (q : T (.ok (if b then .brk else .next)) s) :
    codeAny (model X.prog X.w) (X.A.mark (some (.ref a))) (.handlers (.ref a) [.ExceptHandler (some (.Name x np)) none [] pos'] X.env) T s := by
  obtain ⟨oe, g, z, ff, S⟩ := L.within hs hf
  refine codeAny_handlers_test ?_
  have see : PySem.W.Looks (model X.prog X.w) s.heap (typeOf (.ref a)) cls := fun _ _ _ _ k q => wpAny_typeOf_ref (k _ _ g) (by rw [z.1]; exact q)
  have hit := PySem.W.exm_one (M := model X.prog X.w) L.here.kIn see hb
  obtain ⟨hg, hdb, hm | ⟨hm, hv, hn⟩⟩ := hc
  · exact ld_glob (X := X.suite a ((a, oe) :: (X.pn ++ pins))) S hg hm (hit.here q) hdb
  · exact ld_blt (X := X.suite a ((a, oe) :: (X.pn ++ pins))) S hg hm hv (hit.here q) hn hdb
/-- nobody takes it: it flies on -/
theorem Rest.on (L : Rest X pins σ H a cls d B sI s) (hs : X.stack = X.env :: X.outer) (hf : X.env.frame = some X.env.locals) (tk : Takes X W) (hw : W cls d σ H) {D : Ends} : wpAny (model X.prog X.w) X.A (handleBy (.ref a) X.env []) (SP X pins D) X.xe s := by
  refine wpAny_handleBy_nil ?_
  obtain ⟨_, _, _, oe, ws, T, oT, ts, g, z, dd, e1, _⟩ := id L.fl
  unfold PySem.passOn
  refine wpAny_bind (wpAny_field g dd e1 ?_)
  rw [if_neg (show ¬ ((Value.ref T == Value.none) = true) from by simp)]
  have fin : wpAny (model X.prog X.w) X.A (setFlight (.ref a) X.env.frame) (fun _ s4 => wpAny (model X.prog X.w) X.A (throw (.ref a) : Sem Flow) (SP X pins D) X.xe s4) X.xe s := by
    rw [hf]
    exact HandSPX.setFlight_upZ L.fl fun h hh up => wpAny_throw (tk _ _ ⟨a, B, sI, pins, σ, H, cls, d, rfl, L.inv, L.nb, L.up.trans up, .inr (.inr (by rw [hs]; exact hh)), L.na, L.os, L.ag, hw⟩)
  first
    | exact wpAny_bind (wpAny_pure (wpAny_bind fin))
    | exact wpAny_bind fin
/-- a clause with a name -/
theorem Rest.named {D : Ends} {b0 : Stmt} {suite : List Stmt} {more : List ExceptHandler} {ts : TS} (L : Rest X pins σ H a cls d B sI s) (hs : X.stack = X.env :: X.outer) (hf : X.env.frame = some X.env.locals) (hN : X.N.Nodup) (hi : X.N[i]? = some n) (hn : X.env.scope.names.lookup n = some .local) (hc : Names X x c) (hb : PySem.W.exmOne X.K cls c = some b)
    (yes : b = true → ∀ oe pn, Zc cls d oe → (∃ ws, oe.data = .fields ws) → PSs (X.suite a ((a, oe) :: pn)) (b0 :: suite) ts)
    (yes2 : b = true → ts { nx := fun σ' H' => D.nx (σ'.set i none) H', rt := D.rt, bk := fun σ' H' => D.bk (σ'.set i none) H', ct := fun σ' H' => D.ct (σ'.set i none) H' } (σ.set i (some (.ref a))) H)
    (no : b = false → wpAny (model X.prog X.w) X.A (handleBy (.ref a) X.env more) (SP X pins D) X.xe s) :
    wpAny (model X.prog X.w) X.A (handleBy (.ref a) X.env (.ExceptHandler (some (.Name x np)) (some n) (b0 :: suite) pos' :: more)) (SP X pins D) X.xe s := by
  refine wpAny_handleBy_cons (L.test hs hf hc hb ?_) (fun z => nomatch z)
  cases b with
  | false => exact no rfl
  | true =>
    refine codeAny_handlers_suite_as (HandSPX.lands_againZ L.fl fun h fl up => ?_)
    have Lm := L.move fl up
    obtain ⟨oe, g, z, ff, S⟩ := Lm.within hs hf
    refine store_ok (X := X.suite a ((a, oe) :: (X.pn ++ pins))) (v := .ref a) S hN hi (.inl hn) rfl (fun s5 S5 => ?_) (.inr hn)
    refine wpAny_mono ((yes rfl oe (X.pn ++ pins) z ff).run [] s5 _ H _ S5 (yes2 rfl)) (fun f s6 q => ?_) fun _ _ z => z.elim
    have fin : ∀ {σ6 : L2.St} {H6 : Hp} {Q : Shared → Prop}, Inv (X.suite a ((a, oe) :: (X.pn ++ pins))) [] σ6 H6 s6 → (∀ s7, Inv X pins (σ6.set i none) H6 s7 → Q s7) →
        wpAny (model X.prog X.w) X.A (do bindName X.env n .none; unbindBehindTheSuite X.env n pos') (fun _ s7 => Q s7) X.xe s6 := fun S6 hq => gone_ok (Inv.unsuite S6 L.inv.ok) hN hi hn hq
    cases f with
    | next =>
      obtain ⟨_, _, S6, q6⟩ := q
      exact fin S6 fun _ J => ⟨_, _, J, q6⟩
    | brk =>
      obtain ⟨_, _, S6, q6⟩ := q
      exact fin S6 fun _ J => ⟨_, _, J, q6⟩
    | cont =>
      obtain ⟨_, _, S6, q6⟩ := q
      exact fin S6 fun _ J => ⟨_, _, J, q6⟩
    | ret u =>
      obtain ⟨_, _, _, S6, r6, q6⟩ := q
      exact fin S6 fun _ J => ⟨_, _, _, J, r6, q6⟩
/-- a clause without a name -/
theorem Rest.plain {D : Ends} {b0 : Stmt} {suite : List Stmt} {more : List ExceptHandler} {ts : TS} (L : Rest X pins σ H a cls d B sI s) (hs : X.stack = X.env :: X.outer) (hf : X.env.frame = some X.env.locals) (hc : Names X x c) (hb : PySem.W.exmOne X.K cls c = some b)
    (yes : b = true → ∀ oe pn, Zc cls d oe → (∃ ws, oe.data = .fields ws) → PSs (X.suite a ((a, oe) :: pn)) (b0 :: suite) ts) (yes2 : b = true → ts D σ H)
    (no : b = false → wpAny (model X.prog X.w) X.A (handleBy (.ref a) X.env more) (SP X pins D) X.xe s) :
    wpAny (model X.prog X.w) X.A (handleBy (.ref a) X.env (.ExceptHandler (some (.Name x np)) none (b0 :: suite) pos' :: more)) (SP X pins D) X.xe s := by
  refine wpAny_handleBy_cons (L.test hs hf hc hb ?_) (fun z => nomatch z)
  cases b with
  | false => exact no rfl
  | true =>
    refine codeAny_handlers_suite (HandSPX.lands_againZ L.fl fun h fl up => ?_)
    obtain ⟨oe, g, z, ff, S⟩ := (L.move fl up).within hs hf
    refine wpAny_mono ((yes rfl oe (X.pn ++ pins) z ff).run [] _ _ H _ S (yes2 rfl)) (fun f s6 q => ?_) fun _ _ z => z.elim
    cases f with
    | next =>
      obtain ⟨_, _, S6, q6⟩ := q
      exact ⟨_, _, Inv.unsuite S6 L.inv.ok, q6⟩
    | brk =>
      obtain ⟨_, _, S6, q6⟩ := q
      exact ⟨_, _, Inv.unsuite S6 L.inv.ok, q6⟩
    | cont =>
      obtain ⟨_, _, S6, q6⟩ := q
      exact ⟨_, _, Inv.unsuite S6 L.inv.ok, q6⟩
    | ret u =>
      obtain ⟨_, _, _, S6, r6, q6⟩ := q
      exact ⟨_, _, _, Inv.unsuite S6 L.inv.ok, r6, q6⟩
end
/-- the whole statement; Wy: what the clauses wish of an exception of the body -/
theorem ps_tryR {X : Cx} {body : List Stmt} {h0 : ExceptHandler} {hds : List ExceptHandler} {pos : Pos} {tb : WX → TS} {Wy : Ends → WX} (hs : X.stack = X.env :: X.outer) (hf : X.env.frame = some X.env.locals)
    (hb : ∀ (W : WX) (pn : List (Addr × Obj)) (xe : Value → Shared → Prop), Takes (X.tr pn xe) W → PassesOwn (model X.prog X.w) X.A X.env xe → PSs (X.tr pn xe) body (tb W))
    (hh : ∀ D pins σ H a cls d B sI s, Rest X pins σ H a cls d B sI s → Wy D cls d σ H → wpAny (model X.prog X.w) X.A (handleBy (.ref a) X.env (h0 :: hds)) (SP X pins D) X.xe s) :
    PS X (.Try body (h0 :: hds) [] [] pos) (fun D σ H => tb (Wy D) D σ H) := by
  refine ⟨fun pins s σ H D I q => wpAny_Try_except (wpAny_mono ((hb (Wy D) (X.pn ++ pins) _ (fun u s' xx => ?_) PassesOwn.looking).run [] s σ H D (I.toTry _) q) (fun f s1 q1 => ?_) (fun e s1 he => he))⟩
  · obtain ⟨a, B, sI, _, σ', H', cls, d, rfl, J, nb, up, sky, na, os, ag, w⟩ := xx
    have sky : Sky B (X.env :: X.outer) a (Zc cls d) X.env.locals s'.heap := by rw [← hs]; exact sky
    exact Sky.land Zc.steady (by rw [I.ok.frames, hs]) hf sky fun h fl up' => hh D pins σ' H' a cls d B sI _ ⟨J.ofTry I.ok, nb, up.trans up', fl, na, os, ag⟩ w
  · cases f with
    | next =>
      obtain ⟨_, _, J, q2⟩ := q1
      exact wpAny_execs_nil ⟨_, _, J.ofTry I.ok, q2⟩
    | brk =>
      obtain ⟨_, _, J, q2⟩ := q1
      exact ⟨_, _, J.ofTry I.ok, q2⟩
    | cont =>
      obtain ⟨_, _, J, q2⟩ := q1
      exact ⟨_, _, J.ofTry I.ok, q2⟩
    | ret u =>
      obtain ⟨_, _, _, J, r, q2⟩ := q1
      exact ⟨_, _, _, J.ofTry I.ok, r, q2⟩
/-! ### a body that leaves the slots as they are when it raises -/
def PostX (K : PySem.W.Frag) (M : Ow) (W : WX) (N0 : Addr → Prop) (H0 : Hp) (N : Addr → Prop) (σ : L2.St) (H : Hp) (D : Ends) : Ot → Prop
  | .exc c => ∀ H', Same H H' → W (.ref (He.ga K c)) none σ H'
  | o => PostS K M W N0 H0 N H D o
def tX (K : PySem.W.Frag) (M : Ow) (W : WX) (N0 : Addr → Prop) (H0 : Hp) (f : Env → Ot) : TS := fun D σ H => ∃ ρ N, RelS K M N0 H0 N ρ σ H ∧ PostX K M W N0 H0 N σ H D (f ρ)
section
variable {K : PySem.W.Frag} {M : Ow} {W : WX} {N0 : Addr → Prop} {H0 : Hp} {N N1 : Addr → Prop} {ρ : Env} {σ : L2.St} {H H1 : Hp} {Z : Ends}
theorem PostX.adv {o : Ot} (s : Same H H1) (q : PostX K M W N0 H0 N σ H Z o) : PostX K M W N0 H0 N σ H1 Z o := by
  cases o with
  | exc c => exact fun H' s' => q H' (s.trans s')
  | next ρ' => exact PostS.adv (W := W) (o := .next ρ') (Ext.of_same s) q
  | cont ρ' => exact PostS.adv (W := W) (o := .cont ρ') (Ext.of_same s) q
  | ret d => exact q
  | bad => exact q
theorem rx_e {g : Gr} {f : Env → R D} {kk : D → Ot} {Q : VK} (r : RelS K M N0 H0 N ρ σ H) (q : PostX K M W N0 H0 N σ H Z ((f ρ).ot kk))
    (k : ∀ d v H1, f ρ = .ok d → Same H H1 → RpG g K H H1 N v d → RelS K M N0 H0 N ρ σ H1 → PostX K M W N0 H0 N σ H Z (kk d) → PostX K M W N0 H0 N σ H1 Z (kk d) → Q v H1) : tE g K M W f σ H Q := by
  refine ⟨ρ, N, r.r, ?_⟩
  cases e : f ρ with
  | ok d =>
    rw [e] at q
    exact fun v H' s rv => k d v H' e s rv (r.same s) q (q.adv s)
  | exc c =>
    rw [e] at q
    exact q
  | bad =>
    rw [e] at q
    exact q.elim
theorem rx_t {f : Env → R Bool} {kk : Bool → Ot} {Q : Bool → Hp → Prop} (r : RelS K M N0 H0 N ρ σ H) (q : PostX K M W N0 H0 N σ H Z ((f ρ).ot kk))
    (k : ∀ b H1, f ρ = .ok b → Same H H1 → RelS K M N0 H0 N ρ σ H1 → PostX K M W N0 H0 N σ H1 Z (kk b) → Q b H1) : tT K M W f σ H Q := by
  refine ⟨ρ, N, r.r, ?_⟩
  cases e : f ρ with
  | ok d =>
    rw [e] at q
    exact fun H' s => k d H' e s (r.same s) (q.adv s)
  | exc c =>
    rw [e] at q
    exact q
  | bad =>
    rw [e] at q
    exact q.elim
end
section
variable {X : Cx} {M : Ow} {N0 : Addr → Prop} {H0 : Hp} {k : Nat}
def SX (X : Cx) (M : Ow) (N0 : Addr → Prop) (H0 : Hp) (m : MS) (st : List Stmt) : Prop := ∀ W, Takes X W → PSs X st (tX X.K M W N0 H0 (denS m))
theorem one_nil {m : MS} {D : Ends} {N : Addr → Prop} {ρ : Env} {σ : L2.St} {H : Hp} {K : PySem.W.Frag} {W : WX} (q : PostX K M W N0 H0 N σ H D (denS (.cons m .nil) ρ)) : PostX K M W N0 H0 N σ H D (denS m ρ) := by
  have q : PostX K M W N0 H0 N σ H D ((denS m ρ).bind (denS .nil)) := q
  cases e : denS m ρ with
  | _ => rw [e] at q; exact q
theorem sx_expr {e : ME} {v : Expr} {pos : Pos} (he : SE X M e v) (hs : swapsWith v none pos.line X.env = pure false) : SX X M N0 H0 (.cons (.expr e) .nil) [.Expr v pos] := fun W tk => by
  refine PSs.imp (pss_cons (ps_expr (he W tk) hs) pss_nil) ?_
  rintro D σ H ⟨ρ, N, r, q⟩
  exact rx_e (kk := fun _ => .next ρ) r (one_nil (m := .expr e) q) fun d v1 H1 ed s rv1 r1 q0 q1 => q1 _ _ N r1 Ext.refl
theorem sx_asg {i : Nat} {e : ME} {x : Str} {v : Expr} {px pos : Pos} (nd : X.N.Nodup) (fn : ∀ x, X.fn x = true) (hN : X.N[i]? = some x) (hl : locT X.env.scope x = true) (he : SE X M e v) (hg : if i ∈ M then gr M e = .fresh else gr M e ≠ .loose)
    (hs : swapsWith v (some (.Name x px)) pos.line X.env = pure false) : SX X M N0 H0 (.cons (.asg i e) .nil) [.Assign [.Name x px] v pos] := fun W tk => by
  refine PSs.imp (pss_cons (ps_set nd hN (locT_of hl) (he W tk) hs (.inl (fn x))) pss_nil) ?_
  rintro D σ H ⟨ρ, N, r, q⟩
  refine rx_e (kk := fun d => .next (ρ.set i (some d))) r (one_nil (m := .asg i e) q) fun d v H1 ed s rv r1 q0 q1 => ?_
  by_cases hi : i ∈ M
  · rw [if_pos hi] at hg
    rw [hg] at rv
    obtain ⟨N', r', x⟩ := r.own hi s rv
    exact q0 _ _ N' r' x
  · rw [if_neg hi] at hg
    exact q1 _ _ N (r1.set hi (rv.s hg)) Ext.refl
theorem sx_ite {c : ME} {a b : MS} {v : Expr} {p q : List Stmt} {pos : Pos} (hc : ST X M c v) (ha : SX X M N0 H0 a p) (hb : SX X M N0 H0 b q) : SX X M N0 H0 (.cons (.ite c a b) .nil) [.If v p q pos] := fun W tk => by
  refine PSs.imp (pss_cons (ps_if (hc W tk) (ha W tk) (hb W tk)) pss_nil) ?_
  rintro D σ H ⟨ρ, N, r, q⟩
  refine rx_t (kk := fun k => match k with
    | true => denS a ρ
    | false => denS b ρ) r (one_nil (m := .ite c a b) q) fun k H1 ek s r1 q1 => ?_
  cases k with
  | true => exact ⟨ρ, N, r1, q1⟩
  | false => exact ⟨ρ, N, r1, q1⟩
variable (hM0 : M.x = none)
include hM0
theorem sx_expr1 {e : ME} {st : Stmt} (G : GoodS X k) (h : isS M X.N (.expr e) X.env.scope st = true) (o : OkS (sur X.prog X.w X.K X.mg X.base k) (.expr e)) : SX X M N0 H0 (.cons (.expr e) .nil) [st] := by
  cases st with
  | Expr v pos =>
    have h1 := and3 h
    exact sx_expr (sE hM0 e X k v G.toGood h1.1 o).1 (by cases v <;> first | rfl | (cases h1.2))
  | _ => cases h
omit hM0 in
theorem is_one {N : List Str} {sc : Scope} {m : MS} : ∀ {st : List Stmt}, isSs M N (.cons m .nil) sc st = true → ∃ s1, st = [s1] ∧ isS M N m sc s1 = true
  | [s1], h => ⟨s1, rfl, (and3 (show (isS M N m sc s1 && isSs M N .nil sc []) = true from h)).1⟩
  | [], h => nomatch h
  | s1 :: s2 :: r, h => by
    have z := (and3 (show (isS M N m sc s1 && isSs M N .nil sc (s2 :: r)) = true from h)).2
    cases z
theorem sx_body {m : MS} {st : List Stmt} (G : GoodS X k) (hb : bodyB m = true) (h : isSs M X.N m X.env.scope st = true) (o : OkS (sur X.prog X.w X.K X.mg X.base k) m) : SX X M N0 H0 m st := by
  unfold bodyB at hb
  split at hb
  · rename_i e
    obtain ⟨s1, e1, hz⟩ := is_one h
    subst e1
    clear h
    have h := hz
    clear hz
    exact sx_expr1 hM0 G h o.1
  · rename_i i chk F x es
    obtain ⟨s1, e1, hz⟩ := is_one h
    subst e1
    clear h
    have h := hz
    clear hz
    cases s1 with
    | Assign ts v pos =>
      match ts, h with
      | [.Name x px], h =>
        have h1 := and3 h
        have h2 := and3 h1.1
        have h3 := and3 h2.1
        have h4 : (if i ∈ M then decide (gr M (.call chk F _ es) = .fresh) else decide (gr M (.call chk F _ es) ≠ .loose)) = true := h1.2
        have hv := h2.2
        refine sx_asg G.nd G.fn (of_decide_eq_true h3.1) h3.2 (sE hM0 _ X k v G.toGood h2.2 o.1).1 ?_ ?_
        · by_cases hi : i ∈ M
          · rw [if_pos hi] at h4 ⊢
            exact of_decide_eq_true h4
          · rw [if_neg hi] at h4 ⊢
            exact of_decide_eq_true h4
        · cases v <;> first | rfl | (cases hv; done)
    | _ => cases h
  · rename_i c e e2
    obtain ⟨s1, e1, hz⟩ := is_one h
    subst e1
    clear h
    have h := hz
    clear hz
    cases s1 with
    | If v p q pos =>
      have h1 := and3 h
      have h2 := and3 h1.1
      obtain ⟨p1, rfl, hp⟩ := is_one h2.2
      obtain ⟨q1, rfl, hq⟩ := is_one h1.2
      exact sx_ite (sE hM0 c X k v G.toGood h2.1 o.1.1).2 (sx_expr1 hM0 G hp o.1.2.1.1) (sx_expr1 hM0 G hq o.1.2.2.1)
    | _ => cases h
  · cases hb
end
/-! ### the frame while an exception is held -/
abbrev Ow.hot (M : Ow) (a : Addr) (c : Str) : Ow := ⟨M.o, some (a, c)⟩
abbrev endG (i : Nat) (D : Ends) : Ends := { nx := fun σ' H' => D.nx (σ'.set i none) H', rt := D.rt, bk := fun σ' H' => D.bk (σ'.set i none) H', ct := fun σ' H' => D.ct (σ'.set i none) H' }
section
variable {K : PySem.W.Frag} {M : Ow} {N0 : Addr → Prop} {H0 : Hp} {N : Addr → Prop} {ρ : Env} {σ : L2.St} {H H1 : Hp} {Z : Ends} {i : Nat} {a : Addr} {c : Str}
theorem RelS.toHot (r : RelS K M N0 H0 N ρ σ H) (hM : M.x = none) (hi : i ∈ M.o.e) : RelS K (M.hot a c) N0 H0 N (ρ.set i (some (excD c))) (σ.set i (some (.ref a))) H := by
  have g : ∀ {j : Nat} {ds : List D}, (ρ.set i (some (excD c)))[j]? = some (some (.list ds)) → j ≠ i ∧ ρ[j]? = some (some (.list ds)) := fun {j ds} h => by
    rcases setO_get h with ⟨_, e, _⟩ | h
    · cases e
    · exact h
  refine ⟨⟨r.r.ne, by rw [List.length_set, List.length_set, r.r.len], fun j e h hX => ?_, fun j e h hX => ?_⟩, r.s, r.n0, r.nw, r.ne0, fun j hj ds b h1 h2 => ?_, fun j hj l hl ds es b hne h1 h2 h3 h4 => ?_⟩
  · rcases setO_get h with ⟨_, e', _⟩ | ⟨hne, h⟩
    · cases e'
      cases hX
    · obtain ⟨u, e1, h1, h2⟩ := r.r.sl j e h hX
      exact ⟨u, by rw [setS_ne hne]; exact e1, h1, h2⟩
  · rcases setO_get h with ⟨rfl, e', hl⟩ | ⟨hne, h⟩
    · cases e'
      exact ⟨hi, a, c, rfl, rfl, by rw [List.getElem?_set_self (by rw [← r.r.len]; exact hl)]⟩
    · obtain ⟨_, _, _, hx, _⟩ := r.r.sx j e h hX
      rw [hM] at hx
      cases hx
  · obtain ⟨hne, h1⟩ := g h1
    rw [setS_ne hne] at h2
    exact r.ow j hj ds b h1 h2
  · obtain ⟨n1, h1⟩ := g h1
    obtain ⟨n2, h2⟩ := g h2
    rw [setS_ne n1] at h3
    rw [setS_ne n2] at h4
    exact r.inj j hj l hl ds es b hne h1 h2 h3 h4
theorem RelS.toCold (r : RelS K (M.hot a c) N0 H0 N ρ σ H) (he : M.o.e = [i]) : RelS K M N0 H0 N (ρ.set i none) (σ.set i none) H := by
  have g : ∀ {j : Nat} {d : D}, (ρ.set i none)[j]? = some (some d) → j ≠ i ∧ ρ[j]? = some (some d) := fun {j d} h => by
    rcases setO_get h with ⟨_, e, _⟩ | h
    · cases e
    · exact h
  refine ⟨⟨r.r.ne, by rw [List.length_set, List.length_set, r.r.len], fun j e h hX => ?_, fun j e h hX => ?_⟩, r.s, r.n0, r.nw, r.ne0, fun j hj ds b h1 h2 => ?_, fun j hj l hl ds es b hne h1 h2 h3 h4 => ?_⟩
  · obtain ⟨hne, h⟩ := g h
    obtain ⟨u, e1, h1, h2⟩ := r.r.sl j e h hX
    exact ⟨u, by rw [setS_ne hne]; exact e1, h1, h2⟩
  · obtain ⟨hne, h⟩ := g h
    have z : j ∈ M.o.e := (r.r.sx j e h hX).1
    rw [he] at z
    exact absurd (List.mem_singleton.mp z) hne
  · obtain ⟨hne, h1⟩ := g h1
    rw [setS_ne hne] at h2
    exact r.ow j hj ds b h1 h2
  · obtain ⟨n1, h1⟩ := g h1
    obtain ⟨n2, h2⟩ := g h2
    rw [setS_ne n1] at h3
    rw [setS_ne n2] at h4
    exact r.inj j hj l hl ds es b hne h1 h2 h3 h4
theorem post_hot {W W' : WX} {o : Ot} (he : M.o.e = [i]) (s : Same H H1) (q : PostS K M W N0 H0 N H Z (hdlO i o)) : PostS K (M.hot a c) W' N0 H0 N H1 (endG i Z) o := by
  cases o with
  | next ρ' => exact fun σ' H' N' r x => q _ _ _ (r.toCold he) ((Ext.of_same s).trans x)
  | cont ρ' => exact fun σ' H' N' r x => q _ _ _ (r.toCold he) ((Ext.of_same s).trans x)
  | ret d => exact q
  | exc c => exact q.elim
  | bad => exact q.elim
theorem post_hot0 {W W' : WX} {o : Ot} (s : Same H H1) (q : PostS K M W N0 H0 N H Z (hdl0 o)) : PostS K M W' N0 H0 N H1 Z o := by
  cases o with
  | next ρ' => exact fun σ' H' N' r x => q _ _ _ r ((Ext.of_same s).trans x)
  | cont ρ' => exact fun σ' H' N' r x => q _ _ _ r ((Ext.of_same s).trans x)
  | ret d => exact q
  | exc c => exact q.elim
  | bad => exact q.elim
end
section
variable {X : Cx} {M : Ow} {N0 : Addr → Prop} {H0 : Hp} {k : Nat}
theorem names_of {x : Str} (xa : XAll X.K X.mg) (h1 : glB X.env.scope x = true) (h2 : nmB x = true) (h3 : x ∈ tstAll) : Names X x (clsV X.K x) := by
  refine ⟨gl_of h1, (nm_of h2).1, ?_⟩
  by_cases hx : x = ("ValueError" : Str)
  · subst hx
    exact .inr ⟨xa.ve, rfl, by decide⟩
  · refine .inl ?_
    have hm : x ∈ excAll := by
      rcases List.mem_append.mp h3 with z | z
      · exact z
      · exact absurd (List.mem_singleton.mp z) hx
    rw [xa.nm x hm, clsV, if_neg hx]
theorem goodTr {pn : List (Addr × Obj)} {xe : Value → Shared → Prop} (G : GoodS X k) (hp : PassesOwn (model X.prog X.w) X.A X.env xe) : GoodS (X.tr pn xe) k := ⟨⟨G.calm, G.room, G.kind, G.nd, G.bi⟩, hp, G.fn, G.blk, G.stk, G.frm⟩
theorem goodH {a : Addr} {pn : List (Addr × Obj)} (G : GoodS X k) : GoodH (X.suite a pn) k := ⟨⟨G.room.dp, G.room.un⟩, G.nd, G.fn, G.bi⟩
theorem xhot_at {a : Addr} {c : Str} {oe : Obj} {pn : List (Addr × Obj)} (hc : c ∈ excAll) (z : Zc (.ref (He.ga X.K c)) none oe) (ff : ∃ ws, oe.data = .fields ws) : XHot (X.suite a ((a, oe) :: pn)) (M.hot a c) := fun a' c' h => by
  cases h
  exact ⟨hc, oe, List.mem_cons_self, z, ff⟩
variable (hM0 : M.x = none)
include hM0
theorem ss_try1 {i : Nat} {cl n : Str} {b s : MS} {body suite : List Stmt} {s0 : Stmt} {np pos' pos : Pos} (G : GoodS X k) (xa : XAll X.K X.mg) (hN : X.N[i]? = some n) (hn : loc1 X.env.scope n = true) (he : M.o.e = [i]) (h1 : glB X.env.scope cl = true) (h2 : nmB cl = true) (h3 : cl ∈ tstAll)
    (hB : bodyB b = true) (hb : isSs M X.N b X.env.scope body = true) (ob : OkS (sur X.prog X.w X.K X.mg X.base k) b) (hH : hotS s = true) (hs : isSs M X.N s X.env.scope (s0 :: suite) = true) (os : OkS (sur X.prog X.w X.K X.mg X.base k) s) :
    SS X M N0 H0 (.try1 i cl b s) (.Try body [.ExceptHandler (some (.Name cl np)) (some n) (s0 :: suite) pos'] [] [] pos) := fun W tk => by
  have hi : i ∈ M.o.e := by rw [he]; exact List.mem_singleton.mpr rfl
  refine PS.imp (ps_tryR (tb := fun W' => tX X.K M W' N0 H0 (denS b)) (Wy := fun D cls d σ H => ∃ c, c ∈ excAll ∧ cls = .ref (He.ga X.K c) ∧ d = none ∧ (subB c cl = true → ∀ a, H a = none → tS X.K (M.hot a c) (fun _ _ _ _ => False) N0 H0 (denS s) (endG i D) (σ.set i (some (.ref a))) H) ∧
      (subB c cl = false → W (.ref (He.ga X.K c)) none σ H)) G.stk G.frm (fun W' pn xe tk' hp => ?_) (fun D pins σ H a cls d B sI s' L hw => ?_)) ?_
  · exact sx_body (X := X.tr pn xe) hM0 (goodTr G hp) hB hb ob W' tk'
  · obtain ⟨c, hc, rfl, rfl, yes, no⟩ := hw
    exact L.named G.stk G.frm G.nd hN (loc1_of hn) (names_of xa h1 h2 h3) (xa.exm c hc cl h3) (fun _ oe pn z ff => hSs (X := X.suite a ((a, oe) :: pn)) (M := M.hot a c) (xhot_at hc z ff) s (s0 :: suite) (goodH G) hH hs os _ takes_none5)
      (fun q => yes q a L.na) fun q => L.on G.stk G.frm tk (no q)
  · rintro D σ H ⟨ρ, N, r, q⟩
    refine ⟨ρ, N, r, ?_⟩
    have q : PostS X.K M W N0 H0 N H D (tryO (denS b ρ) fun c => match subB c cl with
      | true => hdlO i (denS s (ρ.set i (some (excD c))))
      | false => .exc c) := q
    cases e : denS b ρ with
    | exc c =>
      rw [e] at q
      have q : PostS X.K M W N0 H0 N H D (if c ∈ excAll then (match subB c cl with
        | true => hdlO i (denS s (ρ.set i (some (excD c))))
        | false => .exc c) else .bad) := q
      by_cases hc : c ∈ excAll
      · rw [if_pos hc] at q
        refine fun H' sm => ⟨c, hc, rfl, rfl, fun hy a na => ⟨_, N, (r.same sm).toHot hM0 hi, ?_⟩, fun hn => ?_⟩
        · rw [hy] at q
          exact post_hot he sm q
        · rw [hn] at q
          exact q σ H' (r.s.trans sm)
      · rw [if_neg hc] at q
        exact q.elim
    | next ρ' => rw [e] at q; exact q
    | cont ρ' => rw [e] at q; exact q
    | ret d => rw [e] at q; exact q
    | bad => rw [e] at q; exact q
theorem ss_try2 {i : Nat} {cl n cl2 : Str} {b s s2 : MS} {body suite suite2 : List Stmt} {s0 s02 : Stmt} {np np2 pos' pos2 pos : Pos} (G : GoodS X k) (xa : XAll X.K X.mg) (hN : X.N[i]? = some n) (hn : loc1 X.env.scope n = true) (he : M.o.e = [i]) (h1 : glB X.env.scope cl = true) (h2 : nmB cl = true) (h3 : cl ∈ tstAll)
    (hB : bodyB b = true) (hb : isSs M X.N b X.env.scope body = true) (ob : OkS (sur X.prog X.w X.K X.mg X.base k) b) (hH : hotS s = true) (hs : isSs M X.N s X.env.scope (s0 :: suite) = true) (os : OkS (sur X.prog X.w X.K X.mg X.base k) s)
    (g1 : glB X.env.scope cl2 = true) (g2 : nmB cl2 = true) (g3 : cl2 ∈ tstAll) (hH2 : hotS s2 = true) (hs2 : isSs M X.N s2 X.env.scope (s02 :: suite2) = true) (os2 : OkS (sur X.prog X.w X.K X.mg X.base k) s2) :
    SS X M N0 H0 (.try2 i cl b s cl2 s2) (.Try body [.ExceptHandler (some (.Name cl np)) (some n) (s0 :: suite) pos', .ExceptHandler (some (.Name cl2 np2)) none (s02 :: suite2) pos2] [] [] pos) := fun W tk => by
  have hi : i ∈ M.o.e := by rw [he]; exact List.mem_singleton.mpr rfl
  refine PS.imp (ps_tryR (tb := fun W' => tX X.K M W' N0 H0 (denS b)) (Wy := fun D cls d σ H => ∃ c, c ∈ excAll ∧ cls = .ref (He.ga X.K c) ∧ d = none ∧ (subB c cl = true → ∀ a, H a = none → tS X.K (M.hot a c) (fun _ _ _ _ => False) N0 H0 (denS s) (endG i D) (σ.set i (some (.ref a))) H) ∧
      (subB c cl = false → (subB c cl2 = true → tS X.K M (fun _ _ _ _ => False) N0 H0 (denS s2) D σ H) ∧ (subB c cl2 = false → W (.ref (He.ga X.K c)) none σ H))) G.stk G.frm (fun W' pn xe tk' hp => ?_) (fun D pins σ H a cls d B sI s' L hw => ?_)) ?_
  · exact sx_body (X := X.tr pn xe) hM0 (goodTr G hp) hB hb ob W' tk'
  · obtain ⟨c, hc, rfl, rfl, yes, no⟩ := hw
    exact L.named G.stk G.frm G.nd hN (loc1_of hn) (names_of xa h1 h2 h3) (xa.exm c hc cl h3) (fun _ oe pn z ff => hSs (X := X.suite a ((a, oe) :: pn)) (M := M.hot a c) (xhot_at hc z ff) s (s0 :: suite) (goodH G) hH hs os _ takes_none5)
      (fun q => yes q a L.na) fun q => L.plain G.stk G.frm (names_of xa g1 g2 g3) (xa.exm c hc cl2 g3)
        (fun _ oe pn z ff => hSs (X := X.suite a ((a, oe) :: pn)) (M := M) (fun a' c' h => by rw [hM0] at h; cases h) s2 (s02 :: suite2) (goodH G) hH2 hs2 os2 _ takes_none5) (fun q2 => (no q).1 q2) fun q2 => L.on G.stk G.frm tk ((no q).2 q2)
  · rintro D σ H ⟨ρ, N, r, q⟩
    refine ⟨ρ, N, r, ?_⟩
    have q : PostS X.K M W N0 H0 N H D (tryO (denS b ρ) fun c => match subB c cl with
      | true => hdlO i (denS s (ρ.set i (some (excD c))))
      | false => (match subB c cl2 with
        | true => hdl0 (denS s2 ρ)
        | false => .exc c)) := q
    cases e : denS b ρ with
    | exc c =>
      rw [e] at q
      have q : PostS X.K M W N0 H0 N H D (if c ∈ excAll then (match subB c cl with
        | true => hdlO i (denS s (ρ.set i (some (excD c))))
        | false => (match subB c cl2 with
          | true => hdl0 (denS s2 ρ)
          | false => .exc c)) else .bad) := q
      by_cases hc : c ∈ excAll
      · rw [if_pos hc] at q
        refine fun H' sm => ⟨c, hc, rfl, rfl, fun hy a na => ⟨_, N, (r.same sm).toHot hM0 hi, ?_⟩, fun hn => ⟨fun hy => ⟨ρ, N, r.same sm, ?_⟩, fun hn2 => ?_⟩⟩
        · rw [hy] at q
          exact post_hot he sm q
        · rw [hn, hy] at q
          exact post_hot0 sm q
        · rw [hn, hn2] at q
          exact q σ H' (r.s.trans sm)
      · rw [if_neg hc] at q
        exact q.elim
    | next ρ' => rw [e] at q; exact q
    | cont ρ' => rw [e] at q; exact q
    | ret d => rw [e] at q; exact q
    | bad => rw [e] at q; exact q
end
end Mn
/-! Mn, part P4: what a def handed out is looked at, then spoilt, then forgotten. -/
namespace Mn
open PySem PySem.Spec PyProof.Rows L2
theorem atI0 {α : Type} {x : α} {xs : List α} : atI (x :: xs) 0 = some x := by
  unfold atI ixN
  simp
theorem set_at {σ : L2.St} {i : Nat} {o : Option V} (h : σ[i]? = some o) : σ.set i o = σ := by
  apply List.ext_getElem?
  intro j
  by_cases e : i = j
  · subst e
    rw [List.getElem?_set_self (List.getElem?_eq_some_iff.mp h).1, h]
  · rw [List.getElem?_set_ne e]
section
variable {K : PySem.W.Frag} {M : Ow} {N0 : Addr → Prop} {H0 : Hp} {N : Addr → Prop} {ρ : Env} {σ : L2.St} {H : Hp}
theorem RelS.lay {i : Nat} {v : V} (r : RelS K M N0 H0 N ρ σ H) (hi : i ∉ M) : RelS K M N0 H0 N (ρ.set i none) (σ.set i (some v)) H := by
  have g : ∀ {j : Nat} {d : D}, (ρ.set i none)[j]? = some (some d) → i ≠ j ∧ ρ[j]? = some (some d) := fun {j d} h => by
    rcases setO_get h with ⟨_, e, _⟩ | ⟨n, h⟩
    · cases e
    · exact ⟨fun e => n e.symm, h⟩
  have u : ∀ {j : Nat}, i ≠ j → (σ.set i (some v))[j]? = σ[j]? := fun {j} n => List.getElem?_set_ne n
  refine ⟨⟨r.r.ne, by rw [List.length_set, List.length_set, r.r.len], fun j e h hX => ?_, fun j e h hX => ?_⟩, r.s, r.n0, r.nw, r.ne0, fun j hj ds a h1 h2 => ?_, fun j hj l hl ds es a hne h1 h2 h3 h4 => ?_⟩
  · obtain ⟨n, h⟩ := g h
    obtain ⟨w, e1, z⟩ := r.r.sl j e h hX
    exact ⟨w, by rw [u n]; exact e1, z⟩
  · obtain ⟨n, h⟩ := g h
    obtain ⟨h1, a, c, h2, h3, h4⟩ := r.r.sx j e h hX
    exact ⟨h1, a, c, h2, h3, by rw [u n]; exact h4⟩
  · obtain ⟨n, h⟩ := g h1
    rw [u n] at h2
    exact r.ow j hj ds a h h2
  · obtain ⟨n, h⟩ := g h1
    obtain ⟨n', h'⟩ := g h2
    rw [u n] at h3
    rw [u n'] at h4
    exact r.inj j hj l hl ds es a hne h h' h3 h4
theorem sqt_upd {a p : Addr} {o : HO} {ys zs : List V} (h : H a = some (.lst ys)) (s : SqT K H p zs) : SqT K (upd H a o) p zs := by
  rcases s with (h1 | ⟨q, h1⟩) | h1
  · exact .inl (.inl (by rw [upd_ne (fun e => by rw [e, h] at h1; cases h1)]; exact h1))
  · exact .inl (.inr ⟨q, by rw [upd_ne (fun e => by rw [e, h] at h1; cases h1)]; exact h1⟩)
  · exact .inr h1
/-- what lies at an address that was free may change -/
theorem same_put {Hb : Hp} {a : Addr} {o : HO} (s : Same Hb H) (h : Hb a = none) : Same Hb (upd H a o) := fun b q hb => by
  rw [upd_ne (fun e => by rw [e, h] at hb; cases hb)]
  exact s _ _ hb
theorem jOk_one {e : ME} {d : D} (h : jOk (.one e) d = true) : ∃ l ds, d = .tuple (.list l :: ds) ∧ l.length < sizeLine := by
  cases d with
  | tuple l =>
    match l, h with
    | .list l :: ds, h => exact ⟨l, ds, rfl, of_decide_eq_true h⟩
  | _ => cases h
theorem jOk_all {j : Nat} {e : ME} {d : D} (h : jOk (.all j e) d = true) : ∃ ds, d = .list ds ∧ jPs ds.length ds = true := by
  cases d with
  | list l => exact ⟨l, rfl, h⟩
  | _ => cases h
theorem jPs_items {n : Nat} {Hx : Hp} : ∀ {ds : List D} {xs : List V}, RnAll K H Hx xs ds → jPs n ds = true → ∀ x ∈ xs, ∃ p zs a ys, x = .ref p ∧ SqT K H p zs ∧ atI zs 1 = some (.ref a) ∧ Hx a = none ∧ H a = some (.lst ys) ∧ ys.length + n < sizeLine
  | [], _, h, _, x, hx => by cases h; cases hx
  | d :: ds, _, h, hj, x, hx => by
    cases h with
    | @cons _ v vs _ _ h1 h2 =>
      cases d with
      | tuple l =>
        match l, hj with
        | [d0, .list l], hj =>
          have hj := and3 (show (decide (l.length + n < sizeLine) && jPs n ds) = true from hj)
          rcases List.mem_cons.mp hx with rfl | hx
          · cases h1 with
            | @tup _ p zs _ sq ra =>
              cases ra with
              | cons k0 ra =>
                cases ra with
                | cons k1 ra =>
                  cases ra
                  cases k1 with
                  | @lst _ a ys _ h3 h4 h5 =>
                    exact ⟨p, _, a, ys, rfl, sq, rfl, h3, h4, by rw [h5.length]; exact of_decide_eq_true hj.1⟩
          · exact jPs_items h2 hj.2 x hx
      | _ => cases hj
end
section
variable {X : Cx} {M : Ow} {N0 : Addr → Prop} {H0 : Hp} {k : Nat}
/-- a value v that bears d, new since Hb, stands in slot i -/
structure Jn (X : Cx) (M : Ow) (N0 : Addr → Prop) (H0 : Hp) (i : Nat) (ρ : Env) (N : Addr → Prop) (d : D) (Hb : Hp) (v : V) (σ : L2.St) (H : Hp) : Prop where
  r : RelS X.K M N0 H0 N (ρ.set i none) σ Hb
  s : Same Hb H
  n : Rn X.K H Hb v d
  at_ : σ[i]? = some (some v)
theorem Jn.rel {i : Nat} {ρ : Env} {N : Addr → Prop} {d : D} {Hb : Hp} {v : V} {σ : L2.St} {H : Hp} (j : Jn X M N0 H0 i ρ N d Hb v σ H) (hi : i ∉ M) : RelS X.K M N0 H0 N (ρ.set i (some d)) σ H := by
  have h := (j.r.same j.s).set hi (Rn.rp d v j.r.r.ne j.n)
  rwa [List.set_set, set_at j.at_] at h
def tJ (X : Cx) (M : Ow) (W : WX) (N0 : Addr → Prop) (H0 : Hp) (i : Nat) (g : D → Env → Ot) : TS := fun D σ H => ∃ ρ N d Hb v, Jn X M N0 H0 i ρ N d Hb v σ H ∧ PostS X.K M W N0 H0 N Hb D (g d ρ)
theorem jTs_inv {N : List Str} {sc : Scope} {c : ME} {b : Bool} {ts : List (ME × Bool)} {sts st1 : List Stmt} (h : jTs M N sc ((c, b) :: ts) sts = some st1) : ∃ v kk j0 p0 p1 p2 st, sts = .If v [.Return (some (.Constant (.bool kk) j0 p0)) p1] [] p2 :: st ∧ (if (isE M N c sc v && decide (b = kk)) = true then jTs M N sc ts st else none) = some st1 := by
  rw [jTs.eq_def] at h
  split at h
  · rename_i e1
    cases e1
  · rename_i e1
    cases e1
    exact ⟨_, _, _, _, _, _, _, rfl, h⟩
  · cases h
theorem j_ts (hM0 : M.x = none) {W : WX} (G : GoodS X k) (tk : Takes X W) {i : Nat} (hi : i ∉ M) {g : D → Env → Ot} : ∀ {ts : List (ME × Bool)} {sts st1 : List Stmt}, jTs M X.N X.env.scope ts sts = some st1 → OkT (sur X.prog X.w X.K X.mg X.base k) ts → PSs X st1 (tJ X M W N0 H0 i g) →
    PSs X sts (tJ X M W N0 H0 i fun d ρ => jT ts (ρ.set i (some d)) (g d ρ))
  | [], sts, st1, h, _, hr => by
    cases h
    exact hr
  | (c, b) :: ts, sts, st1, h, o, hr => by
    obtain ⟨v, kk, j0, p0, p1, p2, sts, rfl, hn⟩ := jTs_inv h
    · skip
      by_cases hc : (isE M X.N c X.env.scope v && decide (b = kk)) = true
      · rw [if_pos hc] at hn
        have h1 := and3 hc
        obtain rfl : b = kk := of_decide_eq_true h1.2
        have ih := j_ts hM0 G tk hi (g := g) hn o.2 hr
        refine PSs.imp (pss_cons (ps_if ((sE hM0 c X k v G.toGood h1.1 o.1).2 W tk) (pss_one (ps_ret pe_bl)) pss_nil) ih) ?_
        rintro D σ H ⟨ρ, N, d, Hb, w, j, q⟩
        have q : PostS X.K M W N0 H0 N Hb D ((denE c (ρ.set i (some d)) >>= asBool).ot fun t => match t with
          | true => .ret (.bool b)
          | false => jT ts (ρ.set i (some d)) (g d ρ)) := q
        have rr := j.rel hi
        refine ⟨ρ.set i (some d), N, rr.r, ?_⟩
        dsimp only
        cases e : (denE c (ρ.set i (some d)) >>= asBool) with
        | ok t =>
          rw [e] at q
          intro H1 s1
          cases t with
          | true => exact q (.bl b) H1 (rr.s.trans s1) (RpG.any (.bl b) fun _ z => nomatch z)
          | false => exact ⟨ρ, N, d, Hb, w, ⟨j.r, j.s.trans s1, Rn.same s1 _ _ j.n, j.at_⟩, q⟩
        | exc c =>
          rw [e] at q
          exact fun H' s => q σ H' (rr.s.trans s)
        | bad =>
          rw [e] at q
          exact q.elim
      · rw [if_neg hc] at hn
        cases hn
theorem j_one {W : WX} (tk : Takes X W) {i : Nat} {y : Str} {e : ME} {v : Expr} {rest : MS} {sts : List Stmt} {px pc p ap cp pos : Pos} {jc : Nat} (hN : X.N[i]? = some y) (h2 : visB X.env.scope y = true) (h3 : nmB y = true) (hl : ap.endLine = cp.line) (he : SE X M e v) (hg : gr M e ≠ .loose)
    (hs : starEach [v] X.env = (false, eval v X.env) :: starEach [] X.env) (hr : SSs X M N0 H0 rest sts) :
    PSs X (.Expr (.Call (.Attribute (.Subscript (.Name y px) (.Constant (.int 0) jc pc) p) "append" ap) [v] [] cp) pos :: sts) (tJ X M W N0 H0 i fun d ρ => (jMo i (.one e) d ρ).bind (denS rest)) := by
  refine PSs.imp (pss_cons (ps_expr (pe_bm PySem.F.plainAttrs_list PySem.F.slot_list_append PySem.F.type_list_append mt_append (pe_ix ix_seq (pv_of hN h2 h3) pe_int (fun _ _ => rfl)) (pa_cons (he W tk) pa_nil hs) rfl (few1 hs) (by rw [hl]; exact beq_self_eq_true _) hs rfl)) (hr W tk)) ?_
  rintro D σ H ⟨ρ, N, d, Hb, w, j, q0⟩
  have q1 : PostS X.K M W N0 H0 N Hb D ((if jOk (.one e) d = true then (match denE e (ρ.set i none) with
    | .ok _ => .next (ρ.set i none)
    | _ => .bad) else .bad : Ot).bind (denS rest)) := q0
  clear q0
  by_cases hj : jOk (.one e) d = true
  · rw [if_pos hj] at q1
    obtain ⟨l, ds, rfl, hlen⟩ := jOk_one hj
    cases ee : denE e (ρ.set i none) with
    | ok z =>
      rw [ee] at q1
      have q : PostS X.K M W N0 H0 N Hb D (denS rest (ρ.set i none)) := q1
      obtain ⟨jr, js, jn, ja⟩ := j
      cases jn with
      | @tup _ a xs _ h1 h4 =>
        cases h4 with
        | @cons _ x0 xs' _ _ h5 h6 =>
          cases h5 with
          | @lst _ a' ys _ h7 h8 h9 =>
            refine ⟨.ref a, ja, .inr (.inl ⟨a, _, 0, .ref a', rfl, rfl, h1, atI0, .inl ⟨rfl, ys, .inl (.inl h8)⟩, ?_⟩)⟩
            refine ⟨ρ.set i none, N, (jr.same js).r, ?_⟩
            dsimp only
            rw [ee]
            intro v1 H1 s1 rv1
            exact ⟨a', ys, v1, rfl, rfl, s1 _ _ h8, by rw [h9.length]; exact hlen, ρ.set i none, N, jr.same (same_put (js.trans s1) h7), PostS.adv (Ext.of_same (same_put (js.trans s1) h7)) q⟩
    | exc c => rw [ee] at q1; exact q1.elim
    | bad => rw [ee] at q1; exact q1.elim
  · rw [if_neg hj] at q1
    exact q1.elim
theorem j_all {W : WX} (G : GoodS X k) (tk : Takes X W) {i jj : Nat} {y u : Str} {e : ME} {v : Expr} {rest : MS} {sts : List Stmt} {pu px pu2 pc p ap cp pos pos2 px2 ap2 cp2 pos3 : Pos} {jc : Nat} (hN : X.N[i]? = some y) (h2 : visB X.env.scope y = true) (h3 : nmB y = true)
    (hNj : X.N[jj]? = some u) (hlu : locT X.env.scope u = true) (k2 : visB X.env.scope u = true) (k3 : nmB u = true) (hj : jj ∉ M) (huy : u ≠ y) (hl : ap.endLine = cp.line) (hl2 : ap2.endLine = cp2.line) (he : SE X M e v) (hg : gr M e ≠ .loose)
    (hs : starEach [v] X.env = (false, eval v X.env) :: starEach [] X.env) (hr : SSs X M N0 H0 rest sts) :
    PSs X (.For (.Name u pu) (.Name y px) [.Expr (.Call (.Attribute (.Subscript (.Name u pu2) (.Constant (.int 1) jc pc) p) "append" ap) [v] [] cp) pos] [] pos2 :: .Expr (.Call (.Attribute (.Name y px2) "clear" ap2) [] [] cp2) pos3 :: sts)
      (tJ X M W N0 H0 i fun d ρ => (jMo i (.all jj e) d ρ).bind (denS rest)) := by
  have hij : i ≠ jj := fun e => by
    rw [e, hNj] at hN
    exact huy (Option.some.inj hN)
  refine PSs.imp (pss_cons (ps_for G.own G.calm (pi_list (pv_of hN h2 h3)) (pg_name G.nd hNj (locT_of hlu) (.inl (G.fn u)))
    (pss_one (ps_expr (pe_bm PySem.F.plainAttrs_list PySem.F.slot_list_append PySem.F.type_list_append mt_append (pe_ix ix_seq (pv_of hNj k2 k3) pe_int (fun _ _ => rfl)) (pa_cons (he W tk) pa_nil hs) rfl (few1 hs) (by rw [hl]; exact beq_self_eq_true _) hs rfl))))
    (pss_cons (ps_expr (pe_bm0 PySem.F.plainAttrs_list PySem.F.slot_list_clear PySem.F.type_list_clear mt_clear (pv_of hN h2 h3) rfl (by rw [hl2]; exact beq_self_eq_true _))) (hr W tk))) ?_
  rintro D σ H ⟨ρ, N, d, Hb, w, j, q0⟩
  have q1 : PostS X.K M W N0 H0 N Hb D ((if (decide (jj < ρ.length) && jOk (.all jj e) d) = true then (match denE e ((ρ.set i none).set jj none) with
    | .ok _ => .next ((ρ.set i none).set jj none)
    | _ => .bad) else .bad : Ot).bind (denS rest)) := q0
  clear q0
  by_cases hjk : (decide (jj < ρ.length) && jOk (.all jj e) d) = true
  · rw [if_pos hjk] at q1
    have hjl : jj < ρ.length := of_decide_eq_true (and3 hjk).1
    obtain ⟨ds, rfl, hps⟩ := jOk_all (and3 hjk).2
    cases ee : denE e ((ρ.set i none).set jj none) with
    | ok z =>
      rw [ee] at q1
      have q : PostS X.K M W N0 H0 N Hb D (denS rest ((ρ.set i none).set jj none)) := q1
      obtain ⟨jr, js, jn, ja⟩ := j
      cases jn with
      | @lst _ a0 xs _ h1 h4 h5 =>
        have hl := h5.length
        refine ⟨.ref a0, ja, a0, rfl, ⟨xs, .inl (.inl h4)⟩, for_list (xs := xs) (fun n σ' H' => RelS X.K M N0 H0 N ((ρ.set i none).set jj none) σ' Hb ∧ Same Hb H' ∧ σ'[i]? = some (some (.ref a0)) ∧ H' a0 = some (.lst xs) ∧
          ∀ x ∈ xs, ∃ p zs a ys, x = .ref p ∧ SqT X.K H' p zs ∧ atI zs 1 = some (.ref a) ∧ Hb a = none ∧ a ≠ a0 ∧ H' a = some (.lst ys) ∧ ys.length + (xs.length - n) < sizeLine) ?_ ?_ ?_ ?_⟩
        · refine ⟨jr.drop, js, ja, h4, fun x hx => ?_⟩
          obtain ⟨p, zs, a, ys, e1, e2, e3, e4, e5, e6⟩ := jPs_items h5 hps x hx
          have hne : a ≠ a0 := fun e => by
            rw [e, upd_same] at e4
            cases e4
          rw [upd_ne hne] at e4
          exact ⟨p, zs, a, ys, e1, e2, e3, e4, hne, e5, by rw [hl]; exact e6⟩
        · rintro n σ' H' _ ⟨_, _, _, e, _⟩
          exact .inl (.inl e)
        · rintro n x σ' H' hx ⟨r1, s1, at1, e0, items⟩
          obtain ⟨p, zs, a, ys, rfl, e2, e3, e4, hne, e5, e6⟩ := items _ (List.mem_of_getElem? hx)
          have hlen : jj < σ'.length := by
            rw [← r1.r.len, List.length_set, List.length_set]
            exact hjl
          have hn : n < xs.length := (List.getElem?_eq_some_iff.mp hx).1
          have r2 : RelS X.K M N0 H0 N ((ρ.set i none).set jj none) (σ'.set jj (some (.ref p))) Hb := by
            have z := r1.lay (v := .ref p) hj
            rwa [List.set_set] at z
          refine ⟨.ref p, by rw [List.getElem?_set_self hlen], .inr (.inl ⟨p, zs, 1, .ref a, rfl, rfl, e2, e3, .inl ⟨rfl, ys, .inl (.inl e5)⟩, ?_⟩)⟩
          refine ⟨_, N, (r2.same s1).r, ?_⟩
          dsimp only
          rw [ee]
          intro v1 H1 s2 rv1
          refine ⟨a, ys, v1, rfl, rfl, s2 _ _ e5, by omega, r2, same_put (s1.trans s2) e4, by rw [List.getElem?_set_ne (fun e => hij e.symm)]; exact at1, by rw [upd_ne (fun e => hne e.symm)]; exact s2 _ _ e0, fun x' hx' => ?_⟩
          obtain ⟨p', zs', a', ys', f1, f2, f3, f4, fne, f5, f6⟩ := items x' hx'
          have g5 := s2 _ _ f5
          have g0 := s2 _ _ e5
          by_cases ea : a' = a
          · subst ea
            rw [g0] at g5
            cases g5
            exact ⟨p', zs', a', _, f1, sqt_upd g0 (sqt_same s2 f2), f3, f4, fne, upd_same, by rw [List.length_append, List.length_singleton]; omega⟩
          · exact ⟨p', zs', a', ys', f1, sqt_upd g0 (sqt_same s2 f2), f3, f4, fne, by rw [upd_ne ea]; exact g5, by omega⟩
        · rintro σ' H' ⟨r1, s1, at1, e0, _⟩
          exact ⟨.ref a0, at1, .inl ⟨rfl, xs, .inl (.inl e0)⟩, a0, xs, rfl, rfl, e0, _, N, r1.same (same_put s1 h1), PostS.adv (Ext.of_same (same_put s1 h1)) q⟩
    | exc c => rw [ee] at q1; exact q1.elim
    | bad => rw [ee] at q1; exact q1.elim
  · rw [if_neg hjk] at q1
    exact q1.elim
theorem jMs_one {N : List Str} {sc : Scope} {y : Str} {e : ME} {sts st1 : List Stmt} (h : jMs M N sc y (.one e) sts = some st1) : ∃ x px n jc pc p f ap v cp pos st, sts = .Expr (.Call (.Attribute (.Subscript (.Name x px) (.Constant (.int n) jc pc) p) f ap) [v] [] cp) pos :: st ∧ (if (decide (x = y) && decide (n = 0) && decide (f = ("append" : Str)) && decide (ap.endLine = cp.line) && isE M N e sc v && decide (gr M e ≠ .loose)) = true then some st else none) = some st1 := by
  unfold jMs at h
  split at h
  · rename_i e1
    cases e1
    exact ⟨_, _, _, _, _, _, _, _, _, _, _, _, rfl, h⟩
  · rename_i e1
    cases e1
  · cases h
theorem jMs_all {N : List Str} {sc : Scope} {y : Str} {j : Nat} {e : ME} {sts st1 : List Stmt} (h : jMs M N sc y (.all j e) sts = some st1) : ∃ u pu x px u2 pu2 n jc pc p f ap v cp pos pos2 x2 px2 f2 ap2 cp2 pos3 st, sts = .For (.Name u pu) (.Name x px) [.Expr (.Call (.Attribute (.Subscript (.Name u2 pu2) (.Constant (.int n) jc pc) p) f ap) [v] [] cp) pos] [] pos2 :: .Expr (.Call (.Attribute (.Name x2 px2) f2 ap2) [] [] cp2) pos3 :: st ∧ (if (decide (x = y) && decide (x2 = y) && decide (u2 = u) && decide (N[j]? = some u) && locT sc u && visB sc u && nmB u && decide (j ∉ M) && decide (u ≠ y) && decide (n = 1) && decide (f = ("append" : Str)) && decide (ap.endLine = cp.line) && decide (f2 = ("clear" : Str)) && decide (ap2.endLine = cp2.line) && isE M N e sc v && decide (gr M e ≠ .loose)) = true then some st else none) = some st1 := by
  unfold jMs at h
  split at h
  · rename_i e1
    cases e1
  · rename_i e1
    cases e1
    exact ⟨_, _, _, _, _, _, _, _, _, _, _, _, _, _, _, _, _, _, _, _, _, _, _, rfl, h⟩
  · cases h
theorem j_ms (hM0 : M.x = none) {W : WX} (G : GoodS X k) (tk : Takes X W) {i : Nat} {y : Str} (hN : X.N[i]? = some y) (h2 : visB X.env.scope y = true) (h3 : nmB y = true) {rest : MS} {mu : Jm} {sts st1 : List Stmt} (h : jMs M X.N X.env.scope y mu sts = some st1)
    (o : OkJ (sur X.prog X.w X.K X.mg X.base k) mu) (hr : SSs X M N0 H0 rest st1) : PSs X sts (tJ X M W N0 H0 i fun d ρ => (jMo i mu d ρ).bind (denS rest)) := by
  cases mu with
  | one e =>
    obtain ⟨x, px, n, jc, pc, p, f, ap, v, cp, pos, sts, rfl, hh⟩ := jMs_one h
    · clear h
      split at hh
      · rename_i hc
        cases hh
        have h1 := and3 hc
        have h4 := and3 h1.1
        have h5 := and3 h4.1
        have h6 := and3 h5.1
        have h7 := and3 h6.1
        obtain rfl := of_decide_eq_true h7.1
        obtain rfl := of_decide_eq_true h7.2
        obtain rfl := of_decide_eq_true h6.2
        exact j_one tk hN h2 h3 (of_decide_eq_true h5.2) (sE hM0 e X k v G.toGood h4.2 o).1 (of_decide_eq_true h1.2) (star_of h4.2 _ _) hr
      · cases hh
  | all j e =>
    obtain ⟨u, pu, x, px, u2, pu2, n, jc, pc, p, f, ap, v, cp, pos, pos2, x2, px2, f2, ap2, cp2, pos3, sts, rfl, hh⟩ := jMs_all h
    · clear h
      split at hh
      · rename_i hc
        cases hh
        have a1 := and3 hc
        have a2 := and3 a1.1
        have a3 := and3 a2.1
        have a4 := and3 a3.1
        have a5 := and3 a4.1
        have a6 := and3 a5.1
        have a7 := and3 a6.1
        have a8 := and3 a7.1
        have a9 := and3 a8.1
        have b1 := and3 a9.1
        have b2 := and3 b1.1
        have b3 := and3 b2.1
        have b4 := and3 b3.1
        have b5 := and3 b4.1
        have b6 := and3 b5.1
        obtain rfl := of_decide_eq_true b6.1
        obtain rfl := of_decide_eq_true b6.2
        obtain rfl := of_decide_eq_true b5.2
        obtain rfl := of_decide_eq_true a7.2
        obtain rfl := of_decide_eq_true a6.2
        obtain rfl := of_decide_eq_true a4.2
        exact j_all G tk hN h2 h3 (of_decide_eq_true b4.2) b3.2 b2.2 b1.2 (of_decide_eq_true a9.2) (of_decide_eq_true a8.2) (of_decide_eq_true a5.2) (of_decide_eq_true a3.2) (sE hM0 e X k v G.toGood a2.2 o).1 (of_decide_eq_true a1.2) (star_of a2.2 _ _) hr
      · cases hh
theorem ss_jnk (hM0 : M.x = none) (G : GoodS X k) {i : Nat} {F : List D → R D} {x y : Str} {es : ME} {ts : List (ME × Bool)} {mu : Jm} {rest : MS} {e : Expr} {l : List Expr} {sts st1 st2 : List Stmt} {py p2 p pos : Pos} (hN : X.N[i]? = some y) (hly : locT X.env.scope y = true) (h2 : visB X.env.scope y = true) (h3 : nmB y = true) (hi : i ∉ M)
    (hF : HasNf X.prog X.w X.K X.mg X.base k x F) (g1 : glB X.env.scope x = true) (g2 : nmB x = true) (ha : SA X M es (e :: l)) (hn : noL M es = true)
    (hs : starEach (e :: l) X.env = (false, eval e X.env) :: starEach l X.env) (hpl : (backTo p (starEach l X.env)).any (·.1) = false)
    (ht : jTs M X.N X.env.scope ts sts = some st1) (ot : OkT (sur X.prog X.w X.K X.mg X.base k) ts) (hm : jMs M X.N X.env.scope y mu st1 = some st2) (om : OkJ (sur X.prog X.w X.K X.mg X.base k) mu) (hr : SSs X M N0 H0 rest st2) :
    SSs X M N0 H0 (.jnk i F x es ts mu rest) (.Assign [.Name y py] (.Call (.Name x p2) (e :: l) [] p) pos :: sts) := fun W tk => by
  obtain ⟨f, fd, ps, hf, hlen, hmg, hk, hb⟩ := hF
  refine PSs.imp (pss_cons (ps_set G.nd hN (locT_of hly) (pe_callS (E := WE W) hf G.room (gl_of g1) hmg hk hb (fun σ => passAt tk σ) (ha W tk) (nm_of g2).1 hs hpl) rfl (.inl (G.fn y))) (j_ts hM0 G tk hi ht ot (j_ms hM0 G tk hN h2 h3 hm om hr))) ?_
  rintro D σ H ⟨ρ, N, r, q⟩
  have q : PostS X.K M W N0 H0 N H D ((denEs es ρ).ot fun ds => (F ds).ot fun d => if i < ρ.length then jT ts (ρ.set i (some d)) ((jMo i mu d ρ).bind (denS rest)) else .bad) := q
  refine ⟨ρ, N, r.r, ?_⟩
  dsimp only
  cases ea : denEs es ρ with
  | ok ds =>
    rw [ea] at q
    have q : PostS X.K M W N0 H0 N H D ((F ds).ot fun d => if i < ρ.length then jT ts (ρ.set i (some d)) ((jMo i mu d ρ).bind (denS rest)) else .bad) := q
    intro vs H1 s1 k1
    rw [hn] at k1
    have k1 : RpAll X.K H1 N vs ds := k1
    have r1 := r.same s1
    have q := PostS.adv (Ext.of_same s1) q
    cases eF : F ds with
    | ok d =>
      rw [eF] at q
      have q : PostS X.K M W N0 H0 N H1 D (if i < ρ.length then jT ts (ρ.set i (some d)) ((jMo i mu d ρ).bind (denS rest)) else .bad) := q
      refine ⟨by rw [k1.length]; exact hlen ds (by rw [eF]; exact fun z => nomatch z), N, ds, r1.r.ne, k1, ?_⟩
      rw [eF]
      intro v H2 s2 rn
      by_cases hl : i < ρ.length
      · rw [if_pos hl] at q
        exact ⟨ρ, N, d, H1, v, ⟨r1.lay hi, s2, rn, by rw [List.getElem?_set_self (by rw [← r.r.len]; exact hl)]⟩, q⟩
      · rw [if_neg hl] at q
        exact q.elim
    | exc c =>
      rw [eF] at q
      refine ⟨by rw [k1.length]; exact hlen ds (by rw [eF]; exact fun z => nomatch z), N, ds, r1.r.ne, k1, ?_⟩
      rw [eF]
      exact fun H' s => q σ H' (r1.s.trans s)
    | bad =>
      rw [eF] at q
      exact q.elim
  | exc c =>
    rw [ea] at q
    exact fun H' s => q σ H' (r.s.trans s)
  | bad =>
    rw [ea] at q
    exact q.elim
end
end Mn
/-! Mn, part Q: every statement does what it says; defs. -/
namespace Mn
open PySem PySem.Spec PyProof.Rows L2
section
variable {X : Cx} {M : Ow} {N0 : Addr → Prop} {H0 : Hp} {k : Nat}
theorem swap_of {env : PySem.Env} {px py pt pt2 : Pos} {kt k2 : Nat} {x y : Str} {v w : Expr} (hb : env.blockKind = .function) (hv : starEach [v, w] env = (false, eval v env) :: starEach [w] env) (hw : starEach [w] env = (false, eval w env) :: starEach [] env)
    (nv : ∀ a p, v ≠ .Starred a p) (nw : ∀ a p, w ≠ .Starred a p) (h : swapB env.scope px py x y [v, w] = true) : swappedStores [.Tuple [.Name x px, .Name y py] kt pt] (.Tuple [v, w] k2 pt2) env = pure (some [x, y]) := by
  unfold swapB at h
  have h1 := and3 h
  have h2 := and3 h1.1
  have h3 := and3 h2.1
  have h4 := and3 h3.1
  have h5 := and3 h4.1
  have ex : (env.kindOf x == some .local) = true := by
    show (env.scope.names.lookup x == some .local) = true
    rw [loc1_of h5.1]
    rfl
  have ey : (env.kindOf y == some .local) = true := by
    show (env.scope.names.lookup y == some .local) = true
    rw [loc1_of h5.2]
    rfl
  have el : px.line = py.line := of_decide_eq_true h4.2
  have en : (x == y) = false := by
    have z := h3.2
    rwa [Bool.not_eq_true'] at z
  have ef : [v, w].all (foldedForSure 8) = false := by
    have z := h2.2
    rwa [Bool.not_eq_true'] at z
  have ec : [v, w].all (constantsAlone 8) = false := by
    have z := h1.2
    rwa [Bool.not_eq_true'] at z
  have ed : ([x, y] : List Str).eraseDups = [x, y] := by
    have hne : ¬ (y == x) = true := fun z => by
      have := eq_of_beq z
      subst this
      rw [beq_self_eq_true] at en
      exact Bool.false_ne_true en.symm
    simp [List.eraseDups_cons, hne]
  simp only [swappedStores]
  simp only [List.length_cons, List.length_nil, hb, ex, ey, el, List.filterMap_cons, List.filterMap_nil, List.head?_cons, Option.map_some, Option.getD_some, Expr.pos, beq_self_eq_true, Bool.and_true, if_true, ed, ef, ec]
  rw [if_neg (by decide)]
  refine (if_neg fun z => ?_).trans ?_
  · obtain ⟨u, hu, hz⟩ := List.any_eq_true.mp z
    have nu : ∀ a p, u ≠ .Starred a p := by
      rcases List.mem_cons.mp hu with rfl | hu
      · exact nv
      · rcases List.mem_cons.mp hu with rfl | hu
        · exact nw
        · cases hu
    cases u <;> first | (cases hz; done) | exact nu _ _ rfl
  · rfl
theorem locT_fn {sc : Scope} {x : Str} {f : Str → Bool} (h : ∀ x, f x = true) : locB sc f x = locB sc (fun _ => true) x := by
  unfold locB
  split
  · rfl
  · exact h x
  · rfl
theorem isTs_fn {N : List Str} {sc : Scope} {f : Str → Bool} (h : ∀ x, f x = true) : ∀ (tg : List Nat) (es : List Expr), isT.isTs N sc f tg es = isT.isTs N sc (fun _ => true) tg es
  | [], [] => rfl
  | i :: is, e :: es => by
    cases e with
    | Name x p =>
      show (decide (N[i]? = some x) && locB sc f x && isT.isTs N sc f is es) = (decide (N[i]? = some x) && locB sc (fun _ => true) x && isT.isTs N sc (fun _ => true) is es)
      rw [locT_fn h, isTs_fn h is es]
    | _ => rfl
  | [], _ :: _ => rfl
  | _ :: _, [] => rfl
theorem isT_fn {N : List Str} {sc : Scope} {f : Str → Bool} (h : ∀ x, f x = true) {tg : List Nat} {tup : Bool} {e : Expr} : isT N sc f tg tup e = isT N sc (fun _ => true) tg tup e := by
  cases tup with
  | true =>
    cases e with
    | Tuple es _ _ => exact isTs_fn h tg es
    | _ => rfl
  | false =>
    cases e with
    | Name x _ =>
      cases tg with
      | nil => rfl
      | cons i is =>
        cases is with
        | nil =>
          show (decide (N[i]? = some x) && locB sc f x) = (decide (N[i]? = some x) && locB sc (fun _ => true) x)
          rw [locT_fn h]
        | cons _ _ => rfl
    | _ => rfl
theorem isSs_jnk {N : List Str} {sc : Scope} {i : Nat} {F : List D → R D} {x : Str} {es : ME} {ts : List (ME × Bool)} {mu : Jm} {rest : MS} {sts : List Stmt} (h : isSs M N (.jnk i F x es ts mu rest) sc sts = true) : ∃ y py z pz e l cp pos st, sts = .Assign [.Name y py] (.Call (.Name z pz) (e :: l) [] cp) pos :: st ∧
    (decide (N[i]? = some y) && locT sc y && visB sc y && nmB y && decide (i ∉ M) && decide (x = z) && glB sc x && nmB x && isEs M N es sc (e :: l) && noL M es && (match jTs M N sc ts st with
        | some st1 => (match jMs M N sc y mu st1 with
          | some st2 => isSs M N rest sc st2
          | none => false)
        | none => false)) = true := by
  rw [isSs.eq_def] at h
  split at h
  · rename_i e1
    cases e1
  · rename_i e1
    cases e1
  · rename_i e1
    cases e1
    exact ⟨_, _, _, _, _, _, _, _, _, rfl, h⟩
  · cases h
variable (hM0 : M.x = none)
include hM0
theorem s_out {m : ME} {v : Expr} (G : GoodS X k) (h : isE M X.N m X.env.scope v = true) (o : OkX X k m) (hb : retB2 M m = true) : ∀ W, Takes X W → PE X v (tOut X.K M W N0 H0 (denE m)) := fun W tk => by
  by_cases hv : ∃ i, m = .var i
  · obtain ⟨i, rfl⟩ := hv
    cases v with
    | Name x px =>
      have k0 := and3 h
      have k1 := and3 k0.1
      have k2 := and3 k1.1
      exact out_var (of_decide_eq_true k2.1) k2.2 k1.2 (of_decide_eq_true k0.2)
    | _ => cases h
  · refine out_strict (sE hM0 m X k v G.toGood h o).1 tk ?_
    cases m <;> first | exact of_decide_eq_true hb | exact absurd ⟨_, rfl⟩ hv
mutual
theorem sS : ∀ (m : MS) (st : Stmt), GoodS X k → isS M X.N m X.env.scope st = true → OkS (sur X.prog X.w X.K X.mg X.base k) m → SS X M N0 H0 m st
  | .asg i e, st, G, h, o => by
    cases st with
    | Assign ts v pos =>
      match ts, h with
      | [.Name x px], h =>
        have h1 := and3 h
        have h2 := and3 h1.1
        have h3 := and3 h2.1
        refine sAsg hM0 G (of_decide_eq_true h3.1) h3.2 h2.2 o ?_
        have h4 : (if i ∈ M then decide (gr M e = .fresh) else decide (gr M e ≠ .loose)) = true := h1.2
        by_cases hi : i ∈ M
        · rw [if_pos hi] at h4 ⊢
          exact of_decide_eq_true h4
        · rw [if_neg hi] at h4 ⊢
          exact of_decide_eq_true h4
    | _ => cases h
  | .unp tg e, st, G, h, o => by
    cases st with
    | Assign ts v pos =>
      match ts, h with
      | [t], h =>
        have h1 := and3 h
        have h2 := and3 h1.1
        have h3 := and3 h2.1
        have h4 := and3 h3.1
        have hp := pg_of (X := X) G.calm G.nd (by rw [isT_fn G.fn]; exact h4.1)
        have hM : ∀ j ∈ tg, j ∉ M := fun j hj => of_decide_eq_true (List.all_eq_true.mp h4.2 j hj)
        have hv := h3.2
        have nt := h2.2
        have he := (sE hM0 e X k v G.toGood hv o).1
        have hgr : gr M e ≠ .loose := of_decide_eq_true h1.2
        have ht : ∃ es kk p, t = .Tuple es kk p := by
          cases t <;> first | exact ⟨_, _, _, rfl⟩ | (cases h4.1)
        obtain ⟨es, kk, p, rfl⟩ := ht
        have hw : swappedStores [.Tuple es kk p] v X.env = pure none := by cases v <;> first | rfl | (cases nt)
        have hs : swapsWithSole [.Tuple es kk p] v pos.line X.env = pure false := by
          cases v <;> rfl
        exact ss_unp G hp hM he hgr hs hw rfl
    | _ => cases h
  | .unl tg e, st, G, h, o => by
    cases st with
    | Assign ts v pos =>
      match ts, h with
      | [t], h =>
        have h1 := and3 h
        have h2 := and3 h1.1
        have h3 := and3 h2.1
        have h4 := and3 h3.1
        have hM : ∀ j ∈ tg, j ∉ M := fun j hj => of_decide_eq_true (List.all_eq_true.mp h4.2 j hj)
        have hv := h3.2
        have nt := h2.2
        have he := (sE hM0 e X k v G.toGood hv o).1
        have hgr : gr M e ≠ .loose := of_decide_eq_true h1.2
        have ht : ∃ es kk p, t = .Tuple es kk p := by
          cases t <;> first | exact ⟨_, _, _, rfl⟩ | (cases h4.1)
        obtain ⟨es, kk, p, rfl⟩ := ht
        have hp := pgl_of (X := X) (kk := kk) (p := p) G.calm G.nd (by rw [isT_fn G.fn]; exact h4.1)
        have hw : swappedStores [.Tuple es kk p] v X.env = pure none := by cases v <;> first | rfl | (cases nt)
        have hs : swapsWithSole [.Tuple es kk p] v pos.line X.env = pure false := by
          cases v <;> rfl
        exact ss_unl G hp hM he hgr hs hw rfl
    | _ => cases h
  | .par i j a b, st, G, h, o => by
    cases st with
    | Assign ts v pos =>
      match ts, v, h with
      | [.Tuple [.Name x px, .Name y py] kt pt], .Tuple [v, w] k2 pt2, h =>
        have h1 := and3 h
        have h2 := and3 h1.1
        have h3 := and3 h2.1
        have h4 := and3 h3.1
        have h5 := and3 h4.1
        have h6 := and3 h5.1
        have h7 := and3 h6.1
        have h8 := and3 h7.1
        have h9 := and3 h8.1
        have sw := and3 (and3 (and3 (and3 (and3 h1.2).1).1).1).1
        have st1 := star_of h4.2 [] X.env
        have st2 := star_of h5.2 [w] X.env
        exact ss_par G (of_decide_eq_true h9.1) (of_decide_eq_true h9.2) (of_decide_eq_true h8.2) (of_decide_eq_true h7.2) (of_decide_eq_true h6.2) (of_decide_eq_true h3.2) (of_decide_eq_true h2.2) (loc1_of sw.1) (loc1_of sw.2) (sE hM0 a X k v G.toGood h5.2 o.1).1 (sE hM0 b X k w G.toGood h4.2 o.2).1 st2 st1
          (swap_of G.blk st2 st1 (fun z p e => by rw [e, isE_star] at h5; exact absurd h5.2 Bool.false_ne_true) (fun z p e => by rw [e, isE_star] at h4; exact absurd h4.2 Bool.false_ne_true) h1.2)
    | _ => cases h
  | .aug i q e, st, G, h, o => by
    cases st with
    | AugAssign t p v pos =>
      cases t with
      | Name x px =>
        have h1 := and3 h
        have h2 := and3 h1.1
        have h3 := and3 h2.1
        have h4 := and3 h3.1
        have h5 := and3 h4.1
        exact ss_aug G (of_decide_eq_true h5.1) h5.2 (sE hM0 e X k v G.toGood h4.2 o).1 h3.2 h2.2 (of_decide_eq_true h1.2)
      | _ => cases h
    | _ => cases h
  | .app i e, st, G, h, o => by
    cases st with
    | Expr ex pos =>
      cases ex with
      | Call f args kws cp =>
        match f, args, kws, h with
        | .Attribute (.Name x px) at_ ap, [v], [], h =>
          have h1 := and3 h
          have h2 := and3 h1.1
          have h3 := and3 h2.1
          have h4 := and3 h3.1
          have h5 := and3 h4.1
          have h6 := and3 h5.1
          have h7 := and3 h6.1
          obtain rfl := of_decide_eq_true h5.2
          exact ss_app (of_decide_eq_true h7.1) h7.2 h6.2 (of_decide_eq_true h4.2) (of_decide_eq_true h3.2) (sE hM0 e X k v G.toGood h2.2 o).1 (of_decide_eq_true h1.2) (star_of h2.2 _ _)
      | _ => cases h
    | _ => cases h
  | .appM i j, st, G, h, o => by
    cases st with
    | Expr ex pos =>
      cases ex with
      | Call f args kws cp =>
        match f, args, kws, h with
        | .Attribute (.Name x px) at_ ap, [.Name y py], [], h =>
          have h1 := and3 h
          have h2 := and3 h1.1
          have h3 := and3 h2.1
          have h4 := and3 h3.1
          have h5 := and3 h4.1
          have h6 := and3 h5.1
          have h7 := and3 h6.1
          have h8 := and3 h7.1
          have h9 := and3 h8.1
          have h10 := and3 h9.1
          obtain rfl := of_decide_eq_true h8.2
          exact ss_appM G (of_decide_eq_true h10.1) h10.2 h9.2 (of_decide_eq_true h7.2) (of_decide_eq_true h6.2) (of_decide_eq_true h5.2) h4.2 h3.2 (of_decide_eq_true h2.2) (of_decide_eq_true h1.2)
      | _ => cases h
    | _ => cases h
  | .ins i a e, st, G, h, o => by
    cases st with
    | Expr ex pos =>
      cases ex with
      | Call f args kws cp =>
        match f, args, kws, h with
        | .Attribute (.Name x px) at_ ap, [u, v], [], h =>
          have h1 := and3 h
          have h2 := and3 h1.1
          have h3 := and3 h2.1
          have h4 := and3 h3.1
          have h5 := and3 h4.1
          have h6 := and3 h5.1
          have h7 := and3 h6.1
          have h8 := and3 h7.1
          obtain rfl := of_decide_eq_true h6.2
          exact ss_ins G (of_decide_eq_true h8.1) h8.2 h7.2 (of_decide_eq_true h5.2) (of_decide_eq_true h4.2) (sE hM0 a X k u G.toGood h3.2 o.1).1 (sE hM0 e X k v G.toGood h2.2 o.2).1 (of_decide_eq_true h1.2) (star_of h3.2 _ _) (star_of h2.2 _ _)
      | _ => cases h
    | _ => cases h
  | .setix i a e, st, G, h, o => by
    cases st with
    | Assign ts v pos =>
      match ts, h with
      | [.Subscript (.Name x px) u ps], h =>
        have h1 := and3 h
        have h2 := and3 h1.1
        have h3 := and3 h2.1
        have h4 := and3 h3.1
        have h5 := and3 h4.1
        have h6 := and3 h5.1
        have hu := h3.2
        exact ss_setix G (of_decide_eq_true h6.1) h6.2 h5.2 (of_decide_eq_true h4.2) (plain_of hu) (sE hM0 a X k u G.toGood hu o.1).1 (sE hM0 e X k v G.toGood h2.2 o.2).1 (of_decide_eq_true h1.2) (by cases v <;> rfl) (by cases v <;> rfl)
          (fun w => by cases u <;> first | rfl | (rw [isE_slice] at hu; cases hu))
    | _ => cases h
  | .expr e, st, G, h, o => by
    cases st with
    | Expr v pos =>
      have h1 := and3 h
      exact ss_expr (sE hM0 e X k v G.toGood h1.1 o).1 (by cases v <;> first | rfl | (cases h1.2))
    | _ => cases h
  | .ret chk e, st, G, h, o => by
    cases st with
    | Return v pos =>
      cases v with
      | some v =>
        have h1 := and3 h
        have h2 : (chk || retB M e) = true := h1.2
        rw [Bool.or_eq_true] at h2
        by_cases hv : ∃ i, e = .var i ∧ i ∈ M
        · obtain ⟨i, rfl, hi⟩ := hv
          have hx := h1.1
          cases v with
          | Name x px =>
            have k0 := and3 hx
            have k1 := and3 k0.1
            have k2 := and3 k1.1
            exact ss_retO (of_decide_eq_true k2.1) k2.2 k1.2 hi (of_decide_eq_true k0.2)
          | _ => cases hx
        · refine ss_ret (sE hM0 e X k v G.toGood h1.1 o).1 (h2.imp_right fun z => ?_)
          cases e <;> first | exact of_decide_eq_true z | exact absurd ⟨_, rfl, of_decide_eq_true z⟩ hv
      | none => cases h
    | _ => cases h
  | .ret2 a b, st, G, h, o => by
    cases st with
    | Return v pos =>
      cases v with
      | some v =>
        cases v with
        | Tuple vs j p =>
          match vs, h with
          | [v, w], h =>
            have h1 := and3 h
            have h2 := and3 h1.1
            have h3 := and3 h2.1
            exact ss_ret2 (s_out hM0 G h3.1 o.1 h2.2) (s_out hM0 G h3.2 o.2 h1.2) (star_of h3.1 _ _) (star_of h3.2 _ _)
        | _ => cases h
      | none => cases h
    | _ => cases h
  | .mov i j, st, G, h, o => by
    cases st with
    | Assign ts v pos =>
      match ts, v, h with
      | [.Name x px], .Name y py, h =>
        have h1 := and3 h
        have h2 := and3 h1.1
        have h3 := and3 h2.1
        have h4 := and3 h3.1
        have h5 := and3 h4.1
        have h6 := and3 h5.1
        have h7 := and3 h6.1
        exact ss_mov G (of_decide_eq_true h7.1) h7.2 (of_decide_eq_true h6.2) h5.2 h4.2 (of_decide_eq_true h3.2) (of_decide_eq_true h2.2) (of_decide_eq_true h1.2)
    | _ => cases h
  | .forL i fg tg tup body, st, G, h, o => by
    cases st with
    | For t v p q pos =>
      match v, q, h with
      | .Name x px, [], h =>
        have h1 := and3 h
        have h2 := and3 h1.1
        have h3 := and3 h2.1
        have h4 := and3 h3.1
        have h5 := and3 h4.1
        have h6 := and3 h5.1
        have hM : ∀ j ∈ tg, j ∉ M := fun j hj => of_decide_eq_true (List.all_eq_true.mp h2.2 j hj)
        exact ss_forL G (of_decide_eq_true h6.1) h6.2 h5.2 (of_decide_eq_true h4.2) (pg_of (X := X) G.calm G.nd (by rw [isT_fn G.fn]; exact h3.2)) hM (sSs body p G h1.2 o)
    | _ => cases h
  | .popA j i e, st, G, h, o => by
    cases st with
    | Assign ts v pos =>
      match ts, v, h with
      | [.Name x px], .Call (.Attribute (.Name y py) f ap) [v] [] cp, h =>
        have h1 := and3 h
        have h2 := and3 h1.1
        have h3 := and3 h2.1
        have h4 := and3 h3.1
        have h5 := and3 h4.1
        have h6 := and3 h5.1
        have h7 := and3 h6.1
        have h8 := and3 h7.1
        have h9 := and3 h8.1
        obtain rfl := of_decide_eq_true h4.2
        exact ss_popA G (of_decide_eq_true h9.1) h9.2 (of_decide_eq_true h8.2) (of_decide_eq_true h7.2) h6.2 h5.2 (of_decide_eq_true h3.2) (of_decide_eq_true h2.2) (sE hM0 e X k v G.toGood h1.2 o).1 (star_of h1.2 _ _)
    | _ => cases h
  | .appPop j i e, st, G, h, o => by
    cases st with
    | Expr ex pos =>
      match ex, h with
      | .Call (.Attribute (.Name x px) g bp) [.Call (.Attribute (.Name y py) f ap) [v] [] cp] [] dp, h =>
        have h1 := and3 h
        have h2 := and3 h1.1
        have h3 := and3 h2.1
        have h4 := and3 h3.1
        have h5 := and3 h4.1
        have h6 := and3 h5.1
        have h7 := and3 h6.1
        have h8 := and3 h7.1
        have h9 := and3 h8.1
        have ha := and3 h9.1
        have hb := and3 ha.1
        have hc := and3 hb.1
        have hd := and3 hc.1
        obtain rfl := of_decide_eq_true h5.2
        obtain rfl := of_decide_eq_true ha.2
        exact ss_appPop G (of_decide_eq_true hd.1) hd.2 hc.2 (of_decide_eq_true hb.2) (of_decide_eq_true h9.2) (of_decide_eq_true h8.2) h7.2 h6.2 (of_decide_eq_true h4.2) (of_decide_eq_true h3.2) (sE hM0 e X k v G.toGood h2.2 o).1 (of_decide_eq_true h1.2) (star_of h2.2 _ _)
    | _ => cases h
  | .popE i e, st, G, h, o => by
    cases st with
    | Expr ex pos =>
      match ex, h with
      | .Call (.Attribute (.Name y py) f ap) [v] [] cp, h =>
        have h1 := and3 h
        have h2 := and3 h1.1
        have h3 := and3 h2.1
        have h4 := and3 h3.1
        have h5 := and3 h4.1
        have h6 := and3 h5.1
        obtain rfl := of_decide_eq_true h4.2
        exact ss_popE (of_decide_eq_true h6.1) h6.2 h5.2 (of_decide_eq_true h3.2) (of_decide_eq_true h2.2) (sE hM0 e X k v G.toGood h1.2 o).1 (star_of h1.2 _ _)
    | _ => cases h
  | .retN, st, G, h, o => by
    cases st with
    | Return v pos =>
      cases v with
      | some _ => cases h
      | none => exact ss_retN
    | _ => cases h
  | .rai c m, st, G, h, o => by
    cases st with
    | Raise ex ca pos =>
      match ex, ca, h with
      | some (.Call (.Name x p) [.Constant (.str z) j p2] [] p3), none, h =>
        have h1 := and3 h
        have h2 := and3 h1.1
        have h3 := and3 h2.1
        obtain rfl : c = x := of_decide_eq_true h3.1
        obtain rfl : m = z := of_decide_eq_true h3.2
        exact ss_rai G o h2.2 h1.2
    | _ => cases h
  | .ite c a b, st, G, h, o => by
    cases st with
    | If v p q pos =>
      have h1 := and3 h
      have h2 := and3 h1.1
      exact ss_ite (sE hM0 c X k v G.toGood h2.1 o.1).2 (sSs a p G h2.2 o.2.1) (sSs b q G h1.2 o.2.2)
    | _ => cases h
  | .forS fg tg tup it body, st, G, h, o => by
    cases st with
    | For t v p q pos =>
      match q, h with
      | [], h =>
        have h1 := and3 h
        have h2 := and3 h1.1
        have h3 := and3 h2.1
        have h4 := and3 h3.1
        have hM : ∀ j ∈ tg, j ∉ M := fun j hj => of_decide_eq_true (List.all_eq_true.mp h4.2 j hj)
        exact ss_for G (pg_of (X := X) G.calm G.nd (by rw [isT_fn G.fn]; exact h4.1)) hM (sI hM0 it X k t v G.toGood h3.2 o.1) h2.2 (sSs body p G h1.2 o.2) (folded_of h3.2)
    | _ => cases h
  | .whl fg fuel c body, st, G, h, o => by
    cases st with
    | While v p q pos =>
      match q, h with
      | [], h =>
        have h1 := and3 h
        exact ss_whl G (sE hM0 c X k v G.toGood h1.1 o.1).2 (sSs body p G h1.2 o.2)
    | _ => cases h
  | .cnt, st, G, h, o => by
    cases st with
    | Continue _ => exact ss_cnt
    | _ => cases h
  | .pas, st, G, h, o => by
    cases st with
    | Pass _ => exact ss_pas
    | _ => cases h
  | .try1 i cl b s, st, G, h, o => by
    cases st with
    | Try body hds oe fe pos =>
      match hds, oe, fe, h with
      | [.ExceptHandler (some (.Name x np)) (some n) (s0 :: suite) pos'], [], [], h =>
        have h1 := and3 h
        have h2 := and3 h1.1
        have h3 := and3 h2.1
        have h4 := and3 h3.1
        have h5 := and3 h4.1
        have h6 := and3 h5.1
        have h7 := and3 h6.1
        have h8 := and3 h7.1
        have h9 := and3 h8.1
        have h10 := and3 h9.1
        obtain rfl : cl = x := of_decide_eq_true h8.2
        exact ss_try1 hM0 G o.1 (of_decide_eq_true h10.1) h10.2 (of_decide_eq_true h9.2) h7.2 h6.2 (of_decide_eq_true h5.2) h4.2 h3.2 o.2.1 h2.2 h1.2 o.2.2
    | _ => cases h
  | .try2 i cl b s cl2 s2, st, G, h, o => by
    cases st with
    | Try body hds oe fe pos =>
      match hds, oe, fe, h with
      | [.ExceptHandler (some (.Name x np)) (some n) (s0 :: suite) pos', .ExceptHandler (some (.Name x2 np2)) none (s02 :: suite2) pos2], [], [], h =>
        have h1 := and3 h
        have h2 := and3 h1.1
        have h3 := and3 h2.1
        have h4 := and3 h3.1
        have h5 := and3 h4.1
        have h6 := and3 h5.1
        have h7 := and3 h6.1
        have h8 := and3 h7.1
        have h9 := and3 h8.1
        have h10 := and3 h9.1
        have h11 := and3 h10.1
        have h12 := and3 h11.1
        have h13 := and3 h12.1
        have h14 := and3 h13.1
        have h15 := and3 h14.1
        have h16 := and3 h15.1
        obtain rfl : cl = x := of_decide_eq_true h14.2
        obtain rfl : cl2 = x2 := of_decide_eq_true h6.2
        exact ss_try2 hM0 G o.1 (of_decide_eq_true h16.1) h16.2 (of_decide_eq_true h15.2) h13.2 h12.2 (of_decide_eq_true h11.2) h10.2 h9.2 o.2.1 h8.2 h7.2 o.2.2.1 h5.2 h4.2 (of_decide_eq_true h3.2) h2.2 h1.2 o.2.2.2
    | _ => cases h
  | .nil, st, G, h, o => by cases st <;> cases h
  | .cons _ _, st, G, h, o => by cases st <;> cases h
  | .jnk _ _ _ _ _ _ _, st, G, h, o => by cases st <;> cases h
theorem sSs : ∀ (m : MS) (st : List Stmt), GoodS X k → isSs M X.N m X.env.scope st = true → OkS (sur X.prog X.w X.K X.mg X.base k) m → SSs X M N0 H0 m st
  | .nil, [], G, h, o => ss_nil
  | .cons s r, st :: sts, G, h, o => by
    have h1 := and3 (show (isS M X.N s X.env.scope st && isSs M X.N r X.env.scope sts) = true from h)
    exact ss_cons (sS s st G h1.1 o.1) (sSs r sts G h1.2 o.2)
  | .jnk i F x es ts mu rest, sts, G, h, o => by
    obtain ⟨y, py, z, pz, e, l, cp, pos, sts, rfl, hq⟩ := isSs_jnk h
    · clear h
      have h : (decide (X.N[i]? = some y) && locT X.env.scope y && visB X.env.scope y && nmB y && decide (i ∉ M) && decide (x = z) && glB X.env.scope x && nmB x && isEs M X.N es X.env.scope (e :: l) && noL M es && (match jTs M X.N X.env.scope ts sts with
        | some st1 => (match jMs M X.N X.env.scope y mu st1 with
          | some st2 => isSs M X.N rest X.env.scope st2
          | none => false)
        | none => false)) = true := hq
      have a1 := and3 h
      have a2 := and3 a1.1
      have a3 := and3 a2.1
      have a4 := and3 a3.1
      have a5 := and3 a4.1
      have a6 := and3 a5.1
      have a7 := and3 a6.1
      have a8 := and3 a7.1
      have a9 := and3 a8.1
      have b1 := and3 a9.1
      obtain rfl : x = z := of_decide_eq_true a6.2
      have hz := a1.2
      cases e1 : jTs M X.N X.env.scope ts sts with
      | none => rw [e1] at hz; cases hz
      | some st1 =>
        rw [e1] at hz
        have hz : (match jMs M X.N X.env.scope y mu st1 with
          | some st2 => isSs M X.N rest X.env.scope st2
          | none => false) = true := hz
        cases e2 : jMs M X.N X.env.scope y mu st1 with
        | none => rw [e2] at hz; cases hz
        | some st2 =>
          rw [e2] at hz
          cases es with
          | cons m ms =>
            have q := and3 (show (isE M X.N m X.env.scope e && isEs M X.N ms X.env.scope l) = true from a3.2)
            exact ss_jnk hM0 G (of_decide_eq_true b1.1) b1.2 a9.2 a8.2 (of_decide_eq_true a7.2) o.1 a5.2 a4.2 (sEs hM0 (.cons m ms) X k (e :: l) G.toGood a3.2 o.2.1) a2.2 (star_of q.1 _ _) (backAny X.env cp ms l q.2) e1 o.2.2.1 e2 o.2.2.2.1 (sSs rest st2 G hz o.2.2.2.2)
          | _ => cases a3.2
  | .nil, _ :: _, _, h, _ => by cases h
  | .cons _ _, [], _, h, _ => by cases h
  | .asg _ _, _, _, h, _ | .unp _ _, _, _, h, _ | .unl _ _, _, _, h, _ | .par _ _ _ _, _, _, h, _ | .aug _ _ _, _, _, h, _ | .app _ _, _, _, h, _ | .appM _ _, _, _, h, _ | .ins _ _ _, _, _, h, _ | .setix _ _ _, _, _, h, _ | .expr _, _, _, h, _ | .ret _ _, _, _, h, _ | .retN, _, _, h, _ | .ret2 _ _, _, _, h, _ | .mov _ _, _, _, h, _ | .forL _ _ _ _ _, _, _, h, _ | .popA _ _ _, _, _, h, _ | .appPop _ _ _, _, _, h, _ | .popE _ _, _, _, h, _ | .rai _ _, _, _, h, _
  | .ite _ _ _, _, _, h, _ | .forS _ _ _ _ _, _, _, h, _ | .whl _ _ _ _, _, _, h, _ | .cnt, _, _, h, _ | .pas, _, _, h, _ | .try1 _ _ _ _, _, _, h, _ | .try2 _ _ _ _ _ _, _, _, h, _ => by cases h
end
end
end Mn
/-! Mn, part R: defs, laws. -/
namespace Mn
open PySem PySem.Spec PyProof.Rows L2
/-- a def: names, how many of them are parameters, owned slots, text, slots of caught exceptions -/
structure MDef where
  N : List Str
  np : Nat
  M : List Nat
  body : MS
  e : List Nat := []
abbrev MDef.os (d : MDef) : Os := ⟨d.M, d.e⟩
abbrev MDef.ow (d : MDef) : Ow := ⟨d.os, none⟩
def endR : Ot → R D
  | .next _ => .ok .none
  | .ret d => .ok d
  | .exc c => .exc c
  | _ => .bad
def env0 (n : Nat) (ds : List D) : Env := ds.map some ++ List.replicate (n - ds.length) none
def run (d : MDef) (ds : List D) : R D := if ds.length = d.np then endR (denS d.body (env0 d.N.length ds)) else .bad
theorem run_len {d : MDef} {ds : List D} (h : run d ds ≠ .bad) : ds.length = d.np := by
  unfold run at h
  split at h
  · assumption
  · exact absurd rfl h
def scopeB (N : List Str) (np : Nat) (sc : Scope) : Bool :=
  (match sc.kind with | .function => true | _ => false) && !sc.isCoroutine && !sc.isGenerator && decide N.Nodup && decide (np ≤ N.length) && (N.take np).all (fun x => locT sc x) && sc.names.all (fun y => match y.2 with | .free => false | _ => true)
theorem scope_of {N : List Str} {np : Nat} {sc : Scope} (h : scopeB N np sc = true) : FnScope N (N.take np) sc ∧ (N.take np).length = np := by
  unfold scopeB at h
  have h1 := and3 h
  have h2 := and3 h1.1
  have h3 := and3 h2.1
  have h4 := and3 h3.1
  have h5 := and3 h4.1
  have h6 := and3 h5.1
  have hl : (N.take np).length = np := by
    rw [List.length_take]
    have := of_decide_eq_true h3.2
    omega
  have hk : sc.kind = .function := by
    have z := h6.1
    split at z
    · assumption
    · cases z
  refine ⟨⟨hk, ?_, ?_, of_decide_eq_true h4.2, by rw [hl], fun x hx => locT_of (List.all_eq_true.mp h2.2 x hx), fun y hy e => ?_⟩, hl⟩
  · have z := h6.2
    rwa [Bool.not_eq_true'] at z
  · have z := h5.2
    rwa [Bool.not_eq_true'] at z
  · have z := List.all_eq_true.mp h1.2 y hy
    rw [e] at z
    cases z
/-- the def is the text -/
def isDef (d : MDef) (body : List Stmt) (sc : Scope) : Bool := scopeB d.N d.np sc && d.M.all (fun i => decide (d.np ≤ i)) && isSs d.os d.N d.body sc body
section
variable {P : Program} {w : World} {K : PySem.W.Frag} {mg : Str → Option Value} {base : Heap} {k : Nat}
theorem start_get {N : List Str} {vs : List V} {i : Nat} {v : V} (h : vs[i]? = some v) : (L2.start N vs)[i]? = some (some v) := by
  unfold L2.start
  have hi : i < vs.length := (List.getElem?_eq_some_iff.mp h).1
  rw [List.getElem?_append_left (by rw [List.length_map]; exact hi), List.getElem?_map, h]
  rfl
theorem env0_get {n : Nat} {ds : List D} {i : Nat} {d : D} (h : (env0 n ds)[i]? = some (some d)) : ds[i]? = some d := by
  unfold env0 at h
  by_cases hi : i < ds.length
  · rw [List.getElem?_append_left (by rw [List.length_map]; exact hi), List.getElem?_map] at h
    cases e : ds[i]? with
    | some z => rw [e] at h; cases h; rfl
    | none => rw [e] at h; cases h
  · rw [List.getElem?_append_right (by rw [List.length_map]; omega)] at h
    obtain ⟨hl, e⟩ := List.getElem?_eq_some_iff.mp h
    rw [List.getElem_replicate] at e
    cases e
theorem def_ok {x : Str} {d : MDef} {params : Arguments} {body : List Stmt} {scope : Scope} {f : Addr} {fd : FuncData} (F : FunD K x x params body scope [] [] f fd) (hd : isDef d body scope = true) (bi : ∀ x ∈ biNames, mg x = none)
    (o : OkS (sur P w K mg base k) d.body) : FnOk P w K mg base (L2.CX P w) (k + 1) f fd (d.N.take d.np) (spD K (d.N.take d.np).length (run d)) := by
  unfold isDef at hd
  have h1 := and3 hd
  have h2 := and3 h1.1
  obtain ⟨S, hl⟩ := scope_of h2.1
  have hM : ∀ i ∈ d.M, d.np ≤ i := fun i hi => of_decide_eq_true (List.all_eq_true.mp h2.2 i hi)
  refine F.ok S (fun vs H Q E q => q.1) fun cdv A outer s H vs Q E hr q => ?_
  obtain ⟨hvs, N0, ds, ne, ra, post⟩ := q
  have G : GoodS (cxOf (L2.CX P w) P w K mg base d.N x scope f cdv A outer s H E) k :=
    ⟨⟨rfl, hr, S.kind, S.nd, bi⟩, passes_of rfl, fun _ => rfl, by
      show (if scope.kind.isAnnotationScope then ScopeKind.function else scope.kind) = .function
      rw [S.kind]
      rfl, rfl, rfl⟩
  have tk : Takes (cxOf (L2.CX P w) P w K mg base d.N x scope f cdv A outer s H E) (fun cls d _ H => E cls d H) := takes_of rfl rfl rfl rfl
  refine ⟨_, sSs (M := d.ow) (N0 := N0) (H0 := H) rfl d.body body G h1.2 o _ tk, env0 d.N.length ds, N0, ?_, ?_⟩
  · refine ⟨⟨ne, ?_, fun i e h hX => ?_, fun i e h hX => ?_⟩, Same.refl _, fun _ z => z, fun _ z => .inl z, ne, fun i hi es a h _ => ?_, fun i hi j hj es fs a _ h _ _ _ => ?_⟩
    · unfold env0 L2.start
      rw [List.length_append, List.length_append, List.length_map, List.length_map, List.length_replicate, List.length_replicate, ra.length]
    · have h := env0_get h
      obtain ⟨v, hv, rv⟩ := ra.get h
      refine ⟨v, start_get hv, fun hi => ?_, fun _ => rv⟩
      have z := hM i hi
      have := (List.getElem?_eq_some_iff.mp h).1
      rw [← ra.length, hvs, hl] at this
      omega
    · obtain ⟨v, hv, rv⟩ := ra.get (env0_get h)
      rw [rv.noX] at hX
      cases hX
    all_goals
      have h := env0_get h
      have z := hM i hi
      have := (List.getElem?_eq_some_iff.mp h).1
      rw [← ra.length, hvs, hl] at this
      omega
  · have post : Post .fresh K H N0 E (if ds.length = d.np then endR (denS d.body (env0 d.N.length ds)) else .bad) Q := post
    rw [if_pos (by rw [← ra.length, hvs, hl])] at post
    cases e : denS d.body (env0 d.N.length ds) with
    | next ρ => rw [e] at post; exact fun σ' H' N' r x => post _ _ r.s (RpG.any .non fun _ z => nomatch z)
    | cont ρ => rw [e] at post; exact post.elim
    | ret d => rw [e] at post; exact post
    | exc c => rw [e] at post; exact fun σ' H' s => post H' s
    | bad => rw [e] at post; exact post.elim
theorem def_has {x : Str} {d : MDef} {params : Arguments} {body : List Stmt} {scope : Scope} {f : Addr} {fd : FuncData} (F : FunD K x x params body scope [] [] f fd) (hd : isDef d body scope = true)
    (hb : ∀ (kV doc pm : Value) (an : Option Addr) (cdv ct : Value) (us : List Value), us.length = (d.N.take d.np).length → bindArgs (PySem.W.fnOf x x params body scope .none kV doc pm an cdv ct) ⟨us, []⟩ = pure ((d.N.take d.np).zip us)) (bi : ∀ x ∈ biNames, mg x = none)
    (o : OkS (sur P w K mg base k) d.body) (hm : mg x = some (.ref f)) : HasFn P w K mg base (k + 1) x (run d) := by
  have hl : (d.N.take d.np).length = d.np := by
    unfold isDef at hd
    exact (scope_of (and3 (and3 hd).1).1).2
  exact ⟨f, fd, d.N.take d.np, def_ok F hd bi o, fun ds h => by rw [hl]; exact run_len h, hm, F.kp, FunD.bindsN F hb⟩
/-! ### a def that is handed a caught exception -/
/-- .. its one parameter; nothing else is called there but isinstance -/
def isDefX (d : MDef) (body : List Stmt) (sc : Scope) : Bool := scopeB d.N d.np sc && decide (d.np = 1) && decide (d.e = [0]) && d.M.all (fun i => decide (1 ≤ i)) && hotS d.body && isSs d.os d.N d.body sc body
theorem defx_ok {x y : Str} {d : MDef} {params : Arguments} {body : List Stmt} {scope : Scope} {f : Addr} {fd : FuncData} (F : FunD K x x params body scope [] [] f fd) (hd : isDefX d body scope = true) (hy : d.N.take 1 = [y]) (bi : ∀ x ∈ biNames, mg x = none)
    (o : OkS (sur P w K mg base k) d.body) : FnX P w K mg base (k + 1) f fd y (run d) := by
  unfold isDefX at hd
  have h1 := and3 hd
  have h2 := and3 h1.1
  have h3 := and3 h2.1
  have h4 := and3 h3.1
  have h5 := and3 h4.1
  obtain ⟨S, hl⟩ := scope_of h5.1
  have hnp : d.np = 1 := of_decide_eq_true h5.2
  have he : d.e = [0] := of_decide_eq_true h4.2
  have hM : ∀ i ∈ d.M, 1 ≤ i := fun i hi => of_decide_eq_true (List.all_eq_true.mp h3.2 i hi)
  rw [hnp, hy] at S
  obtain ⟨oc, od, dV, kV, doc, pm, an, cdv, ct, osl, rfl, lk, hcd, _, _⟩ := F.ex
  intro A outer s H args Q p c N hr hpin hc hz ff e0 hb ne post
  have KX : K.In s.heap := e0.mod.kin.keeps fun b o e => (e0.bs b o e).1
  have lim : s.heap.NoLimit := e0.mod.nolimit.keeps fun b o e => (e0.bs b o e).1
  have hb : BindsTo s _ args ([y].zip [Value.ref p.1]) := hb
  have hkd : ∀ z ∈ [y].zip [Value.ref p.1], scope.names.lookup z.1 = some .local ∨ (scope.names.lookup z.1 = some .cell ∧ ((cellsFrom (s.heap.objs.size + 1) scope.names []).lookup z.1).isSome = true) := fun ⟨n, v⟩ hz => by
    rcases S.par n (List.of_mem_zip hz).1 with q | q
    · exact .inl q
    · exact .inr ⟨q, PySem.W.cellsFrom_some _ _ _ (.inl q)⟩
  refine codeAny_call_function (L2H.RoomH.depth hr) (KX _ _ lk) rfl S.co S.gen rfl (PySem.W.codeRec_of KX hcd) (hb _ _ _ _ (wpAny_newFunctionEnv_cells S.kind hkd fun env ee s1 xc => ?_))
  subst ee
  refine ⟨lim.keeps xc.toInCall.keep, codeAny_func ?_⟩
  have rv : Vals [V.ref p.1] [Value.ref p.1] := .cons rfl .nil
  have I : Inv (L2H.cxH (L2.CX P w) P w K mg base d.N x scope f cdv A outer s H (fun _ _ _ => False) p) [] (L2.start d.N [V.ref p.1]) H s1 := L2H.inv_startH (ps := [y]) S hpin e0 rfl rv xc
  have G : GoodH (L2H.cxH (L2.CX P w) P w K mg base d.N x scope f cdv A outer s H (fun _ _ _ => False) p) k := ⟨L2H.RoomH.deeper hr _, S.nd, fun _ => rfl, bi⟩
  have hx : XHot (L2H.cxH (L2.CX P w) P w K mg base d.N x scope f cdv A outer s H (fun _ _ _ => False) p) ⟨d.os, some (p.1, c)⟩ := fun a' c' h => by
    cases h
    exact ⟨hc, p.2, List.mem_singleton.mpr rfl, hz, ff⟩
  have run1 := hSs (N0 := N) (H0 := H) hx d.body body G h2.2 h1.2 o (fun _ _ _ _ => False) takes_none5
  have post : Post .fresh K H N (fun _ _ _ => False) (if ([excD c] : List D).length = d.np then endR (denS d.body (env0 d.N.length [excD c])) else .bad) Q := post
  rw [if_pos (by rw [hnp]; rfl)] at post
  have hlen : 1 ≤ d.N.length := by
    have z := congrArg List.length hy
    rw [List.length_take] at z
    have z : min 1 d.N.length = 1 := z
    omega
  have q0 : tS K ⟨d.os, some (p.1, c)⟩ (fun _ _ _ _ => False) N H (denS d.body) { nx := fun _ H' => Q .non H', rt := Q } (L2.start d.N [V.ref p.1]) H := by
    have g : ∀ {i : Nat} {z : D}, (env0 d.N.length [excD c])[i]? = some (some z) → i = 0 ∧ z = excD c := fun {i z} h => by
      have h := env0_get h
      cases i with
      | zero => exact ⟨rfl, (Option.some.inj h).symm⟩
      | succ j => cases h
    refine ⟨env0 d.N.length [excD c], N, ⟨⟨ne, ?_, fun i z h hX => ?_, fun i z h hX => ?_⟩, Same.refl _, fun _ z => z, fun _ z => .inl z, ne, fun i hi es a h _ => ?_, fun i hi j hj es fs a _ h _ _ _ => ?_⟩, ?_⟩
    · unfold env0 L2.start
      rw [List.length_append, List.length_append, List.length_map, List.length_map, List.length_replicate, List.length_replicate]
      rfl
    · obtain ⟨_, rfl⟩ := g h
      cases hX
    · obtain ⟨rfl, rfl⟩ := g h
      refine ⟨?_, p.1, c, rfl, rfl, start_get rfl⟩
      show 0 ∈ d.e
      rw [he]
      exact List.mem_singleton.mpr rfl
    · obtain ⟨_, z⟩ := g h
      cases z
    · obtain ⟨_, z⟩ := g h
      cases z
    · cases e : denS d.body (env0 d.N.length [excD c]) with
      | next ρ => rw [e] at post; exact fun σ' H' N' r x => post _ _ r.s (RpG.any .non fun _ z => nomatch z)
      | cont ρ => rw [e] at post; exact post.elim
      | ret d => rw [e] at post; exact post
      | exc c => rw [e] at post; exact fun σ' H' s => post H' s
      | bad => rw [e] at post; exact post.elim
  refine wpAny_mono (run1.run [] s1 _ H _ I q0) (fun fl s' q => ?_) fun e s' q => q
  have fin : ∀ {σ' : L2.St} {H' : Hp} {v : V} {u : Value}, Inv (L2H.cxH (L2.CX P w) P w K mg base d.N x scope f cdv A outer s H (fun _ _ _ => False) p) [] σ' H' s' → RelV v u → Q v H' → CE outer P w H s Q u s' := fun J r q => ⟨_, _, J.os, J.bare, J.base, J.hok, r, q⟩
  cases fl with
  | ret u =>
    obtain ⟨_, _, _, J, r, q⟩ := q
    exact fin J r q
  | next =>
    obtain ⟨_, _, J, q⟩ := q
    exact fin (v := V.non) (u := Value.none) J rfl q
  | brk =>
    obtain ⟨_, _, _, q⟩ := q
    exact q.elim
  | cont =>
    obtain ⟨_, _, _, q⟩ := q
    exact q.elim
theorem def_hasX {x y : Str} {d : MDef} {params : Arguments} {body : List Stmt} {scope : Scope} {f : Addr} {fd : FuncData} (F : FunD K x x params body scope [] [] f fd) (hd : isDefX d body scope = true) (hy : d.N.take 1 = [y])
    (hb : ∀ (kV doc pm : Value) (an : Option Addr) (cdv ct : Value) (us : List Value), us.length = (d.N.take d.np).length → bindArgs (PySem.W.fnOf x x params body scope .none kV doc pm an cdv ct) ⟨us, []⟩ = pure ((d.N.take d.np).zip us)) (bi : ∀ x ∈ biNames, mg x = none)
    (o : OkS (sur P w K mg base k) d.body) (hm : mg x = some (.ref f)) : HasFx P w K mg base (k + 1) x (run d) := by
  have hnp : d.np = 1 := by
    unfold isDefX at hd
    exact of_decide_eq_true (and3 (and3 (and3 (and3 (and3 hd).1).1).1).1).2
  rw [hnp, hy] at hb
  exact ⟨f, fd, y, defx_ok F hd hy bi o, hm, F.kp, FunD.bindsN F hb⟩
end
/-! ### a law -/
theorem sq_rp {K : PySem.W.Frag} {H : Hp} {a : Addr} {ns : List Int} (h : SqL K H a (ns.map V.int)) : Rp K H (fun _ => False) (.ref a) (.list (ns.map .int)) :=
  .lst (h.elim (fun r => .inl ⟨id, r⟩) .inr) (RpAll.ofInts ns)
theorem law_sp {K : PySem.W.Frag} {F : List D → R D} {H : Hp} {a : Addr} {ns : List Int} (h : SqL K H a (ns.map V.int)) (hF : F [.list (ns.map .int)] = .ok (.bool true)) : spD K 1 F [.ref a] H (fun v _ => v = .bl true) fun _ _ _ => False :=
  ⟨rfl, fun _ => False, [.list (ns.map .int)], fun _ z => z.elim, .cons (sq_rp h) .nil, by
    rw [hF]
    exact fun v H' s r => RpL.bl_inv (N := fun _ => False) r.l⟩
theorem walk_m {l : PySem.W.OpenLaw} {n k : Nat} {q : Program} {loose : List Str} {XP : (Str → Option Value) → Heap → Prop} {YP : World → Heap → Prop} {d : DefRec} {F : List D → R D} (hn : l.most = some n) (hn2 : n ≤ sizeLine) (hdf : d.params.defaults = []) (hr : Room k callerA)
    (H : ∀ (w : World) (mg : Str → Option Value) (fa : Addr) (h : Heap), YP w h → h.Ns mainGlobals mg → mg d.name = some (.ref fa) → ∃ (K : PySem.W.Frag) (fd : FuncData) (x : Str), K.In h ∧ (∀ (s : Shared) (u : Value), BindsTo s fd ⟨[u], []⟩ [(x, u)]) ∧
      ∀ base : Heap, K.In base → base.Ns mainGlobals mg → FnOk l.prog w K mg base (L2.CX l.prog w) k fa fd [x] (spD K 1 F))
    (hF : ∀ ns : List Int, ns.length ≤ n → (∀ z ∈ ns, Builtin.Int.intBits z ≤ 1048576) → F [.list (ns.map .int)] = .ok (.bool true)) : PySem.W.WalkO q loose XP YP l.row.toRowW d [] (fun f vs => PySem.call f vs) :=
  Att.attach_callB hn hdf fun w s₀ s₁ mg mb fa o pm cd doc a vs ns G Y ho hd hcd hmg hobj hints hlen hbits hg =>
    let ⟨K, fd, x, KX, hb, hk⟩ := H w mg fa _ Y G.T.g hmg
    law_call KX G.T.g G.T.b G.T.builtins G.T.nolimit hg hobj hints (Nat.le_trans hlen hn2) hr hk hb (fun H hO hS => law_sp hS (hF ns hlen hbits)) fun H e s' c => by
      obtain ⟨_, _, _, _, _, _, _, _, _, _, _, _, z⟩ := c
      exact z
end Mn
/-! Mn, part S: defs that hand out new data, to any depth. -/
namespace Mn
open PySem PySem.Spec PyProof.Rows L2
/-- terms whose value is new -/
inductive NE where
  | fr (m : ME) | st (m : ME)
  | tp (a b : NE)
  | cm (own : List (Str × Nat)) (tg : List Nat) (tup : Bool) (it cond : ME) (elt : NE)
def compN (own tg : List Nat) (tup : Bool) (cond : ME) (elt : Env → R D) (ρ : Env) (d : D) : R (Option D) :=
  bindT tg tup d (wipeE ρ own) >>= fun ρ' => denC cond ρ' >>= fun k => if k = true then elt ρ' >>= fun y => .ok (some y) else .ok none
def denN : NE → Env → R D
  | .fr m, ρ => denE m ρ >>= fun d => if nwB d = true then .ok d else .bad
  | .st m, ρ => denE m ρ >>= fun d => if lf d = true then .ok d else .bad
  | .tp a b, ρ => denN a ρ >>= fun x => denN b ρ >>= fun y => .ok (.tuple [x, y])
  | .cm own tg tup it cond elt, ρ => denI it ρ >>= fun ds => noexc (filt (compN (own.map (·.2)) tg tup cond (denN elt) ρ) ds) >>= fun r => if r.length ≤ sizeLine then .ok (.list r) else .bad
def isN (M : Os) (N : List Str) : NE → Scope → Expr → Bool
  | .fr m, sc, e => isE M N m sc e && decide (gr M m = .fresh)
  | .st m, sc, e => isE M N m sc e && decide (gr M m ≠ .loose)
  | .tp a b, sc, .Tuple [v, w] _ _ => isN M N a sc v && isN M N b sc w
  | .cm own tg tup it cond elt, sc, .ListComp e [⟨t, i, ifs, 0⟩] scope _ => blkC N sc scope own && tg.all (fun j => decide (j ∈ own.map (·.2))) && tg.all (fun j => decide (j ∉ M)) && (own.map (·.2)).all (fun j => decide (j ∉ M)) &&
      isT N (relS scope sc) (fun x => scope.names.lookup x == some .cell) tg tup t && isI M N it sc t i && isC M N cond (relS scope sc) ifs && isN M N elt (relS scope sc) e
  | _, _, _ => false
def OkN (S : Sur) : NE → Prop
  | .fr m | .st m => OkM S m
  | .tp a b => OkN S a ∧ OkN S b
  | .cm _ _ _ it cond elt => OkM S it ∧ OkM S cond ∧ OkN S elt
def tN (K : PySem.W.Frag) (M : Ow) (W : WX) (f : Env → R D) : TE := fun σ H Q => ∃ ρ N, RelE K M N ρ σ H ∧ match f ρ with
  | .ok d => ∀ v H', Same H H' → Rn K H' H v d → Q v H'
  | .exc c => ∀ H', Same H H' → W (.ref (He.ga K c)) none σ H'
  | .bad => False
def SN (X : Cx) (M : Ow) (f : Env → R D) (e : Expr) : Prop := ∀ W, Takes X W → PE X e (tN X.K M W f)
section
variable {K : PySem.W.Frag} {H' : Hp}
mutual
theorem Rn.put {Dn : Addr} {o : HO} {ys : List V} (hD : H' Dn = some (.lst ys)) : ∀ (d : D) (v : V) {H : Hp}, H Dn ≠ none → Rn K H' H v d → Rn K (upd H' Dn o) H v d
  | .none, _, _, _, h => by cases h; exact .non
  | .bool b, _, _, _, h => by cases h; exact .bl b
  | .int i, _, _, _, h => by cases h; exact .int i
  | .str x, _, _, _, h => by cases h; exact .str x
  | .list ds, _, _, n, h => by
    cases h with
    | @lst _ a xs _ h1 h2 h3 =>
      have hne : a ≠ Dn := fun e => n (by rw [← e]; exact h1)
      exact .lst h1 (by rw [upd_ne hne]; exact h2) (RnAll.put hD ds _ (upd_nn (N := fun b => b = Dn) (fun b e => by rw [e]; exact n) _ (.inl rfl)) h3)
  | .tuple ds, _, _, n, h => by
    cases h with
    | tup h1 h2 =>
      refine .tup ?_ (RnAll.put hD ds _ n h2)
      rcases h1 with (h1 | ⟨o, h1⟩) | h1
      · exact .inl (.inl (by rw [upd_ne (fun e => by rw [e, hD] at h1; cases h1)]; exact h1))
      · exact .inl (.inr ⟨o, by rw [upd_ne (fun e => by rw [e, hD] at h1; cases h1)]; exact h1⟩)
      · exact .inr h1
  | .dict _, _, _, _, h => by cases h
theorem RnAll.put {Dn : Addr} {o : HO} {ys : List V} (hD : H' Dn = some (.lst ys)) : ∀ (ds : List D) (vs : List V) {H : Hp}, H Dn ≠ none → RnAll K H' H vs ds → RnAll K (upd H' Dn o) H vs ds
  | [], _, _, _, h => by cases h; exact .nil
  | d :: ds, _, _, n, h => by
    cases h with
    | cons h1 h2 => exact .cons (Rn.put hD d _ n h1) (RnAll.put hD ds _ n h2)
end
end

section
variable {X : Cx} {M : Ow} {k : Nat}
theorem sn_by {m : ME} {e : Expr} {p : D → Bool} (he : SE X M m e) (hp : ∀ H H' N v d, (∀ b, N b → H b ≠ none) → RpG (gr M m) X.K H H' N v d → p d = true → Rn X.K H' H v d) : SN X M (fun ρ => denE m ρ >>= fun d => if p d = true then .ok d else .bad) e := fun W tk => PE.imp (he W tk) (by
  rintro σ H Q ⟨ρ, N, r, q⟩
  refine ⟨ρ, N, r, ?_⟩
  dsimp only at q
  cases ee : denE m ρ with
  | ok d =>
    rw [ee, ok_bind] at q
    by_cases hd : p d = true
    · rw [if_pos hd] at q
      exact fun v H' s rv => q v H' s (hp H H' N v d r.ne rv hd)
    · rw [if_neg hd] at q
      exact q.elim
  | exc c => rw [ee, exc_bind] at q; exact q
  | bad => rw [ee, bad_bind] at q; exact q.elim)
theorem sn_fr {m : ME} {e : Expr} (he : SE X M m e) (hg : gr M m = .fresh) : SN X M (denN (.fr m)) e := sn_by he fun H H' N v d ne r hd => by
  rw [hg] at r
  exact Rn.of_fresh r hd
theorem sn_st {m : ME} {e : Expr} (he : SE X M m e) (hg : gr M m ≠ .loose) : SN X M (denN (.st m)) e := sn_by he fun H H' N v d ne r hd => Rn.of_lf d v hd (RpG.s hg r)
theorem sn_tp {fa fb : Env → R D} {v w : Expr} {j : Nat} {p : Pos} (ha : SN X M fa v) (hb : SN X M fb w) (hs : starEach [v, w] X.env = (false, eval v X.env) :: starEach [w] X.env) (hs2 : starEach [w] X.env = (false, eval w X.env) :: starEach [] X.env) :
    SN X M (fun ρ => fa ρ >>= fun x => fb ρ >>= fun y => .ok (.tuple [x, y])) (.Tuple [v, w] j p) := fun W tk => by
  refine PE.imp (pe_tup (pa_cons (ha W tk) (pa_cons (hb W tk) pa_nil hs2) hs)) ?_
  rintro σ H Q ⟨ρ, N, r, q⟩
  refine ⟨ρ, N, r, ?_⟩
  dsimp only at q
  cases ea : fa ρ with
  | ok x =>
    rw [ea, ok_bind] at q
    intro v1 H1 s1 k1
    refine ⟨ρ, N, r.same s1, ?_⟩
    cases eb : fb ρ with
    | ok y =>
      rw [eb, ok_bind] at q
      intro v2 H2 s2 k2
      refine ⟨(by decide : 2 ≤ sizeLine), fun p hp => q _ _ (s1.trans (s2.trans (same_upd hp))) (.tup (.inl (.inl upd_same)) (.cons (Rn.same (s2.trans (same_upd hp)) _ _ k1) (.cons (Rn.same (same_upd hp) _ _ (Rn.back _ _ (fun b h => s1.free h) k2)) .nil)))⟩
    | exc c => rw [eb, exc_bind] at q; exact fun H' s => q H' (s1.trans s)
    | bad => rw [eb, bad_bind] at q; exact q.elim
  | exc c => rw [ea, exc_bind] at q; exact q
  | bad => rw [ea, bad_bind] at q; exact q.elim
theorem compN_inv {own tg : List Nat} {tup : Bool} {cond : ME} {elt : Env → R D} {ρ : Env} {d : D} {o : Option D} (h : compN own tg tup cond elt ρ d = .ok o) :
    ∃ ρ' b, bindT tg tup d (wipeE ρ own) = .ok ρ' ∧ denC cond ρ' = .ok b ∧ (b = true → ∃ y, elt ρ' = .ok y ∧ o = some y) ∧ (b = false → o = none) := by
  unfold compN at h
  cases e1 : bindT tg tup d (wipeE ρ own) with
  | ok ρ' =>
    rw [e1, ok_bind] at h
    cases e2 : denC cond ρ' with
    | ok b =>
      rw [e2, ok_bind] at h
      refine ⟨ρ', b, rfl, e2, fun hb => ?_, fun hb => ?_⟩
      · rw [if_pos hb] at h
        cases e3 : elt ρ' with
        | ok y => rw [e3] at h; exact ⟨y, rfl, (R.ok_inj h).symm⟩
        | exc c => rw [e3] at h; cases h
        | bad => rw [e3] at h; cases h
      · rw [if_neg (by rw [hb]; exact Bool.false_ne_true)] at h
        exact (R.ok_inj h).symm
    | exc c => rw [e2] at h; cases h
    | bad => rw [e2] at h; cases h
  | exc c => rw [e1] at h; cases h
  | bad => rw [e1] at h; cases h
theorem lc_new {own : List (Str × Nat)} {tg : List Nat} {tup : Bool} {it cond : ME} {felt : Env → R D} {W : WX} (htg : ∀ j ∈ tg, j ∈ own.map (·.2)) (hM : ∀ j ∈ tg, j ∉ M) :
    ∀ σ H Q, tN X.K M W (fun ρ => denI it ρ >>= fun ds => noexc (filt (compN (own.map (·.2)) tg tup cond felt ρ) ds) >>= fun r => if r.length ≤ sizeLine then .ok (.list r) else .bad) σ H Q →
      tLc (tI (stI M it) X.K M W (denI it)) (gT X.K tg tup) (tT X.K M (fun _ _ _ _ => False) (denC cond)) (tN X.K M (fun _ _ _ _ => False) felt) (own.map (·.2)) σ H Q := by
  rintro σ H Q ⟨ρ, N, r, q⟩
  refine ⟨ρ, N, r, ?_⟩
  dsimp only at q
  cases ei : denI it ρ with
  | ok ds =>
    rw [ei, ok_bind] at q
    intro J H1 s1 ok1 Dn hD
    cases ef : noexc (filt (compN (own.map (·.2)) tg tup cond felt ρ) ds) with
    | ok rs =>
      rw [ef, ok_bind] at q
      have ef := noexc_ok ef
      by_cases hl : rs.length ≤ sizeLine
      · rw [if_pos hl] at q
        have ne1 := (r.same s1).ne
        have hDN : ¬ N Dn := fun z => ne1 Dn z hD
        let N' : Addr → Prop := fun b => N b ∨ b = Dn
        have ex1 : ∀ {H'}, Same H1 H' → Ext N H1 N' H' := fun {H'} s => ⟨fun b z => z.imp_right fun e => by rw [e]; exact hD, toN s⟩
        have ne' : ∀ {H'}, Same H1 H' → H' Dn ≠ none → ∀ b, N' b → H' b ≠ none := fun {H'} s hd b z => z.elim (fun w q => ne1 b w (s.free q)) fun e => by rw [e]; exact hd
        have un : upd H Dn (.lst []) Dn ≠ none := by rw [upd_same]; exact fun z => nomatch z
        refine ⟨fun n m H' => n ≤ ds.length ∧ m = ds.length - n ∧ Same H1 H' ∧ ∃ acc accD rest, H' Dn = some (.lst acc) ∧ RnAll X.K H' (upd H Dn (.lst [])) acc accD ∧ filt (compN (own.map (·.2)) tg tup cond felt ρ) (ds.drop n) = .ok rest ∧ rs = accD ++ rest, ⟨ds.length, Nat.zero_le _, rfl, same_upd hD, [], [], rs, upd_same, .nil, ef, rfl⟩, ?_⟩
        rintro n m H' ⟨hn, rfl, s2, acc, accD, rest, hacc, ra, efr, ers⟩
        obtain ⟨go, stop⟩ := ok1 H' N' (ex1 s2) fun _ => s2
        by_cases hlt : n < ds.length
        · obtain ⟨gon, yld⟩ := go n ds[n] (List.getElem?_eq_getElem hlt)
          obtain ⟨o, r', efd, efr', hrest⟩ := filt_step (List.getElem?_eq_getElem hlt) efr
          obtain ⟨ρ', b, hbt, hcd, hy1, hy2⟩ := compN_inv efd
          refine .inr ⟨gon, fun H'' => Same H1 H'' ∧ ∃ acc accD rest, H'' Dn = some (.lst acc) ∧ RnAll X.K H'' (upd H Dn (.lst [])) acc accD ∧ filt (compN (own.map (·.2)) tg tup cond felt ρ) (ds.drop (n + 1)) = .ok rest ∧ rs = accD ++ rest, ?_, ?_⟩
          · rintro H'' ⟨s3, w⟩
            exact ⟨ds.length - (n + 1), by omega, hlt, rfl, s3, w⟩
          · intro x H3 hx
            obtain ⟨s3, rx⟩ := yld x H3 hx
            have r3 : RelE X.K M N' ρ σ H3 := (r.same s1).grow (ex1 (s2.trans s3)) (fun _ => .inl) (s2.trans s3) (ne' (s2.trans s3) (by rw [s3 _ _ hacc]; exact fun z => nomatch z))
            refine gT_by r3.wiped hM rx hbt fun ws r' => ?_
            refine ⟨by rw [wipe_setS htg, wipe_wipe], ρ', N', r', ?_⟩
            rw [hcd]
            intro H4 s4
            cases b with
            | true =>
              obtain ⟨y, ey, ho⟩ := hy1 rfl
              refine ⟨ρ', N', r'.same s4, ?_⟩
              rw [ey]
              intro v H5 s5 k5
              have s35 := (s3.trans s4).trans s5
              have hD5 : H5 Dn = some (.lst acc) := s35 _ _ hacc
              have hD4 : H4 Dn = some (.lst acc) := (s3.trans s4) _ _ hacc
              have k5' : Rn X.K H5 (upd H Dn (.lst [])) v y := Rn.back _ _ (fun b hb => by
                by_cases e : b = Dn
                · rw [e, hD4] at hb; cases hb
                · rw [upd_ne e]
                  exact s1.free ((s2.trans (s3.trans s4)).free hb)) k5
              subst ho
              subst hrest
              refine ⟨acc, hD5, ?_, ?_, acc ++ [v], accD ++ [y], _, upd_same, RnAll.put hD5 _ _ un ((RnAll.same s35 _ _ ra).snoc k5'), efr', by rw [ers, List.append_assoc]; rfl⟩
              · have := ra.length
                rw [ers, List.length_append, List.length_cons] at hl
                omega
              · intro b o hbo
                have hne : b ≠ Dn := ne_of_none hbo hD
                rw [upd_ne hne]
                exact ((s2.trans s35) b o hbo)
            | false =>
              have ho := hy2 rfl
              subst ho
              subst hrest
              exact ⟨(s2.trans s3).trans s4, acc, accD, _, (s3.trans s4) _ _ hacc, RnAll.same (s3.trans s4) _ _ ra, efr', ers⟩
        · have hn' : n = ds.length := by omega
          subst hn'
          have er : rest = [] := by
            rw [List.drop_length] at efr
            exact (R.ok_inj efr).symm
          subst er
          rw [List.append_nil] at ers
          subst ers
          exact .inl ⟨stop, q _ _ (s1.trans s2) (.lst (s1.free hD) hacc ra)⟩
      · rw [if_neg hl] at q
        exact q.elim
    | exc c =>
      cases ee : filt (compN (own.map (·.2)) tg tup cond felt ρ) ds with
      | ok _ => rw [ee] at ef; cases ef
      | exc _ => rw [ee] at ef; cases ef
      | bad => rw [ee] at ef; cases ef
    | bad =>
      rw [ef, bad_bind] at q
      exact q.elim
  | exc c =>
    rw [ei, exc_bind] at q
    exact q
  | bad =>
    rw [ei, bad_bind] at q
    exact q.elim
theorem star_N {M : Os} {N : List Str} {m : NE} {sc : Scope} {e : Expr} (h : isN M N m sc e = true) (l : List Expr) (env : PySem.Env) : starEach (e :: l) env = (false, eval e env) :: starEach l env := by
  cases m with
  | fr m => exact star_of (and3 h).1 l env
  | st m => exact star_of (and3 h).1 l env
  | tp a b => cases e <;> first | rfl | cases h
  | cm own tg tup it cond elt => cases e <;> first | rfl | cases h
theorem sN (hM0 : M.x = none) : ∀ (m : NE) (X : Cx) (k : Nat) (e : Expr), Good X k → isN M X.N m X.env.scope e = true → OkN (sur X.prog X.w X.K X.mg X.base k) m → SN X M (denN m) e
  | .fr m, X, k, e, G, h, o => by
    have h1 := and3 h
    exact sn_fr (sE hM0 m X k e G h1.1 o).1 (of_decide_eq_true h1.2)
  | .st m, X, k, e, G, h, o => by
    have h1 := and3 h
    exact sn_st (sE hM0 m X k e G h1.1 o).1 (of_decide_eq_true h1.2)
  | .tp a b, X, k, e, G, h, o => by
    cases e with
    | Tuple es j p =>
      match es, h with
      | [v, w], h =>
        have h1 := and3 (show (isN M X.N a X.env.scope v && isN M X.N b X.env.scope w) = true from h)
        exact sn_tp (sN hM0 a X k v G h1.1 o.1) (sN hM0 b X k w G h1.2 o.2) (star_N h1.1 _ _) (star_N h1.2 _ _)
    | _ => cases h
  | .cm own tg tup it cond elt, X, k, e, G, h, o => by
    cases e with
    | ListComp e gens scope p =>
      match gens, h with
      | [⟨t, i, ifs, 0⟩], h =>
        have h1 := and3 h
        have h2 := and3 h1.1
        have h3 := and3 h2.1
        have h4 := and3 h3.1
        have h5 := and3 h4.1
        have h6 := and3 h5.1
        have h7 := and3 h6.1
        have ok := blkOk_by h7.1
        have htg : ∀ j ∈ tg, j ∈ own.map (·.2) := fun j hj => of_decide_eq_true (List.all_eq_true.mp h7.2 j hj)
        have hM : ∀ j ∈ tg, j ∉ M := fun j hj => of_decide_eq_true (List.all_eq_true.mp h6.2 j hj)
        have GB : ∀ (s : Shared) (H : Hp) (C : Addr) (cl : List (Str × Addr)) (fp : List Addr), Good (X.blk s H scope (compEnvC scope cl C X.env) fp) k := fun s H C cl fp => ⟨G.calm, G.room, ok.kind, G.nd, G.bi⟩
        intro W tk
        exact PE.imp (pe_lc G.calm G.nd (sI hM0 it X k t i G h3.2 o.1 W tk) ok (fun s H C cl fp => pg_of (X := X.blk s H scope (compEnvC scope cl C X.env) fp) G.calm G.nd h4.2) (tt := tT X.K M (fun _ _ _ _ => False) (denC cond)) (te := tN X.K M (fun _ _ _ _ => False) (denN elt))
          (fun s H C cl fp => sC hM0 cond (X.blk s H scope (compEnvC scope cl C X.env) fp) k ifs (GB s H C cl fp) h2.2 o.2.1 (fun _ _ _ _ => False) takes0) (fun s H C cl fp => sN hM0 elt (X.blk s H scope (compEnvC scope cl C X.env) fp) k e (GB s H C cl fp) h1.2 o.2.2 (fun _ _ _ _ => False) takes0) (folded_of h3.2)) (lc_new htg hM)
    | _ => cases h
end
/-! ### defs whose value is new -/
/-- names, parameters, owned slots, what is done first, what is returned -/
structure MDefN where
  N : List Str
  np : Nat
  M : List Nat
  pre : MS
  ret : NE
abbrev MDefN.os (d : MDefN) : Os := ⟨d.M, []⟩
abbrev MDefN.ow (d : MDefN) : Ow := ⟨d.os, none⟩
def endN (m : NE) : Ot → R D
  | .next ρ => denN m ρ
  | .exc c => .exc c
  | _ => .bad
def runN (d : MDefN) (ds : List D) : R D := if ds.length = d.np then endN d.ret (denS d.pre (env0 d.N.length ds)) else .bad
theorem runN_len {d : MDefN} {ds : List D} (h : runN d ds ≠ .bad) : ds.length = d.np := by
  unfold runN at h
  split at h
  · assumption
  · exact absurd rfl h
def isPre (M : Os) (N : List Str) (m : NE) : MS → Scope → List Stmt → Bool
  | .nil, sc, [.Return (some v) _] => isN M N m sc v
  | .cons s r, sc, st :: sts => isS M N s sc st && isPre M N m r sc sts
  | _, _, _ => false
def isDefN (d : MDefN) (body : List Stmt) (sc : Scope) : Bool := scopeB d.N d.np sc && d.M.all (fun i => decide (d.np ≤ i)) && isPre d.os d.N d.ret d.pre sc body
section
variable {X : Cx} {M : Ow} {N0 : Addr → Prop} {H0 : Hp} {k : Nat}
def tR (K : PySem.W.Frag) (M : Ow) (W : WX) (N0 : Addr → Prop) (H0 : Hp) (f : Env → R D) : TS := fun D σ H => ∃ ρ N, RelS K M N0 H0 N ρ σ H ∧ match f ρ with
  | .ok d => ∀ v H', Same H0 H' → Rn K H' H0 v d → D.rt v H'
  | .exc c => ∀ σ' H', Same H0 H' → W (.ref (He.ga K c)) none σ' H'
  | .bad => False
theorem isPre_nil {N : List Str} {m : NE} {sc : Scope} {body : List Stmt} (h : isPre M N m .nil sc body = true) : ∃ v p, body = [.Return (some v) p] ∧ isN M N m sc v = true := by
  unfold isPre at h
  split at h
  · exact ⟨_, _, rfl, h⟩
  · rename_i e1
    cases e1
  · cases h
theorem sPre (hM0 : M.x = none) {W : WX} (G : GoodS X k) (tk : Takes X W) {m : NE} (om : OkN (sur X.prog X.w X.K X.mg X.base k) m) : ∀ (pre : MS) (body : List Stmt), isPre M X.N m pre X.env.scope body = true → OkS (sur X.prog X.w X.K X.mg X.base k) pre → PSs X body (tR X.K M W N0 H0 fun ρ => endN m (denS pre ρ))
  | .nil, body, h, o => by
    obtain ⟨v, p, rfl, h⟩ := isPre_nil h
    · refine PSs.imp (pss_one (ps_ret (sN hM0 m X k v G.toGood h om W tk))) ?_
      rintro D σ H ⟨ρ, N, r, q⟩
      refine ⟨ρ, N, r.r, ?_⟩
      have q : (match denN m ρ with
        | .ok d => ∀ v H', Same H0 H' → Rn X.K H' H0 v d → D.rt v H'
        | .exc c => ∀ σ' H', Same H0 H' → W (.ref (He.ga X.K c)) none σ' H'
        | .bad => False) := q
      cases e : denN m ρ with
      | ok d => rw [e] at q; exact fun v H' s rn => q v H' (r.s.trans s) (Rn.back _ _ (fun b hb => r.s.free hb) rn)
      | exc c => rw [e] at q; exact fun H' s => q σ H' (r.s.trans s)
      | bad => rw [e] at q; exact q.elim
  | .cons s r, body, h, o => by
    match body, h with
    | st :: sts, h =>
      have h1 := and3 (show (isS M X.N s X.env.scope st && isPre M X.N m r X.env.scope sts) = true from h)
      refine PSs.imp (pss_cons (sS (N0 := N0) (H0 := H0) hM0 s st G h1.1 o.1 W tk) (sPre hM0 G tk om r sts h1.2 o.2)) ?_
      rintro D σ H ⟨ρ, N, rl, q⟩
      refine ⟨ρ, N, rl, ?_⟩
      have q : (match endN m ((denS s ρ).bind (denS r)) with
        | .ok d => ∀ v H', Same H0 H' → Rn X.K H' H0 v d → D.rt v H'
        | .exc c => ∀ σ' H', Same H0 H' → W (.ref (He.ga X.K c)) none σ' H'
        | .bad => False) := q
      cases e : denS s ρ with
      | next ρ' => rw [e] at q; exact fun σ' H' N' r' x => ⟨ρ', N', r', q⟩
      | exc c => rw [e] at q; exact q
      | cont ρ' => rw [e] at q; exact q.elim
      | ret d => rw [e] at q; exact q.elim
      | bad => rw [e] at q; exact q.elim
end
section
variable {P : Program} {w : World} {K : PySem.W.Frag} {mg : Str → Option Value} {base : Heap} {k : Nat}
theorem defN_ok {x : Str} {d : MDefN} {params : Arguments} {body : List Stmt} {scope : Scope} {f : Addr} {fd : FuncData} (F : FunD K x x params body scope [] [] f fd) (hd : isDefN d body scope = true) (bi : ∀ x ∈ biNames, mg x = none)
    (o : OkS (sur P w K mg base k) d.pre) (om : OkN (sur P w K mg base k) d.ret) : FnOk P w K mg base (L2.CX P w) (k + 1) f fd (d.N.take d.np) (spN K (d.N.take d.np).length (runN d)) := by
  unfold isDefN at hd
  have h1 := and3 hd
  have h2 := and3 h1.1
  obtain ⟨S, hl⟩ := scope_of h2.1
  have hM : ∀ i ∈ d.M, d.np ≤ i := fun i hi => of_decide_eq_true (List.all_eq_true.mp h2.2 i hi)
  refine F.ok S (fun vs H Q E q => q.1) fun cdv A outer s H vs Q E hr q => ?_
  obtain ⟨hvs, N0, ds, ne, ra, post⟩ := q
  have G : GoodS (cxOf (L2.CX P w) P w K mg base d.N x scope f cdv A outer s H E) k :=
    ⟨⟨rfl, hr, S.kind, S.nd, bi⟩, passes_of rfl, fun _ => rfl, by
      show (if scope.kind.isAnnotationScope then ScopeKind.function else scope.kind) = .function
      rw [S.kind]
      rfl, rfl, rfl⟩
  have tk : Takes (cxOf (L2.CX P w) P w K mg base d.N x scope f cdv A outer s H E) (fun cls d _ H => E cls d H) := takes_of rfl rfl rfl rfl
  refine ⟨_, sPre (M := d.ow) (N0 := N0) (H0 := H) rfl G tk om d.pre body h1.2 o, env0 d.N.length ds, N0, ?_, ?_⟩
  · refine ⟨⟨ne, ?_, fun i e h hX => ?_, fun i e h hX => ?_⟩, Same.refl _, fun _ z => z, fun _ z => .inl z, ne, fun i hi es a h _ => ?_, fun i hi j hj es fs a _ h _ _ _ => ?_⟩
    · unfold env0 L2.start
      rw [List.length_append, List.length_append, List.length_map, List.length_map, List.length_replicate, List.length_replicate, ra.length]
    · have h := env0_get h
      obtain ⟨v, hv, rv⟩ := ra.get h
      refine ⟨v, start_get hv, fun hi => ?_, fun _ => rv⟩
      have z := hM i hi
      have := (List.getElem?_eq_some_iff.mp h).1
      rw [← ra.length, hvs, hl] at this
      omega
    · obtain ⟨v, hv, rv⟩ := ra.get (env0_get h)
      rw [rv.noX] at hX
      cases hX
    all_goals
      have h := env0_get h
      have z := hM i hi
      have := (List.getElem?_eq_some_iff.mp h).1
      rw [← ra.length, hvs, hl] at this
      omega
  · have post : PostN K H E (if ds.length = d.np then endN d.ret (denS d.pre (env0 d.N.length ds)) else .bad) Q := post
    rw [if_pos (by rw [← ra.length, hvs, hl])] at post
    dsimp only
    cases e : endN d.ret (denS d.pre (env0 d.N.length ds)) with
    | ok z => rw [e] at post; exact post
    | exc c => rw [e] at post; exact fun σ' H' s => post H' s
    | bad => rw [e] at post; exact post.elim
theorem def_hasN {x : Str} {d : MDefN} {params : Arguments} {body : List Stmt} {scope : Scope} {f : Addr} {fd : FuncData} (F : FunD K x x params body scope [] [] f fd) (hd : isDefN d body scope = true)
    (hb : ∀ (kV doc pm : Value) (an : Option Addr) (cdv ct : Value) (us : List Value), us.length = (d.N.take d.np).length → bindArgs (PySem.W.fnOf x x params body scope .none kV doc pm an cdv ct) ⟨us, []⟩ = pure ((d.N.take d.np).zip us)) (bi : ∀ x ∈ biNames, mg x = none)
    (o : OkS (sur P w K mg base k) d.pre) (om : OkN (sur P w K mg base k) d.ret) (hm : mg x = some (.ref f)) : HasNf P w K mg base (k + 1) x (runN d) := by
  have hl : (d.N.take d.np).length = d.np := by
    unfold isDefN at hd
    exact (scope_of (and3 (and3 hd).1).1).2
  exact ⟨f, fd, d.N.take d.np, defN_ok F hd bi o om, fun ds h => by rw [hl]; exact runN_len h, hm, F.kp, FunD.bindsN F hb⟩
end
end Mn
/-! Mn, part T: module constants; a head of defs, constants, exception classes. -/
namespace Mn
open PySem PySem.Spec PyProof.Rows L2
section
variable {K : PySem.W.Frag} {h : Heap} {mg : Str → Option Value}
theorem gl_int (X : K.In h) (G : h.Ns mainGlobals mg) {x : Str} {i : Int} (c : (He.Fa.int x i).ok K = true) : HasGl K mg x (.int i) := by
  obtain ⟨t, e⟩ := He.int_ok X G c
  exact ⟨_, .int i, e, ⟨t, rfl⟩, fun H N => .int i⟩
theorem gl_str (X : K.In h) (G : h.Ns mainGlobals mg) {x z : Str} (c : (He.Fa.str x z).ok K = true) : HasGl K mg x (.str z) := by
  obtain ⟨t, e⟩ := He.str_ok X G c
  exact ⟨_, .str z, e, ⟨t, rfl⟩, fun H N => .str z⟩
/-- a datum that lies in a module's tuple -/
inductive Cst where
  | int (i : Int) | str (s : Str)
def Cst.dv : Cst → He.Dv
  | .int i => .int i
  | .str s => .str s
def Cst.d : Cst → D
  | .int i => .int i
  | .str s => .str s
theorem cst_all {H : Hp} {N : Addr → Prop} : ∀ cs : List Cst, RpAll K H N ((cs.map Cst.dv).map (He.Dv.v K)) (cs.map Cst.d)
  | [] => .nil
  | .int i :: cs => .cons (.int i) (cst_all cs)
  | .str s :: cs => .cons (.str s) (cst_all cs)
theorem gl_tup (X : K.In h) (G : h.Ns mainGlobals mg) {x : Str} {cs : List Cst} (c : (He.Fa.glo x).ok K = true) (t : He.tupB K x (cs.map Cst.dv) = true) : HasGl K mg x (.tuple (cs.map Cst.d)) :=
  ⟨_, .ref (He.ga K x), He.glo_ok X G c, rfl, fun H N => .tup (He.tupB_ok t H) (cst_all cs)⟩
theorem ex_of (X : K.In h) (G : h.Ns mainGlobals mg) {x : Str} (c : (He.Fa.glo x).ok K = true) (e : (He.Fa.exc x).ok K = true) : HasEx K mg x := ⟨e, He.glo_ok X G c⟩
/-! ### the exception classes, as far as tests of them go -/
def fiB : Option (Option Value) → String → Bool
  | some (some (.builtin s)), t => decide (s = t)
  | _, _ => false
theorem fiB_of : ∀ {o : Option (Option Value)} {t : String}, fiB o t = true → o = some (some (.builtin t))
  | some (some (.builtin s)), t, h => by
    have h' : decide (s = t) = true := h
    rw [of_decide_eq_true h']
def noB : Option (Option Value) → Bool
  | some none => true
  | _ => false
theorem noB_of : ∀ {o : Option (Option Value)}, noB o = true → o = some none
  | some none, _ => rfl
def obB (o : Option Bool) (b : Bool) : Bool := decide (o = some b)
def excCB (K : PySem.W.Frag) (D : Addr) : Bool :=
  fiB (PySem.W.findIn K (.ref D) "__getattribute__") "BaseException.__getattribute__" && noB (PySem.W.findIn K (.ref D) "__getattr__") && obB (PySem.W.subIn K (.ref D) (.type "BaseException")) true && PySem.W.hasDictIn K D &&
  fiB (PySem.W.findIn K (.ref D) "__class__") "object.__class__" && fiB (PySem.W.specialIn K (.builtin "object.__class__") "__get__") "getset_descriptor.__get__" && obB (PySem.W.takesIn K (.builtin "object.__class__")) true && obB (PySem.W.mroIn K D (.type "object")) true
theorem excCB_of {K : PySem.W.Frag} {D : Addr} (h : excCB K D = true) : ExcC K D := by
  have h1 := and3 h
  have h2 := and3 h1.1
  have h3 := and3 h2.1
  have h4 := and3 h3.1
  have h5 := and3 h4.1
  have h6 := and3 h5.1
  have h7 := and3 h6.1
  exact ⟨fiB_of h7.1, noB_of h7.2, of_decide_eq_true h6.2, h5.2, fiB_of h4.2, fiB_of h3.2, of_decide_eq_true h2.2, of_decide_eq_true h1.2⟩
def xallB (K : PySem.W.Frag) : Bool := excAll.all fun c => (He.Fa.glo c).ok K && excCB K (He.ga K c) && tstAll.all fun C => obB (PySem.W.kitOne K (.ref (He.ga K c)) (clsV K C)) (subB c C) && obB (PySem.W.exmOne K (.ref (He.ga K c)) (clsV K C)) (subB c C)
theorem xall_of (X : K.In h) (G : h.Ns mainGlobals mg) (bi : ∀ x ∈ biNames, mg x = none) (c : xallB K = true) : XAll K mg := by
  have c := List.all_eq_true.mp c
  have t : ∀ e ∈ excAll, ∀ C ∈ tstAll, PySem.W.kitOne K (.ref (He.ga K e)) (clsV K C) = some (subB e C) ∧ PySem.W.exmOne K (.ref (He.ga K e)) (clsV K C) = some (subB e C) := fun e he C hC => by
    have z := and3 (List.all_eq_true.mp (and3 (c e he)).2 C hC)
    exact ⟨of_decide_eq_true z.1, of_decide_eq_true z.2⟩
  exact ⟨fun e he => excCB_of (and3 (and3 (c e he)).1).2, fun e he C hC => (t e he C hC).1, fun e he C hC => (t e he C hC).2, fun e he => He.glo_ok X G (and3 (and3 (c e he)).1).1, bi _ (by decide)⟩
/-- the names that nobody binds -/
def frees : List He.Fa := biNames.map .free
theorem free_all (X : K.In h) (G : h.Ns mainGlobals mg) (c : frees.all (fun f => f.ok K) = true) : ∀ x ∈ biNames, mg x = none := fun x hx => He.free_ok X G (List.all_eq_true.mp c (.free x) (List.mem_map.mpr ⟨x, hx, rfl⟩))
end
/-- more than what counts down -/
def sizeD1 : D → Nat
  | .int i => i.natAbs + 1
  | .list l => l.length + 1
  | _ => 1
def fuelE : Env → Nat
  | [] => 1
  | none :: r => fuelE r
  | some d :: r => sizeD1 d + fuelE r
end Mn
/-! Mn, part U: how terms are reckoned by simp. -/
namespace Mn
open PySem PySem.Spec PyProof.Rows L2
theorem ixN_at {n j : Nat} (h : j < n) : ixN n (j : Int) = some j := by
  unfold ixN
  rw [if_pos (by omega), if_pos (by omega)]
  simp
section
variable {i : Nat} {n : Int} {s : Str} {x : Str} {es e a b c i' lo hi it cond elt : ME} {f : BI} {chk tup : Bool} {F : List D → R D} {own : List (Str × Nat)} {tg : List Nat} {ρ : Env}
@[simp] theorem de_denE_1  {i : Nat} {ρ : Env} : denE (.var i) ρ = (match ρ[i]? with
    | some (some d) => .ok d
    | _ => .bad) := (rfl)
@[simp] theorem de_denE_2  {n : Int} {ρ : Env} : denE (.int n) ρ = (.ok (.int n)) := (rfl)
@[simp] theorem de_denE_3  {s : Str} {ρ : Env} : denE (.str s) ρ = (.ok (.str s)) := (rfl)
@[simp] theorem de_denE_4  {b : Bool} {ρ : Env} : denE (.bl b) ρ = (.ok (.bool b)) := (rfl)
@[simp] theorem de_denE_5  {ρ : Env} : denE .non ρ = (.ok .none) := (rfl)
@[simp] theorem de_denE_6  {u0 : Str} {d : D} {ρ : Env} : denE (.gl u0 d) ρ = (.ok d) := (rfl)
@[simp] theorem de_denE_7  {ρ : Env} : denE .nil ρ = (.bad) := (rfl)
@[simp] theorem de_denE_8  {u0 : ME} {u1 : ME} {ρ : Env} : denE (.cons u0 u1) ρ = (.bad) := (rfl)
@[simp] theorem de_denE_9  {es : ME} {ρ : Env} : denE (.tup es) ρ = (denEs es ρ >>= fun ds => if ds.length ≤ 1000 then .ok (.tuple ds) else .bad) := (rfl)
@[simp] theorem de_denE_10  {es : ME} {ρ : Env} : denE (.lst es) ρ = (denEs es ρ >>= fun ds => if ds.length ≤ 1000 then .ok (.list ds) else .bad) := (rfl)
@[simp] theorem de_denE_11  {o : BOp} {a : ME} {b : ME} {ρ : Env} : denE (.bin o a b) ρ = (denE a ρ >>= fun x => denE b ρ >>= fun y => bop o x y) := (rfl)
@[simp] theorem de_denE_12  {a : ME} {ρ : Env} : denE (.neg a) ρ = (denE a ρ >>= fun x => asInt x >>= fun i => .ok (.int (-i))) := (rfl)
@[simp] theorem de_denE_13  {a : ME} {ρ : Env} : denE (.nt a) ρ = (denE a ρ >>= fun x => asBool x >>= fun b => .ok (.bool !b)) := (rfl)
@[simp] theorem de_denE_14  {es : ME} {ρ : Env} : denE (.andE es) ρ = (denAnd es ρ) := (rfl)
@[simp] theorem de_denE_15  {es : ME} {ρ : Env} : denE (.orE es) ρ = (denOr es ρ) := (rfl)
@[simp] theorem de_denE_16  {o : COp} {a : ME} {b : ME} {ρ : Env} : denE (.cmp o a b) ρ = (denE a ρ >>= fun x => denE b ρ >>= fun y => cop o x y) := (rfl)
@[simp] theorem de_chn3 {o : COp} {a : ME} {b : ME} {p : COp} {c : ME} {q : COp} {d : ME} {ρ : Env} : denE (.chn3 o a b p c q d) ρ = (denE a ρ >>= fun x => denE b ρ >>= fun y => cop o x y >>= fun z => asBool z >>= fun k =>
    if k = true then denE c ρ >>= fun w => cop p y w >>= fun z2 => asBool z2 >>= fun k2 => if k2 = true then denE d ρ >>= fun u => cop q w u else .ok (.bool false) else .ok (.bool false)) := (rfl)
@[simp] theorem de_dget2 {k1 v1 k2 v2 : Str} {e f : ME} {ρ : Env} : denE (.dget2 k1 v1 k2 v2 e f) ρ = (denE e ρ >>= fun x => denE f ρ >>= fun z => getS k1 v1 k2 v2 x z) := (rfl)
@[simp] theorem getS_s {k1 v1 k2 v2 s t : Str} : getS k1 v1 k2 v2 (.str s) (.str t) = .ok (.str (if s = k1 then v1 else if s = k2 then v2 else t)) := (rfl)
@[simp] theorem de_denE_17  {o : COp} {a : ME} {b : ME} {p : COp} {c : ME} {ρ : Env} : denE (.chn o a b p c) ρ = (denE a ρ >>= fun x => denE b ρ >>= fun y => cop o x y >>= fun z => asBool z >>= fun k =>
    if k = true then denE c ρ >>= fun w => cop p y w else .ok (.bool false)) := (rfl)
@[simp] theorem de_denE_18  {c : ME} {a : ME} {b : ME} {ρ : Env} : denE (.ife c a b) ρ = (denE c ρ >>= fun x => asBool x >>= fun k => if k = true then denE a ρ else denE b ρ) := (rfl)
@[simp] theorem de_denE_19  {a : ME} {i : ME} {ρ : Env} : denE (.ix a i) ρ = (denE a ρ >>= fun x => denE i ρ >>= fun y => ixD x y) := (rfl)
@[simp] theorem de_denE_20  {a : ME} {lo : ME} {hi : ME} {ρ : Env} : denE (.sl a lo hi) ρ = (denE a ρ >>= fun x => denO lo ρ >>= fun l => denO hi ρ >>= fun h => slD x l h) := (rfl)
@[simp] theorem de_denE_21  {chk : Bool} {F : List D → R D} {u2 : Str} {es : ME} {ρ : Env} : denE (.call chk F u2 es) ρ = (denEs es ρ >>= fun ds => F ds >>= fun d => flatChk chk d) := (rfl)
@[simp] theorem de_denE_22  {f : BI} {a : ME} {ρ : Env} : denE (.bi f a) ρ = (denE a ρ >>= fun x => biD f x) := (rfl)
@[simp] theorem de_denE_23  {f : BI} {a : ME} {b : ME} {ρ : Env} : denE (.bi2 f a b) ρ = (denE a ρ >>= fun x => denE b ρ >>= fun y => biD2 f x y) := (rfl)
@[simp] theorem de_x2 {f : X2} {a b : ME} {ρ : Env} : denE (.x2 f a b) ρ = (denE a ρ >>= fun x => if x2k f x = true then denE b ρ >>= fun y => x2D f x y else .bad) := (rfl)
@[simp] theorem de_denE_24  {own : List (Str × Nat)} {tg : List Nat} {tup : Bool} {it : ME} {cond : ME} {elt : ME} {ρ : Env} : denE (.comp own tg tup it cond elt) ρ = (denI it ρ >>= fun ds => (noexc (filt (fun d =>
      bindT tg tup d (wipeE ρ (own.map (·.2))) >>= fun ρ' => denC cond ρ' >>= fun k => if k = true then denE elt ρ' >>= fun y => .ok (some y) else .ok none) ds)) >>= fun r => if r.length ≤ sizeLine then .ok (.list r) else .bad) := (rfl)
@[simp] theorem de_denE_25  {u0 : ME} {ρ : Env} : denE (.iSeq u0) ρ = (.bad) := (rfl)
@[simp] theorem de_denE_26  {u0 : ME} {ρ : Env} : denE (.iRg1 u0) ρ = (.bad) := (rfl)
@[simp] theorem de_denE_27  {u0 : ME} {u1 : ME} {ρ : Env} : denE (.iRg2 u0 u1) ρ = (.bad) := (rfl)
@[simp] theorem de_denE_28  {u0 : ME} {u1 : ME} {u2 : ME} {ρ : Env} : denE (.iRg3 u0 u1 u2) ρ = (.bad) := (rfl)
@[simp] theorem de_denE_29  {u0 : ME} {ρ : Env} : denE (.iEnum u0) ρ = (.bad) := (rfl)
@[simp] theorem de_denE_30  {u0 : ME} {u1 : ME} {ρ : Env} : denE (.iZip u0 u1) ρ = (.bad) := (rfl)
@[simp] theorem de_denE_31  {u0 : ME} {ρ : Env} : denE (.iRev u0) ρ = (.bad) := (rfl)
@[simp] theorem de_denEs_32  {ρ : Env} : denEs .nil ρ = (.ok []) := (rfl)
@[simp] theorem de_denEs_33  {e : ME} {es : ME} {ρ : Env} : denEs (.cons e es) ρ = (denE e ρ >>= fun d => denEs es ρ >>= fun ds => .ok (d :: ds)) := (rfl)
@[simp] theorem de_denAnd_34 {e : ME} {ρ : Env} : denAnd (.cons e .nil) ρ = (denE e ρ >>= fun x => asBool x >>= fun b => .ok (.bool b)) := (rfl)
@[simp] theorem de_denOr_36 {e : ME} {ρ : Env} : denOr (.cons e .nil) ρ = (denE e ρ >>= fun x => asBool x >>= fun b => .ok (.bool b)) := (rfl)
@[simp] theorem de_denC_38  {ρ : Env} : denC .nil ρ = (.ok true) := (rfl)
@[simp] theorem de_denC_39  {e : ME} {u1 : ME} {ρ : Env} : denC (.cons e u1) ρ = (denE e ρ >>= fun x => asBool x) := (rfl)
@[simp] theorem de_denO_40  {ρ : Env} : denO .nil ρ = (.ok none) := (rfl)
@[simp] theorem de_denO_41  {e : ME} {u1 : ME} {ρ : Env} : denO (.cons e u1) ρ = (denE e ρ >>= fun x => asInt x >>= fun i => .ok (some i)) := (rfl)
@[simp] theorem de_denI_42  {a : ME} {ρ : Env} : denI (.iSeq a) ρ = (denE a ρ >>= fun x => match x with
    | .list l => .ok l
    | .tuple l => .ok l
    | .str s => .ok (s.cps.toList.map fun c => .str ⟨#[c]⟩)
    | _ => .bad) := (rfl)
@[simp] theorem de_denI_43  {a : ME} {ρ : Env} : denI (.iRg1 a) ρ = (denE a ρ >>= fun x => asInt x >>= fun n => if small62 n then .ok (rgL 0 n.toNat) else .bad) := (rfl)
@[simp] theorem de_denI_44  {a : ME} {b : ME} {ρ : Env} : denI (.iRg2 a b) ρ = (denE a ρ >>= fun x => denE b ρ >>= fun y => asInt x >>= fun i => asInt y >>= fun j => if small62 i && small62 j then .ok (rgL i (j - i).toNat) else .bad) := (rfl)
@[simp] theorem de_denI_45  {a : ME} {b : ME} {c : ME} {ρ : Env} : denI (.iRg3 a b c) ρ = (denE a ρ >>= fun x => denE b ρ >>= fun y => denE c ρ >>= fun z => asInt x >>= fun i => asInt y >>= fun j => asInt z >>= fun k => rng3 i j k) := (rfl)
@[simp] theorem de_denI_46  {a : ME} {ρ : Env} : denI (.iEnum a) ρ = (denE a ρ >>= fun x => asList x >>= fun l => .ok (enumD 0 l)) := (rfl)
@[simp] theorem de_denI_47  {a : ME} {b : ME} {ρ : Env} : denI (.iZip a b) ρ = (denE a ρ >>= fun x => denE b ρ >>= fun y => asList x >>= fun l => asList y >>= fun m => .ok (zipD l m)) := (rfl)
@[simp] theorem de_denI_48  {a : ME} {ρ : Env} : denI (.iRev a) ρ = (denE a ρ >>= fun x => asList x >>= fun l => .ok l.reverse) := (rfl)
@[simp] theorem de_and2 {e e2 es : ME} {ρ : Env} : denAnd (.cons e (.cons e2 es)) ρ = (denE e ρ >>= fun x => asBool x >>= fun b => if b = true then denAnd (.cons e2 es) ρ else .ok (.bool false)) := (rfl)
@[simp] theorem de_or2 {e e2 es : ME} {ρ : Env} : denOr (.cons e (.cons e2 es)) ρ = (denE e ρ >>= fun x => asBool x >>= fun b => if b = true then .ok (.bool true) else denOr (.cons e2 es) ρ) := (rfl)
end
section
variable {ρ : Env} {s r body : MS} {i j : Nat} {e a b c it : ME} {tg fg : List Nat} {o : BOp} {chk tup : Bool} {fuel : Env → Nat} {cl m : Str}
@[simp] theorem ds_nil : denS .nil ρ = .next ρ := (rfl)
@[simp] theorem ds_cons : denS (.cons s r) ρ = (denS s ρ).bind (denS r) := (rfl)
@[simp] theorem ds_asg : denS (.asg i e) ρ = (denE e ρ).ot fun d => .next (ρ.set i (some d)) := (rfl)
@[simp] theorem ds_unl : denS (.unl tg e) ρ = (denE e ρ).ot fun d => (bindL tg d ρ).ot .next := (rfl)
@[simp] theorem ds_unp : denS (.unp tg e) ρ = (denE e ρ).ot fun d => (bindT tg true d ρ).ot .next := (rfl)
@[simp] theorem ds_par : denS (.par i j a b) ρ = (denE a ρ).ot fun x => (denE b ρ).ot fun y => .next ((ρ.set i (some x)).set j (some y)) := (rfl)
@[simp] theorem ds_aug : denS (.aug i o e) ρ = (slot ρ i >>= asInt).ot fun x => (denE e ρ >>= asInt).ot fun y => (bop o (.int x) (.int y) >>= asInt).ot fun z => .next (ρ.set i (some (.int z))) := (rfl)
@[simp] theorem ds_app : denS (.app i e) ρ = (slot ρ i >>= asList).ot fun l => (denE e ρ).ot fun d => if l.length < sizeLine then .next (ρ.set i (some (.list (l ++ [d])))) else .bad := (rfl)
@[simp] theorem ds_appM : denS (.appM i j) ρ = (slot ρ i >>= asList).ot fun l => (slot ρ j >>= asList).ot fun m => if l.length < sizeLine then .next ((ρ.set i (some (.list (l ++ [.list m])))).set j none) else .bad := (rfl)
@[simp] theorem ds_ins : denS (.ins i a e) ρ = (slot ρ i >>= asList).ot fun l => (denE a ρ >>= asInt).ot fun k => (denE e ρ).ot fun d =>
    if l.length < sizeLine ∧ 0 ≤ k ∧ k.toNat < 2 ^ 62 then .next (ρ.set i (some (.list (l.take k.toNat ++ [d] ++ l.drop k.toNat)))) else .bad := rfl
@[simp] theorem ds_setix : denS (.setix i a e) ρ = (slot ρ i >>= asList).ot fun l => (denE e ρ).ot fun d => (denE a ρ >>= asInt).ot fun k => match ixN l.length k with
    | some j => .next (ρ.set i (some (.list (l.set j d))))
    | none => .bad := rfl
@[simp] theorem ds_expr : denS (.expr e) ρ = (denE e ρ).ot fun _ => .next ρ := (rfl)
@[simp] theorem ds_ret : denS (.ret chk e) ρ = (denE e ρ).ot fun d => if chk && isL d then .bad else .ret d := (rfl)
@[simp] theorem ds_ret2 : denS (.ret2 a b) ρ = (denE a ρ).ot fun x => (denE b ρ).ot fun y => .ret (.tuple [x, y]) := (rfl)
@[simp] theorem ds_mov : denS (.mov i j) ρ = (slot ρ j >>= asList).ot fun l => .next ((ρ.set i (some (.list l))).set j none) := (rfl)
@[simp] theorem ds_forL : denS (.forL i fg tg tup body) ρ = (slot ρ i >>= asList).ot fun l => forO fg tg tup (denS body) l (ρ.set i none) := (rfl)
@[simp] theorem ds_popA : denS (.popA i j e) ρ = (slot ρ j >>= asList).ot fun l => (denE e ρ >>= asInt).ot fun n => popO l n fun d l' => .next ((ρ.set j (some (.list l'))).set i (some d)) := (rfl)
@[simp] theorem ds_appPop : denS (.appPop i j e) ρ = (slot ρ i >>= asList).ot fun m => (slot ρ j >>= asList).ot fun l => (denE e ρ >>= asInt).ot fun n => popO l n fun d l' => if m.length < sizeLine then .next ((ρ.set j (some (.list l'))).set i (some (.list (m ++ [d])))) else .bad := (rfl)
@[simp] theorem ds_popE : denS (.popE i e) ρ = (slot ρ i >>= asList).ot fun l => (denE e ρ >>= asInt).ot fun n => popO l n fun _ l' => .next (ρ.set i (some (.list l'))) := (rfl)
theorem popO_at {l : List D} {n : Nat} {k : D → List D → Ot} {d : D} (h : l[n]? = some d) (hl : l.length ≤ 1000000) : popO l (n : Int) k = k d (l.eraseIdx n) := by
  have hn : n < l.length := by
    rw [List.getElem?_eq_some_iff] at h
    exact h.1
  unfold popO
  rw [Mn.ixN_at hn]
  dsimp only
  rw [h]
  have hs : small62 (n : Int) = true := decide_eq_true (by rw [Int.natAbs_natCast]; omega)
  dsimp only
  rw [if_pos hs]
@[simp] theorem ds_retN : denS .retN ρ = .ret .none := (rfl)
@[simp] theorem ds_rai : denS (.rai cl m) ρ = .exc cl := (rfl)
@[simp] theorem ds_cnt : denS .cnt ρ = .cont ρ := (rfl)
@[simp] theorem ds_pas : denS .pas ρ = .next ρ := (rfl)
/-- which way a test goes -/
def pick (r : R Bool) (a b : Env → Ot) (ρ : Env) : Ot := r.ot fun k => match k with
  | true => a ρ
  | false => b ρ
@[simp] theorem pick_t {f g : Env → Ot} : pick (.ok true) f g ρ = f ρ := (rfl)
@[simp] theorem pick_f {f g : Env → Ot} : pick (.ok false) f g ρ = g ρ := (rfl)
@[simp] theorem ds_ite {x y : MS} : denS (.ite c x y) ρ = pick (denE c ρ >>= asBool) (denS x) (denS y) ρ := (rfl)
@[simp] theorem ds_for : denS (.forS fg tg tup it body) ρ = (denI it ρ).ot fun ds => forO fg tg tup (denS body) ds ρ := (rfl)
@[simp] theorem ds_whl : denS (.whl fg fuel c body) ρ = whlO fg (fun ρ => denE c ρ >>= asBool) (denS body) (fuel ρ) ρ := (rfl)
end
theorem isi_by {T : String} {d : D} {b : Bool} (h : kitB (tyD d) T = some b) : biD (.isi T) d = .ok (.bool b) := by
  have e : biD (.isi T) d = (match kitB (tyD d) T with
      | some b => R.ok (PyData.bool b)
      | none => .bad) := by cases d <;> rfl
  rw [e, h]
@[simp] theorem ev_bind_next {ρ : Env} {k : Env → Ot} : (Ot.next ρ).bind k = k ρ := (rfl)
@[simp] theorem ev_bind_ret {d : D} {k : Env → Ot} : (Ot.ret d).bind k = .ret d := (rfl)
@[simp] theorem ev_bind_exc {c : Str} {k : Env → Ot} : (Ot.exc c).bind k = .exc c := (rfl)
@[simp] theorem ev_bind_cont {ρ : Env} {k : Env → Ot} : (Ot.cont ρ).bind k = .cont ρ := (rfl)
@[simp] theorem ev_bind_bad {k : Env → Ot} : Ot.bad.bind k = .bad := (rfl)
@[simp] theorem ev_end_next {ρ : Env} : endR (.next ρ) = .ok .none := (rfl)
@[simp] theorem ev_end_ret {d : D} : endR (.ret d) = .ok d := (rfl)
@[simp] theorem ev_end_exc {c : Str} : endR (.exc c) = .exc c := (rfl)
@[simp] theorem ev_int {i : Int} : asInt (.int i) = .ok i := (rfl)
@[simp] theorem ev_bool {i : Bool} : asBool (.bool i) = .ok i := (rfl)
@[simp] theorem ev_list {i : List D} : asList (.list i) = .ok i := (rfl)
@[simp] theorem ev_add {a b : Int} : bop .add (.int a) (.int b) = .ok (.int (a + b)) := (rfl)
@[simp] theorem ev_sub {a b : Int} : bop .sub (.int a) (.int b) = .ok (.int (a - b)) := (rfl)
@[simp] theorem ev_mul {a b : Int} : bop .mul (.int a) (.int b) = if mulOk a b = true then .ok (.int (a * b)) else .bad := (rfl)
@[simp] theorem ev_fdiv {a b : Int} : bop .fdiv (.int a) (.int b) = if b ≠ 0 ∧ b.natAbs.log2 < 9000 then .ok (.int (a.fdiv b)) else .bad := (rfl)
@[simp] theorem ev_mod {a b : Int} : bop .mod (.int a) (.int b) = if b ≠ 0 then .ok (.int (a.fmod b)) else .bad := (rfl)
@[simp] theorem ev_pow {a b : Int} : bop .pow (.int a) (.int b) = if 0 ≤ b ∧ Builtin.Int.intBits a * b.toNat ≤ 134217728 then .ok (.int (a ^ b.toNat)) else .bad := (rfl)
@[simp] theorem ev_shl {a b : Int} : bop .shl (.int a) (.int b) = if 0 ≤ b ∧ Builtin.Int.intBits a + b.toNat ≤ 134217728 then .ok (.int (a * 2 ^ b.toNat)) else .bad := (rfl)
@[simp] theorem ev_shr {a b : Int} : bop .shr (.int a) (.int b) = if 0 ≤ b then .ok (.int (a / 2 ^ b.toNat)) else .bad := (rfl)
@[simp] theorem ev_band {a b : Int} : bop .band (.int a) (.int b) = .ok (.int (Builtin.bitAnd a b)) := (rfl)
@[simp] theorem ev_bor {a b : Int} : bop .bor (.int a) (.int b) = .ok (.int (Builtin.bitOr a b)) := (rfl)
@[simp] theorem ev_bxor {a b : Int} : bop .bxor (.int a) (.int b) = .ok (.int (Builtin.bitXor a b)) := (rfl)
@[simp] theorem ev_cat {a b : List D} : bop .add (.list a) (.list b) = if a.length + b.length ≤ sizeLine then .ok (.list (a ++ b)) else .bad := (rfl)
@[simp] theorem ev_rep {a : List D} {k : Int} : bop .rep (.list a) (.int k) = if a.length * k.toNat ≤ sizeLine ∧ k.natAbs < 2 ^ 62 then .ok (.list (List.replicate k.toNat a).flatten) else .bad := (rfl)
@[simp] theorem ev_lt {a b : Int} : cop .lt (.int a) (.int b) = .ok (.bool (decide (a < b))) := (rfl)
@[simp] theorem ev_lt_l {l m : List D} : cop .lt (.list l) (.list m) = intsD l >>= fun a => intsD m >>= fun b => .ok (.bool (lexB a b)) := (rfl)
@[simp] theorem ev_le {a b : Int} : cop .le (.int a) (.int b) = .ok (.bool (decide (a ≤ b))) := (rfl)
@[simp] theorem ev_gt {a b : Int} : cop .gt (.int a) (.int b) = .ok (.bool (decide (b < a))) := (rfl)
@[simp] theorem ev_ge {a b : Int} : cop .ge (.int a) (.int b) = .ok (.bool (decide (b ≤ a))) := (rfl)
@[simp] theorem ev_eq {d e : D} : cop .eq d e = ceq d e >>= fun b => .ok (.bool (b)) := (rfl)
@[simp] theorem ev_ne {d e : D} : cop .ne d e = ceq d e >>= fun b => .ok (.bool (!b)) := (rfl)
@[simp] theorem ev_mem {d e : D} : cop .mem d e = cmem d e >>= fun b => .ok (.bool b) := (rfl)
@[simp] theorem ev_nmem {d e : D} : cop .nmem d e = cmem d e >>= fun b => .ok (.bool !b) := (rfl)
@[simp] theorem ev_len_l {l : List D} : biD .len (.list l) = .ok (.int l.length) := (rfl)
@[simp] theorem ev_len_t {l : List D} : biD .len (.tuple l) = .ok (.int l.length) := (rfl)
@[simp] theorem ev_abs {i : Int} : biD .abs (.int i) = .ok (.int (i.natAbs : Nat)) := by
  show R.ok (PyData.int (if i < 0 then -i else i)) = _
  congr 2
  split <;> omega
@[simp] theorem ev_sum {l : List D} : biD .sum (.list l) = intsD l >>= fun r => .ok (.int r.sum) := (rfl)
@[simp] theorem ev_list_l {l : List D} : biD .list (.list l) = .ok (.list l) := (rfl)
@[simp] theorem ev_list_t {l : List D} : biD .list (.tuple l) = .ok (.list l) := (rfl)
@[simp] theorem ev_sorted {l : List D} : biD .sorted (.list l) = intsD l >>= fun r => .ok (.list ((sortI r).map .int)) := (rfl)
@[simp] theorem ev_int_i {i : Int} : biD .int (.int i) = .ok (.int i) := (rfl)
@[simp] theorem ev_int_b {i : Bool} : biD .int (.bool i) = .ok (.int (if i then 1 else 0)) := (rfl)
@[simp] theorem ev_all {l : List D} : biD .all (.list l) = boolsD l >>= fun r => .ok (.bool (r.all id)) := (rfl)
@[simp] theorem ev_rev {l : List D} : biD .rev (.list l) = .ok (.list l.reverse) := (rfl)
@[simp] theorem ev_rg1 {n : Int} : biD .listRg1 (.int n) = if 0 ≤ n ∧ n.toNat ≤ 16777216 then .ok (.list (rgL 0 n.toNat)) else .bad := (rfl)
@[simp] theorem ev_bits {i : Int} : biD .bits (.int i) = .ok (.int (Builtin.Int.intBits i : Nat)) := (rfl)
@[simp] theorem ev_min2 {a b : Int} : biD2 .min2 (.int a) (.int b) = .ok (.int (if b < a then b else a)) := (rfl)
@[simp] theorem ev_max2 {a b : Int} : biD2 .max2 (.int a) (.int b) = .ok (.int (if b > a then b else a)) := (rfl)
@[simp] theorem ev_ix_l {l : List D} {i : Int} : ixD (.list l) (.int i) = match atI l i with | some d => .ok d | none => .bad := (rfl)
@[simp] theorem ev_ix_t {l : List D} {i : Int} : ixD (.tuple l) (.int i) = match atI l i with | some d => .ok d | none => .bad := (rfl)
@[simp] theorem ev_sl_l {l : List D} {a b : Option Int} : slD (.list l) a b = .ok (.list (cutD l a b)) := (rfl)
@[simp] theorem ev_isi_none_int  : biD (.isi "int") (.none) = .ok (.bool false) := isi_by (show kitB "NoneType" "int" = some false by decide +kernel)
@[simp] theorem ev_isi_none_bool  : biD (.isi "bool") (.none) = .ok (.bool false) := isi_by (show kitB "NoneType" "bool" = some false by decide +kernel)
@[simp] theorem ev_isi_none_tuple  : biD (.isi "tuple") (.none) = .ok (.bool false) := isi_by (show kitB "NoneType" "tuple" = some false by decide +kernel)
@[simp] theorem ev_isi_none_list  : biD (.isi "list") (.none) = .ok (.bool false) := isi_by (show kitB "NoneType" "list" = some false by decide +kernel)
@[simp] theorem ev_isi_none_str  : biD (.isi "str") (.none) = .ok (.bool false) := isi_by (show kitB "NoneType" "str" = some false by decide +kernel)
@[simp] theorem ev_isi_b_int {b : Bool}  : biD (.isi "int") (.bool b) = .ok (.bool true) := isi_by (show kitB "bool" "int" = some true by decide +kernel)
@[simp] theorem ev_isi_b_bool {b : Bool}  : biD (.isi "bool") (.bool b) = .ok (.bool true) := isi_by (show kitB "bool" "bool" = some true by decide +kernel)
@[simp] theorem ev_isi_b_tuple {b : Bool}  : biD (.isi "tuple") (.bool b) = .ok (.bool false) := isi_by (show kitB "bool" "tuple" = some false by decide +kernel)
@[simp] theorem ev_isi_b_list {b : Bool}  : biD (.isi "list") (.bool b) = .ok (.bool false) := isi_by (show kitB "bool" "list" = some false by decide +kernel)
@[simp] theorem ev_isi_b_str {b : Bool}  : biD (.isi "str") (.bool b) = .ok (.bool false) := isi_by (show kitB "bool" "str" = some false by decide +kernel)
@[simp] theorem ev_isi_i_int {i : Int}  : biD (.isi "int") (.int i) = .ok (.bool true) := isi_by (show kitB "int" "int" = some true by decide +kernel)
@[simp] theorem ev_isi_i_bool {i : Int}  : biD (.isi "bool") (.int i) = .ok (.bool false) := isi_by (show kitB "int" "bool" = some false by decide +kernel)
@[simp] theorem ev_isi_i_tuple {i : Int}  : biD (.isi "tuple") (.int i) = .ok (.bool false) := isi_by (show kitB "int" "tuple" = some false by decide +kernel)
@[simp] theorem ev_isi_i_list {i : Int}  : biD (.isi "list") (.int i) = .ok (.bool false) := isi_by (show kitB "int" "list" = some false by decide +kernel)
@[simp] theorem ev_isi_i_str {i : Int}  : biD (.isi "str") (.int i) = .ok (.bool false) := isi_by (show kitB "int" "str" = some false by decide +kernel)
@[simp] theorem ev_isi_s_int {s : Str}  : biD (.isi "int") (.str s) = .ok (.bool false) := isi_by (show kitB "str" "int" = some false by decide +kernel)
@[simp] theorem ev_isi_s_bool {s : Str}  : biD (.isi "bool") (.str s) = .ok (.bool false) := isi_by (show kitB "str" "bool" = some false by decide +kernel)
@[simp] theorem ev_isi_s_tuple {s : Str}  : biD (.isi "tuple") (.str s) = .ok (.bool false) := isi_by (show kitB "str" "tuple" = some false by decide +kernel)
@[simp] theorem ev_isi_s_list {s : Str}  : biD (.isi "list") (.str s) = .ok (.bool false) := isi_by (show kitB "str" "list" = some false by decide +kernel)
@[simp] theorem ev_isi_s_str {s : Str}  : biD (.isi "str") (.str s) = .ok (.bool true) := isi_by (show kitB "str" "str" = some true by decide +kernel)
@[simp] theorem ev_isi_l_int {l : List D}  : biD (.isi "int") (.list l) = .ok (.bool false) := isi_by (show kitB "list" "int" = some false by decide +kernel)
@[simp] theorem ev_isi_l_bool {l : List D}  : biD (.isi "bool") (.list l) = .ok (.bool false) := isi_by (show kitB "list" "bool" = some false by decide +kernel)
@[simp] theorem ev_isi_l_tuple {l : List D}  : biD (.isi "tuple") (.list l) = .ok (.bool false) := isi_by (show kitB "list" "tuple" = some false by decide +kernel)
@[simp] theorem ev_isi_l_list {l : List D}  : biD (.isi "list") (.list l) = .ok (.bool true) := isi_by (show kitB "list" "list" = some true by decide +kernel)
@[simp] theorem ev_isi_l_str {l : List D}  : biD (.isi "str") (.list l) = .ok (.bool false) := isi_by (show kitB "list" "str" = some false by decide +kernel)
@[simp] theorem ev_isi_t_int {l : List D}  : biD (.isi "int") (.tuple l) = .ok (.bool false) := isi_by (show kitB "tuple" "int" = some false by decide +kernel)
@[simp] theorem ev_isi_t_bool {l : List D}  : biD (.isi "bool") (.tuple l) = .ok (.bool false) := isi_by (show kitB "tuple" "bool" = some false by decide +kernel)
@[simp] theorem ev_isi_t_tuple {l : List D}  : biD (.isi "tuple") (.tuple l) = .ok (.bool true) := isi_by (show kitB "tuple" "tuple" = some true by decide +kernel)
@[simp] theorem ev_isi_t_list {l : List D}  : biD (.isi "list") (.tuple l) = .ok (.bool false) := isi_by (show kitB "tuple" "list" = some false by decide +kernel)
@[simp] theorem ev_isi_t_str {l : List D}  : biD (.isi "str") (.tuple l) = .ok (.bool false) := isi_by (show kitB "tuple" "str" = some false by decide +kernel)
@[simp] theorem ev_flat_f {d : D} : flatChk false d = .ok d := (rfl)
@[simp] theorem ev_flat_t {d : D} : flatChk true d = if flatR d then .ok d else .bad := (rfl)
@[simp] theorem ev_isL_l {l : List D} : isL (.list l) = true := (rfl)
@[simp] theorem ev_isL_i {i : Int} : isL (.int i) = false := (rfl)
@[simp] theorem ev_isL_b {i : Bool} : isL (.bool i) = false := (rfl)
@[simp] theorem ev_isL_t {l : List D} : isL (.tuple l) = false := (rfl)
@[simp] theorem ev_isL_s {l : Str} : isL (.str l) = false := (rfl)
@[simp] theorem ev_isL_n : isL .none = false := (rfl)
@[simp] theorem ceq_ii {a b : Int} : ceq (.int a) (.int b) = .ok (decide (a = b)) := by
  unfold ceq scalD
  simp [PyData.eqv]
  rfl
@[simp] theorem ceq_bb {a b : Bool} : ceq (.bool a) (.bool b) = .ok (decide (a = b)) := by
  unfold ceq scalD
  cases a <;> cases b <;> simp [PyData.eqv]
theorem nat_gcd_mod (a b : Int) (hb : 0 < b) : Int.gcd b (a.fmod b) = Int.gcd a b := by
  rw [Int.fmod_eq_emod_of_nonneg a (Int.le_of_lt hb)]
  apply Nat.dvd_antisymm
  · refine Int.dvd_gcd ?_ (Int.gcd_dvd_left ..)
    have h1 : ((Int.gcd b (a % b) : Nat) : Int) ∣ b := Int.gcd_dvd_left ..
    have h2 : ((Int.gcd b (a % b) : Nat) : Int) ∣ a % b := Int.gcd_dvd_right ..
    have := Int.dvd_add (Int.dvd_mul_of_dvd_left (c := a / b) h1) h2
    rwa [Int.mul_ediv_add_emod] at this
  · refine Int.dvd_gcd (Int.gcd_dvd_right ..) ?_
    have h1 : ((Int.gcd a b : Nat) : Int) ∣ a := Int.gcd_dvd_left ..
    have h2 : ((Int.gcd a b : Nat) : Int) ∣ b := Int.gcd_dvd_right ..
    have := Int.dvd_sub h1 (Int.dvd_mul_of_dvd_left (c := a / b) h2)
    have e : a - b * (a / b) = a % b := by rw [Int.emod_def]
    rwa [e] at this
@[simp] theorem x2k_part {s : Str} : x2k .part (.str s) = true := (rfl)
@[simp] theorem x2k_find {s : Str} : x2k .find (.str s) = true := (rfl)
@[simp] theorem x2k_count {s : Str} : x2k .count (.str s) = true := (rfl)
@[simp] theorem x2k_join {s : Str} : x2k .join (.str s) = true := (rfl)
@[simp] theorem x2k_split {s : Str} : x2k .split (.str s) = true := (rfl)
@[simp] theorem x2k_lindex {l : List D} : x2k .lindex (.list l) = true := (rfl)
@[simp] theorem ev_find {a b : Str} : x2D .find (.str a) (.str b) = .ok (.int (Txt.find a b)) := (rfl)
@[simp] theorem ev_count {a b : Str} : x2D .count (.str a) (.str b) = .ok (.int (Txt.count a b)) := (rfl)
@[simp] theorem ev_part {a b : Str} : x2D .part (.str a) (.str b) = if (b.length == 0) = false ∧ a.length ≤ sizeLine then .ok (.tuple [.str (Txt.partition a b).1, .str (Txt.partition a b).2.1, .str (Txt.partition a b).2.2]) else .bad := (rfl)
@[simp] theorem ev_join {a : Str} {l : List D} : x2D .join (.str a) (.list l) = strsD l >>= fun ys => if (ys.map (·.length)).sum + ys.length * a.length ≤ 16777216 then .ok (.str (Txt.join a ys)) else .bad := (rfl)
@[simp] theorem ev_split {a b : Str} : x2D .split (.str a) (.str b) = if (b.length == 0) = false ∧ a.length + 2 ≤ sizeLine then .ok (.list ((Txt.split a b).map .str)) else .bad := (rfl)
@[simp] theorem ev_strI {i : Int} : biD .strI (.int i) = if i.natAbs.log2 < 1920 then .ok (.str (toString i)) else .bad := (rfl)
@[simp] theorem ev_upper {s : Str} : biD .upper (.str s) = if s.length ≤ 5592405 then .ok (.str (Txt.upper s)) else .bad := (rfl)
@[simp] theorem ev_isdig {s : Str} : biD .isdig (.str s) = .ok (.bool (Txt.isdigit s)) := (rfl)
@[simp] theorem ev_mulS {a : Str} {k : Int} : bop .mul (.str a) (.int k) = if a.length ≤ 1000 ∧ -1000 ≤ k ∧ k ≤ 1000 then .ok (.str (Txt.mul a k)) else .bad := (rfl)
end Mn
/-! Mn, part V: ratios. -/
namespace Mn
open PySem PySem.Spec PyProof.Rows L2
theorem num_pos {a b : Int} (hb : 0 < b) : a.fdiv (Int.gcd a b : Nat) = (Rat.divInt a b).num := by
  have hd : ((Int.gcd a b : Nat) : Int) ∣ a := Int.gcd_dvd_left ..
  rw [Int.fdiv_eq_ediv_of_dvd hd, Rat.num_divInt, Int.sign_eq_one_of_pos hb, Int.one_mul, Int.gcd_comm]
theorem num_neg {a b : Int} (hb : b < 0) : a.fdiv (-(Int.gcd a b : Nat)) = (Rat.divInt a b).num := by
  have hd : (-(Int.gcd a b : Nat) : Int) ∣ a := (Int.neg_dvd).mpr (Int.gcd_dvd_left ..)
  have hd2 : ((Int.gcd a b : Nat) : Int) ∣ a := Int.gcd_dvd_left ..
  rw [Int.fdiv_eq_ediv_of_dvd hd, Rat.num_divInt, Int.sign_eq_neg_one_of_neg hb, Int.gcd_comm b a, Int.ediv_neg, Int.neg_mul, Int.one_mul, Int.neg_ediv_of_dvd hd2]
theorem den_pos {a b : Int} (hb : 0 < b) : b.fdiv (Int.gcd a b : Nat) = (Rat.divInt a b).den := by
  have hd : ((Int.gcd a b : Nat) : Int) ∣ b := Int.gcd_dvd_right ..
  rw [Int.fdiv_eq_ediv_of_dvd hd, Rat.den_divInt, if_neg (by omega), Int.gcd_comm, Int.natCast_ediv]
  congr 1
  omega
theorem den_neg {a b : Int} (hb : b < 0) : b.fdiv (-(Int.gcd a b : Nat)) = (Rat.divInt a b).den := by
  have hd : (-(Int.gcd a b : Nat) : Int) ∣ b := (Int.neg_dvd).mpr (Int.gcd_dvd_right ..)
  rw [Int.fdiv_eq_ediv_of_dvd hd, Rat.den_divInt, if_neg (by omega), Int.gcd_comm b a, Int.natCast_ediv, Int.ediv_neg, ← Int.neg_ediv_of_dvd (Int.gcd_dvd_right ..)]
  congr 1
  omega
/-- a ratio as it lies -/
def rt (q : Rat) : D := .tuple [.int q.num, .int q.den]
theorem gcd_small {a b : Int} (hb : b ≠ 0) {k : Nat} (h : b.natAbs.log2 < k) : (Int.gcd a b).log2 < k := by
  have h0 : b.natAbs ≠ 0 := by omega
  have hg : Int.gcd a b ≠ 0 := fun e => hb (Int.gcd_eq_zero_iff.mp e).2
  rw [Nat.log2_lt hg]
  rw [Nat.log2_lt h0] at h
  have : Int.gcd a b ≤ b.natAbs := Nat.le_of_dvd (by omega) (Int.gcd_dvd_natAbs_right a b)
  omega
end Mn
namespace Mn
open PySem PySem.Spec PyProof.Rows L2
@[simp] theorem rt_0 {q : Rat} : ixD (rt q) (.int 0) = .ok (.int q.num) := (rfl)
@[simp] theorem rt_1 {q : Rat} : ixD (rt q) (.int 1) = .ok (.int q.den) := (rfl)
@[simp] theorem rt_L {q : Rat} : isL (rt q) = false := (rfl)
/-- no greater than the machine likes -/
def Sz (q : Rat) : Prop := q.num.natAbs < 2 ^ 2000 ∧ q.den < 2 ^ 2000
theorem Sz.zero : Sz 0 := ⟨by show 0 < _; exact Nat.two_pow_pos _, by show 1 < _; exact Nat.one_lt_two_pow (by decide)⟩
theorem mulOk_by {a b : Int} {m n : Nat} (ha : a.natAbs < 2 ^ m) (hb : b.natAbs < 2 ^ n) (h : m + n ≤ 1000000) : mulOk a b = true := by
  unfold mulOk
  by_cases h1 : a.natAbs = 0
  · simp [h1]
  · by_cases h2 : b.natAbs = 0
    · simp [h2]
    · have e1 := (Nat.log2_lt h1).mpr ha
      have e2 := (Nat.log2_lt h2).mpr hb
      have : a.natAbs.log2 + b.natAbs.log2 < 1000000 := by omega
      simp [this]
theorem log_by {b : Int} {n : Nat} (hb : b.natAbs < 2 ^ n) (h : n ≤ 9000) : b.natAbs.log2 < 9000 := by
  by_cases h2 : b.natAbs = 0
  · rw [h2]; decide
  · have e2 := (Nat.log2_lt h2).mpr hb
    omega
theorem mul_lt {a b m n : Nat} (ha : a < 2 ^ m) (hb : b < 2 ^ n) : a * b < 2 ^ (m + n) := by
  rw [Nat.pow_add]
  exact Nat.mul_lt_mul_of_lt_of_lt ha hb
theorem Sz.nd {p q : Rat} (hp : Sz p) (hq : Sz q) : mulOk p.num q.den = true := mulOk_by hp.1 (by simpa using hq.2) (by decide)
theorem Sz.nn {p q : Rat} (hp : Sz p) (hq : Sz q) : mulOk p.num q.num = true := mulOk_by hp.1 hq.1 (by decide)
theorem Sz.dd {p q : Rat} (hp : Sz p) (hq : Sz q) : mulOk p.den q.den = true := mulOk_by (by simpa using hp.2) (by simpa using hq.2) (by decide)
theorem Sz.dn {p q : Rat} (hp : Sz p) (hq : Sz q) : mulOk p.den q.num = true := mulOk_by (by simpa using hp.2) hq.1 (by decide)
theorem Sz.ldd {p q : Rat} (hp : Sz p) (hq : Sz q) : ((p.den : Int) * q.den).natAbs.log2 < 9000 := log_by (n := 4000) (by
  rw [Int.natAbs_mul]
  exact mul_lt (m := 2000) (n := 2000) (by simpa using hp.2) (by simpa using hq.2)) (by decide)
theorem Sz.ldn {p q : Rat} (hp : Sz p) (hq : Sz q) : ((p.den : Int) * q.num).natAbs.log2 < 9000 := log_by (n := 4000) (by
  rw [Int.natAbs_mul]
  exact mul_lt (m := 2000) (n := 2000) (by simpa using hp.2) hq.1) (by decide)
theorem dd0 {p q : Rat} : (p.den : Int) * q.den ≠ 0 := by
  have := p.den_nz
  have := q.den_nz
  simp [Int.mul_eq_zero]
  omega
theorem div_add (p q : Rat) : Rat.divInt (p.num * q.den + q.num * p.den) (p.den * q.den) = p + q := by
  rw [← Rat.divInt_add_divInt _ _ (by have := p.den_nz; omega) (by have := q.den_nz; omega), Rat.num_divInt_den, Rat.num_divInt_den]
theorem div_sub (p q : Rat) : Rat.divInt (p.num * q.den - q.num * p.den) (p.den * q.den) = p - q := by
  rw [← Rat.divInt_sub_divInt _ _ (by have := p.den_nz; omega) (by have := q.den_nz; omega), Rat.num_divInt_den, Rat.num_divInt_den]
theorem div_mul (p q : Rat) : Rat.divInt (p.num * q.num) (p.den * q.den) = p * q := by
  rw [← Rat.divInt_mul_divInt, Rat.num_divInt_den, Rat.num_divInt_den]
theorem div_div (p q : Rat) (h : q ≠ 0) : Rat.divInt (p.num * q.den) (p.den * q.num) = p / q := by
  have h0 : q.num ≠ 0 := by simpa using h
  rw [Rat.div_def, ← Rat.num_divInt_den q, Rat.inv_divInt, Rat.num_divInt_den]
  conv => rhs; rw [← Rat.num_divInt_den p]
  rw [Rat.divInt_mul_divInt]
end Mn
/-! Mn, part W: loops; places in lists; small things of whole numbers. -/
namespace Mn
open PySem PySem.Spec PyProof.Rows L2
/-! ### loops -/
def wipeO (fg : List Nat) : Ot → Ot
  | .next ρ => .next (wipeE ρ fg)
  | .cont ρ => .next (wipeE ρ fg)
  | o => o
@[simp] theorem wo_next {fg : List Nat} {ρ : Env} : wipeO fg (.next ρ) = .next (wipeE ρ fg) := (rfl)
@[simp] theorem wo_cont {fg : List Nat} {ρ : Env} : wipeO fg (.cont ρ) = .next (wipeE ρ fg) := (rfl)
@[simp] theorem wo_ret {fg : List Nat} {d : D} : wipeO fg (.ret d) = .ret d := (rfl)
@[simp] theorem wo_exc {fg : List Nat} {c : Str} : wipeO fg (.exc c) = .exc c := (rfl)
@[simp] theorem bt_1 {i : Nat} {d : D} {ρ : Env} : bindT [i] false d ρ = .ok (ρ.set i (some d)) := (rfl)
@[simp] theorem bt_2 {i j : Nat} {d e : D} {ρ : Env} : bindT [i, j] true (.tuple [d, e]) ρ = .ok ((ρ.set i (some d)).set j (some e)) := (rfl)
@[simp] theorem bl_2 {i j : Nat} {d e : D} {ρ : Env} : bindL [i, j] (.list [d, e]) ρ = .ok ((ρ.set i (some d)).set j (some e)) := (rfl)
@[simp] theorem bt_3 {i j k : Nat} {d e f : D} {ρ : Env} : bindT [i, j, k] true (.tuple [d, e, f]) ρ = .ok (((ρ.set i (some d)).set j (some e)).set k (some f)) := (rfl)
theorem wipeE_at (ρ : Env) (j : Nat) : ∀ fg : List Nat, (wipeE ρ fg)[j]? = if j ∈ fg then (if j < ρ.length then some none else none) else ρ[j]?
  | [] => by simp
  | i :: fg => by
    show ((wipeE ρ fg).set i none)[j]? = _
    by_cases hj : i = j
    · subst hj
      rw [if_pos List.mem_cons_self]
      by_cases hl : i < ρ.length
      · rw [if_pos hl, List.getElem?_set_self (by rw [wipeE_len]; exact hl)]
      · rw [if_neg hl, List.getElem?_eq_none (by rw [List.length_set, wipeE_len]; omega)]
    · rw [List.getElem?_set_ne hj, wipeE_at ρ j fg]
      by_cases hm : j ∈ fg
      · rw [if_pos hm, if_pos (List.mem_cons_of_mem _ hm)]
      · rw [if_neg hm, if_neg (by simp only [List.mem_cons, not_or]; exact ⟨fun e => hj e.symm, hm⟩)]
theorem wipeE_twice (ρ : Env) (fg : List Nat) : wipeE (wipeE ρ fg) fg = wipeE ρ fg := by
  refine List.ext_getElem? fun j => ?_
  rw [wipeE_at, wipeE_at, wipeE_len]
  by_cases hm : j ∈ fg
  · rw [if_pos hm, if_pos hm]
  · rw [if_neg hm, if_neg hm]
section
variable {fg tg : List Nat} {tup : Bool} {body : Env → Ot}
theorem forO_wipe (ds : List D) (ρ : Env) : forO fg tg tup body ds (wipeE ρ fg) = forO fg tg tup body ds ρ := by
  cases ds with
  | nil => show Ot.next _ = Ot.next _; rw [wipeE_twice]
  | cons d ds => show (bindT tg tup d (wipeE (wipeE ρ fg) fg)).ot _ = (bindT tg tup d (wipeE ρ fg)).ot _; rw [wipeE_twice]
/-- one turn, then the rest -/
theorem forO_cons (d : D) (ds : List D) (ρ : Env) : forO fg tg tup body (d :: ds) ρ = (wipeO fg ((bindT tg tup d (wipeE ρ fg)).ot body)).bind (forO fg tg tup body ds) := by
  show (bindT tg tup d (wipeE ρ fg)).ot _ = _
  cases bindT tg tup d (wipeE ρ fg) with
  | ok ρ' =>
    show (match body ρ' with
      | .next ρ'' => forO fg tg tup body ds ρ''
      | .cont ρ'' => forO fg tg tup body ds ρ''
      | o => o) = (wipeO fg (body ρ')).bind _
    cases body ρ' with
    | next ρ'' => exact (forO_wipe ds ρ'').symm
    | cont ρ'' => exact (forO_wipe ds ρ'').symm
    | _ => rfl
  | exc c => rfl
  | bad => rfl
theorem forO_nil (ρ : Env) : forO fg tg tup body [] ρ = .next (wipeE ρ fg) := rfl
/-- a loop that runs through: E i the frame ahead of turn i -/
theorem for_acc (E : Nat → Env) (ds : List D) (step : ∀ i d, ds[i]? = some d → wipeO fg ((bindT tg tup d (E i)).ot body) = .next (E (i + 1))) (hw : ∀ i, wipeE (E i) fg = E i) : ∀ ρ, wipeE ρ fg = E 0 → forO fg tg tup body ds ρ = .next (E ds.length) := by
  have go : ∀ (k : Nat) (es : List D), ds.drop k = es → ∀ ρ, wipeE ρ fg = E k → forO fg tg tup body es ρ = .next (E (k + es.length)) := by
    intro k es
    induction es generalizing k with
    | nil => intro _ ρ h; rw [forO_nil, h]; rfl
    | cons d es ih =>
      intro e ρ h
      have hd : ds[k]? = some d := by
        have := congrArg List.head? e
        rwa [List.head?_drop] at this
      rw [forO_cons, h, step k d hd]
      show forO fg tg tup body es (E (k + 1)) = _
      rw [ih (k + 1) (by rw [← List.drop_drop, e]; rfl) (E (k + 1)) (hw _)]
      congr 2
      simp only [List.length_cons]
      omega
  intro ρ h
  have := go 0 ds rfl ρ h
  rwa [Nat.zero_add] at this
theorem for_same (E : Env) (ds : List D) (step : ∀ d ∈ ds, wipeO fg ((bindT tg tup d E).ot body) = .next E) (hw : wipeE E fg = E) (ρ : Env) (h : wipeE ρ fg = E) : forO fg tg tup body ds ρ = .next E :=
  for_acc (fun _ => E) ds (fun i d hd => step d (List.mem_of_getElem? hd)) (fun _ => hw) ρ h
end
/-! ### whole numbers -/
theorem bits_le {a : Int} {n : Nat} (h : a.natAbs < 2 ^ n) : Builtin.Int.intBits a ≤ n := by
  unfold Builtin.Int.intBits
  split
  · omega
  · rename_i h0
    have h1 : a.natAbs ≠ 0 := fun e => h0 (by simpa using e)
    have := (Nat.log2_lt h1).mpr h
    omega
@[simp] theorem bits_10 : Builtin.Int.intBits 10 = 4 := by decide +kernel
@[simp] theorem bits_2 : Builtin.Int.intBits 2 = 2 := by decide +kernel
@[simp] theorem bits_3 : Builtin.Int.intBits 3 = 2 := by decide +kernel
@[simp] theorem bits_5 : Builtin.Int.intBits 5 = 3 := by decide +kernel
@[simp] theorem bits_7 : Builtin.Int.intBits 7 = 3 := by decide +kernel
@[simp] theorem bits_1 : Builtin.Int.intBits 1 = 1 := by decide +kernel
theorem fdiv_pos {a b : Int} (h : 0 < b) : a.fdiv b = a / b := Int.fdiv_eq_ediv_of_nonneg a (Int.le_of_lt h)
theorem fmod_pos {a b : Int} (h : 0 < b) : a.fmod b = a % b := Int.fmod_eq_emod_of_nonneg a (Int.le_of_lt h)
@[simp high] theorem ev_fdivp {a b : Int} (h0 : 0 < b) (h1 : b < 2 ^ 64) : bop .fdiv (.int a) (.int b) = .ok (.int (a / b)) := by
  have h2 : b.natAbs.log2 < 9000 := log_by (n := 64) (by omega) (by decide)
  rw [ev_fdiv, if_pos ⟨by omega, h2⟩, fdiv_pos h0]
@[simp high] theorem ev_modp {a b : Int} (h0 : 0 < b) : bop .mod (.int a) (.int b) = .ok (.int (a % b)) := by
  rw [ev_mod, if_pos (by omega), fmod_pos h0]
@[simp] theorem mulOk_r {a b : Int} (h : b.natAbs < 2 ^ 64) : mulOk a b = true := by
  unfold mulOk
  rw [decide_eq_true h, Bool.or_true, Bool.true_or]
@[simp] theorem mulOk_l {a b : Int} (h : a.natAbs < 2 ^ 64) : mulOk a b = true := by
  unfold mulOk
  rw [decide_eq_true h, Bool.true_or, Bool.true_or]
theorem sm62_of {n : Int} (h : n.natAbs < 4611686018427387904) : small62 n = true := decide_eq_true h
@[simp] theorem sm62_nat {n : Nat} (h : n < 4611686018427387904) : small62 (n : Int) = true := decide_eq_true (by rw [Int.natAbs_natCast]; exact h)
/-! ### places -/
theorem ixN_nat {n j : Nat} (h : j < n) : ixN n (j : Int) = some j := by
  unfold ixN
  rw [if_pos (by omega), if_pos (by omega)]
  simp
theorem ix_nat {l : List D} {j : Nat} {d : D} (h : l[j]? = some d) : ixD (.list l) (.int (j : Int)) = .ok d := by
  show (match atI l (j : Int) with | some d => R.ok d | none => .bad) = _
  rw [atI_nat h]
theorem ix_int {l : List D} {i : Int} {d : D} (h0 : 0 ≤ i) (h : l[i.toNat]? = some d) : ixD (.list l) (.int i) = .ok d := by
  have := ix_nat h
  rwa [Int.toNat_of_nonneg h0] at this
theorem cut_to {l : List D} {n : Nat} : cutD l none (some (n : Int)) = l.take n := by
  unfold cutD
  rw [HT.sIx_none, HT.sIx_nat]
  simp
theorem cut_from {l : List D} {n : Nat} : cutD l (some (n : Int)) none = l.drop n := by
  unfold cutD
  rw [HT.sIx_none, HT.sIx_nat]
  by_cases h : n ≤ l.length
  · rw [Nat.min_eq_left h]
    exact List.take_of_length_le (by simp)
  · rw [Nat.min_eq_right (by omega), List.drop_length, List.drop_of_length_le (by omega)]
    simp
/-- the script's cell, or 0 -/
def cellI (ns : List Int) (k : Nat) : Int := ns.getD k 0
theorem rng2_0 {n : Nat} (h : n ≤ 100000) : rng3 0 ((n : Int) - 1) 2 = .ok ((List.range (n / 2)).map fun (i : Nat) => .int (2 * i)) := by
  unfold rng3
  have hs : Builtin.Range.rangeSize 0 ((n : Int) - 1) 2 = ((n / 2 : Nat) : Int) := by
    unfold Builtin.Range.rangeSize
    rw [if_pos (by decide)]
    split <;> omega
  have fit : ∀ i : Int, -1000000 ≤ i → i ≤ 1000000 → Builtin.Range.rangeFitsLong i = true := fun i h1 h2 => by
    unfold Builtin.Range.rangeFitsLong
    rw [decide_eq_true (by omega), decide_eq_true (by omega)]
    rfl
  have hsm : Builtin.Range.small 0 ((n : Int) - 1) 2 = true := by
    unfold Builtin.Range.small
    rw [hs, fit 0 (by omega) (by omega), fit _ (by omega) (by omega), fit 2 (by omega) (by omega), fit _ (by omega) (by omega), if_pos (by decide), fit _ (by omega) (by omega), Bool.or_true]
    rfl
  rw [hs, if_pos ⟨by decide, by decide, hsm, by omega⟩, Int.toNat_natCast]
  congr 1
  simp [Int.mul_comm]
@[simp] theorem atI_0 {α : Type} {d : α} {l : List α} : atI (d :: l) 0 = some d := by
  unfold atI ixN
  simp
@[simp] theorem atI_1 {α : Type} {d e : α} {l : List α} : atI (d :: e :: l) 1 = some e := by
  unfold atI ixN
  rw [if_pos (by decide), if_pos (by simp only [List.length_cons]; omega)]
  rfl
@[simp] theorem atI_2 {α : Type} {d e f : α} {l : List α} : atI (d :: e :: f :: l) 2 = some f := by
  unfold atI ixN
  rw [if_pos (by decide), if_pos (by simp only [List.length_cons]; omega)]
  rfl
@[simp] theorem atI_3 {α : Type} {d e f g : α} {l : List α} : atI (d :: e :: f :: g :: l) 3 = some g := by
  unfold atI ixN
  rw [if_pos (by decide), if_pos (by simp only [List.length_cons]; omega)]
  rfl
@[simp] theorem atI_4 {α : Type} {d e f g h : α} {l : List α} : atI (d :: e :: f :: g :: h :: l) 4 = some h := by
  unfold atI ixN
  rw [if_pos (by decide), if_pos (by simp only [List.length_cons]; omega)]
  rfl
/-! ### ratios among data -/
@[simp] theorem rt_tup {q : Rat} : biD (.isi "tuple") (rt q) = .ok (.bool true) := ev_isi_t_tuple
@[simp] theorem rt_lst {q : Rat} : biD (.isi "list") (rt q) = .ok (.bool false) := ev_isi_t_list
@[simp] theorem rt_len {q : Rat} : biD .len (rt q) = .ok (.int 2) := (rfl)
@[simp] theorem tup01 : PyData.tuple [.int 0, .int 1] = rt 0 := (rfl)
theorem rt_inj {p q : Rat} : rt p = rt q ↔ p = q := by
  constructor
  · intro h
    unfold rt at h
    injection h with h
    injection h with h1 h2
    injection h1 with h1
    injection h2 with h2
    injection h2 with h2
    exact Rat.ext h1 (by omega)
  · rintro rfl
    rfl
@[simp] theorem eqv_int {a b : Int} : PyData.eqv (.int a) (.int b) = decide (a = b) := by
  show (a == b) = _
  rfl
@[simp] theorem eqv_rt {p q : Rat} : PyData.eqv (rt p) (rt q) = decide (p = q) := by
  have e : PyData.eqv (rt p) (rt q) = (PyData.eqv (.int p.num) (.int q.num) && (PyData.eqv (.int p.den) (.int q.den) && true)) := rfl
  rw [e, eqv_int, eqv_int, Bool.and_true, ← Bool.decide_and]
  congr 1
  apply propext
  constructor
  · rintro ⟨h1, h2⟩
    exact Rat.ext h1 (by omega)
  · rintro rfl
    exact ⟨rfl, rfl⟩
theorem canLay_rts : ∀ qs : List Rat, PyData.canLayAll0 (qs.map rt) = true
  | [] => rfl
  | q :: qs => by
    show (PyData.canLay0 (rt q) && PyData.canLayAll0 (qs.map rt)) = true
    rw [canLay_rts qs]
    rfl
theorem depth_rts : ∀ qs : List Rat, PyData.depthAll (qs.map rt) ≤ 2
  | [] => by show 0 ≤ 2; decide
  | q :: qs => by
    have h : PyData.depthAll ((q :: qs).map rt) = max (PyData.depth (rt q)) (PyData.depthAll (qs.map rt)) := rfl
    have h2 : PyData.depth (rt q) ≤ 2 := by
      have e : PyData.depth (rt q) = PyData.depthAll [.int q.num, .int q.den] + 1 := PyData.depth.eq_2 _
      have e2 : PyData.depthAll [.int q.num, .int q.den] ≤ 1 := by
        have e3 : PyData.depthAll [.int q.num, .int q.den] = max (PyData.depth (.int q.num)) (max (PyData.depth (.int q.den)) 0) := rfl
        have e4 : ∀ i, PyData.depth (.int i) = 0 := fun i => rfl
        rw [e3, e4, e4]
        decide
      omega
    have := depth_rts qs
    rw [h]
    omega
theorem shaped_rt {p : Rat} : SeqAt.shaped (rt p) = true := by
  unfold SeqAt.shaped
  have h1 := depth_rts [p]
  have h2 : PyData.depthAll ([p].map rt) = max (PyData.depth (rt p)) 0 := rfl
  rw [h2] at h1
  rw [decide_eq_true (by omega), Bool.and_true]
  rfl
theorem shaped_rts {qs : List Rat} : SeqAt.shaped (.list (qs.map rt)) = true := by
  unfold SeqAt.shaped
  have h1 := depth_rts qs
  have h2 : PyData.depth (.list (qs.map rt)) = PyData.depthAll (qs.map rt) + 1 := PyData.depth.eq_1 _
  rw [decide_eq_true (by omega), Bool.and_true]
  exact canLay_rts qs
@[simp] theorem eqv_rts : ∀ {ps qs : List Rat}, PyData.eqv (.list (ps.map rt)) (.list (qs.map rt)) = decide (ps = qs)
  | [], [] => rfl
  | [], _ :: _ => rfl
  | _ :: _, [] => rfl
  | p :: ps, q :: qs => by
    have e : PyData.eqv (.list ((p :: ps).map rt)) (.list ((q :: qs).map rt)) = (PyData.eqv (rt p) (rt q) && PyData.eqv (.list (ps.map rt)) (.list (qs.map rt))) := rfl
    rw [e, eqv_rt, eqv_rts, ← Bool.decide_and]
    congr 1
    apply propext
    simp
@[simp] theorem ceq_rt {p q : Rat} : ceq (rt p) (rt q) = .ok (decide (p = q)) := by
  unfold ceq
  rw [shaped_rt, shaped_rt, eqv_rt]
  simp
@[simp] theorem ceq_rts {p q : List Rat} : ceq (.list (p.map rt)) (.list (q.map rt)) = .ok (decide (p = q)) := by
  unfold ceq
  rw [shaped_rts, shaped_rts, eqv_rts]
  simp
end Mn
namespace Mn
open PySem PySem.Spec PyProof.Rows L2
/-! ### comprehensions -/
theorem filt_map {f : D → R (Option D)} {g : D → D} : ∀ {ds : List D}, (∀ d ∈ ds, f d = .ok (some (g d))) → filt f ds = .ok (ds.map g)
  | [], _ => rfl
  | d :: ds, h => by
    show (f d >>= fun o => filt f ds >>= fun r => R.ok (match o with | some y => y :: r | none => r)) = _
    rw [h d List.mem_cons_self, filt_map fun z hz => h z (List.mem_cons_of_mem _ hz)]
    rfl
theorem comp_map {own : List (Str × Nat)} {tg : List Nat} {tup : Bool} {it elt : ME} {ρ : Env} {ds : List D} (g : D → D) (hi : denI it ρ = .ok ds) (hl : ds.length ≤ sizeLine)
    (he : ∀ d ∈ ds, (bindT tg tup d (wipeE ρ (own.map (·.2))) >>= fun ρ' => denE elt ρ') = .ok (g d)) : denE (.comp own tg tup it .nil elt) ρ = .ok (.list (ds.map g)) := by
  have h : filt (fun d => bindT tg tup d (wipeE ρ (own.map (·.2))) >>= fun ρ' => denC .nil ρ' >>= fun k => if k = true then denE elt ρ' >>= fun y => R.ok (some y) else R.ok none) ds = .ok (ds.map g) := by
    refine filt_map fun d hd => ?_
    have h := he d hd
    cases e : bindT tg tup d (wipeE ρ (own.map (·.2))) with
    | ok ρ' =>
      rw [e] at h
      have h : denE elt ρ' = .ok (g d) := h
      show (denE elt ρ' >>= fun y => R.ok (some y)) = _
      rw [h]
      rfl
    | exc c => rw [e] at h; cases h
    | bad => rw [e] at h; cases h
  show (denI it ρ >>= fun ds => noexc (filt _ ds) >>= fun r => if r.length ≤ sizeLine then R.ok (PyData.list r) else .bad) = _
  rw [hi, ok_bind, h]
  show (if (ds.map g).length ≤ sizeLine then R.ok (PyData.list (ds.map g)) else .bad) = _
  rw [List.length_map, if_pos hl]
/-- over a list of values of one kind -/
theorem comp_of {α : Type} {own : List (Str × Nat)} {tg : List Nat} {tup : Bool} {it elt : ME} {ρ : Env} {as : List α} (w : α → D) (g : α → D) (hi : denI it ρ = .ok (as.map w)) (hl : as.length ≤ sizeLine)
    (he : ∀ a ∈ as, (bindT tg tup (w a) (wipeE ρ (own.map (·.2))) >>= fun ρ' => denE elt ρ') = .ok (g a)) : denE (.comp own tg tup it .nil elt) ρ = .ok (.list (as.map g)) := by
  have h : filt (fun d => bindT tg tup d (wipeE ρ (own.map (·.2))) >>= fun ρ' => denC .nil ρ' >>= fun k => if k = true then denE elt ρ' >>= fun y => R.ok (some y) else R.ok none) (as.map w) = .ok (as.map g) := by
    clear hi hl
    induction as with
    | nil => rfl
    | cons a as ih =>
      have ih := ih fun z hz => he z (List.mem_cons_of_mem _ hz)
      have h := he a List.mem_cons_self
      rw [List.map_cons, List.map_cons]
      show ((bindT tg tup (w a) (wipeE ρ (own.map (·.2))) >>= fun ρ' => denC .nil ρ' >>= fun k => if k = true then denE elt ρ' >>= fun y => R.ok (some y) else R.ok none) >>= fun o => filt _ (as.map w) >>= fun r => R.ok (match o with | some y => y :: r | none => r)) = _
      rw [ih]
      cases e : bindT tg tup (w a) (wipeE ρ (own.map (·.2))) with
      | ok ρ' =>
        rw [e] at h
        have h : denE elt ρ' = .ok (g a) := h
        show ((denE elt ρ' >>= fun y => R.ok (some y)) >>= fun o => _) = _
        rw [h]
        rfl
      | exc c => rw [e] at h; cases h
      | bad => rw [e] at h; cases h
  show (denI it ρ >>= fun ds => noexc (filt _ ds) >>= fun r => if r.length ≤ sizeLine then R.ok (PyData.list r) else .bad) = _
  rw [hi, ok_bind, h]
  show (if (as.map g).length ≤ sizeLine then R.ok (PyData.list (as.map g)) else .bad) = _
  rw [List.length_map, if_pos hl]
end Mn
/-! Mn, part X: sizes of ratios. -/
namespace Mn
open PySem PySem.Spec PyProof.Rows L2
def Szn (n : Nat) (q : Rat) : Prop := q.num.natAbs < 2 ^ n ∧ q.den < 2 ^ n
theorem Szn.sz {n : Nat} {q : Rat} (h : Szn n q) (hn : n ≤ 2000) : Sz q :=
  ⟨Nat.lt_of_lt_of_le h.1 (Nat.pow_le_pow_right (by decide) hn), Nat.lt_of_lt_of_le h.2 (Nat.pow_le_pow_right (by decide) hn)⟩
theorem Szn.mono {m n : Nat} {q : Rat} (h : Szn m q) (hn : m ≤ n) : Szn n q :=
  ⟨Nat.lt_of_lt_of_le h.1 (Nat.pow_le_pow_right (by decide) hn), Nat.lt_of_lt_of_le h.2 (Nat.pow_le_pow_right (by decide) hn)⟩
theorem Szn.d {n : Nat} {q : Rat} (h : Szn n q) : (q.den : Int).natAbs < 2 ^ n := by rw [Int.natAbs_natCast]; exact h.2
theorem num_le (a b : Int) (hb : b ≠ 0) : (Rat.divInt a b).num.natAbs ≤ a.natAbs := by
  rw [Rat.num_divInt]
  refine Nat.le_trans (Int.natAbs_ediv_le_natAbs _ _) ?_
  rw [Int.natAbs_mul]
  have : b.sign.natAbs = 1 := Int.natAbs_sign_of_ne_zero hb
  rw [this, Nat.one_mul]
  exact Nat.le_refl _
theorem den_le (a b : Int) (hb : b ≠ 0) : (Rat.divInt a b).den ≤ b.natAbs := by
  rw [Rat.den_divInt, if_neg hb]
  exact Nat.div_le_self _ _
theorem Szn.div {n : Nat} {a b : Int} (ha : a.natAbs < 2 ^ n) (hb : b.natAbs < 2 ^ n) (h0 : b ≠ 0) : Szn n (Rat.divInt a b) :=
  ⟨Nat.lt_of_le_of_lt (num_le a b h0) ha, Nat.lt_of_le_of_lt (den_le a b h0) hb⟩
theorem add_lt {a b n : Nat} (ha : a < 2 ^ n) (hb : b < 2 ^ n) : a + b < 2 ^ (n + 1) := by
  rw [Nat.pow_succ]
  omega
theorem dd_lt {m n : Nat} {p q : Rat} (hp : Szn m p) (hq : Szn n q) : ((p.den : Int) * q.den).natAbs < 2 ^ (m + n) := by
  rw [Int.natAbs_mul]
  exact mul_lt (by simpa using hp.2) (by simpa using hq.2)
theorem nd_lt {m n : Nat} {p q : Rat} (hp : Szn m p) (hq : Szn n q) : (p.num * (q.den : Int)).natAbs < 2 ^ (m + n) := by
  rw [Int.natAbs_mul]
  exact mul_lt hp.1 (by simpa using hq.2)
theorem nn_lt {m n : Nat} {p q : Rat} (hp : Szn m p) (hq : Szn n q) : (p.num * q.num).natAbs < 2 ^ (m + n) := by
  rw [Int.natAbs_mul]
  exact mul_lt hp.1 hq.1
theorem dn_lt {m n : Nat} {p q : Rat} (hp : Szn m p) (hq : Szn n q) : ((p.den : Int) * q.num).natAbs < 2 ^ (m + n) := by
  rw [Int.natAbs_mul]
  exact mul_lt (by simpa using hp.2) hq.1
theorem up1 {a n : Nat} (h : a < 2 ^ n) : a < 2 ^ (n + 1) := Nat.lt_of_lt_of_le h (Nat.pow_le_pow_right (by decide) (by omega))
theorem sumI_lt {a b : Int} {n : Nat} (ha : a.natAbs < 2 ^ n) (hb : b.natAbs < 2 ^ n) : (a + b).natAbs < 2 ^ (n + 1) := Nat.lt_of_le_of_lt (Int.natAbs_add_le a b) (add_lt ha hb)
theorem subI_lt {a b : Int} {n : Nat} (ha : a.natAbs < 2 ^ n) (hb : b.natAbs < 2 ^ n) : (a - b).natAbs < 2 ^ (n + 1) := Nat.lt_of_le_of_lt (Int.natAbs_sub_le a b) (add_lt ha hb)
theorem Szn.add {m n : Nat} {p q : Rat} (hp : Szn m p) (hq : Szn n q) : Szn (m + n + 1) (p + q) := by
  rw [← div_add]
  exact Szn.div (sumI_lt (nd_lt hp hq) (by rw [Nat.add_comm]; exact nd_lt hq hp)) (up1 (dd_lt hp hq)) dd0
theorem Szn.sub {m n : Nat} {p q : Rat} (hp : Szn m p) (hq : Szn n q) : Szn (m + n + 1) (p - q) := by
  rw [← div_sub]
  exact Szn.div (subI_lt (nd_lt hp hq) (by rw [Nat.add_comm]; exact nd_lt hq hp)) (up1 (dd_lt hp hq)) dd0
theorem Szn.mul {m n : Nat} {p q : Rat} (hp : Szn m p) (hq : Szn n q) : Szn (m + n) (p * q) := by
  rw [← div_mul]
  exact Szn.div (nn_lt hp hq) (dd_lt hp hq) dd0
theorem Szn.quo {m n : Nat} {p q : Rat} (hp : Szn m p) (hq : Szn n q) (h : q ≠ 0) : Szn (m + n) (p / q) := by
  rw [← div_div p q h]
  exact Szn.div (nd_lt hp hq) (dn_lt hp hq) (Int.mul_ne_zero (by have := p.den_nz; omega) (by simpa using h))
/-- cross products -/
theorem cross {q : Rat} {t b : Int} (hb : b ≠ 0) (h : q = Rat.divInt t b) : q.num * b = t * q.den := by
  have hd : (q.den : Int) ≠ 0 := by have := q.den_nz; omega
  rw [← Rat.num_divInt_den q] at h
  exact (Rat.divInt_eq_divInt_iff hd hb).mp h
end Mn
/-! Mn, part Y: sums; ratios over one bottom. -/
namespace Mn
open PySem PySem.Spec PyProof.Rows L2
/-! ### sums -/
def sumQ : List Rat → Rat
  | [] => 0
  | q :: qs => q + sumQ qs
theorem sumQ_app (ps qs : List Rat) : sumQ (ps ++ qs) = sumQ ps + sumQ qs := by
  induction ps with
  | nil => simp [sumQ, Rat.zero_add]
  | cons p ps ih => simp only [List.cons_append, sumQ, ih, Rat.add_assoc]
theorem sumQ_take {qs : List Rat} {i : Nat} {q : Rat} (h : qs[i]? = some q) : sumQ (qs.take (i + 1)) = sumQ (qs.take i) + q := by
  rw [List.take_succ, h, sumQ_app]
  simp [sumQ, Rat.add_zero]
theorem sumQ_nonneg {qs : List Rat} (h : ∀ q ∈ qs, 0 ≤ q) : 0 ≤ sumQ qs := by
  induction qs with
  | nil => exact Rat.le_refl
  | cons q qs ih =>
    have h1 := h q List.mem_cons_self
    have h2 := ih fun z hz => h z (List.mem_cons_of_mem _ hz)
    show 0 ≤ q + sumQ qs
    grind
/-! ### over one bottom -/
/-- q is a whole number of G-ths, at most B of them, to either side -/
def On (G B : Nat) (q : Rat) : Prop := 0 < G ∧ ∃ k : Int, q = Rat.divInt k G ∧ k.natAbs ≤ B
theorem On.mono {G B C : Nat} {q : Rat} (h : On G B q) (hb : B ≤ C) : On G C q := by
  obtain ⟨g, k, e, h⟩ := h
  exact ⟨g, k, e, Nat.le_trans h hb⟩
theorem On.szn {G B n : Nat} {q : Rat} (h : On G B q) (hg : G < 2 ^ n) (hb : B < 2 ^ n) : Szn n q := by
  obtain ⟨g, k, e, h⟩ := h
  rw [e]
  exact Szn.div (Nat.lt_of_le_of_lt h hb) (by rw [Int.natAbs_natCast]; exact hg) (by omega)
theorem On.zero {G : Nat} (g : 0 < G) : On G 0 0 := ⟨g, 0, by simp, by simp⟩
theorem On.add {G B C : Nat} {p q : Rat} (hp : On G B p) (hq : On G C q) : On G (B + C) (p + q) := by
  obtain ⟨g, k, rfl, h⟩ := hp
  obtain ⟨_, l, rfl, h'⟩ := hq
  refine ⟨g, k + l, ?_, by omega⟩
  have hg : (G : Int) ≠ 0 := by omega
  rw [Rat.divInt_add_divInt _ _ hg hg, ← Int.add_mul, Rat.divInt_mul_right hg]
theorem On.sub {G B C : Nat} {p q : Rat} (hp : On G B p) (hq : On G C q) : On G (B + C) (p - q) := by
  obtain ⟨g, k, rfl, h⟩ := hp
  obtain ⟨_, l, rfl, h'⟩ := hq
  refine ⟨g, k - l, ?_, by omega⟩
  have hg : (G : Int) ≠ 0 := by omega
  rw [Rat.divInt_sub_divInt _ _ hg hg, ← Int.sub_mul, Rat.divInt_mul_right hg]
theorem On.mul {G H B C : Nat} {p q : Rat} (hp : On G B p) (hq : On H C q) : On (G * H) (B * C) (p * q) := by
  obtain ⟨g, k, rfl, h⟩ := hp
  obtain ⟨g', l, rfl, h'⟩ := hq
  refine ⟨Nat.mul_pos g g', k * l, ?_, by rw [Int.natAbs_mul]; exact Nat.mul_le_mul h h'⟩
  rw [Rat.divInt_mul_divInt, Int.natCast_mul]
theorem On.up {G B : Nat} {q : Rat} (H : Nat) (hH : 0 < H) (h : On G B q) : On (G * H) (B * H) q := by
  obtain ⟨g, k, rfl, h⟩ := h
  refine ⟨Nat.mul_pos g hH, k * H, ?_, by rw [Int.natAbs_mul, Int.natAbs_natCast]; exact Nat.mul_le_mul_right _ h⟩
  rw [Int.natCast_mul, Rat.divInt_mul_right (by omega)]
theorem On.sum {G B : Nat} (g : 0 < G) : ∀ {qs : List Rat}, (∀ q ∈ qs, On G B q) → On G (qs.length * B) (sumQ qs)
  | [], _ => (On.zero g).mono (by simp)
  | q :: qs, h => by
    have h1 := h q List.mem_cons_self
    have h2 := On.sum g (qs := qs) fun z hz => h z (List.mem_cons_of_mem _ hz)
    refine (h1.add h2).mono ?_
    rw [List.length_cons, Nat.add_mul]
    omega
theorem on_div (a : Int) (b : Nat) (h : 0 < b) : On b a.natAbs (Rat.divInt a b) := ⟨h, a, rfl, Nat.le_refl _⟩
@[simp] theorem flat_rt {q : Rat} : flatR (rt q) = true := (rfl)
theorem sumQ_rev (qs : List Rat) : sumQ qs.reverse = sumQ qs := by
  induction qs with
  | nil => rfl
  | cons q qs ih =>
    rw [List.reverse_cons, sumQ_app, ih]
    simp only [sumQ, Rat.add_zero]
    exact Rat.add_comm _ _
theorem sumQ_rep (qs : List Rat) : ∀ k : Nat, sumQ (List.replicate k qs).flatten = k * sumQ qs
  | 0 => by simp [sumQ, Rat.zero_mul]
  | k + 1 => by
    rw [List.replicate_succ, List.flatten_cons, sumQ_app, sumQ_rep qs k]
    have e : ((k + 1 : Nat) : Rat) = (k : Rat) + 1 := by exact Rat.natCast_add k 1
    rw [e, Rat.add_mul, Rat.one_mul, Rat.add_comm]
theorem sumQ_div (b : Nat) (hb : 0 < b) : ∀ cs : List Int, sumQ (cs.map fun c => Rat.divInt c b) = Rat.divInt cs.sum b
  | [] => by simp [sumQ]
  | c :: cs => by
    have hb' : (b : Int) ≠ 0 := by omega
    rw [List.map_cons, List.sum_cons]
    show Rat.divInt c b + sumQ _ = _
    rw [sumQ_div b hb cs, Rat.divInt_add_divInt _ _ hb' hb', ← Int.add_mul, Rat.divInt_mul_right hb']
theorem divInt_nn {a : Int} {b : Nat} (h : 0 ≤ a) : 0 ≤ Rat.divInt a b := Rat.divInt_nonneg h (by omega)
theorem divInt_sub1 {a c : Int} {b : Nat} (hb : 0 < b) : Rat.divInt c b - Rat.divInt a b = Rat.divInt (c - a) b := by
  have hb' : (b : Int) ≠ 0 := by omega
  rw [Rat.divInt_sub_divInt _ _ hb' hb', ← Int.sub_mul, Rat.divInt_mul_right hb']
theorem divInt_le {a c : Int} {b : Nat} (hb : 0 < b) (h : a ≤ c) : Rat.divInt a b ≤ Rat.divInt c b := by
  have h1 : 0 ≤ Rat.divInt c b - Rat.divInt a b := by
    rw [divInt_sub1 hb]
    exact divInt_nn (by omega)
  grind
theorem divInt_zero_iff {a b : Int} (hb : b ≠ 0) : Rat.divInt a b = 0 ↔ a = 0 := by
  have e : (0 : Rat) = Rat.divInt 0 1 := (rfl)
  rw [e, Rat.divInt_eq_divInt_iff hb (by decide)]
  omega
@[simp] theorem flat_bool {b : Bool} : flatR (.bool b) = true := (rfl)
@[simp] theorem flat_int {b : Int} : flatR (.int b) = true := (rfl)
@[simp] theorem flat_str {b : Str} : flatR (.str b) = true := (rfl)
@[simp] theorem flat_none : flatR .none = true := (rfl)
theorem flat_rts {qs : List Rat} : flatR (.list (qs.map rt)) = true := by
  show (qs.map rt).all flatR.noL = true
  rw [List.all_map, List.all_eq_true]
  intro q _
  rfl
theorem flat_ints {qs : List Int} : flatR (.list (qs.map .int)) = true := by
  show (qs.map PyData.int).all flatR.noL = true
  rw [List.all_map, List.all_eq_true]
  intro q _
  rfl
end Mn
namespace Mn
open PySem PySem.Spec PyProof.Rows L2
/-! ### putting in order -/
def downQ (x : Rat) (l : List Rat) : Nat → Nat
  | 0 => 0
  | n + 1 => if x < l.getD n 0 then downQ x l n else n + 1
theorem downQ_le (x : Rat) (l : List Rat) : ∀ n, downQ x l n ≤ n
  | 0 => Nat.le_refl _
  | n + 1 => by
    unfold downQ
    split
    · exact Nat.le_succ_of_le (downQ_le x l n)
    · exact Nat.le_refl _
theorem downQ_hi (x : Rat) (l : List Rat) : ∀ n i, downQ x l n ≤ i → i < n → x < l.getD i 0
  | 0, i, _, h => absurd h (by omega)
  | n + 1, i, h1, h2 => by
    unfold downQ at h1
    split at h1
    · rename_i h
      by_cases hi : i = n
      · rw [hi]; exact h
      · exact downQ_hi x l n i h1 (by omega)
    · omega
theorem downQ_lo (x : Rat) (l : List Rat) : ∀ n, 0 < downQ x l n → ¬ x < l.getD (downQ x l n - 1) 0
  | 0, h => absurd h (by unfold downQ; omega)
  | n + 1, h => by
    unfold downQ at h ⊢
    split at h
    · rename_i h1
      rw [if_pos h1]
      exact downQ_lo x l n h
    · rename_i h1
      rw [if_neg h1]
      exact h1
def stepQ (l : List Rat) (x : Rat) : List Rat := l.take (downQ x l l.length) ++ [x] ++ l.drop (downQ x l l.length)
def risingQ (qs : List Rat) : List Rat := qs.foldl stepQ []
theorem stepQ_perm (l : List Rat) (x : Rat) : (stepQ l x).Perm (x :: l) := by
  unfold stepQ
  have h : (l.take (downQ x l l.length) ++ [x] ++ l.drop (downQ x l l.length)).Perm (x :: (l.take (downQ x l l.length) ++ l.drop (downQ x l l.length))) := by
    rw [List.append_assoc]
    exact List.perm_middle
  rwa [List.take_append_drop] at h
theorem stepQ_sorted {l : List Rat} (x : Rat) (h : l.Pairwise (· ≤ ·)) : (stepQ l x).Pairwise (· ≤ ·) := by
  unfold stepQ
  have hd := downQ_le x l l.length
  have hi := downQ_hi x l l.length
  have hlo := downQ_lo x l l.length
  generalize downQ x l l.length = d at hd hi hlo
  have lo : ∀ y ∈ l.take d, y ≤ x := by
    intro y hy
    obtain ⟨i, hi1, rfl⟩ := List.mem_iff_getElem.mp hy
    rw [List.length_take] at hi1
    have hdl : d - 1 < l.length := by omega
    have h1 := hlo (by omega)
    rw [List.getD_eq_getElem?_getD, List.getElem?_eq_getElem hdl, Option.getD_some] at h1
    rw [List.getElem_take]
    have h2 : l[i] ≤ l[d - 1] := by
      by_cases e : i = d - 1
      · subst e; exact Rat.le_refl
      · exact List.pairwise_iff_getElem.mp h i (d - 1) (by omega) hdl (by omega)
    grind
  have hi' : ∀ y ∈ l.drop d, x ≤ y := by
    intro y hy
    obtain ⟨i, hi1, rfl⟩ := List.mem_iff_getElem.mp hy
    rw [List.length_drop] at hi1
    have h1 := hi (d + i) (by omega) (by omega)
    rw [List.getD_eq_getElem?_getD, List.getElem?_eq_getElem (by omega), Option.getD_some] at h1
    rw [List.getElem_drop]
    grind
  rw [List.append_assoc, List.pairwise_append]
  refine ⟨h.sublist (List.take_sublist _ _), ?_, fun a ha b hb => ?_⟩
  · rw [List.singleton_append, List.pairwise_cons]
    exact ⟨hi', h.sublist (List.drop_sublist _ _)⟩
  · rw [List.singleton_append] at hb
    have h1 := lo a ha
    rcases List.mem_cons.mp hb with rfl | hb
    · exact h1
    · have h2 := hi' b hb
      grind
theorem foldl_step : ∀ (qs l : List Rat), l.Pairwise (· ≤ ·) → (qs.foldl stepQ l).Perm (qs ++ l) ∧ (qs.foldl stepQ l).Pairwise (· ≤ ·)
  | [], l, h => ⟨List.Perm.refl _, h⟩
  | q :: qs, l, h => by
    obtain ⟨h1, h2⟩ := foldl_step qs (stepQ l q) (stepQ_sorted q h)
    refine ⟨h1.trans ?_, h2⟩
    refine ((List.Perm.append_left qs (stepQ_perm l q))).trans ?_
    exact List.perm_middle
theorem risingQ_perm (qs : List Rat) : (risingQ qs).Perm qs := by
  have h := (foldl_step qs [] List.Pairwise.nil).1
  rwa [List.append_nil] at h
theorem risingQ_sorted (qs : List Rat) : (risingQ qs).Pairwise (· ≤ ·) := (foldl_step qs [] List.Pairwise.nil).2
theorem sumQ_perm {l m : List Rat} (h : l.Perm m) : sumQ l = sumQ m := by
  induction h with
  | nil => rfl
  | cons x _ ih => simp only [sumQ, ih]
  | swap x y l => simp only [sumQ]; grind
  | trans _ _ h1 h2 => exact h1.trans h2
end Mn
/-! Mn, part Z: sums over all subsets; turns. -/
namespace Mn
open PySem PySem.Spec PyProof.Rows L2
def minQ (p q : Rat) : Rat := if q < p then q else p
def clipQ (q : Rat) : Rat := if q < 0 then 0 else q
def factN : Nat → Nat
  | 0 => 1
  | n + 1 => (n + 1) * factN n
theorem factN_pos : ∀ n, 0 < factN n
  | 0 => by decide
  | n + 1 => Nat.mul_pos (Nat.succ_pos n) (factN_pos n)
theorem natR_pos {n : Nat} (h : 0 < n) : (0 : Rat) < (n : Rat) := by
  have := Rat.natCast_lt_natCast.mpr h
  simpa using this
theorem natR_nn (n : Nat) : (0 : Rat) ≤ (n : Rat) := by
  have := Rat.natCast_le_natCast.mpr (Nat.zero_le n)
  simpa using this
/-- j of m come ahead: in so many orders -/
def wt (m j : Nat) : Rat := ((factN j * factN (m - j) : Nat) : Rat)
theorem wt_nn (m j : Nat) : 0 ≤ wt m j := natR_nn _
theorem wt_step {m j : Nat} (h : j ≤ m) : wt (m + 1) j + wt (m + 1) (j + 1) = ((m + 2 : Nat) : Rat) * wt m j := by
  unfold wt
  rw [← Rat.natCast_add, ← Rat.natCast_mul, show m + 1 - j = (m - j) + 1 by omega, show m + 1 - (j + 1) = m - j by omega]
  congr 1
  show factN j * (((m - j) + 1) * factN (m - j)) + ((j + 1) * factN j) * factN (m - j) = (m + 2) * (factN j * factN (m - j))
  have e : m + 2 = (m - j + 1) + (j + 1) := by omega
  rw [e]
  generalize factN j = a
  generalize factN (m - j) = b
  generalize m - j + 1 = c
  generalize j + 1 = d
  rw [Nat.add_mul, ← Nat.mul_assoc a c b, Nat.mul_comm a c, Nat.mul_assoc, Nat.mul_assoc]
/-- over all subsets: k the size, x what is left -/
def ssQ (g : Nat → Rat → Rat) : List Rat → Nat → Rat → Rat
  | [], k, x => g k x
  | c :: cs, k, x => ssQ g cs k x + ssQ g cs (k + 1) (x - c)
section
variable {g g' : Nat → Rat → Rat}
theorem ss_congr : ∀ {cs : List Rat} {k : Nat} {x : Rat}, (∀ j y, k ≤ j → j ≤ k + cs.length → g j y = g' j y) → ssQ g cs k x = ssQ g' cs k x
  | [], k, x, h => h k x (Nat.le_refl _) (Nat.le_refl _)
  | c :: cs, k, x, h => by
    show ssQ g cs k x + ssQ g cs (k + 1) (x - c) = ssQ g' cs k x + ssQ g' cs (k + 1) (x - c)
    rw [ss_congr fun j y h1 h2 => h j y h1 (by rw [List.length_cons]; omega), ss_congr fun j y h1 h2 => h j y (by omega) (by rw [List.length_cons]; omega)]
theorem ss_add : ∀ (cs : List Rat) (k : Nat) (x : Rat), ssQ (fun j y => g j y + g' j y) cs k x = ssQ g cs k x + ssQ g' cs k x
  | [], k, x => rfl
  | c :: cs, k, x => by
    simp only [ssQ, ss_add cs]
    grind
theorem ss_mul (a : Rat) : ∀ (cs : List Rat) (k : Nat) (x : Rat), ssQ (fun j y => a * g j y) cs k x = a * ssQ g cs k x
  | [], k, x => rfl
  | c :: cs, k, x => by
    simp only [ssQ, ss_mul a cs]
    grind
theorem ss_sub (cs : List Rat) (k : Nat) (x : Rat) : ssQ (fun j y => g j y - g' j y) cs k x = ssQ g cs k x - ssQ g' cs k x := by
  have h1 := ss_mul (g := g') (-1) cs k x
  have h2 := ss_add (g := g) (g' := fun j y => (-1) * g' j y) cs k x
  rw [h1] at h2
  have h3 : (fun j y => g j y - g' j y) = fun j y => g j y + (-1) * g' j y := by
    funext j y
    grind
  rw [h3, h2]
  grind
theorem ss_shift (d : Nat) (c : Rat) : ∀ (cs : List Rat) (k : Nat) (x : Rat), ssQ g cs (k + d) (x - c) = ssQ (fun j y => g (j + d) (y - c)) cs k x
  | [], k, x => rfl
  | b :: cs, k, x => by
    show ssQ g cs (k + d) (x - c) + ssQ g cs (k + d + 1) (x - c - b) = _
    have e1 : x - c - b = x - b - c := by grind
    have e2 : k + d + 1 = (k + 1) + d := by omega
    rw [ss_shift d c cs k x, e1, e2, ss_shift d c cs (k + 1) (x - b)]
    rfl
/-- all of ds are no more than those of cs -/
def LeL : List Rat → List Rat → Prop
  | [], [] => True
  | a :: as, b :: bs => a ≤ b ∧ LeL as bs
  | _, _ => False
theorem LeL.refl : ∀ l : List Rat, LeL l l
  | [] => trivial
  | a :: l => ⟨Rat.le_refl, LeL.refl l⟩
theorem ss_le (h : ∀ j x y, x ≤ y → g j x ≤ g' j y) : ∀ {cs ds : List Rat} (k : Nat) {x y : Rat}, LeL ds cs → x ≤ y → ssQ g cs k x ≤ ssQ g' ds k y
  | [], [], k, x, y, _, hx => h k x y hx
  | [], _ :: _, _, _, _, l, _ => l.elim
  | _ :: _, [], _, _, _, l, _ => l.elim
  | c :: cs, d :: ds, k, x, y, l, hx => by
    have h1 := ss_le h k (x := x) (y := y) l.2 hx
    have h2 := ss_le h (k + 1) (x := x - c) (y := y - d) l.2 (by have := l.1; grind)
    show ssQ g cs k x + ssQ g cs (k + 1) (x - c) ≤ ssQ g' ds k y + ssQ g' ds (k + 1) (y - d)
    grind
theorem ss_nn (h : ∀ j x, 0 ≤ g j x) : ∀ (cs : List Rat) (k : Nat) (x : Rat), 0 ≤ ssQ g cs k x
  | [], k, x => h k x
  | c :: cs, k, x => by
    have h1 := ss_nn h cs k x
    have h2 := ss_nn h cs (k + 1) (x - c)
    show 0 ≤ ssQ g cs k x + ssQ g cs (k + 1) (x - c)
    grind
theorem ss_perm {cs ds : List Rat} (h : cs.Perm ds) : ∀ (k : Nat) (x : Rat), ssQ g cs k x = ssQ g ds k x := by
  induction h with
  | nil => intro k x; rfl
  | cons c _ ih => intro k x; simp only [ssQ, ih]
  | swap a b l =>
    intro k x
    simp only [ssQ]
    have e : x - a - b = x - b - a := by grind
    rw [e]
    grind
  | trans _ _ h1 h2 => intro k x; rw [h1, h2]
theorem ss_first (f : Rat → Rat) : ∀ (cs : List Rat) (k i : Nat) (x : Rat), i ≤ k → ssQ (fun j y => if j = i then f y else 0) cs k x = if k = i then f x else 0
  | [], k, i, x, _ => rfl
  | c :: cs, k, i, x, h => by
    show ssQ _ cs k x + ssQ _ cs (k + 1) (x - c) = _
    rw [ss_first f cs k i x h, ss_first f cs (k + 1) i (x - c) (by omega), if_neg (show ¬ k + 1 = i by omega)]
    grind
theorem ss_last (f : Rat → Rat) : ∀ (cs : List Rat) (k i : Nat) (x : Rat), k + cs.length ≤ i → ssQ (fun j y => if j = i then f y else 0) cs k x = if k + cs.length = i then f (x - sumQ cs) else 0
  | [], k, i, x, _ => by
    show (if k = i then f x else 0) = if k + 0 = i then f (x - 0) else 0
    rw [Nat.add_zero, show x - 0 = x by grind]
  | c :: cs, k, i, x, h => by
    rw [List.length_cons] at h
    show ssQ _ cs k x + ssQ _ cs (k + 1) (x - c) = _
    rw [ss_last f cs k i x (by omega), ss_last f cs (k + 1) i (x - c) (by omega), if_neg (show ¬ k + cs.length = i by omega), List.length_cons]
    have e : x - c - sumQ cs = x - sumQ (c :: cs) := by
      show x - c - sumQ cs = x - (c + sumQ cs)
      grind
    rw [e, show k + 1 + cs.length = k + (cs.length + 1) by omega]
    grind
/-- turned about: what is in comes out -/
theorem ss_turn : ∀ (cs : List Rat) (k : Nat) (x : Rat), ssQ g cs k x = ssQ (fun j y => g (2 * k + cs.length - j) (2 * x - sumQ cs - y)) cs k x
  | [], k, x => by
    show g k x = g (2 * k + 0 - k) (2 * x - 0 - x)
    rw [show 2 * k + 0 - k = k by omega, show 2 * x - 0 - x = x by grind]
  | c :: cs, k, x => by
    show ssQ g cs k x + ssQ g cs (k + 1) (x - c) = ssQ _ cs k x + ssQ _ cs (k + 1) (x - c)
    have h1 := ss_turn cs k x
    have h2 := ss_turn cs (k + 1) (x - c)
    rw [ss_shift 1 c] at h2
    have e1 : ssQ g cs (k + 1) (x - c) = ssQ (fun j y => g (2 * k + (c :: cs).length - j) (2 * x - sumQ (c :: cs) - y)) cs k x := by
      rw [ss_shift 1 c, h2, ss_shift 1 c]
      refine ss_congr fun j y h3 h4 => ?_
      rw [List.length_cons]
      show g _ _ = g _ (2 * x - (c + sumQ cs) - y)
      congr 1
      · omega
      · grind
    have e2 : ssQ g cs k x = ssQ (fun j y => g (2 * k + (c :: cs).length - j) (2 * x - sumQ (c :: cs) - y)) cs (k + 1) (x - c) := by
      rw [h1, ss_shift 1 c]
      refine ss_congr fun j y h3 h4 => ?_
      rw [List.length_cons]
      show g _ _ = g _ (2 * x - (c + sumQ cs) - (y - c))
      congr 1
      · omega
      · grind
    rw [e1, e2]
    exact Rat.add_comm _ _
end
theorem ss_wt : ∀ (cs : List Rat) (x : Rat), ssQ (fun j _ => wt cs.length j) cs 0 x = (factN (cs.length + 1) : Rat)
  | [], x => by
    show wt 0 0 = _
    rfl
  | c :: cs, x => by
    show ssQ _ cs 0 x + ssQ _ cs (0 + 1) (x - c) = _
    rw [ss_shift 1 c, ← ss_add]
    have e : ssQ (fun j y => wt (c :: cs).length j + wt (c :: cs).length (j + 1)) cs 0 x = ssQ (fun j y => ((cs.length + 2 : Nat) : Rat) * wt cs.length j) cs 0 x := ss_congr fun j y h1 h2 => by
      rw [List.length_cons]
      exact wt_step (by omega)
    rw [e, ss_mul, ss_wt cs x, ← Rat.natCast_mul]
    rfl
/-- what one takes of what is left -/
def oneQ (a x : Rat) : Rat := minQ a (clipQ x)
theorem one_mono {a b x y : Rat} (h : a ≤ b) (k : x ≤ y) : oneQ a x ≤ oneQ b y := by
  unfold oneQ minQ clipQ
  grind
theorem one_nn {a x : Rat} (h : 0 ≤ a) : 0 ≤ oneQ a x := by
  unfold oneQ minQ clipQ
  grind
theorem one_le {a x : Rat} : oneQ a x ≤ a := by
  unfold oneQ minQ clipQ
  grind
theorem one_clip {a x : Rat} (h : 0 ≤ a) : oneQ a x = clipQ x - clipQ (x - a) := by
  unfold oneQ minQ clipQ
  grind
theorem one_turn {a x : Rat} (h : 0 ≤ a) : oneQ a (a - x) = a - oneQ a x := by
  unfold oneQ minQ clipQ
  grind
/-- all that one takes, in all orders -/
def allQ (a : Rat) (cs : List Rat) (e : Rat) : Rat := ssQ (fun j y => wt cs.length j * oneQ a y) cs 0 e
def turnQ (a : Rat) (cs : List Rat) (e : Rat) : Rat := allQ a cs e / (factN (cs.length + 1) : Rat)
theorem LeL.len : ∀ {cs ds : List Rat}, LeL ds cs → ds.length = cs.length
  | [], [], _ => rfl
  | [], _ :: _, l => l.elim
  | _ :: _, [], l => l.elim
  | c :: cs, d :: ds, l => by rw [List.length_cons, List.length_cons, LeL.len l.2]
theorem fact_div {x y : Rat} {n : Nat} (h : x ≤ y) : x / (factN n : Rat) ≤ y / (factN n : Rat) := by
  have hp := natR_pos (factN_pos n)
  rw [Rat.div_def, Rat.div_def]
  exact Rat.mul_le_mul_of_nonneg_right h (Rat.le_of_lt (Rat.inv_pos.mpr hp))
theorem turn_mono {a b : Rat} {cs ds : List Rat} {d e : Rat} (h : a ≤ b) (l : LeL ds cs) (k : d ≤ e) : turnQ a cs d ≤ turnQ b ds e := by
  unfold turnQ allQ
  rw [l.len]
  refine fact_div (ss_le (fun j x y hx => ?_) 0 l k)
  exact Rat.mul_le_mul_of_nonneg_left (one_mono h hx) (wt_nn _ _)
theorem turn_nn {a : Rat} {cs : List Rat} {e : Rat} (h : 0 ≤ a) : 0 ≤ turnQ a cs e := by
  unfold turnQ allQ
  have hp := natR_pos (factN_pos (cs.length + 1))
  have h1 := ss_nn (g := fun j y => wt cs.length j * oneQ a y) (fun j x => Rat.mul_nonneg (wt_nn _ _) (one_nn h)) cs 0 e
  rw [Rat.div_def]
  exact Rat.mul_nonneg h1 (Rat.le_of_lt (Rat.inv_pos.mpr hp))
theorem div_fact {a : Rat} {n : Nat} : a * (factN n : Rat) / (factN n : Rat) = a := by
  have hp := natR_pos (factN_pos n)
  have : (factN n : Rat) ≠ 0 := by grind
  grind
theorem turn_le {a : Rat} {cs : List Rat} {e : Rat} : turnQ a cs e ≤ a := by
  unfold turnQ allQ
  have h1 : ssQ (fun j y => wt cs.length j * oneQ a y) cs 0 e ≤ ssQ (fun j y => a * wt cs.length j) cs 0 e := ss_le (fun j x y _ => by
    rw [Rat.mul_comm a]
    exact Rat.mul_le_mul_of_nonneg_left one_le (wt_nn _ _)) 0 (LeL.refl _) Rat.le_refl
  rw [ss_mul, ss_wt] at h1
  have h2 := fact_div (n := cs.length + 1) h1
  rwa [div_fact] at h2
theorem turn_perm {a : Rat} {cs ds : List Rat} {e : Rat} (h : cs.Perm ds) : turnQ a cs e = turnQ a ds e := by
  unfold turnQ allQ
  rw [h.length_eq, ss_perm h]
/-- turned about -/
theorem turn_turn {a : Rat} {cs : List Rat} {e : Rat} (h : 0 ≤ a) : turnQ a cs (a + sumQ cs - e) = a - turnQ a cs e := by
  unfold turnQ allQ
  have h1 : ssQ (fun j y => wt cs.length j * oneQ a y) cs 0 (a + sumQ cs - e) = ssQ (fun j y => a * wt cs.length j - wt cs.length j * oneQ a y) cs 0 e := by
    have h0 := ss_turn (g := fun j y => wt cs.length j * oneQ a y) cs 0 (a + sumQ cs - e)
    have e1 : a + sumQ cs - e = e - (2 * e - a - sumQ cs) := by grind
    have h2 := ss_shift (g := fun j y => (fun j y => wt cs.length j * oneQ a y) (2 * 0 + cs.length - j) (2 * (a + sumQ cs - e) - sumQ cs - y)) 0 (2 * e - a - sumQ cs) cs 0 e
    rw [← e1] at h2
    refine (h0.trans h2).trans ?_
    clear h0 h2
    refine ss_congr fun j y h3 h4 => ?_
    have e2 : 2 * (a + sumQ cs - e) - sumQ cs - (y - (2 * e - a - sumQ cs)) = a - y := by grind
    have e3 : wt cs.length (2 * 0 + cs.length - (j + 0)) = wt cs.length j := by
      unfold wt
      rw [show cs.length - (2 * 0 + cs.length - (j + 0)) = j by omega, show 2 * 0 + cs.length - (j + 0) = cs.length - j by omega, Nat.mul_comm]
    show wt cs.length (2 * 0 + cs.length - (j + 0)) * oneQ a (2 * (a + sumQ cs - e) - sumQ cs - (y - (2 * e - a - sumQ cs))) = a * wt cs.length j - wt cs.length j * oneQ a y
    rw [e2, e3, one_turn h]
    grind
  rw [h1, ss_sub, ss_mul, ss_wt]
  have hp := natR_pos (factN_pos (cs.length + 1))
  generalize (factN (cs.length + 1) : Rat) = f at hp
  have : f ≠ 0 := by grind
  grind
/-- one claimer more -/
theorem all_more {a c : Rat} {cs : List Rat} {e : Rat} (hc : 0 ≤ c) : allQ a (c :: cs) e ≤ ((cs.length + 2 : Nat) : Rat) * allQ a cs e := by
  unfold allQ
  show ssQ _ cs 0 e + ssQ _ cs (0 + 1) (e - c) ≤ _
  have h1 : ssQ (fun j y => wt (c :: cs).length j * oneQ a y) cs (0 + 1) (e - c) ≤ ssQ (fun j y => wt (c :: cs).length j * oneQ a y) cs (0 + 1) (e - 0) := by
    have hm : ∀ (j : Nat) (x y : Rat), x ≤ y → wt (c :: cs).length j * oneQ a x ≤ wt (c :: cs).length j * oneQ a y := fun j x y hx => Rat.mul_le_mul_of_nonneg_left (one_mono Rat.le_refl hx) (wt_nn _ _)
    exact ss_le hm (0 + 1) (LeL.refl cs) (show e - c ≤ e - 0 by grind)
  rw [ss_shift 1 0 cs 0 e] at h1
  have h2 := ss_add (g := fun j y => wt (c :: cs).length j * oneQ a y) (g' := fun j y => wt (c :: cs).length (j + 1) * oneQ a (y - 0)) cs 0 e
  have h3 : ssQ (fun j y => wt (c :: cs).length j * oneQ a y + wt (c :: cs).length (j + 1) * oneQ a (y - 0)) cs 0 e = ssQ (fun j y => ((cs.length + 2 : Nat) : Rat) * (wt cs.length j * oneQ a y)) cs 0 e := ss_congr fun j y h3 h4 => by
    have := wt_step (m := cs.length) (j := j) (by omega)
    rw [List.length_cons, show y - 0 = y by grind]
    grind
  rw [h3, ss_mul] at h2
  grind
theorem all_nought {a : Rat} {cs : List Rat} {e : Rat} : allQ a (0 :: cs) e = ((cs.length + 2 : Nat) : Rat) * allQ a cs e := by
  unfold allQ
  show ssQ _ cs 0 e + ssQ _ cs (0 + 1) (e - 0) = _
  rw [ss_shift 1 0 cs 0 e, ← ss_add, ← ss_mul]
  refine ss_congr fun j y h3 h4 => ?_
  have := wt_step (m := cs.length) (j := j) (by omega)
  rw [List.length_cons, show y - 0 = y by grind]
  grind
theorem fact_s (n : Nat) : (factN (n + 1) : Rat) = ((n + 1 : Nat) : Rat) * (factN n : Rat) := by
  rw [← Rat.natCast_mul]
  rfl
theorem turn_more {a c : Rat} {cs : List Rat} {e : Rat} (hc : 0 ≤ c) : turnQ a (c :: cs) e ≤ turnQ a cs e := by
  unfold turnQ
  have h := fact_div (n := (c :: cs).length + 1) (all_more (a := a) (cs := cs) (e := e) hc)
  refine Rat.le_trans h ?_
  rw [List.length_cons, fact_s (cs.length + 1)]
  have hp := natR_pos (factN_pos (cs.length + 1))
  have hq := natR_pos (show 0 < cs.length + 1 + 1 by omega)
  show ((cs.length + 1 + 1 : Nat) : Rat) * _ / _ ≤ _
  generalize (factN (cs.length + 1) : Rat) = f at hp
  generalize ((cs.length + 1 + 1 : Nat) : Rat) = n at hq
  have h1 : f ≠ 0 := by grind
  have h2 : n ≠ 0 := by grind
  have h3 : n * allQ a cs e / (n * f) = allQ a cs e / f := by grind
  rw [h3]
  exact Rat.le_refl
theorem turn_nought {a : Rat} {cs : List Rat} {e : Rat} : turnQ a (0 :: cs) e = turnQ a cs e := by
  unfold turnQ
  rw [all_nought, List.length_cons, fact_s (cs.length + 1)]
  have hp := natR_pos (factN_pos (cs.length + 1))
  have hq := natR_pos (show 0 < cs.length + 1 + 1 by omega)
  show ((cs.length + 1 + 1 : Nat) : Rat) * _ / _ = _
  generalize (factN (cs.length + 1) : Rat) = f at hp
  generalize ((cs.length + 1 + 1 : Nat) : Rat) = n at hq
  have h1 : f ≠ 0 := by grind
  have h2 : n ≠ 0 := by grind
  grind
/-! ### each with the others -/
def outs : List Rat → List (Rat × List Rat)
  | [] => []
  | c :: cs => (c, cs) :: (outs cs).map fun p => (p.1, c :: p.2)
theorem outs_len : ∀ qs : List Rat, (outs qs).length = qs.length
  | [] => rfl
  | c :: cs => by
    show ((outs cs).map _).length + 1 = cs.length + 1
    rw [List.length_map, outs_len cs]
theorem outs_get : ∀ (qs : List Rat) (i : Nat) (h : i < qs.length), (outs qs)[i]? = some (qs[i], qs.eraseIdx i)
  | c :: cs, 0, _ => rfl
  | c :: cs, i + 1, h => by
    have h' : i < cs.length := by simpa using h
    show ((outs cs).map fun p => (p.1, c :: p.2))[i]? = some (cs[i], c :: cs.eraseIdx i)
    rw [List.getElem?_map, outs_get cs i h']
    rfl
theorem outs_mem {qs : List Rat} : ∀ {p : Rat × List Rat}, p ∈ outs qs → (p.1 :: p.2).Perm qs := by
  induction qs with
  | nil => intro p h; cases h
  | cons c cs ih =>
    intro p h
    rcases List.mem_cons.mp h with rfl | h
    · exact List.Perm.refl _
    · obtain ⟨p, hp, rfl⟩ := List.mem_map.mp h
      exact (List.Perm.swap c p.1 p.2).trans ((ih hp).cons c)
section
variable {g : Nat → Rat → Rat}
theorem outs_in : ∀ (qs : List Rat) (k : Nat) (x : Rat), sumQ ((outs qs).map fun p => ssQ g p.2 k x) = ssQ (fun j y => ((k + qs.length - j : Nat) : Rat) * g j y) qs k x
  | [], k, x => by
    show (0 : Rat) = ((k + 0 - k : Nat) : Rat) * g k x
    rw [show k + 0 - k = 0 by omega]
    simp [Rat.zero_mul]
  | c :: cs, k, x => by
    show ssQ g cs k x + sumQ (((outs cs).map fun p => (p.1, c :: p.2)).map fun p => ssQ g p.2 k x) = _
    rw [List.map_map]
    have e : sumQ ((outs cs).map ((fun p => ssQ g p.2 k x) ∘ fun p => (p.1, c :: p.2))) = sumQ ((outs cs).map fun p => ssQ g p.2 k x) + sumQ ((outs cs).map fun p => ssQ g p.2 (k + 1) (x - c)) := by
      generalize outs cs = l
      induction l with
      | nil => simp [sumQ, Rat.add_zero]
      | cons p l ih =>
        simp only [List.map_cons, sumQ, ih]
        show ssQ g p.2 k x + ssQ g p.2 (k + 1) (x - c) + _ = _
        grind
    rw [e, outs_in cs k x, outs_in cs (k + 1) (x - c)]
    show _ = ssQ _ cs k x + ssQ _ cs (k + 1) (x - c)
    have e1 : ssQ (fun j y => ((k + (c :: cs).length - j : Nat) : Rat) * g j y) cs k x = ssQ (fun j y => g j y + ((k + cs.length - j : Nat) : Rat) * g j y) cs k x := ss_congr fun j y h1 h2 => by
      rw [List.length_cons, show k + (cs.length + 1) - j = (k + cs.length - j) + 1 by omega, Rat.natCast_add]
      grind
    have e2 : ssQ (fun j y => ((k + (c :: cs).length - j : Nat) : Rat) * g j y) cs (k + 1) (x - c) = ssQ (fun j y => ((k + 1 + cs.length - j : Nat) : Rat) * g j y) cs (k + 1) (x - c) := ss_congr fun j y h1 h2 => by
      rw [List.length_cons, show k + (cs.length + 1) - j = k + 1 + cs.length - j by omega]
    rw [e1, e2, ss_add]
    grind
theorem outs_out : ∀ (qs : List Rat) (k : Nat) (x : Rat), sumQ ((outs qs).map fun p => ssQ g p.2 (k + 1) (x - p.1)) = ssQ (fun j y => ((j - k : Nat) : Rat) * g j y) qs k x
  | [], k, x => by
    show (0 : Rat) = ((k - k : Nat) : Rat) * g k x
    rw [show k - k = 0 by omega]
    simp [Rat.zero_mul]
  | c :: cs, k, x => by
    show ssQ g cs (k + 1) (x - c) + sumQ (((outs cs).map fun p => (p.1, c :: p.2)).map fun p => ssQ g p.2 (k + 1) (x - p.1)) = _
    rw [List.map_map]
    have e : sumQ ((outs cs).map ((fun p => ssQ g p.2 (k + 1) (x - p.1)) ∘ fun p => (p.1, c :: p.2))) = sumQ ((outs cs).map fun p => ssQ g p.2 (k + 1) (x - p.1)) + sumQ ((outs cs).map fun p => ssQ g p.2 (k + 1 + 1) (x - c - p.1)) := by
      generalize outs cs = l
      induction l with
      | nil => simp [sumQ, Rat.add_zero]
      | cons p l ih =>
        simp only [List.map_cons, sumQ, ih]
        show ssQ g p.2 (k + 1) (x - p.1) + ssQ g p.2 (k + 1 + 1) (x - p.1 - c) + _ = _
        have e : x - p.1 - c = x - c - p.1 := by grind
        rw [e]
        grind
    rw [e, outs_out cs k x, outs_out cs (k + 1) (x - c)]
    show _ = ssQ _ cs k x + ssQ _ cs (k + 1) (x - c)
    have e1 : ssQ (fun j y => ((j - k : Nat) : Rat) * g j y) cs (k + 1) (x - c) = ssQ (fun j y => g j y + ((j - (k + 1) : Nat) : Rat) * g j y) cs (k + 1) (x - c) := ss_congr fun j y h1 h2 => by
      rw [show j - k = (j - (k + 1)) + 1 by omega, Rat.natCast_add]
      grind
    rw [e1, ss_add]
    grind
end
/-- what each gets by turns -/
def turnsQ (qs : List Rat) (e : Rat) : List Rat := (outs qs).map fun p => turnQ p.1 p.2 e
theorem outs_rest {qs : List Rat} {p : Rat × List Rat} (h : p ∈ outs qs) : p.2.length + 1 = qs.length := by
  have := (outs_mem h).length_eq
  simpa using this
theorem sumQ_mulr (a : Rat) : ∀ l : List Rat, sumQ (l.map fun x => x * a) = sumQ l * a
  | [] => by simp [sumQ, Rat.zero_mul]
  | x :: l => by
    show x * a + sumQ _ = (x + sumQ l) * a
    rw [sumQ_mulr a l, Rat.add_mul]
theorem sumQ_sub {α : Type} (f h : α → Rat) : ∀ l : List α, sumQ (l.map fun x => f x - h x) = sumQ (l.map f) - sumQ (l.map h)
  | [] => by simp [sumQ]; grind
  | x :: l => by
    simp only [List.map_cons, sumQ, sumQ_sub f h l]
    grind
/-- all is shared out -/
theorem turns_sum {qs : List Rat} {e : Rat} (nn : ∀ q ∈ qs, 0 ≤ q) (e0 : 0 ≤ e) (es : e ≤ sumQ qs) : sumQ (turnsQ qs e) = e := by
  cases hq : qs with
  | nil =>
    rw [hq] at es
    have : e = 0 := Rat.le_antisymm es e0
    rw [this]
    rfl
  | cons c0 cs0 =>
    obtain ⟨n, hn⟩ : ∃ n, qs.length = n + 1 := ⟨cs0.length, by rw [hq]; rfl⟩
    rw [← hq]
    clear hq
    have fp := natR_pos (factN_pos (n + 1))
    have e1 : turnsQ qs e = ((outs qs).map fun p => ssQ (fun j y => wt n j * clipQ y) p.2 0 e - ssQ (fun j y => wt n (j - 1) * clipQ y) p.2 (0 + 1) (e - p.1)).map fun x => x * (factN (n + 1) : Rat)⁻¹ := by
      unfold turnsQ
      rw [List.map_map]
      refine List.map_congr_left fun p hp => ?_
      have hl := outs_rest hp
      have hp1 : 0 ≤ p.1 := nn _ ((outs_mem hp).mem_iff.mp List.mem_cons_self)
      unfold turnQ allQ
      rw [show p.2.length = n by omega, Rat.div_def]
      show _ = (_ - _) * _
      congr 1
      rw [ss_shift 1 p.1 p.2 0 e, ← ss_sub]
      refine ss_congr fun j y h1 h2 => ?_
      rw [one_clip hp1, show j + 1 - 1 = j by omega]
      grind
    rw [e1, sumQ_mulr, sumQ_sub, outs_in qs 0 e, outs_out qs 0 e, ← ss_sub]
    have e2 : ssQ (fun j y => ((0 + qs.length - j : Nat) : Rat) * (wt n j * clipQ y) - ((j - 0 : Nat) : Rat) * (wt n (j - 1) * clipQ y)) qs 0 e = ssQ (fun j y => (if j = 0 then (factN (n + 1) : Rat) * clipQ y else 0) - (if j = n + 1 then (factN (n + 1) : Rat) * clipQ y else 0)) qs 0 e := ss_congr fun j y h1 h2 => by
      have w1 : ∀ j, j ≤ n → ((0 + qs.length - j : Nat) : Rat) * wt n j = ((factN j * factN (n + 1 - j) : Nat) : Rat) := fun j hj => by
        unfold wt
        rw [← Rat.natCast_mul, hn, show 0 + (n + 1) - j = n - j + 1 by omega, show n + 1 - j = n - j + 1 by omega]
        congr 1
        show _ = factN j * ((n - j + 1) * factN (n - j))
        rw [← Nat.mul_assoc, ← Nat.mul_assoc, Nat.mul_comm (n - j + 1)]
      have w2 : ∀ j, 0 < j → ((j - 0 : Nat) : Rat) * wt n (j - 1) = ((factN j * factN (n + 1 - j) : Nat) : Rat) := fun j hj => by
        unfold wt
        obtain ⟨i, rfl⟩ : ∃ i, j = i + 1 := ⟨j - 1, by omega⟩
        rw [← Rat.natCast_mul, show i + 1 - 1 = i by omega, show n + 1 - (i + 1) = n - i by omega, show i + 1 - 0 = i + 1 by omega, ← Nat.mul_assoc]
        rfl
      by_cases hj0 : j = 0
      · subst hj0
        have := w1 0 (by omega)
        rw [if_pos rfl, if_neg (by omega), ← Rat.mul_assoc, this]
        simp [factN]
      · by_cases hjn : j = n + 1
        · subst hjn
          have := w2 (n + 1) (by omega)
          rw [if_neg hj0, if_pos rfl, ← Rat.mul_assoc ((n + 1 - 0 : Nat) : Rat), this, hn]
          simp [factN]
        · have a1 := w1 j (by omega)
          have a2 := w2 j (by omega)
          rw [if_neg hj0, if_neg hjn, ← Rat.mul_assoc, ← Rat.mul_assoc, a1, a2]
          grind
    rw [e2, ss_sub, ss_first _ _ _ _ _ (Nat.le_refl 0), ss_last _ _ _ _ _ (by omega), if_pos rfl, if_pos (by omega)]
    have c1 : clipQ e = e := by unfold clipQ; grind
    have c2 : clipQ (e - sumQ qs) = 0 := by unfold clipQ; grind
    rw [c1, c2]
    generalize (factN (n + 1) : Rat) = f at fp
    have : f ≠ 0 := by grind
    grind
/-! ### loops whose frame varies -/
theorem for_var {α : Type} {fg tg : List Nat} {tup : Bool} {body : Env → Ot} (E : α → Env) (hw : ∀ x, wipeE (E x) fg = E x) : ∀ (ds : List D), (∀ d ∈ ds, ∀ x, ∃ y, wipeO fg ((bindT tg tup d (E x)).ot body) = .next (E y)) → ∀ x, ∃ y, forO fg tg tup body ds (E x) = .next (E y)
  | [], _, x => ⟨x, by rw [forO_nil, hw]⟩
  | d :: ds, h, x => by
    obtain ⟨y, hy⟩ := h d List.mem_cons_self x
    obtain ⟨z, hz⟩ := for_var E hw ds (fun e he => h e (List.mem_cons_of_mem _ he)) y
    refine ⟨z, ?_⟩
    rw [forO_cons, hw, hy]
    exact hz
theorem enum_mem {l : List D} {d : D} (h : d ∈ enumD 0 l) : ∃ (i : Nat) (x : D), x ∈ l ∧ d = .tuple [.int (i : Int), x] := by
  obtain ⟨i, hi⟩ := List.mem_iff_getElem?.mp h
  obtain ⟨y, hy, e⟩ := enum_get l 0 i d hi
  rw [Nat.zero_add] at e
  exact ⟨i, y, List.mem_of_getElem? hy, e⟩
theorem rg_mem {n : Nat} {d : D} (h : d ∈ rgL 0 n) : ∃ i : Nat, i < n ∧ d = .int (i : Int) := by
  unfold rgL at h
  obtain ⟨i, hi, rfl⟩ := List.mem_map.mp h
  exact ⟨i, List.mem_range.mp hi, by rw [Int.zero_add]⟩
theorem divInt_lt {a c : Int} {b : Nat} (hb : 0 < b) : Rat.divInt a b < Rat.divInt c b ↔ a < c := by
  have hb' : (b : Int) ≠ 0 := by omega
  constructor
  · intro h
    by_cases hc : c ≤ a
    · have := divInt_le hb hc
      grind
    · omega
  · intro h
    have h1 := divInt_le hb (Int.le_of_lt h)
    have h2 : Rat.divInt a b ≠ Rat.divInt c b := fun e => by
      have := (Rat.divInt_eq_divInt_iff hb' hb').mp e
      have := Int.eq_of_mul_eq_mul_right hb' this
      omega
    grind
theorem divInt_up {a : Int} {b d : Nat} (hd : 0 < d) : Rat.divInt (a * d) ((b * d : Nat) : Int) = Rat.divInt a b := by
  rw [Int.natCast_mul]
  exact Rat.divInt_mul_right (by omega)
end Mn
/-! Mn, part Z2: texts of names told apart; caught exceptions. -/
namespace Mn
open PySem PySem.Spec PyProof.Rows L2
@[simp] theorem str_inj {a b : String} : (Str.ofString a = Str.ofString b) = (a = b) := by
  refine propext ⟨fun h => ?_, fun h => by rw [h]⟩
  rw [Str.ofString_eq_toList, Str.ofString_eq_toList] at h
  have h1 : (a.toList.map Char.toNat) = b.toList.map Char.toNat := by
    have := congrArg Str.cps h
    simpa using this
  have h2 : a.toList = b.toList := (List.map_inj_right fun x y hxy => Char.ext (UInt32.toNat_inj.mp hxy)).mp h1
  exact String.toList_inj.mp h2
section
variable {ρ : Env} {cs : List Str} {c cl cl2 : Str} {i : Nat} {b s s2 : MS} {k : Str → Ot} {d : D}
@[simp] theorem isx_exc : isxD (excD c) cs = .ok (.bool (cs.any (subB c))) := (rfl)
@[simp] theorem isX_exc : isX (excD c) = true := (rfl)
@[simp] theorem de_isx : denE (.isx i cs) ρ = (match ρ[i]? with
  | some (some d) => isxD d cs
  | _ => .bad) := (rfl)
@[simp] theorem de_callx {F : List D → R D} {x : Str} : denE (.callx F x i) ρ = (match ρ[i]? with
  | some (some d) => if isX d = true then noexc (F [d]) else .bad
  | _ => .bad) := (rfl)
@[simp] theorem noexc_k {α : Type} {a : α} : noexc (.ok a) = .ok a := (rfl)
@[simp] theorem subB_def {C : Str} : subB c C = (decide (C = c) || decide (C = ("LeanError" : Str)) || decide (C = ("ValueError" : Str))) := (rfl)
/-- a choice of two ends -/
def pickO (x : Bool) (o o2 : Ot) : Ot := match x with
  | true => o
  | false => o2
@[simp] theorem pickO_t {o o2 : Ot} : pickO true o o2 = o := (rfl)
@[simp] theorem pickO_f {o o2 : Ot} : pickO false o o2 = o2 := (rfl)
@[simp] theorem ds_try1 : denS (.try1 i cl b s) ρ = tryO (denS b ρ) fun c => pickO (subB c cl) (hdlO i (denS s (ρ.set i (some (excD c))))) (.exc c) := (rfl)
@[simp] theorem jT_nil {ρ : Env} {k : Ot} : jT [] ρ k = k := (rfl)
@[simp] theorem jT_cons {c : ME} {b : Bool} {ts : List (ME × Bool)} {ρ : Env} {k : Ot} : jT ((c, b) :: ts) ρ k = (denE c ρ >>= asBool).ot fun t => pickO t (.ret (.bool b)) (jT ts ρ k) := by
  show ((denE c ρ >>= asBool).ot fun t => match t with
    | true => .ret (.bool b)
    | false => jT ts ρ k) = _
  congr 1
@[simp] theorem ds_jnk {i : Nat} {F : List D → R D} {x : Str} {es : ME} {ts : List (ME × Bool)} {mu : Jm} {rest : MS} {ρ : Env} : denS (.jnk i F x es ts mu rest) ρ = (denEs es ρ).ot fun ds => (F ds).ot fun d => if i < ρ.length then jT ts (ρ.set i (some d)) ((jMo i mu d ρ).bind (denS rest)) else .bad := (rfl)
theorem jMo_one {i : Nat} {e : ME} {l : List D} {ds : List D} {ρ : Env} {z : D} (h : l.length < sizeLine) (he : denE e (ρ.set i none) = .ok z) : jMo i (.one e) (.tuple (.list l :: ds)) ρ = .next (ρ.set i none) := by
  show (if jOk (.one e) (.tuple (.list l :: ds)) = true then (match denE e (ρ.set i none) with
    | .ok _ => .next (ρ.set i none)
    | _ => .bad) else .bad : Ot) = _
  rw [if_pos (show jOk (.one e) (.tuple (.list l :: ds)) = true from decide_eq_true h), he]
theorem jMo_all {i j : Nat} {e : ME} {ds : List D} {ρ : Env} {z : D} (hj : j < ρ.length) (h : jPs ds.length ds = true) (he : denE e ((ρ.set i none).set j none) = .ok z) : jMo i (.all j e) (.list ds) ρ = .next ((ρ.set i none).set j none) := by
  show (if (decide (j < ρ.length) && jOk (.all j e) (.list ds)) = true then (match denE e ((ρ.set i none).set j none) with
    | .ok _ => .next ((ρ.set i none).set j none)
    | _ => .bad) else .bad : Ot) = _
  rw [if_pos (by rw [decide_eq_true hj]; exact h), he]
@[simp] theorem endN_next {m : NE} {ρ : Env} : endN m (.next ρ) = denN m ρ := (rfl)
@[simp] theorem endN_exc {m : NE} {c : Str} : endN m (.exc c) = .exc c := (rfl)
@[simp] theorem dN_fr {m : ME} {ρ : Env} : denN (.fr m) ρ = denE m ρ >>= fun d => if nwB d = true then .ok d else .bad := (rfl)
@[simp] theorem dN_st {m : ME} {ρ : Env} : denN (.st m) ρ = denE m ρ >>= fun d => if lf d = true then .ok d else .bad := (rfl)
@[simp] theorem dN_tp {a b : NE} {ρ : Env} : denN (.tp a b) ρ = denN a ρ >>= fun x => denN b ρ >>= fun y => .ok (.tuple [x, y]) := (rfl)
@[simp] theorem ds_try2 : denS (.try2 i cl b s cl2 s2) ρ = tryO (denS b ρ) fun c => pickO (subB c cl) (hdlO i (denS s (ρ.set i (some (excD c))))) (pickO (subB c cl2) (hdl0 (denS s2 ρ)) (.exc c)) := (rfl)
@[simp] theorem tryO_n : tryO (.next ρ) k = .next ρ := (rfl)
@[simp] theorem tryO_c : tryO (.cont ρ) k = .cont ρ := (rfl)
@[simp] theorem tryO_r : tryO (.ret d) k = .ret d := (rfl)
@[simp] theorem tryO_e : tryO (.exc c) k = if c ∈ excAll then k c else .bad := (rfl)
@[simp] theorem hdlO_n : hdlO i (.next ρ) = .next (ρ.set i none) := (rfl)
@[simp] theorem hdlO_c : hdlO i (.cont ρ) = .cont (ρ.set i none) := (rfl)
@[simp] theorem hdlO_r : hdlO i (.ret d) = .ret d := (rfl)
@[simp] theorem hdl0_n : hdl0 (.next ρ) = .next ρ := (rfl)
@[simp] theorem hdl0_c : hdl0 (.cont ρ) = .cont ρ := (rfl)
@[simp] theorem hdl0_r : hdl0 (.ret d) = .ret d := (rfl)
end
/-! ### equality of nested data -/
def Lay (n : Nat) (d : D) : Prop := PyData.canLay0 d = true ∧ PyData.depth d ≤ n
theorem Lay.mono {m n : Nat} {d : D} (h : Lay m d) (hn : m ≤ n) : Lay n d := ⟨h.1, by have := h.2; omega⟩
theorem lay_int {i : Int} : Lay 0 (.int i) := ⟨rfl, Nat.le_refl _⟩
theorem lay_bool {b : Bool} : Lay 0 (.bool b) := ⟨rfl, Nat.le_refl _⟩
theorem lay_none : Lay 0 .none := ⟨rfl, Nat.le_refl _⟩
theorem lay_all {n : Nat} : ∀ {l : List D}, (∀ d ∈ l, Lay n d) → PyData.canLayAll0 l = true ∧ PyData.depthAll l ≤ n
  | [], _ => ⟨rfl, Nat.zero_le _⟩
  | d :: l, h => by
    obtain ⟨a, b⟩ := lay_all (l := l) fun x hx => h x (List.mem_cons_of_mem _ hx)
    obtain ⟨c, e⟩ := h d List.mem_cons_self
    have e1 : PyData.canLayAll0 (d :: l) = (PyData.canLay0 d && PyData.canLayAll0 l) := rfl
    have e2 : PyData.depthAll (d :: l) = max (PyData.depth d) (PyData.depthAll l) := rfl
    rw [e1, e2, a, c]
    exact ⟨rfl, by omega⟩
theorem lay_list {n : Nat} {l : List D} (h : ∀ d ∈ l, Lay n d) : Lay (n + 1) (.list l) := by
  obtain ⟨a, b⟩ := lay_all h
  have e : PyData.depth (.list l) = PyData.depthAll l + 1 := PyData.depth.eq_1 _
  exact ⟨a, by rw [e]; omega⟩
theorem lay_tup {n : Nat} {l : List D} (h : ∀ d ∈ l, Lay n d) : Lay (n + 1) (.tuple l) := by
  obtain ⟨a, b⟩ := lay_all h
  have e : PyData.depth (.tuple l) = PyData.depthAll l + 1 := PyData.depth.eq_2 _
  exact ⟨a, by rw [e]; omega⟩
theorem lay_rt {q : Rat} : Lay 1 (rt q) := lay_tup (n := 0) (by
  intro d hd
  rcases List.mem_cons.mp hd with rfl | hd
  · exact lay_int
  · rw [List.mem_singleton.mp hd]
    exact lay_int)
theorem lay_rts {qs : List Rat} : Lay 2 (.list (qs.map rt)) := lay_list (by
  intro d hd
  obtain ⟨q, _, rfl⟩ := List.mem_map.mp hd
  exact lay_rt)
theorem lay_ints {is : List Int} : Lay 1 (.list (is.map .int)) := lay_list (by
  intro d hd
  obtain ⟨q, _, rfl⟩ := List.mem_map.mp hd
  exact lay_int)
theorem lay_bools {bs : List Bool} : Lay 1 (.list (bs.map .bool)) := lay_list (by
  intro d hd
  obtain ⟨q, _, rfl⟩ := List.mem_map.mp hd
  exact lay_bool)
theorem Lay.shaped {n : Nat} {d : D} (h : Lay n d) (hn : n ≤ 10) : SeqAt.shaped d = true := by
  unfold SeqAt.shaped
  rw [h.1]
  have := h.2
  rw [decide_eq_true (by omega)]
  rfl
theorem ceq_lay {d e : D} (h : Lay 10 d) (k : Lay 10 e) : ceq d e = .ok (PyData.eqv d e) := by
  unfold ceq
  rw [h.shaped (Nat.le_refl _), k.shaped (Nat.le_refl _)]
  simp
@[simp] theorem eqv_cons {a b : D} {l m : List D} : PyData.eqv (.list (a :: l)) (.list (b :: m)) = (PyData.eqv a b && PyData.eqv (.list l) (.list m)) := (rfl)
@[simp] theorem eqv_nil : PyData.eqv (.list []) (.list []) = true := (rfl)
@[simp] theorem eqv_nil_cons {a : D} {l : List D} : PyData.eqv (.list []) (.list (a :: l)) = false := (rfl)
@[simp] theorem eqv_cons_nil {a : D} {l : List D} : PyData.eqv (.list (a :: l)) (.list []) = false := (rfl)
@[simp] theorem eqv_bool {a b : Bool} : PyData.eqv (.bool a) (.bool b) = decide (a = b) := by
  cases a <;> cases b <;> rfl
theorem eqv_bools : ∀ {ps qs : List Bool}, PyData.eqv (.list (ps.map .bool)) (.list (qs.map .bool)) = decide (ps = qs)
  | [], [] => rfl
  | [], _ :: _ => rfl
  | _ :: _, [] => rfl
  | p :: ps, q :: qs => by
    have e : PyData.eqv (.list ((p :: ps).map .bool)) (.list ((q :: qs).map .bool)) = (PyData.eqv (.bool p) (.bool q) && PyData.eqv (.list (ps.map .bool)) (.list (qs.map .bool))) := rfl
    rw [e, eqv_bool, eqv_bools, ← Bool.decide_and]
    congr 1
    apply propext
    simp
theorem eqv_ints : ∀ {ps qs : List Int}, PyData.eqv (.list (ps.map .int)) (.list (qs.map .int)) = decide (ps = qs)
  | [], [] => rfl
  | [], _ :: _ => rfl
  | _ :: _, [] => rfl
  | p :: ps, q :: qs => by
    have e : PyData.eqv (.list ((p :: ps).map .int)) (.list ((q :: qs).map .int)) = (PyData.eqv (.int p) (.int q) && PyData.eqv (.list (ps.map .int)) (.list (qs.map .int))) := rfl
    rw [e, eqv_int, eqv_ints, ← Bool.decide_and]
    congr 1
    apply propext
    simp
theorem ceq_bs {ps qs : List Bool} : ceq (.list (ps.map .bool)) (.list (qs.map .bool)) = .ok (decide (ps = qs)) := by
  rw [ceq_lay (lay_bools.mono (by decide)) (lay_bools.mono (by decide)), eqv_bools]
theorem ceq_is {ps qs : List Int} : ceq (.list (ps.map .int)) (.list (qs.map .int)) = .ok (decide (ps = qs)) := by
  rw [ceq_lay (lay_ints.mono (by decide)) (lay_ints.mono (by decide)), eqv_ints]
/-- two lists, each of lists -/
theorem lay_two {n : Nat} {a b : D} (h : Lay n a) (k : Lay n b) : Lay (n + 1) (.list [a, b]) := lay_list (by
  intro d hd
  rcases List.mem_cons.mp hd with rfl | hd
  · exact h
  · rw [List.mem_singleton.mp hd]
    exact k)
theorem ceq_two {a b c e : D} (h1 : Lay 9 a) (h2 : Lay 9 b) (h3 : Lay 9 c) (h4 : Lay 9 e) : ceq (.list [a, b]) (.list [c, e]) = .ok (PyData.eqv a c && PyData.eqv b e) := by
  rw [ceq_lay (lay_two h1 h2) (lay_two h3 h4)]
  simp
/-! ### a body, statement by statement -/
def tl : Nat → MS → MS
  | 0, m => m
  | n + 1, .cons _ r => tl n r
  | _, m => m
def nth (n : Nat) (m : MS) : MS := match tl n m with
  | .cons s _ => s
  | m => m
theorem den_step {n : Nat} {B : MS} {ρ ρ' : Env} (h : denS (nth n B) ρ = .next ρ') (hc : tl n B = .cons (nth n B) (tl (n + 1) B)) : denS (tl n B) ρ = denS (tl (n + 1) B) ρ' := by
  rw [hc, ds_cons, h, ev_bind_next]
theorem den_last {n : Nat} {B : MS} {ρ : Env} {o : Ot} (h : denS (nth n B) ρ = o) (hc : tl n B = .cons (nth n B) (tl (n + 1) B)) (ho : ∀ ρ', o ≠ .next ρ') : denS (tl n B) ρ = o := by
  rw [hc, ds_cons, h]
  cases o <;> first | rfl | exact absurd rfl (ho _)
@[simp] theorem atI_5 {α : Type} {a b c d e f : α} {l : List α} : atI (a :: b :: c :: d :: e :: f :: l) 5 = some f := by
  unfold atI ixN
  rw [if_pos (by decide), if_pos (by simp only [List.length_cons]; omega)]
  rfl
@[simp] theorem atI_6 {α : Type} {a b c d e f g : α} {l : List α} : atI (a :: b :: c :: d :: e :: f :: g :: l) 6 = some g := by
  unfold atI ixN
  rw [if_pos (by decide), if_pos (by simp only [List.length_cons]; omega)]
  rfl
end Mn
set_option maxHeartbeats 0
namespace K34
open PySem PySem.Spec PyProof.Rows L2 Mn
def top (i : Nat) : Stmt := PySem.Challenge.pw_leanestate_k34_knots_of_a_path.main.body.getD i (.Pass ⟨0, 0, 0, 0⟩)
def C1_common : ME := (.cmp .gt (.var 1) (.int 0))
def B1_common : MS := (.cons (.par 0 2 (.var 1) (.bin .mod (.var 0) (.var 1))) (
  .cons (.asg 1 (.var 2)) (
  .nil)))
def d_common : MDef where
  N := ["one", "other", "rest"]
  np := 2
  M := []
  body := (.cons (.whl [2] fuelE C1_common B1_common) (
  .cons (.ret true (.var 0)) (
  .nil)))
def F_common : List D → R D := run d_common
def d_ratio : MDef where
  N := ["top", "bottom", "shared_by"]
  np := 2
  M := []
  body := (.cons (.ite (.cmp .eq (.var 1) (.int 0))
    (.cons (.rai "NoRatio" "nothing is parted by 0") (
    .nil))
    .nil) (
  .cons (.asg 2 (.call false F_common "common" (.cons (.bi .abs (.var 0)) (.cons (.bi .abs (.var 1)) .nil)))) (
  .cons (.ite (.cmp .lt (.var 1) (.int 0))
    (.cons (.asg 2 (.neg (.var 2))) (
    .nil))
    .nil) (
  .cons (.ret false (.tup (.cons (.bin .fdiv (.var 0) (.var 2)) (.cons (.bin .fdiv (.var 1) (.var 2)) .nil)))) (
  .nil)))))
def F_ratio : List D → R D := run d_ratio
def d_plus : MDef where
  N := ["one", "other"]
  np := 2
  M := []
  body := (.cons (.ret false (.call false F_ratio "ratio" (.cons (.bin .add (.bin .mul (.ix (.var 0) (.int 0)) (.ix (.var 1) (.int 1))) (.bin .mul (.ix (.var 1) (.int 0)) (.ix (.var 0) (.int 1)))) (.cons (.bin .mul (.ix (.var 0) (.int 1)) (.ix (.var 1) (.int 1))) .nil)))) (
  .nil))
def F_plus : List D → R D := run d_plus
def d_minus : MDef where
  N := ["one", "other"]
  np := 2
  M := []
  body := (.cons (.ret false (.call false F_ratio "ratio" (.cons (.bin .sub (.bin .mul (.ix (.var 0) (.int 0)) (.ix (.var 1) (.int 1))) (.bin .mul (.ix (.var 1) (.int 0)) (.ix (.var 0) (.int 1)))) (.cons (.bin .mul (.ix (.var 0) (.int 1)) (.ix (.var 1) (.int 1))) .nil)))) (
  .nil))
def F_minus : List D → R D := run d_minus
def d_times : MDef where
  N := ["one", "other"]
  np := 2
  M := []
  body := (.cons (.ret false (.call false F_ratio "ratio" (.cons (.bin .mul (.ix (.var 0) (.int 0)) (.ix (.var 1) (.int 0))) (.cons (.bin .mul (.ix (.var 0) (.int 1)) (.ix (.var 1) (.int 1))) .nil)))) (
  .nil))
def F_times : List D → R D := run d_times
def d_over : MDef where
  N := ["one", "other"]
  np := 2
  M := []
  body := (.cons (.ret false (.call false F_ratio "ratio" (.cons (.bin .mul (.ix (.var 0) (.int 0)) (.ix (.var 1) (.int 1))) (.cons (.bin .mul (.ix (.var 0) (.int 1)) (.ix (.var 1) (.int 0))) .nil)))) (
  .nil))
def F_over : List D → R D := run d_over
def d_less : MDef where
  N := ["one", "other"]
  np := 2
  M := []
  body := (.cons (.ret false (.cmp .lt (.bin .mul (.ix (.var 0) (.int 0)) (.ix (.var 1) (.int 1))) (.bin .mul (.ix (.var 1) (.int 0)) (.ix (.var 0) (.int 1))))) (
  .nil))
def F_less : List D → R D := run d_less
def I1_total : ME := (.iSeq (.var 0))
def B1_total : MS := (.cons (.asg 1 (.call false F_plus "plus" (.cons (.var 1) (.cons (.var 2) .nil)))) (
  .nil))
def d_total : MDef where
  N := ["claims", "found", "claim"]
  np := 1
  M := []
  body := (.cons (.asg 1 (.tup (.cons (.int 0) (.cons (.int 1) .nil)))) (
  .cons (.forS [2] [2] false I1_total B1_total) (
  .cons (.ret true (.var 1)) (
  .nil))))
def F_total : List D → R D := run d_total
def I1_check_claims : ME := (.iSeq (.var 0))
def B1_check_claims : MS := (.cons (.ite (.cmp .lt (.ix (.var 1) (.int 0)) (.int 0))
    (.cons (.rai "NoClaim" "a claim below nought") (
    .nil))
    .nil) (
  .nil))
def d_check_claims : MDef where
  N := ["claims", "claim"]
  np := 1
  M := []
  body := (.cons (.ite (.cmp .gt (.bi .len (.var 0)) (.gl "MOST" (.int 8)))
    (.cons (.rai "TooMany" "more than eight claims") (
    .nil))
    .nil) (
  .cons (.forS [1] [1] false I1_check_claims B1_check_claims) (
  .nil)))
def F_check_claims : List D → R D := run d_check_claims
def d_check_estate : MDef where
  N := ["claims", "estate"]
  np := 2
  M := []
  body := (.cons (.expr (.call false F_check_claims "check_claims" (.cons (.var 0) .nil))) (
  .cons (.ite (.orE (.cons (.cmp .lt (.ix (.var 1) (.int 0)) (.int 0)) (.cons (.call false F_less "less" (.cons (.call false F_total "total" (.cons (.var 0) .nil)) (.cons (.var 1) .nil))) .nil)))
    (.cons (.rai "NoEstate" "not from nought to the total") (
    .nil))
    .nil) (
  .nil)))
def F_check_estate : List D → R D := run d_check_estate
def d_lack : MDef where
  N := ["claims", "estate"]
  np := 2
  M := []
  body := (.cons (.expr (.call false F_check_estate "check_estate" (.cons (.var 0) (.cons (.var 1) .nil)))) (
  .cons (.ret false (.call false F_minus "minus" (.cons (.call false F_total "total" (.cons (.var 0) .nil)) (.cons (.var 1) .nil)))) (
  .nil)))
def F_lack : List D → R D := run d_lack
def d_lesser : MDef where
  N := ["one", "other"]
  np := 2
  M := []
  body := (.cons (.ite (.call false F_less "less" (.cons (.var 1) (.cons (.var 0) .nil)))
    (.cons (.ret true (.var 1)) (
    .nil))
    .nil) (
  .cons (.ret true (.var 0)) (
  .nil)))
def F_lesser : List D → R D := run d_lesser
def C2_rising : ME := (.andE (.cons (.cmp .gt (.var 3) (.int 0)) (.cons (.call false F_less "less" (.cons (.var 2) (.cons (.ix (.var 1) (.bin .sub (.var 3) (.int 1))) .nil))) .nil)))
def B2_rising : MS := (.cons (.aug 3 .sub (.int 1)) (
  .nil))
def I1_rising : ME := (.iSeq (.var 0))
def B1_rising : MS := (.cons (.asg 3 (.bi .len (.var 1))) (
  .cons (.whl [] fuelE C2_rising B2_rising) (
  .cons (.ins 1 (.var 3) (.var 2)) (
  .nil))))
def d_rising : MDef where
  N := ["claims", "found", "claim", "at"]
  np := 1
  M := [1]
  body := (.cons (.asg 1 (.lst .nil)) (
  .cons (.forS [3, 2] [2] false I1_rising B1_rising) (
  .cons (.ret false (.var 1)) (
  .nil))))
def F_rising : List D → R D := run d_rising
def I1_filled : ME := (.iEnum (.var 2))
def B1_filled : MS := (.cons (.asg 6 (.call false F_over "over" (.cons (.var 1) (.cons (.tup (.cons (.bin .sub (.bi .len (.var 2)) (.var 4)) (.cons (.int 1) .nil))) .nil)))) (
  .cons (.ite (.nt (.call false F_less "less" (.cons (.var 5) (.cons (.var 6) .nil))))
    (.cons (.ret true (.var 6)) (
    .nil))
    .nil) (
  .cons (.asg 1 (.call false F_minus "minus" (.cons (.var 1) (.cons (.var 5) .nil)))) (
  .cons (.asg 3 (.var 5)) (
  .nil)))))
def d_filled : MDef where
  N := ["claims", "amount", "row", "height", "at", "claim", "even"]
  np := 2
  M := []
  body := (.cons (.asg 2 (.call false F_rising "rising" (.cons (.var 0) .nil))) (
  .cons (.asg 3 (.tup (.cons (.int 0) (.cons (.int 1) .nil)))) (
  .cons (.forS [4, 5, 6] [4, 5] true I1_filled B1_filled) (
  .cons (.ret true (.var 3)) (
  .nil)))))
def F_filled : List D → R D := run d_filled
def d_gain_level : MDef where
  N := ["claims", "estate"]
  np := 2
  M := []
  body := (.cons (.expr (.call false F_check_estate "check_estate" (.cons (.var 0) (.cons (.var 1) .nil)))) (
  .cons (.ret false (.call false F_filled "filled" (.cons (.var 0) (.cons (.var 1) .nil)))) (
  .nil)))
def F_gain_level : List D → R D := run d_gain_level
def I1_emptied : ME := (.iEnum (.var 2))
def B1_emptied : MS := (.cons (.asg 3 (.var 5)) (
  .cons (.asg 6 (.tup (.cons (.int 0) (.cons (.int 1) .nil)))) (
  .cons (.ite (.cmp .lt (.bin .add (.var 4) (.int 1)) (.bi .len (.var 2)))
    (.cons (.asg 6 (.ix (.var 2) (.bin .add (.var 4) (.int 1)))) (
    .nil))
    .nil) (
  .cons (.asg 7 (.call false F_minus "minus" (.cons (.var 5) (.cons (.var 6) .nil)))) (
  .cons (.asg 8 (.call false F_over "over" (.cons (.var 1) (.cons (.tup (.cons (.bin .add (.var 4) (.int 1)) (.cons (.int 1) .nil))) .nil)))) (
  .cons (.ite (.nt (.call false F_less "less" (.cons (.var 7) (.cons (.var 8) .nil))))
    (.cons (.ret false (.call false F_minus "minus" (.cons (.var 5) (.cons (.var 8) .nil)))) (
    .nil))
    .nil) (
  .cons (.asg 1 (.call false F_minus "minus" (.cons (.var 1) (.cons (.call false F_times "times" (.cons (.var 7) (.cons (.tup (.cons (.bin .add (.var 4) (.int 1)) (.cons (.int 1) .nil))) .nil))) .nil)))) (
  .nil))))))))
def d_emptied : MDef where
  N := ["claims", "amount", "row", "height", "at", "claim", "below", "step", "even"]
  np := 2
  M := []
  body := (.cons (.asg 2 (.bi .rev (.call false F_rising "rising" (.cons (.var 0) .nil)))) (
  .cons (.asg 3 (.tup (.cons (.int 0) (.cons (.int 1) .nil)))) (
  .cons (.forS [4, 6, 5, 8, 7] [4, 5] true I1_emptied B1_emptied) (
  .cons (.ret true (.var 3)) (
  .nil)))))
def F_emptied : List D → R D := run d_emptied
def d_loss_level : MDef where
  N := ["claims", "estate"]
  np := 2
  M := []
  body := (.cons (.expr (.call false F_check_estate "check_estate" (.cons (.var 0) (.cons (.var 1) .nil)))) (
  .cons (.ret false (.call false F_emptied "emptied" (.cons (.var 0) (.cons (.var 1) .nil)))) (
  .nil)))
def F_loss_level : List D → R D := run d_loss_level
def K1_in_shares : ME := (.comp [("claim", 4)] [4] false (.iSeq (.var 0)) .nil (.tup (.cons (.int 0) (.cons (.int 1) .nil))))
def K2_in_shares : ME := (.comp [("claim", 4)] [4] false (.iSeq (.var 0)) .nil (.call false F_times "times" (.cons (.var 4) (.cons (.var 3) .nil))))
def d_in_shares : MDef where
  N := ["claims", "estate", "whole", "share", "claim"]
  np := 2
  M := []
  body := (.cons (.expr (.call false F_check_estate "check_estate" (.cons (.var 0) (.cons (.var 1) .nil)))) (
  .cons (.asg 2 (.call false F_total "total" (.cons (.var 0) .nil))) (
  .cons (.ite (.cmp .eq (.var 2) (.tup (.cons (.int 0) (.cons (.int 1) .nil))))
    (.cons (.ret false K1_in_shares) (
    .nil))
    .nil) (
  .cons (.asg 3 (.call false F_over "over" (.cons (.var 1) (.cons (.var 2) .nil)))) (
  .cons (.ret false K2_in_shares) (
  .nil))))))
def F_in_shares : List D → R D := run d_in_shares
def K1_by_gains : ME := (.comp [("claim", 3)] [3] false (.iSeq (.var 0)) .nil (.call false F_lesser "lesser" (.cons (.var 3) (.cons (.var 2) .nil))))
def d_by_gains : MDef where
  N := ["claims", "estate", "level", "claim"]
  np := 2
  M := []
  body := (.cons (.asg 2 (.call false F_gain_level "gain_level" (.cons (.var 0) (.cons (.var 1) .nil)))) (
  .cons (.ret false K1_by_gains) (
  .nil)))
def F_by_gains : List D → R D := run d_by_gains
def d_above : MDef where
  N := ["claim", "level"]
  np := 2
  M := []
  body := (.cons (.ite (.call false F_less "less" (.cons (.var 0) (.cons (.var 1) .nil)))
    (.cons (.ret false (.tup (.cons (.int 0) (.cons (.int 1) .nil)))) (
    .nil))
    .nil) (
  .cons (.ret false (.call false F_minus "minus" (.cons (.var 0) (.cons (.var 1) .nil)))) (
  .nil)))
def F_above : List D → R D := run d_above
def K1_by_losses : ME := (.comp [("claim", 3)] [3] false (.iSeq (.var 0)) .nil (.call false F_above "above" (.cons (.var 3) (.cons (.var 2) .nil))))
def d_by_losses : MDef where
  N := ["claims", "estate", "level", "claim"]
  np := 2
  M := []
  body := (.cons (.asg 2 (.call false F_loss_level "loss_level" (.cons (.var 0) (.cons (.var 1) .nil)))) (
  .cons (.ret false K1_by_losses) (
  .nil)))
def F_by_losses : List D → R D := run d_by_losses
def K1_by_halves : ME := (.comp [("claim", 5)] [5] false (.iSeq (.var 0)) .nil (.call false F_times "times" (.cons (.var 5) (.cons (.gl "HALF" (.tuple [(.int 1), (.int 2)])) .nil))))
def K2_by_halves : ME := (.comp [("claim", 5), ("less_by", 6)] [5, 6] true (.iZip (.var 0) (.var 4)) .nil (.call false F_minus "minus" (.cons (.var 5) (.cons (.var 6) .nil))))
def d_by_halves : MDef where
  N := ["claims", "estate", "missing", "halves", "lost", "claim", "less_by"]
  np := 2
  M := []
  body := (.cons (.asg 2 (.call false F_lack "lack" (.cons (.var 0) (.cons (.var 1) .nil)))) (
  .cons (.asg 3 K1_by_halves) (
  .cons (.ite (.nt (.call false F_less "less" (.cons (.var 2) (.cons (.var 1) .nil))))
    (.cons (.ret false (.call false F_by_gains "by_gains" (.cons (.var 3) (.cons (.var 1) .nil)))) (
    .nil))
    .nil) (
  .cons (.asg 4 (.call false F_by_gains "by_gains" (.cons (.var 3) (.cons (.var 2) .nil)))) (
  .cons (.ret false K2_by_halves) (
  .nil))))))
def F_by_halves : List D → R D := run d_by_halves
def I1_orders_of : ME := (.iRg2 (.int 2) (.bin .add (.var 0) (.int 1)))
def B1_orders_of : MS := (.cons (.aug 1 .mul (.var 2)) (
  .nil))
def d_orders_of : MDef where
  N := ["many", "found", "one"]
  np := 1
  M := []
  body := (.cons (.asg 1 (.int 1)) (
  .cons (.forS [2] [2] false I1_orders_of B1_orders_of) (
  .cons (.ret true (.var 1)) (
  .nil))))
def F_orders_of : List D → R D := run d_orders_of
def C1_count_in : ME := (.cmp .gt (.var 0) (.int 0))
def B1_count_in : MS := (.cons (.aug 1 .add (.bin .band (.var 0) (.int 1))) (
  .cons (.aug 0 .shr (.int 1)) (
  .nil)))
def d_count_in : MDef where
  N := ["group", "found"]
  np := 1
  M := []
  body := (.cons (.asg 1 (.int 0)) (
  .cons (.whl [] fuelE C1_count_in B1_count_in) (
  .cons (.ret true (.var 1)) (
  .nil))))
def F_count_in : List D → R D := run d_count_in
def I1_rests : ME := (.iRg2 (.int 1) (.bin .shl (.int 1) (.bi .len (.var 0))))
def B1_rests : MS := (.cons (.asg 4 (.bin .sub (.bi .bits (.var 3)) (.int 1))) (
  .cons (.asg 5 (.call false F_minus "minus" (.cons (.ix (.var 2) (.bin .bxor (.var 3) (.bin .shl (.int 1) (.var 4)))) (.cons (.ix (.var 0) (.var 4)) .nil)))) (
  .cons (.ite (.cmp .lt (.ix (.var 5) (.int 0)) (.int 0))
    (.cons (.asg 5 (.tup (.cons (.int 0) (.cons (.int 1) .nil)))) (
    .nil))
    .nil) (
  .cons (.app 2 (.var 5)) (
  .nil)))))
def d_rests : MDef where
  N := ["claims", "estate", "found", "group", "last", "rest"]
  np := 2
  M := [2]
  body := (.cons (.asg 2 (.lst (.cons (.var 1) .nil))) (
  .cons (.forS [3, 4, 5] [3] false I1_rests B1_rests) (
  .cons (.ret false (.var 2)) (
  .nil))))
def F_rests : List D → R D := run d_rests
def I1_average_of : ME := (.iEnum (.var 1))
def B1_average_of : MS := (.cons (.ite (.cmp .eq (.bin .band (.bin .shr (.var 5) (.var 2)) (.int 1)) (.int 0))
    (.cons (.asg 7 (.call false F_count_in "count_in" (.cons (.var 5) .nil))) (
    .cons (.asg 8 (.bin .mul (.call false F_orders_of "orders_of" (.cons (.var 7) .nil)) (.call false F_orders_of "orders_of" (.cons (.bin .sub (.bin .sub (.var 3) (.int 1)) (.var 7)) .nil)))) (
    .cons (.asg 4 (.call false F_plus "plus" (.cons (.var 4) (.cons (.call false F_times "times" (.cons (.call false F_lesser "lesser" (.cons (.ix (.var 0) (.var 2)) (.cons (.var 6) .nil))) (.cons (.tup (.cons (.var 8) (.cons (.int 1) .nil))) .nil))) .nil)))) (
    .nil))))
    .nil) (
  .nil))
def d_average_of : MDef where
  N := ["claims", "after", "who", "many", "found", "group", "rest", "ahead", "ways"]
  np := 3
  M := []
  body := (.cons (.asg 3 (.bi .len (.var 0))) (
  .cons (.asg 4 (.tup (.cons (.int 0) (.cons (.int 1) .nil)))) (
  .cons (.forS [7, 5, 6, 8] [5, 6] true I1_average_of B1_average_of) (
  .cons (.ret false (.call false F_over "over" (.cons (.var 4) (.cons (.tup (.cons (.call false F_orders_of "orders_of" (.cons (.var 3) .nil)) (.cons (.int 1) .nil))) .nil)))) (
  .nil)))))
def F_average_of : List D → R D := run d_average_of
def K1_by_turns : ME := (.comp [("who", 3)] [3] false (.iRg1 (.bi .len (.var 0))) .nil (.call false F_average_of "average_of" (.cons (.var 0) (.cons (.var 2) (.cons (.var 3) .nil)))))
def d_by_turns : MDef where
  N := ["claims", "estate", "after", "who"]
  np := 2
  M := []
  body := (.cons (.expr (.call false F_check_estate "check_estate" (.cons (.var 0) (.cons (.var 1) .nil)))) (
  .cons (.asg 2 (.call false F_rests "rests" (.cons (.var 0) (.cons (.var 1) .nil)))) (
  .cons (.ret false K1_by_turns) (
  .nil))))
def F_by_turns : List D → R D := run d_by_turns
def d_check_rule : MDef where
  N := ["rule"]
  np := 1
  M := []
  body := (.cons (.ite (.cmp .nmem (.var 0) (.gl "RULES" (.tuple [(.str "shares"), (.str "gains"), (.str "losses"), (.str "halves"), (.str "turns")])))
    (.cons (.rai "NoRule" "no rule of this word") (
    .nil))
    .nil) (
  .nil))
def F_check_rule : List D → R D := run d_check_rule
def d_shared : MDef where
  N := ["rule", "claims", "estate"]
  np := 3
  M := []
  body := (.cons (.expr (.call false F_check_rule "check_rule" (.cons (.var 0) .nil))) (
  .cons (.ite (.cmp .eq (.var 0) (.str "shares"))
    (.cons (.ret false (.call false F_in_shares "in_shares" (.cons (.var 1) (.cons (.var 2) .nil)))) (
    .nil))
    .nil) (
  .cons (.ite (.cmp .eq (.var 0) (.str "gains"))
    (.cons (.ret false (.call false F_by_gains "by_gains" (.cons (.var 1) (.cons (.var 2) .nil)))) (
    .nil))
    .nil) (
  .cons (.ite (.cmp .eq (.var 0) (.str "losses"))
    (.cons (.ret false (.call false F_by_losses "by_losses" (.cons (.var 1) (.cons (.var 2) .nil)))) (
    .nil))
    .nil) (
  .cons (.ite (.cmp .eq (.var 0) (.str "halves"))
    (.cons (.ret false (.call false F_by_halves "by_halves" (.cons (.var 1) (.cons (.var 2) .nil)))) (
    .nil))
    .nil) (
  .cons (.ret false (.call false F_by_turns "by_turns" (.cons (.var 1) (.cons (.var 2) .nil)))) (
  .nil)))))))
def F_shared : List D → R D := run d_shared
def d_check_path : MDef where
  N := ["rule", "claims"]
  np := 2
  M := []
  body := (.cons (.expr (.call false F_check_rule "check_rule" (.cons (.var 0) .nil))) (
  .cons (.ite (.cmp .eq (.var 0) (.str "turns"))
    (.cons (.rai "NoRule" "turns have no path here") (
    .nil))
    .nil) (
  .cons (.expr (.call false F_check_claims "check_claims" (.cons (.var 1) .nil))) (
  .nil))))
def F_check_path : List D → R D := run d_check_path
def I1_unlike : ME := (.iSeq (.call false F_rising "rising" (.cons (.var 0) .nil)))
def B1_unlike : MS := (.cons (.ite (.cmp .ne (.var 2) (.ix (.var 1) (.neg (.int 1))))
    (.cons (.app 1 (.var 2)) (
    .nil))
    .nil) (
  .nil))
def d_unlike : MDef where
  N := ["claims", "found", "claim"]
  np := 1
  M := [1]
  body := (.cons (.asg 1 (.lst (.cons (.gl "NOTHING" (.tuple [(.int 0), (.int 1)])) .nil))) (
  .cons (.forS [2] [2] false I1_unlike B1_unlike) (
  .cons (.ret false (.sl (.var 1) (.cons (.int 1) .nil) .nil)) (
  .nil))))
def F_unlike : List D → R D := run d_unlike
def K1_up_to : ME := (.comp [("claim", 2)] [2] false (.iSeq (.var 0)) .nil (.call false F_lesser "lesser" (.cons (.var 2) (.cons (.var 1) .nil))))
def d_up_to : MDef where
  N := ["claims", "level", "claim"]
  np := 2
  M := []
  body := (.cons (.ret false (.call false F_total "total" (.cons K1_up_to .nil))) (
  .nil))
def F_up_to : List D → R D := run d_up_to
def K1_bends : ME := (.comp [("level", 6)] [6] false (.iSeq (.sl (.call false F_unlike "unlike" (.cons (.var 1) .nil)) .nil (.cons (.neg (.int 1)) .nil))) .nil (.call false F_up_to "up_to" (.cons (.var 1) (.cons (.var 6) .nil))))
def K2_bends : ME := (.comp [("claim", 5)] [5] false (.iSeq (.var 1)) .nil (.call false F_above "above" (.cons (.var 5) (.cons (.var 6) .nil))))
def K3_bends : ME := (.comp [("level", 6)] [6] false (.iRev (.sl (.call false F_unlike "unlike" (.cons (.var 1) .nil)) .nil (.cons (.neg (.int 1)) .nil))) .nil (.call false F_total "total" (.cons K2_bends .nil)))
def K4_bends : ME := (.comp [("claim", 5)] [5] false (.iSeq (.var 1)) .nil (.call false F_times "times" (.cons (.var 5) (.cons (.gl "HALF" (.tuple [(.int 1), (.int 2)])) .nil))))
def K5_bends : ME := (.comp [("level", 6)] [6] false (.iSeq (.sl (.call false F_unlike "unlike" (.cons (.var 2) .nil)) .nil (.cons (.neg (.int 1)) .nil))) .nil (.call false F_up_to "up_to" (.cons (.var 2) (.cons (.var 6) .nil))))
def K6_bends : ME := (.comp [("estate", 7)] [7] false (.iRev (.var 3)) .nil (.call false F_minus "minus" (.cons (.var 4) (.cons (.var 7) .nil))))
def d_bends : MDef where
  N := ["rule", "claims", "halves", "early", "whole", "claim", "level", "estate"]
  np := 2
  M := []
  body := (.cons (.ite (.cmp .eq (.var 0) (.str "gains"))
    (.cons (.ret false K1_bends) (
    .nil))
    .nil) (
  .cons (.ite (.cmp .eq (.var 0) (.str "losses"))
    (.cons (.ret false K3_bends) (
    .nil))
    .nil) (
  .cons (.ite (.cmp .eq (.var 0) (.str "shares"))
    (.cons (.ret false (.lst .nil)) (
    .nil))
    .nil) (
  .cons (.asg 2 K4_bends) (
  .cons (.asg 3 K5_bends) (
  .cons (.asg 4 (.call false F_total "total" (.cons (.var 1) .nil))) (
  .cons (.ret false (.bin .add (.var 3) K6_bends)) (
  .nil))))))))
def F_bends : List D → R D := run d_bends
def d_path : MDefN where
  N := ["rule", "claims", "estates", "estate"]
  np := 2
  M := []
  pre := (.cons (.expr (.call false F_check_path "check_path" (.cons (.var 0) (.cons (.var 1) .nil)))) (
  .cons (.asg 2 (.lst (.cons (.gl "NOTHING" (.tuple [(.int 0), (.int 1)])) .nil))) (
  .cons (.ite (.cmp .ne (.call false F_total "total" (.cons (.var 1) .nil)) (.gl "NOTHING" (.tuple [(.int 0), (.int 1)])))
    (.cons (.asg 2 (.bin .add (.bin .add (.var 2) (.call false F_bends "bends" (.cons (.var 0) (.cons (.var 1) .nil)))) (.lst (.cons (.call false F_total "total" (.cons (.var 1) .nil)) .nil)))) (
    .nil))
    .nil) (
  .nil))))
  ret := (.cm [("estate", 3)] [3] false (.iSeq (.var 2)) .nil (.tp (.st (.var 3)) (.fr (.call false F_shared "shared" (.cons (.var 0) (.cons (.var 1) (.cons (.var 3) .nil)))))))
def F_path : List D → R D := Mn.runN d_path
def d__law_cell_at : MDef where
  N := ["_law_script", "_law_k"]
  np := 2
  M := []
  body := (.cons (.ite (.cmp .lt (.var 1) (.bi .len (.var 0)))
    (.cons (.ret true (.ix (.var 0) (.var 1))) (
    .nil))
    .nil) (
  .cons (.ret false (.int 0)) (
  .nil)))
def F__law_cell_at : List D → R D := run d__law_cell_at
def I1__law_claims : ME := (.iRg1 (.var 3))
def B1__law_claims : MS := (.cons (.asg 5 (.bin .add (.call false F__law_cell_at "_law_cell_at" (.cons (.var 0) (.cons (.bin .add (.bin .add (.var 1) (.int 1)) (.var 4)) .nil))) (.bin .mul (.int 16) (.var 4)))) (
  .cons (.asg 6 (.bin .fdiv (.var 5) (.int 8))) (
  .cons (.asg 7 (.bin .fdiv (.int 55440) (.bin .add (.int 1) (.bin .mod (.var 6) (.int 12))))) (
  .cons (.asg 8 (.bin .mul (.bin .add (.int 1) (.bin .mod (.bin .fdiv (.var 6) (.int 12)) (.int 12))) (.var 7))) (
  .cons (.ite (.cmp .eq (.bin .mod (.var 5) (.int 8)) (.int 1))
    (.cons (.asg 8 (.bin .mul (.bin .mod (.bin .fdiv (.var 6) (.int 12)) (.bin .pow (.int 10) (.int 30))) (.var 7))) (
    .nil))
    .nil) (
  .cons (.ite (.andE (.cons (.cmp .eq (.bin .mod (.var 5) (.int 8)) (.int 2)) (.cons (.cmp .gt (.var 4) (.int 0)) .nil)))
    (.cons (.asg 8 (.ix (.var 2) (.bin .mod (.var 6) (.var 4)))) (
    .nil))
    .nil) (
  .cons (.ite (.andE (.cons (.cmp .eq (.bin .mod (.var 5) (.int 8)) (.int 4)) (.cons (.cmp .eq (.bin .mod (.var 6) (.int 3)) (.int 0)) .nil)))
    (.cons (.asg 8 (.int 0)) (
    .nil))
    .nil) (
  .cons (.app 2 (.var 8)) (
  .nil)))))))))
def d__law_claims : MDef where
  N := ["_law_script", "_law_start", "_law_claims_here", "_law_count", "_law_k", "_law_cell", "_law_rest", "_law_unit", "_law_number"]
  np := 2
  M := [2]
  body := (.cons (.asg 2 (.lst .nil)) (
  .cons (.asg 3 (.bin .mod (.call false F__law_cell_at "_law_cell_at" (.cons (.var 0) (.cons (.var 1) .nil))) (.int 9))) (
  .cons (.forS [5, 4, 8, 6, 7] [4] false I1__law_claims B1__law_claims) (
  .cons (.ret false (.var 2)) (
  .nil)))))
def F__law_claims : List D → R D := run d__law_claims
def C1__law_ratio : ME := (.cmp .gt (.var 3) (.int 0))
def B1__law_ratio : MS := (.cons (.asg 4 (.bin .mod (.var 2) (.var 3))) (
  .cons (.asg 2 (.var 3)) (
  .cons (.asg 3 (.var 4)) (
  .nil))))
def d__law_ratio : MDef where
  N := ["_law_number", "_law_parts", "_law_one", "_law_other", "_law_rest"]
  np := 2
  M := []
  body := (.cons (.asg 2 (.bi .abs (.var 0))) (
  .cons (.asg 3 (.var 1)) (
  .cons (.whl [4] fuelE C1__law_ratio B1__law_ratio) (
  .cons (.ret false (.tup (.cons (.bin .fdiv (.var 0) (.var 2)) (.cons (.bin .fdiv (.var 1) (.var 2)) .nil)))) (
  .nil)))))
def F__law_ratio : List D → R D := run d__law_ratio
def I1__law_units : ME := (.iSeq (.var 0))
def B1__law_units : MS := (.cons (.ite (.orE (.cons (.nt (.bi (.isi "int") (.var 2))) (.cons (.bi (.isi "bool") (.var 2)) .nil)))
    (.cons (.ret false .non) (
    .nil))
    .nil) (
  .nil))
def d__law_units : MDef where
  N := ["_law_found", "_law_parts", "_law_number"]
  np := 2
  M := []
  body := (.cons (.ite (.orE (.cons (.nt (.bi (.isi "tuple") (.var 0))) (.cons (.cmp .ne (.bi .len (.var 0)) (.int 2)) .nil)))
    (.cons (.ret false .non) (
    .nil))
    .nil) (
  .cons (.forS [] [2] false I1__law_units B1__law_units) (
  .cons (.ite (.orE (.cons (.cmp .lt (.ix (.var 0) (.int 1)) (.int 1)) (.cons (.cmp .ne (.bin .mod (.bin .mul (.ix (.var 0) (.int 0)) (.var 1)) (.ix (.var 0) (.int 1))) (.int 0)) .nil)))
    (.cons (.ret false .non) (
    .nil))
    .nil) (
  .cons (.asg 2 (.bin .fdiv (.bin .mul (.ix (.var 0) (.int 0)) (.var 1)) (.ix (.var 0) (.int 1)))) (
  .cons (.ite (.cmp .ne (.call false F__law_ratio "_law_ratio" (.cons (.var 2) (.cons (.var 1) .nil))) (.var 0))
    (.cons (.ret false .non) (
    .nil))
    .nil) (
  .cons (.ret true (.var 2)) (
  .nil)))))))
def F__law_units : List D → R D := run d__law_units
def I1__law_levelled : ME := (.iRg1 (.bi .len (.var 1)))
def B1__law_levelled : MS := (.cons (.ite (.cmp .ne (.ix (.var 0) (.var 3)) (.bi2 .min2 (.ix (.var 1) (.var 3)) (.var 2)))
    (.cons (.ret false (.bl false)) (
    .nil))
    .nil) (
  .nil))
def d__law_levelled : MDef where
  N := ["_law_parts", "_law_claims_here", "_law_high", "_law_k"]
  np := 2
  M := []
  body := (.cons (.asg 2 (.bi (.maxD 0) (.var 0))) (
  .cons (.forS [3] [3] false I1__law_levelled B1__law_levelled) (
  .cons (.ret false (.bl true)) (
  .nil))))
def F__law_levelled : List D → R D := run d__law_levelled
def I1__law_by_rule : ME := (.iRg1 (.bi .len (.var 2)))
def B1__law_by_rule : MS := (.cons (.ite (.orE (.cons (.cmp .ne (.bin .mul (.ix (.var 1) (.var 7)) (.var 4)) (.bin .mul (.ix (.var 2) (.var 7)) (.var 3))) (.cons (.cmp .gt (.ix (.var 1) (.var 7)) (.ix (.var 2) (.var 7))) .nil)))
    (.cons (.ret false (.bl false)) (
    .nil))
    .nil) (
  .nil))
def K1__law_by_rule : ME := (.comp [("_law_k", 7)] [7] false (.iRg1 (.bi .len (.var 2))) .nil (.bin .sub (.ix (.var 2) (.var 7)) (.ix (.var 1) (.var 7))))
def K2__law_by_rule : ME := (.comp [("_law_claim", 8)] [8] false (.iSeq (.var 2)) .nil (.bin .fdiv (.var 8) (.int 2)))
def d__law_by_rule : MDef where
  N := ["_law_rule", "_law_parts", "_law_claims_here", "_law_estate", "_law_whole", "_law_lost", "_law_halves", "_law_k", "_law_claim"]
  np := 3
  M := []
  body := (.cons (.asg 3 (.bi .sum (.var 1))) (
  .cons (.asg 4 (.bi .sum (.var 2))) (
  .cons (.ite (.cmp .eq (.var 0) (.str "shares"))
    (.cons (.forS [] [7] false I1__law_by_rule B1__law_by_rule) (
    .cons (.ret false (.bl true)) (
    .nil)))
    .nil) (
  .cons (.asg 5 K1__law_by_rule) (
  .cons (.ite (.cmp .eq (.var 0) (.str "gains"))
    (.cons (.ret false (.call false F__law_levelled "_law_levelled" (.cons (.var 1) (.cons (.var 2) .nil)))) (
    .nil))
    .nil) (
  .cons (.ite (.cmp .eq (.var 0) (.str "losses"))
    (.cons (.ret false (.call false F__law_levelled "_law_levelled" (.cons (.var 5) (.cons (.var 2) .nil)))) (
    .nil))
    .nil) (
  .cons (.asg 6 K2__law_by_rule) (
  .cons (.ite (.cmp .le (.bin .mul (.int 2) (.var 3)) (.var 4))
    (.cons (.ret false (.call false F__law_levelled "_law_levelled" (.cons (.var 1) (.cons (.var 6) .nil)))) (
    .nil))
    .nil) (
  .cons (.ret false (.call false F__law_levelled "_law_levelled" (.cons (.var 5) (.cons (.var 6) .nil)))) (
  .nil))))))))))
def F__law_by_rule : List D → R D := run d__law_by_rule
def K1__law_knots : ME := (.comp [("_law_one", 5)] [5] false (.iSeq (.bin .add (.lst (.cons (.ix (.var 3) (.int 0)) .nil)) (.ix (.var 3) (.int 1)))) .nil (.call false F__law_units "_law_units" (.cons (.var 5) (.cons (.int 55440) .nil))))
def I1__law_knots : ME := (.iSeq (.var 0))
def B1__law_knots : MS := (.cons (.ite (.orE (.cons (.nt (.bi (.isi "tuple") (.var 3))) (.cons (.cmp .ne (.bi .len (.var 3)) (.int 2)) (.cons (.nt (.bi (.isi "list") (.ix (.var 3) (.int 1)))) (.cons (.cmp .ne (.bi .len (.ix (.var 3) (.int 1))) (.var 1)) .nil)))))
    (.cons (.ret false .non) (
    .nil))
    .nil) (
  .cons (.asg 4 K1__law_knots) (
  .cons (.ite (.orE (.cons (.cmp .mem .non (.var 4)) (.cons (.cmp .lt (.bi .minL (.var 4)) (.int 0)) .nil)))
    (.cons (.ret false .non) (
    .nil))
    .nil) (
  .cons (.app 2 (.tup (.cons (.ix (.var 4) (.int 0)) (.cons (.sl (.var 4) (.cons (.int 1) .nil) .nil) .nil)))) (
  .nil)))))
def d__law_knots : MDef where
  N := ["_law_found", "_law_count", "_law_knots_here", "_law_knot", "_law_row", "_law_one"]
  np := 2
  M := [2]
  body := (.cons (.ite (.nt (.bi (.isi "list") (.var 0)))
    (.cons (.ret false .non) (
    .nil))
    .nil) (
  .cons (.asg 2 (.lst .nil)) (
  .cons (.forS [3, 4] [3] false I1__law_knots B1__law_knots) (
  .cons (.ret false (.var 2)) (
  .nil)))))
def F__law_knots : List D → R D := run d__law_knots
def I1__law_bends : ME := (.iRg1 (.bi .len (.ix (.var 0) (.int 1))))
def B1__law_bends : MS := (.cons (.asg 4 (.bin .mul (.bin .sub (.ix (.ix (.var 1) (.int 1)) (.var 3)) (.ix (.ix (.var 0) (.int 1)) (.var 3))) (.bin .sub (.ix (.var 2) (.int 0)) (.ix (.var 1) (.int 0))))) (
  .cons (.asg 5 (.bin .mul (.bin .sub (.ix (.ix (.var 2) (.int 1)) (.var 3)) (.ix (.ix (.var 1) (.int 1)) (.var 3))) (.bin .sub (.ix (.var 1) (.int 0)) (.ix (.var 0) (.int 0))))) (
  .cons (.ite (.cmp .ne (.var 4) (.var 5))
    (.cons (.ret false (.bl true)) (
    .nil))
    .nil) (
  .nil))))
def d__law_bends : MDef where
  N := ["_law_one", "_law_other", "_law_next_one", "_law_k", "_law_ahead", "_law_behind"]
  np := 3
  M := []
  body := (.cons (.forS [4, 5, 3] [3] false I1__law_bends B1__law_bends) (
  .cons (.ret false (.bl false)) (
  .nil)))
def F__law_bends : List D → R D := run d__law_bends
def I1__law_right : ME := (.iRg1 (.bi .len (.var 2)))
def B1__law_right : MS := (.cons (.ite (.orE (.cons (.cmp .ne (.bi .sum (.ix (.ix (.var 2) (.var 4)) (.int 1))) (.ix (.ix (.var 2) (.var 4)) (.int 0))) (.cons (.nt (.call false F__law_by_rule "_law_by_rule" (.cons (.var 0) (.cons (.ix (.ix (.var 2) (.var 4)) (.int 1)) (.cons (.var 1) .nil))))) .nil)))
    (.cons (.ret false (.bl false)) (
    .nil))
    .nil) (
  .cons (.ite (.andE (.cons (.cmp .gt (.var 4) (.int 0)) (.cons (.nt (.cmp .lt (.ix (.ix (.var 2) (.bin .sub (.var 4) (.int 1))) (.int 0)) (.ix (.ix (.var 2) (.var 4)) (.int 0)))) .nil)))
    (.cons (.ret false (.bl false)) (
    .nil))
    .nil) (
  .cons (.ite (.andE (.cons (.chn .lt (.int 0) (.var 4) .lt (.bin .sub (.bi .len (.var 2)) (.int 1))) (.cons (.nt (.call false F__law_bends "_law_bends" (.cons (.ix (.var 2) (.bin .sub (.var 4) (.int 1))) (.cons (.ix (.var 2) (.var 4)) (.cons (.ix (.var 2) (.bin .add (.var 4) (.int 1))) .nil))))) .nil)))
    (.cons (.ret false (.bl false)) (
    .nil))
    .nil) (
  .nil))))
def d__law_right : MDef where
  N := ["_law_rule", "_law_claims_here", "_law_knots_here", "_law_whole", "_law_k"]
  np := 3
  M := []
  body := (.cons (.asg 3 (.bi .sum (.var 1))) (
  .cons (.ite (.orE (.cons (.cmp .isN (.var 2) .non) (.cons (.cmp .eq (.bi .len (.var 2)) (.int 0)) (.cons (.cmp .ne (.ix (.ix (.var 2) (.int 0)) (.int 0)) (.int 0)) (.cons (.cmp .ne (.ix (.ix (.var 2) (.neg (.int 1))) (.int 0)) (.var 3)) .nil)))))
    (.cons (.ret false (.bl false)) (
    .nil))
    .nil) (
  .cons (.ite (.andE (.cons (.cmp .eq (.bi .len (.var 2)) (.int 1)) (.cons (.cmp .gt (.var 3) (.int 0)) .nil)))
    (.cons (.ret false (.bl false)) (
    .nil))
    .nil) (
  .cons (.forS [4] [4] false I1__law_right B1__law_right) (
  .cons (.ret false (.bl true)) (
  .nil))))))
def F__law_right : List D → R D := run d__law_right
def K1_law : ME := (.comp [("_law_claim", 7)] [7] false (.iSeq (.var 1)) .nil (.call false F__law_ratio "_law_ratio" (.cons (.var 7) (.cons (.int 55440) .nil))))
def I1_law : ME := (.iSeq (.lst (.cons (.str "gains") (.cons (.str "losses") (.cons (.str "halves") (.cons (.str "shares") .nil))))))
def B1_law : MS := (.cons (.asg 4 (.bi .list (.var 2))) (
  .jnk 5 F_path "path" (.cons (.var 3) (.cons (.var 4) .nil)) [((.orE (.cons (.cmp .ne (.var 4) (.var 2)) (.cons (.nt (.call false F__law_right "_law_right" (.cons (.var 3) (.cons (.var 1) (.cons (.call false F__law_knots "_law_knots" (.cons (.var 5) (.cons (.bi .len (.var 1)) .nil))) .nil))))) .nil))), false)] (.all 6 (.tup (.cons (.int 0) (.cons (.int 1) .nil)))) (
  .cons (.ite (.nt (.call false F__law_right "_law_right" (.cons (.var 3) (.cons (.var 1) (.cons (.call false F__law_knots "_law_knots" (.cons (.call false F_path "path" (.cons (.var 3) (.cons (.var 4) .nil))) (.cons (.bi .len (.var 1)) .nil))) .nil)))))
    (.cons (.ret false (.bl false)) (
    .nil))
    .nil) (
  .nil))))
def d_law : MDef where
  N := ["_law_script", "_law_claims_here", "_law_handed", "_law_rule", "_law_lent", "_law_found", "_law_knot", "_law_claim"]
  np := 1
  M := []
  body := (.cons (.asg 1 (.call false F__law_claims "_law_claims" (.cons (.var 0) (.cons (.int 0) .nil)))) (
  .cons (.asg 2 K1_law) (
  .cons (.forS [5, 6, 4, 3] [3] false I1_law B1_law) (
  .cons (.ret false (.bl true)) (
  .nil)))))
def F_law : List D → R D := run d_law
theorem w_common (n : Nat) : ∀ (a b : Int) (x : Option D), 0 ≤ a → 0 ≤ b → b.natAbs < n →
    whlO [2] (fun ρ => denE C1_common ρ >>= asBool) (denS B1_common) n [some (.int a), some (.int b), x] = .next [some (.int (Int.gcd a b)), some (.int 0), none] := by
  induction n with
  | zero => intro a b x _ _ h; omega
  | succ n ih =>
    intro a b x ha hb h
    by_cases hb0 : b = 0
    · subst hb0
      simp [whlO, C1_common]
      omega
    · have hp : 0 < b := by omega
      have h2 : a.fmod b < b := Int.fmod_lt_of_pos a hp
      have h1 : 0 ≤ a.fmod b := Int.fmod_nonneg_of_pos a hp
      have ih := ih b (a.fmod b) (some (.int (a.fmod b))) hb h1 (by omega)
      rw [nat_gcd_mod a b hp, fmod_pos hp] at ih
      rw [← ih]
      simp [whlO, C1_common, B1_common, hp, hb0]
theorem f_common (a b : Int) (ha : 0 ≤ a) (hb : 0 ≤ b) : F_common [.int a, .int b] = .ok (.int (Int.gcd a b)) := by
  have := w_common (fuelE [some (.int a), some (.int b), none]) a b none ha hb (by simp [fuelE, sizeD1]; omega)
  simp [F_common, Mn.run, d_common, env0, this]
theorem f_ratio (a b : Int) (hb : b ≠ 0) (h : b.natAbs.log2 < 9000) : F_ratio [.int a, .int b] = .ok (rt (Rat.divInt a b)) := by
  have hg := gcd_small hb h (a := a)
  have hg0 : Int.gcd a b ≠ 0 := fun e => hb (Int.gcd_eq_zero_iff.mp e).2
  have hc : F_common [.int a.natAbs, .int b.natAbs] = .ok (.int (Int.gcd a b)) := f_common _ _ (by omega) (by omega)
  rcases Int.lt_or_lt_of_ne hb with hn | hp
  · simp [F_ratio, Mn.run, d_ratio, env0, hb, hc, hn, hg, num_neg hn, den_neg hn, rt]
  · simp [F_ratio, Mn.run, d_ratio, env0, hb, hc, show ¬ b < 0 by omega, hg, num_pos hp, den_pos hp, rt]
theorem f_ratio0 (a : Int) : F_ratio [.int a, .int 0] = .exc "NoRatio" := by
  simp [F_ratio, Mn.run, d_ratio, env0]
theorem f_plus {p q : Rat} (hp : Sz p) (hq : Sz q) : F_plus [rt p, rt q] = .ok (rt (p + q)) := by
  simp [F_plus, Mn.run, d_plus, env0, hp.nd hq, hq.nd hp, hp.dd hq, f_ratio _ _ dd0 (hp.ldd hq), div_add]
theorem f_minus {p q : Rat} (hp : Sz p) (hq : Sz q) : F_minus [rt p, rt q] = .ok (rt (p - q)) := by
  simp [F_minus, Mn.run, d_minus, env0, hp.nd hq, hq.nd hp, hp.dd hq, f_ratio _ _ dd0 (hp.ldd hq), div_sub]
theorem f_times {p q : Rat} (hp : Sz p) (hq : Sz q) : F_times [rt p, rt q] = .ok (rt (p * q)) := by
  simp [F_times, Mn.run, d_times, env0, hp.nn hq, hp.dd hq, f_ratio _ _ dd0 (hp.ldd hq), div_mul]
theorem f_over {p q : Rat} (hp : Sz p) (hq : Sz q) (h : q ≠ 0) : F_over [rt p, rt q] = .ok (rt (p / q)) := by
  have h0 : q.num ≠ 0 := by simpa using h
  have hd := p.den_nz
  simp [F_over, Mn.run, d_over, env0, hp.nd hq, hp.dn hq, f_ratio _ _ (Int.mul_ne_zero (show (p.den : Int) ≠ 0 by omega) h0) (hp.ldn hq), div_div p q h]
theorem f_over0 {p : Rat} (hp : Sz p) : F_over [rt p, rt 0] = .exc "NoRatio" := by
  have h1 := hp.nd Sz.zero
  have h2 := hp.dn Sz.zero
  simp [F_over, Mn.run, d_over, env0, h1, h2, f_ratio0]
theorem f_less {p q : Rat} (hp : Sz p) (hq : Sz q) : F_less [rt p, rt q] = .ok (.bool (decide (p < q))) := by
  simp [F_less, Mn.run, d_less, env0, hp.nd hq, hq.nd hp, Rat.lt_iff]
theorem f_total {qs : List Rat} (h : ∀ q ∈ qs, Sz q) (hs : ∀ i, Sz (sumQ (qs.take i))) : F_total [.list (qs.map rt)] = .ok (rt (sumQ qs)) := by
  have loop := for_acc (fg := [2]) (tg := [2]) (tup := false) (body := denS B1_total) (fun i => [some (.list (qs.map rt)), some (rt (sumQ (qs.take i))), none]) (qs.map rt)
    (fun i d hd => by
      rw [List.getElem?_map] at hd
      cases hq : qs[i]? with
      | none => rw [hq] at hd; cases hd
      | some q =>
        rw [hq] at hd
        cases hd
        have hp := f_plus (hs i) (h q (List.mem_of_getElem? hq))
        simp [B1_total, hp, sumQ_take hq]) (fun i => rfl) [some (.list (qs.map rt)), some (rt 0), none] (by simp [sumQ])
  rw [List.length_map, List.take_length] at loop
  simp [F_total, Mn.run, d_total, env0, I1_total, loop]
theorem f_total_on {G B : Nat} {qs : List Rat} (g : 0 < G) (h : ∀ q ∈ qs, On G B q) (hg : G < 2 ^ 2000) (hb : qs.length * B < 2 ^ 2000) : F_total [.list (qs.map rt)] = .ok (rt (sumQ qs)) := by
  refine f_total (fun q hq => (h q hq).szn hg ?_) fun i => ?_
  · refine Nat.lt_of_le_of_lt ?_ hb
    have : 0 < qs.length := List.length_pos_of_mem hq
    exact Nat.le_mul_of_pos_left _ this
  · refine (On.sum g (qs := qs.take i) fun q hq => h q (List.mem_of_mem_take hq)).szn hg ?_
    refine Nat.lt_of_le_of_lt (Nat.mul_le_mul_right _ ?_) hb
    rw [List.length_take]
    exact Nat.min_le_right _ _
def badClaim (qs : List Rat) : Bool := qs.any fun q => decide (q < 0)
theorem num_neg_iff {q : Rat} : q.num < 0 ↔ q < 0 := by rw [← Int.not_le, Rat.num_nonneg, Rat.not_le]
theorem w_check_claims (X : D) : ∀ (qs : List Rat) (x : Option D), forO [1] [1] false (denS B1_check_claims) (qs.map rt) [some X, x] = if badClaim qs = true then .exc "NoClaim" else .next [some X, none]
  | [], x => rfl
  | q :: qs, x => by
    rw [List.map_cons, forO_cons]
    by_cases h : q < 0
    · have h' : q.num < 0 := num_neg_iff.mpr h
      simp [B1_check_claims, h', badClaim, h]
    · have h' : ¬ q.num < 0 := fun z => h (num_neg_iff.mp z)
      have ih := w_check_claims X qs none
      simp [B1_check_claims, h', badClaim, h] at ih ⊢
      simp [B1_check_claims, ih]
theorem f_check_claims (qs : List Rat) : F_check_claims [.list (qs.map rt)] = if 8 < qs.length then .exc "TooMany" else if badClaim qs = true then .exc "NoClaim" else .ok .none := by
  by_cases h : 8 < qs.length
  · have h' : (8 : Int) < qs.length := by omega
    simp [F_check_claims, Mn.run, d_check_claims, env0, h, h']
  · have h' : ¬ (8 : Int) < qs.length := by omega
    have loop := w_check_claims (.list (qs.map rt)) qs none
    by_cases hb : badClaim qs = true
    · rw [if_pos hb] at loop
      simp [F_check_claims, Mn.run, d_check_claims, env0, h, h', I1_check_claims, loop, hb]
    · rw [if_neg hb] at loop
      simp [F_check_claims, Mn.run, d_check_claims, env0, h, h', I1_check_claims, loop, hb]
def badEst (qs : List Rat) (e : Rat) : Bool := decide (e < 0) || decide (sumQ qs < e)
theorem f_check_estate {G B : Nat} {qs : List Rat} {e : Rat} (g : 0 < G) (h : ∀ q ∈ qs, On G B q) (hg : G < 2 ^ 2000) (hb : 8 * B < 2 ^ 2000) (he : Sz e) :
    F_check_estate [.list (qs.map rt), rt e] = if 8 < qs.length then .exc "TooMany" else if badClaim qs = true then .exc "NoClaim" else if badEst qs e = true then .exc "NoEstate" else .ok .none := by
  have hc := f_check_claims qs
  by_cases h8 : 8 < qs.length
  · simp [F_check_estate, Mn.run, d_check_estate, env0, hc, h8]
  · have hlb : qs.length * B < 2 ^ 2000 := Nat.lt_of_le_of_lt (Nat.mul_le_mul_right _ (by omega)) hb
    have ht := f_total_on g h hg hlb
    have zs : Sz (sumQ qs) := (On.sum g h).szn hg hlb
    have hl := f_less zs he
    by_cases hbc : badClaim qs = true
    · simp [F_check_estate, Mn.run, d_check_estate, env0, hc, h8, hbc]
    · by_cases h0 : e < 0
      · have h0' : e.num < 0 := num_neg_iff.mpr h0
        simp [F_check_estate, Mn.run, d_check_estate, env0, hc, h8, hbc, h0, h0', badEst]
      · have h0' : ¬ e.num < 0 := fun z => h0 (num_neg_iff.mp z)
        by_cases hs : sumQ qs < e
        · simp [F_check_estate, Mn.run, d_check_estate, env0, hc, h8, hbc, h0, h0', badEst, ht, hl, hs]
        · simp [F_check_estate, Mn.run, d_check_estate, env0, hc, h8, hbc, h0, h0', badEst, ht, hl, hs]
/-- claims and an estate as they ought to be -/
structure Est (G B : Nat) (qs : List Rat) (e : Rat) : Prop where
  g : 0 < G
  on : ∀ q ∈ qs, On G B q
  oe : On G (8 * B) e
  hg : G < 2 ^ 400
  hb : B < 2 ^ 400
  len : qs.length ≤ 8
  nn : ∀ q ∈ qs, 0 ≤ q
  e0 : 0 ≤ e
  es : e ≤ sumQ qs
theorem pow2_le {m n : Nat} (h : m ≤ n) : 2 ^ m ≤ 2 ^ n := Nat.pow_le_pow_right (by decide) h
theorem Est.hb8 {G B : Nat} {qs : List Rat} {e : Rat} (E : Est G B qs e) : 8 * B < 2 ^ 403 := by
  have h1 := E.hb
  have h2 : 2 ^ 403 = 8 * 2 ^ 400 := by rw [show 403 = 3 + 400 from rfl, Nat.pow_add]
  omega
theorem Est.ze {G B : Nat} {qs : List Rat} {e : Rat} (E : Est G B qs e) : Szn 403 e := E.oe.szn (Nat.lt_of_lt_of_le E.hg (pow2_le (by decide))) E.hb8
theorem Est.os {G B : Nat} {qs : List Rat} {e : Rat} (E : Est G B qs e) : On G (8 * B) (sumQ qs) := (On.sum E.g E.on).mono (Nat.mul_le_mul_right _ E.len)
theorem Est.zs {G B : Nat} {qs : List Rat} {e : Rat} (E : Est G B qs e) : Szn 403 (sumQ qs) := E.os.szn (Nat.lt_of_lt_of_le E.hg (pow2_le (by decide))) E.hb8
theorem Est.zq {G B : Nat} {qs : List Rat} {e : Rat} (E : Est G B qs e) {q : Rat} (h : q ∈ qs) : Szn 400 q := (E.on q h).szn E.hg E.hb
theorem Est.total {G B : Nat} {qs : List Rat} {e : Rat} (E : Est G B qs e) : F_total [.list (qs.map rt)] = .ok (rt (sumQ qs)) :=
  f_total_on E.g E.on (Nat.lt_of_lt_of_le E.hg (pow2_le (by decide))) (Nat.lt_of_le_of_lt (Nat.mul_le_mul_right _ E.len) (Nat.lt_of_lt_of_le E.hb8 (pow2_le (by decide))))
theorem Est.check {G B : Nat} {qs : List Rat} {e : Rat} (E : Est G B qs e) : F_check_estate [.list (qs.map rt), rt e] = .ok .none := by
  have h := f_check_estate E.g E.on (Nat.lt_of_lt_of_le E.hg (pow2_le (by decide))) (Nat.lt_of_lt_of_le E.hb8 (pow2_le (by decide))) (E.ze.sz (by decide))
  have h1 : ¬ 8 < qs.length := by have := E.len; omega
  have h2 : badClaim qs = false := by
    unfold badClaim
    rw [List.any_eq_false]
    intro q hq z
    have := E.nn q hq
    have z := of_decide_eq_true z
    grind
  have h3 : badEst qs e = false := by
    unfold badEst
    have := E.e0
    have := E.es
    rw [decide_eq_false (by grind), decide_eq_false (by grind)]
    rfl
  rw [if_neg h1, h2, h3] at h
  exact h
theorem Est.lack {G B : Nat} {qs : List Rat} {e : Rat} (E : Est G B qs e) : F_lack [.list (qs.map rt), rt e] = .ok (rt (sumQ qs - e)) := by
  simp [F_lack, Mn.run, d_lack, env0, E.check, E.total, f_minus (E.zs.sz (by decide)) (E.ze.sz (by decide))]
theorem f_lesser {p q : Rat} (hp : Sz p) (hq : Sz q) : F_lesser [rt p, rt q] = .ok (rt (minQ p q)) := by
  unfold minQ
  by_cases h : q < p
  · simp [F_lesser, Mn.run, d_lesser, env0, f_less hq hp, h]
  · simp [F_lesser, Mn.run, d_lesser, env0, f_less hq hp, h]
theorem w2_rising (X : Option D) (l : List Rat) (x : Rat) (zl : ∀ q ∈ l, Sz q) (zx : Sz x) : ∀ (n fuel : Nat), n ≤ l.length → n < fuel →
    whlO [] (fun ρ => denE C2_rising ρ >>= asBool) (denS B2_rising) fuel [X, some (.list (l.map rt)), some (rt x), some (.int (n : Int))] = .next [X, some (.list (l.map rt)), some (rt x), some (.int (downQ x l n))]
  | 0, fuel + 1, _, _ => by
    simp [whlO, C2_rising, downQ]
  | n + 1, fuel + 1, hn, hf => by
    have ih := w2_rising X l x zl zx n fuel (by omega) (by omega)
    have hi : n < l.length := by omega
    have e : ixD (.list (l.map rt)) (.int (n : Int)) = .ok (rt l[n]) := ix_nat (by simp [hi])
    have e2 : ((n + 1 : Nat) : Int) - 1 = n := by omega
    have hl := f_less zx (zl _ (List.getElem_mem hi))
    have hg : l.getD n 0 = l[n] := by simp [hi]
    have h0 : (0 : Int) < ((n + 1 : Nat) : Int) := by omega
    unfold downQ
    rw [hg]
    generalize l[n] = y at e hl
    generalize ((n + 1 : Nat) : Int) = m at e2 h0
    by_cases h : x < y
    · rw [if_pos h, ← ih]
      simp [whlO, C2_rising, B2_rising, h0, e2, e, hl, h]
    · rw [if_neg h]
      have hm : m = ((n + 1 : Nat) : Int) := by omega
      simp [whlO, C2_rising, h0, e2, e, hl, h]
      exact hm
theorem t_rising (X : D) (l : List Rat) (x : Rat) (zl : ∀ q ∈ l, Sz q) (zx : Sz x) (hl : l.length < 1000) : wipeO [3, 2] (denS B1_rising [some X, some (.list (l.map rt)), some (rt x), none]) = .next [some X, some (.list ((stepQ l x).map rt)), none, none] := by
  have hw := w2_rising (some X) l x zl zx l.length (fuelE [some X, some (.list (l.map rt)), some (rt x), some (.int l.length)]) (Nat.le_refl _) (by simp [fuelE, sizeD1]; omega)
  have hd := downQ_le x l l.length
  unfold stepQ
  generalize downQ x l l.length = d at hw hd
  have h1 : l.length < sizeLine := by
    have : sizeLine = 16777216 := rfl
    omega
  have h2 : (d : Int) < 4611686018427387904 := by omega
  simp [B1_rising, hw, h1, h2]
theorem w_rising (X : D) : ∀ (qs l : List Rat) (a b : Option D), (∀ q ∈ l, Sz q) → (∀ q ∈ qs, Sz q) → l.length + qs.length < 1000 → forO [3, 2] [2] false (denS B1_rising) (qs.map rt) [some X, some (.list (l.map rt)), a, b] = .next [some X, some (.list ((qs.foldl stepQ l).map rt)), none, none]
  | [], l, a, b, _, _, _ => rfl
  | q :: qs, l, a, b, zl, zq, h => by
    have t := t_rising X l q zl (zq q List.mem_cons_self) (by simp at h; omega)
    have ih := w_rising X qs (stepQ l q) none none (fun z hz => by
      rcases List.mem_cons.mp ((stepQ_perm l q).mem_iff.mp hz) with rfl | hz
      · exact zq _ List.mem_cons_self
      · exact zl z hz) (fun z hz => zq z (List.mem_cons_of_mem _ hz)) (by rw [(stepQ_perm l q).length_eq]; simp at h ⊢; omega)
    rw [List.map_cons, forO_cons]
    simp [t]
    exact ih
theorem f_rising {qs : List Rat} (z : ∀ q ∈ qs, Sz q) (h : qs.length < 1000) : F_rising [.list (qs.map rt)] = .ok (.list ((risingQ qs).map rt)) := by
  have lp := w_rising (.list (qs.map rt)) qs [] none none (fun _ hq => by cases hq) z (by simpa using h)
  rw [List.map_nil] at lp
  simp [F_rising, Mn.run, d_rising, env0, I1_rising, lp, risingQ]
/-- the level, over the rising row: h the level below -/
def filledQ : List Rat → Rat → Rat → Rat
  | [], _, h => h
  | c :: r, a, h => if c < a / ((r.length + 1 : Nat) : Rat) then filledQ r (a - c) c else a / ((r.length + 1 : Nat) : Rat)
theorem szn_nat {n : Nat} (h : n < 2 ^ 10) : Szn 10 (n : Rat) := ⟨by show (n : Int).natAbs < _; rw [Int.natAbs_natCast]; exact h, by show 1 < _; decide⟩
theorem tup_nat (n : Nat) : PyData.tuple [.int (n : Int), .int 1] = rt (n : Rat) := rfl
/-- an amount as large as it may be here -/
theorem w_filled (X Y : Option D) (row : List Rat) {G B : Nat} (g : 0 < G) (hG : G < 2 ^ 900) (hrow : row.length ≤ 1000) (hon : ∀ q ∈ row, On G B q) : ∀ (r : List Rat) (i : Nat) (a h : Rat) (C : Nat) (x y z : Option D), row.drop i = r → On G C a → C + r.length * B < 2 ^ 900 → B < 2 ^ 900 →
    forO [4, 5, 6] [4, 5] true (denS B1_filled) (enumD i (r.map rt)) [X, some (rt a), some (.list (row.map rt)), some (rt h), x, y, z] = .ret (rt (filledQ r a h)) ∨
    ∃ a', forO [4, 5, 6] [4, 5] true (denS B1_filled) (enumD i (r.map rt)) [X, some (rt a), some (.list (row.map rt)), some (rt h), x, y, z] = .next [X, some (rt a'), some (.list (row.map rt)), some (rt (filledQ r a h)), none, none, none]
  | [], i, a, h, C, x, y, z, _, _, _, _ => .inr ⟨a, rfl⟩
  | c :: r, i, a, h, C, x, y, z, hd, ha, hC, hB => by
    have hi : i < row.length := by
      by_cases hi : i < row.length
      · exact hi
      · rw [List.drop_of_length_le (by omega)] at hd; cases hd
    have hc : c ∈ row := by
      have : c ∈ row.drop i := by rw [hd]; exact List.mem_cons_self
      exact List.mem_of_mem_drop this
    have hlen : row.length = i + (r.length + 1) := by
      have := congrArg List.length hd
      rw [List.length_drop, List.length_cons] at this
      omega
    have zc := (hon c hc).szn hG hB
    have za := ha.szn hG (Nat.lt_of_le_of_lt (Nat.le_add_right _ _) hC)
    have n0 : ((r.length + 1 : Nat) : Rat) ≠ 0 := by
      have : (((r.length + 1 : Nat) : Rat)).num = ((r.length + 1 : Nat) : Int) := rfl
      intro e
      rw [e] at this
      simp at this
      omega
    have zn := szn_nat (n := r.length + 1) (by omega)
    have ho := f_over (za.sz (by decide)) (zn.sz (by decide)) n0
    have ze := (za.quo zn n0).sz (by decide)
    have hl := f_less (zc.sz (by decide)) ze
    have hm := f_minus (za.sz (by decide)) (zc.sz (by decide))
    have e1 : (row.length : Int) - (i : Int) = (r.length : Int) + 1 := by omega
    have e2 : PyData.tuple [.int ((r.length : Int) + 1), .int 1] = rt ((r.length + 1 : Nat) : Rat) := tup_nat (r.length + 1)
    have hd' : row.drop (i + 1) = r := by rw [← List.drop_drop, hd]; rfl
    have ih := w_filled X Y row g hG hrow hon r (i + 1) (a - c) c (C + B) none none none hd' (ha.sub (hon c hc)) (by rw [List.length_cons, Nat.add_mul] at hC; omega) hB
    rw [List.map_cons]
    show (forO [4, 5, 6] [4, 5] true (denS B1_filled) (.tuple [.int (i : Int), rt c] :: enumD (i + 1) (r.map rt)) _ = _) ∨ ∃ a', forO [4, 5, 6] [4, 5] true (denS B1_filled) (.tuple [.int (i : Int), rt c] :: enumD (i + 1) (r.map rt)) _ = _
    rw [forO_cons]
    unfold filledQ
    generalize ((r.length + 1 : Nat) : Rat) = nq at *
    by_cases hlt : c < a / nq
    · rw [if_pos hlt]
      have t : wipeO [4, 5, 6] ((bindT [4, 5] true (.tuple [.int (i : Int), rt c]) (wipeE [X, some (rt a), some (.list (row.map rt)), some (rt h), x, y, z] [4, 5, 6])).ot (denS B1_filled)) = .next [X, some (rt (a - c)), some (.list (row.map rt)), some (rt c), none, none, none] := by
        simp [B1_filled, e1, e2, ho, hl, hlt, hm]
      rw [t]
      exact ih
    · rw [if_neg hlt]
      left
      simp [B1_filled, e1, e2, ho, hl, hlt]
theorem f_filled {G B C : Nat} {qs : List Rat} {a : Rat} (g : 0 < G) (hG : G < 2 ^ 900) (hl : qs.length < 1000) (hon : ∀ q ∈ qs, On G B q) (ha : On G C a) (hC : C + qs.length * B < 2 ^ 900) (hB : B < 2 ^ 900) : F_filled [.list (qs.map rt), rt a] = .ok (rt (filledQ (risingQ qs) a 0)) := by
  have hp := risingQ_perm qs
  have hr := f_rising (fun q hq => ((hon q hq).szn hG hB).sz (by decide)) hl
  have hlen := hp.length_eq
  have w := w_filled (some (.list (qs.map rt))) none (risingQ qs) g hG (by omega) (fun q hq => hon q (hp.mem_iff.mp hq)) (risingQ qs) 0 a 0 C none none none rfl ha (by rw [hlen]; exact hC) hB
  generalize risingQ qs = row at hr w
  rcases w with w | ⟨a', w⟩
  · simp [F_filled, Mn.run, d_filled, env0, hr, I1_filled, w]
  · simp [F_filled, Mn.run, d_filled, env0, hr, I1_filled, w]
theorem nat_succ (n : Nat) : ((n + 1 : Nat) : Rat) = (n : Rat) + 1 := Rat.natCast_add n 1
theorem nat_pos (n : Nat) : (0 : Rat) < ((n + 1 : Nat) : Rat) := by
  have h0 : (0 : Rat) ≤ (n : Rat) := Rat.num_nonneg.mp (by show (0 : Int) ≤ (n : Int); omega)
  have h1 := nat_succ n
  grind
theorem cut_all {L : Rat} : ∀ {r : List Rat}, (∀ q ∈ r, L ≤ q) → sumQ (r.map fun q => if L < q then L else q) = (r.length : Rat) * L
  | [], _ => by simp [sumQ, Rat.zero_mul]
  | c :: r, h => by
    have h1 := h c List.mem_cons_self
    have ih := cut_all (L := L) (r := r) fun q hq => h q (List.mem_cons_of_mem _ hq)
    rw [List.map_cons, List.length_cons]
    show (if L < c then L else c) + sumQ _ = _
    rw [ih, nat_succ, Rat.add_mul, Rat.one_mul]
    split <;> grind
theorem filled_ok : ∀ (r : List Rat) (a h : Rat), r.Pairwise (· ≤ ·) → (∀ q ∈ r, h ≤ q) → (r.length : Rat) * h ≤ a → a ≤ sumQ r → h ≤ filledQ r a h ∧ sumQ (r.map fun q => if filledQ r a h < q then filledQ r a h else q) = a
  | [], a, h, _, _, h1, h2 => by
    have h2 : a ≤ 0 := h2
    have h1 : (0 : Rat) * h ≤ a := h1
    rw [Rat.zero_mul] at h1
    refine ⟨Rat.le_refl, ?_⟩
    show (0 : Rat) = a
    grind
  | c :: r, a, h, hs, hh, h1, h2 => by
    have hp := nat_pos r.length
    have hne : ((r.length + 1 : Nat) : Rat) ≠ 0 := by grind
    have hcancel : a / ((r.length + 1 : Nat) : Rat) * ((r.length + 1 : Nat) : Rat) = a := Rat.div_mul_cancel hne
    have hc := hh c List.mem_cons_self
    rw [List.pairwise_cons] at hs
    have h2 : a ≤ c + sumQ r := h2
    rw [List.length_cons] at h1
    unfold filledQ
    generalize hE : a / ((r.length + 1 : Nat) : Rat) = E at hcancel
    by_cases hlt : c < E
    · rw [if_pos hlt]
      have hmul : c * ((r.length + 1 : Nat) : Rat) ≤ E * ((r.length + 1 : Nat) : Rat) := Rat.mul_le_mul_of_nonneg_right (Rat.le_of_lt hlt) (Rat.le_of_lt hp)
      rw [hcancel, nat_succ, Rat.mul_add, Rat.mul_one] at hmul
      have hm : (r.length : Rat) * c ≤ a - c := by
        rw [Rat.mul_comm]
        grind
      obtain ⟨i1, i2⟩ := filled_ok r (a - c) c hs.2 (fun q hq => hs.1 q hq) hm (by grind)
      refine ⟨by grind, ?_⟩
      rw [List.map_cons]
      show (if filledQ r (a - c) c < c then filledQ r (a - c) c else c) + sumQ _ = a
      rw [if_neg (by grind), i2]
      grind
    · rw [if_neg hlt]
      have hle : E ≤ c := by grind
      have all : ∀ q ∈ c :: r, E ≤ q := fun q hq => by
        rcases List.mem_cons.mp hq with rfl | hq
        · exact hle
        · have := hs.1 q hq
          grind
      refine ⟨?_, ?_⟩
      · by_cases hb : h ≤ E
        · exact hb
        · have hm2 : E * ((r.length + 1 : Nat) : Rat) < h * ((r.length + 1 : Nat) : Rat) := Rat.mul_lt_mul_of_pos_right (by grind) hp
          rw [hcancel, Rat.mul_comm] at hm2
          grind
      · rw [cut_all all, List.length_cons, Rat.mul_comm, hcancel]
/-- the level of gains -/
def gainQ (qs : List Rat) (e : Rat) : Rat := filledQ (risingQ qs) e 0
theorem Est.gain {G B : Nat} {qs : List Rat} {e : Rat} (E : Est G B qs e) : F_gain_level [.list (qs.map rt), rt e] = .ok (rt (gainQ qs e)) := by
  have hb := E.hb8
  have hC : 8 * B + qs.length * B < 2 ^ 900 := by
    have h1 : qs.length * B ≤ 8 * B := Nat.mul_le_mul_right _ E.len
    have h2 : 2 ^ 404 ≤ 2 ^ 900 := pow2_le (by decide)
    have h3 : 2 ^ 404 = 2 * 2 ^ 403 := by rw [show 404 = 1 + 403 from rfl, Nat.pow_add]
    omega
  have hf := f_filled (qs := qs) (a := e) E.g (Nat.lt_of_lt_of_le E.hg (pow2_le (by decide))) (by have := E.len; omega) E.on E.oe hC (Nat.lt_of_lt_of_le E.hb (pow2_le (by decide)))
  simp [F_gain_level, Mn.run, d_gain_level, env0, E.check, hf, gainQ]
theorem gain_ok {qs : List Rat} {e : Rat} (nn : ∀ q ∈ qs, 0 ≤ q) (e0 : 0 ≤ e) (es : e ≤ sumQ qs) : 0 ≤ gainQ qs e ∧ sumQ (qs.map fun q => if gainQ qs e < q then gainQ qs e else q) = e := by
  have hp := risingQ_perm qs
  obtain ⟨h1, h2⟩ := filled_ok (risingQ qs) e 0 (risingQ_sorted qs) (fun q hq => nn q (hp.mem_iff.mp hq)) (by rw [Rat.mul_zero]; exact e0) (by rw [sumQ_perm hp]; exact es)
  refine ⟨h1, ?_⟩
  have h3 := sumQ_perm (hp.map fun q => if gainQ qs e < q then gainQ qs e else q)
  rw [← h3]
  exact h2
theorem Est.zgain {G B : Nat} {qs : List Rat} {e : Rat} (E : Est G B qs e) : Szn 1500 (gainQ qs e) := by
  have go : ∀ (r : List Rat) (a h : Rat) (C : Nat), (∀ q ∈ r, On G B q) → r.length < 1000 → On G C a → C + r.length * B < 2 ^ 900 → Szn 1500 h → Szn 1500 (filledQ r a h) := by
    intro r
    induction r with
    | nil => intro a h C _ _ _ _ hh; exact hh
    | cons c r ih =>
      intro a h C hon hl ha hC hh
      rw [List.length_cons] at hl hC
      have hB : B < 2 ^ 900 := Nat.lt_of_lt_of_le E.hb (pow2_le (by decide))
      have hG : G < 2 ^ 900 := Nat.lt_of_lt_of_le E.hg (pow2_le (by decide))
      have zc := ((hon c List.mem_cons_self).szn hG hB).mono (show 900 ≤ 1500 by decide)
      unfold filledQ
      split
      · exact ih (a - c) c (C + B) (fun q hq => hon q (List.mem_cons_of_mem _ hq)) (by omega) (ha.sub (hon c List.mem_cons_self)) (by rw [Nat.add_mul] at hC; omega) zc
      · have za := ha.szn hG (Nat.lt_of_le_of_lt (Nat.le_add_right _ _) hC)
        exact (za.quo (szn_nat (n := r.length + 1) (by omega)) (by have := nat_pos r.length; grind)).mono (by decide)
  have hp := risingQ_perm qs
  have hl := hp.length_eq
  have hb := E.hb8
  have hC : 8 * B + (risingQ qs).length * B < 2 ^ 900 := by
    rw [hl]
    have h1 : qs.length * B ≤ 8 * B := Nat.mul_le_mul_right _ E.len
    have h2 : 2 ^ 404 ≤ 2 ^ 900 := pow2_le (by decide)
    have h3 : 2 ^ 404 = 2 * 2 ^ 403 := by rw [show 404 = 1 + 403 from rfl, Nat.pow_add]
    omega
  exact go _ e 0 (8 * B) (fun q hq => E.on q (hp.mem_iff.mp hq)) (by have := E.len; omega) E.oe hC ⟨by show 0 < _; exact Nat.two_pow_pos _, by show 1 < _; exact Nat.one_lt_two_pow (by decide)⟩
/-- the level of losses, over the falling row -/
def emptiedQ : List Rat → Nat → Rat → Rat → Rat
  | [], _, _, h => h
  | c :: r, k, a, _ => if c - r.headD 0 < a / ((k + 1 : Nat) : Rat) then emptiedQ r (k + 1) (a - (c - r.headD 0) * ((k + 1 : Nat) : Rat)) c else c - a / ((k + 1 : Nat) : Rat)
theorem szn_natE {n : Nat} (h : n < 2 ^ 10) : Szn 10 (n : Rat) := ⟨by show (n : Int).natAbs < _; rw [Int.natAbs_natCast]; exact h, by show 1 < _; decide⟩
theorem tup_natE (n : Nat) : PyData.tuple [.int (n : Int), .int 1] = rt (n : Rat) := rfl
theorem on_nat {G B : Nat} {q : Rat} (h : On G B q) (n : Nat) : On G (B * n) (q * (n : Rat)) := by
  have h1 := on_div (n : Int) 1 (by decide)
  have e : Rat.divInt (n : Int) ((1 : Nat) : Int) = (n : Rat) := Rat.num_divInt_den (n : Rat)
  rw [e, Int.natAbs_natCast] at h1
  have h2 := h.mul h1
  rwa [Nat.mul_one] at h2
theorem natE_pos (n : Nat) : (0 : Rat) < ((n + 1 : Nat) : Rat) := by
  have h0 : (0 : Rat) ≤ (n : Rat) := Rat.num_nonneg.mp (by show (0 : Int) ≤ (n : Int); omega)
  have h1 : ((n + 1 : Nat) : Rat) = (n : Rat) + 1 := Rat.natCast_add n 1
  grind
theorem w_emptied (X : Option D) (row : List Rat) {G B : Nat} (g : 0 < G) (hG : G < 2 ^ 900) (hrow : row.length < 1000) (hon : ∀ q ∈ row, On G B q) : ∀ (r : List Rat) (i : Nat) (a h : Rat) (C : Nat) (x4 x5 x6 x7 x8 : Option D), row.drop i = r → On G C a → C + r.length * (2000 * B) < 2 ^ 900 → 2 * B < 2 ^ 900 →
    forO [4, 6, 5, 8, 7] [4, 5] true (denS B1_emptied) (enumD i (r.map rt)) [X, some (rt a), some (.list (row.map rt)), some (rt h), x4, x5, x6, x7, x8] = .ret (rt (emptiedQ r i a h)) ∨
    ∃ a', forO [4, 6, 5, 8, 7] [4, 5] true (denS B1_emptied) (enumD i (r.map rt)) [X, some (rt a), some (.list (row.map rt)), some (rt h), x4, x5, x6, x7, x8] = .next [X, some (rt a'), some (.list (row.map rt)), some (rt (emptiedQ r i a h)), none, none, none, none, none]
  | [], i, a, h, C, _, _, _, _, _, _, _, _, _ => .inr ⟨a, rfl⟩
  | c :: r, i, a, h, C, x4, x5, x6, x7, x8, hd, ha, hC, hB => by
    have hi : i < row.length := by
      by_cases hi : i < row.length
      · exact hi
      · rw [List.drop_of_length_le (by omega)] at hd; cases hd
    have hc : c ∈ row := by
      have : c ∈ row.drop i := by rw [hd]; exact List.mem_cons_self
      exact List.mem_of_mem_drop this
    have hlen : row.length = i + (r.length + 1) := by
      have := congrArg List.length hd
      rw [List.length_drop, List.length_cons] at this
      omega
    have hd' : row.drop (i + 1) = r := by rw [← List.drop_drop, hd]; rfl
    have hbel : On G B (r.headD 0) ∧ ((¬ (i : Int) + 1 < row.length ∧ PyData.tuple [.int 0, .int 1] = rt (r.headD 0)) ∨ ((i : Int) + 1 < row.length ∧ ixD (.list (row.map rt)) (.int ((i : Int) + 1)) = .ok (rt (r.headD 0)))) := by
      cases r with
      | nil =>
        refine ⟨(On.zero g).mono (by omega), .inl ⟨?_, rfl⟩⟩
        rw [List.length_nil] at hlen
        omega
      | cons b r2 =>
        have hb : row[i + 1]? = some b := by
          have := congrArg List.head? hd'
          rwa [List.head?_drop] at this
        refine ⟨hon b (List.mem_of_getElem? hb), .inr ⟨?_, ?_⟩⟩
        · rw [List.length_cons] at hlen
          omega
        · exact ix_nat (j := i + 1) (by rw [List.getElem?_map, hb]; rfl)
    obtain ⟨ob, hbel⟩ := hbel
    have oc := hon c hc
    have os := (oc.sub ob).mono (show B + B ≤ 2 * B by omega)
    have on := on_nat os (i + 1)
    have z1 : 2 * B * (i + 1) ≤ 2000 * B := by
      calc 2 * B * (i + 1) ≤ 2 * B * 1000 := Nat.mul_le_mul_left _ (by omega)
        _ = 2000 * B := by omega
    rw [List.length_cons, Nat.add_mul] at hC
    have B9 : B < 2 ^ 900 := by omega
    have zc := oc.szn hG B9
    have zb := ob.szn hG B9
    have zs := os.szn hG hB
    have za := ha.szn hG (by omega)
    have n0 : ((i + 1 : Nat) : Rat) ≠ 0 := by have := natE_pos i; grind
    have zn := szn_natE (n := i + 1) (by omega)
    have ho := f_over (za.sz (by decide)) (zn.sz (by decide)) n0
    have ze := (za.quo zn n0)
    have hl := f_less (zs.sz (by decide)) (ze.sz (by decide))
    have hm := f_minus (zc.sz (by decide)) (zb.sz (by decide))
    have hm2 := f_minus (zc.sz (by decide)) (ze.sz (by decide))
    have ht := f_times (zs.sz (by decide)) (zn.sz (by decide))
    have hm3 := f_minus (za.sz (by decide)) ((on.szn hG (by omega)).sz (by decide))
    have e2 : PyData.tuple [.int ((i : Int) + 1), .int 1] = rt ((i + 1 : Nat) : Rat) := tup_natE (i + 1)
    have ih := w_emptied X row g hG hrow hon r (i + 1) (a - (c - r.headD 0) * ((i + 1 : Nat) : Rat)) c (C + 2 * B * (i + 1)) none none none none none hd' (ha.sub on) (by omega) hB
    rw [List.map_cons]
    show (forO [4, 6, 5, 8, 7] [4, 5] true (denS B1_emptied) (.tuple [.int (i : Int), rt c] :: enumD (i + 1) (r.map rt)) _ = _) ∨ ∃ a', forO [4, 6, 5, 8, 7] [4, 5] true (denS B1_emptied) (.tuple [.int (i : Int), rt c] :: enumD (i + 1) (r.map rt)) _ = _
    rw [forO_cons]
    unfold emptiedQ
    generalize ((i + 1 : Nat) : Rat) = nq at *
    generalize r.headD 0 = bel at *
    by_cases hlt : c - bel < a / nq
    · rw [if_pos hlt]
      have t : wipeO [4, 6, 5, 8, 7] ((bindT [4, 5] true (.tuple [.int (i : Int), rt c]) (wipeE [X, some (rt a), some (.list (row.map rt)), some (rt h), x4, x5, x6, x7, x8] [4, 6, 5, 8, 7])).ot (denS B1_emptied)) = .next [X, some (rt (a - (c - bel) * nq)), some (.list (row.map rt)), some (rt c), none, none, none, none, none] := by
        rcases hbel with ⟨h1, h2⟩ | ⟨h1, h2⟩
        · simp [-tup01, B1_emptied, e2, ho, hl, hlt, hm, h1, h2, ht, hm3]
        · simp [B1_emptied, e2, ho, hl, hlt, hm, h1, h2, ht, hm3]
      rw [t]
      exact ih
    · rw [if_neg hlt]
      left
      rcases hbel with ⟨h1, h2⟩ | ⟨h1, h2⟩
      · simp [-tup01, B1_emptied, e2, ho, hl, hlt, hm, h1, h2, hm2]
      · simp [B1_emptied, e2, ho, hl, hlt, hm, h1, h2, hm2]
theorem f_emptied {G B C : Nat} {qs : List Rat} {a : Rat} (g : 0 < G) (hG : G < 2 ^ 900) (hl : qs.length < 1000) (hon : ∀ q ∈ qs, On G B q) (ha : On G C a) (hC : C + qs.length * (2000 * B) < 2 ^ 900) (hB : 2 * B < 2 ^ 900) : F_emptied [.list (qs.map rt), rt a] = .ok (rt (emptiedQ (risingQ qs).reverse 0 a 0)) := by
  have hp := risingQ_perm qs
  have hr := f_rising (fun q hq => ((hon q hq).szn hG (by omega)).sz (by decide)) hl
  have hlen := hp.length_eq
  have w := w_emptied (some (.list (qs.map rt))) (risingQ qs).reverse g hG (by rw [List.length_reverse]; omega) (fun q hq => hon q (hp.mem_iff.mp (List.mem_reverse.mp hq))) (risingQ qs).reverse 0 a 0 C none none none none none rfl ha (by rw [List.length_reverse, hlen]; exact hC) hB
  rw [List.map_reverse] at w
  generalize (risingQ qs).reverse = rv at w ⊢
  generalize risingQ qs = row at hr w
  rcases w with w | ⟨a', w⟩
  · simp [-List.map_reverse, F_emptied, Mn.run, d_emptied, env0, hr, I1_emptied, w]
  · simp [-List.map_reverse, F_emptied, Mn.run, d_emptied, env0, hr, I1_emptied, w]
/-- what a claim lies above a level -/
def aboveQ (q l : Rat) : Rat := if q < l then 0 else q - l
theorem above_nil {L : Rat} : ∀ {r : List Rat}, (∀ q ∈ r, q ≤ L) → sumQ (r.map fun q => aboveQ q L) = 0
  | [], _ => rfl
  | c :: r, h => by
    have h1 := h c List.mem_cons_self
    have ih := above_nil (L := L) (r := r) fun q hq => h q (List.mem_cons_of_mem _ hq)
    show aboveQ c L + sumQ _ = 0
    rw [ih]
    unfold aboveQ
    split <;> grind
theorem emptied_ok : ∀ (r : List Rat) (c : Rat) (k : Nat) (a h : Rat), (c :: r).Pairwise (fun x y => y ≤ x) → (∀ q ∈ c :: r, 0 ≤ q) → 0 ≤ a → a ≤ (k : Rat) * c + (c + sumQ r) →
    0 ≤ emptiedQ (c :: r) k a h ∧ emptiedQ (c :: r) k a h ≤ c ∧ (k : Rat) * (c - emptiedQ (c :: r) k a h) + sumQ ((c :: r).map fun q => aboveQ q (emptiedQ (c :: r) k a h)) = a := by
  intro r
  induction r with
  | nil =>
    intro c k a h hs hn ha hk
    have hp := natE_pos k
    have hks : ((k + 1 : Nat) : Rat) = (k : Rat) + 1 := Rat.natCast_add k 1
    have hcancel : a / ((k + 1 : Nat) : Rat) * ((k + 1 : Nat) : Rat) = a := Rat.div_mul_cancel (by grind)
    have hc := hn c List.mem_cons_self
    have hk : a ≤ (k : Rat) * c + (c + 0) := hk
    unfold emptiedQ
    show 0 ≤ (if c - 0 < a / ((k + 1 : Nat) : Rat) then _ else _) ∧ (if c - 0 < a / ((k + 1 : Nat) : Rat) then _ else _) ≤ c ∧ _
    generalize a / ((k + 1 : Nat) : Rat) = E at hcancel ⊢
    have e0 : 0 ≤ E := by
      by_cases h0 : 0 ≤ E
      · exact h0
      · have := Rat.mul_lt_mul_of_pos_right (a := E) (b := 0) (by grind) hp
        rw [hcancel, Rat.zero_mul] at this
        grind
    have hle : ¬ c - 0 < E := by
      intro hlt
      have := Rat.mul_lt_mul_of_pos_right (a := c) (b := E) (by grind) hp
      rw [hcancel, hks] at this
      grind
    have hle2 : ¬ c - ([] : List Rat).headD 0 < E := hle
    rw [if_neg hle2] at *
    refine ⟨by grind, by grind, ?_⟩
    show (k : Rat) * (c - (c - E)) + (aboveQ c (c - E) + 0) = a
    unfold aboveQ
    rw [if_neg (by grind)]
    rw [hks] at hcancel
    grind
  | cons b r ih =>
    intro c k a h hs hn ha hk
    have hp := natE_pos k
    have hks : ((k + 1 : Nat) : Rat) = (k : Rat) + 1 := Rat.natCast_add k 1
    have hcancel : a / ((k + 1 : Nat) : Rat) * ((k + 1 : Nat) : Rat) = a := Rat.div_mul_cancel (by grind)
    have hc := hn c List.mem_cons_self
    have hb := hn b (List.mem_cons_of_mem _ List.mem_cons_self)
    rw [List.pairwise_cons] at hs
    have hcb := hs.1 b List.mem_cons_self
    have hk : a ≤ (k : Rat) * c + (c + (b + sumQ r)) := hk
    have ih := ih b (k + 1) (a - (c - b) * ((k + 1 : Nat) : Rat)) c hs.2 (fun q hq => hn q (List.mem_cons_of_mem _ hq))
    unfold emptiedQ
    rw [show (b :: r).headD 0 = b from rfl]
    generalize hE : a / ((k + 1 : Nat) : Rat) = E at hcancel ⊢
    have e0 : 0 ≤ E := by
      by_cases h0 : 0 ≤ E
      · exact h0
      · have := Rat.mul_lt_mul_of_pos_right (a := E) (b := 0) (by grind) hp
        rw [hcancel, Rat.zero_mul] at this
        grind
    by_cases hlt : c - b < E
    · rw [if_pos hlt]
      have hm := Rat.mul_lt_mul_of_pos_right (a := c - b) (b := E) hlt hp
      rw [hcancel] at hm
      obtain ⟨i1, i2, i3⟩ := ih (by grind) (by rw [hks]; grind)
      generalize emptiedQ (b :: r) (k + 1) (a - (c - b) * ((k + 1 : Nat) : Rat)) c = L at i1 i2 i3
      refine ⟨i1, by grind, ?_⟩
      rw [List.map_cons]
      show (k : Rat) * (c - L) + (aboveQ c L + sumQ _) = a
      rw [hks] at i3
      rw [show aboveQ c L = c - L by unfold aboveQ; rw [if_neg (by grind)]]
      grind
    · rw [if_neg hlt]
      refine ⟨by grind, by grind, ?_⟩
      rw [List.map_cons]
      show (k : Rat) * (c - (c - E)) + (aboveQ c (c - E) + sumQ _) = a
      rw [above_nil (fun q hq => by
        rcases List.mem_cons.mp hq with rfl | hq
        · grind
        · have := (List.pairwise_cons.mp hs.2).1 q hq
          grind), show aboveQ c (c - E) = E by unfold aboveQ; rw [if_neg (by grind)]; grind]
      rw [hks] at hcancel
      grind
/-- the level of losses -/
def lossQ (qs : List Rat) (e : Rat) : Rat := emptiedQ (risingQ qs).reverse 0 e 0
theorem Est.loss {G B : Nat} {qs : List Rat} {e : Rat} (E : Est G B qs e) : F_loss_level [.list (qs.map rt), rt e] = .ok (rt (lossQ qs e)) := by
  have hb := E.hb8
  have hC : 8 * B + qs.length * (2000 * B) < 2 ^ 900 := by
    have h1 : qs.length * (2000 * B) ≤ 8 * (2000 * B) := Nat.mul_le_mul_right _ E.len
    have h2 : 2 ^ 420 ≤ 2 ^ 900 := pow2_le (by decide)
    have h3 : 2 ^ 420 = 2 ^ 17 * 2 ^ 403 := by rw [← Nat.pow_add]
    omega
  have hB : 2 * B < 2 ^ 900 := by
    have h2 : 2 ^ 403 ≤ 2 ^ 900 := pow2_le (by decide)
    omega
  have hf := f_emptied (qs := qs) (a := e) E.g (Nat.lt_of_lt_of_le E.hg (pow2_le (by decide))) (by have := E.len; omega) E.on E.oe hC hB
  simp [F_loss_level, Mn.run, d_loss_level, env0, E.check, hf, lossQ]
theorem loss_ok {qs : List Rat} {e : Rat} (nn : ∀ q ∈ qs, 0 ≤ q) (e0 : 0 ≤ e) (es : e ≤ sumQ qs) : 0 ≤ lossQ qs e ∧ sumQ (qs.map fun q => aboveQ q (lossQ qs e)) = e := by
  have hp := (List.reverse_perm (risingQ qs)).trans (risingQ_perm qs)
  have hs : (risingQ qs).reverse.Pairwise (fun x y => y ≤ x) := List.pairwise_reverse.mpr (risingQ_sorted qs)
  have h3 := sumQ_perm (hp.map fun q => aboveQ q (lossQ qs e))
  have h4 := sumQ_perm hp
  have hn : ∀ q ∈ (risingQ qs).reverse, 0 ≤ q := fun q hq => nn q (hp.mem_iff.mp hq)
  rw [← h3]
  rw [← h4] at es
  unfold lossQ
  generalize (risingQ qs).reverse = row at hs es hn
  cases row with
  | nil =>
    have es : e ≤ 0 := es
    exact ⟨Rat.le_refl, by show (0 : Rat) = e; grind⟩
  | cons c r =>
    have es : e ≤ c + sumQ r := es
    obtain ⟨i1, i2, i3⟩ := emptied_ok r c 0 e 0 hs hn e0 (by
      show e ≤ (0 : Rat) * c + _
      rw [Rat.zero_mul]
      grind)
    refine ⟨i1, ?_⟩
    have i3 : (0 : Rat) * _ + _ = e := i3
    rw [Rat.zero_mul, Rat.zero_add] at i3
    exact i3
theorem Est.zloss {G B : Nat} {qs : List Rat} {e : Rat} (E : Est G B qs e) : Szn 900 (lossQ qs e) := by
  have hG : G < 2 ^ 420 := Nat.lt_of_lt_of_le E.hg (pow2_le (by decide))
  have go : ∀ (r : List Rat) (k : Nat) (a h : Rat) (C : Nat), (∀ q ∈ r, On G B q) → k + r.length < 1000 → On G C a → C + r.length * (2000 * B) < 2 ^ 420 → 2 * B < 2 ^ 420 → Szn 900 h → Szn 900 (emptiedQ r k a h) := by
    intro r
    induction r with
    | nil => intro k a h C _ _ _ _ _ hh; exact hh
    | cons c r ih =>
      intro k a h C hon hl ha hC hB hh
      rw [List.length_cons] at hl hC
      rw [Nat.add_mul] at hC
      have oc := hon c List.mem_cons_self
      have zc := oc.szn hG (by omega)
      have za := ha.szn hG (by omega)
      have ob : On G B (r.headD 0) := by
        cases r with
        | nil => exact (On.zero E.g).mono (by omega)
        | cons b r2 => exact hon b (List.mem_cons_of_mem _ List.mem_cons_self)
      have on := on_nat ((oc.sub ob).mono (show B + B ≤ 2 * B by omega)) (k + 1)
      have z1 : 2 * B * (k + 1) ≤ 2000 * B := by
        calc 2 * B * (k + 1) ≤ 2 * B * 1000 := Nat.mul_le_mul_left _ (by omega)
          _ = 2000 * B := by omega
      unfold emptiedQ
      split
      · exact ih (k + 1) _ c (C + 2 * B * (k + 1)) (fun q hq => hon q (List.mem_cons_of_mem _ hq)) (by omega) (ha.sub on) (by omega) hB (zc.mono (by decide))
      · exact (zc.sub (za.quo (szn_natE (n := k + 1) (by omega)) (by have := natE_pos k; grind))).mono (by decide)
  have hp := (List.reverse_perm (risingQ qs)).trans (risingQ_perm qs)
  have hl := hp.length_eq
  have hb := E.hb8
  have hC : 8 * B + (risingQ qs).reverse.length * (2000 * B) < 2 ^ 420 := by
    rw [hl]
    have h1 : qs.length * (2000 * B) ≤ 8 * (2000 * B) := Nat.mul_le_mul_right _ E.len
    have h3 : 2 ^ 420 = 2 ^ 17 * 2 ^ 403 := by rw [← Nat.pow_add]
    omega
  have hB : 2 * B < 2 ^ 420 := by
    have h2 : 2 ^ 403 ≤ 2 ^ 420 := pow2_le (by decide)
    omega
  exact go _ 0 e 0 (8 * B) (fun q hq => E.on q (hp.mem_iff.mp hq)) (by have := E.len; omega) E.oe hC hB ⟨by show 0 < _; exact Nat.two_pow_pos _, by show 1 < _; exact Nat.one_lt_two_pow (by decide)⟩
def sharesQ (qs : List Rat) (e : Rat) : List Rat := if sumQ qs = 0 then qs.map fun _ => 0 else qs.map fun q => q * (e / sumQ qs)
theorem Est.in_shares {G B : Nat} {qs : List Rat} {e : Rat} (E : Est G B qs e) : F_in_shares [.list (qs.map rt), rt e] = .ok (.list ((sharesQ qs e).map rt)) := by
  have hl : qs.length ≤ sizeLine := by
    have := E.len
    have : sizeLine = 16777216 := rfl
    omega
  have zs := E.zs
  have ze := E.ze
  unfold sharesQ
  by_cases h : sumQ qs = 0
  · have hk : ∀ a3 a4, denE K1_in_shares [some (.list (qs.map rt)), some (rt e), a3, a4, none] = .ok (.list ((qs.map fun _ => (0 : Rat)).map rt)) := fun a3 a4 => by
      rw [List.map_map]
      exact comp_of (w := rt) (fun _ => rt 0) (by simp) hl fun q _ => by simp
    rw [if_pos h]
    have ht := E.total
    rw [h] at ht
    simp [-List.map_map, F_in_shares, Mn.run, d_in_shares, env0, E.check, ht, hk]
  · have ho := f_over (ze.sz (by decide)) (zs.sz (by decide)) h
    have zo := ze.quo zs h
    have hk : ∀ a3, denE K2_in_shares [some (.list (qs.map rt)), some (rt e), a3, some (rt (e / sumQ qs)), none] = .ok (.list ((qs.map fun q => q * (e / sumQ qs)).map rt)) := fun a3 => by
      rw [List.map_map]
      refine comp_of (w := rt) (fun q => rt (q * (e / sumQ qs))) (by simp) hl fun q hq => ?_
      have := f_times ((E.zq hq).sz (by decide)) (zo.sz (by decide))
      simp [this]
    rw [if_neg h]
    simp [-List.map_map, F_in_shares, Mn.run, d_in_shares, env0, E.check, E.total, h, ho, hk]
def gainsQ (qs : List Rat) (e : Rat) : List Rat := qs.map fun q => minQ q (gainQ qs e)
theorem Est.by_gains {G B : Nat} {qs : List Rat} {e : Rat} (E : Est G B qs e) : F_by_gains [.list (qs.map rt), rt e] = .ok (.list ((gainsQ qs e).map rt)) := by
  have hl : qs.length ≤ sizeLine := by
    have := E.len
    have : sizeLine = 16777216 := rfl
    omega
  have zg := E.zgain
  have hg := E.gain
  unfold gainsQ
  generalize gainQ qs e = L at zg hg
  have hk : denE K1_by_gains [some (.list (qs.map rt)), some (rt e), some (rt L), none] = .ok (.list ((qs.map fun q => minQ q L).map rt)) := by
    rw [List.map_map]
    refine comp_of (w := rt) (fun q => rt (minQ q L)) (by simp) hl fun q hq => ?_
    have := f_lesser ((E.zq hq).sz (by decide)) (zg.sz (by decide))
    simp [this]
  simp [-List.map_map, F_by_gains, Mn.run, d_by_gains, env0, hg, hk]
theorem f_above {q l : Rat} (hq : Sz q) (hl : Sz l) : F_above [rt q, rt l] = .ok (rt (aboveQ q l)) := by
  have h1 := f_less hq hl
  have h2 := f_minus hq hl
  unfold aboveQ
  by_cases h : q < l
  · simp [F_above, Mn.run, d_above, env0, h1, h]
  · simp [F_above, Mn.run, d_above, env0, h1, h2, h]
theorem aboveQ_nn {q l : Rat} : 0 ≤ aboveQ q l := by
  unfold aboveQ
  split
  · exact Rat.le_refl
  · grind
theorem aboveQ_szn {m n : Nat} {q l : Rat} (hq : Szn m q) (hl : Szn n l) : Szn (m + n + 1) (aboveQ q l) := by
  unfold aboveQ
  split
  · exact ⟨by show 0 < _; exact Nat.two_pow_pos _, by show 1 < _; exact Nat.one_lt_two_pow (by omega)⟩
  · exact hq.sub hl
theorem aboveQ_le {q l : Rat} (h0 : 0 ≤ q) (h1 : 0 ≤ l) : aboveQ q l ≤ q := by
  unfold aboveQ
  split <;> grind
theorem aboveQ_lack {q l : Rat} : q - aboveQ q l ≤ l := by
  unfold aboveQ
  split <;> grind
theorem aboveQ_pos {q l : Rat} (h : 0 < aboveQ q l) : q - aboveQ q l = l := by
  unfold aboveQ at h ⊢
  split
  · rename_i h'
    rw [if_pos h'] at h
    exact absurd h (by decide)
  · grind
def lossesQ (qs : List Rat) (e : Rat) : List Rat := qs.map fun q => aboveQ q (lossQ qs e)
theorem Est.by_losses {G B : Nat} {qs : List Rat} {e : Rat} (E : Est G B qs e) : F_by_losses [.list (qs.map rt), rt e] = .ok (.list ((lossesQ qs e).map rt)) := by
  have hl : qs.length ≤ sizeLine := by
    have := E.len
    have : sizeLine = 16777216 := rfl
    omega
  have zg := E.zloss
  have hg := E.loss
  unfold lossesQ
  generalize lossQ qs e = L at zg hg
  have hk : denE K1_by_losses [some (.list (qs.map rt)), some (rt e), some (rt L), none] = .ok (.list ((qs.map fun q => aboveQ q L).map rt)) := by
    rw [List.map_map]
    refine comp_of (w := rt) (fun q => rt (aboveQ q L)) (by simp) hl fun q hq => ?_
    have := f_above ((E.zq hq).sz (by decide)) (zg.sz (by decide))
    simp [this]
  simp [-List.map_map, F_by_losses, Mn.run, d_by_losses, env0, hg, hk]
/-- a half -/
def halfR : Rat := ⟨1, 2, by decide, by decide⟩
theorem tup_half : PyData.tuple [.int 1, .int 2] = rt halfR := rfl
theorem half_2 : halfR + halfR = 1 := by decide +kernel
theorem half_eq (q : Rat) : q * halfR + q * halfR = q := by
  rw [← Rat.mul_add, half_2, Rat.mul_one]
theorem on_half {G B : Nat} {q : Rat} (h : On G B q) : On (G * 2) B (q * halfR) := by
  have h1 := on_div 1 2 (by decide)
  have e : Rat.divInt 1 ((2 : Nat) : Int) = halfR := Rat.num_divInt_den halfR
  rw [e] at h1
  have h2 := h.mul h1
  rwa [show (1 : Int).natAbs = 1 from rfl, Nat.mul_one] at h2
theorem half_sum : ∀ qs : List Rat, sumQ (qs.map (· * halfR)) = sumQ qs * halfR
  | [] => by simp [sumQ, Rat.zero_mul]
  | q :: qs => by
    show q * halfR + sumQ _ = (q + sumQ qs) * halfR
    rw [half_sum qs, Rat.add_mul]
theorem zhalf : Szn 2 halfR := ⟨by decide, by decide⟩
theorem half_nn {q : Rat} (h : 0 ≤ q) : 0 ≤ q * halfR := Rat.mul_nonneg h (by decide +kernel)
/-- half the claims, over what is no more than half the total -/
theorem Est.half {G B : Nat} {qs : List Rat} {e m : Rat} (E : Est G B qs e) (hG : G * 2 < 2 ^ 400) (hB : 4 * B < 2 ^ 400) (om : On G (16 * B) m) (m0 : 0 ≤ m) (ms : m + m ≤ sumQ qs) : Est (G * 2) (4 * B) (qs.map (· * halfR)) m := by
  refine ⟨by have := E.g; omega, fun q hq => ?_, (om.up 2 (by decide)).mono (by omega), hG, hB, by rw [List.length_map]; exact E.len, fun q hq => ?_, m0, ?_⟩
  · obtain ⟨p, hp, rfl⟩ := List.mem_map.mp hq
    exact (on_half (E.on p hp)).mono (by omega)
  · obtain ⟨p, hp, rfl⟩ := List.mem_map.mp hq
    exact half_nn (E.nn p hp)
  · rw [half_sum]
    have := half_eq (sumQ qs)
    grind
theorem zip_map {α : Type} (f g : α → D) : ∀ l : List α, zipD (l.map f) (l.map g) = l.map fun a => .tuple [f a, g a]
  | [] => rfl
  | a :: l => by
    show PyData.tuple [f a, g a] :: zipD (l.map f) (l.map g) = _
    rw [zip_map f g l]
    rfl
def halvesQ (qs : List Rat) : List Rat := qs.map (· * halfR)
/-- what is parted by half claims: the estate, or what it lacks -/
def evenQ (qs : List Rat) (e : Rat) : Rat := if sumQ qs - e < e then sumQ qs - e else e
def partH (qs : List Rat) (e : Rat) (q : Rat) : Rat := minQ (q * halfR) (gainQ (halvesQ qs) (evenQ qs e))
def byHalvesQ (qs : List Rat) (e : Rat) : List Rat := qs.map fun q => if sumQ qs - e < e then q - partH qs e q else partH qs e q
theorem Est.even {G B : Nat} {qs : List Rat} {e : Rat} (E : Est G B qs e) (hG : G * 2 < 2 ^ 400) (hB : 4 * B < 2 ^ 400) : Est (G * 2) (4 * B) (halvesQ qs) (evenQ qs e) := by
  unfold evenQ
  have h0 := E.e0
  have h1 := E.es
  split
  · exact E.half hG hB ((E.os.sub E.oe).mono (by omega)) (by grind) (by grind)
  · exact E.half hG hB (E.oe.mono (by omega)) h0 (by grind)
theorem Est.by_halves {G B : Nat} {qs : List Rat} {e : Rat} (E : Est G B qs e) (hG : G * 2 < 2 ^ 400) (hB : 4 * B < 2 ^ 400) : F_by_halves [.list (qs.map rt), rt e] = .ok (.list ((byHalvesQ qs e).map rt)) := by
  have hl : qs.length ≤ sizeLine := by
    have := E.len
    have : sizeLine = 16777216 := rfl
    omega
  have H := E.even hG hB
  have hk := E.lack
  have ze := E.ze
  have zm := (E.os.sub E.oe).mono (show 8 * B + 8 * B ≤ 16 * B by omega)
  have zm : Szn 500 (sumQ qs - e) := zm.szn (Nat.lt_of_lt_of_le E.hg (pow2_le (by decide))) (by
    have := E.hb8
    have h2 : 2 ^ 405 ≤ 2 ^ 500 := pow2_le (by decide)
    have h3 : 2 ^ 405 = 2 ^ 2 * 2 ^ 403 := by rw [← Nat.pow_add]
    omega)
  have hls := f_less (zm.sz (by decide)) (ze.sz (by decide))
  have hk1 : ∀ a1 a2 a3 a4 a6, denE K1_by_halves [some (.list (qs.map rt)), a1, a2, a3, a4, none, a6] = .ok (.list ((halvesQ qs).map rt)) := fun a1 a2 a3 a4 a6 => by
    unfold halvesQ
    rw [List.map_map]
    refine comp_of (w := rt) (fun q => rt (q * halfR)) (by simp) hl fun q hq => ?_
    have := f_times ((E.zq hq).sz (by decide)) (zhalf.sz (by decide))
    simp [tup_half, this]
  have hg := H.by_gains
  have hg2 : (gainsQ (halvesQ qs) (evenQ qs e)) = qs.map fun q => partH qs e q := by
    unfold gainsQ halvesQ
    rw [List.map_map]
    rfl
  rw [hg2] at hg
  have zp : ∀ q ∈ qs, Szn 1500 (partH qs e q) := fun q hq => by
    have h1 := H.zgain
    have h2 : Szn 1500 (q * halfR) := ((E.zq hq).mul zhalf).mono (by decide)
    unfold partH minQ
    split <;> assumption
  have hk2 : denE K2_by_halves [some (.list (qs.map rt)), some (rt e), some (rt (sumQ qs - e)), some (.list ((halvesQ qs).map rt)), some (.list ((qs.map fun q => partH qs e q).map rt)), none, none] = .ok (.list ((qs.map fun q => q - partH qs e q).map rt)) := by
    rw [List.map_map, List.map_map]
    refine comp_of (w := fun q => .tuple [rt q, rt (partH qs e q)]) (fun q => rt (q - partH qs e q)) ?_ hl fun q hq => ?_
    · rw [← zip_map]
      simp [-List.map_map]
      rfl
    · have := f_minus ((E.zq hq).sz (by decide)) ((zp q hq).sz (by decide))
      simp [this]
  unfold byHalvesQ
  unfold evenQ at hg
  by_cases h : sumQ qs - e < e
  · rw [if_pos h] at hg
    simp only [if_pos h]
    simp [-List.map_map, F_by_halves, Mn.run, d_by_halves, env0, hk, hk1, hls, h, hg, hk2]
  · rw [if_neg h] at hg
    simp only [if_neg h]
    simp [-List.map_map, F_by_halves, Mn.run, d_by_halves, env0, hk, hk1, hls, h, hg]
theorem halves_ok {G B : Nat} {qs : List Rat} {e : Rat} (E : Est G B qs e) (hG : G * 2 < 2 ^ 400) (hB : 4 * B < 2 ^ 400) : (∀ q ∈ qs, 0 ≤ partH qs e q ∧ partH qs e q ≤ q * halfR ∧ Szn 1500 (partH qs e q)) ∧ sumQ (byHalvesQ qs e) = e := by
  have H := E.even hG hB
  obtain ⟨L0, hs⟩ := gain_ok H.nn H.e0 H.es
  have hs : sumQ ((halvesQ qs).map fun q => minQ q (gainQ (halvesQ qs) (evenQ qs e))) = evenQ qs e := hs
  have e1 : ((halvesQ qs).map fun q => minQ q (gainQ (halvesQ qs) (evenQ qs e))) = qs.map fun q => partH qs e q := by
    unfold halvesQ
    rw [List.map_map]
    rfl
  rw [e1] at hs
  have sub : ∀ l : List Rat, sumQ (l.map fun q => q - partH qs e q) = sumQ l - sumQ (l.map fun q => partH qs e q) := by
    intro l
    induction l with
    | nil => exact (by decide +kernel : (0 : Rat) = 0 - 0)
    | cons q l ih =>
      show (q - partH qs e q) + sumQ _ = (q + sumQ l) - (partH qs e q + sumQ _)
      rw [ih]
      grind
  refine ⟨fun q hq => ?_, ?_⟩
  · have h1 := H.zgain
    have h2 : Szn 1500 (q * halfR) := ((E.zq hq).mul zhalf).mono (by decide)
    have h3 := half_nn (E.nn q hq)
    unfold partH minQ
    split
    · rename_i h
      exact ⟨L0, Rat.le_of_lt h, h1⟩
    · exact ⟨h3, Rat.le_refl, h2⟩
  · unfold byHalvesQ
    unfold evenQ at hs
    by_cases h : sumQ qs - e < e
    · simp only [if_pos h]
      rw [if_pos h] at hs
      rw [sub qs, hs]
      grind
    · simp only [if_neg h]
      rw [if_neg h] at hs
      exact hs
theorem f_orders_of (n : Nat) (hn : n ≤ 8) : F_orders_of [.int n] = .ok (.int (factN n)) := by
  have h : n = 0 ∨ n = 1 ∨ n = 2 ∨ n = 3 ∨ n = 4 ∨ n = 5 ∨ n = 6 ∨ n = 7 ∨ n = 8 := by omega
  rcases h with rfl | rfl | rfl | rfl | rfl | rfl | rfl | rfl | rfl <;> rfl
theorem band_nat (a b : Nat) : Builtin.bitAnd (a : Int) (b : Int) = ((a &&& b : Nat) : Int) := by
  unfold Builtin.bitAnd
  rw [decide_eq_true (Int.natCast_nonneg a), decide_eq_true (Int.natCast_nonneg b)]
  rfl
theorem band_1 (a : Nat) : Builtin.bitAnd (a : Int) 1 = ((a % 2 : Nat) : Int) := by
  have h := band_nat a 1
  rwa [Nat.and_one_is_mod] at h
/-- how many bits are set -/
def popN (n : Nat) : Nat := if h : n = 0 then 0 else n % 2 + popN (n / 2)
termination_by n
theorem popN_0 : popN 0 = 0 := by unfold popN; simp
theorem popN_s {n : Nat} (h : n ≠ 0) : popN n = n % 2 + popN (n / 2) := by rw [popN, dif_neg h]
theorem w_count_in : ∀ (fuel g k : Nat), g < fuel → whlO [] (fun ρ => denE C1_count_in ρ >>= asBool) (denS B1_count_in) fuel [some (.int (g : Int)), some (.int (k : Int))] = .next [some (.int 0), some (.int ((k + popN g : Nat) : Int))]
  | 0, g, k, h => by omega
  | fuel + 1, g, k, h => by
    by_cases h0 : g = 0
    · subst h0
      simp [whlO, C1_count_in, popN_0]
    · have ih := w_count_in fuel (g / 2) (k + g % 2) (by omega)
      rw [popN_s h0, ← Nat.add_assoc, ← ih]
      have hp : 0 < g := by omega
      simp [whlO, C1_count_in, B1_count_in, hp, band_1]
theorem f_count_in (g : Nat) (h : g < 1000) : F_count_in [.int g] = .ok (.int (popN g : Nat)) := by
  have w := w_count_in (fuelE [some (.int (g : Int)), some (.int 0)]) g 0 (by simp [fuelE, sizeD1]; omega)
  rw [Nat.zero_add] at w
  have w : whlO [] (fun ρ => denE C1_count_in ρ >>= asBool) (denS B1_count_in) (fuelE [some (.int (g : Int)), some (.int 0)]) [some (.int (g : Int)), some (.int 0)] = _ := w
  simp [F_count_in, Mn.run, d_count_in, env0, w]
/-- what is left after the group g has taken its claims -/
def rAt (qs : List Rat) (e : Rat) (g : Nat) : Rat := if h : g = 0 then e else clipQ (rAt qs e (g - 2 ^ g.log2) - qs.getD g.log2 0)
termination_by g
decreasing_by
  have : 0 < 2 ^ g.log2 := Nat.two_pow_pos _
  omega
theorem rAt_0 (qs : List Rat) (e : Rat) : rAt qs e 0 = e := by rw [rAt]; simp
theorem rAt_s (qs : List Rat) (e : Rat) {g : Nat} (h : g ≠ 0) : rAt qs e g = clipQ (rAt qs e (g - 2 ^ g.log2) - qs.getD g.log2 0) := by rw [rAt, dif_neg h]
theorem bitNot_2 (x : Int) : Builtin.bitNot (Builtin.bitNot x) = x := by
  show -(-x - 1) - 1 = x
  omega
theorem bor_nat (a b : Nat) : Builtin.bitOr (a : Int) (b : Int) = ((a ||| b : Nat) : Int) := by
  have h : ∀ a : Nat, ¬ 0 ≤ Builtin.bitNot (a : Int) := fun a => by
    show ¬ 0 ≤ -(a : Int) - 1
    omega
  unfold Builtin.bitOr
  unfold Builtin.bitAnd
  rw [decide_eq_false (h a), decide_eq_false (h b)]
  show Builtin.bitNot (Builtin.bitNot _) = _
  rw [bitNot_2, bitNot_2, bitNot_2]
  rfl
theorem bxor_top {g : Nat} (h : g ≠ 0) : Builtin.bitXor (g : Int) ((2 ^ g.log2 : Nat) : Int) = ((g - 2 ^ g.log2 : Nat) : Int) := by
  have ht := Nat.testBit_log2 h
  have hle := Nat.log2_self_le h
  have e1 : g ||| 2 ^ g.log2 = g := Nat.eq_of_testBit_eq fun i => by
    rw [Nat.testBit_or, Nat.testBit_two_pow]
    by_cases hi : g.log2 = i
    · rw [← hi, ht]; simp
    · simp [hi]
  have e2 : g &&& 2 ^ g.log2 = 2 ^ g.log2 := Nat.eq_of_testBit_eq fun i => by
    rw [Nat.testBit_and, Nat.testBit_two_pow]
    by_cases hi : g.log2 = i
    · rw [← hi, ht]; simp
    · simp [hi]
  unfold Builtin.bitXor
  rw [bor_nat, band_nat, e1, e2]
  omega
theorem bits_nat {g : Nat} (h : g ≠ 0) : Builtin.Int.intBits (g : Int) = g.log2 + 1 := by
  simp [Builtin.Int.intBits, h]
theorem t_rests (qs : List Rat) (e : Rat) (g : Nat) (h0 : g ≠ 0) (hg : g < 2 ^ qs.length) (hl : qs.length ≤ 8) (zr : ∀ g, g < 2 ^ qs.length → Szn 900 (rAt qs e g)) (zq : ∀ q ∈ qs, Szn 900 q) (x4 x5 : Option D) :
    wipeO [3, 4, 5] (denS B1_rests [some (.list (qs.map rt)), some (rt e), some (.list ((List.range g).map fun i => rt (rAt qs e i))), some (.int (g : Int)), x4, x5]) = .next [some (.list (qs.map rt)), some (rt e), some (.list ((List.range (g + 1)).map fun i => rt (rAt qs e i))), none, none, none] := by
  have hlg : g.log2 < qs.length := (Nat.log2_lt h0).mpr hg
  have hp : 0 < 2 ^ g.log2 := Nat.two_pow_pos _
  have hle := Nat.log2_self_le h0
  have hgd : qs.getD g.log2 0 = qs[g.log2] := by simp [hlg]
  have i1 : ixD (.list (qs.map rt)) (.int (g.log2 : Int)) = .ok (rt (qs.getD g.log2 0)) := ix_nat (by simp [hlg])
  have i2 : ixD (.list ((List.range g).map fun i => rt (rAt qs e i))) (.int ((g - 2 ^ g.log2 : Nat) : Int)) = .ok (rt (rAt qs e (g - 2 ^ g.log2))) := ix_nat (by
    rw [List.getElem?_map, List.getElem?_range (by omega)]
    rfl)
  have hx := bxor_top h0
  have zq' : Szn 900 (qs.getD g.log2 0) := by
    rw [hgd]
    exact zq _ (List.getElem_mem hlg)
  have hm := f_minus ((zr (g - 2 ^ g.log2) (by omega)).sz (by decide)) (zq'.sz (by decide))
  have hb := bits_nat h0
  have hr := rAt_s qs e h0
  have e1 : (((g.log2 + 1 : Nat) : Int)) - 1 = (g.log2 : Int) := by omega
  have hsz : g < sizeLine := by
    have h1 : 2 ^ qs.length ≤ 2 ^ 8 := Nat.pow_le_pow_right (by decide) hl
    have : sizeLine = 16777216 := rfl
    omega
  have e3 : ((1 : Int) * 2 ^ ((g.log2 : Nat) : Int).toNat) = ((2 ^ g.log2 : Nat) : Int) := by
    rw [Int.toNat_natCast, Int.one_mul]
    exact (two_pow_cast _).symm ▸ rfl
  have hsh : bop .shl (.int 1) (.int (g.log2 : Int)) = .ok (.int ((2 ^ g.log2 : Nat) : Int)) := by
    rw [ev_shl, if_pos ⟨by omega, by rw [bits_1, Int.toNat_natCast]; omega⟩, e3]
  have hxo : bop .bxor (.int (g : Int)) (.int ((2 ^ g.log2 : Nat) : Int)) = .ok (.int ((g - 2 ^ g.log2 : Nat) : Int)) := by
    rw [ev_bxor, hx]
  have hbi : biD .bits (.int (g : Int)) = .ok (.int ((g.log2 + 1 : Nat) : Int)) := by rw [ev_bits, hb]
  rw [List.range_succ, List.map_append, List.map_cons, List.map_nil, hr]
  generalize rAt qs e (g - 2 ^ g.log2) = r at *
  generalize qs.getD g.log2 0 = c at *
  have hls : ((List.range g).map fun i => rt (rAt qs e i)).length = g := by rw [List.length_map, List.length_range]
  generalize ((List.range g).map fun i => rt (rAt qs e i)) = ls at *
  generalize ((g - 2 ^ g.log2 : Nat) : Int) = d at *
  generalize ((2 ^ g.log2 : Nat) : Int) = pw at *
  have hlen : ls.length < sizeLine := by rw [hls]; exact hsz
  by_cases hn : r - c < 0
  · have hn' : (r - c).num < 0 := num_neg_iff.mpr hn
    have hc : clipQ (r - c) = 0 := by unfold clipQ; rw [if_pos hn]
    rw [hc]
    simp [-List.map_map, -ev_bits, -ev_shl, -ev_bxor, B1_rests, hbi, e1, hsh, hxo, i1, i2, hm, hn', hlen]
  · have hn' : ¬ (r - c).num < 0 := fun z => hn (num_neg_iff.mp z)
    have hc : clipQ (r - c) = r - c := by unfold clipQ; rw [if_neg hn]
    rw [hc]
    simp [-List.map_map, -ev_bits, -ev_shl, -ev_bxor, B1_rests, hbi, e1, hsh, hxo, i1, i2, hm, hn', hlen]
theorem rAt_on {G B C : Nat} {qs : List Rat} {e : Rat} (g0 : 0 < G) (hq : ∀ q ∈ qs, On G B q) (he : On G C e) : ∀ L g, g < 2 ^ L → On G (C + L * B) (rAt qs e g) := by
  intro L
  induction L with
  | zero =>
    intro g hg
    have : g = 0 := by simpa using hg
    rw [this, rAt_0]
    exact he.mono (by omega)
  | succ L ih =>
    intro g hg
    by_cases h0 : g = 0
    · rw [h0, rAt_0]
      exact he.mono (by omega)
    · have hle := Nat.log2_self_le h0
      have hlt := (Nat.log2_lt h0).mpr hg
      have hs := (Nat.log2_lt h0).mp (Nat.lt_succ_self g.log2)
      have hpl : 2 ^ g.log2 ≤ 2 ^ L := Nat.pow_le_pow_right (by decide) (by omega)
      have h1 := ih (g - 2 ^ g.log2) (by
        rw [Nat.pow_succ] at hs
        omega)
      rw [rAt_s qs e h0]
      have hc : On G B (qs.getD g.log2 0) := by
        rw [List.getD_eq_getElem?_getD]
        cases hx : qs[g.log2]? with
        | none => exact (On.zero g0).mono (by omega)
        | some q => exact hq q (List.mem_of_getElem? hx)
      unfold clipQ
      split
      · exact (On.zero g0).mono (by omega)
      · refine (h1.sub hc).mono ?_
        rw [Nat.add_mul]
        omega
theorem f_rests {qs : List Rat} {e : Rat} (hl : qs.length ≤ 8) (zr : ∀ g, g < 2 ^ qs.length → Szn 900 (rAt qs e g)) (zq : ∀ q ∈ qs, Szn 900 q) : F_rests [.list (qs.map rt), rt e] = .ok (.list ((List.range (2 ^ qs.length)).map fun g => rt (rAt qs e g))) := by
  have h8 : 2 ^ qs.length ≤ 2 ^ 8 := Nat.pow_le_pow_right (by decide) hl
  have hp : 0 < 2 ^ qs.length := Nat.two_pow_pos _
  have loop := for_acc (fg := [3, 4, 5]) (tg := [3]) (tup := false) (body := denS B1_rests) (fun i => [some (.list (qs.map rt)), some (rt e), some (.list ((List.range (i + 1)).map fun i => rt (rAt qs e i))), none, none, none]) (rgL 1 (2 ^ qs.length - 1))
    (fun i d hd => by
      unfold rgL at hd
      rw [List.getElem?_map] at hd
      cases hx : (List.range (2 ^ qs.length - 1))[i]? with
      | none => rw [hx] at hd; cases hd
      | some j =>
        rw [hx] at hd
        obtain ⟨hj, ej⟩ := List.getElem?_eq_some_iff.mp hx
        rw [List.getElem_range] at ej
        subst ej
        rw [List.length_range] at hj
        cases hd
        have h := t_rests qs e (i + 1) (by omega) (by omega) hl zr zq none none
        rw [bt_1]
        have e1 : (fun (i : Nat) => PyData.int (1 + (i : Int))) i = PyData.int ((i + 1 : Nat) : Int) := by
          show PyData.int _ = _
          congr 1
          omega
        rw [e1]
        exact h) (fun i => rfl) [some (.list (qs.map rt)), some (rt e), some (.list [rt e]), none, none, none] (by
          show [some (PyData.list (qs.map rt)), some (rt e), some (.list [rt e]), none, none, none] = [_, _, some (.list [rt (rAt qs e 0)]), _, _, _]
          rw [rAt_0])
  have hlen : (rgL 1 (2 ^ qs.length - 1)).length + 1 = 2 ^ qs.length := by
    unfold rgL
    rw [List.length_map, List.length_range]
    omega
  simp only [hlen] at loop
  have hsh : bop .shl (.int 1) (.int (qs.length : Int)) = .ok (.int ((2 ^ qs.length : Nat) : Int)) := by
    rw [ev_shl, if_pos ⟨by omega, by rw [bits_1, Int.toNat_natCast]; omega⟩, Int.toNat_natCast, Int.one_mul]
    congr 2
  have hI : denI I1_rests [some (.list (qs.map rt)), some (rt e), some (.list [rt e]), none, none, none] = .ok (rgL 1 (2 ^ qs.length - 1)) := by
    have h1 : ((2 ^ qs.length : Nat) : Int) - 1 = ((2 ^ qs.length - 1 : Nat) : Int) := by omega
    have h2 : (((2 ^ qs.length : Nat) : Int) - 1).toNat = 2 ^ qs.length - 1 := by omega
    have h3 : small62 ((2 ^ qs.length : Nat) : Int) = true := sm62_nat (by omega)
    have h4 : small62 1 = true := by decide
    generalize ((2 ^ qs.length : Nat) : Int) = pw at *
    simp [-List.map_map, -ev_shl, I1_rests, hsh, h3, h4, h2]
  generalize rgL 1 (2 ^ qs.length - 1) = rg at *
  generalize ((List.range (2 ^ qs.length)).map fun g => rt (rAt qs e g)) = res at *
  simp [-List.map_map, F_rests, Mn.run, d_rests, env0, hI, loop]
/-- what a group adds to who's sum -/
def termQ (qs : List Rat) (e : Rat) (who g : Nat) : Rat := if g.testBit who then 0 else wt (qs.length - 1) (popN g) * minQ (qs.getD who 0) (rAt qs e g)
theorem bit_nat (g who : Nat) : Builtin.bitAnd ((g : Int) / 2 ^ who) 1 = if g.testBit who then 1 else 0 := by
  have h1 : (g : Int) / 2 ^ who = ((g / 2 ^ who : Nat) : Int) := by
    rw [Int.natCast_ediv]
    congr 1
  rw [h1, band_1, Nat.testBit_eq_decide_div_mod_eq]
  have : g / 2 ^ who % 2 = 0 ∨ g / 2 ^ who % 2 = 1 := by omega
  rcases this with h | h <;> simp [h]
theorem popN_add {n g : Nat} (h : g < 2 ^ n) : popN (2 ^ n + g) = popN g + 1 := by
  induction n generalizing g with
  | zero =>
    have : g = 0 := by simpa using h
    subst this
    rw [popN_s (by decide), popN_0]
    first | done | rfl | simp [popN_0]
  | succ n ih =>
    rw [Nat.pow_succ] at h ⊢
    rw [popN_s (by have := Nat.two_pow_pos n; omega)]
    have e1 : (2 ^ n * 2 + g) % 2 = g % 2 := by omega
    have e2 : (2 ^ n * 2 + g) / 2 = 2 ^ n + g / 2 := by omega
    rw [e1, e2, ih (by omega)]
    by_cases h0 : g = 0
    · subst h0
      first | done | rfl | simp
    · rw [popN_s h0]
      omega
theorem popN_le {n : Nat} : ∀ {g : Nat}, g < 2 ^ n → popN g ≤ n := by
  induction n with
  | zero =>
    intro g h
    have : g = 0 := by simpa using h
    subst this
    rw [popN_0]
    exact Nat.le_refl _
  | succ n ih =>
    intro g h
    by_cases h0 : g = 0
    · subst h0
      rw [popN_0]
      omega
    · rw [popN_s h0]
      rw [Nat.pow_succ] at h
      have := ih (g := g / 2) (by omega)
      omega
/-- one who is not in the group -/
theorem popN_lt {n who : Nat} : ∀ {g : Nat}, g < 2 ^ n → who < n → g.testBit who = false → popN g + 1 ≤ n := by
  induction n generalizing who with
  | zero => intro g _ h; omega
  | succ n ih =>
    intro g h hw hb
    by_cases h0 : g = 0
    · subst h0
      rw [popN_0]
      omega
    · rw [popN_s h0]
      rw [Nat.pow_succ] at h
      cases who with
      | zero =>
        rw [Nat.testBit_zero] at hb
        have := popN_le (n := n) (g := g / 2) (by omega)
        have hb := of_decide_eq_false hb
        omega
      | succ w =>
        rw [Nat.testBit_succ] at hb
        have := ih (g := g / 2) (by omega) (by omega) hb
        omega
theorem t_average_of (qs : List Rat) (e : Rat) (who g : Nat) (hw : who < qs.length) (hl : qs.length ≤ 8) (hg : g < 2 ^ qs.length) (f : Rat) (zf : Szn 900 f) (zq : ∀ q ∈ qs, Szn 900 q) (zr : Szn 900 (rAt qs e g)) (A : Option D) :
    wipeO [7, 5, 6, 8] ((bindT [5, 6] true (.tuple [.int (g : Int), rt (rAt qs e g)]) [some (.list (qs.map rt)), A, some (.int (who : Int)), some (.int (qs.length : Int)), some (rt f), none, none, none, none]).ot (denS B1_average_of)) =
      .next [some (.list (qs.map rt)), A, some (.int (who : Int)), some (.int (qs.length : Int)), some (rt (f + termQ qs e who g)), none, none, none, none] := by
  have hb := bit_nat g who
  have hsr : bop .shr (.int (g : Int)) (.int (who : Int)) = .ok (.int ((g : Int) / 2 ^ who)) := by
    rw [ev_shr, if_pos (by omega), Int.toNat_natCast]
  have h256 : g < 1000 := by
    have : 2 ^ qs.length ≤ 2 ^ 8 := Nat.pow_le_pow_right (by decide) hl
    omega
  unfold termQ
  by_cases hbit : g.testBit who
  · rw [if_pos hbit] at hb
    rw [if_pos hbit, show f + 0 = f by grind]
    generalize (g : Int) / 2 ^ who = z at hb hsr
    simp [-ev_shr, B1_average_of, hsr, hb]
  · rw [if_neg hbit] at hb
    rw [if_neg hbit]
    have hbf : g.testBit who = false := by simpa using hbit
    have hp := popN_lt hg hw hbf
    have hc := f_count_in g h256
    have o1 := f_orders_of (popN g) (by omega)
    have o2 := f_orders_of (qs.length - 1 - popN g) (by omega)
    have e1 : (qs.length : Int) - 1 - (popN g : Nat) = ((qs.length - 1 - popN g : Nat) : Int) := by omega
    have hgd : qs.getD who 0 = qs[who] := by simp [hw]
    have i1 : ixD (.list (qs.map rt)) (.int (who : Int)) = .ok (rt (qs.getD who 0)) := ix_nat (by simp [hw])
    have zc : Szn 900 (qs.getD who 0) := by rw [hgd]; exact zq _ (List.getElem_mem hw)
    have hm := f_lesser (zc.sz (by decide)) (zr.sz (by decide))
    have zm : Szn 900 (minQ (qs.getD who 0) (rAt qs e g)) := by
      unfold minQ
      split <;> assumption
    have big : ∀ n, n ≤ 8 → factN n ≤ 40320 := fun n hn => by
      have h : n = 0 ∨ n = 1 ∨ n = 2 ∨ n = 3 ∨ n = 4 ∨ n = 5 ∨ n = 6 ∨ n = 7 ∨ n = 8 := by omega
      rcases h with rfl | rfl | rfl | rfl | rfl | rfl | rfl | rfl | rfl <;> decide
    have b1 := big (popN g) (by omega)
    have b2 := big (qs.length - 1 - popN g) (by omega)
    have mk : mulOk (factN (popN g) : Nat) (factN (qs.length - 1 - popN g) : Nat) = true := mulOk_r (by omega)
    have hwt : factN (popN g) * factN (qs.length - 1 - popN g) ≤ 40320 * 40320 := Nat.mul_le_mul b1 b2
    have zw : Szn 40 (wt (qs.length - 1) (popN g)) := by
      unfold wt
      exact ⟨by rw [Rat.num_natCast, Int.natAbs_natCast]; omega, by rw [Rat.den_natCast]; decide⟩
    have tw : PyData.tuple [.int ((factN (popN g) : Nat) * (factN (qs.length - 1 - popN g) : Nat) : Int), .int 1] = rt (wt (qs.length - 1) (popN g)) := by
      unfold wt rt
      rw [Rat.num_natCast, Rat.den_natCast, Int.natCast_mul]
      rfl
    have ht := f_times (zm.sz (by decide)) (zw.sz (by decide))
    have zt := zm.mul zw
    have hpl := f_plus (zf.sz (by decide)) (zt.sz (by decide))
    rw [Rat.mul_comm (minQ _ _)] at ht hpl
    generalize (g : Int) / 2 ^ who = z at hb hsr
    generalize minQ (qs.getD who 0) (rAt qs e g) = mm at *
    generalize wt (qs.length - 1) (popN g) = ww at *
    generalize qs.getD who 0 = cw at *
    generalize rAt qs e g = rr at *
    simp [-ev_shr, B1_average_of, hsr, hb, hc, o1, e1, o2, mk, tw, i1, hm, ht, hpl]
theorem term_on {G B : Nat} {qs : List Rat} {e : Rat} (g0 : 0 < G) (hq : ∀ q ∈ qs, On G B q) (hl : qs.length ≤ 8) (he : On G (8 * B) e) (who g : Nat) (hw : who < qs.length) (hg : g < 2 ^ qs.length) : On G (2 ^ 40 * B) (termQ qs e who g) := by
  unfold termQ
  split
  · exact (On.zero g0).mono (by omega)
  · rename_i hbit
    have hbf : g.testBit who = false := by simpa using hbit
    have hp := popN_lt hg hw hbf
    have big : ∀ n, n ≤ 8 → factN n ≤ 40320 := fun n hn => by
      have h : n = 0 ∨ n = 1 ∨ n = 2 ∨ n = 3 ∨ n = 4 ∨ n = 5 ∨ n = 6 ∨ n = 7 ∨ n = 8 := by omega
      rcases h with rfl | rfl | rfl | rfl | rfl | rfl | rfl | rfl | rfl <;> decide
    have b1 := big (popN g) (by omega)
    have b2 := big (qs.length - 1 - popN g) (by omega)
    have hwt : factN (popN g) * factN (qs.length - 1 - popN g) ≤ 40320 * 40320 := Nat.mul_le_mul b1 b2
    have h1 : On 1 (40320 * 40320) (wt (qs.length - 1) (popN g)) := by
      refine ⟨by decide, ((factN (popN g) * factN (qs.length - 1 - popN g) : Nat) : Int), ?_, by rw [Int.natAbs_natCast]; exact hwt⟩
      unfold wt
      rw [← Rat.num_divInt_den ((factN (popN g) * factN (qs.length - 1 - popN g) : Nat) : Rat), Rat.num_natCast, Rat.den_natCast]
    have hr := rAt_on g0 hq he qs.length g hg
    have h2 : On G (16 * B) (minQ (qs.getD who 0) (rAt qs e g)) := by
      unfold minQ
      split
      · refine hr.mono ?_
        have : qs.length * B ≤ 8 * B := Nat.mul_le_mul_right _ hl
        omega
      · have hgd : qs.getD who 0 = qs[who] := by simp [hw]
        rw [hgd]
        exact (hq _ (List.getElem_mem hw)).mono (by omega)
    have h3 := h1.mul h2
    rw [Nat.one_mul] at h3
    refine h3.mono ?_
    have : 40320 * 40320 * (16 * B) = (40320 * 40320 * 16) * B := by rw [← Nat.mul_assoc]
    rw [this]
    exact Nat.mul_le_mul_right _ (by decide)
theorem rAt_app (qs : List Rat) (q e : Rat) : ∀ (g : Nat), g < 2 ^ qs.length → rAt (qs ++ [q]) e g = rAt qs e g := by
  intro g
  induction g using Nat.strongRecOn with
  | _ g ih =>
    intro hg
    by_cases h0 : g = 0
    · rw [h0, rAt_0, rAt_0]
    · have hle := Nat.log2_self_le h0
      have hlt := (Nat.log2_lt h0).mpr hg
      have := Nat.two_pow_pos g.log2
      rw [rAt_s _ _ h0, rAt_s _ _ h0, ih _ (by omega) (by omega)]
      congr 2
      rw [List.getD_eq_getElem?_getD, List.getD_eq_getElem?_getD, List.getElem?_append_left hlt]
theorem log2_top {n g : Nat} (h : g < 2 ^ n) : (2 ^ n + g).log2 = n := by
  have h0 : 2 ^ n + g ≠ 0 := by have := Nat.two_pow_pos n; omega
  have h1 := (Nat.log2_lt (k := n + 1) h0).mpr (by rw [Nat.pow_succ]; omega)
  have h2 : ¬ (2 ^ n + g).log2 < n := fun z => by
    have := (Nat.log2_lt h0).mp z
    omega
  omega
theorem rAt_top (qs : List Rat) (q e : Rat) {g : Nat} (hg : g < 2 ^ qs.length) : rAt (qs ++ [q]) e (2 ^ qs.length + g) = clipQ (rAt qs e g - q) := by
  have h0 : 2 ^ qs.length + g ≠ 0 := by have := Nat.two_pow_pos qs.length; omega
  rw [rAt_s _ _ h0, log2_top hg, show 2 ^ qs.length + g - 2 ^ qs.length = g by omega, rAt_app qs q e g hg]
  congr 2
  simp
theorem sumQ_range_split (f : Nat → Rat) (a b : Nat) : sumQ ((List.range (a + b)).map f) = sumQ ((List.range a).map f) + sumQ ((List.range b).map fun i => f (a + i)) := by
  rw [List.range_add, List.map_append, sumQ_app, List.map_map]
  rfl
theorem clip_clip {x q : Rat} (h : 0 ≤ q) : clipQ (clipQ (clipQ x - q)) = clipQ (x - q) := by
  unfold clipQ
  grind
theorem clip_id {x : Rat} : clipQ (clipQ x) = clipQ x := by
  unfold clipQ
  grind
theorem rAt_clip {qs : List Rat} {e : Rat} (e0 : 0 ≤ e) (g : Nat) : clipQ (rAt qs e g) = rAt qs e g := by
  by_cases h0 : g = 0
  · rw [h0, rAt_0]
    unfold clipQ
    grind
  · rw [rAt_s _ _ h0, clip_id]
theorem ext_eq {f g : Nat → Rat} {n : Nat} (h : ∀ i, i < n → f i = g i) : (List.range n).map f = (List.range n).map g := List.map_congr_left fun i hi => h i (List.mem_range.mp hi)
/-- the sum over the groups without who is the sum over all subsets of the others -/
theorem sum_groups {e : Rat} (e0 : 0 ≤ e) (i : Nat) : ∀ (n : Nat) (qs : List Rat), qs.length = n → (∀ q ∈ qs, 0 ≤ q) → ∀ h : Nat → Rat → Rat,
    sumQ ((List.range (2 ^ n)).map fun g => if g.testBit i then 0 else h (popN g) (rAt qs e g)) = ssQ (fun k x => h k (clipQ x)) (qs.eraseIdx i).reverse 0 e := by
  intro n
  induction n with
  | zero =>
    intro qs hq nn h
    have : qs = [] := List.eq_nil_of_length_eq_zero hq
    subst this
    have hc : clipQ e = e := by unfold clipQ; grind
    show sumQ ((List.range 1).map _) = h 0 (clipQ e)
    rw [hc]
    show (if Nat.testBit 0 i then 0 else h (popN 0) (rAt [] e 0)) + 0 = _
    rw [Nat.zero_testBit, popN_0, rAt_0]
    grind
  | succ n ih =>
    intro qs hq nn h
    obtain ⟨ps, q, rfl⟩ : ∃ ps q, qs = ps ++ [q] := by
      rcases List.eq_nil_or_concat qs with hx | ⟨ps, q, hx⟩
      · rw [hx] at hq; cases hq
      · exact ⟨ps, q, by rw [hx, List.concat_eq_append]⟩
    have hp : ps.length = n := by simpa using hq
    have nnp : ∀ q ∈ ps, 0 ≤ q := fun x hx => nn x (List.mem_append_left _ hx)
    have q0 : 0 ≤ q := nn q (by simp)
    rw [show 2 ^ (n + 1) = 2 ^ n + 2 ^ n by rw [Nat.pow_succ]; omega, sumQ_range_split]
    have s1 : (List.range (2 ^ n)).map (fun g => if g.testBit i then 0 else h (popN g) (rAt (ps ++ [q]) e g)) = (List.range (2 ^ n)).map (fun g => if g.testBit i then 0 else h (popN g) (rAt ps e g)) := ext_eq fun g hg => by
      rw [rAt_app ps q e g (by rw [hp]; exact hg)]
    rw [s1, ih ps hp nnp h]
    by_cases hin : i = n
    · have s2 : (List.range (2 ^ n)).map (fun g => if (2 ^ n + g).testBit i then 0 else h (popN (2 ^ n + g)) (rAt (ps ++ [q]) e (2 ^ n + g))) = (List.range (2 ^ n)).map fun _ => (0 : Rat) := ext_eq fun g hg => by
        rw [hin, Nat.testBit_two_pow_add_eq, Nat.testBit_lt_two_pow hg]
        rfl
      have z : ∀ m : Nat, sumQ ((List.range m).map fun _ => (0 : Rat)) = 0 := fun m => by
        generalize List.range m = l
        induction l with
        | nil => rfl
        | cons a l ih => show 0 + sumQ _ = 0; rw [ih]; grind
      rw [s2, z]
      have e1 : (ps ++ [q]).eraseIdx i = ps := by
        rw [hin, ← hp, List.eraseIdx_append_of_length_le (Nat.le_refl _)]
        simp
      have e2 : ps.eraseIdx i = ps := List.eraseIdx_of_length_le (by omega)
      rw [e1, e2]
      grind
    · have s2 : (List.range (2 ^ n)).map (fun g => if (2 ^ n + g).testBit i then 0 else h (popN (2 ^ n + g)) (rAt (ps ++ [q]) e (2 ^ n + g))) = (List.range (2 ^ n)).map fun g => if g.testBit i then 0 else (fun k x => h (k + 1) (clipQ (x - q))) (popN g) (rAt ps e g) := ext_eq fun g hg => by
        have hb : (2 ^ n + g).testBit i = g.testBit i := by
          rcases Nat.lt_or_gt_of_ne hin with hlt | hgt
          · exact Nat.testBit_two_pow_add_gt hlt g
          · rw [Nat.testBit_lt_two_pow (Nat.lt_of_lt_of_le hg (Nat.pow_le_pow_right (by decide) (by omega))), Nat.testBit_lt_two_pow (x := 2 ^ n + g) (i := i) (by
              have : 2 ^ (n + 1) ≤ 2 ^ i := Nat.pow_le_pow_right (by decide) (by omega)
              rw [Nat.pow_succ] at this
              omega)]
        have hr : rAt (ps ++ [q]) e (2 ^ n + g) = clipQ (rAt ps e g - q) := by
          have := rAt_top ps q e (g := g) (by rw [hp]; exact hg)
          rwa [hp] at this
        rw [hb, popN_add hg, hr]
      have s3 := ih ps hp nnp fun k x => h (k + 1) (clipQ (x - q))
      rw [s2]
      refine (congrArg _ s3).trans ?_
      have e1 : ((ps ++ [q]).eraseIdx i).reverse = q :: (ps.eraseIdx i).reverse := by
        rcases Nat.lt_or_gt_of_ne hin with hlt | hgt
        · rw [List.eraseIdx_append_of_lt_length (by omega)]
          simp
        · rw [List.eraseIdx_of_length_le (by simp; omega), List.eraseIdx_of_length_le (by omega)]
          simp
      rw [e1]
      show _ = ssQ _ _ 0 e + ssQ _ _ (0 + 1) (e - q)
      congr 1
      rw [ss_shift 1 q]
      refine ss_congr fun k x h1 h2 => ?_
      show h (k + 1) (clipQ (clipQ x - q)) = h (k + 1) (clipQ (x - q))
      congr 1
      unfold clipQ
      grind
theorem sum_terms {qs : List Rat} {e : Rat} (e0 : 0 ≤ e) (nn : ∀ q ∈ qs, 0 ≤ q) {who : Nat} (hw : who < qs.length) : sumQ ((List.range (2 ^ qs.length)).map fun g => termQ qs e who g) = allQ (qs.getD who 0) (qs.eraseIdx who) e := by
  have h1 := sum_groups e0 who qs.length qs rfl nn fun k x => wt (qs.length - 1) k * minQ (qs.getD who 0) x
  have hl : (qs.eraseIdx who).length = qs.length - 1 := List.length_eraseIdx_of_lt hw
  have h2 : allQ (qs.getD who 0) (qs.eraseIdx who) e = ssQ (fun k x => wt (qs.length - 1) k * minQ (qs.getD who 0) (clipQ x)) (qs.eraseIdx who).reverse 0 e := by
    unfold allQ oneQ
    rw [hl]
    exact ss_perm (List.reverse_perm _).symm 0 e
  rw [h2]
  exact h1
theorem f_average_of {G B : Nat} {qs : List Rat} {e : Rat} (g0 : 0 < G) (hG : G < 2 ^ 400) (hB : B < 2 ^ 400) (hq : ∀ q ∈ qs, On G B q) (hl : qs.length ≤ 8) (he : On G (8 * B) e) (e0 : 0 ≤ e) (nn : ∀ q ∈ qs, 0 ≤ q) {who : Nat} (hw : who < qs.length) :
    F_average_of [.list (qs.map rt), .list ((List.range (2 ^ qs.length)).map fun g => rt (rAt qs e g)), .int (who : Int)] = .ok (rt (turnQ (qs.getD who 0) (qs.eraseIdx who) e)) ∧ Szn 600 (turnQ (qs.getD who 0) (qs.eraseIdx who) e) := by
  have hB8 : 16 * B < 2 ^ 500 := by
    have h1 : 2 ^ 404 ≤ 2 ^ 500 := Nat.pow_le_pow_right (by decide) (by decide)
    have h2 : 2 ^ 404 = 2 ^ 4 * 2 ^ 400 := by rw [← Nat.pow_add]
    omega
  have hGG : G < 2 ^ 500 := Nat.lt_of_lt_of_le hG (Nat.pow_le_pow_right (by decide) (by decide))
  have zq : ∀ q ∈ qs, Szn 900 q := fun q h => ((hq q h).szn hGG (by omega)).mono (by decide)
  have zr : ∀ g, g < 2 ^ qs.length → Szn 900 (rAt qs e g) := fun g hg => ((rAt_on g0 hq he qs.length g hg).szn hGG (by
    have : qs.length * B ≤ 8 * B := Nat.mul_le_mul_right _ hl
    omega)).mono (by decide)
  have h8 : 2 ^ qs.length ≤ 2 ^ 8 := Nat.pow_le_pow_right (by decide) hl
  have hon : ∀ i, i ≤ 2 ^ qs.length → On G (2 ^ 48 * B) (sumQ ((List.range i).map fun g => termQ qs e who g)) := fun i hi => by
    have h := On.sum (G := G) (B := 2 ^ 40 * B) g0 (qs := (List.range i).map fun g => termQ qs e who g) fun q hq' => by
      obtain ⟨g, hg, rfl⟩ := List.mem_map.mp hq'
      have := List.mem_range.mp hg
      exact term_on g0 hq hl he who g hw (by omega)
    refine h.mono ?_
    rw [List.length_map, List.length_range]
    have : i * (2 ^ 40 * B) ≤ 2 ^ 8 * (2 ^ 40 * B) := Nat.mul_le_mul_right _ (by omega)
    have e1 : 2 ^ 8 * (2 ^ 40 * B) = 2 ^ 48 * B := by rw [← Nat.mul_assoc]
    omega
  have hB48 : 2 ^ 48 * B < 2 ^ 500 := by
    have h1 : 2 ^ 448 ≤ 2 ^ 500 := Nat.pow_le_pow_right (by decide) (by decide)
    have h2 : 2 ^ 448 = 2 ^ 48 * 2 ^ 400 := by rw [← Nat.pow_add]
    have h3 : 2 ^ 48 * B < 2 ^ 48 * 2 ^ 400 := Nat.mul_lt_mul_of_pos_left hB (Nat.two_pow_pos _)
    omega
  have loop := for_acc (fg := [7, 5, 6, 8]) (tg := [5, 6]) (tup := true) (body := denS B1_average_of) (fun i => [some (.list (qs.map rt)), some (.list ((List.range (2 ^ qs.length)).map fun g => rt (rAt qs e g))), some (.int (who : Int)), some (.int (qs.length : Int)), some (rt (sumQ ((List.range i).map fun g => termQ qs e who g))), none, none, none, none])
    (enumD 0 ((List.range (2 ^ qs.length)).map fun g => rt (rAt qs e g)))
    (fun i d hd => by
      obtain ⟨y, hy, rfl⟩ := enum_get _ _ _ _ hd
      rw [Nat.zero_add]
      rw [List.getElem?_map] at hy
      cases hx : (List.range (2 ^ qs.length))[i]? with
      | none => rw [hx] at hy; cases hy
      | some j =>
        rw [hx] at hy
        obtain ⟨hj, ej⟩ := List.getElem?_eq_some_iff.mp hx
        rw [List.getElem_range] at ej
        subst ej
        rw [List.length_range] at hj
        cases hy
        have h := t_average_of qs e who i hw hl hj (sumQ ((List.range i).map fun g => termQ qs e who g)) (((hon i (by omega)).szn hGG hB48).mono (by decide)) zq (zr i hj) (some (.list ((List.range (2 ^ qs.length)).map fun g => rt (rAt qs e g))))
        rw [h]
        rw [List.range_succ, List.map_append, sumQ_app]
        simp only [List.map_cons, List.map_nil, sumQ, Rat.add_zero]) (fun i => rfl) [some (.list (qs.map rt)), some (.list ((List.range (2 ^ qs.length)).map fun g => rt (rAt qs e g))), some (.int (who : Int)), some (.int (qs.length : Int)), some (rt 0), none, none, none, none] rfl
  rw [enum_len, List.length_map, List.length_range, sum_terms e0 nn hw] at loop
  have zall := (hon (2 ^ qs.length) (Nat.le_refl _)).szn hGG hB48
  rw [sum_terms e0 nn hw] at zall
  have ho := f_orders_of qs.length hl
  have hl1 : (qs.eraseIdx who).length + 1 = qs.length := by
    rw [List.length_eraseIdx_of_lt hw]
    omega
  have big : factN qs.length ≤ 40320 := by
    have h : qs.length = 0 ∨ qs.length = 1 ∨ qs.length = 2 ∨ qs.length = 3 ∨ qs.length = 4 ∨ qs.length = 5 ∨ qs.length = 6 ∨ qs.length = 7 ∨ qs.length = 8 := by omega
    rcases h with h | h | h | h | h | h | h | h | h <;> rw [h] <;> decide
  have zfa : Szn 40 (factN qs.length : Rat) := ⟨by rw [Rat.num_natCast, Int.natAbs_natCast]; omega, by rw [Rat.den_natCast]; decide⟩
  have tf : PyData.tuple [.int (factN qs.length : Nat), .int 1] = rt (factN qs.length : Rat) := by
    unfold rt
    rw [Rat.num_natCast, Rat.den_natCast]
    rfl
  have fne : (factN qs.length : Rat) ≠ 0 := by
    have := natR_pos (factN_pos qs.length)
    grind
  have hov := f_over (zall.sz (by decide)) (zfa.sz (by decide)) fne
  have zres := (zall.quo zfa fne).mono (show 500 + 40 ≤ 600 by decide)
  unfold turnQ
  rw [hl1]
  refine ⟨?_, zres⟩
  generalize allQ (qs.getD who 0) (qs.eraseIdx who) e = al at *
  generalize (factN qs.length : Rat) = fr at *
  generalize ((List.range (2 ^ qs.length)).map fun g => rt (rAt qs e g)) = ls at *
  simp [-List.map_map, F_average_of, Mn.run, d_average_of, env0, I1_average_of, loop, ho, tf, hov]
theorem turnsQ_get {qs : List Rat} {e : Rat} : turnsQ qs e = (List.range qs.length).map fun i => turnQ (qs.getD i 0) (qs.eraseIdx i) e := by
  unfold turnsQ
  refine List.ext_getElem? fun i => ?_
  rw [List.getElem?_map, List.getElem?_map]
  by_cases h : i < qs.length
  · rw [outs_get qs i h, List.getElem?_range h]
    show some (turnQ qs[i] (qs.eraseIdx i) e) = some (turnQ (qs.getD i 0) (qs.eraseIdx i) e)
    simp [h]
  · rw [List.getElem?_eq_none (by rw [outs_len]; omega), List.getElem?_eq_none (by rw [List.length_range]; omega)]
    rfl
theorem turnsQ_len {qs : List Rat} {e : Rat} : (turnsQ qs e).length = qs.length := by
  unfold turnsQ
  rw [List.length_map, outs_len]
theorem Est.zturn {G B : Nat} {qs : List Rat} {e : Rat} (E : Est G B qs e) : ∀ q ∈ turnsQ qs e, Szn 600 q := fun q hq => by
  rw [turnsQ_get] at hq
  obtain ⟨i, hi, rfl⟩ := List.mem_map.mp hq
  exact (f_average_of E.g E.hg E.hb E.on E.len E.oe E.e0 E.nn (List.mem_range.mp hi)).2
theorem Est.by_turns {G B : Nat} {qs : List Rat} {e : Rat} (E : Est G B qs e) : F_by_turns [.list (qs.map rt), rt e] = .ok (.list ((turnsQ qs e).map rt)) := by
  have l8 := E.len
  have hGG : G < 2 ^ 500 := Nat.lt_of_lt_of_le E.hg (Nat.pow_le_pow_right (by decide) (by decide))
  have hB8 : 16 * B < 2 ^ 500 := by
    have h0 := E.hb
    have h1 : 2 ^ 404 ≤ 2 ^ 500 := Nat.pow_le_pow_right (by decide) (by decide)
    have h2 : 2 ^ 404 = 2 ^ 4 * 2 ^ 400 := by rw [← Nat.pow_add]
    omega
  have hr := f_rests (qs := qs) (e := e) E.len (fun g hg => ((rAt_on E.g E.on E.oe qs.length g hg).szn hGG (by
    have : qs.length * B ≤ 8 * B := Nat.mul_le_mul_right _ l8
    omega)).mono (by decide)) (fun q hq => ((E.on q hq).szn hGG (by omega)).mono (by decide))
  have ha : ∀ i, i < qs.length → F_average_of [.list (qs.map rt), .list ((List.range (2 ^ qs.length)).map fun g => rt (rAt qs e g)), .int (i : Int)] = .ok (rt (turnQ (qs.getD i 0) (qs.eraseIdx i) e)) := fun i hi => (f_average_of E.g E.hg E.hb E.on E.len E.oe E.e0 E.nn hi).1
  have hk : denE K1_by_turns [some (.list (qs.map rt)), some (rt e), some (.list ((List.range (2 ^ qs.length)).map fun g => rt (rAt qs e g))), none] = .ok (.list ((turnsQ qs e).map rt)) := by
    rw [turnsQ_get, List.map_map]
    refine comp_of (as := List.range qs.length) (w := fun (i : Nat) => PyData.int (0 + (i : Int))) (fun i => rt (turnQ (qs.getD i 0) (qs.eraseIdx i) e)) ?_ (by rw [List.length_range]; have : sizeLine = 16777216 := rfl; omega) fun i hi => ?_
    · have hx : R.ok (rgL 0 qs.length) = R.ok ((List.range qs.length).map fun (i : Nat) => PyData.int (0 + (i : Int))) := rfl
      rw [← hx]
      have h62 : qs.length < 4611686018427387904 := by omega
      simp [h62]
    · have h := ha i (List.mem_range.mp hi)
      rw [Int.zero_add]
      generalize ((List.range (2 ^ qs.length)).map fun g => rt (rAt qs e g)) = ls at *
      simp [-List.map_map, h]
  generalize ((List.range (2 ^ qs.length)).map fun g => rt (rAt qs e g)) = ls at *
  simp [-List.map_map, F_by_turns, Mn.run, d_by_turns, env0, E.check, hr, hk]
theorem eqv_str {a b : Str} : PyData.eqv (.str a) (.str b) = decide (a = b) := by
  show (a == b) = _
  rfl
@[simp] theorem ceq_ss {a b : Str} : ceq (.str a) (.str b) = .ok (decide (a = b)) := by
  unfold ceq scalD
  simp only [Bool.true_or, if_true]
  rw [eqv_str]
/-- the rules -/
inductive Ru where
  | sh | ga | lo | ha | tu
  deriving DecidableEq
def Ru.w : Ru → Str
  | .sh => "shares"
  | .ga => "gains"
  | .lo => "losses"
  | .ha => "halves"
  | .tu => "turns"
@[simp] theorem w_sh : Ru.w .sh = ("shares" : Str) := (rfl)
@[simp] theorem w_ga : Ru.w .ga = ("gains" : Str) := (rfl)
@[simp] theorem w_lo : Ru.w .lo = ("losses" : Str) := (rfl)
@[simp] theorem w_ha : Ru.w .ha = ("halves" : Str) := (rfl)
@[simp] theorem w_tu : Ru.w .tu = ("turns" : Str) := (rfl)
@[simp] theorem n_sh_ga : ((("shares" : Str) = "gains") = False) := eq_false (by decide +kernel)
@[simp] theorem n_sh_lo : ((("shares" : Str) = "losses") = False) := eq_false (by decide +kernel)
@[simp] theorem n_sh_ha : ((("shares" : Str) = "halves") = False) := eq_false (by decide +kernel)
@[simp] theorem n_sh_tu : ((("shares" : Str) = "turns") = False) := eq_false (by decide +kernel)
@[simp] theorem n_ga_sh : ((("gains" : Str) = "shares") = False) := eq_false (by decide +kernel)
@[simp] theorem n_ga_lo : ((("gains" : Str) = "losses") = False) := eq_false (by decide +kernel)
@[simp] theorem n_ga_ha : ((("gains" : Str) = "halves") = False) := eq_false (by decide +kernel)
@[simp] theorem n_ga_tu : ((("gains" : Str) = "turns") = False) := eq_false (by decide +kernel)
@[simp] theorem n_lo_sh : ((("losses" : Str) = "shares") = False) := eq_false (by decide +kernel)
@[simp] theorem n_lo_ga : ((("losses" : Str) = "gains") = False) := eq_false (by decide +kernel)
@[simp] theorem n_lo_ha : ((("losses" : Str) = "halves") = False) := eq_false (by decide +kernel)
@[simp] theorem n_lo_tu : ((("losses" : Str) = "turns") = False) := eq_false (by decide +kernel)
@[simp] theorem n_ha_sh : ((("halves" : Str) = "shares") = False) := eq_false (by decide +kernel)
@[simp] theorem n_ha_ga : ((("halves" : Str) = "gains") = False) := eq_false (by decide +kernel)
@[simp] theorem n_ha_lo : ((("halves" : Str) = "losses") = False) := eq_false (by decide +kernel)
@[simp] theorem n_ha_tu : ((("halves" : Str) = "turns") = False) := eq_false (by decide +kernel)
@[simp] theorem n_tu_sh : ((("turns" : Str) = "shares") = False) := eq_false (by decide +kernel)
@[simp] theorem n_tu_ga : ((("turns" : Str) = "gains") = False) := eq_false (by decide +kernel)
@[simp] theorem n_tu_lo : ((("turns" : Str) = "losses") = False) := eq_false (by decide +kernel)
@[simp] theorem n_tu_ha : ((("turns" : Str) = "halves") = False) := eq_false (by decide +kernel)
def isRu (s : Str) : Bool := decide (("shares" : Str) = s) || (decide (("gains" : Str) = s) || (decide (("losses" : Str) = s) || (decide (("halves" : Str) = s) || decide (("turns" : Str) = s))))
theorem mem_rules (s : Str) : cmem (.str s) (.tuple [(.str "shares"), (.str "gains"), (.str "losses"), (.str "halves"), (.str "turns")]) = .ok (isRu s) := by
  have e : cmem (.str s) (.tuple [(.str "shares"), (.str "gains"), (.str "losses"), (.str "halves"), (.str "turns")]) = .ok (inList (.str s) [(.str "shares"), (.str "gains"), (.str "losses"), (.str "halves"), (.str "turns")]) := rfl
  rw [e]
  congr 1
  unfold inList isRu
  simp only [List.any_cons, List.any_nil, eqv_str, Bool.or_false]
theorem isRu_w (r : Ru) : isRu r.w = true := by cases r <;> decide +kernel
theorem isRu_of {s : Str} (h : isRu s = true) : ∃ r : Ru, s = r.w := by
  unfold isRu at h
  simp only [Bool.or_eq_true, decide_eq_true_eq] at h
  rcases h with h | h | h | h | h
  · exact ⟨.sh, h.symm⟩
  · exact ⟨.ga, h.symm⟩
  · exact ⟨.lo, h.symm⟩
  · exact ⟨.ha, h.symm⟩
  · exact ⟨.tu, h.symm⟩
theorem f_check_rule (r : Ru) : F_check_rule [.str r.w] = .ok .none := by
  have h := mem_rules r.w
  rw [isRu_w] at h
  simp [F_check_rule, Mn.run, d_check_rule, env0, h]
theorem f_no_rule {s : Str} (hs : isRu s = false) : F_check_rule [.str s] = .exc "NoRule" := by
  have h := mem_rules s
  rw [hs] at h
  simp [F_check_rule, Mn.run, d_check_rule, env0, h]
def Ru.q : Ru → List Rat → Rat → List Rat
  | .sh => sharesQ
  | .ga => gainsQ
  | .lo => lossesQ
  | .ha => byHalvesQ
  | .tu => turnsQ
/-- claims and an estate with room for halves -/
structure EstH (G B : Nat) (qs : List Rat) (e : Rat) : Prop extends Est G B qs e where
  h2 : G * 2 < 2 ^ 400
  h4 : 4 * B < 2 ^ 400
  g60 : G < 2 ^ 160
  b150 : B < 2 ^ 150
theorem Est.zgain_s {G B s : Nat} {qs : List Rat} {e : Rat} (E : Est G B qs e) (hG : G < 2 ^ s) (hB : 16 * B < 2 ^ s) : Szn (s + 10) (gainQ qs e) := by
  have z0 : Szn (s + 10) 0 := ⟨by show 0 < _; exact Nat.two_pow_pos _, by show 1 < _; exact Nat.one_lt_two_pow (by omega)⟩
  have go : ∀ (r : List Rat) (a h : Rat) (C : Nat), (∀ q ∈ r, On G B q) → r.length < 1000 → On G C a → C + r.length * B < 2 ^ s → Szn (s + 10) h → Szn (s + 10) (filledQ r a h) := by
    intro r
    induction r with
    | nil => intro a h C _ _ _ _ hh; exact hh
    | cons c r ih =>
      intro a h C hon hl ha hC hh
      rw [List.length_cons] at hl hC
      rw [Nat.add_mul] at hC
      have zc := ((hon c List.mem_cons_self).szn hG (by omega)).mono (show s ≤ s + 10 by omega)
      unfold filledQ
      split
      · exact ih (a - c) c (C + B) (fun q hq => hon q (List.mem_cons_of_mem _ hq)) (by omega) (ha.sub (hon c List.mem_cons_self)) (by omega) zc
      · have za := ha.szn hG (by omega)
        exact za.quo (szn_nat (n := r.length + 1) (by omega)) (by have := nat_pos r.length; grind)
  have hp := risingQ_perm qs
  have hl := hp.length_eq
  exact go _ e 0 (8 * B) (fun q hq => E.on q (hp.mem_iff.mp hq)) (by have := E.len; omega) E.oe (by
    rw [hl]
    have h1 : qs.length * B ≤ 8 * B := Nat.mul_le_mul_right _ E.len
    omega) z0
theorem Est.zloss_s {G B s : Nat} {qs : List Rat} {e : Rat} (E : Est G B qs e) (hG : G < 2 ^ s) (hB : 16100 * B < 2 ^ s) : Szn (s + (s + 10) + 1) (lossQ qs e) := by
  have z0 : Szn (s + (s + 10) + 1) 0 := ⟨by show 0 < _; exact Nat.two_pow_pos _, by show 1 < _; exact Nat.one_lt_two_pow (by omega)⟩
  have go : ∀ (r : List Rat) (k : Nat) (a h : Rat) (C : Nat), (∀ q ∈ r, On G B q) → k + r.length < 1000 → On G C a → C + r.length * (2000 * B) < 2 ^ s → 2 * B < 2 ^ s → Szn (s + (s + 10) + 1) h → Szn (s + (s + 10) + 1) (emptiedQ r k a h) := by
    intro r
    induction r with
    | nil => intro k a h C _ _ _ _ _ hh; exact hh
    | cons c r ih =>
      intro k a h C hon hl ha hC hB hh
      rw [List.length_cons] at hl hC
      rw [Nat.add_mul] at hC
      have oc := hon c List.mem_cons_self
      have zc := oc.szn hG (by omega)
      have za := ha.szn hG (by omega)
      have ob : On G B (r.headD 0) := by
        cases r with
        | nil => exact (On.zero E.g).mono (by omega)
        | cons b r2 => exact hon b (List.mem_cons_of_mem _ List.mem_cons_self)
      have on := on_nat ((oc.sub ob).mono (show B + B ≤ 2 * B by omega)) (k + 1)
      have z1 : 2 * B * (k + 1) ≤ 2000 * B := by
        calc 2 * B * (k + 1) ≤ 2 * B * 1000 := Nat.mul_le_mul_left _ (by omega)
          _ = 2000 * B := by omega
      unfold emptiedQ
      split
      · exact ih (k + 1) _ c (C + 2 * B * (k + 1)) (fun q hq => hon q (List.mem_cons_of_mem _ hq)) (by omega) (ha.sub on) (by omega) hB (zc.mono (by omega))
      · exact zc.sub (za.quo (szn_natE (n := k + 1) (by omega)) (by have := natE_pos k; grind))
  have hp := (List.reverse_perm (risingQ qs)).trans (risingQ_perm qs)
  have hl := hp.length_eq
  exact go _ 0 e 0 (8 * B) (fun q hq => E.on q (hp.mem_iff.mp hq)) (by have := E.len; omega) E.oe (by
    rw [hl]
    have h1 : qs.length * (2000 * B) ≤ 8 * (2000 * B) := Nat.mul_le_mul_right _ E.len
    omega) (by omega) z0
theorem EstH.shared {G B : Nat} {qs : List Rat} {e : Rat} (E : EstH G B qs e) (r : Ru) : F_shared [.str r.w, .list (qs.map rt), rt e] = .ok (.list ((r.q qs e).map rt)) := by
  have hc := f_check_rule r
  cases r with
  | sh =>
    have h := E.in_shares
    simp [-List.map_map, F_shared, Mn.run, d_shared, env0] at hc ⊢
    simp [-List.map_map, hc, h, Ru.q]
  | ga =>
    have h := E.by_gains
    simp [-List.map_map, F_shared, Mn.run, d_shared, env0] at hc ⊢
    simp [-List.map_map, hc, h, Ru.q]
  | lo =>
    have h := E.by_losses
    simp [-List.map_map, F_shared, Mn.run, d_shared, env0] at hc ⊢
    simp [-List.map_map, hc, h, Ru.q]
  | ha =>
    have h := E.by_halves E.h2 E.h4
    simp [-List.map_map, F_shared, Mn.run, d_shared, env0] at hc ⊢
    simp [-List.map_map, hc, h, Ru.q]
  | tu =>
    have h := E.by_turns
    simp [-List.map_map, F_shared, Mn.run, d_shared, env0] at hc ⊢
    simp [-List.map_map, hc, h, Ru.q]
theorem Ru.len (r : Ru) (qs : List Rat) (e : Rat) : (r.q qs e).length = qs.length := by
  cases r with
  | sh =>
    show (sharesQ qs e).length = _
    unfold sharesQ
    split <;> rw [List.length_map]
  | ga => exact List.length_map ..
  | lo => exact List.length_map ..
  | ha => exact List.length_map ..
  | tu => exact turnsQ_len
/-! what a rule tells of one claim -/
def Ru.f : Ru → List Rat → Rat → Rat → Rat
  | .sh => fun qs e q => if sumQ qs = 0 then 0 else q * (e / sumQ qs)
  | .ga => fun qs e q => minQ q (gainQ qs e)
  | .lo => fun qs e q => aboveQ q (lossQ qs e)
  | .ha => fun qs e q => if sumQ qs - e < e then q - partH qs e q else partH qs e q
  | .tu => fun qs e q => turnQ q (qs.erase q) e
theorem erase_at : ∀ (qs : List Rat) (i : Nat) (h : i < qs.length), (qs.eraseIdx i).Perm (qs.erase qs[i])
  | c :: cs, 0, _ => by
    show cs.Perm ((c :: cs).erase c)
    rw [List.erase_cons_head]
  | c :: cs, i + 1, h => by
    have h' : i < cs.length := by simpa using h
    have h1 : (cs[i] :: cs.eraseIdx i).Perm cs := outs_mem (p := (cs[i], cs.eraseIdx i)) (List.mem_of_getElem? (outs_get cs i h'))
    have h2 : ((c :: cs).erase cs[i]).Perm (c :: cs.eraseIdx i) := by
      have h3 : (c :: cs).Perm (cs[i] :: c :: cs.eraseIdx i) := (h1.symm.cons c).trans (List.Perm.swap _ _ _)
      have h4 := h3.erase cs[i]
      rwa [List.erase_cons_head] at h4
    exact h2.symm
theorem Ru.q_map (r : Ru) (qs : List Rat) (e : Rat) : r.q qs e = qs.map (r.f qs e) := by
  cases r with
  | sh =>
    show sharesQ qs e = _
    unfold sharesQ
    by_cases h : sumQ qs = 0
    · rw [if_pos h]
      refine List.map_congr_left fun q _ => ?_
      show _ = if sumQ qs = 0 then 0 else q * (e / sumQ qs)
      rw [if_pos h]
    · rw [if_neg h]
      refine List.map_congr_left fun q _ => ?_
      show _ = if sumQ qs = 0 then 0 else q * (e / sumQ qs)
      rw [if_neg h]
  | ga => rfl
  | lo => rfl
  | ha => rfl
  | tu =>
    show turnsQ qs e = _
    rw [turnsQ_get]
    refine List.ext_getElem (by rw [List.length_map, List.length_map, List.length_range]) fun i h1 h2 => ?_
    rw [List.length_map] at h2
    rw [List.getElem_map, List.getElem_map, List.getElem_range]
    show turnQ _ _ e = turnQ qs[i] (qs.erase qs[i]) e
    have hg : qs.getD i 0 = qs[i] := by simp [h2]
    rw [hg]
    exact turn_perm (erase_at qs i h2)
theorem erase_mem {qs : List Rat} {q : Rat} (h : q ∈ qs) : (q :: qs.erase q).Perm qs := (List.perm_cons_erase h).symm
theorem minQ_min {p q : Rat} : minQ p q = min p q := by
  unfold minQ
  grind
/-- from 0 to the claim -/
theorem Ru.bounds (r : Ru) {qs : List Rat} {e : Rat} (nn : ∀ q ∈ qs, 0 ≤ q) (e0 : 0 ≤ e) (es : e ≤ sumQ qs) : ∀ q ∈ qs, 0 ≤ r.f qs e q ∧ r.f qs e q ≤ q := fun q hq => by
  have q0 := nn q hq
  cases r with
  | sh =>
    show 0 ≤ (if sumQ qs = 0 then 0 else q * (e / sumQ qs)) ∧ (if sumQ qs = 0 then 0 else q * (e / sumQ qs)) ≤ q
    by_cases h : sumQ qs = 0
    · rw [if_pos h]
      exact ⟨Rat.le_refl, q0⟩
    · rw [if_neg h]
      have hs : 0 < sumQ qs := by grind
      have t0 : 0 ≤ e / sumQ qs := by
        rw [Rat.div_def]
        exact Rat.mul_nonneg e0 (Rat.le_of_lt (Rat.inv_pos.mpr hs))
      have t1 : e / sumQ qs ≤ 1 := by
        rw [Rat.div_def]
        have := Rat.mul_le_mul_of_nonneg_right es (Rat.le_of_lt (Rat.inv_pos.mpr hs))
        rwa [Rat.mul_inv_cancel _ h] at this
      refine ⟨Rat.mul_nonneg q0 t0, ?_⟩
      have := Rat.mul_le_mul_of_nonneg_left t1 q0
      rwa [Rat.mul_one] at this
  | ga =>
    have h := (gain_ok nn e0 es).1
    show 0 ≤ minQ q (gainQ qs e) ∧ minQ q (gainQ qs e) ≤ q
    unfold minQ
    grind
  | lo =>
    have h := (loss_ok nn e0 es).1
    show 0 ≤ aboveQ q (lossQ qs e) ∧ aboveQ q (lossQ qs e) ≤ q
    unfold aboveQ
    grind
  | ha =>
    show 0 ≤ (if sumQ qs - e < e then q - partH qs e q else partH qs e q) ∧ (if sumQ qs - e < e then q - partH qs e q else partH qs e q) ≤ q
    have hh := half_eq q
    have hn := half_nn q0
    have hE : 0 ≤ evenQ qs e ∧ evenQ qs e ≤ sumQ (halvesQ qs) := by
      unfold evenQ halvesQ
      rw [half_sum]
      have := half_eq (sumQ qs)
      split <;> grind
    have hg := (gain_ok (qs := halvesQ qs) (fun x hx => by
      obtain ⟨y, hy, rfl⟩ := List.mem_map.mp hx
      exact half_nn (nn y hy)) hE.1 hE.2).1
    have hp : 0 ≤ partH qs e q ∧ partH qs e q ≤ q * halfR := by
      unfold partH minQ
      grind
    split <;> grind
  | tu => exact ⟨turn_nn q0, turn_le⟩
theorem sumQ_ext {f g : Rat → Rat} {qs : List Rat} (h : ∀ q ∈ qs, f q = g q) : sumQ (qs.map f) = sumQ (qs.map g) := by
  rw [List.map_congr_left h]
/-- all is shared out -/
theorem Ru.sum (r : Ru) {qs : List Rat} {e : Rat} (nn : ∀ q ∈ qs, 0 ≤ q) (e0 : 0 ≤ e) (es : e ≤ sumQ qs) : sumQ (r.q qs e) = e := by
  cases r with
  | sh =>
    show sumQ (sharesQ qs e) = e
    unfold sharesQ
    by_cases h : sumQ qs = 0
    · rw [if_pos h]
      have z : ∀ l : List Rat, sumQ (l.map fun _ => (0 : Rat)) = 0 := fun l => by
        induction l with
        | nil => rfl
        | cons a l ih => show 0 + sumQ _ = 0; rw [ih]; grind
      rw [z]
      grind
    · rw [if_neg h, sumQ_mulr, Rat.div_def, Rat.mul_comm e, ← Rat.mul_assoc, Rat.mul_inv_cancel _ h, Rat.one_mul]
  | ga => exact (gain_ok nn e0 es).2
  | lo => exact (loss_ok nn e0 es).2
  | ha =>
    show sumQ (qs.map fun q => if sumQ qs - e < e then q - partH qs e q else partH qs e q) = e
    have hE : 0 ≤ evenQ qs e ∧ evenQ qs e ≤ sumQ (halvesQ qs) := by
      unfold evenQ halvesQ
      rw [half_sum]
      have := half_eq (sumQ qs)
      split <;> grind
    have hg := (gain_ok (qs := halvesQ qs) (fun x hx => by
      obtain ⟨y, hy, rfl⟩ := List.mem_map.mp hx
      exact half_nn (nn y hy)) hE.1 hE.2).2
    have hg2 : sumQ (qs.map fun q => partH qs e q) = evenQ qs e := by
      rw [← hg]
      unfold halvesQ
      rw [List.map_map]
      rfl
    by_cases h : sumQ qs - e < e
    · have e1 : evenQ qs e = sumQ qs - e := by unfold evenQ; rw [if_pos h]
      rw [e1] at hg2
      have h2 : sumQ (qs.map fun q => if sumQ qs - e < e then q - partH qs e q else partH qs e q) = sumQ (qs.map fun q => q - partH qs e q) := sumQ_ext fun q _ => by rw [if_pos h]
      rw [h2, sumQ_sub, hg2, List.map_id']
      grind
    · have e1 : evenQ qs e = e := by unfold evenQ; rw [if_neg h]
      rw [e1] at hg2
      have h2 : sumQ (qs.map fun q => if sumQ qs - e < e then q - partH qs e q else partH qs e q) = sumQ (qs.map fun q => partH qs e q) := sumQ_ext fun q _ => by rw [if_neg h]
      rw [h2, hg2]
  | tu => exact turns_sum nn e0 es
theorem EstH.z170 {G B : Nat} {qs : List Rat} {e : Rat} (E : EstH G B qs e) : G < 2 ^ 170 ∧ 16100 * B < 2 ^ 170 ∧ G * 2 < 2 ^ 172 ∧ 16 * (4 * B) < 2 ^ 172 := by
  have h1 := E.g60
  have h2 := E.b150
  have h3 : 2 ^ 160 ≤ 2 ^ 170 := pow2_le (by decide)
  have h4 : 2 ^ 170 = 2 ^ 20 * 2 ^ 150 := by rw [← Nat.pow_add]
  have h5 : 2 ^ 172 = 2 ^ 22 * 2 ^ 150 := by rw [← Nat.pow_add]
  have h6 : 2 ^ 172 = 2 ^ 2 * 2 ^ 170 := by rw [← Nat.pow_add]
  omega
theorem EstH.zq' {G B : Nat} {qs : List Rat} {e : Rat} (E : EstH G B qs e) {q : Rat} (h : q ∈ qs) : Szn 170 q := (E.on q h).szn E.z170.1 (by have := E.z170.2.1; omega)
theorem EstH.ze' {G B : Nat} {qs : List Rat} {e : Rat} (E : EstH G B qs e) : Szn 170 e := E.oe.szn E.z170.1 (by have := E.z170.2.1; omega)
theorem EstH.zs' {G B : Nat} {qs : List Rat} {e : Rat} (E : EstH G B qs e) : Szn 170 (sumQ qs) := E.os.szn E.z170.1 (by have := E.z170.2.1; omega)
theorem EstH.zf {G B : Nat} {qs : List Rat} {e : Rat} (E : EstH G B qs e) (r : Ru) : ∀ q ∈ qs, Szn 600 (r.f qs e q) := fun q hq => by
  have zq := E.zq' hq
  obtain ⟨g1, g2, g3, g4⟩ := E.z170
  have z0 : Szn 600 0 := ⟨by show 0 < _; exact Nat.two_pow_pos _, by show 1 < _; exact Nat.one_lt_two_pow (by decide)⟩
  cases r with
  | sh =>
    show Szn 600 (if sumQ qs = 0 then 0 else q * (e / sumQ qs))
    split
    · exact z0
    · rename_i h
      exact (zq.mul (E.ze'.quo E.zs' h)).mono (by decide)
  | ga =>
    show Szn 600 (minQ q (gainQ qs e))
    unfold minQ
    split
    · exact (E.zgain_s g1 (by omega)).mono (by decide)
    · exact zq.mono (by decide)
  | lo =>
    show Szn 600 (aboveQ q (lossQ qs e))
    unfold aboveQ
    split
    · exact z0
    · exact (zq.sub (E.zloss_s g1 (by omega))).mono (by decide)
  | ha =>
    have h : Szn 182 (partH qs e q) := by
      have H := E.toEst.even E.h2 E.h4
      have hz := H.zgain_s (s := 172) g3 (by omega)
      have h2 : Szn 182 (q * halfR) := (zq.mul zhalf).mono (by decide)
      unfold partH minQ
      split
      · exact hz
      · exact h2
    show Szn 600 (if sumQ qs - e < e then q - partH qs e q else partH qs e q)
    split
    · exact (zq.sub h).mono (by decide)
    · exact h.mono (by decide)
  | tu =>
    have h2 : turnQ q (qs.erase q) e ∈ turnsQ qs e := by
      have h3 := Ru.q_map .tu qs e
      have h4 : turnsQ qs e = qs.map (Ru.f .tu qs e) := h3
      rw [h4]
      exact List.mem_map.mpr ⟨q, hq, rfl⟩
    exact E.zturn _ h2
theorem EstH.of {bo ti : Nat} {qs : List Rat} {e : Rat} (E : Est (bo * ti) (10 ^ 43) qs e) (h : bo * ti ≤ 10 ^ 11) : EstH (bo * ti) (10 ^ 43) qs e :=
  ⟨E, Nat.lt_of_le_of_lt (Nat.mul_le_mul_right 2 h) (by decide), by decide, Nat.lt_of_le_of_lt h (by decide), by decide⟩
theorem f_check_path (r : Ru) (hr : r ≠ .tu) {qs : List Rat} (l8 : qs.length ≤ 8) (nn : ∀ q ∈ qs, 0 ≤ q) : F_check_path [.str r.w, .list (qs.map rt)] = .ok .none := by
  have h1 := f_check_rule r
  have h2 := f_check_claims qs
  have hb : badClaim qs = false := by
    unfold badClaim
    rw [List.any_eq_false]
    intro q hq
    have := nn q hq
    simp
    exact Rat.not_lt.mpr this
  rw [if_neg (by omega), hb, if_neg (by simp)] at h2
  generalize qs.map rt = ql at *
  cases r with
  | tu => exact absurd rfl hr
  | _ =>
    simp only [w_sh, w_ga, w_lo, w_ha] at h1 ⊢
    simp [F_check_path, Mn.run, d_check_path, env0, h1, h2]
/-! ### each once, nothing left out -/
def unlF : Rat → List Rat → List Rat
  | _, [] => []
  | x, q :: r => if q = x then unlF x r else q :: unlF q r
def unlikeQ (qs : List Rat) : List Rat := unlF 0 (risingQ qs)
theorem unlF_mem : ∀ (r : List Rat) (x : Rat), ∀ q ∈ unlF x r, q ∈ r
  | [], _, q, h => by cases h
  | p :: r, x, q, h => by
    unfold unlF at h
    split at h
    · exact List.mem_cons_of_mem _ (unlF_mem r x q h)
    · rcases List.mem_cons.mp h with rfl | h
      · exact List.mem_cons_self
      · exact List.mem_cons_of_mem _ (unlF_mem r p q h)
theorem unlF_len : ∀ (r : List Rat) (x : Rat), (unlF x r).length ≤ r.length
  | [], _ => Nat.le_refl _
  | p :: r, x => by
    unfold unlF
    split
    · exact Nat.le_succ_of_le (unlF_len r x)
    · exact Nat.succ_le_succ (unlF_len r p)
theorem unlike_mem {qs : List Rat} : ∀ q ∈ unlikeQ qs, q ∈ qs := fun q h => (risingQ_perm qs).mem_iff.mp (unlF_mem _ _ q h)
theorem unlike_len {qs : List Rat} : (unlikeQ qs).length ≤ qs.length := by
  rw [← (risingQ_perm qs).length_eq]
  exact unlF_len _ _
theorem ix_last (a : List Rat) (x : Rat) : ixD (.list ((a ++ [x]).map rt)) (.int (-1)) = .ok (rt x) := by
  rw [ev_ix_l]
  have : atI ((a ++ [x]).map rt) (-1) = some (rt x) := by
    unfold atI ixN
    rw [List.length_map, if_neg (by decide), if_pos (by rw [List.length_append, List.length_cons, List.length_nil]; omega), Option.bind_some, List.getElem?_map]
    have e : ((-1 : Int) + ((a ++ [x]).length : Int)).toNat = a.length := by rw [List.length_append, List.length_cons, List.length_nil]; omega
    rw [e, List.getElem?_append_right (Nat.le_refl _), Nat.sub_self]
    rfl
  rw [this]
theorem w_unlike (C : Option D) : ∀ (r a : List Rat) (x : Rat) (y : Option D), a.length + r.length < 1000 →
    forO [2] [2] false (denS B1_unlike) (r.map rt) [C, some (.list ((a ++ [x]).map rt)), y] = .next [C, some (.list ((a ++ x :: unlF x r).map rt)), none]
  | [], a, x, y, _ => rfl
  | q :: r, a, x, y, h => by
    rw [List.length_cons] at h
    have hix := ix_last a x
    have zF : ((a ++ [x]).map rt).length < sizeLine := by
      rw [List.length_map, List.length_append]
      exact Nat.lt_of_lt_of_le (show a.length + 1 < 1001 by omega) (by decide)
    rw [List.map_cons, forO_cons]
    by_cases hq : q = x
    · have hc : ceq (rt q) (rt x) = .ok true := by rw [ceq_rt, decide_eq_true hq]
      have ih := w_unlike C r a x none (by omega)
      have key : wipeO [2] ((bindT [2] false (rt q) (wipeE [C, some (.list ((a ++ [x]).map rt)), y] [2])).ot (denS B1_unlike)) = .next [C, some (.list ((a ++ [x]).map rt)), none] := by
        clear ih hq
        generalize (a ++ [x]).map rt = L at *
        generalize rt q = Q at *
        generalize rt x = X at *
        simp [-ev_ix_l, B1_unlike, hix, hc]
      rw [key]
      show forO [2] [2] false (denS B1_unlike) (r.map rt) _ = _
      rw [ih, unlF, if_pos hq]
    · have hc : ceq (rt q) (rt x) = .ok false := by rw [ceq_rt, decide_eq_false hq]
      have ih := w_unlike C r (a ++ [x]) q none (by rw [List.length_append, List.length_cons, List.length_nil]; omega)
      have key : wipeO [2] ((bindT [2] false (rt q) (wipeE [C, some (.list ((a ++ [x]).map rt)), y] [2])).ot (denS B1_unlike)) = .next [C, some (.list ((a ++ [x] ++ [q]).map rt)), none] := by
        rw [List.map_append (l₁ := a ++ [x])]
        clear ih hq
        show _ = Mn.Ot.next [C, some (.list ((a ++ [x]).map rt ++ [rt q])), none]
        generalize (a ++ [x]).map rt = L at *
        generalize rt q = Q at *
        generalize rt x = X at *
        simp [-ev_ix_l, B1_unlike, hix, hc, zF]
      rw [key]
      show forO [2] [2] false (denS B1_unlike) (r.map rt) _ = _
      rw [ih, unlF, if_neg hq, List.append_assoc]
      rfl
theorem f_unlike {qs : List Rat} (z : ∀ q ∈ qs, Sz q) (h : qs.length < 900) : F_unlike [.list (qs.map rt)] = .ok (.list ((unlikeQ qs).map rt)) := by
  have hr := f_rising z (by omega)
  have lp := w_unlike (some (.list (qs.map rt))) (risingQ qs) [] 0 none (by rw [(risingQ_perm qs).length_eq]; show 0 + _ < _; omega)
  have hcut : slD (.list (([] ++ 0 :: unlikeQ qs).map rt)) (some 1) none = .ok (.list ((unlikeQ qs).map rt)) := by
    rw [ev_sl_l, show (1 : Int) = ((1 : Nat) : Int) from rfl, cut_from]
    rfl
  have lp : forO [2] [2] false (denS B1_unlike) ((risingQ qs).map rt) [some (.list (qs.map rt)), some (.list [rt 0]), none] = .next [some (.list (qs.map rt)), some (.list (([] ++ 0 :: unlikeQ qs).map rt)), none] := lp
  generalize ([] ++ 0 :: unlikeQ qs).map rt = M at *
  clear h z
  generalize (unlikeQ qs).map rt = U at *
  generalize (risingQ qs).map rt = R at *
  generalize qs.map rt = Q at *
  simp [-ev_sl_l, F_unlike, Mn.run, d_unlike, env0, hr, I1_unlike, lp, hcut]
/-! claims as whole numbers of one bottom's parts -/
def halfU : Rat := ⟨1, 2, by decide, by decide⟩
theorem tup_halfU : PyData.tuple [.int 1, .int 2] = rt halfU := (rfl)
theorem zhalfU : Szn 2 halfU := ⟨by decide, by decide⟩
def uR (t : Int) : Rat := Rat.divInt t ((55440 : Nat) : Int)
theorem uR_min (t l : Int) : minQ (uR t) (uR l) = uR (if l < t then l else t) := by
  unfold minQ uR
  have h := divInt_lt (a := l) (c := t) (b := 55440) (by decide)
  by_cases k : l < t
  · rw [if_pos k, if_pos (h.mpr k)]
  · rw [if_neg k, if_neg fun z => k (h.mp z)]
def upI (ts : List Int) (l : Int) : Int := (ts.map fun t => if l < t then l else t).sum
theorem uR_sum (ts : List Int) : sumQ (ts.map uR) = uR ts.sum := sumQ_div 55440 (by decide) ts
theorem uR_on (t : Int) : On 55440 t.natAbs (uR t) := on_div t 55440 (by decide)
theorem uR_sz {t : Int} (h : 0 ≤ t ∧ t < 10 ^ 38) : Szn 130 (uR t) := by
  have : (10 : Int) ^ 38 < 2 ^ 130 := by decide
  exact (uR_on t).szn (by decide) (by omega)
theorem up_bounds {ts : List Int} {l : Int} (ok : ∀ t ∈ ts, 0 ≤ t ∧ t < 10 ^ 36) (l0 : 0 ≤ l) : 0 ≤ upI ts l ∧ upI ts l ≤ ts.length * 10 ^ 36 := by
  unfold upI
  induction ts with
  | nil => exact ⟨Int.le_refl _, by simp⟩
  | cons t ts ih =>
    have h1 := ok t List.mem_cons_self
    have h2 := ih fun z hz => ok z (List.mem_cons_of_mem _ hz)
    rw [List.map_cons, List.sum_cons, List.length_cons]
    generalize (ts.map fun t => if l < t then l else t).sum = s at *
    generalize hL : (10 : Int) ^ 36 = L at *
    have e : ((ts.length + 1 : Nat) : Int) * L = (ts.length : Int) * L + L := by rw [Int.natCast_add, Int.add_mul]; simp
    rw [e]
    split <;> omega
theorem f_up_to {ts : List Int} {l : Int} (l8 : ts.length ≤ 8) (ok : ∀ t ∈ ts, 0 ≤ t ∧ t < 10 ^ 36) (hl : 0 ≤ l ∧ l < 10 ^ 36) : F_up_to [.list ((ts.map uR).map rt), rt (uR l)] = .ok (rt (uR (upI ts l))) := by
  have zl : Sz (uR l) := (uR_sz ⟨hl.1, by omega⟩).sz (by decide)
  have hK : denE K1_up_to [some (.list ((ts.map uR).map rt)), some (rt (uR l)), none] = .ok (.list (((ts.map fun t => if l < t then l else t).map uR).map rt)) := by
    have e : ((ts.map fun t => if l < t then l else t).map uR).map rt = ts.map fun t => rt (uR (if l < t then l else t)) := by rw [List.map_map, List.map_map]; rfl
    rw [e]
    refine comp_of (w := fun t => rt (uR t)) (fun t => rt (uR (if l < t then l else t))) (by rw [List.map_map]; simp) (by have : sizeLine = 16777216 := rfl; omega) fun t ht => ?_
    have o := ok t ht
    have h := f_lesser ((uR_sz ⟨o.1, by omega⟩).sz (by decide)) zl
    rw [uR_min] at h
    generalize uR (if l < t then l else t) = x at *
    generalize uR t = y at *
    generalize (ts.map uR).map rt = tl at *
    simp [h]
  have ht := f_total_on (G := 55440) (B := 10 ^ 36) (qs := (ts.map fun t => if l < t then l else t).map uR) (by decide) (fun q hq => by
    obtain ⟨z, hz, rfl⟩ := List.mem_map.mp hq
    obtain ⟨t, ht, rfl⟩ := List.mem_map.mp hz
    have o := ok t ht
    refine (uR_on _).mono ?_
    split <;> omega) (Nat.lt_of_lt_of_le (show 55440 < 2 ^ 100 by decide) (Nat.pow_le_pow_right (by decide) (by decide))) (by
    rw [List.length_map, List.length_map]
    have h1 : ts.length * 10 ^ 36 ≤ 8 * 10 ^ 36 := Nat.mul_le_mul_right _ l8
    exact Nat.lt_of_le_of_lt h1 (Nat.lt_of_lt_of_le (show 8 * 10 ^ 36 < 2 ^ 200 by decide) (Nat.pow_le_pow_right (by decide) (by decide))))
  rw [uR_sum] at ht
  unfold upI
  generalize ((ts.map fun t => if l < t then l else t).map uR).map rt = ml at *
  generalize (ts.map fun t => if l < t then l else t).sum = s at *
  generalize (ts.map uR).map rt = tl at *
  simp [F_up_to, Mn.run, d_up_to, env0, hK, ht]
/-! ### the estates at which parts begin to grow otherwise -/
theorem cut_last (l : List D) : Mn.cutD l none (some (-1)) = l.dropLast := by
  unfold Mn.cutD
  rw [List.dropLast_eq_take]
  show (l.drop 0).take (((-1 : Int) + (l.length : Int)).toNat - 0) = _
  rw [List.drop_zero]
  congr 1
  omega
theorem up_on {G B : Nat} {qs : List Rat} {l : Rat} (g : 0 < G) (hG : G < 2 ^ 2000) (hB : 8 * B < 2 ^ 2000) (on : ∀ q ∈ qs, On G B q) (ol : On G B l) (l8 : qs.length ≤ 8) : F_up_to [.list (qs.map rt), rt l] = .ok (rt (sumQ (qs.map fun q => minQ q l))) := by
  have zl : Sz l := (ol.szn hG (by omega)).sz (Nat.le_refl _)
  have hK : denE K1_up_to [some (.list (qs.map rt)), some (rt l), none] = .ok (.list ((qs.map fun q => minQ q l).map rt)) := by
    rw [List.map_map]
    refine comp_of (w := rt) (fun q => rt (minQ q l)) rfl (Nat.le_trans l8 (by decide)) fun q hq => ?_
    have h := f_lesser (((on q hq).szn hG (by omega)).sz (Nat.le_refl _)) zl
    generalize rt (minQ q l) = x at *
    generalize rt q = y at *
    generalize rt l = w at *
    generalize qs.map rt = tl at *
    simp [h]
  have ht := f_total_on (G := G) (B := B) (qs := qs.map fun q => minQ q l) g (fun q hq => by
    obtain ⟨z, hz, rfl⟩ := List.mem_map.mp hq
    unfold minQ
    split
    · exact ol
    · exact on z hz) hG (by
    rw [List.length_map]
    exact Nat.lt_of_le_of_lt (Nat.mul_le_mul_right _ l8) hB)
  generalize (qs.map fun q => minQ q l).map rt = ml at *
  generalize sumQ (qs.map fun q => minQ q l) = s at *
  generalize qs.map rt = tl at *
  generalize rt l = w at *
  simp [F_up_to, Mn.run, d_up_to, env0, hK, ht]
def upsQ (qs : List Rat) : List Rat := (unlikeQ qs).dropLast.map fun l => sumQ (qs.map fun q => minQ q l)
def bendsQ : Ru → List Rat → List Rat
  | .ga, qs => upsQ qs
  | .lo, qs => (unlikeQ qs).dropLast.reverse.map fun l => sumQ (qs.map fun q => aboveQ q l)
  | .sh, _ => []
  | _, qs => upsQ (qs.map (· * halfR)) ++ (upsQ (qs.map (· * halfR))).reverse.map fun e => sumQ qs - e
theorem f_bends {G B : Nat} {qs : List Rat} (r : Ru) (hr : r ≠ .tu) (g : 0 < G) (hG : G * 2 < 2 ^ 1000) (hB : 16 * B < 2 ^ 1000) (on : ∀ q ∈ qs, On G B q) (l8 : qs.length ≤ 8) : F_bends [.str r.w, .list (qs.map rt)] = .ok (.list ((bendsQ r qs).map rt)) := by
  have p2 : 2 ^ 1000 ≤ 2 ^ 2000 := pow2_le (by decide)
  have zq : ∀ q ∈ qs, Sz q := fun q hq => ((on q hq).szn (n := 2000) (by omega) (by omega)).sz (Nat.le_refl _)
  have hun := f_unlike zq (by omega)
  have hd : ∀ {l : Rat}, l ∈ (unlikeQ qs).dropLast → l ∈ qs := fun h => unlike_mem _ (List.dropLast_subset _ h)
  have hcut : ∀ us : List Rat, slD (.list (us.map rt)) none (some (-1)) = .ok (.list (us.dropLast.map rt)) := fun us => by rw [ev_sl_l, cut_last, List.map_dropLast]
  have hsl := hcut (unlikeQ qs)
  have hlen : (unlikeQ qs).dropLast.length ≤ 8 := by
    rw [List.length_dropLast]
    have := unlike_len (qs := qs)
    omega
  cases r with
  | tu => exact absurd rfl hr
  | sh =>
    simp only [w_sh]
    show _ = R.ok (PyData.list [])
    generalize qs.map rt = Q at *
    simp [F_bends, Mn.run, d_bends, env0]
  | ga =>
    simp only [w_ga]
    have hK : ∀ a0 a2 a3 a4 a5 a7, denE K1_bends [a0, some (.list (qs.map rt)), a2, a3, a4, a5, none, a7] = .ok (.list ((upsQ qs).map rt)) := fun a0 a2 a3 a4 a5 a7 => by
      unfold upsQ
      rw [List.map_map]
      refine comp_of (w := rt) (fun l => rt (sumQ (qs.map fun q => minQ q l))) ?_ (Nat.le_trans hlen (by decide)) fun l hl => ?_
      · generalize (unlikeQ qs).dropLast.map rt = U at *
        generalize (unlikeQ qs).map rt = U2 at *
        generalize qs.map rt = Q at *
        simp [-ev_sl_l, hun, hsl]
      · have h := up_on g (by omega) (by omega) on (on l (hd hl)) l8
        generalize rt (sumQ (qs.map fun q => minQ q l)) = x at *
        generalize rt l = y at *
        generalize qs.map rt = Q at *
        simp [h]
    show _ = R.ok (PyData.list ((upsQ qs).map rt))
    generalize (upsQ qs).map rt = X at *
    generalize qs.map rt = Q at *
    simp [F_bends, Mn.run, d_bends, env0, hK]
  | lo =>
    simp only [w_lo]
    have hK : ∀ a0 a2 a3 a4 a7, denE K3_bends [a0, some (.list (qs.map rt)), a2, a3, a4, none, none, a7] = .ok (.list ((bendsQ .lo qs).map rt)) := fun a0 a2 a3 a4 a7 => by
      unfold bendsQ
      rw [List.map_map]
      refine comp_of (w := rt) (fun l => rt (sumQ (qs.map fun q => aboveQ q l))) ?_ (Nat.le_trans (by rw [List.length_reverse]; exact hlen) (by decide)) fun l hl => ?_
      · rw [List.map_reverse]
        generalize (unlikeQ qs).dropLast.map rt = U at *
        generalize (unlikeQ qs).map rt = U2 at *
        generalize qs.map rt = Q at *
        simp [-ev_sl_l, hun, hsl]
      · have ol := on l (hd (List.mem_reverse.mp hl))
        have zl : Sz l := (ol.szn (n := 2000) (by omega) (by omega)).sz (Nat.le_refl _)
        have hK2 : denE K2_bends [a0, some (.list (qs.map rt)), a2, a3, a4, none, some (rt l), a7] = .ok (.list ((qs.map fun q => aboveQ q l).map rt)) := by
          rw [List.map_map]
          refine comp_of (w := rt) (fun q => rt (aboveQ q l)) rfl (Nat.le_trans l8 (by decide)) fun q hq => ?_
          have h := f_above (zq q hq) zl
          generalize rt (aboveQ q l) = x at *
          generalize rt q = y at *
          generalize rt l = w at *
          generalize qs.map rt = tl at *
          simp [h]
        have ht := f_total_on (G := G) (B := B + B) (qs := qs.map fun q => aboveQ q l) g (fun q hq => by
          obtain ⟨z, hz, rfl⟩ := List.mem_map.mp hq
          unfold aboveQ
          split
          · exact (On.zero g).mono (by omega)
          · exact (on z hz).sub ol) (by omega) (by
          rw [List.length_map]
          exact Nat.lt_of_le_of_lt (Nat.mul_le_mul_right _ l8) (by omega))
        generalize (qs.map fun q => aboveQ q l).map rt = ml at *
        generalize rt (sumQ (qs.map fun q => aboveQ q l)) = x at *
        generalize rt l = y at *
        generalize qs.map rt = Q at *
        simp [hK2, ht]
    generalize (bendsQ .lo qs).map rt = X at *
    generalize qs.map rt = Q at *
    simp [F_bends, Mn.run, d_bends, env0, hK]
  | ha =>
    simp only [w_ha]
    have onh : ∀ q ∈ qs.map (· * halfR), On (G * 2) B q := fun q hq => by
      obtain ⟨z, hz, rfl⟩ := List.mem_map.mp hq
      exact on_half (on z hz)
    have zh : ∀ q ∈ qs.map (· * halfR), Sz q := fun q hq => ((onh q hq).szn (n := 2000) (by omega) (by omega)).sz (Nat.le_refl _)
    have l8h : (qs.map (· * halfR)).length ≤ 8 := by rw [List.length_map]; exact l8
    have hun2 := f_unlike zh (by omega)
    have hsl2 := hcut (unlikeQ (qs.map (· * halfR)))
    have hd2 : ∀ {l : Rat}, l ∈ (unlikeQ (qs.map (· * halfR))).dropLast → l ∈ qs.map (· * halfR) := fun h => unlike_mem _ (List.dropLast_subset _ h)
    have hlen2 : (unlikeQ (qs.map (· * halfR))).dropLast.length ≤ 8 := by
      rw [List.length_dropLast]
      have := unlike_len (qs := qs.map (· * halfR))
      omega
    have hK4 : ∀ a0 a2 a3 a4 a6 a7, denE K4_bends [a0, some (.list (qs.map rt)), a2, a3, a4, none, a6, a7] = .ok (.list ((qs.map (· * halfR)).map rt)) := fun a0 a2 a3 a4 a6 a7 => by
      rw [List.map_map]
      refine comp_of (w := rt) (fun q => rt (q * halfR)) rfl (Nat.le_trans l8 (by decide)) fun q hq => ?_
      have h := f_times (zq q hq) (zhalf.sz (by decide))
      generalize rt (q * halfR) = x at *
      generalize rt q = y at *
      generalize qs.map rt = tl at *
      simp [tup_half, h]
    have hK5 : ∀ a0 a1 a3 a4 a5 a7, denE K5_bends [a0, a1, some (.list ((qs.map (· * halfR)).map rt)), a3, a4, a5, none, a7] = .ok (.list ((upsQ (qs.map (· * halfR))).map rt)) := fun a0 a1 a3 a4 a5 a7 => by
      unfold upsQ
      rw [List.map_map (l := (unlikeQ _).dropLast)]
      refine comp_of (w := rt) (fun l => rt (sumQ ((qs.map (· * halfR)).map fun q => minQ q l))) ?_ (Nat.le_trans hlen2 (by decide)) fun l hl => ?_
      · generalize (unlikeQ (qs.map (· * halfR))).dropLast.map rt = U at *
        generalize (unlikeQ (qs.map (· * halfR))).map rt = U2 at *
        generalize (qs.map (· * halfR)).map rt = Q at *
        simp [-ev_sl_l, hun2, hsl2]
      · have h := up_on (show 0 < G * 2 by omega) (by omega) (by omega) onh (onh l (hd2 hl)) l8h
        generalize rt (sumQ ((qs.map (· * halfR)).map fun q => minQ q l)) = x at *
        generalize rt l = y at *
        generalize (qs.map (· * halfR)).map rt = Q at *
        simp [h]
    have ht := f_total_on g on (by omega) (Nat.lt_of_le_of_lt (Nat.mul_le_mul_right B l8) (by omega))
    have onE : ∀ e ∈ upsQ (qs.map (· * halfR)), On (G * 2) (8 * B) e := fun e he => by
      obtain ⟨l, hl, rfl⟩ := List.mem_map.mp he
      refine (On.sum (show 0 < G * 2 by omega) (B := B) fun q hq => ?_).mono (by rw [List.length_map, List.length_map]; exact Nat.mul_le_mul_right _ l8)
      obtain ⟨z, hz, rfl⟩ := List.mem_map.mp hq
      unfold minQ
      split
      · exact onh l (hd2 hl)
      · exact onh z hz
    have hul : (upsQ (qs.map (· * halfR))).length ≤ 8 := by unfold upsQ; rw [List.length_map]; exact hlen2
    have zt : Sz (sumQ qs) := (((On.sum g on).mono (Nat.mul_le_mul_right B l8)).szn (n := 2000) (by omega) (by omega)).sz (Nat.le_refl _)
    have hK6 : ∀ a0 a1 a2 a5 a6, denE K6_bends [a0, a1, a2, some (.list ((upsQ (qs.map (· * halfR))).map rt)), some (rt (sumQ qs)), a5, a6, none] = .ok (.list (((upsQ (qs.map (· * halfR))).reverse.map fun e => sumQ qs - e).map rt)) := fun a0 a1 a2 a5 a6 => by
      rw [List.map_map]
      refine comp_of (w := rt) (fun e => rt (sumQ qs - e)) ?_ (Nat.le_trans (by rw [List.length_reverse]; exact hul) (by decide)) fun e he => ?_
      · rw [List.map_reverse]
        generalize (upsQ (qs.map (· * halfR))).map rt = U at *
        simp
      · have h := f_minus zt (((onE e (List.mem_reverse.mp he)).szn (n := 2000) (by omega) (by omega)).sz (Nat.le_refl _))
        generalize rt (sumQ qs - e) = x at *
        generalize rt e = y at *
        generalize rt (sumQ qs) = w at *
        generalize (upsQ (qs.map (· * halfR))).map rt = U at *
        simp [h]
    have hcat : bop .add (.list ((upsQ (qs.map (· * halfR))).map rt)) (.list (((upsQ (qs.map (· * halfR))).reverse.map fun e => sumQ qs - e).map rt)) = .ok (.list ((bendsQ .ha qs).map rt)) := by
      rw [ev_cat, if_pos (by rw [List.length_map, List.length_map, List.length_map, List.length_reverse]; exact Nat.le_trans (show _ ≤ 16 by omega) (by decide))]
      unfold bendsQ
      rw [List.map_append]
    generalize (bendsQ .ha qs).map rt = X at *
    generalize ((upsQ (qs.map (· * halfR))).reverse.map fun e => sumQ qs - e).map rt = X2 at *
    generalize (upsQ (qs.map (· * halfR))).map rt = X1 at *
    generalize (qs.map (· * halfR)).map rt = H at *
    generalize rt (sumQ qs) = S at *
    generalize qs.map rt = Q at *
    simp [-ev_cat, F_bends, Mn.run, d_bends, env0, hK4, hK5, hK6, ht, hcat]
theorem on_between {G C D : Nat} {x y : Rat} (hx : On G C x) (hy : On G D y) (x0 : 0 ≤ x) (h : x ≤ y) : On G D x := by
  obtain ⟨g, k, rfl, h1⟩ := hx
  obtain ⟨_, m, rfl, h2⟩ := hy
  have h4 := (Rat.divInt_nonneg_iff_of_pos_right (a := k) (b := (G : Int)) (by omega)).mp x0
  have h5 : k ≤ m := by
    by_cases hk : k ≤ m
    · exact hk
    · have := (divInt_lt (a := m) (c := k) g).mpr (by omega)
      grind
  exact ⟨g, k, rfl, by omega⟩
/-! ### the knots of a path -/
theorem sum_btw {f : Rat → Rat} : ∀ {qs : List Rat}, (∀ q ∈ qs, 0 ≤ f q ∧ f q ≤ q) → 0 ≤ sumQ (qs.map f) ∧ sumQ (qs.map f) ≤ sumQ qs
  | [], _ => ⟨Rat.le_refl, Rat.le_refl⟩
  | q :: qs, h => by
    have h1 := h q List.mem_cons_self
    have h2 := sum_btw fun z hz => h z (List.mem_cons_of_mem _ hz)
    show 0 ≤ f q + sumQ (qs.map f) ∧ f q + sumQ (qs.map f) ≤ q + sumQ qs
    grind
theorem on_sumf {G : Nat} (g : 0 < G) {f : Rat → Rat} : ∀ {qs : List Rat}, (∀ q ∈ qs, ∃ C, On G C (f q)) → ∃ C, On G C (sumQ (qs.map f))
  | [], _ => ⟨0, On.zero g⟩
  | q :: qs, h => by
    obtain ⟨C, h1⟩ := h q List.mem_cons_self
    obtain ⟨D, h2⟩ := on_sumf g fun z hz => h z (List.mem_cons_of_mem _ hz)
    exact ⟨_, h1.add h2⟩
theorem min_btw {q l : Rat} (h : 0 ≤ q) (k : 0 ≤ l) : 0 ≤ minQ q l ∧ minQ q l ≤ q := by unfold minQ; grind
theorem above_btw {q l : Rat} (h : 0 ≤ q) (k : 0 ≤ l) : 0 ≤ aboveQ q l ∧ aboveQ q l ≤ q := by unfold aboveQ; grind
theorem on_mins {G B C : Nat} {q l : Rat} (h : On G B q) (k : On G C l) : ∃ D, On G D (minQ q l) := by
  unfold minQ
  split
  · exact ⟨_, k⟩
  · exact ⟨_, h⟩
theorem bends_on {G B : Nat} {qs : List Rat} (r : Ru) (hr : r ≠ .tu) (g : 0 < G) (on : ∀ q ∈ qs, On G B q) (nn : ∀ q ∈ qs, 0 ≤ q) : ∀ e ∈ bendsQ r qs, (∃ C, On (G * 2) C e) ∧ 0 ≤ e ∧ e ≤ sumQ qs := fun e he => by
  have g2 : 0 < G * 2 := by omega
  have on2 : ∀ q ∈ qs, On (G * 2) (B * 2) q := fun q hq => (on q hq).up 2 (by decide)
  have hd : ∀ {l : Rat}, l ∈ (unlikeQ qs).dropLast → l ∈ qs := fun h => unlike_mem _ (List.dropLast_subset _ h)
  cases r with
  | tu => exact absurd rfl hr
  | sh => cases he
  | ga =>
    obtain ⟨l, hl, rfl⟩ := List.mem_map.mp he
    have hl := hd hl
    exact ⟨on_sumf g2 fun q hq => on_mins (on2 q hq) (on2 l hl), sum_btw fun q hq => min_btw (nn q hq) (nn l hl)⟩
  | lo =>
    obtain ⟨l, hl, rfl⟩ := List.mem_map.mp he
    have hl := hd (List.mem_reverse.mp hl)
    exact ⟨on_sumf g2 fun q hq => by
      unfold aboveQ
      split
      · exact ⟨_, On.zero g2⟩
      · exact ⟨_, (on2 q hq).sub (on2 l hl)⟩, sum_btw fun q hq => above_btw (nn q hq) (nn l hl)⟩
  | ha =>
    have early : ∀ e ∈ upsQ (qs.map (· * halfR)), (∃ C, On (G * 2) C e) ∧ 0 ≤ e ∧ e ≤ sumQ qs := fun e he => by
      obtain ⟨l, hl, rfl⟩ := List.mem_map.mp he
      obtain ⟨m, hm, rfl⟩ := List.mem_map.mp (unlike_mem _ (List.dropLast_subset _ hl))
      rw [List.map_map]
      refine ⟨on_sumf g2 fun q hq => on_mins (on_half (on q hq)) (on_half (on m hm)), sum_btw fun q hq => ?_⟩
      have h1 := min_btw (half_nn (nn q hq)) (half_nn (nn m hm))
      have h2 := half_eq q
      have h3 := half_nn (nn q hq)
      show 0 ≤ minQ (q * halfR) (m * halfR) ∧ minQ (q * halfR) (m * halfR) ≤ q
      grind
    have os := On.sum g2 on2
    unfold bendsQ at he
    rcases List.mem_append.mp he with he | he
    · exact early e he
    · obtain ⟨d, hd, rfl⟩ := List.mem_map.mp he
      obtain ⟨⟨C, h1⟩, h2, h3⟩ := early d (List.mem_reverse.mp hd)
      exact ⟨⟨_, os.sub h1⟩, by grind, by grind⟩
theorem lf_rts : ∀ qs : List Rat, nwB (.list (qs.map rt)) = true
  | [] => rfl
  | q :: qs => (show (lf (rt q) && lfAll (qs.map rt)) = true by rw [show lfAll (qs.map rt) = true from lf_rts qs]; rfl)
theorem lf_rt (q : Rat) : nwB (rt q) = true := rfl
def knotsQ (r : Ru) (qs : List Rat) : List Rat := if sumQ qs = 0 then [0] else 0 :: bendsQ r qs ++ [sumQ qs]
theorem bends_len (r : Ru) (qs : List Rat) (l8 : qs.length ≤ 8) : (bendsQ r qs).length ≤ 16 := by
  have h : ∀ ps : List Rat, ps.length ≤ 8 → (upsQ ps).length ≤ 8 := fun ps h => by
    unfold upsQ
    rw [List.length_map, List.length_dropLast]
    have := unlike_len (qs := ps)
    omega
  have h1 := h qs l8
  have h2 := h (qs.map (· * halfR)) (by rw [List.length_map]; exact l8)
  have h3 := unlike_len (qs := qs)
  cases r <;> unfold bendsQ <;> simp <;> omega
theorem knot_est {G B : Nat} {qs : List Rat} (r : Ru) (hr : r ≠ .tu) (g : 0 < G) (hG : G < 2 ^ 150) (hB : B < 2 ^ 140) (on : ∀ q ∈ qs, On G B q) (nn : ∀ q ∈ qs, 0 ≤ q) (l8 : qs.length ≤ 8) : ∀ e ∈ knotsQ r qs, EstH (G * 2) (B * 2) qs e := fun e he => by
  have g2 : 0 < G * 2 := by omega
  have on2 : ∀ q ∈ qs, On (G * 2) (B * 2) q := fun q hq => (on q hq).up 2 (by decide)
  have os := (On.sum g2 on2).mono (show qs.length * (B * 2) ≤ 8 * (B * 2) from Nat.mul_le_mul_right _ l8)
  have s0 : 0 ≤ sumQ qs := by
    have := (sum_btw (f := fun q => q) (qs := qs) fun q hq => ⟨nn q hq, Rat.le_refl⟩).1
    rwa [List.map_id'] at this
  have key : (∃ C, On (G * 2) C e) ∧ 0 ≤ e ∧ e ≤ sumQ qs := by
    unfold knotsQ at he
    split at he
    · rcases List.mem_singleton.mp he with rfl
      exact ⟨⟨_, On.zero g2⟩, Rat.le_refl, s0⟩
    · rcases List.mem_append.mp he with he | he
      · rcases List.mem_cons.mp he with rfl | he
        · exact ⟨⟨_, On.zero g2⟩, Rat.le_refl, s0⟩
        · exact bends_on r hr g on nn e he
      · rcases List.mem_singleton.mp he with rfl
        exact ⟨⟨_, os⟩, s0, Rat.le_refl⟩
  obtain ⟨⟨C, hC⟩, h0, h1⟩ := key
  have p1 : 2 ^ 151 ≤ 2 ^ 160 := pow2_le (by decide)
  have p2 : 2 ^ 141 ≤ 2 ^ 150 := pow2_le (by decide)
  have q1 : 2 ^ 151 = 2 * 2 ^ 150 := by rw [← Nat.pow_succ']
  have q2 : 2 ^ 141 = 2 * 2 ^ 140 := by rw [← Nat.pow_succ']
  have q3 : 2 ^ 152 = 4 * 2 ^ 150 := by rw [show (4 : Nat) = 2 ^ 2 from rfl, ← Nat.pow_add]
  have q4 : 2 ^ 143 = 8 * 2 ^ 140 := by rw [show (8 : Nat) = 2 ^ 3 from rfl, ← Nat.pow_add]
  have p3 : 2 ^ 152 ≤ 2 ^ 400 := pow2_le (by decide)
  have p4 : 2 ^ 143 ≤ 2 ^ 400 := pow2_le (by decide)
  exact ⟨⟨g2, on2, on_between hC os h0 h1, by omega, by omega, l8, nn, h0, h1⟩, by omega, by omega, by omega, by omega⟩
theorem f_path {G B : Nat} {qs : List Rat} (r : Ru) (hr : r ≠ .tu) (g : 0 < G) (hG : G < 2 ^ 150) (hB : B < 2 ^ 140) (on : ∀ q ∈ qs, On G B q) (nn : ∀ q ∈ qs, 0 ≤ q) (l8 : qs.length ≤ 8) :
    F_path [.str r.w, .list (qs.map rt)] = .ok (.list ((knotsQ r qs).map fun e => .tuple [rt e, .list ((r.q qs e).map rt)])) := by
  have cp := f_check_path r hr l8 nn
  have p1 : 2 ^ 151 ≤ 2 ^ 1000 := pow2_le (by decide)
  have q1 : 2 ^ 151 = 2 * 2 ^ 150 := by rw [← Nat.pow_succ']
  have p2 : 2 ^ 144 ≤ 2 ^ 1000 := pow2_le (by decide)
  have q2 : 2 ^ 144 = 16 * 2 ^ 140 := by rw [show (16 : Nat) = 2 ^ 4 from rfl, ← Nat.pow_add]
  have p3 : 2 ^ 1000 ≤ 2 ^ 2000 := pow2_le (by decide)
  have hb := f_bends r hr g (show G * 2 < 2 ^ 1000 by omega) (show 16 * B < 2 ^ 1000 by omega) on l8
  have ht := f_total_on g on (by omega) (Nat.lt_of_le_of_lt (Nat.mul_le_mul_right B l8) (by omega))
  have E := knot_est r hr g hG hB on nn l8
  have hbl := bends_len r qs l8
  have hkl : (knotsQ r qs).length ≤ 18 := by
    unfold knotsQ
    split
    · exact Nat.le_trans (Nat.le_refl 1) (by decide)
    · rw [List.length_append, List.length_cons, List.length_singleton]
      omega
  have hK : denN d_path.ret [some (.str r.w), some (.list (qs.map rt)), some (.list ((knotsQ r qs).map rt)), none] = .ok (.list ((knotsQ r qs).map fun e => .tuple [rt e, .list ((r.q qs e).map rt)])) := by
    have hf : ∀ ks : List Rat, (∀ e ∈ ks, EstH (G * 2) (B * 2) qs e) → filt (compN [3] [3] false .nil (denN (.tp (.st (.var 3)) (.fr (.call false F_shared "shared" (.cons (.var 0) (.cons (.var 1) (.cons (.var 3) .nil))))))) [some (.str r.w), some (.list (qs.map rt)), some (.list ((knotsQ r qs).map rt)), none]) (ks.map rt) = .ok (ks.map fun e => .tuple [rt e, .list ((r.q qs e).map rt)]) := by
      intro ks
      induction ks with
      | nil => intro _; rfl
      | cons e ks ih =>
        intro he
        have ih := ih fun x hx => he x (List.mem_cons_of_mem _ hx)
        have h := (he e List.mem_cons_self).shared r
        have l1 := lf_rt e
        have l2 := lf_rts (r.q qs e)
        have l3 : lf (rt e) = true := rfl
        rw [List.map_cons, List.map_cons]
        show (compN _ _ _ _ _ _ (rt e) >>= fun o => filt _ (ks.map rt) >>= fun r => R.ok (match o with | some y => y :: r | none => r)) = _
        rw [ih]
        have hc : compN [3] [3] false .nil (denN (.tp (.st (.var 3)) (.fr (.call false F_shared "shared" (.cons (.var 0) (.cons (.var 1) (.cons (.var 3) .nil))))))) [some (.str r.w), some (.list (qs.map rt)), some (.list ((knotsQ r qs).map rt)), none] (rt e) = .ok (some (.tuple [rt e, .list ((r.q qs e).map rt)])) := by
          generalize PyData.list ((r.q qs e).map rt) = x at *
          generalize rt e = y at *
          generalize r.w = w at *
          generalize PyData.list (qs.map rt) = Q at *
          generalize PyData.list ((knotsQ r qs).map rt) = KK at *
          simp [compN, h, l2, l3]
        rw [hc]
        rfl
    have hi : denI (.iSeq (.var 2)) [some (.str r.w), some (.list (qs.map rt)), some (.list ((knotsQ r qs).map rt)), none] = .ok ((knotsQ r qs).map rt) := rfl
    have hs := hf (knotsQ r qs) E
    show (denI (.iSeq (.var 2)) [some (.str r.w), some (.list (qs.map rt)), some (.list ((knotsQ r qs).map rt)), none] >>= fun ds => noexc (filt (compN [3] [3] false .nil _ _) ds) >>= fun r => if r.length ≤ sizeLine then R.ok (PyData.list r) else .bad) = _
    rw [hi, ok_bind, hs]
    show (if ((knotsQ r qs).map fun e => PyData.tuple [rt e, .list ((r.q qs e).map rt)]).length ≤ sizeLine then R.ok (PyData.list ((knotsQ r qs).map fun e => .tuple [rt e, .list ((r.q qs e).map rt)])) else .bad) = _
    rw [List.length_map, if_pos (Nat.le_trans hkl (by decide))]
  have hz : ceq (rt (sumQ qs)) (rt 0) = .ok (decide (sumQ qs = 0)) := ceq_rt
  by_cases h0 : sumQ qs = 0
  · have hk0 : (knotsQ r qs).map rt = [rt 0] := by
      unfold knotsQ
      rw [if_pos h0]
      rfl
    rw [decide_eq_true h0] at hz
    rw [hk0] at hK
    clear E hkl hbl hb h0 hk0
    generalize PyData.list ((knotsQ r qs).map fun e => .tuple [rt e, .list ((r.q qs e).map rt)]) = K at *
    generalize rt (sumQ qs) = S at *
    generalize r.w = w at *
    generalize PyData.list (qs.map rt) = Q at *
    have fin : ∀ ρ, denS d_path.pre [some (.str w), some Q, none, none] = .next ρ → denN d_path.ret ρ = .ok K → F_path [.str w, Q] = .ok K := fun ρ h1 h2 => by
      show endN d_path.ret (denS d_path.pre [some (.str w), some Q, none, none]) = _
      rw [h1]
      exact h2
    refine fin _ ?_ hK
    simp [d_path, cp, ht, hz]
  · have hk0 : (knotsQ r qs).map rt = [rt 0] ++ (bendsQ r qs).map rt ++ [rt (sumQ qs)] := by
      unfold knotsQ
      rw [if_neg h0, List.map_append]
      rfl
    have c1 : bop .add (.list [rt 0]) (.list ((bendsQ r qs).map rt)) = .ok (.list ([rt 0] ++ (bendsQ r qs).map rt)) := by
      rw [ev_cat, if_pos (by rw [List.length_map, List.length_singleton]; exact Nat.le_trans (show _ ≤ 17 by omega) (by decide))]
    have c2 : bop .add (.list ([rt 0] ++ (bendsQ r qs).map rt)) (.list [rt (sumQ qs)]) = .ok (.list ((knotsQ r qs).map rt)) := by
      rw [hk0, ev_cat, if_pos (by rw [List.length_append, List.length_map, List.length_singleton, List.length_singleton]; exact Nat.le_trans (show _ ≤ 18 by omega) (by decide))]
    rw [decide_eq_false h0] at hz
    clear E hkl hbl h0 hk0
    generalize PyData.list ((knotsQ r qs).map fun e => .tuple [rt e, .list ((r.q qs e).map rt)]) = K at *
    generalize (knotsQ r qs).map rt = K2 at *
    generalize PyData.list ([rt 0] ++ (bendsQ r qs).map rt) = K3 at *
    generalize (bendsQ r qs).map rt = K4 at *
    generalize rt (sumQ qs) = S at *
    generalize r.w = w at *
    generalize PyData.list (qs.map rt) = Q at *
    have fin : ∀ ρ, denS d_path.pre [some (.str w), some Q, none, none] = .next ρ → denN d_path.ret ρ = .ok K → F_path [.str w, Q] = .ok K := fun ρ h1 h2 => by
      show endN d_path.ret (denS d_path.pre [some (.str w), some Q, none, none]) = _
      rw [h1]
      exact h2
    refine fin _ ?_ hK
    simp [-ev_cat, d_path, cp, ht, hz, hb, c1, c2]
theorem f__law_cell_at (ns : List Int) (k : Nat) : F__law_cell_at [.list (ns.map .int), .int k] = .ok (.int (cellI ns k)) := by
  by_cases h : k < ns.length
  · have h1 : (ns.map (PyData.int))[k]? = some (.int ns[k]) := by simp [h]
    simp [F__law_cell_at, Mn.run, d__law_cell_at, env0, h, ix_nat h1, cellI]
  · simp [F__law_cell_at, Mn.run, d__law_cell_at, env0, h, cellI]
def cellN (ns : List Int) (i : Nat) : Int := cellI ns (1 + i) + 16 * (i : Int)
def unitI (c : Int) : Int := 55440 / (1 + c / 8 % 12)
def nextI (ns : List Int) (cs : List Int) (i : Nat) : Int :=
  if cellN ns i % 8 = 4 ∧ cellN ns i / 8 % 3 = 0 then 0
  else if cellN ns i % 8 = 2 ∧ 0 < i then cs.getD (cellN ns i / 8 % (i : Int)).toNat 0
  else if cellN ns i % 8 = 1 then cellN ns i / 8 / 12 % 10 ^ 30 * unitI (cellN ns i)
  else (1 + cellN ns i / 8 / 12 % 12) * unitI (cellN ns i)
def claimsI (ns : List Int) : Nat → List Int
  | 0 => []
  | i + 1 => claimsI ns i ++ [nextI ns (claimsI ns i) i]
theorem claimsI_len (ns : List Int) : ∀ i, (claimsI ns i).length = i
  | 0 => rfl
  | i + 1 => by
    show (claimsI ns i ++ [_]).length = _
    rw [List.length_append, claimsI_len ns i]
    rfl
theorem unit_ok (c : Int) : 0 ≤ unitI c ∧ unitI c ≤ 55440 ∧ unitI c % 2 = 0 := by
  unfold unitI
  have h : 0 ≤ c / 8 % 12 ∧ c / 8 % 12 < 12 := by omega
  generalize c / 8 % 12 = d at h
  have h2 : d = 0 ∨ d = 1 ∨ d = 2 ∨ d = 3 ∨ d = 4 ∨ d = 5 ∨ d = 6 ∨ d = 7 ∨ d = 8 ∨ d = 9 ∨ d = 10 ∨ d = 11 := by omega
  rcases h2 with rfl | rfl | rfl | rfl | rfl | rfl | rfl | rfl | rfl | rfl | rfl | rfl <;> decide
theorem prod_ok {x u : Int} (hx : 0 ≤ x ∧ x ≤ 10 ^ 30) (hu : 0 ≤ u ∧ u ≤ 55440 ∧ u % 2 = 0) : (0 ≤ x * u ∧ x * u < 10 ^ 36) ∧ x * u % 2 = 0 := by
  obtain ⟨s, rfl⟩ : ∃ s, u = 2 * s := ⟨u / 2, by omega⟩
  have h1 : x * (2 * s) ≤ 10 ^ 30 * 55440 := Int.mul_le_mul hx.2 hu.2.1 hu.1 (by decide)
  have h2 : 0 ≤ x * (2 * s) := Int.mul_nonneg hx.1 hu.1
  refine ⟨⟨h2, by omega⟩, ?_⟩
  rw [Int.mul_left_comm]
  omega
theorem claimsI_ok (ns : List Int) : ∀ i, ∀ t ∈ claimsI ns i, (0 ≤ t ∧ t < 10 ^ 36) ∧ t % 2 = 0
  | 0, t, h => by cases h
  | i + 1, t, h => by
    rcases List.mem_append.mp h with h | h
    · exact claimsI_ok ns i t h
    · rw [List.mem_singleton.mp h]
      have hu := unit_ok (cellN ns i)
      have b1 : 0 ≤ cellN ns i / 8 / 12 % 10 ^ 30 ∧ cellN ns i / 8 / 12 % 10 ^ 30 ≤ 10 ^ 30 := by omega
      have b2 : 0 ≤ 1 + cellN ns i / 8 / 12 % 12 ∧ 1 + cellN ns i / 8 / 12 % 12 ≤ 10 ^ 30 := by omega
      have k1 := prod_ok b1 hu
      have k2 := prod_ok b2 hu
      unfold nextI
      split
      · exact ⟨⟨by decide, by decide⟩, by decide⟩
      · split
        · rename_i hc
          have hm0 := Int.emod_nonneg (cellN ns i / 8) (show (i : Int) ≠ 0 by omega)
          have hm1 := Int.emod_lt_of_pos (cellN ns i / 8) (show (0 : Int) < i by omega)
          have hl := claimsI_len ns i
          have hlt : (cellN ns i / 8 % (i : Int)).toNat < (claimsI ns i).length := by omega
          have hg : (claimsI ns i).getD (cellN ns i / 8 % (i : Int)).toNat 0 = (claimsI ns i)[(cellN ns i / 8 % (i : Int)).toNat] := by simp [hlt]
          rw [hg]
          exact claimsI_ok ns i _ (List.getElem_mem hlt)
        · split
          · exact k1
          · exact k2
theorem s__law_claims (ns : List Int) (i : Nat) (hi : i < 9) (cnt : Int) :
    wipeO [5, 4, 8, 6, 7] ((bindT [4] false (.int (i : Int)) [some (.list (ns.map .int)), some (.int 0), some (.list ((claimsI ns i).map .int)), some (.int cnt), none, none, none, none, none]).ot (denS B1__law_claims)) =
      .next [some (.list (ns.map .int)), some (.int 0), some (.list ((claimsI ns (i + 1)).map .int)), some (.int cnt), none, none, none, none, none] := by
  have hcell := f__law_cell_at ns (1 + i)
  have hcell : F__law_cell_at [.list (ns.map .int), .int (1 + (i : Int))] = .ok (.int (cellI ns (1 + i))) := by
    have e : ((1 + i : Nat) : Int) = 1 + (i : Int) := by omega
    rwa [e] at hcell
  have m16 : mulOk 16 (i : Int) = true := mulOk_l (by decide)
  have hl := claimsI_len ns i
  have hll : ((claimsI ns i).map PyData.int).length < sizeLine := by
    rw [List.length_map, hl]
    have : sizeLine = 16777216 := rfl
    omega
  have hnew : (claimsI ns (i + 1)).map PyData.int = (claimsI ns i).map PyData.int ++ [.int (nextI ns (claimsI ns i) i)] := by
    show (claimsI ns i ++ [_]).map PyData.int = _
    rw [List.map_append]
    rfl
  have hc : cellI ns (1 + i) + 16 * (i : Int) = cellN ns i := rfl
  have hixm : 0 < i → ixD (.list ((claimsI ns i).map .int)) (.int (cellN ns i / 8 % (i : Int))) = .ok (.int ((claimsI ns i).getD (cellN ns i / 8 % (i : Int)).toNat 0)) := fun h => by
    have hm0 := Int.emod_nonneg (cellN ns i / 8) (show (i : Int) ≠ 0 by omega)
    have hm1 := Int.emod_lt_of_pos (cellN ns i / 8) (show (0 : Int) < i by omega)
    have hlt : (cellN ns i / 8 % (i : Int)).toNat < (claimsI ns i).length := by omega
    have hg : (claimsI ns i).getD (cellN ns i / 8 % (i : Int)).toNat 0 = (claimsI ns i)[(cellN ns i / 8 % (i : Int)).toNat] := by simp [hlt]
    have e : cellN ns i / 8 % (i : Int) = (((cellN ns i / 8 % (i : Int)).toNat : Nat) : Int) := by omega
    rw [hg]
    conv => lhs; rw [e]
    exact ix_nat (by simp [hlt])
  have rmi : 0 < i → bop .mod (.int (cellN ns i / 8)) (.int (i : Int)) = .ok (.int (cellN ns i / 8 % (i : Int))) := fun h => ev_modp (by omega)
  have d8 : bop .fdiv (.int (cellN ns i)) (.int 8) = .ok (.int (cellN ns i / 8)) := ev_fdivp (by decide) (by decide)
  have r8 : bop .mod (.int (cellN ns i)) (.int 8) = .ok (.int (cellN ns i % 8)) := ev_modp (by decide)
  have r12 : bop .mod (.int (cellN ns i / 8)) (.int 12) = .ok (.int (cellN ns i / 8 % 12)) := ev_modp (by decide)
  have du : bop .fdiv (.int 55440) (.int (1 + cellN ns i / 8 % 12)) = .ok (.int (unitI (cellN ns i))) := ev_fdivp (by omega) (by omega)
  have d12 : bop .fdiv (.int (cellN ns i / 8)) (.int 12) = .ok (.int (cellN ns i / 8 / 12)) := ev_fdivp (by decide) (by decide)
  have r12b : bop .mod (.int (cellN ns i / 8 / 12)) (.int 12) = .ok (.int (cellN ns i / 8 / 12 % 12)) := ev_modp (by decide)
  have r3 : bop .mod (.int (cellN ns i / 8)) (.int 3) = .ok (.int (cellN ns i / 8 % 3)) := ev_modp (by decide)
  have p30 : bop .pow (.int 10) (.int 30) = .ok (.int (10 ^ 30)) := rfl
  have r30 : bop .mod (.int (cellN ns i / 8 / 12)) (.int (10 ^ 30)) = .ok (.int (cellN ns i / 8 / 12 % 10 ^ 30)) := ev_modp (by decide)
  have hu := unit_ok (cellN ns i)
  have mm : ∀ x, mulOk x (unitI (cellN ns i)) = true := fun x => mulOk_r (by omega)
  have hi0 : ((i : Int) > 0) = (0 < i) := propext (by omega)
  rw [hnew]
  unfold nextI
  clear hnew hl
  generalize (10 : Int) ^ 30 = big at *
  generalize cellN ns i / 8 / 12 % big = x30 at *
  generalize cellN ns i / 8 / 12 % 12 = x12 at *
  generalize cellN ns i / 8 / 12 = x at *
  generalize (claimsI ns i).getD (cellN ns i / 8 % (i : Int)).toNat 0 = old at *
  generalize cellN ns i / 8 % (i : Int) = mi at *
  generalize cellN ns i / 8 % 12 = d at *
  generalize cellN ns i / 8 % 3 = t3 at *
  generalize cellN ns i / 8 = rest at *
  generalize cellN ns i % 8 = w at *
  generalize unitI (cellN ns i) = u at *
  generalize (claimsI ns i).map PyData.int = cl at *
  generalize ns.map PyData.int = nl at *
  generalize cellN ns i = c at *
  generalize cellI ns (1 + i) = c1 at *
  generalize hI : (i : Int) = I at *
  by_cases h4 : w = 4
  · by_cases h3 : t3 = 0
    · simp [-ev_fdiv, -ev_fdivp, -ev_mod, -ev_modp, -ev_pow, -ev_ix_l, B1__law_claims, hcell, m16, hc, d8, r12, du, d12, r12b, mm, r8, h4, h3, r3, hll]
    · simp [-ev_fdiv, -ev_fdivp, -ev_mod, -ev_modp, -ev_pow, -ev_ix_l, B1__law_claims, hcell, m16, hc, d8, r12, du, d12, r12b, mm, r8, h4, h3, r3, hll]
  · by_cases h1 : w = 1
    · simp [-ev_fdiv, -ev_fdivp, -ev_mod, -ev_modp, -ev_pow, -ev_ix_l, B1__law_claims, hcell, m16, hc, d8, r12, du, d12, r12b, mm, r8, h1, p30, r30, hll]
    · by_cases h2 : w = 2
      · by_cases hp : 0 < i
        · have hp' : 0 < I := by omega
          have k1 := hixm hp
          have k2 := rmi hp
          simp [-ev_fdiv, -ev_fdivp, -ev_mod, -ev_modp, -ev_pow, -ev_ix_l, B1__law_claims, hcell, m16, hc, d8, r12, du, d12, r12b, mm, r8, h2, hp, hp', k1, k2, hll]
        · have hp' : ¬ 0 < I := by omega
          simp [-ev_fdiv, -ev_fdivp, -ev_mod, -ev_modp, -ev_pow, -ev_ix_l, B1__law_claims, hcell, m16, hc, d8, r12, du, d12, r12b, mm, r8, h2, hp, hp', hll]
      · simp [-ev_fdiv, -ev_fdivp, -ev_mod, -ev_modp, -ev_pow, -ev_ix_l, B1__law_claims, hcell, m16, hc, d8, r12, du, d12, r12b, mm, r8, h1, h2, h4, hll]
theorem f__law_claims (ns : List Int) : ∃ n : Nat, n ≤ 8 ∧ F__law_claims [.list (ns.map .int), .int 0] = .ok (.list ((claimsI ns n).map .int)) := by
  have hcell : F__law_cell_at [.list (ns.map .int), .int 0] = .ok (.int (cellI ns 0)) := f__law_cell_at ns 0
  have r9 : bop .mod (.int (cellI ns 0)) (.int 9) = .ok (.int (cellI ns 0 % 9)) := ev_modp (by decide)
  have b9 : 0 ≤ cellI ns 0 % 9 ∧ cellI ns 0 % 9 < 9 := by omega
  obtain ⟨n, hn⟩ : ∃ n : Nat, cellI ns 0 % 9 = (n : Int) := ⟨(cellI ns 0 % 9).toNat, by omega⟩
  rw [hn] at r9 b9
  refine ⟨n, by omega, ?_⟩
  have h62 : small62 (n : Int) = true := sm62_nat (by omega)
  have hI : denI I1__law_claims [some (.list (ns.map .int)), some (.int 0), some (.list []), some (.int (n : Int)), none, none, none, none, none] = .ok (rgL 0 n) := by simp [I1__law_claims, h62]
  have hrl : (rgL 0 n).length = n := by simp [rgL]
  have lp := for_acc (fg := [5, 4, 8, 6, 7]) (tg := [4]) (tup := false) (body := denS B1__law_claims) (fun i => [some (.list (ns.map .int)), some (.int 0), some (.list ((claimsI ns i).map .int)), some (.int (n : Int)), none, none, none, none, none]) (rgL 0 n) (fun i d hd => by
    have hlt : i < n := by
      have := (List.getElem?_eq_some_iff.mp hd).1
      rwa [hrl] at this
    have hd2 : d = .int (i : Int) := by
      have : (rgL 0 n)[i]? = some (.int (i : Int)) := by simp [rgL, hlt]
      rw [this] at hd
      injection hd with hd
      exact hd.symm
    subst hd2
    exact s__law_claims ns i (by omega) _) (fun _ => rfl) [some (.list (ns.map .int)), some (.int 0), some (.list []), some (.int (n : Int)), none, none, none, none, none] rfl
  rw [hrl] at lp
  generalize rgL 0 n = rg at *
  generalize (claimsI ns n).map PyData.int = cl at *
  generalize ns.map PyData.int = nl at *
  generalize cellI ns 0 = c0 at *
  generalize (n : Int) = N at *
  simp [-ev_mod, -ev_modp, F__law_claims, Mn.run, d__law_claims, env0, hcell, r9, hI, lp]
theorem w__law_ratio (n : Nat) : ∀ (X Y Z : Option D) (a b : Int), 0 ≤ a → 0 ≤ b → b.natAbs < n →
    whlO [4] (fun ρ => denE C1__law_ratio ρ >>= asBool) (denS B1__law_ratio) n [X, Y, some (.int a), some (.int b), Z] = .next [X, Y, some (.int (Int.gcd a b)), some (.int 0), none] := by
  induction n with
  | zero => intro X Y Z a b _ _ h; omega
  | succ n ih =>
    intro X Y Z a b ha hb h
    by_cases hb0 : b = 0
    · subst hb0
      simp [whlO, C1__law_ratio]
      omega
    · have hp : 0 < b := by omega
      have h2 : a.fmod b < b := Int.fmod_lt_of_pos a hp
      have h1 : 0 ≤ a.fmod b := Int.fmod_nonneg_of_pos a hp
      have ih := ih X Y (some (.int (a % b))) b (a.fmod b) hb h1 (by omega)
      rw [nat_gcd_mod a b hp, fmod_pos hp] at ih
      rw [← ih]
      simp [whlO, C1__law_ratio, B1__law_ratio, hp, hb0]
theorem f__law_ratio (a b : Int) (hb : 0 < b) (h : b.natAbs.log2 < 9000) : F__law_ratio [.int a, .int b] = .ok (rt (Rat.divInt a b)) := by
  have hb' : b ≠ 0 := by omega
  have hg := gcd_small hb' h (a := a)
  have hg0 : Int.gcd a b ≠ 0 := fun e => hb' (Int.gcd_eq_zero_iff.mp e).2
  have hw := w__law_ratio (fuelE [some (.int a), some (.int b), some (.int a.natAbs), some (.int b), none]) (some (.int a)) (some (.int b)) none a.natAbs b (by omega) (by omega) (by simp [fuelE, sizeD1]; omega)
  have e : Int.gcd (a.natAbs : Int) b = Int.gcd a b := rfl
  rw [e] at hw
  simp [F__law_ratio, Mn.run, d__law_ratio, env0, hw, hg, hg0, num_pos hb, den_pos hb, rt]
/-! ### laws of the rules -/
theorem rising_perm {ps qs : List Rat} (h : ps.Perm qs) : risingQ ps = risingQ qs :=
  List.Perm.eq_of_pairwise (le := (· ≤ ·)) (fun a b _ _ h1 h2 => Rat.le_antisymm h1 h2) (risingQ_sorted ps) (risingQ_sorted qs) ((risingQ_perm ps).trans (h.trans (risingQ_perm qs).symm))
theorem gain_perm {ps qs : List Rat} (h : ps.Perm qs) (e : Rat) : gainQ ps e = gainQ qs e := by
  unfold gainQ
  rw [rising_perm h]
theorem loss_perm {ps qs : List Rat} (h : ps.Perm qs) (e : Rat) : lossQ ps e = lossQ qs e := by
  unfold lossQ
  rw [rising_perm h]
theorem Ru.f_perm (r : Ru) {ps qs : List Rat} (h : ps.Perm qs) (e q : Rat) : r.f ps e q = r.f qs e q := by
  have hs := sumQ_perm h
  cases r with
  | sh => show (if sumQ ps = 0 then 0 else q * (e / sumQ ps)) = if sumQ qs = 0 then 0 else q * (e / sumQ qs); rw [hs]
  | ga => show minQ q (gainQ ps e) = minQ q (gainQ qs e); rw [gain_perm h]
  | lo => show aboveQ q (lossQ ps e) = aboveQ q (lossQ qs e); rw [loss_perm h]
  | ha =>
    have hp : partH ps e q = partH qs e q := by
      unfold partH evenQ
      rw [hs, gain_perm (show (halvesQ ps).Perm (halvesQ qs) from h.map _)]
    show (if sumQ ps - e < e then q - partH ps e q else partH ps e q) = if sumQ qs - e < e then q - partH qs e q else partH qs e q
    rw [hs, hp]
  | tu => exact turn_perm (h.erase q)
theorem sum_le_of {f g : Rat → Rat} : ∀ {qs : List Rat}, (∀ q ∈ qs, f q ≤ g q) → sumQ (qs.map f) ≤ sumQ (qs.map g)
  | [], _ => Rat.le_refl
  | q :: qs, h => by
    have h1 := h q List.mem_cons_self
    have h2 := sum_le_of fun x hx => h x (List.mem_cons_of_mem _ hx)
    show f q + sumQ (qs.map f) ≤ g q + sumQ (qs.map g)
    grind
theorem sum_eq_of {f g : Rat → Rat} : ∀ {qs : List Rat}, (∀ q ∈ qs, f q ≤ g q) → sumQ (qs.map g) ≤ sumQ (qs.map f) → ∀ q ∈ qs, f q = g q
  | [], _, _ => fun q hq => by cases hq
  | p :: qs, h, s => by
    have h1 := h p List.mem_cons_self
    have h2 := sum_le_of fun x hx => h x (List.mem_cons_of_mem _ hx)
    have s : g p + sumQ (qs.map g) ≤ f p + sumQ (qs.map f) := s
    intro q hq
    rcases List.mem_cons.mp hq with rfl | hq
    · grind
    · exact sum_eq_of (fun x hx => h x (List.mem_cons_of_mem _ hx)) (by grind) q hq
theorem halves_nn {qs : List Rat} (nn : ∀ q ∈ qs, 0 ≤ q) : ∀ q ∈ halvesQ qs, 0 ≤ q := fun q hq => by
  obtain ⟨p, hp, rfl⟩ := List.mem_map.mp hq
  exact half_nn (nn p hp)
theorem halves_sum (qs : List Rat) : sumQ (halvesQ qs) + sumQ (halvesQ qs) = sumQ qs := by
  unfold halvesQ
  rw [half_sum]
  exact half_eq _
theorem min_le_min {q l m : Rat} (h : l ≤ m) : minQ q l ≤ minQ q m := by
  unfold minQ
  grind
theorem above_le {q l m : Rat} (h : l ≤ m) : aboveQ q m ≤ aboveQ q l := by
  unfold aboveQ
  grind
/-- by gains of half of each claim -/
theorem ha_low {qs : List Rat} {e q : Rat} (h : ¬ sumQ qs - e < e) : Ru.f .ha qs e q = minQ (q * halfR) (gainQ (halvesQ qs) e) := by
  show (if sumQ qs - e < e then q - partH qs e q else partH qs e q) = _
  unfold partH evenQ
  rw [if_neg h, if_neg h]
theorem ha_high {qs : List Rat} {e q : Rat} (h : sumQ qs - e < e) : Ru.f .ha qs e q = q - minQ (q * halfR) (gainQ (halvesQ qs) (sumQ qs - e)) := by
  show (if sumQ qs - e < e then q - partH qs e q else partH qs e q) = _
  unfold partH evenQ
  rw [if_pos h, if_pos h]
theorem min_le_half {q l : Rat} (h : 0 ≤ q) : minQ (q * halfR) l ≤ q - minQ (q * halfR) l := by
  have := half_eq q
  unfold minQ
  grind
theorem ga_est {qs : List Rat} {d e : Rat} (nn : ∀ q ∈ qs, 0 ≤ q) (d0 : 0 ≤ d) (h : d ≤ e) (es : e ≤ sumQ qs) : ∀ q ∈ qs, minQ q (gainQ qs d) ≤ minQ q (gainQ qs e) := by
  have h1 : sumQ (qs.map fun q => minQ q (gainQ qs d)) = d := (gain_ok nn d0 (by grind)).2
  have h2 : sumQ (qs.map fun q => minQ q (gainQ qs e)) = e := (gain_ok nn (by grind) es).2
  by_cases hl : gainQ qs d ≤ gainQ qs e
  · exact fun q _ => min_le_min hl
  · have := sum_eq_of (f := fun q => minQ q (gainQ qs e)) (g := fun q => minQ q (gainQ qs d)) (qs := qs) (fun q _ => min_le_min (by grind)) (by grind)
    exact fun q hq => by rw [this q hq]; exact Rat.le_refl
/-- of a greater estate nobody gets less -/
theorem Ru.est (r : Ru) {qs : List Rat} {d e : Rat} (nn : ∀ q ∈ qs, 0 ≤ q) (d0 : 0 ≤ d) (h : d ≤ e) (es : e ≤ sumQ qs) : ∀ q ∈ qs, r.f qs d q ≤ r.f qs e q := fun q hq => by
  have q0 := nn q hq
  cases r with
  | sh =>
    show (if sumQ qs = 0 then 0 else q * (d / sumQ qs)) ≤ if sumQ qs = 0 then 0 else q * (e / sumQ qs)
    by_cases hs : sumQ qs = 0
    · rw [if_pos hs, if_pos hs]
      exact Rat.le_refl
    · rw [if_neg hs, if_neg hs]
      have hs : 0 < sumQ qs := by grind
      refine Rat.mul_le_mul_of_nonneg_left ?_ q0
      rw [Rat.div_def, Rat.div_def]
      exact Rat.mul_le_mul_of_nonneg_right h (Rat.le_of_lt (Rat.inv_pos.mpr hs))
  | ga => exact ga_est nn d0 h es q hq
  | lo =>
    have h1 : sumQ (qs.map fun q => aboveQ q (lossQ qs d)) = d := (loss_ok nn d0 (by grind)).2
    have h2 : sumQ (qs.map fun q => aboveQ q (lossQ qs e)) = e := (loss_ok nn (by grind) es).2
    show aboveQ q (lossQ qs d) ≤ aboveQ q (lossQ qs e)
    by_cases hl : lossQ qs e ≤ lossQ qs d
    · exact above_le hl
    · have := sum_eq_of (f := fun q => aboveQ q (lossQ qs e)) (g := fun q => aboveQ q (lossQ qs d)) (qs := qs) (fun q _ => above_le (by grind)) (by grind)
      rw [this q hq]
      exact Rat.le_refl
  | ha =>
    have hh := halves_sum qs
    have hq2 : q * halfR ∈ halvesQ qs := List.mem_map.mpr ⟨q, hq, rfl⟩
    by_cases h1 : sumQ qs - d < d
    · have h2 : sumQ qs - e < e := by grind
      rw [ha_high h1, ha_high h2]
      have := ga_est (halves_nn nn) (d := sumQ qs - e) (e := sumQ qs - d) (by grind) (by grind) (by grind) _ hq2
      grind
    · by_cases h2 : sumQ qs - e < e
      · rw [ha_low h1, ha_high h2]
        have h3 : minQ (q * halfR) (gainQ (halvesQ qs) d) ≤ q * halfR := by unfold minQ; grind
        have h4 : minQ (q * halfR) (gainQ (halvesQ qs) (sumQ qs - e)) ≤ q * halfR := by unfold minQ; grind
        have := half_eq q
        grind
      · rw [ha_low h1, ha_low h2]
        exact ga_est (halves_nn nn) d0 h (by grind) _ hq2
  | tu => exact turn_mono Rat.le_refl (LeL.refl _) h
theorem erase_cons {c q : Rat} {qs : List Rat} (h : q ∈ qs) : ((c :: qs).erase q).Perm (c :: qs.erase q) := by
  have h1 := ((erase_mem h).cons c).symm.trans (List.Perm.swap q c _)
  have h2 := h1.erase q
  rwa [List.erase_cons_head] at h2
/-- who claims more gets no less, and lacks no less -/
theorem Ru.order (r : Ru) {qs : List Rat} {e : Rat} (nn : ∀ q ∈ qs, 0 ≤ q) (e0 : 0 ≤ e) (es : e ≤ sumQ qs) {p q : Rat} (hp : p ∈ qs) (hq : q ∈ qs) (h : p ≤ q) : r.f qs e p ≤ r.f qs e q ∧ p - r.f qs e p ≤ q - r.f qs e q := by
  have p0 := nn p hp
  cases r with
  | sh =>
    show (if sumQ qs = 0 then 0 else p * (e / sumQ qs)) ≤ (if sumQ qs = 0 then 0 else q * (e / sumQ qs)) ∧ p - (if sumQ qs = 0 then 0 else p * (e / sumQ qs)) ≤ q - (if sumQ qs = 0 then 0 else q * (e / sumQ qs))
    by_cases hs : sumQ qs = 0
    · rw [if_pos hs, if_pos hs]
      grind
    · rw [if_neg hs, if_neg hs]
      have hs' : 0 < sumQ qs := by grind
      have t0 : 0 ≤ e / sumQ qs := by
        rw [Rat.div_def]
        exact Rat.mul_nonneg e0 (Rat.le_of_lt (Rat.inv_pos.mpr hs'))
      have t1 : e / sumQ qs ≤ 1 := by
        rw [Rat.div_def]
        have := Rat.mul_le_mul_of_nonneg_right es (Rat.le_of_lt (Rat.inv_pos.mpr hs'))
        rwa [Rat.mul_inv_cancel _ hs] at this
      generalize e / sumQ qs = t at t0 t1
      have h1 := Rat.mul_le_mul_of_nonneg_right h t0
      have h2 := Rat.mul_le_mul_of_nonneg_left t1 (show 0 ≤ q - p by grind)
      grind
  | ga =>
    show minQ p _ ≤ minQ q _ ∧ p - minQ p _ ≤ q - minQ q _
    unfold minQ
    grind
  | lo =>
    have := (loss_ok nn e0 es).1
    show aboveQ p _ ≤ aboveQ q _ ∧ p - aboveQ p _ ≤ q - aboveQ q _
    unfold aboveQ
    grind
  | ha =>
    have h1 := half_eq p
    have h2 := half_eq q
    by_cases hs : sumQ qs - e < e
    · rw [ha_high hs, ha_high hs]
      unfold minQ
      grind
    · rw [ha_low hs, ha_low hs]
      unfold minQ
      grind
  | tu =>
    by_cases hpq : p = q
    · rw [hpq]
      exact ⟨Rat.le_refl, Rat.le_refl⟩
    · have hq2 : q ∈ qs.erase p := by
        have := (erase_mem hp).mem_iff.mpr hq
        rcases List.mem_cons.mp this with h | h
        · exact absurd h.symm hpq
        · exact h
      have e1 : qs.Perm (p :: q :: (qs.erase p).erase q) := (erase_mem hp).symm.trans ((erase_mem hq2).symm.cons p)
      generalize (qs.erase p).erase q = l at e1
      have t1 : ∀ x, turnQ p (qs.erase p) x = turnQ p (q :: l) x := fun x => turn_perm (by
        have := e1.erase p
        rwa [List.erase_cons_head] at this)
      have t2 : ∀ x, turnQ q (qs.erase q) x = turnQ q (p :: l) x := fun x => turn_perm (by
        have := (e1.trans (List.Perm.swap q p l)).erase q
        rwa [List.erase_cons_head] at this)
      have hle : ∀ x, turnQ p (q :: l) x ≤ turnQ q (p :: l) x := fun x => turn_mono h ⟨h, LeL.refl _⟩ Rat.le_refl
      have d1 := turn_turn (cs := q :: l) (e := e) p0
      have d2 := turn_turn (cs := p :: l) (e := e) (show 0 ≤ q from nn q hq)
      have es1 : p + sumQ (q :: l) - e = q + sumQ (p :: l) - e := by
        show p + (q + sumQ l) - e = q + (p + sumQ l) - e
        grind
      have h3 := hle e
      have h4 := hle (p + sumQ (q :: l) - e)
      rw [d1] at h4
      rw [es1, d2] at h4
      show turnQ p (qs.erase p) e ≤ turnQ q (qs.erase q) e ∧ p - turnQ p (qs.erase p) e ≤ q - turnQ q (qs.erase q) e
      rw [t1, t2]
      exact ⟨h3, h4⟩
theorem ga_nought {qs : List Rat} {e : Rat} (nn : ∀ q ∈ qs, 0 ≤ q) (e0 : 0 ≤ e) (es : e ≤ sumQ qs) : ∀ q ∈ qs, minQ q (gainQ (0 :: qs) e) = minQ q (gainQ qs e) := by
  have nn' : ∀ q ∈ (0 :: qs), 0 ≤ q := fun q hq => by
    rcases List.mem_cons.mp hq with rfl | hq
    · exact Rat.le_refl
    · exact nn q hq
  have es' : e ≤ sumQ (0 :: qs) := by show e ≤ 0 + sumQ qs; grind
  have h1 : sumQ (qs.map fun q => minQ q (gainQ qs e)) = e := (gain_ok nn e0 es).2
  have h2 : minQ 0 (gainQ (0 :: qs) e) + sumQ (qs.map fun q => minQ q (gainQ (0 :: qs) e)) = e := (gain_ok nn' e0 es').2
  have h3 := (gain_ok nn' e0 es').1
  have h4 : minQ 0 (gainQ (0 :: qs) e) = 0 := by unfold minQ; grind
  rw [h4] at h2
  by_cases hl : gainQ (0 :: qs) e ≤ gainQ qs e
  · exact sum_eq_of (f := fun q => minQ q (gainQ (0 :: qs) e)) (g := fun q => minQ q (gainQ qs e)) (fun q _ => min_le_min hl) (by grind)
  · have := sum_eq_of (f := fun q => minQ q (gainQ qs e)) (g := fun q => minQ q (gainQ (0 :: qs) e)) (qs := qs) (fun q _ => min_le_min (by grind)) (by grind)
    exact fun q hq => (this q hq).symm
/-- who claims nothing changes nothing -/
theorem Ru.nought (r : Ru) {qs : List Rat} {e : Rat} (nn : ∀ q ∈ qs, 0 ≤ q) (e0 : 0 ≤ e) (es : e ≤ sumQ qs) : ∀ q ∈ qs, r.f (0 :: qs) e q = r.f qs e q := fun q hq => by
  have hs : sumQ (0 :: qs) = sumQ qs := by show 0 + sumQ qs = _; grind
  cases r with
  | sh => show (if sumQ (0 :: qs) = 0 then 0 else q * (e / sumQ (0 :: qs))) = if sumQ qs = 0 then 0 else q * (e / sumQ qs); rw [hs]
  | ga => exact ga_nought nn e0 es q hq
  | lo =>
    have nn' : ∀ q ∈ (0 :: qs), 0 ≤ q := fun q hq => by
      rcases List.mem_cons.mp hq with rfl | hq
      · exact Rat.le_refl
      · exact nn q hq
    have es' : e ≤ sumQ (0 :: qs) := by rw [hs]; exact es
    have h1 : sumQ (qs.map fun q => aboveQ q (lossQ qs e)) = e := (loss_ok nn e0 es).2
    have h2 : aboveQ 0 (lossQ (0 :: qs) e) + sumQ (qs.map fun q => aboveQ q (lossQ (0 :: qs) e)) = e := (loss_ok nn' e0 es').2
    have h3 := (loss_ok nn' e0 es').1
    have h4 : aboveQ 0 (lossQ (0 :: qs) e) = 0 := by unfold aboveQ; grind
    rw [h4] at h2
    show aboveQ q (lossQ (0 :: qs) e) = aboveQ q (lossQ qs e)
    by_cases hl : lossQ (0 :: qs) e ≤ lossQ qs e
    · have := sum_eq_of (f := fun q => aboveQ q (lossQ qs e)) (g := fun q => aboveQ q (lossQ (0 :: qs) e)) (qs := qs) (fun q _ => above_le hl) (by grind)
      exact (this q hq).symm
    · exact sum_eq_of (f := fun q => aboveQ q (lossQ (0 :: qs) e)) (g := fun q => aboveQ q (lossQ qs e)) (fun q _ => above_le (by grind)) (by grind) q hq
  | ha =>
    have hh := halves_sum qs
    have hq2 : q * halfR ∈ halvesQ qs := List.mem_map.mpr ⟨q, hq, rfl⟩
    have hz : halvesQ (0 :: qs) = 0 :: halvesQ qs := by
      show (0 * halfR) :: halvesQ qs = _
      rw [Rat.zero_mul]
    by_cases h1 : sumQ qs - e < e
    · rw [ha_high h1, ha_high (by rw [hs]; exact h1), hs, hz, ga_nought (halves_nn nn) (by grind) (by grind) _ hq2]
    · rw [ha_low h1, ha_low (by rw [hs]; exact h1), hz, ga_nought (halves_nn nn) (by grind) (by grind) _ hq2]
  | tu =>
    show turnQ q ((0 :: qs).erase q) e = turnQ q (qs.erase q) e
    rw [turn_perm (erase_cons hq), turn_nought]
theorem ga_claim {rs : List Rat} {c d e : Rat} (nn : ∀ q ∈ rs, 0 ≤ q) (c0 : 0 ≤ c) (h : c ≤ d) (e0 : 0 ≤ e) (es : e ≤ c + sumQ rs) : ∀ q ∈ rs, minQ q (gainQ (d :: rs) e) ≤ minQ q (gainQ (c :: rs) e) := by
  have nnc : ∀ q ∈ (c :: rs), 0 ≤ q := fun q hq => by
    rcases List.mem_cons.mp hq with rfl | hq
    · exact c0
    · exact nn q hq
  have nnd : ∀ q ∈ (d :: rs), 0 ≤ q := fun q hq => by
    rcases List.mem_cons.mp hq with rfl | hq
    · grind
    · exact nn q hq
  have h1 : minQ c (gainQ (c :: rs) e) + sumQ (rs.map fun q => minQ q (gainQ (c :: rs) e)) = e := (gain_ok nnc e0 es).2
  have h2 : minQ d (gainQ (d :: rs) e) + sumQ (rs.map fun q => minQ q (gainQ (d :: rs) e)) = e := (gain_ok nnd e0 (by show e ≤ d + sumQ rs; grind)).2
  by_cases hl : gainQ (d :: rs) e ≤ gainQ (c :: rs) e
  · exact fun q _ => min_le_min hl
  · have h3 : minQ c (gainQ (c :: rs) e) ≤ minQ d (gainQ (d :: rs) e) := by unfold minQ; grind
    have := sum_eq_of (f := fun q => minQ q (gainQ (c :: rs) e)) (g := fun q => minQ q (gainQ (d :: rs) e)) (qs := rs) (fun q _ => min_le_min (by grind)) (by grind)
    exact fun q hq => by rw [this q hq]; exact Rat.le_refl
/-- the claim grows, the amount by as much or more -/
theorem ga_both {rs : List Rat} {c d m n : Rat} (nn : ∀ q ∈ rs, 0 ≤ q) (c0 : 0 ≤ c) (h : c ≤ d) (m0 : 0 ≤ m) (ms : m ≤ c + sumQ rs) (hm : m + (d - c) ≤ n) (ns : n ≤ d + sumQ rs) : ∀ q ∈ rs, minQ q (gainQ (c :: rs) m) ≤ minQ q (gainQ (d :: rs) n) := by
  have nnc : ∀ q ∈ (c :: rs), 0 ≤ q := fun q hq => by
    rcases List.mem_cons.mp hq with rfl | hq
    · exact c0
    · exact nn q hq
  have nnd : ∀ q ∈ (d :: rs), 0 ≤ q := fun q hq => by
    rcases List.mem_cons.mp hq with rfl | hq
    · grind
    · exact nn q hq
  have h1 : minQ c (gainQ (c :: rs) m) + sumQ (rs.map fun q => minQ q (gainQ (c :: rs) m)) = m := (gain_ok nnc m0 ms).2
  have h2 : minQ d (gainQ (d :: rs) n) + sumQ (rs.map fun q => minQ q (gainQ (d :: rs) n)) = n := (gain_ok nnd (by grind) ns).2
  by_cases hl : gainQ (c :: rs) m ≤ gainQ (d :: rs) n
  · exact fun q _ => min_le_min hl
  · have h3 : minQ d (gainQ (d :: rs) n) ≤ minQ c (gainQ (c :: rs) m) + (d - c) := by unfold minQ; grind
    have := sum_eq_of (f := fun q => minQ q (gainQ (d :: rs) n)) (g := fun q => minQ q (gainQ (c :: rs) m)) (qs := rs) (fun q _ => min_le_min (by grind)) (by grind)
    exact fun q hq => by rw [this q hq]; exact Rat.le_refl
/-- one claim grows: no other one gets more -/
theorem Ru.claim (r : Ru) {rs : List Rat} {c d e : Rat} (nn : ∀ q ∈ rs, 0 ≤ q) (c0 : 0 ≤ c) (h : c ≤ d) (e0 : 0 ≤ e) (es : e ≤ c + sumQ rs) : ∀ q ∈ rs, r.f (d :: rs) e q ≤ r.f (c :: rs) e q := fun q hq => by
  have q0 := nn q hq
  have nnc : ∀ q ∈ (c :: rs), 0 ≤ q := fun q hq => by
    rcases List.mem_cons.mp hq with rfl | hq
    · exact c0
    · exact nn q hq
  have nnd : ∀ q ∈ (d :: rs), 0 ≤ q := fun q hq => by
    rcases List.mem_cons.mp hq with rfl | hq
    · grind
    · exact nn q hq
  have esd : e ≤ d + sumQ rs := by grind
  cases r with
  | sh =>
    show (if d + sumQ rs = 0 then 0 else q * (e / (d + sumQ rs))) ≤ if c + sumQ rs = 0 then 0 else q * (e / (c + sumQ rs))
    have rn := sumQ_nonneg nn
    by_cases hd : d + sumQ rs = 0
    · have hc : c + sumQ rs = 0 := by grind
      rw [if_pos hd, if_pos hc]
      exact Rat.le_refl
    · by_cases hc : c + sumQ rs = 0
      · have : e = 0 := by grind
        rw [if_neg hd, if_pos hc, this, Rat.div_def, Rat.zero_mul, Rat.mul_zero]
        exact Rat.le_refl
      · rw [if_neg hd, if_neg hc]
        refine Rat.mul_le_mul_of_nonneg_left ?_ q0
        have k1 : 0 < c + sumQ rs := by grind
        have k2 : c + sumQ rs ≤ d + sumQ rs := by grind
        generalize c + sumQ rs = S at *
        generalize d + sumQ rs = T at *
        have i1 : 0 ≤ S⁻¹ := Rat.le_of_lt (Rat.inv_pos.mpr k1)
        have i2 : 0 ≤ T⁻¹ := Rat.le_of_lt (Rat.inv_pos.mpr (by grind))
        have k3 : S * T⁻¹ ≤ T * T⁻¹ := Rat.mul_le_mul_of_nonneg_right k2 i2
        rw [Rat.mul_inv_cancel _ hd] at k3
        have k4 : S⁻¹ * (S * T⁻¹) ≤ S⁻¹ * 1 := Rat.mul_le_mul_of_nonneg_left k3 i1
        rw [← Rat.mul_assoc, Rat.inv_mul_cancel _ hc, Rat.one_mul, Rat.mul_one] at k4
        rw [Rat.div_def, Rat.div_def]
        exact Rat.mul_le_mul_of_nonneg_left k4 e0
  | ga => exact ga_claim nn c0 h e0 es q hq
  | lo =>
    have h1 : aboveQ c (lossQ (c :: rs) e) + sumQ (rs.map fun q => aboveQ q (lossQ (c :: rs) e)) = e := (loss_ok nnc e0 es).2
    have h2 : aboveQ d (lossQ (d :: rs) e) + sumQ (rs.map fun q => aboveQ q (lossQ (d :: rs) e)) = e := (loss_ok nnd e0 esd).2
    show aboveQ q (lossQ (d :: rs) e) ≤ aboveQ q (lossQ (c :: rs) e)
    by_cases hl : lossQ (c :: rs) e ≤ lossQ (d :: rs) e
    · exact above_le hl
    · have h3 : aboveQ c (lossQ (c :: rs) e) ≤ aboveQ d (lossQ (d :: rs) e) := by unfold aboveQ; grind
      have := sum_eq_of (f := fun q => aboveQ q (lossQ (c :: rs) e)) (g := fun q => aboveQ q (lossQ (d :: rs) e)) (qs := rs) (fun q _ => above_le (by grind)) (by grind)
      rw [this q hq]
      exact Rat.le_refl
  | ha =>
    have hhc := halves_sum (c :: rs)
    have hhd := halves_sum (d :: rs)
    have hhr := halves_sum rs
    have hc2 := half_eq c
    have hd2 := half_eq d
    have hq2 : q * halfR ∈ halvesQ rs := List.mem_map.mpr ⟨q, hq, rfl⟩
    have hcd : c * halfR ≤ d * halfR := by grind
    have sc : sumQ (c :: rs) = c + sumQ rs := rfl
    have sd : sumQ (d :: rs) = d + sumQ rs := rfl
    by_cases h1 : sumQ (c :: rs) - e < e
    · by_cases h2 : sumQ (d :: rs) - e < e
      · rw [ha_high h1, ha_high h2]
        have := ga_both (c := c * halfR) (d := d * halfR) (m := sumQ (c :: rs) - e) (n := sumQ (d :: rs) - e) (halves_nn nn) (half_nn c0) hcd (by grind) (by grind) (by grind) (by grind) _ hq2
        have this : minQ (q * halfR) (gainQ (halvesQ (c :: rs)) (sumQ (c :: rs) - e)) ≤ minQ (q * halfR) (gainQ (halvesQ (d :: rs)) (sumQ (d :: rs) - e)) := this
        grind
      · rw [ha_high h1, ha_low h2]
        have h3 : minQ (q * halfR) (gainQ (halvesQ (d :: rs)) e) ≤ q * halfR := by unfold minQ; grind
        have h4 : minQ (q * halfR) (gainQ (halvesQ (c :: rs)) (sumQ (c :: rs) - e)) ≤ q * halfR := by unfold minQ; grind
        have := half_eq q
        grind
    · have h2 : ¬ sumQ (d :: rs) - e < e := by grind
      rw [ha_low h1, ha_low h2]
      exact ga_claim (halves_nn nn) (half_nn c0) hcd e0 (by grind) _ hq2
  | tu =>
    show turnQ q ((d :: rs).erase q) e ≤ turnQ q ((c :: rs).erase q) e
    rw [turn_perm (erase_cons hq), turn_perm (erase_cons (c := c) hq)]
    exact turn_mono Rat.le_refl ⟨h, LeL.refl _⟩ Rat.le_refl
/-- whose claim grows gets no less -/
theorem Ru.claim_own (r : Ru) {rs : List Rat} {c d e : Rat} (nn : ∀ q ∈ rs, 0 ≤ q) (c0 : 0 ≤ c) (h : c ≤ d) (e0 : 0 ≤ e) (es : e ≤ c + sumQ rs) : r.f (c :: rs) e c ≤ r.f (d :: rs) e d := by
  have nnc : ∀ q ∈ (c :: rs), 0 ≤ q := fun q hq => by
    rcases List.mem_cons.mp hq with rfl | hq
    · exact c0
    · exact nn q hq
  have nnd : ∀ q ∈ (d :: rs), 0 ≤ q := fun q hq => by
    rcases List.mem_cons.mp hq with rfl | hq
    · grind
    · exact nn q hq
  have s1 := r.sum nnc e0 es
  have s2 := r.sum nnd e0 (show e ≤ d + sumQ rs by grind)
  rw [Ru.q_map] at s1 s2
  have s1 : r.f (c :: rs) e c + sumQ (rs.map (r.f (c :: rs) e)) = e := s1
  have s2 : r.f (d :: rs) e d + sumQ (rs.map (r.f (d :: rs) e)) = e := s2
  have h3 := sum_le_of (r.claim nn c0 h e0 es)
  grind
/-- one claimer more -/
theorem Ru.more (r : Ru) {qs : List Rat} {c e : Rat} (nn : ∀ q ∈ qs, 0 ≤ q) (c0 : 0 ≤ c) (e0 : 0 ≤ e) (es : e ≤ sumQ qs) : ∀ q ∈ qs, r.f (c :: qs) e q ≤ r.f qs e q := fun q hq => by
  rw [← r.nought nn e0 es q hq]
  exact r.claim nn Rat.le_refl c0 e0 (by grind) q hq
/-! ### turned about, cut, by steps, parted -/
theorem same_min {qs : List Rat} {l m : Rat} (h : sumQ (qs.map fun q => minQ q l) = sumQ (qs.map fun q => minQ q m)) : ∀ q ∈ qs, minQ q l = minQ q m := by
  by_cases hl : l ≤ m
  · exact sum_eq_of (f := fun q => minQ q l) (g := fun q => minQ q m) (fun q _ => min_le_min hl) (by grind)
  · have := sum_eq_of (f := fun q => minQ q m) (g := fun q => minQ q l) (qs := qs) (fun q _ => min_le_min (by grind)) (by grind)
    exact fun q hq => (this q hq).symm
theorem same_above {qs : List Rat} {l m : Rat} (h : sumQ (qs.map fun q => aboveQ q l) = sumQ (qs.map fun q => aboveQ q m)) : ∀ q ∈ qs, aboveQ q l = aboveQ q m := by
  by_cases hl : m ≤ l
  · exact sum_eq_of (f := fun q => aboveQ q l) (g := fun q => aboveQ q m) (fun q _ => above_le hl) (by grind)
  · have := sum_eq_of (f := fun q => aboveQ q m) (g := fun q => aboveQ q l) (qs := qs) (fun q _ => above_le (by grind)) (by grind)
    exact fun q hq => (this q hq).symm
theorem gain_sum {qs : List Rat} {e : Rat} (nn : ∀ q ∈ qs, 0 ≤ q) (e0 : 0 ≤ e) (es : e ≤ sumQ qs) : 0 ≤ gainQ qs e ∧ sumQ (qs.map fun q => minQ q (gainQ qs e)) = e := gain_ok nn e0 es
theorem loss_sum {qs : List Rat} {e : Rat} (nn : ∀ q ∈ qs, 0 ≤ q) (e0 : 0 ≤ e) (es : e ≤ sumQ qs) : 0 ≤ lossQ qs e ∧ sumQ (qs.map fun q => aboveQ q (lossQ qs e)) = e := loss_ok nn e0 es
/-- the rule turned about -/
def Ru.dual : Ru → Ru
  | .ga => .lo
  | .lo => .ga
  | r => r
theorem le_sum : ∀ {qs : List Rat}, (∀ q ∈ qs, 0 ≤ q) → ∀ q ∈ qs, q ≤ sumQ qs
  | [], _ => fun q hq => by cases hq
  | p :: qs, nn => fun q hq => by
    have h1 := nn p List.mem_cons_self
    have h2 := sumQ_nonneg (qs := qs) fun x hx => nn x (List.mem_cons_of_mem _ hx)
    show q ≤ p + sumQ qs
    rcases List.mem_cons.mp hq with rfl | hq
    · grind
    · have := le_sum (fun x hx => nn x (List.mem_cons_of_mem _ hx)) q hq
      grind
theorem min_above {q l : Rat} (h : 0 ≤ l) : q - minQ q l = aboveQ q l := by
  unfold minQ aboveQ
  grind
theorem Ru.turned (r : Ru) {qs : List Rat} {e : Rat} (nn : ∀ q ∈ qs, 0 ≤ q) (e0 : 0 ≤ e) (es : e ≤ sumQ qs) : ∀ q ∈ qs, r.dual.f qs (sumQ qs - e) q = q - r.f qs e q := fun q hq => by
  have q0 := nn q hq
  have hqs := le_sum nn q hq
  cases r with
  | sh =>
    show (if sumQ qs = 0 then 0 else q * ((sumQ qs - e) / sumQ qs)) = q - if sumQ qs = 0 then 0 else q * (e / sumQ qs)
    by_cases h : sumQ qs = 0
    · rw [if_pos h, if_pos h]
      grind
    · rw [if_neg h, if_neg h, Rat.div_def, Rat.div_def]
      have := Rat.mul_inv_cancel _ h
      grind
  | ga =>
    show aboveQ q (lossQ qs (sumQ qs - e)) = q - minQ q (gainQ qs e)
    obtain ⟨g0, gs⟩ := gain_sum nn e0 es
    obtain ⟨l0, ls⟩ := loss_sum nn (show 0 ≤ sumQ qs - e by grind) (show sumQ qs - e ≤ sumQ qs by grind)
    rw [min_above g0]
    refine same_above ?_ q hq
    have h1 : sumQ (qs.map fun q => aboveQ q (gainQ qs e)) = sumQ (qs.map fun q => q - minQ q (gainQ qs e)) := sumQ_ext fun q _ => (min_above g0).symm
    rw [ls, h1, sumQ_sub, gs, List.map_id']
  | lo =>
    show minQ q (gainQ qs (sumQ qs - e)) = q - aboveQ q (lossQ qs e)
    obtain ⟨g0, gs⟩ := gain_sum nn (show 0 ≤ sumQ qs - e by grind) (show sumQ qs - e ≤ sumQ qs by grind)
    obtain ⟨l0, ls⟩ := loss_sum nn e0 es
    have e1 : ∀ q, q - aboveQ q (lossQ qs e) = minQ q (lossQ qs e) := fun q => by
      have := min_above (q := q) l0
      grind
    rw [e1]
    refine same_min ?_ q hq
    have h1 : sumQ (qs.map fun q => minQ q (lossQ qs e)) = sumQ (qs.map fun q => q - aboveQ q (lossQ qs e)) := sumQ_ext fun q _ => (e1 q).symm
    rw [gs, h1, sumQ_sub, ls, List.map_id']
  | ha =>
    show Ru.f .ha qs (sumQ qs - e) q = q - Ru.f .ha qs e q
    have he : sumQ qs - (sumQ qs - e) = e := by grind
    have hh := halves_sum qs
    by_cases h1 : sumQ qs - e < e
    · rw [ha_high h1, ha_low (by rw [he]; grind)]
      grind
    · by_cases h2 : e < sumQ qs - e
      · rw [ha_low h1, ha_high (by rw [he]; exact h2), he]
      · have h3 : sumQ qs - e = e := by grind
        rw [h3, ha_low h1]
        have hq2 : q * halfR ∈ halvesQ qs := List.mem_map.mpr ⟨q, hq, rfl⟩
        obtain ⟨_, gs⟩ := gain_sum (halves_nn nn) e0 (show e ≤ sumQ (halvesQ qs) by grind)
        have := sum_eq_of (f := fun q => minQ q (gainQ (halvesQ qs) e)) (g := fun q => q) (qs := halvesQ qs) (fun q _ => by unfold minQ; grind) (by rw [gs, List.map_id']; grind) _ hq2
        have := half_eq q
        grind
  | tu =>
    show turnQ q (qs.erase q) (sumQ qs - e) = q - turnQ q (qs.erase q) e
    have h := sumQ_perm (erase_mem hq)
    have h : q + sumQ (qs.erase q) = sumQ qs := h
    rw [← h]
    exact turn_turn q0
/-! cut claims -/
theorem ss_low {g : Nat → Rat → Rat} (hg : ∀ k x, x ≤ 0 → g k x = g k 0) : ∀ (cs : List Rat), (∀ c ∈ cs, 0 ≤ c) → ∀ k x, x ≤ 0 → ssQ g cs k x = ssQ g cs k 0
  | [], _, k, x, h => hg k x h
  | c :: cs, nn, k, x, h => by
    have c0 := nn c List.mem_cons_self
    have nn' : ∀ q ∈ cs, 0 ≤ q := fun q hq => nn q (List.mem_cons_of_mem _ hq)
    show ssQ g cs k x + ssQ g cs (k + 1) (x - c) = ssQ g cs k 0 + ssQ g cs (k + 1) (0 - c)
    rw [ss_low hg cs nn' k x h, ss_low hg cs nn' (k + 1) (x - c) (by grind), ss_low hg cs nn' (k + 1) (0 - c) (by grind)]
theorem ss_cut {g : Nat → Rat → Rat} (hg : ∀ k x, x ≤ 0 → g k x = g k 0) (t : Rat) : ∀ (cs : List Rat), (∀ c ∈ cs, 0 ≤ c) → ∀ k x, x ≤ t → 0 ≤ t → ssQ g (cs.map fun c => minQ c t) k x = ssQ g cs k x
  | [], _, k, x, _, _ => rfl
  | c :: cs, nn, k, x, h, t0 => by
    have c0 := nn c List.mem_cons_self
    have nn' : ∀ q ∈ cs, 0 ≤ q := fun q hq => nn q (List.mem_cons_of_mem _ hq)
    show ssQ g (cs.map fun c => minQ c t) k x + ssQ g (cs.map fun c => minQ c t) (k + 1) (x - minQ c t) = ssQ g cs k x + ssQ g cs (k + 1) (x - c)
    have hm : 0 ≤ minQ c t := by unfold minQ; grind
    rw [ss_cut hg t cs nn' k x h t0, ss_cut hg t cs nn' (k + 1) (x - minQ c t) (by grind) t0]
    congr 1
    by_cases hc : c ≤ t
    · have : minQ c t = c := by unfold minQ; grind
      rw [this]
    · have : minQ c t = t := by unfold minQ; grind
      rw [this, ss_low hg cs nn' _ (x - t) (by grind), ss_low hg cs nn' _ (x - c) (by grind)]
theorem turn_cut {a : Rat} {cs : List Rat} {e : Rat} (nn : ∀ c ∈ cs, 0 ≤ c) (e0 : 0 ≤ e) : turnQ (minQ a e) (cs.map fun c => minQ c e) e = turnQ a cs e := by
  unfold turnQ allQ
  rw [List.length_map]
  congr 1
  have h1 := ss_cut (g := fun j y => wt cs.length j * oneQ (minQ a e) y) (fun k x h => by
    have : oneQ (minQ a e) x = oneQ (minQ a e) 0 := by unfold oneQ minQ clipQ; grind
    rw [this]) e cs nn 0 e Rat.le_refl e0
  rw [h1]
  -- what is left is never more than e
  have go : ∀ (l : List Rat), (∀ c ∈ l, 0 ≤ c) → ∀ k x, x ≤ e → ssQ (fun j y => wt cs.length j * oneQ (minQ a e) y) l k x = ssQ (fun j y => wt cs.length j * oneQ a y) l k x := by
    intro l
    induction l with
    | nil =>
      intro _ k x hx
      show wt cs.length k * oneQ (minQ a e) x = wt cs.length k * oneQ a x
      have : oneQ (minQ a e) x = oneQ a x := by unfold oneQ minQ clipQ; grind
      rw [this]
    | cons c l ih =>
      intro nl k x hx
      have c0 := nl c List.mem_cons_self
      have nl' : ∀ q ∈ l, 0 ≤ q := fun q hq => nl q (List.mem_cons_of_mem _ hq)
      simp only [ssQ]
      rw [ih nl' k x hx, ih nl' (k + 1) (x - c) (by grind)]
  exact go cs nn 0 e Rat.le_refl
def cutQ (qs : List Rat) (t : Rat) : List Rat := qs.map fun q => minQ q t
theorem cut_nn {qs : List Rat} {t : Rat} (nn : ∀ q ∈ qs, 0 ≤ q) (t0 : 0 ≤ t) : ∀ q ∈ cutQ qs t, 0 ≤ q := fun q hq => by
  obtain ⟨p, hp, rfl⟩ := List.mem_map.mp hq
  have := nn p hp
  unfold minQ
  grind
theorem cut_sum {qs : List Rat} {e : Rat} (nn : ∀ q ∈ qs, 0 ≤ q) (e0 : 0 ≤ e) (es : e ≤ sumQ qs) : e ≤ sumQ (cutQ qs e) := by
  by_cases h : ∀ q ∈ qs, q ≤ e
  · have : cutQ qs e = qs := by
      unfold cutQ
      conv => rhs; rw [← List.map_id' qs]
      exact List.map_congr_left fun q hq => by have := h q hq; unfold minQ; grind
    rw [this]
    exact es
  · simp only [Classical.not_forall] at h
    obtain ⟨q, hq, hlt⟩ := h
    have h1 := le_sum (cut_nn nn e0) (minQ q e) (List.mem_map.mpr ⟨q, hq, rfl⟩)
    have : minQ q e = e := by unfold minQ; grind
    grind
theorem erase_map {f : Rat → Rat} {qs : List Rat} {q : Rat} (h : q ∈ qs) : ((qs.map f).erase (f q)).Perm ((qs.erase q).map f) := by
  have h1 := ((erase_mem h).map f).symm
  have h2 := h1.erase (f q)
  rwa [List.map_cons, List.erase_cons_head] at h2
/-- one claims all there is or more, the others no more than that: by halves -/
theorem ha_one {rs : List Rat} {c e : Rat} (nn : ∀ q ∈ rs, 0 ≤ q) (e0 : 0 ≤ e) (hc : e ≤ c) (hr : sumQ rs ≤ e) : (∀ q ∈ rs, Ru.f .ha (c :: rs) e q = q * halfR) ∧ Ru.f .ha (c :: rs) e c = e - sumQ rs * halfR := by
  have c0 : 0 ≤ c := by grind
  have rn := sumQ_nonneg nn
  have nnc : ∀ q ∈ (c :: rs), 0 ≤ q := fun q hq => by
    rcases List.mem_cons.mp hq with rfl | hq
    · exact c0
    · exact nn q hq
  have sc : sumQ (c :: rs) = c + sumQ rs := rfl
  have hhc := halves_sum (c :: rs)
  have hR := half_eq (sumQ rs)
  have hC := half_eq c
  have hsr : sumQ (halvesQ rs) = sumQ rs * halfR := half_sum rs
  -- a level under which no other's half is cut
  have key : ∀ m, 0 ≤ m → m ≤ sumQ (halvesQ (c :: rs)) → sumQ rs ≤ m → (∀ q ∈ rs, minQ (q * halfR) (gainQ (halvesQ (c :: rs)) m) = q * halfR) ∧ minQ (c * halfR) (gainQ (halvesQ (c :: rs)) m) = m - sumQ rs * halfR := fun m m0 ms hm => by
    obtain ⟨g0, gs⟩ := gain_sum (halves_nn nnc) m0 ms
    have gs : minQ (c * halfR) (gainQ (halvesQ (c :: rs)) m) + sumQ ((halvesQ rs).map fun q => minQ q (gainQ (halvesQ (c :: rs)) m)) = m := gs
    have h1 : sumQ ((halvesQ rs).map fun q => minQ q (gainQ (halvesQ (c :: rs)) m)) ≤ sumQ ((halvesQ rs).map fun q => q) := sum_le_of fun q _ => by unfold minQ; grind
    rw [List.map_id', hsr] at h1
    have h2 : minQ (c * halfR) (gainQ (halvesQ (c :: rs)) m) ≤ gainQ (halvesQ (c :: rs)) m := by unfold minQ; grind
    have h3 : ∀ q ∈ rs, minQ (q * halfR) (gainQ (halvesQ (c :: rs)) m) = q * halfR := fun q hq => by
      have h4 := le_sum (halves_nn nn) (q * halfR) (List.mem_map.mpr ⟨q, hq, rfl⟩)
      unfold minQ
      rw [if_neg (by grind)]
    refine ⟨h3, ?_⟩
    have h5 : sumQ ((halvesQ rs).map fun q => minQ q (gainQ (halvesQ (c :: rs)) m)) = sumQ rs * halfR := by
      rw [← hsr]
      unfold halvesQ
      rw [List.map_map]
      congr 1
      exact List.map_congr_left fun q hq => h3 q hq
    grind
  by_cases h : sumQ (c :: rs) - e < e
  · obtain ⟨k1, k2⟩ := key (sumQ (c :: rs) - e) (by grind) (by grind) (by grind)
    refine ⟨fun q hq => ?_, ?_⟩
    · rw [ha_high h, k1 q hq]
      have := half_eq q
      grind
    · rw [ha_high h, k2]
      grind
  · obtain ⟨k1, k2⟩ := key e e0 (by grind) hr
    refine ⟨fun q hq => ?_, ?_⟩
    · rw [ha_low h, k1 q hq]
    · rw [ha_low h, k2]
/-- by gains, halves, turns cut claims get what the claims get -/
theorem Ru.cut (r : Ru) (hr : r = .ga ∨ r = .ha ∨ r = .tu) {qs : List Rat} {e : Rat} (nn : ∀ q ∈ qs, 0 ≤ q) (e0 : 0 ≤ e) (es : e ≤ sumQ qs) : ∀ q ∈ qs, r.f (cutQ qs e) e (minQ q e) = r.f qs e q := fun q hq => by
  have cs := cut_sum nn e0 es
  have cn := cut_nn (t := e) nn e0
  rcases hr with rfl | rfl | rfl
  · show minQ (minQ q e) (gainQ (cutQ qs e) e) = minQ q (gainQ qs e)
    obtain ⟨_, s1⟩ := gain_sum cn e0 cs
    obtain ⟨_, s2⟩ := gain_sum nn e0 es
    generalize gainQ (cutQ qs e) e = L at *
    have e1 : ∀ q, minQ (minQ q e) L = minQ q (minQ e L) := fun q => by unfold minQ; grind
    rw [e1]
    refine same_min ?_ q hq
    have h : qs.map (fun q => minQ q (minQ e L)) = (cutQ qs e).map (fun q => minQ q L) := by
      unfold cutQ
      rw [List.map_map]
      exact List.map_congr_left fun q _ => (e1 q).symm
    rw [s2, h, s1]
  · by_cases hall : ∀ q ∈ qs, q ≤ e
    · have h1 : cutQ qs e = qs := by
        unfold cutQ
        conv => rhs; rw [← List.map_id' qs]
        exact List.map_congr_left fun q hq => by have := hall q hq; unfold minQ; grind
      have h2 : minQ q e = q := by have := hall q hq; unfold minQ; grind
      rw [h1, h2]
    · simp only [Classical.not_forall] at hall
      obtain ⟨c, hc, hlt⟩ := hall
      have hlt : e < c := by grind
      have p1 := (erase_mem hc).symm
      have p2 : (cutQ qs e).Perm (e :: cutQ (qs.erase c) e) := by
        have := p1.map fun q => minQ q e
        have hce : minQ c e = e := by unfold minQ; grind
        rw [List.map_cons, hce] at this
        exact this
      have nr : ∀ q ∈ qs.erase c, 0 ≤ q := fun q h => nn q (List.mem_of_mem_erase h)
      by_cases hR : sumQ (qs.erase c) ≤ e
      · have h3 : cutQ (qs.erase c) e = qs.erase c := by
          unfold cutQ
          conv => rhs; rw [← List.map_id' (qs.erase c)]
          exact List.map_congr_left fun q hq => by have := le_sum nr q hq; unfold minQ; grind
        rw [h3] at p2
        obtain ⟨a1, a2⟩ := ha_one nr e0 (Rat.le_of_lt hlt) hR
        obtain ⟨b1, b2⟩ := ha_one (c := e) nr e0 Rat.le_refl hR
        rw [Ru.f_perm .ha p2, Ru.f_perm .ha p1]
        rcases List.mem_cons.mp (p1.mem_iff.mp hq) with h | h
        · have : minQ q e = e := by rw [h]; unfold minQ; grind
          rw [this, b2, h, a2]
        · have : minQ q e = q := by have := le_sum nr q h; unfold minQ; grind
          rw [this, b1 q h, a1 q h]
      · have s1 := sumQ_perm p1
        have s1 : sumQ qs = c + sumQ (qs.erase c) := s1
        have s2 := sumQ_perm p2
        have s2 : sumQ (cutQ qs e) = e + sumQ (cutQ (qs.erase c) e) := s2
        have s3 : e ≤ sumQ (cutQ (qs.erase c) e) := cut_sum nr e0 (by grind)
        rw [ha_low (show ¬ sumQ qs - e < e by grind), ha_low (show ¬ sumQ (cutQ qs e) - e < e by grind)]
        have hh1 := halves_sum qs
        have hh2 := halves_sum (cutQ qs e)
        obtain ⟨_, t1⟩ := gain_sum (halves_nn nn) e0 (by grind)
        obtain ⟨_, t2⟩ := gain_sum (halves_nn cn) e0 (by grind)
        generalize gainQ (halvesQ (cutQ qs e)) e = L at *
        have e1 : ∀ q, minQ (minQ q e * halfR) L = minQ (q * halfR) (minQ (e * halfR) L) := fun q => by
          have a1 := half_eq q
          have a2 := half_eq e
          have a3 := half_eq (minQ q e)
          unfold minQ at *
          grind
        rw [e1]
        have hq2 : q * halfR ∈ halvesQ qs := List.mem_map.mpr ⟨q, hq, rfl⟩
        refine same_min ?_ _ hq2
        have h : (halvesQ qs).map (fun q => minQ q (minQ (e * halfR) L)) = (halvesQ (cutQ qs e)).map (fun q => minQ q L) := by
          unfold halvesQ cutQ
          rw [List.map_map, List.map_map, List.map_map]
          exact List.map_congr_left fun q _ => (e1 q).symm
        rw [t1, h, t2]
  · show turnQ (minQ q e) ((cutQ qs e).erase (minQ q e)) e = turnQ q (qs.erase q) e
    have h1 : ((cutQ qs e).erase (minQ q e)).Perm ((qs.erase q).map fun q => minQ q e) := erase_map hq
    rw [turn_perm h1]
    exact turn_cut (fun c hc => nn c (List.mem_of_mem_erase hc)) e0
/-- the least right -/
def rightQ (qs : List Rat) (e q : Rat) : Rat := clipQ (e - (sumQ qs - q))
/-- by losses, halves, turns it is the same whether each gets the least right first -/
theorem Ru.rights (r : Ru) (hr : r = .lo ∨ r = .ha ∨ r = .tu) {qs : List Rat} {e : Rat} (nn : ∀ q ∈ qs, 0 ≤ q) (e0 : 0 ≤ e) (es : e ≤ sumQ qs) :
    (∀ q ∈ qs, 0 ≤ q - rightQ qs e q) ∧ 0 ≤ e - sumQ (qs.map (rightQ qs e)) ∧ e - sumQ (qs.map (rightQ qs e)) ≤ sumQ (qs.map fun q => q - rightQ qs e q) ∧
    ∀ q ∈ qs, rightQ qs e q + r.f (qs.map fun q => q - rightQ qs e q) (e - sumQ (qs.map (rightQ qs e))) (q - rightQ qs e q) = r.f qs e q := by
  have l0 : 0 ≤ sumQ qs - e := by grind
  have ls : sumQ qs - e ≤ sumQ qs := by grind
  have em : ∀ q ∈ qs, q - rightQ qs e q = minQ q (sumQ qs - e) := fun q hq => by
    unfold rightQ clipQ minQ
    grind
  have ec : (qs.map fun q => q - rightQ qs e q) = cutQ qs (sumQ qs - e) := List.map_congr_left em
  have cn := cut_nn (t := sumQ qs - e) nn l0
  have cs := cut_sum nn l0 ls
  have esum : e - sumQ (qs.map (rightQ qs e)) = sumQ (cutQ qs (sumQ qs - e)) - (sumQ qs - e) := by
    have h := sumQ_sub (fun q => q) (rightQ qs e) qs
    rw [ec, List.map_id'] at h
    grind
  have hd : r.dual = .ga ∨ r.dual = .ha ∨ r.dual = .tu := by
    rcases hr with rfl | rfl | rfl
    · exact .inl rfl
    · exact .inr (.inl rfl)
    · exact .inr (.inr rfl)
  have hdd : r.dual.dual = r := by
    rcases hr with rfl | rfl | rfl <;> rfl
  refine ⟨fun q hq => ?_, ?_, ?_, fun q hq => ?_⟩
  · rw [em q hq]
    exact cn _ (List.mem_map.mpr ⟨q, hq, rfl⟩)
  · rw [esum]
    grind
  · rw [esum, ec]
    grind
  · have h1 := r.dual.turned cn l0 cs (minQ q (sumQ qs - e)) (List.mem_map.mpr ⟨q, hq, rfl⟩)
    have h2 := r.dual.cut hd nn l0 ls q hq
    have h3 := r.turned nn e0 es q hq
    have h4 := em q hq
    rw [hdd] at h1
    rw [ec, esum, h4, h1, h2, h3]
    grind
/-! by steps -/
theorem Ru.steps (r : Ru) (hr : r = .sh ∨ r = .ga ∨ r = .lo) {qs : List Rat} {d e : Rat} (nn : ∀ q ∈ qs, 0 ≤ q) (d0 : 0 ≤ d) (h : d ≤ e) (es : e ≤ sumQ qs) :
    (∀ q ∈ qs, r.f qs d q + r.f (qs.map fun q => q - r.f qs d q) (e - d) (q - r.f qs d q) = r.f qs e q) ∧ ∀ q ∈ qs, r.f (qs.map (r.f qs e)) d (r.f qs e q) = r.f qs d q := by
  have ds : d ≤ sumQ qs := by grind
  have e0 : 0 ≤ e := by grind
  have b1 := r.bounds nn d0 ds
  have b2 := r.bounds nn e0 es
  have s1 := r.sum nn d0 ds
  have s2 := r.sum nn e0 es
  rw [Ru.q_map] at s1 s2
  have nl : ∀ q ∈ qs.map (fun q => q - r.f qs d q), 0 ≤ q := fun q hq => by
    obtain ⟨p, hp, rfl⟩ := List.mem_map.mp hq
    have := b1 p hp
    grind
  have np : ∀ q ∈ qs.map (r.f qs e), 0 ≤ q := fun q hq => by
    obtain ⟨p, hp, rfl⟩ := List.mem_map.mp hq
    exact (b2 p hp).1
  have sl : sumQ (qs.map fun q => q - r.f qs d q) = sumQ qs - d := by
    rw [sumQ_sub, s1, List.map_id']
  have t1 := r.sum nl (show 0 ≤ e - d by grind) (show e - d ≤ _ by rw [sl]; grind)
  have t2 := r.sum np d0 (show d ≤ _ by rw [s2]; exact h)
  rw [Ru.q_map, List.map_map] at t1 t2
  have u1 : sumQ (qs.map fun q => r.f qs d q + r.f (qs.map fun q => q - r.f qs d q) (e - d) (q - r.f qs d q)) = e := by
    have add : ∀ (f g : Rat → Rat) (l : List Rat), sumQ (l.map fun q => f q + g q) = sumQ (l.map f) + sumQ (l.map g) := fun f g l => by
      induction l with
      | nil => show (0 : Rat) = 0 + 0; grind
      | cons a l ih => show f a + g a + sumQ _ = f a + sumQ _ + (g a + sumQ _); rw [ih]; grind
    rw [add, s1]
    have : sumQ (qs.map fun q => r.f (qs.map fun q => q - r.f qs d q) (e - d) (q - r.f qs d q)) = e - d := t1
    rw [this]
    grind
  have u2 : sumQ (qs.map fun q => r.f (qs.map (r.f qs e)) d (r.f qs e q)) = d := t2
  rcases hr with rfl | rfl | rfl
  · -- in shares
    by_cases hs : sumQ qs = 0
    · have z : ∀ q ∈ qs, q = 0 := fun q hq => by
        have h1 := le_sum nn q hq
        have h2 := nn q hq
        grind
      refine ⟨fun q hq => ?_, fun q hq => ?_⟩
      · have a1 := b1 q hq
        have a2 := b2 q hq
        have a3 := Ru.bounds .sh nl (show 0 ≤ e - d by grind) (show e - d ≤ _ by rw [sl]; grind) _ (List.mem_map.mpr ⟨q, hq, rfl⟩)
        have a4 := z q hq
        grind
      · have a1 := b1 q hq
        have a2 := b2 q hq
        have a3 := Ru.bounds .sh np d0 (show d ≤ _ by rw [s2]; exact h) _ (List.mem_map.mpr ⟨q, hq, rfl⟩)
        have a4 := z q hq
        grind
    · have f1 : ∀ x q, Ru.f .sh qs x q = q * (x / sumQ qs) := fun x q => by
        show (if sumQ qs = 0 then 0 else q * (x / sumQ qs)) = _
        rw [if_neg hs]
      refine ⟨fun q hq => ?_, fun q hq => ?_⟩
      · show Ru.f .sh qs d q + (if sumQ (qs.map fun q => q - Ru.f .sh qs d q) = 0 then 0 else (q - Ru.f .sh qs d q) * ((e - d) / sumQ (qs.map fun q => q - Ru.f .sh qs d q))) = Ru.f .sh qs e q
        rw [sl]
        by_cases hz : sumQ qs - d = 0
        · rw [if_pos hz]
          have : d = e := by grind
          rw [this]
          grind
        · rw [if_neg hz, f1, f1]
          grind
      · show (if sumQ (qs.map (Ru.f .sh qs e)) = 0 then 0 else Ru.f .sh qs e q * (d / sumQ (qs.map (Ru.f .sh qs e)))) = Ru.f .sh qs d q
        rw [s2]
        by_cases hz : e = 0
        · rw [if_pos hz, f1]
          have : d = 0 := by grind
          rw [this, Rat.div_def, Rat.zero_mul, Rat.mul_zero]
        · rw [if_neg hz, f1, f1]
          grind
  · -- by gains
    have g1 := (gain_sum nn d0 ds).1
    have g2 := (gain_sum nn e0 es).1
    have g3 := (gain_sum nl (show 0 ≤ e - d by grind) (show e - d ≤ _ by rw [sl]; grind)).1
    refine ⟨fun q hq => ?_, fun q hq => ?_⟩
    · have s2 : sumQ (qs.map fun q => minQ q (gainQ qs e)) = e := s2
      show minQ q (gainQ qs d) + minQ (q - minQ q (gainQ qs d)) (gainQ (qs.map fun q => q - minQ q (gainQ qs d)) (e - d)) = minQ q (gainQ qs e)
      have u1 : sumQ (qs.map fun q => minQ q (gainQ qs d) + minQ (q - minQ q (gainQ qs d)) (gainQ (qs.map fun q => q - minQ q (gainQ qs d)) (e - d))) = e := u1
      have g3 : 0 ≤ gainQ (qs.map fun q => q - minQ q (gainQ qs d)) (e - d) := g3
      generalize gainQ (qs.map fun q => q - minQ q (gainQ qs d)) (e - d) = M at *
      generalize gainQ qs d = L at *
      have e1 : ∀ q, minQ q L + minQ (q - minQ q L) M = minQ q (L + M) := fun q => by unfold minQ; grind
      rw [e1]
      refine same_min ?_ q hq
      rw [s2, ← u1]
      exact sumQ_ext fun q _ => (e1 q).symm
    · have s1 : sumQ (qs.map fun q => minQ q (gainQ qs d)) = d := s1
      show minQ (minQ q (gainQ qs e)) (gainQ (qs.map fun q => minQ q (gainQ qs e)) d) = minQ q (gainQ qs d)
      have u2 : sumQ (qs.map fun q => minQ (minQ q (gainQ qs e)) (gainQ (qs.map fun q => minQ q (gainQ qs e)) d)) = d := u2
      generalize gainQ (qs.map fun q => minQ q (gainQ qs e)) d = M at *
      generalize gainQ qs e = L at *
      have e1 : ∀ q, minQ (minQ q L) M = minQ q (minQ L M) := fun q => by unfold minQ; grind
      rw [e1]
      refine same_min ?_ q hq
      have h : qs.map (fun q => minQ q (minQ L M)) = qs.map (fun q => minQ (minQ q L) M) := List.map_congr_left fun q _ => (e1 q).symm
      rw [h, u2, s1]
  · -- by losses
    have g1 := (loss_sum nn d0 ds).1
    have g2 := (loss_sum nn e0 es).1
    have g4 := (loss_sum np d0 (show d ≤ _ by rw [s2]; exact h)).1
    refine ⟨fun q hq => ?_, fun q hq => ?_⟩
    · have s2 : sumQ (qs.map fun q => aboveQ q (lossQ qs e)) = e := s2
      show aboveQ q (lossQ qs d) + aboveQ (q - aboveQ q (lossQ qs d)) (lossQ (qs.map fun q => q - aboveQ q (lossQ qs d)) (e - d)) = aboveQ q (lossQ qs e)
      have u1 : sumQ (qs.map fun q => aboveQ q (lossQ qs d) + aboveQ (q - aboveQ q (lossQ qs d)) (lossQ (qs.map fun q => q - aboveQ q (lossQ qs d)) (e - d))) = e := u1
      generalize lossQ (qs.map fun q => q - aboveQ q (lossQ qs d)) (e - d) = M at *
      generalize lossQ qs d = L at *
      have e1 : ∀ q, aboveQ q L + aboveQ (q - aboveQ q L) M = aboveQ q (minQ L M) := fun q => by unfold aboveQ minQ; grind
      rw [e1]
      refine same_above ?_ q hq
      rw [s2, ← u1]
      exact sumQ_ext fun q _ => (e1 q).symm
    · have s1 : sumQ (qs.map fun q => aboveQ q (lossQ qs d)) = d := s1
      show aboveQ (aboveQ q (lossQ qs e)) (lossQ (qs.map fun q => aboveQ q (lossQ qs e)) d) = aboveQ q (lossQ qs d)
      have u2 : sumQ (qs.map fun q => aboveQ (aboveQ q (lossQ qs e)) (lossQ (qs.map fun q => aboveQ q (lossQ qs e)) d)) = d := u2
      have g4 : 0 ≤ lossQ (qs.map fun q => aboveQ q (lossQ qs e)) d := g4
      generalize lossQ (qs.map fun q => aboveQ q (lossQ qs e)) d = M at *
      generalize lossQ qs e = L at *
      have e1 : ∀ q, aboveQ (aboveQ q L) M = aboveQ q (L + M) := fun q => by unfold aboveQ; grind
      rw [e1]
      refine same_above ?_ q hq
      have h : qs.map (fun q => aboveQ q (L + M)) = qs.map (fun q => aboveQ (aboveQ q L) M) := List.map_congr_left fun q _ => (e1 q).symm
      rw [h, u2, s1]
/-! a claim is parted -/
theorem parted_others {a b c e : Rat} {rs : List Rat} (nn : ∀ q ∈ rs, 0 ≤ q) (a0 : 0 ≤ a) (b0 : 0 ≤ b) (hab : a + b = c) (e0 : 0 ≤ e) (es : e ≤ c + sumQ rs) :
    (∀ q ∈ rs, Ru.f .sh (a :: b :: rs) e q = Ru.f .sh (c :: rs) e q) ∧ (∀ q ∈ rs, Ru.f .ga (a :: b :: rs) e q ≤ Ru.f .ga (c :: rs) e q) ∧ (∀ q ∈ rs, Ru.f .lo (c :: rs) e q ≤ Ru.f .lo (a :: b :: rs) e q) := by
  have c0 : 0 ≤ c := by grind
  have nnc : ∀ q ∈ (c :: rs), 0 ≤ q := fun q hq => by
    rcases List.mem_cons.mp hq with rfl | hq
    · exact c0
    · exact nn q hq
  have nnab : ∀ q ∈ (a :: b :: rs), 0 ≤ q := fun q hq => by
    rcases List.mem_cons.mp hq with rfl | hq
    · exact a0
    · rcases List.mem_cons.mp hq with rfl | hq
      · exact b0
      · exact nn q hq
  have hs : sumQ (a :: b :: rs) = sumQ (c :: rs) := by
    show a + (b + sumQ rs) = c + sumQ rs
    grind
  have es' : e ≤ sumQ (a :: b :: rs) := by rw [hs]; exact es
  refine ⟨fun q hq => ?_, ?_, ?_⟩
  · show (if sumQ (a :: b :: rs) = 0 then 0 else q * (e / sumQ (a :: b :: rs))) = if sumQ (c :: rs) = 0 then 0 else q * (e / sumQ (c :: rs))
    rw [hs]
  · obtain ⟨g1, t1⟩ := gain_sum nnc e0 es
    obtain ⟨g2, t2⟩ := gain_sum nnab e0 es'
    have t1 : minQ c (gainQ (c :: rs) e) + sumQ (rs.map fun q => minQ q (gainQ (c :: rs) e)) = e := t1
    have t2 : minQ a (gainQ (a :: b :: rs) e) + (minQ b (gainQ (a :: b :: rs) e) + sumQ (rs.map fun q => minQ q (gainQ (a :: b :: rs) e))) = e := t2
    show ∀ q ∈ rs, minQ q (gainQ (a :: b :: rs) e) ≤ minQ q (gainQ (c :: rs) e)
    by_cases hl : gainQ (a :: b :: rs) e ≤ gainQ (c :: rs) e
    · exact fun q _ => min_le_min hl
    · have h3 : minQ c (gainQ (c :: rs) e) ≤ minQ a (gainQ (a :: b :: rs) e) + minQ b (gainQ (a :: b :: rs) e) := by unfold minQ; grind
      have := sum_eq_of (f := fun q => minQ q (gainQ (c :: rs) e)) (g := fun q => minQ q (gainQ (a :: b :: rs) e)) (qs := rs) (fun q _ => min_le_min (by grind)) (by grind)
      exact fun q hq => by rw [this q hq]; exact Rat.le_refl
  · obtain ⟨g1, t1⟩ := loss_sum nnc e0 es
    obtain ⟨g2, t2⟩ := loss_sum nnab e0 es'
    have t1 : aboveQ c (lossQ (c :: rs) e) + sumQ (rs.map fun q => aboveQ q (lossQ (c :: rs) e)) = e := t1
    have t2 : aboveQ a (lossQ (a :: b :: rs) e) + (aboveQ b (lossQ (a :: b :: rs) e) + sumQ (rs.map fun q => aboveQ q (lossQ (a :: b :: rs) e))) = e := t2
    show ∀ q ∈ rs, aboveQ q (lossQ (c :: rs) e) ≤ aboveQ q (lossQ (a :: b :: rs) e)
    by_cases hl : lossQ (a :: b :: rs) e ≤ lossQ (c :: rs) e
    · exact fun q _ => above_le hl
    · have h3 : aboveQ a (lossQ (a :: b :: rs) e) + aboveQ b (lossQ (a :: b :: rs) e) ≤ aboveQ c (lossQ (c :: rs) e) := by unfold aboveQ; grind
      have := sum_eq_of (f := fun q => aboveQ q (lossQ (a :: b :: rs) e)) (g := fun q => aboveQ q (lossQ (c :: rs) e)) (qs := rs) (fun q _ => above_le (by grind)) (by grind)
      exact fun q hq => by rw [this q hq]; exact Rat.le_refl
/-! ### chains -/
def Ch (R : Rat → Rat → Prop) : List Rat → Prop
  | a :: b :: l => R a b ∧ Ch R (b :: l)
  | _ => True
theorem Ch.get {R : Rat → Rat → Prop} : ∀ {l : List Rat} {k : Nat} {a b : Rat}, Ch R l → l[k]? = some a → l[k + 1]? = some b → R a b
  | [], k, a, b, _, h, _ => by simp at h
  | [x], k, a, b, _, _, h => by simp at h
  | x :: y :: l, 0, a, b, h, h1, h2 => by
    have h1 : x = a := by simpa using h1
    have h2 : y = b := by simpa using h2
    rw [← h1, ← h2]
    exact h.1
  | x :: y :: l, k + 1, a, b, h, h1, h2 => Ch.get (l := y :: l) (k := k) h.2 (by simpa using h1) (by simpa using h2)
theorem Ch.imp {R S : Rat → Rat → Prop} : ∀ {l : List Rat}, (∀ a ∈ l, ∀ b ∈ l, R a b → S a b) → Ch R l → Ch S l
  | [], _, _ => trivial
  | [_], _, _ => trivial
  | x :: y :: l, h, c => ⟨h x List.mem_cons_self y (List.mem_cons_of_mem _ List.mem_cons_self) c.1, Ch.imp (l := y :: l) (fun a ha b hb => h a (List.mem_cons_of_mem _ ha) b (List.mem_cons_of_mem _ hb)) c.2⟩
theorem Ch.map {R : Rat → Rat → Prop} {f : Rat → Rat} : ∀ {l : List Rat}, Ch (fun a b => R (f a) (f b)) l → Ch R (l.map f)
  | [], _ => trivial
  | [_], _ => trivial
  | x :: y :: l, c => ⟨c.1, Ch.map (l := y :: l) c.2⟩
theorem Ch.join {R : Rat → Rat → Prop} : ∀ {l m : List Rat}, Ch R l → Ch R m → (∀ a b, l.getLast? = some a → m.head? = some b → R a b) → Ch R (l ++ m)
  | [], _, _, h, _ => h
  | [x], m, _, h, j => by
    cases m with
    | nil => trivial
    | cons y m => exact ⟨j x y rfl rfl, h⟩
  | x :: y :: l, m, c, h, j => ⟨c.1, Ch.join (l := y :: l) c.2 h fun a b h1 h2 => j a b (by rw [List.getLast?_cons_cons]; exact h1) h2⟩
theorem Ch.rev {R : Rat → Rat → Prop} (sy : ∀ a b, R a b → R b a) : ∀ {l : List Rat}, Ch R l → Ch R l.reverse
  | [], _ => trivial
  | [_], _ => trivial
  | x :: y :: l, c => by
    rw [List.reverse_cons]
    refine Ch.join (Ch.rev sy (l := y :: l) c.2) trivial fun a b h1 h2 => ?_
    rw [List.reverse_cons, List.getLast?_append] at h1
    have h1 : y = a := by simpa using h1
    have h2 : x = b := by simpa using h2
    rw [← h1, ← h2]
    exact sy _ _ c.1
theorem Ch.init {R : Rat → Rat → Prop} : ∀ {l : List Rat}, Ch R l → Ch R l.dropLast
  | [], _ => trivial
  | [_], _ => trivial
  | [x, y], _ => trivial
  | x :: y :: z :: l, c => ⟨c.1, Ch.init (l := y :: z :: l) c.2⟩
/-! ### levels -/
def GapR (S : List Rat) (a b : Rat) : Prop := a < b ∧ ∀ q ∈ S, q ≤ a ∨ b ≤ q
theorem lv_go (S : List Rat) : ∀ (r : List Rat) (x : Rat), r.Pairwise (· ≤ ·) → (∀ q ∈ r, x ≤ q) → (∀ q ∈ S, q ≤ x ∨ q ∈ r) → Ch (GapR S) (x :: unlF x r) ∧ ∀ l, (x :: unlF x r).getLast? = some l → ∀ q ∈ S, q ≤ l
  | [], x, _, _, hS => ⟨trivial, fun l hl q hq => by
    have : x = l := by simpa [unlF] using hl
    rw [← this]
    rcases hS q hq with h | h
    · exact h
    · cases h⟩
  | p :: r, x, hp, hx, hS => by
    obtain ⟨h1, h2⟩ := List.pairwise_cons.mp hp
    by_cases hpx : p = x
    · have e : unlF x (p :: r) = unlF x r := by rw [unlF, if_pos hpx]
      rw [e]
      refine lv_go S r x h2 (fun q hq => hx q (List.mem_cons_of_mem _ hq)) fun q hq => ?_
      rcases hS q hq with h | h
      · exact .inl h
      · rcases List.mem_cons.mp h with h | h
        · exact .inl (by rw [h, hpx]; exact Rat.le_refl)
        · exact .inr h
    · have e : unlF x (p :: r) = p :: unlF p r := by rw [unlF, if_neg hpx]
      rw [e]
      have hlt : x < p := by
        have := hx p List.mem_cons_self
        grind
      have ih := lv_go S r p h2 h1 fun q hq => by
        rcases hS q hq with h | h
        · exact .inl (by grind)
        · rcases List.mem_cons.mp h with h | h
          · exact .inl (by rw [h]; exact Rat.le_refl)
          · exact .inr h
      refine ⟨⟨⟨hlt, fun q hq => ?_⟩, ih.1⟩, fun l hl => ih.2 l (by rw [List.getLast?_cons_cons] at hl; exact hl)⟩
      rcases hS q hq with h | h
      · exact .inl h
      · rcases List.mem_cons.mp h with h | h
        · exact .inr (by rw [h]; exact Rat.le_refl)
        · exact .inr (h1 q h)
def lvQ (qs : List Rat) : List Rat := 0 :: unlikeQ qs
theorem lv_ok {qs : List Rat} (nn : ∀ q ∈ qs, 0 ≤ q) : Ch (GapR qs) (lvQ qs) ∧ ∀ l, (lvQ qs).getLast? = some l → ∀ q ∈ qs, q ≤ l :=
  lv_go qs (risingQ qs) 0 (risingQ_sorted qs) (fun q hq => nn q ((risingQ_perm qs).mem_iff.mp hq)) fun q hq => .inr ((risingQ_perm qs).mem_iff.mpr hq)
theorem lv_nn {qs : List Rat} (nn : ∀ q ∈ qs, 0 ≤ q) : ∀ l ∈ lvQ qs, 0 ≤ l := fun l hl => by
  rcases List.mem_cons.mp hl with h | h
  · rw [h]; exact Rat.le_refl
  · exact nn l (unlike_mem l h)
/-! ### parts grow evenly -/
/-- between the estates d and e -/
def Aff (r : Ru) (qs : List Rat) (d e : Rat) : Prop := ∀ t : Rat, 0 ≤ t → t ≤ 1 → ∀ q ∈ qs, r.f qs (d + t * (e - d)) q = r.f qs d q + t * (r.f qs e q - r.f qs d q)
theorem Aff.symm {r : Ru} {qs : List Rat} {d e : Rat} (h : Aff r qs d e) : Aff r qs e d := fun t t0 t1 q hq => by
  have h := h (1 - t) (by grind) (by grind) q hq
  rw [show d + (1 - t) * (e - d) = e + t * (d - e) by grind] at h
  rw [h]
  grind
theorem mapsum {f g h : Rat → Rat} {t : Rat} : ∀ {qs : List Rat}, (∀ q ∈ qs, h q = f q + t * (g q - f q)) → sumQ (qs.map h) = sumQ (qs.map f) + t * (sumQ (qs.map g) - sumQ (qs.map f))
  | [], _ => by
    show (0 : Rat) = 0 + t * (0 - 0)
    grind
  | q :: qs, e => by
    have h1 := e q List.mem_cons_self
    have h2 := mapsum fun z hz => e z (List.mem_cons_of_mem _ hz)
    show h q + sumQ (qs.map h) = (f q + sumQ (qs.map f)) + t * ((g q + sumQ (qs.map g)) - (f q + sumQ (qs.map f)))
    rw [h1, h2]
    grind
theorem tmul {t d : Rat} (t0 : 0 ≤ t) (t1 : t ≤ 1) (d0 : 0 ≤ d) : 0 ≤ t * d ∧ t * d ≤ d := by
  have h1 := Rat.mul_nonneg t0 d0
  have h2 := Rat.mul_nonneg (show 0 ≤ 1 - t by grind) d0
  grind
/-- parts by a level -/
theorem aff_of {r : Ru} {qs : List Rat} {P : Rat → Rat → Rat} {a b : Rat} (hab : a ≤ b) (fx : ∀ x, a ≤ x → x ≤ b → ∀ q ∈ qs, r.f qs (sumQ (qs.map (P x))) q = P x q)
    (lin : ∀ t, 0 ≤ t → t ≤ 1 → ∀ q ∈ qs, P (a + t * (b - a)) q = P a q + t * (P b q - P a q)) : Aff r qs (sumQ (qs.map (P a))) (sumQ (qs.map (P b))) := fun t t0 t1 q hq => by
  have h := tmul t0 t1 (show 0 ≤ b - a by grind)
  rw [← mapsum (lin t t0 t1), fx _ (by grind) (by grind) q hq, fx a Rat.le_refl hab q hq, fx b hab Rat.le_refl q hq, lin t t0 t1 q hq]
theorem min_lin {a b q t : Rat} (g : a ≤ b) (h : q ≤ a ∨ b ≤ q) (t0 : 0 ≤ t) (t1 : t ≤ 1) : minQ q (a + t * (b - a)) = minQ q a + t * (minQ q b - minQ q a) := by
  have hd := tmul t0 t1 (show 0 ≤ b - a by grind)
  rcases h with h | h
  · have e1 : minQ q a = q := by unfold minQ; grind
    have e2 : minQ q b = q := by unfold minQ; grind
    have e3 : minQ q (a + t * (b - a)) = q := by unfold minQ; grind
    rw [e1, e2, e3]
    grind
  · have e1 : minQ q a = a := by unfold minQ; grind
    have e2 : minQ q b = b := by unfold minQ; grind
    have e3 : minQ q (a + t * (b - a)) = a + t * (b - a) := by unfold minQ; grind
    rw [e1, e2, e3]
theorem above_lin {a b q t : Rat} (g : a ≤ b) (h : q ≤ a ∨ b ≤ q) (t0 : 0 ≤ t) (t1 : t ≤ 1) : aboveQ q (a + t * (b - a)) = aboveQ q a + t * (aboveQ q b - aboveQ q a) := by
  have hd := tmul t0 t1 (show 0 ≤ b - a by grind)
  rcases h with h | h
  · have e1 : aboveQ q a = 0 := by unfold aboveQ; grind
    have e2 : aboveQ q b = 0 := by unfold aboveQ; grind
    have e3 : aboveQ q (a + t * (b - a)) = 0 := by unfold aboveQ; grind
    rw [e1, e2, e3]
    grind
  · have e1 : aboveQ q a = q - a := by unfold aboveQ; grind
    have e2 : aboveQ q b = q - b := by unfold aboveQ; grind
    have e3 : aboveQ q (a + t * (b - a)) = q - (a + t * (b - a)) := by unfold aboveQ; grind
    rw [e1, e2, e3]
    grind
/-- by gains, by a level -/
theorem ga_level {qs : List Rat} (nn : ∀ q ∈ qs, 0 ≤ q) {x : Rat} (x0 : 0 ≤ x) : ∀ q ∈ qs, Ru.f .ga qs (sumQ (qs.map fun q => minQ q x)) q = minQ q x := by
  have hb := sum_btw (f := fun q => minQ q x) (qs := qs) fun q hq => min_btw (nn q hq) x0
  exact same_min (gain_sum nn hb.1 hb.2).2
theorem lo_level {qs : List Rat} (nn : ∀ q ∈ qs, 0 ≤ q) {x : Rat} (x0 : 0 ≤ x) : ∀ q ∈ qs, Ru.f .lo qs (sumQ (qs.map fun q => aboveQ q x)) q = aboveQ q x := by
  have hb := sum_btw (f := fun q => aboveQ q x) (qs := qs) fun q hq => above_btw (nn q hq) x0
  exact same_above (loss_sum nn hb.1 hb.2).2
/-- half the claims, up to a level -/
def hS (qs : List Rat) (x : Rat) : Rat := sumQ (qs.map fun q => minQ (q * halfR) x)
theorem hS_map (qs : List Rat) (x : Rat) : sumQ ((halvesQ qs).map fun q => minQ q x) = hS qs x := by
  unfold halvesQ hS
  rw [List.map_map]
  rfl
theorem hS_btw {qs : List Rat} (nn : ∀ q ∈ qs, 0 ≤ q) {x : Rat} (x0 : 0 ≤ x) : 0 ≤ hS qs x ∧ hS qs x + hS qs x ≤ sumQ qs := by
  have hb := sum_btw (f := fun q => minQ q x) (qs := halvesQ qs) fun q hq => min_btw (halves_nn nn q hq) x0
  rw [hS_map] at hb
  have := halves_sum qs
  grind
theorem ha_ga {qs : List Rat} (nn : ∀ q ∈ qs, 0 ≤ q) {x : Rat} (x0 : 0 ≤ x) : ∀ q ∈ qs, minQ (q * halfR) (gainQ (halvesQ qs) (hS qs x)) = minQ (q * halfR) x := fun q hq => by
  have h := ga_level (halves_nn nn) x0 (q * halfR) (List.mem_map.mpr ⟨q, hq, rfl⟩)
  rw [hS_map] at h
  exact h
theorem ha_lowL {qs : List Rat} (nn : ∀ q ∈ qs, 0 ≤ q) {x : Rat} (x0 : 0 ≤ x) : ∀ q ∈ qs, Ru.f .ha qs (hS qs x) q = minQ (q * halfR) x := fun q hq => by
  have hb := hS_btw nn x0
  rw [ha_low (by grind)]
  exact ha_ga nn x0 q hq
theorem ha_highL {qs : List Rat} (nn : ∀ q ∈ qs, 0 ≤ q) {x : Rat} (x0 : 0 ≤ x) : ∀ q ∈ qs, Ru.f .ha qs (sumQ qs - hS qs x) q = q - minQ (q * halfR) x := fun q hq => by
  have hb := hS_btw nn x0
  by_cases h : sumQ qs - (sumQ qs - hS qs x) < sumQ qs - hS qs x
  · rw [ha_high h, show sumQ qs - (sumQ qs - hS qs x) = hS qs x by grind, ha_ga nn x0 q hq]
  · have he : sumQ qs - hS qs x = hS qs x := by grind
    rw [he, ha_lowL nn x0 q hq]
    have hs := halves_sum qs
    have eq := sum_eq_of (f := fun q => minQ (q * halfR) x) (g := fun q => q * halfR) (qs := qs) (fun q _ => by unfold minQ; grind) (by
      have : sumQ (qs.map fun q => q * halfR) = sumQ (halvesQ qs) := rfl
      have h2 : sumQ (qs.map fun q => minQ (q * halfR) x) = hS qs x := rfl
      rw [this, h2]
      grind) q hq
    have := half_eq q
    grind
theorem hS_lin {qs : List Rat} {a b t : Rat} (hab : a ≤ b) (h : ∀ q ∈ qs, q * halfR ≤ a ∨ b ≤ q * halfR) (t0 : 0 ≤ t) (t1 : t ≤ 1) : hS qs (a + t * (b - a)) = hS qs a + t * (hS qs b - hS qs a) :=
  mapsum fun q hq => min_lin hab (h q hq) t0 t1
theorem aff_ha_low {qs : List Rat} (nn : ∀ q ∈ qs, 0 ≤ q) {a b : Rat} (a0 : 0 ≤ a) (hab : a ≤ b) (h : ∀ q ∈ qs, q * halfR ≤ a ∨ b ≤ q * halfR) : Aff .ha qs (hS qs a) (hS qs b) :=
  aff_of (P := fun x q => minQ (q * halfR) x) hab (fun x h1 _ => ha_lowL nn (by grind)) fun t t0 t1 q hq => min_lin hab (h q hq) t0 t1
theorem aff_ha_high {qs : List Rat} (nn : ∀ q ∈ qs, 0 ≤ q) {a b : Rat} (a0 : 0 ≤ a) (hab : a ≤ b) (h : ∀ q ∈ qs, q * halfR ≤ a ∨ b ≤ q * halfR) : Aff .ha qs (sumQ qs - hS qs a) (sumQ qs - hS qs b) := fun t t0 t1 q hq => by
  have hd := tmul t0 t1 (show 0 ≤ b - a by grind)
  have e : sumQ qs - hS qs a + t * (sumQ qs - hS qs b - (sumQ qs - hS qs a)) = sumQ qs - hS qs (a + t * (b - a)) := by
    rw [hS_lin hab h t0 t1]
    grind
  rw [e, ha_highL nn (by grind) q hq, ha_highL nn a0 q hq, ha_highL nn (by grind) q hq, min_lin hab (h q hq) t0 t1]
  grind
/-- over the middle: b is the greatest half -/
theorem aff_ha_mid {qs : List Rat} (nn : ∀ q ∈ qs, 0 ≤ q) {a b : Rat} (a0 : 0 ≤ a) (hab : a ≤ b) (h : ∀ q ∈ qs, q * halfR ≤ a ∨ b ≤ q * halfR) (top : ∀ q ∈ qs, q * halfR ≤ b) : Aff .ha qs (hS qs a) (sumQ qs - hS qs a) := fun t t0 t1 q hq => by
  have hs := halves_sum qs
  have mb : ∀ q ∈ qs, minQ (q * halfR) b = q * halfR := fun q hq => by
    have := top q hq
    unfold minQ
    grind
  have sb : hS qs b = sumQ (halvesQ qs) := by
    unfold hS halvesQ
    exact sumQ_ext mb
  have hq2 := half_eq q
  have mq := mb q hq
  by_cases ht : t + t ≤ 1
  · have u0 : 0 ≤ t + t := by grind
    have hd := tmul u0 ht (show 0 ≤ b - a by grind)
    have e : hS qs a + t * (sumQ qs - hS qs a - hS qs a) = hS qs (a + (t + t) * (b - a)) := by
      rw [hS_lin hab h u0 ht, sb]
      grind
    rw [e, ha_lowL nn (by grind) q hq, ha_lowL nn a0 q hq, ha_highL nn a0 q hq, min_lin hab (h q hq) u0 ht, mq]
    grind
  · have u0 : 0 ≤ (1 - t) + (1 - t) := by grind
    have u1 : (1 - t) + (1 - t) ≤ 1 := by grind
    have hd := tmul u0 u1 (show 0 ≤ b - a by grind)
    have e : hS qs a + t * (sumQ qs - hS qs a - hS qs a) = sumQ qs - hS qs (a + ((1 - t) + (1 - t)) * (b - a)) := by
      rw [hS_lin hab h u0 u1, sb]
      grind
    rw [e, ha_highL nn (by grind) q hq, ha_lowL nn a0 q hq, ha_highL nn a0 q hq, min_lin hab (h q hq) u0 u1, mq]
    grind
/-! ### the knots, by levels -/
theorem un_ne {qs : List Rat} (nn : ∀ q ∈ qs, 0 ≤ q) (s : sumQ qs ≠ 0) : unlikeQ qs ≠ [] := fun e => s (by
  have h := (lv_ok nn).2 0 (by unfold lvQ; rw [e]; rfl)
  have z : ∀ q ∈ qs, q = 0 := fun q hq => by
    have := h q hq
    have := nn q hq
    grind
  have : qs.map (fun _ => (0 : Rat)) = qs := by
    conv => rhs; rw [← List.map_id' qs]
    exact List.map_congr_left fun q hq => (z q hq).symm
  rw [← this]
  have go : ∀ l : List Rat, sumQ (l.map fun _ => (0 : Rat)) = 0 := fun l => by
    induction l with
    | nil => rfl
    | cons x l ih =>
      show 0 + sumQ (l.map fun _ => (0 : Rat)) = 0
      rw [ih]
      grind
  exact go qs)
theorem map_zero_sum {qs : List Rat} {f : Rat → Rat} (h : ∀ q ∈ qs, f q = 0) : sumQ (qs.map f) = 0 := by
  induction qs with
  | nil => rfl
  | cons x l ih =>
    show f x + sumQ (l.map f) = 0
    rw [h x List.mem_cons_self, ih fun q hq => h q (List.mem_cons_of_mem _ hq)]
    grind
theorem map_id_sum {qs : List Rat} {f : Rat → Rat} (h : ∀ q ∈ qs, f q = q) : sumQ (qs.map f) = sumQ qs := by
  have : qs.map f = qs := by
    conv => rhs; rw [← List.map_id' qs]
    exact List.map_congr_left h
  rw [this]
theorem dl_last {l : List Rat} (h : l ≠ []) : ∃ x, l.getLast? = some x ∧ l = l.dropLast ++ [x] := ⟨l.getLast h, List.getLast?_eq_some_getLast h, (List.dropLast_concat_getLast h).symm⟩
theorem last_cons {x : Rat} {l : List Rat} (h : l ≠ []) : (x :: l).getLast? = l.getLast? := by
  cases l with
  | nil => exact absurd rfl h
  | cons y l => rw [List.getLast?_cons_cons]
theorem knots_ga {qs : List Rat} (nn : ∀ q ∈ qs, 0 ≤ q) (s : sumQ qs ≠ 0) : knotsQ .ga qs = (lvQ qs).map fun l => sumQ (qs.map fun q => minQ q l) := by
  obtain ⟨x, hx, e⟩ := dl_last (un_ne nn s)
  have top := (lv_ok nn).2 x (by unfold lvQ; rw [last_cons (un_ne nn s)]; exact hx)
  have z0 : sumQ (qs.map fun q => minQ q 0) = 0 := map_zero_sum fun q hq => by
    have := nn q hq
    unfold minQ
    grind
  have z1 : sumQ (qs.map fun q => minQ q x) = sumQ qs := map_id_sum fun q hq => by
    have := top q hq
    unfold minQ
    grind
  unfold knotsQ
  rw [if_neg s]
  unfold lvQ
  conv => rhs; rw [e]
  rw [List.map_cons, List.map_append, z0, List.map_cons, List.map_nil, z1]
  rfl
theorem knots_lo {qs : List Rat} (nn : ∀ q ∈ qs, 0 ≤ q) (s : sumQ qs ≠ 0) : knotsQ .lo qs = (lvQ qs).reverse.map fun l => sumQ (qs.map fun q => aboveQ q l) := by
  obtain ⟨x, hx, e⟩ := dl_last (un_ne nn s)
  have top := (lv_ok nn).2 x (by unfold lvQ; rw [last_cons (un_ne nn s)]; exact hx)
  have z0 : sumQ (qs.map fun q => aboveQ q 0) = sumQ qs := map_id_sum fun q hq => by
    have := nn q hq
    unfold aboveQ
    grind
  have z1 : sumQ (qs.map fun q => aboveQ q x) = 0 := map_zero_sum fun q hq => by
    have := top q hq
    unfold aboveQ
    grind
  unfold knotsQ
  rw [if_neg s]
  unfold lvQ
  conv => rhs; rw [e]
  rw [List.reverse_cons, List.reverse_append, List.map_append, List.map_append, List.map_cons, List.map_nil, z0, List.reverse_singleton, List.map_cons, List.map_nil, z1]
  rfl
theorem halves_ne {qs : List Rat} (s : sumQ qs ≠ 0) : sumQ (halvesQ qs) ≠ 0 := fun h => s (by
  have := halves_sum qs
  grind)
theorem knots_ha {qs : List Rat} (nn : ∀ q ∈ qs, 0 ≤ q) (s : sumQ qs ≠ 0) : knotsQ .ha qs = (lvQ (halvesQ qs)).dropLast.map (hS qs) ++ ((lvQ (halvesQ qs)).dropLast.map (hS qs)).reverse.map fun e => sumQ qs - e := by
  have une := un_ne (halves_nn nn) (halves_ne s)
  have z0 : hS qs 0 = 0 := map_zero_sum fun q hq => by
    have := half_nn (nn q hq)
    unfold minQ
    grind
  have ed : (lvQ (halvesQ qs)).dropLast = 0 :: (unlikeQ (halvesQ qs)).dropLast := by
    unfold lvQ
    cases h : unlikeQ (halvesQ qs) with
    | nil => exact absurd h une
    | cons x l => rfl
  have eu : upsQ (qs.map (· * halfR)) = (unlikeQ (halvesQ qs)).dropLast.map (hS qs) := List.map_congr_left fun l _ => hS_map qs l
  unfold knotsQ
  rw [if_neg s]
  show 0 :: (upsQ (qs.map (· * halfR)) ++ (upsQ (qs.map (· * halfR))).reverse.map fun e => sumQ qs - e) ++ [sumQ qs] = _
  rw [ed, eu, List.map_cons, z0, List.reverse_cons, List.map_append, List.map_cons, List.map_nil, show sumQ qs - 0 = sumQ qs by grind]
  simp
/-- parts grow evenly from each knot to the next -/
theorem knots_aff (r : Ru) (hr : r ≠ .tu) {qs : List Rat} (nn : ∀ q ∈ qs, 0 ≤ q) : Ch (Aff r qs) (knotsQ r qs) := by
  by_cases s : sumQ qs = 0
  · unfold knotsQ
    rw [if_pos s]
    trivial
  · cases r with
    | tu => exact absurd rfl hr
    | sh =>
      unfold knotsQ
      rw [if_neg s]
      refine ⟨fun t t0 t1 q hq => ?_, trivial⟩
      show (if sumQ qs = 0 then 0 else q * ((0 + t * (sumQ qs - 0)) / sumQ qs)) = (if sumQ qs = 0 then 0 else q * (0 / sumQ qs)) + t * ((if sumQ qs = 0 then 0 else q * (sumQ qs / sumQ qs)) - (if sumQ qs = 0 then 0 else q * (0 / sumQ qs)))
      rw [if_neg s, if_neg s, if_neg s, Rat.div_def, Rat.div_def, Rat.div_def]
      grind
    | ga =>
      rw [knots_ga nn s]
      refine Ch.map (Ch.imp (fun a ha b hb g => ?_) (lv_ok nn).1)
      exact aff_of (P := fun x q => minQ q x) (Rat.le_of_lt g.1) (fun x h1 _ => ga_level nn (by have := lv_nn nn a ha; grind)) fun t t0 t1 q hq => min_lin (Rat.le_of_lt g.1) (g.2 q hq) t0 t1
    | lo =>
      rw [knots_lo nn s]
      refine Ch.map (Ch.rev (fun a b h => h.symm) (Ch.imp (fun a ha b hb g => ?_) (lv_ok nn).1))
      exact aff_of (P := fun x q => aboveQ q x) (Rat.le_of_lt g.1) (fun x h1 _ => lo_level nn (by have := lv_nn nn a ha; grind)) fun t t0 t1 q hq => above_lin (Rat.le_of_lt g.1) (g.2 q hq) t0 t1
    | ha =>
      have nh := halves_nn nn
      have L := lv_ok nh
      have gp : ∀ {a b : Rat}, GapR (halvesQ qs) a b → ∀ q ∈ qs, q * halfR ≤ a ∨ b ≤ q * halfR := fun g q hq => g.2 _ (List.mem_map.mpr ⟨q, hq, rfl⟩)
      rw [knots_ha nn s]
      have mem : ∀ a ∈ (lvQ (halvesQ qs)).dropLast, 0 ≤ a := fun a ha => lv_nn nh a (List.dropLast_subset _ ha)
      refine Ch.join (Ch.map (Ch.imp (fun a ha b hb g => ?_) L.1.init)) ?_ ?_
      · exact aff_ha_low nn (mem a ha) (Rat.le_of_lt g.1) (gp g)
      · rw [← List.map_reverse, List.map_map]
        refine Ch.map (Ch.rev (fun a b h => h.symm) (Ch.imp (fun a ha b hb g => ?_) L.1.init))
        exact aff_ha_high nn (mem a ha) (Rat.le_of_lt g.1) (gp g)
      · intro u v hu hv
        have une := un_ne nh (halves_ne s)
        obtain ⟨x, hx, e⟩ := dl_last une
        have top := L.2 x (by unfold lvQ; rw [last_cons une]; exact hx)
        -- the last but one level
        have dne : (lvQ (halvesQ qs)).dropLast ≠ [] := by
          unfold lvQ
          cases h : unlikeQ (halvesQ qs) with
          | nil => exact absurd h une
          | cons y l => simp
        obtain ⟨a, ha, e2⟩ := dl_last dne
        have gab : GapR (halvesQ qs) a x := by
          have hl : lvQ (halvesQ qs) = (lvQ (halvesQ qs)).dropLast ++ [x] := by
            obtain ⟨y, hy, e3⟩ := dl_last (l := lvQ (halvesQ qs)) (by simp [lvQ])
            have : y = x := by
              unfold lvQ at hy
              rw [last_cons une, hx] at hy
              exact (Option.some.inj hy).symm
            rw [← this]
            exact e3
          have c := L.1
          rw [hl, e2, List.append_assoc] at c
          refine Ch.get (k := (lvQ (halvesQ qs)).dropLast.dropLast.length) c ?_ ?_
          · rw [List.getElem?_append_right (Nat.le_refl _), Nat.sub_self]
            rfl
          · rw [List.getElem?_append_right (by omega), show (lvQ (halvesQ qs)).dropLast.dropLast.length + 1 - (lvQ (halvesQ qs)).dropLast.dropLast.length = 1 by omega]
            rfl
        have hu : u = hS qs a := by
          rw [List.getLast?_map, ha] at hu
          exact (Option.some.inj hu).symm
        have hv : v = sumQ qs - hS qs a := by
          rw [List.head?_map, List.head?_reverse, List.getLast?_map, ha] at hv
          exact (Option.some.inj hv).symm
        rw [hu, hv]
        exact aff_ha_mid nn (mem a (List.mem_of_getLast? ha)) (Rat.le_of_lt gab.1) (gp gab) fun q hq => top _ (List.mem_map.mpr ⟨q, hq, rfl⟩)
/-! ### whole numbers over one bottom -/
def uI (G : Nat) (q : Rat) : Int := q.num * (G : Int) / (q.den : Int)
theorem uI_mul {G C : Nat} {q : Rat} (h : On G C q) : q.num * (G : Int) = uI G q * (q.den : Int) ∧ q = Rat.divInt (uI G q) (G : Int) ∧ (uI G q).natAbs ≤ C := by
  obtain ⟨g, k, e, hk⟩ := h
  have d0 : (q.den : Int) ≠ 0 := by have := q.den_nz; omega
  have gz : (G : Int) ≠ 0 := by omega
  have e2 : Rat.divInt q.num q.den = Rat.divInt k G := by rw [Rat.num_divInt_den]; exact e
  have e3 : q.num * (G : Int) = k * (q.den : Int) := (Rat.divInt_eq_divInt_iff d0 gz).mp e2
  have e4 : uI G q = k := by
    unfold uI
    rw [e3, Int.mul_ediv_cancel _ d0]
  rw [e4]
  exact ⟨e3, e, hk⟩
theorem uI_div {G : Nat} (g : 0 < G) (a : Int) : uI G (Rat.divInt a G) = a := by
  have h := (uI_mul (on_div a G g)).2.1
  have h1 : ¬ a < uI G (Rat.divInt a G) := fun z => by
    have := (divInt_lt g).mpr z
    grind
  have h2 : ¬ uI G (Rat.divInt a G) < a := fun z => by
    have := (divInt_lt g).mpr z
    grind
  omega
theorem divInt_inj {G : Nat} (g : 0 < G) {a b : Int} (h : Rat.divInt a G = Rat.divInt b G) : a = b := by
  rw [← uI_div g a, h, uI_div g b]
theorem f__law_units {G C : Nat} {q : Rat} (hG : G < 2 ^ 64) (h : On G C q) : F__law_units [rt q, .int (G : Int)] = .ok (.int (uI G q)) := by
  obtain ⟨e1, e2, _⟩ := uI_mul h
  have d0 : (0 : Int) < q.den := by have := q.den_nz; omega
  have i0 : ixD (rt q) (.int 0) = .ok (.int q.num) := rt_0
  have i1 : ixD (rt q) (.int 1) = .ok (.int q.den) := rt_1
  have hm : mulOk q.num (G : Int) = true := mulOk_r (by rw [Int.natAbs_natCast]; exact hG)
  have lt1 : ¬ (q.den : Int) < 1 := by omega
  have hmod : bop .mod (.int (q.num * (G : Int))) (.int (q.den : Int)) = .ok (.int 0) := by
    rw [ev_modp d0, e1, Int.mul_emod_left]
  have hdl : (q.den : Int).natAbs.log2 < 9000 := log_by (n := 64) (by
    have := den_le (uI G q) (G : Int) (by have := h.1; omega)
    rw [← e2, Int.natAbs_natCast] at this
    rw [Int.natAbs_natCast]
    omega) (by decide)
  have hdiv : bop .fdiv (.int (q.num * (G : Int))) (.int (q.den : Int)) = .ok (.int (uI G q)) := by
    rw [ev_fdiv, if_pos ⟨by omega, hdl⟩, e1, fdiv_pos d0, Int.mul_ediv_cancel _ (by omega)]
  have hr : F__law_ratio [.int (uI G q), .int (G : Int)] = .ok (rt q) := by
    rw [f__law_ratio (uI G q) G (by have := h.1; omega) (log_by (n := 64) (by rw [Int.natAbs_natCast]; exact hG) (by decide)), ← e2]
  have hc : ceq (rt q) (rt q) = .ok true := by rw [ceq_rt]; simp
  have isr : biD (.isi "tuple") (rt q) = .ok (.bool true) := ev_isi_t_tuple
  have lnr : biD .len (rt q) = .ok (.int 2) := rfl
  have hI : ∀ v1 v2, denI I1__law_units [some (rt q), v1, v2] = .ok [.int q.num, .int (q.den : Int)] := fun v1 v2 => by
    unfold rt
    simp [I1__law_units]
  clear e1 e2 h d0
  generalize uI G q = u at *
  generalize rt q = r at *
  generalize (q.den : Int) = d at *
  generalize q.num = nu at *
  generalize (G : Int) = gI at *
  simp [-ev_fdiv, -ev_fdivp, -ev_mod, -ev_modp, F__law_units, Mn.run, d__law_units, env0, isr, lnr, hI, forO, B1__law_units, i0, i1, lt1, hm, hmod, hdiv, hr, hc]
theorem maxI_spec : ∀ (l : List Int) (m : Int), m ≤ maxI l m ∧ (∀ x ∈ l, x ≤ maxI l m) ∧ (maxI l m = m ∨ maxI l m ∈ l)
  | [], m => ⟨Int.le_refl _, fun _ h => (nomatch h), .inl rfl⟩
  | x :: l, m => by
    obtain ⟨h1, h2, h3⟩ := maxI_spec l (if m < x then x else m)
    show m ≤ maxI l (if m < x then x else m) ∧ (∀ y ∈ x :: l, y ≤ maxI l (if m < x then x else m)) ∧ (maxI l (if m < x then x else m) = m ∨ maxI l (if m < x then x else m) ∈ x :: l)
    generalize maxI l (if m < x then x else m) = M at *
    refine ⟨by split at h1 <;> omega, fun y hy => ?_, ?_⟩
    · rcases List.mem_cons.mp hy with rfl | hy
      · split at h1 <;> omega
      · exact h2 y hy
    · rcases h3 with h | h
      · split at h
        · exact .inr (by rw [h]; exact List.mem_cons_self)
        · exact .inl h
      · exact .inr (List.mem_cons_of_mem _ h)
theorem intsD_ks : ∀ l : List Int, intsD (l.map .int) = .ok l
  | [] => rfl
  | x :: l => by
    show (intsD (l.map .int) >>= fun r => R.ok (x :: r)) = _
    rw [intsD_ks l]
    rfl
theorem maxD_of (xs : List Int) : ∃ M : Int, biD (.maxD 0) (.list (xs.map .int)) = .ok (.int M) ∧ (∀ x ∈ xs, x ≤ M) ∧ (xs = [] ∨ M ∈ xs) := by
  cases xs with
  | nil => exact ⟨0, rfl, fun _ h => (nomatch h), .inl rfl⟩
  | cons x l =>
    obtain ⟨h1, h2, h3⟩ := maxI_spec l x
    refine ⟨maxI l x, ?_, fun y hy => ?_, .inr ?_⟩
    · have hi : intsD ((x :: l).map .int) = .ok (x :: l) := intsD_ks (x :: l)
      show (intsD ((x :: l).map .int) >>= fun r => match r with
        | [] => R.ok (PyData.int 0)
        | x :: r => .ok (.int (maxI r x))) = _
      rw [hi]
      rfl
    · rcases List.mem_cons.mp hy with rfl | hy
      · exact h1
      · exact h2 y hy
    · rcases h3 with h | h
      · rw [h]; exact List.mem_cons_self
      · exact List.mem_cons_of_mem _ h
theorem f__law_levelled {xs cs : List Int} (hl : xs.length = cs.length) (l8 : cs.length ≤ 1000) (h : ∀ k (h1 : k < xs.length) (h2 : k < cs.length), xs[k] ≤ cs[k] ∧ (xs[k] < cs[k] → ∀ x ∈ xs, x ≤ xs[k])) :
    F__law_levelled [.list (xs.map .int), .list (cs.map .int)] = .ok (.bool true) := by
  obtain ⟨M, hM, ub, mem⟩ := maxD_of xs
  have lp := for_same (fg := [3]) (tg := [3]) (tup := false) (body := denS B1__law_levelled) [some (.list (xs.map .int)), some (.list (cs.map .int)), some (.int M), none] ((List.range cs.length).map fun (i : Nat) => .int (0 + (i : Int))) (fun d hd => by
    obtain ⟨k, hk, rfl⟩ := List.mem_map.mp hd
    have hk := List.mem_range.mp hk
    have hkx : k < xs.length := by omega
    obtain ⟨h1, h2⟩ := h k hkx hk
    have ix : ixD (.list (xs.map .int)) (.int (0 + (k : Int))) = .ok (.int xs[k]) := by rw [Int.zero_add]; exact ix_nat (by simp [hkx])
    have ic : ixD (.list (cs.map .int)) (.int (0 + (k : Int))) = .ok (.int cs[k]) := by rw [Int.zero_add]; exact ix_nat (by simp [hk])
    have hmin : biD2 .min2 (.int cs[k]) (.int M) = .ok (.int xs[k]) := by
      rw [ev_min2]
      have hub := ub xs[k] (List.getElem_mem hkx)
      congr 2
      by_cases hlt : M < cs[k]
      · rw [if_pos hlt]
        have h3 := h2 (by omega)
        rcases mem with he | hm
        · rw [he] at hkx; simp at hkx
        · have := h3 M hm
          omega
      · rw [if_neg hlt]
        by_cases hx : xs[k] < cs[k]
        · have h3 := h2 hx
          rcases mem with he | hm
          · rw [he] at hkx; simp at hkx
          · have := h3 M hm
            omega
        · omega
    have ce : ceq (.int xs[k]) (.int xs[k]) = .ok true := by rw [ceq_ii]; simp
    clear h h1 h2 ub mem hM
    generalize xs[k] = x at *
    generalize cs[k] = c at *
    generalize (0 + (k : Int)) = i at *
    generalize xs.map PyData.int = X at *
    generalize cs.map PyData.int = C at *
    simp [-ev_ix_l, -ev_min2, -ceq_ii, B1__law_levelled, ix, ic, hmin, ce]) rfl [some (.list (xs.map .int)), some (.list (cs.map .int)), some (.int M), none] rfl
  have hlen : biD .len (.list (cs.map .int)) = .ok (.int (cs.length : Int)) := by rw [ev_len_l, List.length_map]
  have hsm : small62 (cs.length : Int) = true := sm62_nat (by omega)
  have hrg : rgL 0 (cs.length : Int).toNat = (List.range cs.length).map fun (i : Nat) => PyData.int (0 + (i : Int)) := by rw [Int.toNat_natCast]; rfl
  have hI : denI I1__law_levelled [some (.list (xs.map .int)), some (.list (cs.map .int)), some (.int M), none] = .ok ((List.range cs.length).map fun (i : Nat) => PyData.int (0 + (i : Int))) := by
    have h0 : denI I1__law_levelled [some (.list (xs.map .int)), some (.list (cs.map .int)), some (.int M), none] = .ok (rgL 0 (cs.length : Int).toNat) := by
      clear lp hrg ub mem h
      generalize cs.map PyData.int = CC at *
      generalize (cs.length : Int) = N at *
      simp [-ev_len_l, I1__law_levelled, hlen, hsm]
    rw [h0, hrg]
  clear h ub mem hrg hsm hlen
  generalize ((List.range cs.length).map fun (i : Nat) => PyData.int (0 + (i : Int))) = RL at *
  generalize xs.map PyData.int = X at *
  generalize cs.map PyData.int = C at *
  simp [F__law_levelled, Mn.run, d__law_levelled, env0, hM, hI, lp]
/-! ### by the rule -/
theorem divInt_mul2 {G : Nat} (g : 0 < G) {a b c d : Int} (h : Rat.divInt a G * Rat.divInt b G = Rat.divInt c G * Rat.divInt d G) : a * b = c * d := by
  rw [Rat.divInt_mul_divInt, Rat.divInt_mul_divInt] at h
  rw [show (G : Int) * (G : Int) = ((G * G : Nat) : Int) by rw [Int.natCast_mul]] at h
  exact divInt_inj (Nat.mul_pos g g) h
section
variable {G : Nat} {cs xs : List Int} {e : Rat}
theorem parts_at {r : Ru} (hl : xs.length = cs.length) (hx : xs.map (fun x => Rat.divInt x G) = (cs.map fun c => Rat.divInt c G).map (r.f (cs.map fun c => Rat.divInt c G) e)) {k : Nat} (h1 : k < xs.length) (h2 : k < cs.length) : Rat.divInt xs[k] G = r.f (cs.map fun c => Rat.divInt c G) e (Rat.divInt cs[k] G) := by
  have := congrArg (fun l => l[k]?) hx
  simp [h1, h2] at this
  exact this
theorem lost_at (hl : xs.length = cs.length) : (List.range cs.length).map (fun k => cs.getD k 0 - xs.getD k 0) = List.zipWith (fun c x => c - x) cs xs := by
  refine List.ext_getElem (by simp [hl]) fun k h1 h2 => ?_
  have k1 : k < cs.length := by simpa using h1
  have k2 : k < xs.length := by omega
  simp [k1, k2]
theorem K_lost (hl : xs.length = cs.length) (l8 : cs.length ≤ 1000) : ∀ a0 a3 a4 a6 a8, denE K1__law_by_rule [a0, some (.list (xs.map .int)), some (.list (cs.map .int)), a3, a4, none, a6, none, a8] = .ok (.list (((List.range cs.length).map fun k => cs.getD k 0 - xs.getD k 0).map .int)) := fun a0 a3 a4 a6 a8 => by
  have hlen : biD .len (.list (cs.map .int)) = .ok (.int (cs.length : Int)) := by rw [ev_len_l, List.length_map]
  have hsm : small62 (cs.length : Int) = true := sm62_nat (by omega)
  rw [List.map_map]
  refine comp_of (as := List.range cs.length) (w := fun (i : Nat) => PyData.int (0 + (i : Int))) (fun k => PyData.int (cs.getD k 0 - xs.getD k 0)) ?_ (Nat.le_trans (by rw [List.length_range]; exact l8) (by decide)) fun k hk => ?_
  · have hx : R.ok (rgL 0 cs.length) = R.ok ((List.range cs.length).map fun (i : Nat) => PyData.int (0 + (i : Int))) := rfl
    rw [← hx, ← Int.toNat_natCast cs.length]
    generalize cs.map PyData.int = C at *
    simp [-ev_len_l, hlen, hsm]
  · have hk := List.mem_range.mp hk
    rw [Int.zero_add]
    have ix : ixD (.list (xs.map .int)) (.int (k : Int)) = .ok (.int (xs.getD k 0)) := ix_nat (by simp [show k < xs.length by omega])
    have ic : ixD (.list (cs.map .int)) (.int (k : Int)) = .ok (.int (cs.getD k 0)) := ix_nat (by simp [hk])
    generalize xs.getD k 0 = x at *
    generalize cs.getD k 0 = c at *
    generalize xs.map PyData.int = X at *
    generalize cs.map PyData.int = C at *
    simp [-ev_ix_l, ix, ic]
theorem K_half (l8 : cs.length ≤ 1000) : ∀ a0 a1 a3 a4 a5 a7, denE K2__law_by_rule [a0, a1, some (.list (cs.map .int)), a3, a4, a5, none, a7, none] = .ok (.list ((cs.map fun c => c / 2).map .int)) := fun a0 a1 a3 a4 a5 a7 => by
  rw [List.map_map]
  refine comp_of (w := PyData.int) (fun c => PyData.int (c / 2)) (by simp) (Nat.le_trans l8 (by decide)) fun c _ => ?_
  have d2 : bop .fdiv (.int c) (.int 2) = .ok (.int (c / 2)) := ev_fdivp (by decide) (by decide)
  generalize c / 2 = h at *
  simp [-ev_fdiv, -ev_fdivp, d2]
theorem f__law_by_rule (r : Ru) (hr : r ≠ .tu) (g : 0 < G) (hl : xs.length = cs.length) (l8 : cs.length ≤ 8) (bc : ∀ c ∈ cs, 0 ≤ c ∧ c < 10 ^ 50) (ev : ∀ c ∈ cs, c % 2 = 0)
    (hx : xs.map (fun x => Rat.divInt x G) = (cs.map fun c => Rat.divInt c G).map (r.f (cs.map fun c => Rat.divInt c G) e)) (e0 : 0 ≤ e) (es : e ≤ sumQ (cs.map fun c => Rat.divInt c G)) :
    F__law_by_rule [.str r.w, .list (xs.map .int), .list (cs.map .int)] = .ok (.bool true) := by
  have nn : ∀ q ∈ cs.map (fun c => Rat.divInt c G), 0 ≤ q := fun q hq => by
    obtain ⟨c, hc, rfl⟩ := List.mem_map.mp hq
    exact divInt_nn (bc c hc).1
  have at' := fun k h1 h2 => parts_at (r := r) hl hx (k := k) h1 h2
  have bd := r.bounds nn e0 es
  have hsum := r.sum nn e0 es
  rw [r.q_map, ← hx, sumQ_div G g] at hsum
  have hcs := sumQ_div G g cs
  have mem : ∀ k (h2 : k < cs.length), Rat.divInt cs[k] G ∈ cs.map fun c => Rat.divInt c G := fun k h2 => List.mem_map.mpr ⟨_, List.getElem_mem h2, rfl⟩
  have le_of : ∀ {a b : Int}, Rat.divInt a G ≤ Rat.divInt b G → a ≤ b := fun {a b} h => by
    rcases Int.lt_or_le b a with z | z
    · have := (divInt_lt g).mpr z
      grind
    · exact z
  have xc : ∀ k (h1 : k < xs.length) (h2 : k < cs.length), 0 ≤ xs[k] ∧ xs[k] ≤ cs[k] := fun k h1 h2 => by
    have b := bd _ (mem k h2)
    rw [← at' k h1 h2] at b
    refine ⟨le_of ?_, le_of b.2⟩
    rw [show Rat.divInt 0 (G : Int) = 0 from Rat.zero_divInt _]
    exact b.1
  have sx : biD .sum (.list (xs.map .int)) = .ok (.int xs.sum) := by rw [ev_sum, intsD_ks]; rfl
  have sc : biD .sum (.list (cs.map .int)) = .ok (.int cs.sum) := by rw [ev_sum, intsD_ks]; rfl
  have hK1 := K_lost hl (show cs.length ≤ 1000 by omega)
  rw [lost_at hl] at hK1
  have hK2 := K_half (cs := cs) (show cs.length ≤ 1000 by omega)
  have szb : ∀ l : List Int, (∀ c ∈ l, 0 ≤ c ∧ c < 10 ^ 50) → 0 ≤ l.sum ∧ l.sum ≤ l.length * 10 ^ 50 := fun l => by
    induction l with
    | nil => intro _; simp
    | cons c l ih =>
      intro h
      have h1 := h c List.mem_cons_self
      have h2 := ih fun z hz => h z (List.mem_cons_of_mem _ hz)
      rw [List.sum_cons, List.length_cons]
      omega
  have bx : ∀ x ∈ xs, 0 ≤ x ∧ x < 10 ^ 50 := fun x hx => by
    obtain ⟨k, hk, rfl⟩ := List.mem_iff_getElem.mp hx
    have h1 := xc k hk (by omega)
    have h2 := bc _ (List.getElem_mem (show k < cs.length by omega))
    omega
  have s1 := szb xs bx
  have s2 := szb cs bc
  -- levels
  have lv : ∀ (ys ds : List Int) (f h : Rat → Rat) (L : Rat), ys.length = cs.length → ds.length = cs.length → (∀ k (h1 : k < ys.length) (h2 : k < cs.length) (h3 : k < ds.length), Rat.divInt ys[k] G = minQ (Rat.divInt ds[k] G) L) → F__law_levelled [.list (ys.map .int), .list (ds.map .int)] = .ok (.bool true) := fun ys ds f h L yl dl hy => by
    refine f__law_levelled (by omega) (by omega) fun k h1 h2 => ?_
    have e1 := hy k h1 (by omega) h2
    refine ⟨le_of ?_, fun hlt x hx => ?_⟩
    · rw [e1]
      unfold minQ
      grind
    · obtain ⟨j, hj, rfl⟩ := List.mem_iff_getElem.mp hx
      have e2 := hy j hj (by omega) (by omega)
      refine le_of ?_
      have := (divInt_lt g).mpr hlt
      rw [e1] at this ⊢
      rw [e2]
      unfold minQ at *
      grind
  have zl : (List.zipWith (fun c x => c - x) cs xs).length = cs.length := by simp [hl]
  have zat : ∀ k (h1 : k < (List.zipWith (fun c x => c - x) cs xs).length) (h2 : k < cs.length) (h3 : k < xs.length), Rat.divInt (List.zipWith (fun c x => c - x) cs xs)[k] G = Rat.divInt cs[k] G - Rat.divInt xs[k] G := fun k h1 h2 h3 => by
    rw [divInt_sub1 g, List.getElem_zipWith]
  have hhalf : ∀ k (h2 : k < cs.length) (h3 : k < (cs.map fun c => c / 2).length), Rat.divInt (cs.map fun c => c / 2)[k] G = Rat.divInt cs[k] G * halfR := fun k h2 h3 => by
    rw [List.getElem_map]
    have he := ev _ (List.getElem_mem h2)
    have h1 : cs[k] / 2 + cs[k] / 2 = cs[k] := by omega
    have h4 : Rat.divInt (cs[k] / 2) G + Rat.divInt (cs[k] / 2) G = Rat.divInt cs[k] G := by
      have gz : (G : Int) ≠ 0 := by omega
      rw [Rat.divInt_add_divInt _ _ gz gz, ← Int.add_mul, Rat.divInt_mul_right gz, h1]
    have := half_eq (Rat.divInt cs[k] G)
    grind
  have rgI : rgL 0 (cs.length : Int).toNat = (List.range cs.length).map fun (i : Nat) => PyData.int (0 + (i : Int)) := by rw [Int.toNat_natCast]; rfl
  have hlen : biD .len (.list (cs.map .int)) = .ok (.int (cs.length : Int)) := by rw [ev_len_l, List.length_map]
  have hsm : small62 (cs.length : Int) = true := sm62_nat (by omega)
  cases r with
  | tu => exact absurd rfl hr
  | sh =>
    obtain ⟨v, lp⟩ := for_var (α := Option D) (fg := []) (tg := [7]) (tup := false) (body := denS B1__law_by_rule) (fun v => [some (.str "shares"), some (.list (xs.map .int)), some (.list (cs.map .int)), some (.int xs.sum), some (.int cs.sum), none, none, v, none]) (fun _ => rfl) ((List.range cs.length).map fun (i : Nat) => .int (0 + (i : Int))) (fun d hd v => by
      obtain ⟨k, hk, rfl⟩ := List.mem_map.mp hd
      have hk := List.mem_range.mp hk
      have hkx : k < xs.length := by omega
      obtain ⟨h1, h2⟩ := xc k hkx hk
      have ix : ixD (.list (xs.map .int)) (.int (0 + (k : Int))) = .ok (.int xs[k]) := by rw [Int.zero_add]; exact ix_nat (by simp [hkx])
      have ic : ixD (.list (cs.map .int)) (.int (0 + (k : Int))) = .ok (.int cs[k]) := by rw [Int.zero_add]; exact ix_nat (by simp [hk])
      have hmul : xs[k] * cs.sum = cs[k] * xs.sum := by
        refine divInt_mul2 g ?_
        rw [at' k hkx hk, ← hcs, hsum]
        show (if sumQ (cs.map fun c => Rat.divInt c G) = 0 then 0 else Rat.divInt cs[k] G * (e / sumQ (cs.map fun c => Rat.divInt c G))) * sumQ (cs.map fun c => Rat.divInt c G) = _
        by_cases hs : sumQ (cs.map fun c => Rat.divInt c G) = 0
        · rw [if_pos hs]
          have : e = 0 := by grind
          rw [this]
          grind
        · rw [if_neg hs, Rat.div_def]
          grind
      have b1 := bx _ (List.getElem_mem hkx)
      have b2 := bc _ (List.getElem_mem hk)
      have c8 : (cs.length : Int) * 10 ^ 50 ≤ 8 * 10 ^ 50 := Int.mul_le_mul_of_nonneg_right (by omega) (by decide)
      have x8 : (xs.length : Int) * 10 ^ 50 ≤ 8 * 10 ^ 50 := Int.mul_le_mul_of_nonneg_right (by omega) (by decide)
      have m1 : mulOk xs[k] cs.sum = true := mulOk_by (m := 200) (n := 200) (Nat.lt_of_lt_of_le (show xs[k].natAbs < 10 ^ 50 by omega) (by decide)) (Nat.lt_of_lt_of_le (show cs.sum.natAbs < 10 ^ 52 by omega) (by decide)) (by decide)
      have m2 : mulOk cs[k] xs.sum = true := mulOk_by (m := 200) (n := 200) (Nat.lt_of_lt_of_le (show cs[k].natAbs < 10 ^ 50 by omega) (by decide)) (Nat.lt_of_lt_of_le (show xs.sum.natAbs < 10 ^ 52 by omega) (by decide)) (by decide)
      have ce : ceq (.int (xs[k] * cs.sum)) (.int (cs[k] * xs.sum)) = .ok true := by rw [ceq_ii, hmul]; simp
      have ngt : ¬ cs[k] < xs[k] := by omega
      refine ⟨some (.int (0 + (k : Int))), ?_⟩
      clear hmul h1 h2 at' hK1 hK2 hx bd hsum hcs mem xc sx sc szb bx s1 s2 lv zl zat hhalf b1 b2 bc ev nn es e0 rgI hlen hsm c8 x8
      generalize xs[k] = x at *
      generalize cs[k] = c at *
      generalize (0 + (k : Int)) = i at *
      generalize xs.sum = xS at *
      generalize cs.sum = cS at *
      generalize xs.map PyData.int = X at *
      generalize cs.map PyData.int = C at *
      simp [-ev_ix_l, -ceq_ii, B1__law_by_rule, ix, ic, m1, m2, ce, ngt]) none
    have hI : denI I1__law_by_rule [some (.str "shares"), some (.list (xs.map .int)), some (.list (cs.map .int)), some (.int xs.sum), some (.int cs.sum), none, none, none, none] = .ok ((List.range cs.length).map fun (i : Nat) => .int (0 + (i : Int))) := by
      rw [← rgI]
      clear lp at' hK1 hK2 hx bd hsum hcs mem xc sx sc szb bx s1 s2 lv zl zat hhalf bc ev nn es e0 rgI
      generalize cs.map PyData.int = CC at *
      generalize (cs.length : Int) = N at *
      simp [-ev_len_l, I1__law_by_rule, hlen, hsm]
    have hw : Ru.sh.w = "shares" := rfl
    rw [hw]
    clear at' hK1 hK2 hx bd hsum hcs mem xc szb bx s1 s2 lv zl zat hhalf bc ev nn es e0 rgI hlen hsm
    generalize ((List.range cs.length).map fun (i : Nat) => PyData.int (0 + (i : Int))) = RL at *
    generalize xs.sum = xS at *
    generalize cs.sum = cS at *
    generalize PyData.list (xs.map PyData.int) = X at *
    generalize PyData.list (cs.map PyData.int) = C at *
    simp [-ev_sum, F__law_by_rule, Mn.run, d__law_by_rule, env0, sx, sc, hI, lp]
  | ga =>
    have hv := lv xs cs (fun q => q) (fun q => q) (gainQ (cs.map fun c => Rat.divInt c G) e) hl rfl fun k h1 h2 h3 => at' k h1 h2
    have hw : Ru.ga.w = "gains" := rfl
    rw [hw]
    clear at' hK2 hx bd hsum hcs mem xc szb bx s1 s2 lv zl zat hhalf bc ev nn es e0 rgI hlen hsm
    generalize List.map PyData.int (List.zipWith (fun c x => c - x) cs xs) = ZL at *
    generalize xs.sum = xS at *
    generalize cs.sum = cS at *
    generalize PyData.list (xs.map PyData.int) = X at *
    generalize PyData.list (cs.map PyData.int) = C at *
    simp [-ev_sum, F__law_by_rule, Mn.run, d__law_by_rule, env0, sx, sc, hK1, hv]
  | lo =>
    have hv := lv (List.zipWith (fun c x => c - x) cs xs) cs (fun q => q) (fun q => q) (lossQ (cs.map fun c => Rat.divInt c G) e) zl rfl fun k h1 h2 h3 => by
      have hkx : k < xs.length := by omega
      rw [zat k h1 h2 hkx, at' k hkx h2]
      show _ - aboveQ _ _ = _
      unfold aboveQ minQ
      split <;> split <;> grind
    have hw : Ru.lo.w = "losses" := rfl
    rw [hw]
    clear at' hK2 hx bd hsum hcs mem xc szb bx s1 s2 lv zl zat hhalf bc ev nn es e0 rgI hlen hsm
    generalize List.map PyData.int (List.zipWith (fun c x => c - x) cs xs) = ZL at *
    generalize xs.sum = xS at *
    generalize cs.sum = cS at *
    generalize PyData.list (xs.map PyData.int) = X at *
    generalize PyData.list (cs.map PyData.int) = C at *
    simp [-ev_sum, F__law_by_rule, Mn.run, d__law_by_rule, env0, sx, sc, hK1, hv]
  | ha =>
    have hw : Ru.ha.w = "halves" := rfl
    have m2 : mulOk 2 xs.sum = true := mulOk_l (by decide)
    have h2e : (2 * xs.sum ≤ cs.sum) ↔ ¬ sumQ (cs.map fun c => Rat.divInt c G) - e < e := by
      have gz : (G : Int) ≠ 0 := by omega
      have h1 : Rat.divInt (xs.sum + xs.sum) G = e + e := by
        rw [← hsum, Rat.divInt_add_divInt _ _ gz gz, ← Int.add_mul, Rat.divInt_mul_right gz]
      have h3 := divInt_lt (a := cs.sum) (c := xs.sum + xs.sum) g
      rw [h1, ← hcs] at h3
      constructor
      · intro h h4
        have := h3.mp (by grind)
        omega
      · intro h
        have : ¬ cs.sum < xs.sum + xs.sum := fun z => h (by have := h3.mpr z; grind)
        omega
    by_cases hlow : sumQ (cs.map fun c => Rat.divInt c G) - e < e
    · have hle : ¬ 2 * xs.sum ≤ cs.sum := fun z => (h2e.mp z) hlow
      have hv := lv (List.zipWith (fun c x => c - x) cs xs) (cs.map fun c => c / 2) (fun q => q) (fun q => q) (gainQ (halvesQ (cs.map fun c => Rat.divInt c G)) (sumQ (cs.map fun c => Rat.divInt c G) - e)) zl (by simp) fun k h1 h2 h3 => by
        have hkx : k < xs.length := by omega
        rw [zat k h1 h2 hkx, at' k hkx h2, hhalf k h2 h3, ha_high hlow]
        grind
      rw [hw]
      clear at' hx bd hsum hcs mem xc szb bx s1 s2 lv zl zat hhalf bc ev nn es e0 rgI hlen hsm h2e hlow
      generalize List.map PyData.int (List.zipWith (fun c x => c - x) cs xs) = ZL at *
      generalize List.map PyData.int (cs.map fun c => c / 2) = HL at *
      generalize xs.sum = xS at *
      generalize cs.sum = cS at *
      generalize PyData.list (xs.map PyData.int) = X at *
      generalize PyData.list (cs.map PyData.int) = C at *
      simp [-ev_sum, F__law_by_rule, Mn.run, d__law_by_rule, env0, sx, sc, hK1, hK2, m2, hle, hv]
    · have hle : 2 * xs.sum ≤ cs.sum := h2e.mpr hlow
      have hv := lv xs (cs.map fun c => c / 2) (fun q => q) (fun q => q) (gainQ (halvesQ (cs.map fun c => Rat.divInt c G)) e) hl (by simp) fun k h1 h2 h3 => by
        rw [at' k h1 h2, hhalf k h2 h3, ha_low hlow]
      rw [hw]
      clear at' hx bd hsum hcs mem xc szb bx s1 s2 lv zl zat hhalf bc ev nn es e0 rgI hlen hsm h2e hlow
      generalize List.map PyData.int (List.zipWith (fun c x => c - x) cs xs) = ZL at *
      generalize List.map PyData.int (cs.map fun c => c / 2) = HL at *
      generalize xs.sum = xS at *
      generalize cs.sum = cS at *
      generalize PyData.list (xs.map PyData.int) = X at *
      generalize PyData.list (cs.map PyData.int) = C at *
      simp [-ev_sum, F__law_by_rule, Mn.run, d__law_by_rule, env0, sx, sc, hK1, hK2, m2, hle, hv]
end
theorem none_in (l : List Int) : cmem .none (.list (l.map .int)) = .ok false := by
  have h1 : (l.map PyData.int).all flatD = true := by
    rw [List.all_eq_true]
    intro d hd
    obtain ⟨x, _, rfl⟩ := List.mem_map.mp hd
    rfl
  have h2 : inList .none (l.map PyData.int) = false := by
    unfold inList
    rw [List.any_eq_false]
    intro d hd
    obtain ⟨x, _, rfl⟩ := List.mem_map.mp hd
    simp [PyData.eqv]
  show (if flatD PyData.none && (l.map PyData.int).all flatD then R.ok (inList .none (l.map PyData.int)) else .bad) = _
  rw [h1, h2]
  rfl
def knotD (e : Rat) (ps : List Rat) : D := .tuple [rt e, .list (ps.map rt)]
def knotI (G : Nat) (e : Rat) (ps : List Rat) : D := .tuple [.int (uI G e), .list ((ps.map (uI G)).map .int)]
theorem lineN' {n : Nat} (h : n ≤ 1000) : n ≤ sizeLine := Nat.le_trans h (by decide)
theorem uI_list {G C : Nat} (g : 0 < G) {l : List Rat} (h : ∀ q ∈ l, On G C q) : (l.map (uI G)).map (fun x => Rat.divInt x G) = l := by
  rw [List.map_map]
  conv => rhs; rw [← List.map_id' l]
  exact List.map_congr_left fun q hq => (uI_mul (h q hq)).2.1.symm
theorem knots_on {r : Ru} (hr : r ≠ .tu) {G C : Nat} {qs : List Rat} (g : 0 < G) (on : ∀ q ∈ qs, On G C q) (onh : ∀ q ∈ qs, On G C (q * halfR)) (nn : ∀ q ∈ qs, 0 ≤ q) (l8 : qs.length ≤ 8) : ∀ e ∈ knotsQ r qs, On G (8 * C) e ∧ (0 ≤ e ∧ e ≤ sumQ qs) ∧ ∀ q ∈ qs, On G C (r.f qs e q) := fun e he => by
  have key : (0 ≤ e ∧ e ≤ sumQ qs) ∧ ∀ q ∈ qs, ∃ D, On G D (r.f qs e q) := by
    have s0 : 0 ≤ sumQ qs := by
      have := (sum_btw (f := fun q => q) (qs := qs) fun q hq => ⟨nn q hq, Rat.le_refl⟩).1
      rwa [List.map_id'] at this
    have bt : 0 ≤ e ∧ e ≤ sumQ qs := by
      unfold knotsQ at he
      split at he
      · rcases List.mem_singleton.mp he with rfl
        exact ⟨Rat.le_refl, s0⟩
      · rcases List.mem_append.mp he with he | he
        · rcases List.mem_cons.mp he with rfl | he
          · exact ⟨Rat.le_refl, s0⟩
          · exact (bends_on r hr g on nn e he).2
        · rcases List.mem_singleton.mp he with rfl
          exact ⟨s0, Rat.le_refl⟩
    refine ⟨bt, fun q hq => ?_⟩
    by_cases s : sumQ qs = 0
    · have e0 : e = 0 := by grind
      have b := r.bounds nn bt.1 bt.2 q hq
      have q0 : q = 0 := by
        have := le_sum nn q hq
        have := nn q hq
        grind
      rw [show r.f qs e q = 0 by grind]
      exact ⟨_, On.zero g⟩
    · cases r with
      | tu => exact absurd rfl hr
      | sh =>
        unfold knotsQ at he
        rw [if_neg s] at he
        have he : e = 0 ∨ e = sumQ qs := by simpa [bendsQ] using he
        show ∃ D, On G D (if sumQ qs = 0 then 0 else q * (e / sumQ qs))
        rw [if_neg s]
        rcases he with rfl | rfl
        · rw [Rat.div_def, Rat.zero_mul, Rat.mul_zero]
          exact ⟨_, On.zero g⟩
        · rw [Rat.div_def, Rat.mul_inv_cancel _ s, Rat.mul_one]
          exact ⟨_, on q hq⟩
      | ga =>
        rw [knots_ga nn s] at he
        obtain ⟨l, hl, rfl⟩ := List.mem_map.mp he
        have ol : ∃ D, On G D l := by
          rcases List.mem_cons.mp hl with h | h
          · rw [h]; exact ⟨_, On.zero g⟩
          · exact ⟨_, on l (unlike_mem l h)⟩
        obtain ⟨D, ol⟩ := ol
        rw [ga_level nn (lv_nn nn l hl) q hq]
        exact on_mins (on q hq) ol
      | lo =>
        rw [knots_lo nn s] at he
        obtain ⟨l, hl, rfl⟩ := List.mem_map.mp he
        have hl := List.mem_reverse.mp hl
        have ol : ∃ D, On G D l := by
          rcases List.mem_cons.mp hl with h | h
          · rw [h]; exact ⟨_, On.zero g⟩
          · exact ⟨_, on l (unlike_mem l h)⟩
        obtain ⟨D, ol⟩ := ol
        rw [lo_level nn (lv_nn nn l hl) q hq]
        unfold aboveQ
        split
        · exact ⟨_, On.zero g⟩
        · exact ⟨_, (on q hq).sub ol⟩
      | ha =>
        have nh := halves_nn nn
        have lev : ∀ l ∈ (lvQ (halvesQ qs)).dropLast, 0 ≤ l ∧ ∃ D, On G D (minQ (q * halfR) l) := fun l hl => by
          have hl := List.dropLast_subset _ hl
          refine ⟨lv_nn nh l hl, ?_⟩
          have ol : ∃ D, On G D l := by
            rcases List.mem_cons.mp hl with h | h
            · rw [h]; exact ⟨_, On.zero g⟩
            · obtain ⟨p, hp, rfl⟩ := List.mem_map.mp (unlike_mem l h)
              exact ⟨_, onh p hp⟩
          obtain ⟨D, ol⟩ := ol
          exact on_mins (onh q hq) ol
        rw [knots_ha nn s] at he
        rcases List.mem_append.mp he with he | he
        · obtain ⟨l, hl, rfl⟩ := List.mem_map.mp he
          rw [ha_lowL nn (lev l hl).1 q hq]
          exact (lev l hl).2
        · obtain ⟨d, hd, rfl⟩ := List.mem_map.mp he
          obtain ⟨l, hl, rfl⟩ := List.mem_map.mp (List.mem_reverse.mp hd)
          rw [ha_highL nn (lev l hl).1 q hq]
          obtain ⟨D, o⟩ := (lev l hl).2
          exact ⟨_, (on q hq).sub o⟩
  obtain ⟨bt, h2⟩ := key
  have os := (On.sum g on).mono (show qs.length * C ≤ 8 * C from Nat.mul_le_mul_right _ l8)
  have oe : ∃ D, On G D e := by
    have hs := r.sum nn bt.1 bt.2
    rw [← hs, r.q_map]
    exact on_sumf g h2
  obtain ⟨D, oe⟩ := oe
  refine ⟨on_between oe os bt.1 bt.2, bt, fun q hq => ?_⟩
  obtain ⟨D, h⟩ := h2 q hq
  have b := r.bounds nn bt.1 bt.2 q hq
  exact on_between h (on q hq) b.1 b.2
theorem knots_end (r : Ru) (qs : List Rat) : ∃ l, knotsQ r qs = l ++ [sumQ qs] := by
  unfold knotsQ
  by_cases s : sumQ qs = 0
  · rw [if_pos s, s]
    exact ⟨[], rfl⟩
  · rw [if_neg s]
    exact ⟨_, rfl⟩
theorem ratio1 (z : Int) : F__law_ratio [.int z, .int 55440] = .ok (rt (Rat.divInt z ((55440 : Nat) : Int))) := by
  have h := f__law_ratio z 55440 (by omega) (log_by (n := 64) (by decide) (by decide))
  rw [show ((55440 : Nat) : Int) = 55440 by omega]
  exact h
theorem half_of {t : Int} (h2 : t % 2 = 0) : Rat.divInt t ((55440 : Nat) : Int) * halfR = Rat.divInt (t / 2) ((55440 : Nat) : Int) := by
  have h3 : t / 2 + t / 2 = t := by omega
  have h4 : Rat.divInt (t / 2) ((55440 : Nat) : Int) + Rat.divInt (t / 2) ((55440 : Nat) : Int) = Rat.divInt t ((55440 : Nat) : Int) := by
    rw [Rat.divInt_add_divInt _ _ (by omega) (by omega), ← Int.add_mul, Rat.divInt_mul_right (by omega), h3]
  have := half_eq (Rat.divInt t ((55440 : Nat) : Int))
  grind
theorem qs_ok {ts : List Int} {qs : List Rat} (ok : ∀ t ∈ ts, (0 ≤ t ∧ t < 10 ^ 36) ∧ t % 2 = 0) (eq : qs = ts.map fun t => Rat.divInt t ((55440 : Nat) : Int)) : (∀ q ∈ qs, 0 ≤ q) ∧ (∀ q ∈ qs, On 55440 (10 ^ 36) q) ∧ ∀ q ∈ qs, On 55440 (10 ^ 36) (q * halfR) := by
  subst eq
  refine ⟨fun q hq => ?_, fun q hq => ?_, fun q hq => ?_⟩
  · obtain ⟨t, ht, rfl⟩ := List.mem_map.mp hq
    exact divInt_nn (ok t ht).1.1
  · obtain ⟨t, ht, rfl⟩ := List.mem_map.mp hq
    have := (ok t ht).1
    exact (on_div t 55440 (by decide)).mono (by omega)
  · obtain ⟨t, ht, rfl⟩ := List.mem_map.mp hq
    obtain ⟨h1, h2⟩ := ok t ht
    rw [half_of h2]
    exact (on_div (t / 2) 55440 (by decide)).mono (by omega)
/-! ### at each knot between some part grows otherwise -/
def ChT {α : Type} (R : α → α → Prop) : List α → Prop
  | a :: b :: l => R a b ∧ ChT R (b :: l)
  | _ => True
theorem ChT.get {α : Type} {R : α → α → Prop} : ∀ {l : List α} {k : Nat} {a b : α}, ChT R l → l[k]? = some a → l[k + 1]? = some b → R a b
  | [], k, a, b, _, h, _ => by simp at h
  | [x], k, a, b, _, _, h => by simp at h
  | x :: y :: l, 0, a, b, h, h1, h2 => by
    have h1 : x = a := by simpa using h1
    have h2 : y = b := by simpa using h2
    rw [← h1, ← h2]
    exact h.1
  | x :: y :: l, k + 1, a, b, h, h1, h2 => ChT.get (l := y :: l) (k := k) h.2 (by simpa using h1) (by simpa using h2)
theorem ChT.of {α : Type} {R : α → α → Prop} {S : Rat → Rat → Prop} {f : Rat → α} : ∀ {l : List Rat}, (∀ a ∈ l, ∀ b ∈ l, S a b → R (f a) (f b)) → Ch S l → ChT R (l.map f)
  | [], _, _ => trivial
  | [_], _, _ => trivial
  | x :: y :: l, h, c => ⟨h x List.mem_cons_self y (List.mem_cons_of_mem _ List.mem_cons_self) c.1, ChT.of (l := y :: l) (fun a ha b hb => h a (List.mem_cons_of_mem _ ha) b (List.mem_cons_of_mem _ hb)) c.2⟩
theorem ChT.join {α : Type} {R : α → α → Prop} : ∀ {l m : List α}, ChT R l → ChT R m → (∀ a b, l.getLast? = some a → m.head? = some b → R a b) → ChT R (l ++ m)
  | [], _, _, h, _ => h
  | [x], m, _, h, j => by
    cases m with
    | nil => trivial
    | cons y m => exact ⟨j x y rfl rfl, h⟩
  | x :: y :: l, m, c, h, j => ⟨c.1, ChT.join (l := y :: l) c.2 h fun a b h1 h2 => j a b (by rw [List.getLast?_cons_cons]; exact h1) h2⟩
section
variable {qs : List Rat} {u : Rat → Rat}
def levS (qs : List Rat) (u : Rat → Rat) (l : Rat) : Rat := sumQ (qs.map fun q => minQ (u q) l)
def knotT (qs : List Rat) (u : Rat → Rat) (x : Bool × Rat) : Rat := if x.1 = true then sumQ qs - levS qs u x.2 else levS qs u x.2
def partT (u : Rat → Rat) (x : Bool × Rat) (q : Rat) : Rat := if x.1 = true then q - minQ (u q) x.2 else minQ (u q) x.2
def RT (qs : List Rat) (u : Rat → Rat) : Bool × Rat → Bool × Rat → Prop
  | (false, a), (false, b) => a < b
  | (true, a), (true, b) => b < a
  | (false, a), (true, b) => a = b ∧ (∃ q ∈ qs, a < u q) ∧ ∀ q ∈ qs, u q + u q = q
  | (true, _), (false, _) => False
/-- levels from 0 on, each one above 0 somebody's -/
def LvT (qs : List Rat) (u : Rat → Rat) (x : Bool × Rat) : Prop := 0 ≤ x.2 ∧ (0 < x.2 → ∃ q ∈ qs, u q = x.2)
theorem sum_lt_of {f g : Rat → Rat} (h : ∀ q ∈ qs, f q ≤ g q) (k : ∃ q ∈ qs, f q < g q) : sumQ (qs.map f) < sumQ (qs.map g) := by
  obtain ⟨q, hq, hlt⟩ := k
  have h1 := sum_le_of h
  by_cases h2 : sumQ (qs.map g) ≤ sumQ (qs.map f)
  · have := sum_eq_of h h2 q hq
    grind
  · grind
theorem levS_lt {a b : Rat} (h : a < b) (k : ∃ q ∈ qs, u q = b) : levS qs u a < levS qs u b := by
  refine sum_lt_of (fun q _ => min_le_min (Rat.le_of_lt h)) ?_
  obtain ⟨q, hq, e⟩ := k
  refine ⟨q, hq, ?_⟩
  rw [e]
  unfold minQ
  grind
theorem dbl_sum {f : Rat → Rat} : ∀ {qs : List Rat}, (∀ q ∈ qs, f q + f q = q) → sumQ (qs.map f) + sumQ (qs.map f) = sumQ qs
  | [], _ => by show (0 : Rat) + 0 = 0; grind
  | q :: qs, h => by
    have h1 := h q List.mem_cons_self
    have h2 := dbl_sum (qs := qs) fun x hx => h x (List.mem_cons_of_mem _ hx)
    show (f q + sumQ (qs.map f)) + (f q + sumQ (qs.map f)) = q + sumQ qs
    grind
theorem RT.rise {x y : Bool × Rat} (h : RT qs u x y) (hx : LvT qs u x) (hy : LvT qs u y) : knotT qs u x < knotT qs u y := by
  obtain ⟨bx, a⟩ := x
  obtain ⟨by', b⟩ := y
  have a0 : 0 ≤ a := hx.1
  have b0 : 0 ≤ b := hy.1
  cases bx with
  | false =>
    cases by' with
    | false =>
      have h : a < b := h
      exact levS_lt h (hy.2 (show 0 < b by grind))
    | true =>
      obtain ⟨e, hu, hd⟩ := (show a = b ∧ (∃ q ∈ qs, a < u q) ∧ ∀ q ∈ qs, u q + u q = q from h)
      subst e
      show levS qs u a < sumQ qs - levS qs u a
      have h1 : levS qs u a < sumQ (qs.map u) := by
        refine sum_lt_of (fun q _ => by unfold minQ; grind) ?_
        obtain ⟨q, hq, hlt⟩ := hu
        refine ⟨q, hq, ?_⟩
        unfold minQ
        grind
      have h2 := dbl_sum hd
      grind
  | true =>
    cases by' with
    | false => exact h.elim
    | true =>
      have h : b < a := h
      have := levS_lt (u := u) h (hx.2 (show 0 < a by grind))
      show sumQ qs - levS qs u a < sumQ qs - levS qs u b
      grind
theorem min_lv {p l : Rat} (h : l ≤ p) : minQ p l = l := by unfold minQ; grind
theorem min_me {p l : Rat} (h : p ≤ l) : minQ p l = p := by unfold minQ; grind
theorem RT.bend {x y z : Bool × Rat} (h : RT qs u x y) (k : RT qs u y z) (hx : LvT qs u x) (hy : LvT qs u y) (hz : LvT qs u z) :
    ∃ q ∈ qs, (partT u y q - partT u x q) * (knotT qs u z - knotT qs u y) ≠ (partT u z q - partT u y q) * (knotT qs u y - knotT qs u x) := by
  have r1 := h.rise hx hy
  have r2 := k.rise hy hz
  generalize knotT qs u x = d0 at *
  generalize knotT qs u y = d1 at *
  generalize knotT qs u z = d2 at *
  obtain ⟨bx, a⟩ := x
  obtain ⟨by', b⟩ := y
  obtain ⟨bz, c⟩ := z
  have a0 : 0 ≤ a := hx.1
  have c0 : 0 ≤ c := hz.1
  cases by' with
  | false =>
    cases bx with
    | true => exact h.elim
    | false =>
      have h : a < b := h
      obtain ⟨q, hq, e⟩ := hy.2 (show 0 < b by grind)
      have e : u q = b := e
      refine ⟨q, hq, ?_⟩
      have p0 : partT u (false, a) q = a := by show minQ (u q) a = a; rw [e]; exact min_lv (by grind)
      have p1 : partT u (false, b) q = b := by show minQ (u q) b = b; rw [e]; exact min_lv Rat.le_refl
      have p2 : partT u (bz, c) q = b := by
        cases bz with
        | false =>
          have k : b < c := k
          show minQ (u q) c = b
          rw [e]
          exact min_me (by grind)
        | true =>
          obtain ⟨e2, _, hd⟩ := (show b = c ∧ (∃ q ∈ qs, b < u q) ∧ ∀ q ∈ qs, u q + u q = q from k)
          subst e2
          have := hd q hq
          show q - minQ (u q) b = b
          rw [e, min_me Rat.le_refl]
          rw [e] at this
          grind
      rw [p0, p1, p2]
      have hp := Rat.mul_pos (show 0 < b - a by grind) (show 0 < d2 - d1 by grind)
      grind
  | true =>
    cases bz with
    | false => exact k.elim
    | true =>
      have k : c < b := k
      obtain ⟨q, hq, e⟩ := hy.2 (show 0 < b by grind)
      have e : u q = b := e
      refine ⟨q, hq, ?_⟩
      have p2 : partT u (true, c) q = q - c := by show q - minQ (u q) c = q - c; rw [e, min_lv (by grind)]
      have p1 : partT u (true, b) q = q - b := by show q - minQ (u q) b = q - b; rw [e, min_lv Rat.le_refl]
      have p0 : partT u (bx, a) q = q - b := by
        cases bx with
        | true =>
          have h : b < a := h
          show q - minQ (u q) a = q - b
          rw [e, min_me (by grind)]
        | false =>
          obtain ⟨e2, _, hd⟩ := (show a = b ∧ (∃ q ∈ qs, a < u q) ∧ ∀ q ∈ qs, u q + u q = q from h)
          subst e2
          have := hd q hq
          show minQ (u q) a = q - a
          rw [e, min_me Rat.le_refl]
          rw [e] at this
          grind
      rw [p0, p1, p2]
      have hp := Rat.mul_pos (show 0 < b - c by grind) (show 0 < d1 - d0 by grind)
      grind
end
/-- the knots by levels, and the parts there -/
structure ByT (r : Ru) (qs : List Rat) (u : Rat → Rat) (T : List (Bool × Rat)) : Prop where
  kn : knotsQ r qs = T.map (knotT qs u)
  ch : ChT (RT qs u) T
  lv : ∀ x ∈ T, LvT qs u x
  pt : ∀ x ∈ T, ∀ q ∈ qs, r.f qs (knotT qs u x) q = partT u x q
theorem lv_who {qs : List Rat} (nn : ∀ q ∈ qs, 0 ≤ q) : ∀ l ∈ lvQ qs, 0 ≤ l ∧ (0 < l → l ∈ qs) := fun l hl => by
  refine ⟨lv_nn nn l hl, fun h => ?_⟩
  rcases List.mem_cons.mp hl with e | e
  · grind
  · exact unlike_mem l e
theorem by_ga {qs : List Rat} (nn : ∀ q ∈ qs, 0 ≤ q) (s : sumQ qs ≠ 0) : ByT .ga qs (fun q => q) ((lvQ qs).map fun l => (false, l)) := by
  have L := lv_ok nn
  refine ⟨?_, ChT.of (fun a _ b _ g => g.1) L.1, fun x hx => ?_, fun x hx q hq => ?_⟩
  · rw [knots_ga nn s, List.map_map]
    rfl
  · obtain ⟨l, hl, rfl⟩ := List.mem_map.mp hx
    obtain ⟨h0, h1⟩ := lv_who nn l hl
    exact ⟨h0, fun h => ⟨l, h1 h, rfl⟩⟩
  · obtain ⟨l, hl, rfl⟩ := List.mem_map.mp hx
    exact ga_level nn (lv_nn nn l hl) q hq
theorem by_lo {qs : List Rat} (nn : ∀ q ∈ qs, 0 ≤ q) (s : sumQ qs ≠ 0) : ByT .lo qs (fun q => q) ((lvQ qs).reverse.map fun l => (true, l)) := by
  have L := lv_ok nn
  have ab : ∀ q l, aboveQ q l = q - minQ q l := fun q l => by unfold aboveQ minQ; grind
  have ks : ∀ l, sumQ (qs.map fun q => aboveQ q l) = knotT qs (fun q => q) (true, l) := fun l => by
    have h := sumQ_sub (fun q => q) (fun q => minQ q l) qs
    rw [List.map_id'] at h
    show _ = sumQ qs - sumQ (qs.map fun q => minQ q l)
    rw [← h]
    exact sumQ_ext fun q _ => ab q l
  refine ⟨?_, ChT.of (S := fun a b => b < a) (fun a _ b _ g => g) ?_, fun x hx => ?_, fun x hx q hq => ?_⟩
  · rw [knots_lo nn s, List.map_map]
    exact List.map_congr_left fun l _ => ks l
  · have h : Ch (fun a b => a < b ∨ b < a) (lvQ qs).reverse := Ch.rev (fun a b h => h.symm) (Ch.imp (fun a _ b _ g => .inl g.1) L.1)
    -- the reversed chain falls
    have go : ∀ {l : List Rat}, Ch (GapR qs) l → Ch (fun a b => b < a) l.reverse := by
      intro l
      induction l with
      | nil => intro _; trivial
      | cons x l ih =>
        intro c
        rw [List.reverse_cons]
        cases l with
        | nil => trivial
        | cons y l =>
          refine Ch.join (ih c.2) trivial fun a b h1 h2 => ?_
          rw [List.reverse_cons, List.getLast?_append] at h1
          have h1 : y = a := by simpa using h1
          have h2 : x = b := by simpa using h2
          rw [← h1, ← h2]
          exact c.1.1
    exact go L.1
  · obtain ⟨l, hl, rfl⟩ := List.mem_map.mp hx
    obtain ⟨h0, h1⟩ := lv_who nn l (List.mem_reverse.mp hl)
    exact ⟨h0, fun h => ⟨l, h1 h, rfl⟩⟩
  · obtain ⟨l, hl, rfl⟩ := List.mem_map.mp hx
    rw [← ks, lo_level nn (lv_nn nn l (List.mem_reverse.mp hl)) q hq]
    exact ab q l
theorem by_ha {qs : List Rat} (nn : ∀ q ∈ qs, 0 ≤ q) (s : sumQ qs ≠ 0) : ByT .ha qs (fun q => q * halfR) ((lvQ (halvesQ qs)).dropLast.map (fun l => (false, l)) ++ (lvQ (halvesQ qs)).dropLast.reverse.map fun l => (true, l)) := by
  have nh := halves_nn nn
  have L := lv_ok nh
  have una := un_ne nh (halves_ne s)
  have dl : ∀ l ∈ (lvQ (halvesQ qs)).dropLast, 0 ≤ l ∧ (0 < l → ∃ q ∈ qs, q * halfR = l) := fun l hl => by
    obtain ⟨h0, h1⟩ := lv_who nh l (List.dropLast_subset _ hl)
    refine ⟨h0, fun h => ?_⟩
    obtain ⟨q, hq, e⟩ := List.mem_map.mp (h1 h)
    exact ⟨q, hq, e⟩
  have fall : Ch (fun a b => b < a) (lvQ (halvesQ qs)).dropLast.reverse := by
    have go : ∀ {l : List Rat}, Ch (GapR (halvesQ qs)) l → Ch (fun a b => b < a) l.reverse := by
      intro l
      induction l with
      | nil => intro _; trivial
      | cons x l ih =>
        intro c
        rw [List.reverse_cons]
        cases l with
        | nil => trivial
        | cons y l =>
          refine Ch.join (ih c.2) trivial fun a b h1 h2 => ?_
          rw [List.reverse_cons, List.getLast?_append] at h1
          have h1 : y = a := by simpa using h1
          have h2 : x = b := by simpa using h2
          rw [← h1, ← h2]
          exact c.1.1
    exact go L.1.init
  refine ⟨?_, ChT.join (ChT.of (S := GapR (halvesQ qs)) (fun a _ b _ g => g.1) L.1.init) (ChT.of (S := fun a b => b < a) (fun a _ b _ g => g) fall) ?_, fun x hx => ?_, fun x hx q hq => ?_⟩
  · rw [knots_ha nn s, List.map_append, List.map_map, List.map_map, ← List.map_reverse, List.map_map]
    rfl
  · intro x y hx hy
    obtain ⟨z, hz, e⟩ := dl_last una
    have dne : (lvQ (halvesQ qs)).dropLast ≠ [] := by
      unfold lvQ
      cases h : unlikeQ (halvesQ qs) with
      | nil => exact absurd h una
      | cons y l => simp
    obtain ⟨a, ha, e2⟩ := dl_last dne
    have gab : GapR (halvesQ qs) a z := by
      have hl : lvQ (halvesQ qs) = (lvQ (halvesQ qs)).dropLast ++ [z] := by
        obtain ⟨y, hy, e3⟩ := dl_last (l := lvQ (halvesQ qs)) (by simp [lvQ])
        have : y = z := by
          unfold lvQ at hy
          rw [last_cons una, hz] at hy
          exact (Option.some.inj hy).symm
        rw [← this]
        exact e3
      have c := L.1
      rw [hl, e2, List.append_assoc] at c
      refine Ch.get (k := (lvQ (halvesQ qs)).dropLast.dropLast.length) c ?_ ?_
      · rw [List.getElem?_append_right (Nat.le_refl _), Nat.sub_self]
        rfl
      · rw [List.getElem?_append_right (by omega), show (lvQ (halvesQ qs)).dropLast.dropLast.length + 1 - (lvQ (halvesQ qs)).dropLast.dropLast.length = 1 by omega]
        rfl
    have ex : x = (false, a) := by
      rw [List.getLast?_map, ha] at hx
      exact (Option.some.inj hx).symm
    have ey : y = (true, a) := by
      rw [List.head?_map, List.head?_reverse, ha] at hy
      exact (Option.some.inj hy).symm
    rw [ex, ey]
    refine ⟨rfl, ?_, fun q _ => half_eq q⟩
    obtain ⟨q, hq, e4⟩ := List.mem_map.mp (unlike_mem z (List.mem_of_getLast? hz))
    exact ⟨q, hq, by show a < q * halfR; rw [e4]; exact gab.1⟩
  · rcases List.mem_append.mp hx with hx | hx
    · obtain ⟨l, hl, rfl⟩ := List.mem_map.mp hx
      exact dl l hl
    · obtain ⟨l, hl, rfl⟩ := List.mem_map.mp hx
      exact dl l (List.mem_reverse.mp hl)
  · rcases List.mem_append.mp hx with hx | hx
    · obtain ⟨l, hl, rfl⟩ := List.mem_map.mp hx
      exact ha_lowL nn (dl l hl).1 q hq
    · obtain ⟨l, hl, rfl⟩ := List.mem_map.mp hx
      exact ha_highL nn (dl l (List.mem_reverse.mp hl)).1 q hq
theorem map_get {α β : Type} {f : α → β} {l : List α} {k : Nat} {b : β} (h : (l.map f)[k]? = some b) : ∃ a, l[k]? = some a ∧ a ∈ l ∧ f a = b := by
  rw [List.getElem?_map] at h
  obtain ⟨a, h1, h2⟩ := Option.map_eq_some_iff.mp h
  exact ⟨a, h1, List.mem_of_getElem? h1, h2⟩
theorem ByT.rise {r : Ru} {qs : List Rat} {u : Rat → Rat} {T : List (Bool × Rat)} (B : ByT r qs u T) {k : Nat} {d e : Rat} (h1 : (knotsQ r qs)[k]? = some d) (h2 : (knotsQ r qs)[k + 1]? = some e) : d < e := by
  rw [B.kn] at h1 h2
  obtain ⟨x, gx, mx, rfl⟩ := map_get h1
  obtain ⟨y, gy, my, rfl⟩ := map_get h2
  exact (B.ch.get gx gy).rise (B.lv x mx) (B.lv y my)
theorem ByT.bend {r : Ru} {qs : List Rat} {u : Rat → Rat} {T : List (Bool × Rat)} (B : ByT r qs u T) {k : Nat} {d0 d1 d2 : Rat} (h0 : (knotsQ r qs)[k]? = some d0) (h1 : (knotsQ r qs)[k + 1]? = some d1) (h2 : (knotsQ r qs)[k + 2]? = some d2) :
    ∃ q ∈ qs, (r.f qs d1 q - r.f qs d0 q) * (d2 - d1) ≠ (r.f qs d2 q - r.f qs d1 q) * (d1 - d0) := by
  rw [B.kn] at h0 h1 h2
  obtain ⟨x, gx, mx, rfl⟩ := map_get h0
  obtain ⟨y, gy, my, rfl⟩ := map_get h1
  obtain ⟨z, gz, mz, rfl⟩ := map_get h2
  obtain ⟨q, hq, h⟩ := (B.ch.get gx gy).bend (B.ch.get gy gz) (B.lv x mx) (B.lv y my) (B.lv z mz)
  refine ⟨q, hq, ?_⟩
  rw [B.pt x mx q hq, B.pt y my q hq, B.pt z mz q hq]
  exact h
/-- what the law asks of the knots -/
theorem knots_all (r : Ru) (hr : r ≠ .tu) {qs : List Rat} (nn : ∀ q ∈ qs, 0 ≤ q) : (∀ {k : Nat} {d e : Rat}, (knotsQ r qs)[k]? = some d → (knotsQ r qs)[k + 1]? = some e → d < e) ∧
    ∀ {k : Nat} {d0 d1 d2 : Rat}, (knotsQ r qs)[k]? = some d0 → (knotsQ r qs)[k + 1]? = some d1 → (knotsQ r qs)[k + 2]? = some d2 → ∃ q ∈ qs, (r.f qs d1 q - r.f qs d0 q) * (d2 - d1) ≠ (r.f qs d2 q - r.f qs d1 q) * (d1 - d0) := by
  by_cases s : sumQ qs = 0
  · have e : knotsQ r qs = [0] := by unfold knotsQ; rw [if_pos s]
    rw [e]
    exact ⟨fun _ h => by simp at h, fun _ h _ => by simp at h⟩
  · cases r with
    | tu => exact absurd rfl hr
    | sh =>
      have e : knotsQ .sh qs = [0, sumQ qs] := by unfold knotsQ; rw [if_neg s]; rfl
      rw [e]
      refine ⟨fun {k d x} h1 h2 => ?_, fun _ _ h => by simp at h⟩
      cases k with
      | zero =>
        have h1 : 0 = d := by simpa using h1
        have h2 : sumQ qs = x := by simpa using h2
        have := sumQ_nonneg nn
        rw [← h1, ← h2]
        grind
      | succ k => simp at h2
    | ga => exact ⟨fun h1 h2 => (by_ga nn s).rise h1 h2, fun h0 h1 h2 => (by_ga nn s).bend h0 h1 h2⟩
    | lo => exact ⟨fun h1 h2 => (by_lo nn s).rise h1 h2, fun h0 h1 h2 => (by_lo nn s).bend h0 h1 h2⟩
    | ha => exact ⟨fun h1 h2 => (by_ha nn s).rise h1 h2, fun h0 h1 h2 => (by_ha nn s).bend h0 h1 h2⟩
/-! ### the knots as whole numbers -/
theorem minI_nn : ∀ (l : List Int) (m : Int), 0 ≤ m → (∀ x ∈ l, 0 ≤ x) → 0 ≤ minI l m
  | [], _, h, _ => h
  | x :: l, m, h, hl => by
    show 0 ≤ minI l (if x < m then x else m)
    refine minI_nn l _ ?_ fun y hy => hl y (List.mem_cons_of_mem _ hy)
    have := hl x List.mem_cons_self
    split <;> omega
theorem minL_nn {x : Int} {l : List Int} (h : ∀ y ∈ x :: l, 0 ≤ y) : ∃ m : Int, biD .minL (.list ((x :: l).map PyData.int)) = .ok (.int m) ∧ 0 ≤ m := by
  refine ⟨minI l x, ?_, minI_nn l x (h x List.mem_cons_self) fun y hy => h y (List.mem_cons_of_mem _ hy)⟩
  have hi : intsD ((x :: l).map PyData.int) = .ok (x :: l) := intsD_ks (x :: l)
  show (intsD ((x :: l).map PyData.int) >>= fun r => match r with
    | [] => R.bad
    | x :: r => R.ok (PyData.int (minI r x))) = _
  rw [hi]
  rfl
theorem uI_nn {G C : Nat} {q : Rat} (h : On G C q) (q0 : 0 ≤ q) : 0 ≤ uI G q := by
  have h1 := (uI_mul h).2.1
  rw [h1] at q0
  exact (Rat.divInt_nonneg_iff_of_pos_right (a := uI G q) (b := (G : Int)) (by have := h.1; omega)).mp q0
theorem f__law_knots {n C : Nat} (f : Rat → List Rat) (hn : n ≤ 1000) : ∀ (ks : List Rat), ks.length ≤ 1000 → (∀ e ∈ ks, On 55440 C e ∧ (f e).length = n ∧ (∀ q ∈ f e, On 55440 C q) ∧ 0 ≤ e ∧ ∀ q ∈ f e, 0 ≤ q) → F__law_knots [.list (ks.map fun e => knotD e (f e)), .int (n : Int)] = .ok (.list (ks.map fun e => knotI 55440 e (f e))) := fun ks hk h => by
  have lp := for_acc (fg := [3, 4]) (tg := [3]) (tup := false) (body := denS B1__law_knots) (fun i => [some (.list (ks.map fun e => knotD e (f e))), some (.int (n : Int)), some (.list ((ks.take i).map fun e => knotI 55440 e (f e))), none, none, none]) (ks.map fun e => knotD e (f e)) (fun i d hd => by
    rw [List.getElem?_map] at hd
    obtain ⟨e, he, rfl⟩ := Option.map_eq_some_iff.mp hd
    obtain ⟨oe, hl, oq, e0, q0⟩ := h e (List.mem_of_getElem? he)
    have kd0 : ixD (knotD e (f e)) (.int 0) = .ok (rt e) := rfl
    have kd1 : ixD (knotD e (f e)) (.int 1) = .ok (.list ((f e).map rt)) := rfl
    have kd2 : biD .len (knotD e (f e)) = .ok (.int 2) := rfl
    have kd3 : biD (.isi "tuple") (knotD e (f e)) = .ok (.bool true) := rfl
    have kd4 : biD (.isi "list") (.list ((f e).map rt)) = .ok (.bool true) := rfl
    have hrow : ∀ v0 v1 v2 v4, denE K1__law_knots [v0, v1, v2, some (knotD e (f e)), v4, none] = .ok (.list (((e :: f e).map (uI 55440)).map .int)) := fun v0 v1 v2 v4 => by
      rw [List.map_map]
      have hcat : bop .add (.list [rt e]) (.list ((f e).map rt)) = .ok (.list ((e :: f e).map rt)) := by
        rw [ev_cat, if_pos (by rw [List.length_map, List.length_singleton, hl]; exact Nat.le_trans (show _ ≤ 1001 by omega) (by decide))]
        rfl
      refine comp_of (as := e :: f e) (w := rt) (fun q => PyData.int (uI 55440 q)) ?_ (Nat.le_trans (show _ ≤ 1001 by rw [List.length_cons]; omega) (by decide)) fun q hq => ?_
      · generalize (e :: f e).map rt = L at *
        generalize (f e).map rt = M at *
        generalize rt e = r at *
        generalize knotD e (f e) = KD at *
        simp [-ev_cat, hcat, kd0, kd1]
      · have hu : F__law_units [rt q, .int 55440] = .ok (.int (uI 55440 q)) := f__law_units (G := 55440) (C := C) (by decide) (by
          rcases List.mem_cons.mp hq with rfl | hq
          · exact oe
          · exact oq q hq)
        generalize uI 55440 q = u at *
        generalize rt q = r at *
        generalize (f e).map rt = M at *
        generalize rt e = r2 at *
        generalize knotD e (f e) = KD at *
        simp [hu]
    have ht : ks.take (i + 1) = ks.take i ++ [e] := by rw [List.take_succ, he]; rfl
    have hnin := none_in ((e :: f e).map (uI 55440))
    obtain ⟨mn, hmn, mn0⟩ := minL_nn (x := uI 55440 e) (l := (f e).map (uI 55440)) (fun y hy => by
      rcases List.mem_cons.mp hy with rfl | hy
      · exact uI_nn oe e0
      · obtain ⟨q, hq, rfl⟩ := List.mem_map.mp hy
        exact uI_nn (oq q hq) (q0 q hq))
    have hmn' : biD .minL (.list (((e :: f e).map (uI 55440)).map .int)) = .ok (.int mn) := hmn
    clear hmn
    have mn1 : ¬ mn < 0 := by omega
    have hlen : biD .len (.list ((f e).map rt)) = .ok (.int (n : Int)) := by rw [ev_len_l, List.length_map, hl]
    have i0 : ixD (.list (((e :: f e).map (uI 55440)).map .int)) (.int 0) = .ok (.int (uI 55440 e)) := by simp
    have s1 : slD (.list (((e :: f e).map (uI 55440)).map .int)) (some 1) none = .ok (.list (((f e).map (uI 55440)).map .int)) := by
      rw [ev_sl_l, show (1 : Int) = ((1 : Nat) : Int) from rfl, cut_from]
      rfl
    have zF : ((ks.take i).map fun e => knotI 55440 e (f e)).length < sizeLine := by rw [List.length_map]; exact Nat.lt_of_le_of_lt (show _ ≤ 1000 by rw [List.length_take]; omega) (by decide)
    rw [ht, List.map_append]
    show _ = Mn.Ot.next [_, _, some (.list (((ks.take i).map fun e => knotI 55440 e (f e)) ++ [.tuple [.int (uI 55440 e), .list (((f e).map (uI 55440)).map .int)]])), none, none, none]
    have hc : ceq (.int (n : Int)) (.int (n : Int)) = .ok true := by rw [ceq_ii]; simp
    have c22 : ceq (.int 2) (.int 2) = .ok true := by rw [ceq_ii]; simp
    clear ht oe oq hl h hd he e0 q0 mn0
    generalize ((ks.take i).map fun e => knotI 55440 e (f e)) = A at *
    generalize PyData.list (ks.map fun e => knotD e (f e)) = KK at *
    generalize PyData.list (((e :: f e).map (uI 55440)).map .int) = RW at *
    generalize PyData.list (((f e).map (uI 55440)).map .int) = UL at *
    generalize uI 55440 e = u at *
    generalize PyData.list ((f e).map rt) = FL at *
    generalize rt e = r at *
    generalize knotD e (f e) = KD at *
    generalize (n : Int) = N at *
    simp [-ceq_ii, B1__law_knots, hrow, hnin, hlen, hc, i0, s1, zF, kd1, kd2, kd3, kd4, hmn', mn1, c22]) (fun i => rfl) [some (.list (ks.map fun e => knotD e (f e))), some (.int (n : Int)), some (.list []), none, none, none] rfl
  rw [List.length_map, List.take_length] at lp
  have isl : biD (.isi "list") (.list (ks.map fun e => knotD e (f e))) = .ok (.bool true) := rfl
  generalize (ks.map fun e => knotI 55440 e (f e)) = A at *
  generalize (ks.map fun e => knotD e (f e)) = KK at *
  generalize (n : Int) = N at *
  simp [F__law_knots, Mn.run, d__law_knots, env0, I1__law_knots, lp, isl]
/-- a loop that some item ends -/
theorem for_some {fg tg : List Nat} {tup : Bool} {body : Mn.Env → Ot} {v : Mn.D} (E : Mn.Env) (hw : wipeE E fg = E) : ∀ (ds : List Mn.D), (∀ d ∈ ds, wipeO fg ((bindT tg tup d E).ot body) = .next E ∨ wipeO fg ((bindT tg tup d E).ot body) = .ret v) → (∃ d ∈ ds, wipeO fg ((bindT tg tup d E).ot body) = .ret v) → forO fg tg tup body ds E = .ret v
  | [], _, ⟨d, h, _⟩ => by cases h
  | d :: ds, h, k => by
    rw [forO_cons, hw]
    rcases h d List.mem_cons_self with h1 | h1
    · rw [h1]
      refine for_some E hw ds (fun x hx => h x (List.mem_cons_of_mem _ hx)) ?_
      obtain ⟨x, hx, h2⟩ := k
      rcases List.mem_cons.mp hx with rfl | hx
      · rw [h1] at h2
        cases h2
      · exact ⟨x, hx, h2⟩
    · rw [h1]
      rfl
theorem f__law_bends {a0 a1 a2 : Int} {xs ys zs : List Int} (l8 : xs.length ≤ 1000) (ly : ys.length = xs.length) (lz : zs.length = xs.length) (small : ∀ x : Int, (x = a2 - a1 ∨ x = a1 - a0) → x.natAbs < 2 ^ 300) (sx : ∀ x, (x ∈ xs ∨ x ∈ ys ∨ x ∈ zs) → x.natAbs < 2 ^ 300)
    (h : ∃ k, ∃ (h1 : k < xs.length) (h2 : k < ys.length) (h3 : k < zs.length), (ys[k] - xs[k]) * (a2 - a1) ≠ (zs[k] - ys[k]) * (a1 - a0)) :
    F__law_bends [.tuple [.int a0, .list (xs.map .int)], .tuple [.int a1, .list (ys.map .int)], .tuple [.int a2, .list (zs.map .int)]] = .ok (.bool true) := by
  have st : ∀ k (h1 : k < xs.length) (h2 : k < ys.length) (h3 : k < zs.length), wipeO [4, 5, 3] ((bindT [3] false (.int (0 + (k : Int))) [some (.tuple [.int a0, .list (xs.map .int)]), some (.tuple [.int a1, .list (ys.map .int)]), some (.tuple [.int a2, .list (zs.map .int)]), none, none, none]).ot (denS B1__law_bends)) =
      if (ys[k] - xs[k]) * (a2 - a1) = (zs[k] - ys[k]) * (a1 - a0) then .next [some (.tuple [.int a0, .list (xs.map .int)]), some (.tuple [.int a1, .list (ys.map .int)]), some (.tuple [.int a2, .list (zs.map .int)]), none, none, none] else .ret (.bool true) := fun k h1 h2 h3 => by
    rw [Int.zero_add]
    have e0 : ixD (.tuple [.int a0, .list (xs.map .int)]) (.int 0) = .ok (.int a0) := by simp
    have e1 : ixD (.tuple [.int a0, .list (xs.map .int)]) (.int 1) = .ok (.list (xs.map .int)) := by simp
    have f0 : ixD (.tuple [.int a1, .list (ys.map .int)]) (.int 0) = .ok (.int a1) := by simp
    have f1 : ixD (.tuple [.int a1, .list (ys.map .int)]) (.int 1) = .ok (.list (ys.map .int)) := by simp
    have g0 : ixD (.tuple [.int a2, .list (zs.map .int)]) (.int 0) = .ok (.int a2) := by simp
    have g1 : ixD (.tuple [.int a2, .list (zs.map .int)]) (.int 1) = .ok (.list (zs.map .int)) := by simp
    have ix : ixD (.list (xs.map .int)) (.int (k : Int)) = .ok (.int xs[k]) := ix_nat (by simp [h1])
    have iy : ixD (.list (ys.map .int)) (.int (k : Int)) = .ok (.int ys[k]) := ix_nat (by simp [h2])
    have iz : ixD (.list (zs.map .int)) (.int (k : Int)) = .ok (.int zs[k]) := ix_nat (by simp [h3])
    have bx := sx xs[k] (.inl (List.getElem_mem h1))
    have by' := sx ys[k] (.inr (.inl (List.getElem_mem h2)))
    have bz := sx zs[k] (.inr (.inr (List.getElem_mem h3)))
    have s1 := small _ (.inl rfl)
    have s2 := small _ (.inr rfl)
    have m1 : mulOk (ys[k] - xs[k]) (a2 - a1) = true := mulOk_by (m := 301) (n := 300) (by rw [show 2 ^ 301 = 2 * 2 ^ 300 by rw [← Nat.pow_succ']]; omega) s1 (by decide)
    have m2 : mulOk (zs[k] - ys[k]) (a1 - a0) = true := mulOk_by (m := 301) (n := 300) (by rw [show 2 ^ 301 = 2 * 2 ^ 300 by rw [← Nat.pow_succ']]; omega) s2 (by decide)
    have ce : ceq (.int ((ys[k] - xs[k]) * (a2 - a1))) (.int ((zs[k] - ys[k]) * (a1 - a0))) = .ok (decide ((ys[k] - xs[k]) * (a2 - a1) = (zs[k] - ys[k]) * (a1 - a0))) := by rw [ceq_ii]
    clear sx small bx by' bz s1 s2 h
    generalize xs[k] = x at *
    generalize ys[k] = y at *
    generalize zs[k] = z at *
    generalize PyData.list (xs.map .int) = X at *
    generalize PyData.list (ys.map .int) = Y at *
    generalize PyData.list (zs.map .int) = Z at *
    generalize PyData.tuple [.int a0, X] = T0 at *
    generalize PyData.tuple [.int a1, Y] = T1 at *
    generalize PyData.tuple [.int a2, Z] = T2 at *
    generalize (k : Int) = kI at *
    by_cases hc : (y - x) * (a2 - a1) = (z - y) * (a1 - a0)
    · rw [if_pos hc]
      rw [decide_eq_true hc] at ce
      simp [-ceq_ii, -ev_ix_l, -ev_ix_t, B1__law_bends, e0, e1, f0, f1, g0, g1, ix, iy, iz, m1, m2, ce]
    · rw [if_neg hc]
      rw [decide_eq_false hc] at ce
      simp [-ceq_ii, -ev_ix_l, -ev_ix_t, B1__law_bends, e0, e1, f0, f1, g0, g1, ix, iy, iz, m1, m2, ce]
  have lp := for_some (fg := [4, 5, 3]) (tg := [3]) (tup := false) (body := denS B1__law_bends) (v := .bool true) [some (.tuple [.int a0, .list (xs.map .int)]), some (.tuple [.int a1, .list (ys.map .int)]), some (.tuple [.int a2, .list (zs.map .int)]), none, none, none] rfl ((List.range xs.length).map fun (i : Nat) => .int (0 + (i : Int))) (fun d hd => by
    obtain ⟨k, hk, rfl⟩ := List.mem_map.mp hd
    have hk := List.mem_range.mp hk
    rw [st k hk (by omega) (by omega)]
    split
    · exact .inl rfl
    · exact .inr rfl) (by
    obtain ⟨k, h1, h2, h3, hne⟩ := h
    exact ⟨_, List.mem_map.mpr ⟨k, List.mem_range.mpr h1, rfl⟩, by rw [st k h1 h2 h3, if_neg hne]⟩)
  have e1 : ixD (.tuple [.int a0, .list (xs.map .int)]) (.int 1) = .ok (.list (xs.map .int)) := by simp
  have hlen : biD .len (.list (xs.map .int)) = .ok (.int (xs.length : Int)) := by rw [ev_len_l, List.length_map]
  have hsm : small62 (xs.length : Int) = true := sm62_nat (by omega)
  have rgI : rgL 0 (xs.length : Int).toNat = (List.range xs.length).map fun (i : Nat) => PyData.int (0 + (i : Int)) := by rw [Int.toNat_natCast]; rfl
  have hI : ∀ v1 v2 v3 v4 v5, denI I1__law_bends [some (.tuple [.int a0, .list (xs.map .int)]), v1, v2, v3, v4, v5] = .ok ((List.range xs.length).map fun (i : Nat) => PyData.int (0 + (i : Int))) := fun v1 v2 v3 v4 v5 => by
    rw [← rgI]
    clear lp rgI st sx h
    generalize PyData.list (xs.map PyData.int) = X at *
    generalize PyData.tuple [.int a0, X] = T0 at *
    generalize (xs.length : Int) = N at *
    simp [-ev_len_l, -ev_ix_t, I1__law_bends, e1, hlen, hsm]
  clear rgI st sx small h
  generalize ((List.range xs.length).map fun (i : Nat) => PyData.int (0 + (i : Int))) = RL at *
  generalize PyData.tuple [.int a0, .list (xs.map .int)] = T0 at *
  generalize PyData.tuple [.int a1, .list (ys.map .int)] = T1 at *
  generalize PyData.tuple [.int a2, .list (zs.map .int)] = T2 at *
  simp [F__law_bends, Mn.run, d__law_bends, env0, hI, lp]
theorem uI_lt {G C D : Nat} {d e : Rat} (hd : On G C d) (he : On G D e) (h : d < e) : uI G d < uI G e := by
  have h1 := (uI_mul hd).2.1
  have h2 := (uI_mul he).2.1
  rw [h1, h2] at h
  exact (divInt_lt hd.1).mp h
theorem bend_int {G C : Nat} {d0 d1 d2 x y z : Rat} (o0 : On G C d0) (o1 : On G C d1) (o2 : On G C d2) (ox : On G C x) (oy : On G C y) (oz : On G C z) (h : (y - x) * (d2 - d1) ≠ (z - y) * (d1 - d0)) :
    (uI G y - uI G x) * (uI G d2 - uI G d1) ≠ (uI G z - uI G y) * (uI G d1 - uI G d0) := fun e => h (by
  have g := o0.1
  conv => lhs; rw [(uI_mul oy).2.1, (uI_mul ox).2.1, (uI_mul o2).2.1, (uI_mul o1).2.1, divInt_sub1 g, divInt_sub1 g, Rat.divInt_mul_divInt, e]
  conv => rhs; rw [(uI_mul oz).2.1, (uI_mul oy).2.1, (uI_mul o1).2.1, (uI_mul o0).2.1, divInt_sub1 g, divInt_sub1 g, Rat.divInt_mul_divInt])
section
variable {r : Ru} {ts : List Int} {qs : List Rat}
abbrev KNt (r : Ru) (qs : List Rat) : D := .list ((knotsQ r qs).map fun e => knotI 55440 e (r.q qs e))
theorem st_right (hr : r ≠ .tu) (l8 : ts.length ≤ 8) (ok : ∀ t ∈ ts, (0 ≤ t ∧ t < 10 ^ 36) ∧ t % 2 = 0) (eq : qs = ts.map fun t => Rat.divInt t ((55440 : Nat) : Int)) (kl : (knotsQ r qs).length ≤ 1000) (k : Nat) (hk : k < (knotsQ r qs).length) (v3 : Option D) :
    wipeO [4] ((bindT [4] false (.int (k : Int)) [some (.str r.w), some (.list (ts.map .int)), some (KNt r qs), v3, none]).ot (denS B1__law_right)) = .next [some (.str r.w), some (.list (ts.map .int)), some (KNt r qs), v3, none] := by
  have ql : qs.length = ts.length := by rw [eq, List.length_map]
  obtain ⟨nn, on, onh⟩ := qs_ok ok eq
  have KO := knots_on hr (show 0 < 55440 by decide) on onh nn (by omega)
  obtain ⟨hrise, hbend⟩ := knots_all r hr nn
  obtain ⟨e, he⟩ : ∃ e, (knotsQ r qs)[k]? = some e := ⟨_, List.getElem?_eq_getElem hk⟩
  have ke := KO e (List.mem_of_getElem? he)
  have onq : ∀ x, x ∈ knotsQ r qs → ∀ q ∈ r.q qs x, On 55440 (8 * 10 ^ 36) q := fun x hx q hq => by
    rw [r.q_map] at hq
    obtain ⟨p, hp, rfl⟩ := List.mem_map.mp hq
    exact ((KO x hx).2.2 p hp).mono (by omega)
  have me := List.mem_of_getElem? he
  have ik : ixD (KNt r qs) (.int (k : Int)) = .ok (knotI 55440 e (r.q qs e)) := ix_nat (by rw [List.getElem?_map, he]; rfl)
  have k1 : ixD (knotI 55440 e (r.q qs e)) (.int 1) = .ok (.list (((r.q qs e).map (uI 55440)).map .int)) := rfl
  have k0 : ∀ x, ixD (knotI 55440 x (r.q qs x)) (.int 0) = .ok (.int (uI 55440 x)) := fun x => rfl
  have hsum : biD .sum (.list (((r.q qs e).map (uI 55440)).map .int)) = .ok (.int (uI 55440 e)) := by
    rw [ev_sum, intsD_ks]
    show R.ok (PyData.int ((r.q qs e).map (uI 55440)).sum) = _
    have h1 := sumQ_div 55440 (by decide) ((r.q qs e).map (uI 55440))
    rw [uI_list (by decide) (onq e me), r.sum nn ke.2.1.1 ke.2.1.2] at h1
    have h2 := uI_div (G := 55440) (by decide) ((r.q qs e).map (uI 55440)).sum
    rw [← h1] at h2
    rw [h2]
  have hby : F__law_by_rule [.str r.w, .list (((r.q qs e).map (uI 55440)).map .int), .list (ts.map .int)] = .ok (.bool true) := by
    refine f__law_by_rule (G := 55440) (cs := ts) (xs := (r.q qs e).map (uI 55440)) (e := e) r hr (by decide) (by rw [List.length_map, r.len, ql]) l8 (fun c hc => by have := (ok c hc).1; omega) (fun c hc => (ok c hc).2) ?_ ke.2.1.1 (by rw [← eq]; exact ke.2.1.2)
    rw [← eq, uI_list (by decide) (onq e me), r.q_map]
  have ces : ceq (.int (uI 55440 e)) (.int (uI 55440 e)) = .ok true := by rw [ceq_ii]; simp
  have hlen : biD .len (KNt r qs) = .ok (.int ((knotsQ r qs).length : Int)) := by rw [ev_len_l, List.length_map]
  have sec : 0 < k → ∃ d : Rat, ixD (KNt r qs) (.int ((k : Int) - 1)) = .ok (knotI 55440 d (r.q qs d)) ∧ uI 55440 d < uI 55440 e := fun k0' => by
    obtain ⟨j, rfl⟩ : ∃ j, k = j + 1 := ⟨k - 1, by omega⟩
    obtain ⟨d, hd⟩ : ∃ d, (knotsQ r qs)[j]? = some d := ⟨_, List.getElem?_eq_getElem (by omega)⟩
    refine ⟨d, ?_, uI_lt (KO d (List.mem_of_getElem? hd)).1 ke.1 (hrise hd he)⟩
    rw [show ((j + 1 : Nat) : Int) - 1 = (j : Int) by omega]
    exact ix_nat (by rw [List.getElem?_map, hd]; rfl)
  have thi : 0 < k → k + 1 < (knotsQ r qs).length → ∃ d d2 : Rat, ixD (KNt r qs) (.int ((k : Int) - 1)) = .ok (knotI 55440 d (r.q qs d)) ∧ ixD (KNt r qs) (.int ((k : Int) + 1)) = .ok (knotI 55440 d2 (r.q qs d2)) ∧ F__law_bends [knotI 55440 d (r.q qs d), knotI 55440 e (r.q qs e), knotI 55440 d2 (r.q qs d2)] = .ok (.bool true) := fun k0' k1' => by
    obtain ⟨j, rfl⟩ : ∃ j, k = j + 1 := ⟨k - 1, by omega⟩
    obtain ⟨d, hd⟩ : ∃ d, (knotsQ r qs)[j]? = some d := ⟨_, List.getElem?_eq_getElem (by omega)⟩
    obtain ⟨d2, hd2⟩ : ∃ d, (knotsQ r qs)[j + 2]? = some d := ⟨_, List.getElem?_eq_getElem (by omega)⟩
    have md := List.mem_of_getElem? hd
    have md2 := List.mem_of_getElem? hd2
    refine ⟨d, d2, ?_, ?_, ?_⟩
    · rw [show ((j + 1 : Nat) : Int) - 1 = (j : Int) by omega]
      exact ix_nat (by rw [List.getElem?_map, hd]; rfl)
    · rw [show ((j + 1 : Nat) : Int) + 1 = ((j + 2 : Nat) : Int) by omega]
      exact ix_nat (by rw [List.getElem?_map, hd2]; rfl)
    · have sm : ∀ {q : Rat}, On 55440 (8 * 10 ^ 36) q → (uI 55440 q).natAbs < 2 ^ 200 := fun h => Nat.lt_of_le_of_lt (uI_mul h).2.2 (by decide)
      have p2 : 2 ^ 300 = 2 ^ 100 * 2 ^ 200 := by rw [← Nat.pow_add]
      have p3 : 2 ≤ 2 ^ 100 := by decide
      have s0 := sm (KO d md).1
      have s1 := sm ke.1
      have s2 := sm (KO d2 md2).1
      have sl : ∀ x, x ∈ knotsQ r qs → ∀ y ∈ (r.q qs x).map (uI 55440), y.natAbs < 2 ^ 300 := fun x hx y hy => by
        obtain ⟨q, hq, rfl⟩ := List.mem_map.mp hy
        exact Nat.lt_of_lt_of_le (sm (onq x hx q hq)) (pow2_le (by decide))
      obtain ⟨q, hq, hne⟩ := hbend hd he hd2
      obtain ⟨i, hi, rfl⟩ := List.mem_iff_getElem.mp hq
      refine f__law_bends (by rw [List.length_map, r.len]; omega) (by rw [List.length_map, List.length_map, r.len, r.len]) (by rw [List.length_map, List.length_map, r.len, r.len]) (fun x hx => ?_) (fun x hx => ?_) ⟨i, by rw [List.length_map, r.len]; exact hi, by rw [List.length_map, r.len]; exact hi, by rw [List.length_map, r.len]; exact hi, ?_⟩
      · generalize 2 ^ 300 = A at *
        generalize 2 ^ 200 = B at *
        rcases hx with rfl | rfl
        · have : 2 * B ≤ A := by rw [p2]; exact Nat.mul_le_mul_right _ p3
          omega
        · have : 2 * B ≤ A := by rw [p2]; exact Nat.mul_le_mul_right _ p3
          omega
      · rcases hx with hx | hx | hx
        · exact sl d md x hx
        · exact sl e me x hx
        · exact sl d2 md2 x hx
      · have at' : ∀ x (h : i < ((r.q qs x).map (uI 55440)).length), ((r.q qs x).map (uI 55440))[i] = uI 55440 (r.f qs x qs[i]) := fun x h => by
          simp only [r.q_map, List.getElem_map]
        rw [at', at', at']
        exact bend_int (KO d md).1 ke.1 (KO d2 md2).1 (((KO d md).2.2 _ hq).mono (by omega)) ((ke.2.2 _ hq).mono (by omega)) (((KO d2 md2).2.2 _ hq).mono (by omega)) hne
  clear hrise hbend KO onq ke on onh nn eq ok
  have kI : ∀ n : Nat, (0 : Int) < (n : Int) ↔ 0 < n := fun n => by omega
  have hb0 : bop .add (.int (k : Int)) (.int 1) = .ok (.int ((k : Int) + 1)) := rfl
  have hb1 : bop .sub (.int (k : Int)) (.int 1) = .ok (.int ((k : Int) - 1)) := rfl
  have hb2 : bop .sub (.int ((knotsQ r qs).length : Int)) (.int 1) = .ok (.int (((knotsQ r qs).length : Int) - 1)) := rfl
  have kI2 : (k : Int) < ((knotsQ r qs).length : Int) - 1 ↔ k + 1 < (knotsQ r qs).length := by omega
  have kI1 := kI k
  generalize ((knotsQ r qs).length : Int) - 1 = L1 at *
  generalize ((knotsQ r qs).length : Int) = L0 at *
  generalize (k : Int) - 1 = km at *
  generalize (k : Int) + 1 = kp at *
  generalize hkk : (k : Int) = kk at *
  by_cases h0 : 0 < k
  · have c1 : (0 : Int) < kk := kI1.mpr h0
    obtain ⟨d, hd1, hd2⟩ := sec h0
    by_cases h1 : k + 1 < (knotsQ r qs).length
    · have c2 : kk < L1 := kI2.mpr h1
      obtain ⟨d', d2, t1, t2, t3⟩ := thi h0 h1
      have ed : knotI 55440 d (r.q qs d) = knotI 55440 d' (r.q qs d') := R.ok_inj (hd1.symm.trans t1)
      have k0d := k0 d
      have k0e := k0 e
      rw [ed] at k0d hd1
      clear t1 ed k0 sec thi h0 h1 kI kI1 kI2 hk he me
      generalize knotI 55440 d' (r.q qs d') = KD at *
      generalize knotI 55440 e (r.q qs e) = KE at *
      generalize knotI 55440 d2 (r.q qs d2) = KF at *
      generalize uI 55440 d = ud at *
      generalize uI 55440 e = ue at *
      generalize PyData.list (((r.q qs e).map (uI 55440)).map .int) = PE at *
      generalize KNt r qs = KN at *
      generalize PyData.list (ts.map .int) = T at *
      generalize r.w = w at *
      simp [-ev_ix_l, -ev_ix_t, -ev_len_l, -ev_sum, -ceq_ii, -ev_add, -ev_sub, B1__law_right, ik, k1, hsum, k0e, k0d, ces, hby, hlen, hb0, hb1, hb2, hd1, hd2, c1, c2, t2, t3]
    · have c2 : ¬ kk < L1 := fun z => h1 (kI2.mp z)
      have k0d := k0 d
      have k0e := k0 e
      clear k0 sec thi h0 h1 kI kI1 kI2 hk he me
      generalize knotI 55440 d (r.q qs d) = KD at *
      generalize knotI 55440 e (r.q qs e) = KE at *
      generalize uI 55440 d = ud at *
      generalize uI 55440 e = ue at *
      generalize PyData.list (((r.q qs e).map (uI 55440)).map .int) = PE at *
      generalize KNt r qs = KN at *
      generalize PyData.list (ts.map .int) = T at *
      generalize r.w = w at *
      simp [-ev_ix_l, -ev_ix_t, -ev_len_l, -ev_sum, -ceq_ii, -ev_add, -ev_sub, B1__law_right, ik, k1, hsum, k0e, k0d, ces, hby, hlen, hb0, hb1, hb2, hd1, hd2, c1, c2]
  · have c1 : ¬ (0 : Int) < kk := fun z => h0 (kI1.mp z)
    have k0e := k0 e
    clear k0 sec thi h0 kI kI1 kI2 hk he me
    generalize knotI 55440 e (r.q qs e) = KE at *
    generalize uI 55440 e = ue at *
    generalize PyData.list (((r.q qs e).map (uI 55440)).map .int) = PE at *
    generalize KNt r qs = KN at *
    generalize PyData.list (ts.map .int) = T at *
    generalize r.w = w at *
    simp [-ev_ix_l, -ev_ix_t, -ev_len_l, -ev_sum, -ceq_ii, -ev_add, -ev_sub, B1__law_right, ik, k1, hsum, k0e, ces, hby, hlen, hb0, hb1, hb2, c1]
theorem f__law_right (hr : r ≠ .tu) (l8 : ts.length ≤ 8) (ok : ∀ t ∈ ts, (0 ≤ t ∧ t < 10 ^ 36) ∧ t % 2 = 0) (eq : qs = ts.map fun t => Rat.divInt t ((55440 : Nat) : Int)) (kl : (knotsQ r qs).length ≤ 1000) : F__law_right [.str r.w, .list (ts.map .int), KNt r qs] = .ok (.bool true) := by
  have sum_eq : ∀ x, sumQ qs = 0 → x = ts.sum → x = 0 := fun x h e => by
    rw [eq, sumQ_div 55440 (by decide)] at h
    rw [e]
    exact divInt_inj (G := 55440) (by decide) (by rw [h]; exact (Rat.zero_divInt _).symm)
  have st := st_right hr l8 ok eq kl
  obtain ⟨kini, hend⟩ := knots_end r qs
  have hu : uI 55440 (sumQ qs) = ts.sum := by
    rw [eq, sumQ_div 55440 (by decide)]
    exact uI_div (by decide) _
  have hlast : ixD (KNt r qs) (.int (-1)) = .ok (knotI 55440 (sumQ qs) (r.q qs (sumQ qs))) := by
    unfold KNt
    rw [hend, List.map_append, ev_ix_l, List.map_cons, List.map_nil, atI_last]
  have hl0 : ixD (knotI 55440 (sumQ qs) (r.q qs (sumQ qs))) (.int 0) = .ok (.int ts.sum) := by
    rw [← hu]
    rfl
  have hhead : ∃ l, knotsQ r qs = 0 :: l := by
    unfold knotsQ
    split
    · exact ⟨_, rfl⟩
    · exact ⟨_, rfl⟩
  have hfirst : ixD (KNt r qs) (.int 0) = .ok (knotI 55440 0 (r.q qs 0)) := by
    obtain ⟨l, hl⟩ := hhead
    unfold KNt
    rw [hl]
    exact ix_nat (j := 0) rfl
  have u0 : uI 55440 0 = 0 := by
    have := uI_div (G := 55440) (by decide) 0
    rwa [Rat.zero_divInt] at this
  have hf0 : ixD (knotI 55440 0 (r.q qs 0)) (.int 0) = .ok (.int 0) := by
    rw [← u0]
    show R.ok (PyData.int (uI 55440 0)) = _
    rw [u0]
  have hsum : biD .sum (.list (ts.map .int)) = .ok (.int ts.sum) := by rw [ev_sum, intsD_ks]; rfl
  have ces : ceq (.int ts.sum) (.int ts.sum) = .ok true := by rw [ceq_ii]; simp
  have kp : 0 < (knotsQ r qs).length := by rw [hend, List.length_append, List.length_singleton]; omega
  have hlen : biD .len (KNt r qs) = .ok (.int ((knotsQ r qs).length : Int)) := by rw [ev_len_l, List.length_map]
  have one : (knotsQ r qs).length = 1 → ¬ 0 < ts.sum := fun h => by
    have hz : sumQ qs = 0 := by
      by_cases s : sumQ qs = 0
      · exact s
      · exfalso
        unfold knotsQ at h
        rw [if_neg s] at h
        simp at h
    have := sum_eq ts.sum hz rfl
    omega
  have hc0 : ceq (.int ((knotsQ r qs).length : Int)) (.int 0) = .ok false := by rw [ceq_ii, decide_eq_false (by omega)]
  have hc1 : ceq (.int ((knotsQ r qs).length : Int)) (.int 1) = .ok (decide ((knotsQ r qs).length = 1)) := by
    rw [ceq_ii]
    congr 1
    rw [decide_eq_decide]
    omega
  have c00 : ceq (.int 0) (.int 0) = .ok true := by rw [ceq_ii]; simp
  have hsm : small62 ((knotsQ r qs).length : Int) = true := sm62_nat (by omega)
  have rgI : rgL 0 ((knotsQ r qs).length : Int).toNat = (List.range (knotsQ r qs).length).map fun (i : Nat) => PyData.int (0 + (i : Int)) := by rw [Int.toNat_natCast]; rfl
  have lp := for_same (fg := [4]) (tg := [4]) (tup := false) (body := denS B1__law_right) [some (.str r.w), some (.list (ts.map .int)), some (KNt r qs), some (.int ts.sum), none] ((List.range (knotsQ r qs).length).map fun (i : Nat) => PyData.int (0 + (i : Int))) (fun d hd => by
    obtain ⟨k, hk, rfl⟩ := List.mem_map.mp hd
    rw [Int.zero_add]
    exact st k (List.mem_range.mp hk) _) rfl [some (.str r.w), some (.list (ts.map .int)), some (KNt r qs), some (.int ts.sum), none] rfl
  have hI : denI I1__law_right [some (.str r.w), some (.list (ts.map .int)), some (KNt r qs), some (.int ts.sum), none] = .ok ((List.range (knotsQ r qs).length).map fun (i : Nat) => PyData.int (0 + (i : Int))) := by
    rw [← rgI]
    clear lp hlast hend st
    generalize KNt r qs = KN at *
    generalize ((knotsQ r qs).length : Int) = KL' at *
    simp [-ev_len_l, I1__law_right, hlen, hsm]
  have isn : cop .isN (KNt r qs) .none = .ok (.bool false) := rfl
  clear rgI hsm hend hu sum_eq st ok eq hhead u0 kp
  generalize ((List.range (knotsQ r qs).length).map fun (i : Nat) => PyData.int (0 + (i : Int))) = RL at *
  by_cases h1 : (knotsQ r qs).length = 1
  · have one := one h1
    rw [decide_eq_true h1] at hc1
    clear h1 kl
    generalize ((knotsQ r qs).length : Int) = L0 at *
    generalize KNt r qs = KN at *
    generalize knotI 55440 (sumQ qs) (r.q qs (sumQ qs)) = KE at *
    generalize knotI 55440 0 (r.q qs 0) = KZ at *
    generalize ts.sum = tS at *
    generalize PyData.list (ts.map .int) = T at *
    generalize r.w = w at *
    simp [-ev_ix_l, -ev_ix_t, -ev_len_l, -ev_sum, -ceq_ii, F__law_right, Mn.run, d__law_right, env0, hsum, isn, hlen, hc0, hc1, c00, hfirst, hf0, hlast, hl0, ces, one, hI, lp]
  · rw [decide_eq_false h1] at hc1
    clear h1 kl one
    generalize ((knotsQ r qs).length : Int) = L0 at *
    generalize KNt r qs = KN at *
    generalize knotI 55440 (sumQ qs) (r.q qs (sumQ qs)) = KE at *
    generalize knotI 55440 0 (r.q qs 0) = KZ at *
    generalize ts.sum = tS at *
    generalize PyData.list (ts.map .int) = T at *
    generalize r.w = w at *
    simp [-ev_ix_l, -ev_ix_t, -ev_len_l, -ev_sum, -ceq_ii, F__law_right, Mn.run, d__law_right, env0, hsum, isn, hlen, hc0, hc1, c00, hfirst, hf0, hlast, hl0, ces, hI, lp]
end
theorem jps_of {α : Type} (n : Nat) (f : α → D) (g : α → List D) : ∀ (l : List α), (∀ a ∈ l, (g a).length + n < sizeLine) → jPs n (l.map fun a => .tuple [f a, .list (g a)]) = true
  | [], _ => rfl
  | a :: l, h => by
    show (decide ((g a).length + n < sizeLine) && jPs n (l.map fun a => .tuple [f a, .list (g a)])) = true
    rw [decide_eq_true (h a List.mem_cons_self), jps_of n f g l fun x hx => h x (List.mem_cons_of_mem _ hx)]
    rfl
theorem t1_law {w : Str} {Ts Hs : D} {KD : List D} {KI : D} {N : Int} {v0 v7 : Option D} (hli : biD .list Hs = .ok Hs) (hc : ceq Hs Hs = .ok true) (hp : F_path [.str w, Hs] = .ok (.list KD)) (hlen : biD .len Ts = .ok (.int N))
    (hk : F__law_knots [.list KD, .int N] = .ok KI) (hrt : F__law_right [.str w, Ts, KI] = .ok (.bool true)) (hj : jPs KD.length KD = true) :
    wipeO [5, 6, 4, 3] ((bindT [3] false (.str w) [v0, some Ts, some Hs, none, none, none, none, v7]).ot (denS B1_law)) = .next [v0, some Ts, some Hs, none, none, none, none, v7] := by
  have jm := fun ρ hl he => jMo_all (i := 5) (j := 6) (e := .tup (.cons (.int 0) (.cons (.int 1) .nil))) (ds := KD) (ρ := ρ) (z := .tuple [.int 0, .int 1]) hl hj he
  simp [-ev_len_l, -ev_list_l, B1_law, hli, hc, hp, hlen, hk, hrt, jm]
theorem law_true (ns : List Int) (hn : ns.length ≤ 63) (_ : ∀ z ∈ ns, Builtin.Int.intBits z ≤ 1048576) : F_law [.list (ns.map .int)] = .ok (.bool true) := by
  obtain ⟨n, n8, hcl⟩ := f__law_claims ns
  have l8 : (claimsI ns n).length ≤ 8 := by rw [claimsI_len]; exact n8
  have ok := claimsI_ok ns n
  generalize claimsI ns n = ts at *
  obtain ⟨qs, eq⟩ : ∃ qs, qs = ts.map fun t => Rat.divInt t ((55440 : Nat) : Int) := ⟨_, rfl⟩
  have hK1 : ∀ v2 v3 v4 v5 v6, denE K1_law [some (.list (ns.map .int)), some (.list (ts.map .int)), v2, v3, v4, v5, v6, none] = .ok (.list (qs.map rt)) := fun v2 v3 v4 v5 v6 => by
    rw [eq, List.map_map]
    refine comp_of (w := PyData.int) (fun z => rt (Rat.divInt z ((55440 : Nat) : Int))) (by simp) (lineN' (by omega)) fun z _ => ?_
    have hr2 := ratio1 z
    generalize rt (Rat.divInt z ((55440 : Nat) : Int)) = R1 at *
    simp [hr2]
  have ql : qs.length = ts.length := by rw [eq, List.length_map]
  obtain ⟨nn, on, onh⟩ := qs_ok ok eq
  have step : ∀ r : Ru, r ≠ .tu → wipeO [5, 6, 4, 3] ((bindT [3] false (.str r.w) [some (.list (ns.map .int)), some (.list (ts.map .int)), some (.list (qs.map rt)), none, none, none, none, none]).ot (denS B1_law)) = .next [some (.list (ns.map .int)), some (.list (ts.map .int)), some (.list (qs.map rt)), none, none, none, none, none] := fun r hr => by
    have KO := knots_on hr (show 0 < 55440 by decide) on onh nn (by omega)
    have hp := f_path r hr (G := 55440) (B := 10 ^ 36) (by decide) (by decide) (by decide) on nn (by omega)
    have hp : F_path [.str r.w, .list (qs.map rt)] = .ok (.list ((knotsQ r qs).map fun e => knotD e (r.q qs e))) := hp
    have kl : (knotsQ r qs).length ≤ 1000 := by
      have := bends_len r qs (by omega)
      unfold knotsQ
      split
      · exact Nat.le_trans (Nat.le_refl 1) (by decide)
      · rw [List.length_append, List.length_cons, List.length_singleton]
        omega
    have hk := f__law_knots (n := ts.length) (C := 8 * 10 ^ 36) (r.q qs) (by omega) (knotsQ r qs) kl fun e he => ⟨(KO e he).1, by rw [r.len, ql], fun q hq => by
      rw [r.q_map] at hq
      obtain ⟨p, hp, rfl⟩ := List.mem_map.mp hq
      exact ((KO e he).2.2 p hp).mono (by omega), (KO e he).2.1.1, fun q hq => by
      rw [r.q_map] at hq
      obtain ⟨p, hp, rfl⟩ := List.mem_map.mp hq
      exact (r.bounds nn (KO e he).2.1.1 (KO e he).2.1.2 p hp).1⟩
    have hrt := f__law_right hr l8 ok eq kl
    exact t1_law rfl (by rw [ceq_rts]; simp) hp (by rw [ev_len_l, List.length_map]) hk hrt (jps_of _ _ (fun e => (r.q qs e).map rt) _ fun e _ => by
      rw [List.length_map, List.length_map, r.len]
      have : sizeLine = 16777216 := rfl
      omega)
  have lp := for_same (fg := [5, 6, 4, 3]) (tg := [3]) (tup := false) (body := denS B1_law) [some (.list (ns.map .int)), some (.list (ts.map .int)), some (.list (qs.map rt)), none, none, none, none, none] [.str "gains", .str "losses", .str "halves", .str "shares"] (fun d hd => by
    have hd : d = .str "gains" ∨ d = .str "losses" ∨ d = .str "halves" ∨ d = .str "shares" := by simpa using hd
    rcases hd with rfl | rfl | rfl | rfl
    · exact step .ga (by decide)
    · exact step .lo (by decide)
    · exact step .ha (by decide)
    · exact step .sh (by decide)) rfl [some (.list (ns.map .int)), some (.list (ts.map .int)), some (.list (qs.map rt)), none, none, none, none, none] rfl
  clear step ok eq l8 nn on onh ql
  generalize PyData.list (ts.map .int) = T at *
  generalize PyData.list (qs.map rt) = H at *
  generalize PyData.list (ns.map .int) = N0 at *
  simp [F_law, Mn.run, d_law, env0, hcl, hK1, I1_law, lp]
theorem c_common : isDef d_common (defBody (top 8)) (defScope (top 8)) = true := by decide +kernel
theorem b_common (kV doc pm : Value) (an : Option Addr) (cdv ct : Value) (us : List Value) (hl : us.length = (d_common.N.take d_common.np).length) : bindArgs (PySem.W.fnOf "common" "common" (defArgs (top 8)) (defBody (top 8)) (defScope (top 8)) .none kV doc pm an cdv ct) ⟨us, []⟩ = pure ((d_common.N.take d_common.np).zip us) := match us, hl with
  | [_, _], _ => rfl
theorem c_ratio : isDef d_ratio (defBody (top 9)) (defScope (top 9)) = true := by decide +kernel
theorem b_ratio (kV doc pm : Value) (an : Option Addr) (cdv ct : Value) (us : List Value) (hl : us.length = (d_ratio.N.take d_ratio.np).length) : bindArgs (PySem.W.fnOf "ratio" "ratio" (defArgs (top 9)) (defBody (top 9)) (defScope (top 9)) .none kV doc pm an cdv ct) ⟨us, []⟩ = pure ((d_ratio.N.take d_ratio.np).zip us) := match us, hl with
  | [_, _], _ => rfl
theorem c_plus : isDef d_plus (defBody (top 10)) (defScope (top 10)) = true := by decide +kernel
theorem b_plus (kV doc pm : Value) (an : Option Addr) (cdv ct : Value) (us : List Value) (hl : us.length = (d_plus.N.take d_plus.np).length) : bindArgs (PySem.W.fnOf "plus" "plus" (defArgs (top 10)) (defBody (top 10)) (defScope (top 10)) .none kV doc pm an cdv ct) ⟨us, []⟩ = pure ((d_plus.N.take d_plus.np).zip us) := match us, hl with
  | [_, _], _ => rfl
theorem c_minus : isDef d_minus (defBody (top 11)) (defScope (top 11)) = true := by decide +kernel
theorem b_minus (kV doc pm : Value) (an : Option Addr) (cdv ct : Value) (us : List Value) (hl : us.length = (d_minus.N.take d_minus.np).length) : bindArgs (PySem.W.fnOf "minus" "minus" (defArgs (top 11)) (defBody (top 11)) (defScope (top 11)) .none kV doc pm an cdv ct) ⟨us, []⟩ = pure ((d_minus.N.take d_minus.np).zip us) := match us, hl with
  | [_, _], _ => rfl
theorem c_times : isDef d_times (defBody (top 12)) (defScope (top 12)) = true := by decide +kernel
theorem b_times (kV doc pm : Value) (an : Option Addr) (cdv ct : Value) (us : List Value) (hl : us.length = (d_times.N.take d_times.np).length) : bindArgs (PySem.W.fnOf "times" "times" (defArgs (top 12)) (defBody (top 12)) (defScope (top 12)) .none kV doc pm an cdv ct) ⟨us, []⟩ = pure ((d_times.N.take d_times.np).zip us) := match us, hl with
  | [_, _], _ => rfl
theorem c_over : isDef d_over (defBody (top 13)) (defScope (top 13)) = true := by decide +kernel
theorem b_over (kV doc pm : Value) (an : Option Addr) (cdv ct : Value) (us : List Value) (hl : us.length = (d_over.N.take d_over.np).length) : bindArgs (PySem.W.fnOf "over" "over" (defArgs (top 13)) (defBody (top 13)) (defScope (top 13)) .none kV doc pm an cdv ct) ⟨us, []⟩ = pure ((d_over.N.take d_over.np).zip us) := match us, hl with
  | [_, _], _ => rfl
theorem c_less : isDef d_less (defBody (top 14)) (defScope (top 14)) = true := by decide +kernel
theorem b_less (kV doc pm : Value) (an : Option Addr) (cdv ct : Value) (us : List Value) (hl : us.length = (d_less.N.take d_less.np).length) : bindArgs (PySem.W.fnOf "less" "less" (defArgs (top 14)) (defBody (top 14)) (defScope (top 14)) .none kV doc pm an cdv ct) ⟨us, []⟩ = pure ((d_less.N.take d_less.np).zip us) := match us, hl with
  | [_, _], _ => rfl
theorem c_total : isDef d_total (defBody (top 17)) (defScope (top 17)) = true := by decide +kernel
theorem b_total (kV doc pm : Value) (an : Option Addr) (cdv ct : Value) (us : List Value) (hl : us.length = (d_total.N.take d_total.np).length) : bindArgs (PySem.W.fnOf "total" "total" (defArgs (top 17)) (defBody (top 17)) (defScope (top 17)) .none kV doc pm an cdv ct) ⟨us, []⟩ = pure ((d_total.N.take d_total.np).zip us) := match us, hl with
  | [_], _ => rfl
theorem c_check_claims : isDef d_check_claims (defBody (top 18)) (defScope (top 18)) = true := by decide +kernel
theorem b_check_claims (kV doc pm : Value) (an : Option Addr) (cdv ct : Value) (us : List Value) (hl : us.length = (d_check_claims.N.take d_check_claims.np).length) : bindArgs (PySem.W.fnOf "check_claims" "check_claims" (defArgs (top 18)) (defBody (top 18)) (defScope (top 18)) .none kV doc pm an cdv ct) ⟨us, []⟩ = pure ((d_check_claims.N.take d_check_claims.np).zip us) := match us, hl with
  | [_], _ => rfl
theorem c_check_estate : isDef d_check_estate (defBody (top 19)) (defScope (top 19)) = true := by decide +kernel
theorem b_check_estate (kV doc pm : Value) (an : Option Addr) (cdv ct : Value) (us : List Value) (hl : us.length = (d_check_estate.N.take d_check_estate.np).length) : bindArgs (PySem.W.fnOf "check_estate" "check_estate" (defArgs (top 19)) (defBody (top 19)) (defScope (top 19)) .none kV doc pm an cdv ct) ⟨us, []⟩ = pure ((d_check_estate.N.take d_check_estate.np).zip us) := match us, hl with
  | [_, _], _ => rfl
theorem c_lack : isDef d_lack (defBody (top 20)) (defScope (top 20)) = true := by decide +kernel
theorem b_lack (kV doc pm : Value) (an : Option Addr) (cdv ct : Value) (us : List Value) (hl : us.length = (d_lack.N.take d_lack.np).length) : bindArgs (PySem.W.fnOf "lack" "lack" (defArgs (top 20)) (defBody (top 20)) (defScope (top 20)) .none kV doc pm an cdv ct) ⟨us, []⟩ = pure ((d_lack.N.take d_lack.np).zip us) := match us, hl with
  | [_, _], _ => rfl
theorem c_lesser : isDef d_lesser (defBody (top 22)) (defScope (top 22)) = true := by decide +kernel
theorem b_lesser (kV doc pm : Value) (an : Option Addr) (cdv ct : Value) (us : List Value) (hl : us.length = (d_lesser.N.take d_lesser.np).length) : bindArgs (PySem.W.fnOf "lesser" "lesser" (defArgs (top 22)) (defBody (top 22)) (defScope (top 22)) .none kV doc pm an cdv ct) ⟨us, []⟩ = pure ((d_lesser.N.take d_lesser.np).zip us) := match us, hl with
  | [_, _], _ => rfl
theorem c_rising : isDef d_rising (defBody (top 23)) (defScope (top 23)) = true := by decide +kernel
theorem b_rising (kV doc pm : Value) (an : Option Addr) (cdv ct : Value) (us : List Value) (hl : us.length = (d_rising.N.take d_rising.np).length) : bindArgs (PySem.W.fnOf "rising" "rising" (defArgs (top 23)) (defBody (top 23)) (defScope (top 23)) .none kV doc pm an cdv ct) ⟨us, []⟩ = pure ((d_rising.N.take d_rising.np).zip us) := match us, hl with
  | [_], _ => rfl
theorem c_filled : isDef d_filled (defBody (top 24)) (defScope (top 24)) = true := by decide +kernel
theorem b_filled (kV doc pm : Value) (an : Option Addr) (cdv ct : Value) (us : List Value) (hl : us.length = (d_filled.N.take d_filled.np).length) : bindArgs (PySem.W.fnOf "filled" "filled" (defArgs (top 24)) (defBody (top 24)) (defScope (top 24)) .none kV doc pm an cdv ct) ⟨us, []⟩ = pure ((d_filled.N.take d_filled.np).zip us) := match us, hl with
  | [_, _], _ => rfl
theorem c_gain_level : isDef d_gain_level (defBody (top 25)) (defScope (top 25)) = true := by decide +kernel
theorem b_gain_level (kV doc pm : Value) (an : Option Addr) (cdv ct : Value) (us : List Value) (hl : us.length = (d_gain_level.N.take d_gain_level.np).length) : bindArgs (PySem.W.fnOf "gain_level" "gain_level" (defArgs (top 25)) (defBody (top 25)) (defScope (top 25)) .none kV doc pm an cdv ct) ⟨us, []⟩ = pure ((d_gain_level.N.take d_gain_level.np).zip us) := match us, hl with
  | [_, _], _ => rfl
theorem c_emptied : isDef d_emptied (defBody (top 26)) (defScope (top 26)) = true := by decide +kernel
theorem b_emptied (kV doc pm : Value) (an : Option Addr) (cdv ct : Value) (us : List Value) (hl : us.length = (d_emptied.N.take d_emptied.np).length) : bindArgs (PySem.W.fnOf "emptied" "emptied" (defArgs (top 26)) (defBody (top 26)) (defScope (top 26)) .none kV doc pm an cdv ct) ⟨us, []⟩ = pure ((d_emptied.N.take d_emptied.np).zip us) := match us, hl with
  | [_, _], _ => rfl
theorem c_loss_level : isDef d_loss_level (defBody (top 27)) (defScope (top 27)) = true := by decide +kernel
theorem b_loss_level (kV doc pm : Value) (an : Option Addr) (cdv ct : Value) (us : List Value) (hl : us.length = (d_loss_level.N.take d_loss_level.np).length) : bindArgs (PySem.W.fnOf "loss_level" "loss_level" (defArgs (top 27)) (defBody (top 27)) (defScope (top 27)) .none kV doc pm an cdv ct) ⟨us, []⟩ = pure ((d_loss_level.N.take d_loss_level.np).zip us) := match us, hl with
  | [_, _], _ => rfl
theorem c_in_shares : isDef d_in_shares (defBody (top 30)) (defScope (top 30)) = true := by decide +kernel
theorem b_in_shares (kV doc pm : Value) (an : Option Addr) (cdv ct : Value) (us : List Value) (hl : us.length = (d_in_shares.N.take d_in_shares.np).length) : bindArgs (PySem.W.fnOf "in_shares" "in_shares" (defArgs (top 30)) (defBody (top 30)) (defScope (top 30)) .none kV doc pm an cdv ct) ⟨us, []⟩ = pure ((d_in_shares.N.take d_in_shares.np).zip us) := match us, hl with
  | [_, _], _ => rfl
theorem c_by_gains : isDef d_by_gains (defBody (top 31)) (defScope (top 31)) = true := by decide +kernel
theorem b_by_gains (kV doc pm : Value) (an : Option Addr) (cdv ct : Value) (us : List Value) (hl : us.length = (d_by_gains.N.take d_by_gains.np).length) : bindArgs (PySem.W.fnOf "by_gains" "by_gains" (defArgs (top 31)) (defBody (top 31)) (defScope (top 31)) .none kV doc pm an cdv ct) ⟨us, []⟩ = pure ((d_by_gains.N.take d_by_gains.np).zip us) := match us, hl with
  | [_, _], _ => rfl
theorem c_above : isDef d_above (defBody (top 32)) (defScope (top 32)) = true := by decide +kernel
theorem b_above (kV doc pm : Value) (an : Option Addr) (cdv ct : Value) (us : List Value) (hl : us.length = (d_above.N.take d_above.np).length) : bindArgs (PySem.W.fnOf "above" "above" (defArgs (top 32)) (defBody (top 32)) (defScope (top 32)) .none kV doc pm an cdv ct) ⟨us, []⟩ = pure ((d_above.N.take d_above.np).zip us) := match us, hl with
  | [_, _], _ => rfl
theorem c_by_losses : isDef d_by_losses (defBody (top 33)) (defScope (top 33)) = true := by decide +kernel
theorem b_by_losses (kV doc pm : Value) (an : Option Addr) (cdv ct : Value) (us : List Value) (hl : us.length = (d_by_losses.N.take d_by_losses.np).length) : bindArgs (PySem.W.fnOf "by_losses" "by_losses" (defArgs (top 33)) (defBody (top 33)) (defScope (top 33)) .none kV doc pm an cdv ct) ⟨us, []⟩ = pure ((d_by_losses.N.take d_by_losses.np).zip us) := match us, hl with
  | [_, _], _ => rfl
theorem c_by_halves : isDef d_by_halves (defBody (top 34)) (defScope (top 34)) = true := by decide +kernel
theorem b_by_halves (kV doc pm : Value) (an : Option Addr) (cdv ct : Value) (us : List Value) (hl : us.length = (d_by_halves.N.take d_by_halves.np).length) : bindArgs (PySem.W.fnOf "by_halves" "by_halves" (defArgs (top 34)) (defBody (top 34)) (defScope (top 34)) .none kV doc pm an cdv ct) ⟨us, []⟩ = pure ((d_by_halves.N.take d_by_halves.np).zip us) := match us, hl with
  | [_, _], _ => rfl
theorem c_orders_of : isDef d_orders_of (defBody (top 36)) (defScope (top 36)) = true := by decide +kernel
theorem b_orders_of (kV doc pm : Value) (an : Option Addr) (cdv ct : Value) (us : List Value) (hl : us.length = (d_orders_of.N.take d_orders_of.np).length) : bindArgs (PySem.W.fnOf "orders_of" "orders_of" (defArgs (top 36)) (defBody (top 36)) (defScope (top 36)) .none kV doc pm an cdv ct) ⟨us, []⟩ = pure ((d_orders_of.N.take d_orders_of.np).zip us) := match us, hl with
  | [_], _ => rfl
theorem c_count_in : isDef d_count_in (defBody (top 37)) (defScope (top 37)) = true := by decide +kernel
theorem b_count_in (kV doc pm : Value) (an : Option Addr) (cdv ct : Value) (us : List Value) (hl : us.length = (d_count_in.N.take d_count_in.np).length) : bindArgs (PySem.W.fnOf "count_in" "count_in" (defArgs (top 37)) (defBody (top 37)) (defScope (top 37)) .none kV doc pm an cdv ct) ⟨us, []⟩ = pure ((d_count_in.N.take d_count_in.np).zip us) := match us, hl with
  | [_], _ => rfl
theorem c_rests : isDef d_rests (defBody (top 38)) (defScope (top 38)) = true := by decide +kernel
theorem b_rests (kV doc pm : Value) (an : Option Addr) (cdv ct : Value) (us : List Value) (hl : us.length = (d_rests.N.take d_rests.np).length) : bindArgs (PySem.W.fnOf "rests" "rests" (defArgs (top 38)) (defBody (top 38)) (defScope (top 38)) .none kV doc pm an cdv ct) ⟨us, []⟩ = pure ((d_rests.N.take d_rests.np).zip us) := match us, hl with
  | [_, _], _ => rfl
theorem c_average_of : isDef d_average_of (defBody (top 39)) (defScope (top 39)) = true := by decide +kernel
theorem b_average_of (kV doc pm : Value) (an : Option Addr) (cdv ct : Value) (us : List Value) (hl : us.length = (d_average_of.N.take d_average_of.np).length) : bindArgs (PySem.W.fnOf "average_of" "average_of" (defArgs (top 39)) (defBody (top 39)) (defScope (top 39)) .none kV doc pm an cdv ct) ⟨us, []⟩ = pure ((d_average_of.N.take d_average_of.np).zip us) := match us, hl with
  | [_, _, _], _ => rfl
theorem c_by_turns : isDef d_by_turns (defBody (top 40)) (defScope (top 40)) = true := by decide +kernel
theorem b_by_turns (kV doc pm : Value) (an : Option Addr) (cdv ct : Value) (us : List Value) (hl : us.length = (d_by_turns.N.take d_by_turns.np).length) : bindArgs (PySem.W.fnOf "by_turns" "by_turns" (defArgs (top 40)) (defBody (top 40)) (defScope (top 40)) .none kV doc pm an cdv ct) ⟨us, []⟩ = pure ((d_by_turns.N.take d_by_turns.np).zip us) := match us, hl with
  | [_, _], _ => rfl
theorem c_check_rule : isDef d_check_rule (defBody (top 43)) (defScope (top 43)) = true := by decide +kernel
theorem b_check_rule (kV doc pm : Value) (an : Option Addr) (cdv ct : Value) (us : List Value) (hl : us.length = (d_check_rule.N.take d_check_rule.np).length) : bindArgs (PySem.W.fnOf "check_rule" "check_rule" (defArgs (top 43)) (defBody (top 43)) (defScope (top 43)) .none kV doc pm an cdv ct) ⟨us, []⟩ = pure ((d_check_rule.N.take d_check_rule.np).zip us) := match us, hl with
  | [_], _ => rfl
theorem c_shared : isDef d_shared (defBody (top 44)) (defScope (top 44)) = true := by decide +kernel
theorem b_shared (kV doc pm : Value) (an : Option Addr) (cdv ct : Value) (us : List Value) (hl : us.length = (d_shared.N.take d_shared.np).length) : bindArgs (PySem.W.fnOf "shared" "shared" (defArgs (top 44)) (defBody (top 44)) (defScope (top 44)) .none kV doc pm an cdv ct) ⟨us, []⟩ = pure ((d_shared.N.take d_shared.np).zip us) := match us, hl with
  | [_, _, _], _ => rfl
theorem c_check_path : isDef d_check_path (defBody (top 47)) (defScope (top 47)) = true := by decide +kernel
theorem b_check_path (kV doc pm : Value) (an : Option Addr) (cdv ct : Value) (us : List Value) (hl : us.length = (d_check_path.N.take d_check_path.np).length) : bindArgs (PySem.W.fnOf "check_path" "check_path" (defArgs (top 47)) (defBody (top 47)) (defScope (top 47)) .none kV doc pm an cdv ct) ⟨us, []⟩ = pure ((d_check_path.N.take d_check_path.np).zip us) := match us, hl with
  | [_, _], _ => rfl
theorem c_unlike : isDef d_unlike (defBody (top 48)) (defScope (top 48)) = true := by decide +kernel
theorem b_unlike (kV doc pm : Value) (an : Option Addr) (cdv ct : Value) (us : List Value) (hl : us.length = (d_unlike.N.take d_unlike.np).length) : bindArgs (PySem.W.fnOf "unlike" "unlike" (defArgs (top 48)) (defBody (top 48)) (defScope (top 48)) .none kV doc pm an cdv ct) ⟨us, []⟩ = pure ((d_unlike.N.take d_unlike.np).zip us) := match us, hl with
  | [_], _ => rfl
theorem c_up_to : isDef d_up_to (defBody (top 49)) (defScope (top 49)) = true := by decide +kernel
theorem b_up_to (kV doc pm : Value) (an : Option Addr) (cdv ct : Value) (us : List Value) (hl : us.length = (d_up_to.N.take d_up_to.np).length) : bindArgs (PySem.W.fnOf "up_to" "up_to" (defArgs (top 49)) (defBody (top 49)) (defScope (top 49)) .none kV doc pm an cdv ct) ⟨us, []⟩ = pure ((d_up_to.N.take d_up_to.np).zip us) := match us, hl with
  | [_, _], _ => rfl
theorem c_bends : isDef d_bends (defBody (top 50)) (defScope (top 50)) = true := by decide +kernel
theorem b_bends (kV doc pm : Value) (an : Option Addr) (cdv ct : Value) (us : List Value) (hl : us.length = (d_bends.N.take d_bends.np).length) : bindArgs (PySem.W.fnOf "bends" "bends" (defArgs (top 50)) (defBody (top 50)) (defScope (top 50)) .none kV doc pm an cdv ct) ⟨us, []⟩ = pure ((d_bends.N.take d_bends.np).zip us) := match us, hl with
  | [_, _], _ => rfl
theorem c_path : isDefN d_path (defBody (top 51)) (defScope (top 51)) = true := by decide +kernel
theorem b_path (kV doc pm : Value) (an : Option Addr) (cdv ct : Value) (us : List Value) (hl : us.length = (d_path.N.take d_path.np).length) : bindArgs (PySem.W.fnOf "path" "path" (defArgs (top 51)) (defBody (top 51)) (defScope (top 51)) .none kV doc pm an cdv ct) ⟨us, []⟩ = pure ((d_path.N.take d_path.np).zip us) := match us, hl with
  | [_, _], _ => rfl
theorem c__law_cell_at : isDef d__law_cell_at (defBody (top 53)) (defScope (top 53)) = true := by decide +kernel
theorem b__law_cell_at (kV doc pm : Value) (an : Option Addr) (cdv ct : Value) (us : List Value) (hl : us.length = (d__law_cell_at.N.take d__law_cell_at.np).length) : bindArgs (PySem.W.fnOf "_law_cell_at" "_law_cell_at" (defArgs (top 53)) (defBody (top 53)) (defScope (top 53)) .none kV doc pm an cdv ct) ⟨us, []⟩ = pure ((d__law_cell_at.N.take d__law_cell_at.np).zip us) := match us, hl with
  | [_, _], _ => rfl
theorem c__law_claims : isDef d__law_claims (defBody (top 54)) (defScope (top 54)) = true := by decide +kernel
theorem b__law_claims (kV doc pm : Value) (an : Option Addr) (cdv ct : Value) (us : List Value) (hl : us.length = (d__law_claims.N.take d__law_claims.np).length) : bindArgs (PySem.W.fnOf "_law_claims" "_law_claims" (defArgs (top 54)) (defBody (top 54)) (defScope (top 54)) .none kV doc pm an cdv ct) ⟨us, []⟩ = pure ((d__law_claims.N.take d__law_claims.np).zip us) := match us, hl with
  | [_, _], _ => rfl
theorem c__law_ratio : isDef d__law_ratio (defBody (top 55)) (defScope (top 55)) = true := by decide +kernel
theorem b__law_ratio (kV doc pm : Value) (an : Option Addr) (cdv ct : Value) (us : List Value) (hl : us.length = (d__law_ratio.N.take d__law_ratio.np).length) : bindArgs (PySem.W.fnOf "_law_ratio" "_law_ratio" (defArgs (top 55)) (defBody (top 55)) (defScope (top 55)) .none kV doc pm an cdv ct) ⟨us, []⟩ = pure ((d__law_ratio.N.take d__law_ratio.np).zip us) := match us, hl with
  | [_, _], _ => rfl
theorem c__law_units : isDef d__law_units (defBody (top 56)) (defScope (top 56)) = true := by decide +kernel
theorem b__law_units (kV doc pm : Value) (an : Option Addr) (cdv ct : Value) (us : List Value) (hl : us.length = (d__law_units.N.take d__law_units.np).length) : bindArgs (PySem.W.fnOf "_law_units" "_law_units" (defArgs (top 56)) (defBody (top 56)) (defScope (top 56)) .none kV doc pm an cdv ct) ⟨us, []⟩ = pure ((d__law_units.N.take d__law_units.np).zip us) := match us, hl with
  | [_, _], _ => rfl
theorem c__law_levelled : isDef d__law_levelled (defBody (top 57)) (defScope (top 57)) = true := by decide +kernel
theorem b__law_levelled (kV doc pm : Value) (an : Option Addr) (cdv ct : Value) (us : List Value) (hl : us.length = (d__law_levelled.N.take d__law_levelled.np).length) : bindArgs (PySem.W.fnOf "_law_levelled" "_law_levelled" (defArgs (top 57)) (defBody (top 57)) (defScope (top 57)) .none kV doc pm an cdv ct) ⟨us, []⟩ = pure ((d__law_levelled.N.take d__law_levelled.np).zip us) := match us, hl with
  | [_, _], _ => rfl
theorem c__law_by_rule : isDef d__law_by_rule (defBody (top 58)) (defScope (top 58)) = true := by decide +kernel
theorem b__law_by_rule (kV doc pm : Value) (an : Option Addr) (cdv ct : Value) (us : List Value) (hl : us.length = (d__law_by_rule.N.take d__law_by_rule.np).length) : bindArgs (PySem.W.fnOf "_law_by_rule" "_law_by_rule" (defArgs (top 58)) (defBody (top 58)) (defScope (top 58)) .none kV doc pm an cdv ct) ⟨us, []⟩ = pure ((d__law_by_rule.N.take d__law_by_rule.np).zip us) := match us, hl with
  | [_, _, _], _ => rfl
theorem c__law_knots : isDef d__law_knots (defBody (top 59)) (defScope (top 59)) = true := by decide +kernel
theorem b__law_knots (kV doc pm : Value) (an : Option Addr) (cdv ct : Value) (us : List Value) (hl : us.length = (d__law_knots.N.take d__law_knots.np).length) : bindArgs (PySem.W.fnOf "_law_knots" "_law_knots" (defArgs (top 59)) (defBody (top 59)) (defScope (top 59)) .none kV doc pm an cdv ct) ⟨us, []⟩ = pure ((d__law_knots.N.take d__law_knots.np).zip us) := match us, hl with
  | [_, _], _ => rfl
theorem c__law_bends : isDef d__law_bends (defBody (top 60)) (defScope (top 60)) = true := by decide +kernel
theorem b__law_bends (kV doc pm : Value) (an : Option Addr) (cdv ct : Value) (us : List Value) (hl : us.length = (d__law_bends.N.take d__law_bends.np).length) : bindArgs (PySem.W.fnOf "_law_bends" "_law_bends" (defArgs (top 60)) (defBody (top 60)) (defScope (top 60)) .none kV doc pm an cdv ct) ⟨us, []⟩ = pure ((d__law_bends.N.take d__law_bends.np).zip us) := match us, hl with
  | [_, _, _], _ => rfl
theorem c__law_right : isDef d__law_right (defBody (top 61)) (defScope (top 61)) = true := by decide +kernel
theorem b__law_right (kV doc pm : Value) (an : Option Addr) (cdv ct : Value) (us : List Value) (hl : us.length = (d__law_right.N.take d__law_right.np).length) : bindArgs (PySem.W.fnOf "_law_right" "_law_right" (defArgs (top 61)) (defBody (top 61)) (defScope (top 61)) .none kV doc pm an cdv ct) ⟨us, []⟩ = pure ((d__law_right.N.take d__law_right.np).zip us) := match us, hl with
  | [_, _, _], _ => rfl
theorem c_law : isDef d_law (defBody (top 62)) (defScope (top 62)) = true := by decide +kernel
theorem b_law (kV doc pm : Value) (an : Option Addr) (cdv ct : Value) (us : List Value) (hl : us.length = (d_law.N.take d_law.np).length) : bindArgs (PySem.W.fnOf "law" "law" (defArgs (top 62)) (defBody (top 62)) (defScope (top 62)) .none kV doc pm an cdv ct) ⟨us, []⟩ = pure ((d_law.N.take d_law.np).zip us) := match us, hl with
  | [_], _ => rfl
def D_common : He.DefD := ⟨("common", none), "common", "common", defArgs (top 8), defBody (top 8), defScope (top 8), [], []⟩
def D_ratio : He.DefD := ⟨("ratio", none), "ratio", "ratio", defArgs (top 9), defBody (top 9), defScope (top 9), [], []⟩
def D_plus : He.DefD := ⟨("plus", none), "plus", "plus", defArgs (top 10), defBody (top 10), defScope (top 10), [], []⟩
def D_minus : He.DefD := ⟨("minus", none), "minus", "minus", defArgs (top 11), defBody (top 11), defScope (top 11), [], []⟩
def D_times : He.DefD := ⟨("times", none), "times", "times", defArgs (top 12), defBody (top 12), defScope (top 12), [], []⟩
def D_over : He.DefD := ⟨("over", none), "over", "over", defArgs (top 13), defBody (top 13), defScope (top 13), [], []⟩
def D_less : He.DefD := ⟨("less", none), "less", "less", defArgs (top 14), defBody (top 14), defScope (top 14), [], []⟩
def D_total : He.DefD := ⟨("total", none), "total", "total", defArgs (top 17), defBody (top 17), defScope (top 17), [], []⟩
def D_check_claims : He.DefD := ⟨("check_claims", none), "check_claims", "check_claims", defArgs (top 18), defBody (top 18), defScope (top 18), [], []⟩
def D_check_estate : He.DefD := ⟨("check_estate", none), "check_estate", "check_estate", defArgs (top 19), defBody (top 19), defScope (top 19), [], []⟩
def D_lack : He.DefD := ⟨("lack", none), "lack", "lack", defArgs (top 20), defBody (top 20), defScope (top 20), [], []⟩
def D_lesser : He.DefD := ⟨("lesser", none), "lesser", "lesser", defArgs (top 22), defBody (top 22), defScope (top 22), [], []⟩
def D_rising : He.DefD := ⟨("rising", none), "rising", "rising", defArgs (top 23), defBody (top 23), defScope (top 23), [], []⟩
def D_filled : He.DefD := ⟨("filled", none), "filled", "filled", defArgs (top 24), defBody (top 24), defScope (top 24), [], []⟩
def D_gain_level : He.DefD := ⟨("gain_level", none), "gain_level", "gain_level", defArgs (top 25), defBody (top 25), defScope (top 25), [], []⟩
def D_emptied : He.DefD := ⟨("emptied", none), "emptied", "emptied", defArgs (top 26), defBody (top 26), defScope (top 26), [], []⟩
def D_loss_level : He.DefD := ⟨("loss_level", none), "loss_level", "loss_level", defArgs (top 27), defBody (top 27), defScope (top 27), [], []⟩
def D_in_shares : He.DefD := ⟨("in_shares", none), "in_shares", "in_shares", defArgs (top 30), defBody (top 30), defScope (top 30), [], []⟩
def D_by_gains : He.DefD := ⟨("by_gains", none), "by_gains", "by_gains", defArgs (top 31), defBody (top 31), defScope (top 31), [], []⟩
def D_above : He.DefD := ⟨("above", none), "above", "above", defArgs (top 32), defBody (top 32), defScope (top 32), [], []⟩
def D_by_losses : He.DefD := ⟨("by_losses", none), "by_losses", "by_losses", defArgs (top 33), defBody (top 33), defScope (top 33), [], []⟩
def D_by_halves : He.DefD := ⟨("by_halves", none), "by_halves", "by_halves", defArgs (top 34), defBody (top 34), defScope (top 34), [], []⟩
def D_orders_of : He.DefD := ⟨("orders_of", none), "orders_of", "orders_of", defArgs (top 36), defBody (top 36), defScope (top 36), [], []⟩
def D_count_in : He.DefD := ⟨("count_in", none), "count_in", "count_in", defArgs (top 37), defBody (top 37), defScope (top 37), [], []⟩
def D_rests : He.DefD := ⟨("rests", none), "rests", "rests", defArgs (top 38), defBody (top 38), defScope (top 38), [], []⟩
def D_average_of : He.DefD := ⟨("average_of", none), "average_of", "average_of", defArgs (top 39), defBody (top 39), defScope (top 39), [], []⟩
def D_by_turns : He.DefD := ⟨("by_turns", none), "by_turns", "by_turns", defArgs (top 40), defBody (top 40), defScope (top 40), [], []⟩
def D_check_rule : He.DefD := ⟨("check_rule", none), "check_rule", "check_rule", defArgs (top 43), defBody (top 43), defScope (top 43), [], []⟩
def D_shared : He.DefD := ⟨("shared", none), "shared", "shared", defArgs (top 44), defBody (top 44), defScope (top 44), [], []⟩
def D_check_path : He.DefD := ⟨("check_path", none), "check_path", "check_path", defArgs (top 47), defBody (top 47), defScope (top 47), [], []⟩
def D_unlike : He.DefD := ⟨("unlike", none), "unlike", "unlike", defArgs (top 48), defBody (top 48), defScope (top 48), [], []⟩
def D_up_to : He.DefD := ⟨("up_to", none), "up_to", "up_to", defArgs (top 49), defBody (top 49), defScope (top 49), [], []⟩
def D_bends : He.DefD := ⟨("bends", none), "bends", "bends", defArgs (top 50), defBody (top 50), defScope (top 50), [], []⟩
def D_path : He.DefD := ⟨("path", none), "path", "path", defArgs (top 51), defBody (top 51), defScope (top 51), [], []⟩
def D__law_cell_at : He.DefD := ⟨("_law_cell_at", none), "_law_cell_at", "_law_cell_at", defArgs (top 53), defBody (top 53), defScope (top 53), [], []⟩
def D__law_claims : He.DefD := ⟨("_law_claims", none), "_law_claims", "_law_claims", defArgs (top 54), defBody (top 54), defScope (top 54), [], []⟩
def D__law_ratio : He.DefD := ⟨("_law_ratio", none), "_law_ratio", "_law_ratio", defArgs (top 55), defBody (top 55), defScope (top 55), [], []⟩
def D__law_units : He.DefD := ⟨("_law_units", none), "_law_units", "_law_units", defArgs (top 56), defBody (top 56), defScope (top 56), [], []⟩
def D__law_levelled : He.DefD := ⟨("_law_levelled", none), "_law_levelled", "_law_levelled", defArgs (top 57), defBody (top 57), defScope (top 57), [], []⟩
def D__law_by_rule : He.DefD := ⟨("_law_by_rule", none), "_law_by_rule", "_law_by_rule", defArgs (top 58), defBody (top 58), defScope (top 58), [], []⟩
def D__law_knots : He.DefD := ⟨("_law_knots", none), "_law_knots", "_law_knots", defArgs (top 59), defBody (top 59), defScope (top 59), [], []⟩
def D__law_bends : He.DefD := ⟨("_law_bends", none), "_law_bends", "_law_bends", defArgs (top 60), defBody (top 60), defScope (top 60), [], []⟩
def D__law_right : He.DefD := ⟨("_law_right", none), "_law_right", "_law_right", defArgs (top 61), defBody (top 61), defScope (top 61), [], []⟩
def D_law : He.DefD := ⟨("law", none), "law", "law", defArgs (top 62), defBody (top 62), defScope (top 62), [], []⟩
def fn : List He.DefD := [D_common, D_ratio, D_plus, D_minus, D_times, D_over, D_less, D_total, D_check_claims, D_check_estate, D_lack, D_lesser, D_rising, D_filled, D_gain_level, D_emptied, D_loss_level, D_in_shares, D_by_gains, D_above, D_by_losses, D_by_halves, D_orders_of, D_count_in, D_rests, D_average_of, D_by_turns, D_check_rule, D_shared, D_check_path, D_unlike, D_up_to, D_bends, D_path, D__law_cell_at, D__law_claims, D__law_ratio, D__law_units, D__law_levelled, D__law_by_rule, D__law_knots, D__law_bends, D__law_right, D_law]
def fa : List He.Fa := frees ++ (([.glo "common", .glo "ratio", .glo "plus", .glo "minus", .glo "times", .glo "over", .glo "less", .glo "total", .glo "check_claims", .glo "check_estate", .glo "lack", .glo "lesser", .glo "rising", .glo "filled", .glo "gain_level", .glo "emptied", .glo "loss_level", .glo "in_shares", .glo "by_gains", .glo "above"] : List He.Fa) ++ ([.glo "by_losses", .glo "by_halves", .glo "orders_of", .glo "count_in", .glo "rests", .glo "average_of", .glo "by_turns", .glo "check_rule", .glo "shared", .glo "check_path", .glo "unlike", .glo "up_to", .glo "bends", .glo "path", .glo "_law_cell_at", .glo "_law_claims", .glo "_law_ratio", .glo "_law_units", .glo "_law_levelled", .glo "_law_by_rule"] : List He.Fa) ++ ([.glo "_law_knots", .glo "_law_bends", .glo "_law_right", .glo "law", .glo "NoClaim", .exc "NoClaim", .glo "NoEstate", .exc "NoEstate", .glo "NoRatio", .exc "NoRatio", .glo "NoRule", .exc "NoRule", .glo "TooMany", .exc "TooMany", .glo "HALF", .int "MOST" 8, .glo "NOTHING", .glo "RULES"] : List He.Fa))
def ex (K : PySem.W.Frag) : Bool := He.tupB K "HALF" (([.int 1, .int 2] : List Cst).map Cst.dv) && He.tupB K "NOTHING" (([.int 0, .int 1] : List Cst).map Cst.dv) && He.tupB K "RULES" (([.str "shares", .str "gains", .str "losses", .str "halves", .str "turns"] : List Cst).map Cst.dv)
abbrev R : PySem.W.OpenRow := PySem.W.OpenLaw.row PySem.Challenge.rw_leanestate_k34_knots_of_a_path
abbrev hk : PySem.W.Hook := He.hookX 4 fa fn [] [] ex
def ob (s : PySem.W.SharedT) : He.AlX := He.obsX 4 fa fn [] [] ex (HandSHeadRun.getT s)
theorem ob_eq (s : PySem.W.SharedT) : ob s = hk.obs s.abs := He.obsX_eq (HandSHeadRun.getT_eq s)
def names : List PySem.Str := (["LeanError", "NoRatio", "TooMany", "NoClaim", "NoEstate", "NoRule", "common", "ratio", "plus", "minus", "times", "over", "less", "MOST", "total", "check_claims", "check_estate", "lack", "lesser", "rising"] : List PySem.Str) ++ (["filled", "gain_level", "emptied", "loss_level", "HALF", "in_shares", "by_gains", "above", "by_losses", "by_halves", "orders_of", "count_in", "rests", "average_of", "by_turns", "RULES", "check_rule", "shared", "NOTHING", "check_path"] : List PySem.Str) ++ (["unlike", "up_to", "bends", "path", "_law_cell_at", "_law_claims", "_law_ratio", "_law_units", "_law_levelled", "_law_by_rule", "_law_knots", "_law_bends", "_law_right"] : List PySem.Str)
theorem run_ok (w : World) : HandSHeadRun.RunEq R (PySem.W.view R.prog [62]) hk ob 4180 names w := by
  intro os
  kernel_rfl
section
variable {P : Program} {w w' : World} {K : PySem.W.Frag} {mg : Str → Option Value} {base : Heap} {h : Heap}
theorem all (X : K.In h) (G : h.Ns mainGlobals mg) (c0 : He.SaysX fa fn [] [] ex w' h K) :
    ∃ fd : FuncData, FunD K "law" "law" (defArgs (top 62)) (defBody (top 62)) (defScope (top 62)) [] [] (He.ga K "law") fd ∧ ∀ base : Heap, FnOk P w K mg base (L2.CX P w) 11 (He.ga K "law") fd ["_law_script"] (spD K 1 F_law) := by
  have c := c0.t.d
  have bi := free_all X G (List.all_eq_true.mpr fun f hf => c.facts (List.mem_append_left _ hf))
  obtain ⟨fd_common, E_common⟩ := c.def_ 0 (d := D_common) rfl
  obtain ⟨fd_ratio, E_ratio⟩ := c.def_ 1 (d := D_ratio) rfl
  obtain ⟨fd_plus, E_plus⟩ := c.def_ 2 (d := D_plus) rfl
  obtain ⟨fd_minus, E_minus⟩ := c.def_ 3 (d := D_minus) rfl
  obtain ⟨fd_times, E_times⟩ := c.def_ 4 (d := D_times) rfl
  obtain ⟨fd_over, E_over⟩ := c.def_ 5 (d := D_over) rfl
  obtain ⟨fd_less, E_less⟩ := c.def_ 6 (d := D_less) rfl
  obtain ⟨fd_total, E_total⟩ := c.def_ 7 (d := D_total) rfl
  obtain ⟨fd_check_claims, E_check_claims⟩ := c.def_ 8 (d := D_check_claims) rfl
  obtain ⟨fd_check_estate, E_check_estate⟩ := c.def_ 9 (d := D_check_estate) rfl
  obtain ⟨fd_lack, E_lack⟩ := c.def_ 10 (d := D_lack) rfl
  obtain ⟨fd_lesser, E_lesser⟩ := c.def_ 11 (d := D_lesser) rfl
  obtain ⟨fd_rising, E_rising⟩ := c.def_ 12 (d := D_rising) rfl
  obtain ⟨fd_filled, E_filled⟩ := c.def_ 13 (d := D_filled) rfl
  obtain ⟨fd_gain_level, E_gain_level⟩ := c.def_ 14 (d := D_gain_level) rfl
  obtain ⟨fd_emptied, E_emptied⟩ := c.def_ 15 (d := D_emptied) rfl
  obtain ⟨fd_loss_level, E_loss_level⟩ := c.def_ 16 (d := D_loss_level) rfl
  obtain ⟨fd_in_shares, E_in_shares⟩ := c.def_ 17 (d := D_in_shares) rfl
  obtain ⟨fd_by_gains, E_by_gains⟩ := c.def_ 18 (d := D_by_gains) rfl
  obtain ⟨fd_above, E_above⟩ := c.def_ 19 (d := D_above) rfl
  obtain ⟨fd_by_losses, E_by_losses⟩ := c.def_ 20 (d := D_by_losses) rfl
  obtain ⟨fd_by_halves, E_by_halves⟩ := c.def_ 21 (d := D_by_halves) rfl
  obtain ⟨fd_orders_of, E_orders_of⟩ := c.def_ 22 (d := D_orders_of) rfl
  obtain ⟨fd_count_in, E_count_in⟩ := c.def_ 23 (d := D_count_in) rfl
  obtain ⟨fd_rests, E_rests⟩ := c.def_ 24 (d := D_rests) rfl
  obtain ⟨fd_average_of, E_average_of⟩ := c.def_ 25 (d := D_average_of) rfl
  obtain ⟨fd_by_turns, E_by_turns⟩ := c.def_ 26 (d := D_by_turns) rfl
  obtain ⟨fd_check_rule, E_check_rule⟩ := c.def_ 27 (d := D_check_rule) rfl
  obtain ⟨fd_shared, E_shared⟩ := c.def_ 28 (d := D_shared) rfl
  obtain ⟨fd_check_path, E_check_path⟩ := c.def_ 29 (d := D_check_path) rfl
  obtain ⟨fd_unlike, E_unlike⟩ := c.def_ 30 (d := D_unlike) rfl
  obtain ⟨fd_up_to, E_up_to⟩ := c.def_ 31 (d := D_up_to) rfl
  obtain ⟨fd_bends, E_bends⟩ := c.def_ 32 (d := D_bends) rfl
  obtain ⟨fd_path, E_path⟩ := c.def_ 33 (d := D_path) rfl
  obtain ⟨fd__law_cell_at, E__law_cell_at⟩ := c.def_ 34 (d := D__law_cell_at) rfl
  obtain ⟨fd__law_claims, E__law_claims⟩ := c.def_ 35 (d := D__law_claims) rfl
  obtain ⟨fd__law_ratio, E__law_ratio⟩ := c.def_ 36 (d := D__law_ratio) rfl
  obtain ⟨fd__law_units, E__law_units⟩ := c.def_ 37 (d := D__law_units) rfl
  obtain ⟨fd__law_levelled, E__law_levelled⟩ := c.def_ 38 (d := D__law_levelled) rfl
  obtain ⟨fd__law_by_rule, E__law_by_rule⟩ := c.def_ 39 (d := D__law_by_rule) rfl
  obtain ⟨fd__law_knots, E__law_knots⟩ := c.def_ 40 (d := D__law_knots) rfl
  obtain ⟨fd__law_bends, E__law_bends⟩ := c.def_ 41 (d := D__law_bends) rfl
  obtain ⟨fd__law_right, E__law_right⟩ := c.def_ 42 (d := D__law_right) rfl
  obtain ⟨fd_law, E_law⟩ := c.def_ 43 (d := D_law) rfl
  have x_NoClaim := ex_of X G (x := "NoClaim") (c.fact 62 rfl) (c.fact 63 rfl)
  have x_NoEstate := ex_of X G (x := "NoEstate") (c.fact 64 rfl) (c.fact 65 rfl)
  have x_NoRatio := ex_of X G (x := "NoRatio") (c.fact 66 rfl) (c.fact 67 rfl)
  have x_NoRule := ex_of X G (x := "NoRule") (c.fact 68 rfl) (c.fact 69 rfl)
  have x_TooMany := ex_of X G (x := "TooMany") (c.fact 70 rfl) (c.fact 71 rfl)
  have g_HALF := gl_tup X G (x := "HALF") (cs := [.int 1, .int 2]) (c.fact 72 rfl) (and3 (and3 c0.more).1).1
  have g_MOST := gl_int X G (x := "MOST") (c.fact 73 rfl)
  have g_NOTHING := gl_tup X G (x := "NOTHING") (cs := [.int 0, .int 1]) (c.fact 74 rfl) (and3 (and3 c0.more).1).2
  have g_RULES := gl_tup X G (x := "RULES") (cs := [.str "shares", .str "gains", .str "losses", .str "halves", .str "turns"]) (c.fact 75 rfl) (and3 c0.more).2
  refine ⟨fd_law, E_law, fun base => ?_⟩
  have h_common : HasFn P w K mg base 1 "common" F_common := by
    exact def_has E_common c_common b_common bi (by repeat' (first | exact trivial | assumption | apply And.intro)) (He.glo_ok X G (c.fact 18 rfl))
  have h_ratio : HasFn P w K mg base 2 "ratio" F_ratio := by
    have h_common := h_common.mono (show 1 ≤ 1 by decide)
    exact def_has E_ratio c_ratio b_ratio bi (by repeat' (first | exact trivial | assumption | apply And.intro)) (He.glo_ok X G (c.fact 19 rfl))
  have h_plus : HasFn P w K mg base 3 "plus" F_plus := by
    have h_ratio := h_ratio.mono (show 2 ≤ 2 by decide)
    exact def_has E_plus c_plus b_plus bi (by repeat' (first | exact trivial | assumption | apply And.intro)) (He.glo_ok X G (c.fact 20 rfl))
  have h_minus : HasFn P w K mg base 3 "minus" F_minus := by
    have h_ratio := h_ratio.mono (show 2 ≤ 2 by decide)
    exact def_has E_minus c_minus b_minus bi (by repeat' (first | exact trivial | assumption | apply And.intro)) (He.glo_ok X G (c.fact 21 rfl))
  have h_times : HasFn P w K mg base 3 "times" F_times := by
    have h_ratio := h_ratio.mono (show 2 ≤ 2 by decide)
    exact def_has E_times c_times b_times bi (by repeat' (first | exact trivial | assumption | apply And.intro)) (He.glo_ok X G (c.fact 22 rfl))
  have h_over : HasFn P w K mg base 3 "over" F_over := by
    have h_ratio := h_ratio.mono (show 2 ≤ 2 by decide)
    exact def_has E_over c_over b_over bi (by repeat' (first | exact trivial | assumption | apply And.intro)) (He.glo_ok X G (c.fact 23 rfl))
  have h_less : HasFn P w K mg base 1 "less" F_less := by
    exact def_has E_less c_less b_less bi (by repeat' (first | exact trivial | assumption | apply And.intro)) (He.glo_ok X G (c.fact 24 rfl))
  have h_total : HasFn P w K mg base 4 "total" F_total := by
    have h_plus := h_plus.mono (show 3 ≤ 3 by decide)
    exact def_has E_total c_total b_total bi (by repeat' (first | exact trivial | assumption | apply And.intro)) (He.glo_ok X G (c.fact 25 rfl))
  have h_check_claims : HasFn P w K mg base 1 "check_claims" F_check_claims := by
    exact def_has E_check_claims c_check_claims b_check_claims bi (by repeat' (first | exact trivial | assumption | apply And.intro)) (He.glo_ok X G (c.fact 26 rfl))
  have h_check_estate : HasFn P w K mg base 5 "check_estate" F_check_estate := by
    have h_check_claims := h_check_claims.mono (show 1 ≤ 4 by decide)
    have h_less := h_less.mono (show 1 ≤ 4 by decide)
    have h_total := h_total.mono (show 4 ≤ 4 by decide)
    exact def_has E_check_estate c_check_estate b_check_estate bi (by repeat' (first | exact trivial | assumption | apply And.intro)) (He.glo_ok X G (c.fact 27 rfl))
  have h_lack : HasFn P w K mg base 6 "lack" F_lack := by
    have h_check_estate := h_check_estate.mono (show 5 ≤ 5 by decide)
    have h_minus := h_minus.mono (show 3 ≤ 5 by decide)
    have h_total := h_total.mono (show 4 ≤ 5 by decide)
    exact def_has E_lack c_lack b_lack bi (by repeat' (first | exact trivial | assumption | apply And.intro)) (He.glo_ok X G (c.fact 28 rfl))
  have h_lesser : HasFn P w K mg base 2 "lesser" F_lesser := by
    have h_less := h_less.mono (show 1 ≤ 1 by decide)
    exact def_has E_lesser c_lesser b_lesser bi (by repeat' (first | exact trivial | assumption | apply And.intro)) (He.glo_ok X G (c.fact 29 rfl))
  have h_rising : HasFn P w K mg base 2 "rising" F_rising := by
    have h_less := h_less.mono (show 1 ≤ 1 by decide)
    exact def_has E_rising c_rising b_rising bi (by repeat' (first | exact trivial | assumption | apply And.intro)) (He.glo_ok X G (c.fact 30 rfl))
  have h_filled : HasFn P w K mg base 4 "filled" F_filled := by
    have h_less := h_less.mono (show 1 ≤ 3 by decide)
    have h_minus := h_minus.mono (show 3 ≤ 3 by decide)
    have h_over := h_over.mono (show 3 ≤ 3 by decide)
    have h_rising := h_rising.mono (show 2 ≤ 3 by decide)
    exact def_has E_filled c_filled b_filled bi (by repeat' (first | exact trivial | assumption | apply And.intro)) (He.glo_ok X G (c.fact 31 rfl))
  have h_gain_level : HasFn P w K mg base 6 "gain_level" F_gain_level := by
    have h_check_estate := h_check_estate.mono (show 5 ≤ 5 by decide)
    have h_filled := h_filled.mono (show 4 ≤ 5 by decide)
    exact def_has E_gain_level c_gain_level b_gain_level bi (by repeat' (first | exact trivial | assumption | apply And.intro)) (He.glo_ok X G (c.fact 32 rfl))
  have h_emptied : HasFn P w K mg base 4 "emptied" F_emptied := by
    have h_less := h_less.mono (show 1 ≤ 3 by decide)
    have h_minus := h_minus.mono (show 3 ≤ 3 by decide)
    have h_over := h_over.mono (show 3 ≤ 3 by decide)
    have h_rising := h_rising.mono (show 2 ≤ 3 by decide)
    have h_times := h_times.mono (show 3 ≤ 3 by decide)
    exact def_has E_emptied c_emptied b_emptied bi (by repeat' (first | exact trivial | assumption | apply And.intro)) (He.glo_ok X G (c.fact 33 rfl))
  have h_loss_level : HasFn P w K mg base 6 "loss_level" F_loss_level := by
    have h_check_estate := h_check_estate.mono (show 5 ≤ 5 by decide)
    have h_emptied := h_emptied.mono (show 4 ≤ 5 by decide)
    exact def_has E_loss_level c_loss_level b_loss_level bi (by repeat' (first | exact trivial | assumption | apply And.intro)) (He.glo_ok X G (c.fact 34 rfl))
  have h_in_shares : HasFn P w K mg base 6 "in_shares" F_in_shares := by
    have h_check_estate := h_check_estate.mono (show 5 ≤ 5 by decide)
    have h_over := h_over.mono (show 3 ≤ 5 by decide)
    have h_times := h_times.mono (show 3 ≤ 5 by decide)
    have h_total := h_total.mono (show 4 ≤ 5 by decide)
    exact def_has E_in_shares c_in_shares b_in_shares bi (by repeat' (first | exact trivial | assumption | apply And.intro)) (He.glo_ok X G (c.fact 35 rfl))
  have h_by_gains : HasFn P w K mg base 7 "by_gains" F_by_gains := by
    have h_gain_level := h_gain_level.mono (show 6 ≤ 6 by decide)
    have h_lesser := h_lesser.mono (show 2 ≤ 6 by decide)
    exact def_has E_by_gains c_by_gains b_by_gains bi (by repeat' (first | exact trivial | assumption | apply And.intro)) (He.glo_ok X G (c.fact 36 rfl))
  have h_above : HasFn P w K mg base 4 "above" F_above := by
    have h_less := h_less.mono (show 1 ≤ 3 by decide)
    have h_minus := h_minus.mono (show 3 ≤ 3 by decide)
    exact def_has E_above c_above b_above bi (by repeat' (first | exact trivial | assumption | apply And.intro)) (He.glo_ok X G (c.fact 37 rfl))
  have h_by_losses : HasFn P w K mg base 7 "by_losses" F_by_losses := by
    have h_above := h_above.mono (show 4 ≤ 6 by decide)
    have h_loss_level := h_loss_level.mono (show 6 ≤ 6 by decide)
    exact def_has E_by_losses c_by_losses b_by_losses bi (by repeat' (first | exact trivial | assumption | apply And.intro)) (He.glo_ok X G (c.fact 38 rfl))
  have h_by_halves : HasFn P w K mg base 8 "by_halves" F_by_halves := by
    have h_by_gains := h_by_gains.mono (show 7 ≤ 7 by decide)
    have h_lack := h_lack.mono (show 6 ≤ 7 by decide)
    have h_less := h_less.mono (show 1 ≤ 7 by decide)
    have h_minus := h_minus.mono (show 3 ≤ 7 by decide)
    have h_times := h_times.mono (show 3 ≤ 7 by decide)
    exact def_has E_by_halves c_by_halves b_by_halves bi (by repeat' (first | exact trivial | assumption | apply And.intro)) (He.glo_ok X G (c.fact 39 rfl))
  have h_orders_of : HasFn P w K mg base 1 "orders_of" F_orders_of := by
    exact def_has E_orders_of c_orders_of b_orders_of bi (by repeat' (first | exact trivial | assumption | apply And.intro)) (He.glo_ok X G (c.fact 40 rfl))
  have h_count_in : HasFn P w K mg base 1 "count_in" F_count_in := by
    exact def_has E_count_in c_count_in b_count_in bi (by repeat' (first | exact trivial | assumption | apply And.intro)) (He.glo_ok X G (c.fact 41 rfl))
  have h_rests : HasFn P w K mg base 4 "rests" F_rests := by
    have h_minus := h_minus.mono (show 3 ≤ 3 by decide)
    exact def_has E_rests c_rests b_rests bi (by repeat' (first | exact trivial | assumption | apply And.intro)) (He.glo_ok X G (c.fact 42 rfl))
  have h_average_of : HasFn P w K mg base 4 "average_of" F_average_of := by
    have h_count_in := h_count_in.mono (show 1 ≤ 3 by decide)
    have h_lesser := h_lesser.mono (show 2 ≤ 3 by decide)
    have h_orders_of := h_orders_of.mono (show 1 ≤ 3 by decide)
    have h_over := h_over.mono (show 3 ≤ 3 by decide)
    have h_plus := h_plus.mono (show 3 ≤ 3 by decide)
    have h_times := h_times.mono (show 3 ≤ 3 by decide)
    exact def_has E_average_of c_average_of b_average_of bi (by repeat' (first | exact trivial | assumption | apply And.intro)) (He.glo_ok X G (c.fact 43 rfl))
  have h_by_turns : HasFn P w K mg base 6 "by_turns" F_by_turns := by
    have h_average_of := h_average_of.mono (show 4 ≤ 5 by decide)
    have h_check_estate := h_check_estate.mono (show 5 ≤ 5 by decide)
    have h_rests := h_rests.mono (show 4 ≤ 5 by decide)
    exact def_has E_by_turns c_by_turns b_by_turns bi (by repeat' (first | exact trivial | assumption | apply And.intro)) (He.glo_ok X G (c.fact 44 rfl))
  have h_check_rule : HasFn P w K mg base 1 "check_rule" F_check_rule := by
    exact def_has E_check_rule c_check_rule b_check_rule bi (by repeat' (first | exact trivial | assumption | apply And.intro)) (He.glo_ok X G (c.fact 45 rfl))
  have h_shared : HasFn P w K mg base 9 "shared" F_shared := by
    have h_by_gains := h_by_gains.mono (show 7 ≤ 8 by decide)
    have h_by_halves := h_by_halves.mono (show 8 ≤ 8 by decide)
    have h_by_losses := h_by_losses.mono (show 7 ≤ 8 by decide)
    have h_by_turns := h_by_turns.mono (show 6 ≤ 8 by decide)
    have h_check_rule := h_check_rule.mono (show 1 ≤ 8 by decide)
    have h_in_shares := h_in_shares.mono (show 6 ≤ 8 by decide)
    exact def_has E_shared c_shared b_shared bi (by repeat' (first | exact trivial | assumption | apply And.intro)) (He.glo_ok X G (c.fact 46 rfl))
  have h_check_path : HasFn P w K mg base 2 "check_path" F_check_path := by
    have h_check_claims := h_check_claims.mono (show 1 ≤ 1 by decide)
    have h_check_rule := h_check_rule.mono (show 1 ≤ 1 by decide)
    exact def_has E_check_path c_check_path b_check_path bi (by repeat' (first | exact trivial | assumption | apply And.intro)) (He.glo_ok X G (c.fact 47 rfl))
  have h_unlike : HasFn P w K mg base 3 "unlike" F_unlike := by
    have h_rising := h_rising.mono (show 2 ≤ 2 by decide)
    exact def_has E_unlike c_unlike b_unlike bi (by repeat' (first | exact trivial | assumption | apply And.intro)) (He.glo_ok X G (c.fact 48 rfl))
  have h_up_to : HasFn P w K mg base 5 "up_to" F_up_to := by
    have h_lesser := h_lesser.mono (show 2 ≤ 4 by decide)
    have h_total := h_total.mono (show 4 ≤ 4 by decide)
    exact def_has E_up_to c_up_to b_up_to bi (by repeat' (first | exact trivial | assumption | apply And.intro)) (He.glo_ok X G (c.fact 49 rfl))
  have h_bends : HasFn P w K mg base 6 "bends" F_bends := by
    have h_above := h_above.mono (show 4 ≤ 5 by decide)
    have h_minus := h_minus.mono (show 3 ≤ 5 by decide)
    have h_times := h_times.mono (show 3 ≤ 5 by decide)
    have h_total := h_total.mono (show 4 ≤ 5 by decide)
    have h_unlike := h_unlike.mono (show 3 ≤ 5 by decide)
    have h_up_to := h_up_to.mono (show 5 ≤ 5 by decide)
    exact def_has E_bends c_bends b_bends bi (by repeat' (first | exact trivial | assumption | apply And.intro)) (He.glo_ok X G (c.fact 50 rfl))
  have h_path : HasNf P w K mg base 10 "path" F_path := by
    have h_bends := h_bends.mono (show 6 ≤ 9 by decide)
    have h_check_path := h_check_path.mono (show 2 ≤ 9 by decide)
    have h_shared := h_shared.mono (show 9 ≤ 9 by decide)
    have h_total := h_total.mono (show 4 ≤ 9 by decide)
    exact def_hasN E_path c_path b_path bi (by repeat' (first | exact trivial | assumption | apply And.intro)) (by repeat' (first | exact trivial | assumption | apply And.intro)) (He.glo_ok X G (c.fact 51 rfl))
  have h__law_cell_at : HasFn P w K mg base 1 "_law_cell_at" F__law_cell_at := by
    exact def_has E__law_cell_at c__law_cell_at b__law_cell_at bi (by repeat' (first | exact trivial | assumption | apply And.intro)) (He.glo_ok X G (c.fact 52 rfl))
  have h__law_claims : HasFn P w K mg base 2 "_law_claims" F__law_claims := by
    have h__law_cell_at := h__law_cell_at.mono (show 1 ≤ 1 by decide)
    exact def_has E__law_claims c__law_claims b__law_claims bi (by repeat' (first | exact trivial | assumption | apply And.intro)) (He.glo_ok X G (c.fact 53 rfl))
  have h__law_ratio : HasFn P w K mg base 1 "_law_ratio" F__law_ratio := by
    exact def_has E__law_ratio c__law_ratio b__law_ratio bi (by repeat' (first | exact trivial | assumption | apply And.intro)) (He.glo_ok X G (c.fact 54 rfl))
  have h__law_units : HasFn P w K mg base 2 "_law_units" F__law_units := by
    have h__law_ratio := h__law_ratio.mono (show 1 ≤ 1 by decide)
    exact def_has E__law_units c__law_units b__law_units bi (by repeat' (first | exact trivial | assumption | apply And.intro)) (He.glo_ok X G (c.fact 55 rfl))
  have h__law_levelled : HasFn P w K mg base 1 "_law_levelled" F__law_levelled := by
    exact def_has E__law_levelled c__law_levelled b__law_levelled bi (by repeat' (first | exact trivial | assumption | apply And.intro)) (He.glo_ok X G (c.fact 56 rfl))
  have h__law_by_rule : HasFn P w K mg base 2 "_law_by_rule" F__law_by_rule := by
    have h__law_levelled := h__law_levelled.mono (show 1 ≤ 1 by decide)
    exact def_has E__law_by_rule c__law_by_rule b__law_by_rule bi (by repeat' (first | exact trivial | assumption | apply And.intro)) (He.glo_ok X G (c.fact 57 rfl))
  have h__law_knots : HasFn P w K mg base 3 "_law_knots" F__law_knots := by
    have h__law_units := h__law_units.mono (show 2 ≤ 2 by decide)
    exact def_has E__law_knots c__law_knots b__law_knots bi (by repeat' (first | exact trivial | assumption | apply And.intro)) (He.glo_ok X G (c.fact 58 rfl))
  have h__law_bends : HasFn P w K mg base 1 "_law_bends" F__law_bends := by
    exact def_has E__law_bends c__law_bends b__law_bends bi (by repeat' (first | exact trivial | assumption | apply And.intro)) (He.glo_ok X G (c.fact 59 rfl))
  have h__law_right : HasFn P w K mg base 3 "_law_right" F__law_right := by
    have h__law_bends := h__law_bends.mono (show 1 ≤ 2 by decide)
    have h__law_by_rule := h__law_by_rule.mono (show 2 ≤ 2 by decide)
    exact def_has E__law_right c__law_right b__law_right bi (by repeat' (first | exact trivial | assumption | apply And.intro)) (He.glo_ok X G (c.fact 60 rfl))
  have h__law_claims := h__law_claims.mono (show 2 ≤ 10 by decide)
  have h__law_knots := h__law_knots.mono (show 3 ≤ 10 by decide)
  have h__law_ratio := h__law_ratio.mono (show 1 ≤ 10 by decide)
  have h__law_right := h__law_right.mono (show 3 ≤ 10 by decide)
  have h_path := h_path.mono (show 10 ≤ 10 by decide)
  have hf_path := h_path.fn
  exact def_ok E_law c_law bi (by repeat' (first | exact trivial | assumption | apply And.intro))
end
end K34
open PySem PySem.W PySem.Calls PyProof.Rows
theorem PySem.Challenge.cw_leanestate_k34_knots_of_a_path_holds : PySem.Challenge.rw_leanestate_k34_knots_of_a_path.Holds := by
  w_on; o_law
  refine HandSHeadRun.head_any (r := K34.R) (q := view K34.R.prog [62]) (H := K34.hk) (ob := K34.ob) (M := 4180) (loose := K34.names) (d := HandSHeadRun.topDef K34.R.prog 62) (kwd := []) K34.ob_eq
    (by kernel_rfl) (fun s => by kernel_rfl) K34.run_ok (by kernel_rfl) (by kernel_rfl) (by kernel_rfl) (by rfl) (by first | assumption | decide +kernel) (by decide +kernel) ⟨rfl, rfl, rfl, rfl, rfl, by decide +kernel⟩ ?hw ?hc
  case hw => w_witness2
  case hc =>
    refine Mn.walk_m (l := PySem.Challenge.rw_leanestate_k34_knots_of_a_path) (n := 63) (k := 11) (F := K34.F_law) rfl (by decide) (by kernel_rfl) ⟨rfl, by decide, by decide⟩ ?H K34.law_true
    intro w mg fa h Y G hmg
    obtain ⟨K, KX, c⟩ := Y
    have hmg : mg ("law" : PySem.Str) = some (.ref fa) := hmg
    obtain ⟨fd, E, hF⟩ := K34.all (P := (PySem.Challenge.rw_leanestate_k34_knots_of_a_path).prog) (w := w) KX G c
    have e := hmg.symm.trans (He.glo_ok KX G (c.t.d.fact 61 (f := .glo "law") rfl))
    cases e
    exact ⟨K, fd, "_law_script", KX, fun s u => L2.FunD.bindsA (ps := ["_law_script"]) E K34.b_law s [u] rfl, fun base _ _ => hF base⟩
