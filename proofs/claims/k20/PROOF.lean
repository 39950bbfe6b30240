import PyProof.Rows.All
import Wide.All
import OpenK.AllK
import Wide.FinOn
import HandS.ForMost
import HandS.ForExc
import HandS.StrMore
import HandS.Wide
import HandS.TupAny
import HandS.TupMul
import HandS.Deep
import HandS.Style
import HandS.IsInst
import PyProof.Rows.RuleB_pow
import KE.KExcIs
import KE.DatumOrd
import HandS.CallSlots
import HandS.Defaults
import HandS.Flow
import HandS.Comp
import HandS.Iter
import HandS.TryOnly
import KE.GoesZip
import KE.GoesEnumKw
import KE.KDictZip
import HandS.ReplaceDef
import HandS.ReplaceLit
import HandS.ExcInit
import HandS.ExcField
import HandS.ClsMeth
import HandS.RaiseMore
import HandS.Codes
import HandS.ExcIs
import PyProof.Rows.StrNext
import PyProof.Rows.StrBetween
import PyProof.StrLawsReplace
import PyProof.FitsInt
import PyProof.StrLawsRepr
import PyProof.ReprLen
import PySem.Challenge.RW_loomkeeps_k20_refusals_made
set_option Elab.async false
set_option linter.all false
section F_M1
set_option maxRecDepth 100000
namespace M
abbrev Tx := List Nat
def S (s : String) : Tx := s.toList.map Char.toNat
inductive Ty where
  | int | bool | str | list | tuple | dict | valueError
  deriving DecidableEq
def Ty.name : Ty → String
  | .int => "int" | .bool => "bool" | .str => "str" | .list => "list" | .tuple => "tuple" | .dict => "dict" | .valueError => "ValueError"
inductive Val where
  | none | bool (b : Bool) | int (i : Int) | str (s : Tx)
  | tup (vs : List Val) | lst (vs : List Val)
  | ref (a : Nat) | loc (i : Nat) | ty (n : Ty)
  | rol (vs : List Val)
  | exc (c : PySem.Str) (ns : List PySem.Str) (fs : List Val)
  | cls (c : PySem.Str) (subs nots : List PySem.Str)
  deriving Inhabited
inductive Obj where
  | lst (vs : List Val)
  | gone
inductive Slot where
  | none | val (v : Val) | own (o : Obj)
structure MS where
  sl : List Slot
  mu : List Obj
structure Exc where
  cls : PySem.Str
  ns : List PySem.Str
  fs : List Val
inductive Out (α : Type) where
  | ok (a : α) (s : MS) | exc (e : Exc) (s : MS) | bad
inductive OutF where
  | ok (v : Val) (mu : List Obj) | exc (e : Exc) (mu : List Obj) | bad
abbrev CallEnv := Nat → List Val → List Obj → OutF
def Out.bind {α β : Type} : Out α → (α → MS → Out β) → Out β
  | .ok a s, f => f a s
  | .exc e s, _ => .exc e s
  | .bad, _ => .bad
@[simp] theorem Out.bind_ok {α β : Type} (a : α) (s : MS) (f : α → MS → Out β) : (Out.ok a s).bind f = f a s := rfl
@[simp] theorem Out.bind_exc {α β : Type} (e : Exc) (s : MS) (f : α → MS → Out β) : (Out.exc e s).bind f = .exc e s := rfl
@[simp] theorem Out.bind_bad {α β : Type} (f : α → MS → Out β) : (Out.bad : Out α).bind f = .bad := rfl
def noexc {α : Type} : Out α → Out α
  | .exc _ _ => .bad
  | x => x
@[simp] theorem noexc_ok {α : Type} (a : α) (s : MS) : noexc (Out.ok a s) = .ok a s := rfl
@[simp] theorem noexc_bad {α : Type} : noexc (Out.bad : Out α) = .bad := rfl
def lift {α : Type} (o : Option α) (s : MS) : Out α := match o with
  | some a => .ok a s
  | none => .bad
@[simp] theorem lift_some {α : Type} (a : α) (s : MS) : lift (some a) s = .ok a s := rfl
@[simp] theorem lift_none {α : Type} (s : MS) : lift (Option.none : Option α) s = .bad := rfl
inductive BOp where
  | add | sub | mul | fdiv | mod | pow | band | bor | shl | shr
  deriving DecidableEq
inductive COp where
  | eq | ne | lt | le | gt | ge | is_ | isNot | in_ | notIn
  deriving DecidableEq
inductive BF where
  | len | isinstance | max2 | min2 | int_ | str_ | list_ | tuple_ | all_ | any_ | abs_ | sum_ | bool_ | divmod | repr_
  deriving DecidableEq
inductive MF where
  | strip | join | count | find
  deriving DecidableEq
inductive T where
  | nm (i : Nat)
  | tup (ts : List T)
mutual
inductive E where
  | var (i : Nat)
  | frz (i : Nat)
  | cst (v : Val)
  | glob (k : Nat)
  | tup (es : Es)
  | lst (es : Es)
  | bin (op : BOp) (a b : E)
  | neg (a : E)
  | cmp (op : COp) (a b : E)
  | cmp2 (op op2 : COp) (a b c : E)
  | not_ (a : E)
  | and_ (a : E) (b : E)
  | or_ (a : E) (b : E)
  | ife (c a b : E)
  | ix (a i : E)
  | slice (a : E) (lo hi : Option E)
  | call (f : Nat) (es : Es)
  | callD (f : Nat) (es : Es) (d : Int)
  | callK (f : Nat) (es : Es) (n : PySem.Str) (ks : Es)
  | bcall (f : BF) (es : Es)
  | meth (m : MF) (o : E) (es : Es)
  | repl (o : E) (y z : Tx)
  | fld (o : E) (n : PySem.Str)
  | shl (es : Es)
  | shc (elt : E) (tg : T) (it : I) (ifs : Es) (own : List Nat)
  | pop (o : E) (es : Es)
  | app (o : E) (es : Es)
  | lc (elt : E) (tg : T) (it : I) (ifs : Es) (own : List Nat)
inductive Es where
  | nil | cons (e : E) (es : Es)
inductive I where
  | e (x : E) | range (es : Es) | enum (x : E) | zip (a b : E) | rev (x : E) | ez (es : Es) (st : Bool)
end
inductive RK where
  | r0 (c : PySem.Str)
  | rE (c : PySem.Str) (e : E)
  | rI (c : PySem.Str) (ns : List PySem.Str) (es : Es)
  | rK (c : PySem.Str) (ns ks : List PySem.Str) (is : List Nat) (es : Es)
mutual
inductive St where
  | asg (t : T) (e : E)
  | own (i : Nat) (e : E)
  | par (i j : Nat) (a b : E)
  | aug (i : Nat) (op : BOp) (e : E)
  | if_ (c : E) (a b : Sts)
  | while_ (c : E) (b : Sts)
  | for_ (t : T) (it : I) (b : Sts)
  | ret (e : E)
  | retN
  | expr (e : E)
  | pass_ | brk | cont | never
  | setIx (o i e : E)
  | raise_ (c : PySem.Str)
  | rz (k : RK)
  | tryAs (b : Sts) (k i j : Nat)
inductive Sts where
  | nil | cons (s : St) (ss : Sts)
end
mutual
def veq : Val → Val → Bool
  | .none, .none => true
  | .bool a, .bool b => a == b
  | .int a, .int b => a == b
  | .bool a, .int b => (if a then 1 else 0) == b
  | .int a, .bool b => a == (if b then 1 else 0)
  | .str a, .str b => a == b
  | .tup a, .tup b => veqs a b
  | .lst a, .lst b => veqs a b
  | _, _ => false
def veqs : List Val → List Val → Bool
  | [], [] => true
  | a :: as, b :: bs => veq a b && veqs as bs
  | _, _ => false
end
mutual
def isData : Nat → Val → Bool
  | _, .none => true
  | _, .bool _ => true
  | _, .int _ => true
  | _, .str _ => true
  | n + 1, .tup vs => isDatas n vs
  | n + 1, .lst vs => isDatas n vs
  | _, _ => false
def isDatas : Nat → List Val → Bool
  | _, [] => true
  | n, v :: vs => isData n v && isDatas n vs
end
def MS.get (s : MS) : Val → Option Obj
  | .loc i => match s.sl[i]? with
    | some (.own o) => some o
    | _ => none
  | .ref a => s.mu[a]?
  | _ => none
def MS.put (s : MS) (o : Obj) : Val → Option MS
  | .loc i => match s.sl[i]? with
    | some (.own _) => some { s with sl := s.sl.set i (.own o) }
    | _ => none
  | .ref a => if a < s.mu.length then some { s with mu := s.mu.set a o } else none
  | _ => none
def MS.rd (s : MS) (v : Val) : Option Val := match v with
  | .loc i => match s.sl[i]? with
    | some (.own (.lst vs)) => some (.lst vs)
    | _ => none
  | .ref a => match s.mu[a]? with
    | some (.lst vs) => some (.lst vs)
    | _ => none
  | _ => some v
def keep : Val → Option Val
  | .loc _ => none
  | v => some v
def line : Nat := 16777216
def bits (i : Int) : Nat := i.natAbs.log2
def opB : BOp → Val → Val → Option Val
  | .add, .int a, .int b => some (.int (a + b))
  | .add, .str a, .str b => if a.length + b.length ≤ line then some (.str (a ++ b)) else none
  | .add, .lst a, .lst b => if a.length + b.length ≤ line then some (.lst (a ++ b)) else none
  | .add, .tup a, .tup b => if a.length + b.length ≤ line then some (.tup (a ++ b)) else none
  | .sub, .int a, .int b => some (.int (a - b))
  | .mul, .int a, .int b => if bits a + bits b < 1000000 then some (.int (a * b)) else none
  | .mul, .str a, .int k => if a.length * k.toNat ≤ line ∧ -(2 ^ 62) ≤ k ∧ k < 2 ^ 62 then some (.str (List.replicate k.toNat a).flatten) else none
  | .mul, .lst a, .int k => if a.length * k.toNat ≤ line ∧ -(2 ^ 62) ≤ k ∧ k < 2 ^ 62 then some (.lst (List.replicate k.toNat a).flatten) else none
  | .fdiv, .int a, .int b => if 0 < b ∧ bits b < 9000 then some (.int (a / b)) else none
  | .mod, .int a, .int b => if 0 < b then some (.int (a % b)) else none
  | .pow, .int a, .int b => if 0 ≤ b ∧ (bits a + 1) * b.toNat ≤ 1000000 then some (.int (a ^ b.toNat)) else none
  | .band, .int a, .int b => some (.int (PySem.Builtin.bitAnd a b))
  | _, _, _ => none
def opA : BOp → Val → Val → Option Val
  | .add, .int a, .int b => some (.int (a + b))
  | .add, .str a, .str b => if a.length + b.length ≤ line then some (.str (a ++ b)) else none
  | .sub, .int a, .int b => some (.int (a - b))
  | _, _, _ => none
def flat : Val → Bool
  | .none => true | .bool _ => true | .int _ => true | .str _ => true | _ => false
def sameV : Val → Val → Option Bool
  | .none, .none => some true
  | .bool _, .none => some false
  | .int _, .none => some false
  | .str _, .none => some false
  | .tup _, .none => some false
  | .lst _, .none => some false
  | .ref _, .none => some false
  | .bool a, .bool b => some (a == b)
  | _, _ => none
def opC : COp → Val → Val → Option Bool
  | .lt, .int a, .int b => some (decide (a < b))
  | .le, .int a, .int b => some (decide (a ≤ b))
  | .gt, .int a, .int b => some (decide (b < a))
  | .ge, .int a, .int b => some (decide (b ≤ a))
  | .is_, a, b => sameV a b
  | .isNot, a, b => (sameV a b).map (!·)
  | .in_, .str [c], .str b => some (b.contains c)
  | .notIn, .str [c], .str b => some (!b.contains c)
  | .in_, a, .lst b => if isData 16 a && isDatas 16 b then some (b.any (veq · a)) else none
  | .notIn, a, .lst b => if isData 16 a && isDatas 16 b then some (!b.any (veq · a)) else none
  | .in_, a, .tup b => if flat a && b.all flat then some (b.any (veq · a)) else none
  | .notIn, a, .tup b => if flat a && b.all flat then some (!b.any (veq · a)) else none
  | .eq, a, b => if isData 16 a && isData 16 b then some (veq a b) else none
  | .ne, a, b => if isData 16 a && isData 16 b then some (!veq a b) else none
  | _, _, _ => none
def tru : Val → Option Bool
  | .none => some false
  | .bool b => some b
  | .int i => some (i != 0)
  | .str s => if s.length ≤ line then some (!s.isEmpty) else none
  | .tup vs => some (!vs.isEmpty)
  | .lst vs => some (!vs.isEmpty)
  | _ => none
abbrev atI {α : Type} (xs : List α) (i : Int) : Option α := L2.atI xs i
abbrev ixN (n : Nat) (i : Int) : Option Nat := L2.ixN n i
def opIx : Val → Val → Option Val
  | .lst vs, .int i => atI vs i
  | .rol vs, .int i => atI vs i
  | .tup vs, .int i => atI vs i
  | .str s, .int i => if s.length ≤ line then (atI s i).map fun c => .str [c] else none
  | _, _ => none
abbrev sIx (n d : Nat) (o : Option Int) : Nat := HT.sIx n d o
def cut {α : Type} (xs : List α) (lo hi : Option Int) : List α := (xs.drop (sIx xs.length 0 lo)).take (sIx xs.length xs.length hi - sIx xs.length 0 lo)
def opSl : Val → Option Int → Option Int → Option Val
  | .lst vs, lo, hi => some (.lst (cut vs lo hi))
  | .rol vs, lo, hi => some (.lst (cut vs lo hi))
  | .tup vs, lo, hi => some (.tup (cut vs lo hi))
  | .str s, lo, hi => if s.length ≤ line then some (.str (cut s lo hi)) else none
  | _, _, _ => none
def isInst : Val → Ty → Option Bool
  | .none, _ => some false
  | .bool _, t => some (t == .bool || t == .int)
  | .int _, t => some (t == .int)
  | .str _, t => some (t == .str)
  | .tup _, t => some (t == .tuple)
  | .lst _, t => some (t == .list)
  | .exc _ _ _, t => if t == .valueError then some true else none
  | _, _ => none
def isInstC : Val → List PySem.Str → List PySem.Str → Option Bool
  | .exc c _ _, subs, nots => if subs.contains c then some true else if nots.contains c then some false else none
  | .none, _, _ => some false
  | .bool _, _, _ => some false
  | .int _, _, _ => some false
  | .str _, _, _ => some false
  | .tup _, _, _ => some false
  | .lst _, _, _ => some false
  | _, _, _ => none
def boolsOf : List Val → Option (List Bool)
  | [] => some []
  | .bool b :: vs => (boolsOf vs).map (b :: ·)
  | _ => none
mutual
def toPD : Val → PySem.PyData
  | .none => .none
  | .bool b => .bool b
  | .int i => .int i
  | .str s => .str ⟨s.toArray⟩
  | .tup vs => .tuple (toPDs vs)
  | .lst vs => .list (toPDs vs)
  | _ => .none
def toPDs : List Val → List PySem.PyData
  | [] => []
  | v :: vs => toPD v :: toPDs vs
end
def textV (v : Val) : Option Val :=
  if isData 16 v = true ∧ (toPD v).showable = true ∧ (toPD v).shown.length ≤ line ∧ (toPD v).shown.cps.toList.all (· < 1114112) = true then some (.str (toPD v).shown.cps.toList) else none
def strV : Val → Option Val
  | .str s => some (.str s)
  | v => textV v
def opF : BF → List Val → Option Val
  | .len, [.str s] => if s.length ≤ line then some (.int s.length) else none
  | .len, [.lst vs] => some (.int vs.length)
  | .len, [.rol vs] => some (.int vs.length)
  | .len, [.tup vs] => some (.int vs.length)
  | .isinstance, [v, .ty c] => (isInst v c).map .bool
  | .isinstance, [v, .cls _ subs nots] => (isInstC v subs nots).map .bool
  | .max2, [.int a, .int b] => some (.int (if b > a then b else a))
  | .max2, [.tup [.int a, .int b]] => some (.int (if b > a then b else a))
  | .divmod, [.int a, .int b] => if 0 < b ∧ b < 1073741824 then some (.tup [.int (a / b), .int (a % b)]) else none
  | .min2, [.int a, .int b] => some (.int (if b < a then b else a))
  | .list_, [.lst vs] => some (.lst vs)
  | .list_, [.tup vs] => some (.lst vs)
  | .tuple_, [.lst vs] => some (.tup vs)
  | .tuple_, [.tup vs] => some (.tup vs)
  | .abs_, [.int a] => some (.int (if a < 0 then -a else a))
  | .int_, [.int a] => some (.int a)
  | .all_, [.lst vs] => (boolsOf vs).map fun bs => .bool (bs.all id)
  | .any_, [.lst vs] => (boolsOf vs).map fun bs => .bool (bs.any id)
  | .int_, [.bool b] => some (.int (if b then 1 else 0))
  | .int_, [.str [c]] => if 48 ≤ c ∧ c < 58 then some (.int ((c : Int) - 48)) else none
  | .repr_, [v] => textV v
  | .str_, [v] => strV v
  | _, _ => none
def stripL (cs s : Tx) : Tx := (((s.dropWhile (cs.contains ·)).reverse).dropWhile (cs.contains ·)).reverse
def joinL (sep : Tx) : List Tx → Tx
  | [] => []
  | [x] => x
  | x :: xs => x ++ sep ++ joinL sep xs
def strsOf : List Val → Option (List Tx)
  | [] => some []
  | .str s :: vs => (strsOf vs).map (s :: ·)
  | _ => none
def opM : MF → Val → List Val → Option Val
  | .strip, .str s, [.str cs] => if s.length ≤ line then some (.str (stripL cs s)) else none
  | .join, .str sep, [.lst vs] => (strsOf vs).bind fun xs => if (xs.map (·.length)).sum + xs.length * sep.length ≤ line then some (.str (joinL sep xs)) else none
  | .join, .str sep, [.tup vs] => (strsOf vs).bind fun xs => if (xs.map (·.length)).sum + xs.length * sep.length ≤ line then some (.str (joinL sep xs)) else none
  | .count, .str s, [.str b] => some (.int (PySem.Txt.count ⟨s.toArray⟩ ⟨b.toArray⟩))
  | .find, .str s, [.str b] => some (.int (PySem.Txt.find ⟨s.toArray⟩ ⟨b.toArray⟩))
  | .find, .str s, [.str b, .int i] => some (.int (PySem.Txt.find3 ⟨s.toArray⟩ ⟨b.toArray⟩ i))
  | _, _, _ => none
def popped (xs : List Val) : List Val → Option (Val × List Val)
  | [] => xs.getLast?.map fun y => (y, xs.dropLast)
  | [.int i] => if -(2 ^ 62) ≤ i ∧ i < 2 ^ 62 then (ixN xs.length i).bind fun j => xs[j]?.map fun y => (y, xs.eraseIdx j) else none
  | _ => none
structure Src where
  items : List Val
  deps : List (Nat × List Val)
def srcOk (src : Src) (mu : List Obj) : Prop := ∀ d ∈ src.deps, mu[d.1]? = some (.lst d.2)
def srcOf (s : MS) (v : Val) : Option Src := match v with
  | .str t => if t.length ≤ line then some ⟨t.map fun c => .str [c], []⟩ else none
  | .tup vs => some ⟨vs, []⟩
  | .lst vs => some ⟨vs, []⟩
  | .rol vs => some ⟨vs, []⟩
  | .ref a => match s.mu[a]? with
    | some (.lst vs) => some ⟨vs, [(a, vs)]⟩
    | _ => none
  | _ => none
def upTo (lo : Int) : Nat → List Val
  | 0 => []
  | n + 1 => .int lo :: upTo (lo + 1) n
def lo62 (i : Int) : Bool := decide (-(2 ^ 62) ≤ i ∧ i < 2 ^ 62)
def opRange : List Val → Option Src
  | [.int j] => if lo62 j then some ⟨upTo 0 j.toNat, []⟩ else none
  | [.int i, .int j] => if lo62 i && lo62 j then some ⟨upTo i (j - i).toNat, []⟩ else none
  | _ => none
def enumV (k : Int) : List Val → List Val
  | [] => []
  | v :: vs => .tup [.int k, v] :: enumV (k + 1) vs
def zipV : List Val → List Val → List Val
  | v :: vs, w :: ws => .tup [v, w] :: zipV vs ws
  | _, _ => []
def ezSrc : List Val → Option Src
  | [.str t, .str u] => if t.length = u.length ∧ t.length ≤ line then some ⟨enumV 0 (zipV (t.map fun c => .str [c]) (u.map fun c => .str [c])), []⟩ else none
  | _ => none
def fldV : Val → PySem.Str → Option Val
  | .exc _ ns fs, n => (ns.zip fs).lookup n
  | _, _ => none
def replV (t y z : Tx) : Option Val := if t.length + (t.length + 1) * z.length ≤ 16777216 ∧ (PySem.Txt.replace ⟨t.toArray⟩ ⟨y.toArray⟩ ⟨z.toArray⟩).cps.toList.all (· < 1114112) = true then some (.str (PySem.Txt.replace ⟨t.toArray⟩ ⟨y.toArray⟩ ⟨z.toArray⟩).cps.toList) else none
mutual
def store : T → Val → MS → Option MS
  | .nm i, v, s => if i < s.sl.length then some { s with sl := s.sl.set i (.val v) } else none
  | .tup ts, v, s => match s.rd v with
    | some (.tup vs) => stores ts vs s
    | some (.lst vs) => stores ts vs s
    | _ => none
def stores : List T → List Val → MS → Option MS
  | [], [], s => some s
  | t :: ts, v :: vs, s => (store t v s).bind (stores ts vs)
  | _, _, _ => none
end
def wipeS : List Nat → MS → MS
  | [], s => s
  | i :: is, s => let s' := wipeS is s; { s' with sl := s'.sl.set i .none }
def restoreS (old : List Slot) : List Nat → MS → MS
  | [], s => s
  | i :: is, s => let s' := restoreS old is s; { s' with sl := match old[i]? with | some x => s'.sl.set i x | none => s'.sl }
open Classical in
noncomputable def lcL (src : Src) (own : List Nat) (f : Val → MS → Out (Option Val)) : List Val → List Val → MS → Out (List Val)
  | acc, [], s => if srcOk src s.mu then .ok acc s else .bad
  | acc, v :: vs, s => if srcOk src s.mu ∧ acc.length < line then (f v (wipeS own s)).bind fun o s => lcL src own f (match o with | some x => acc ++ [x] | none => acc) vs s else .bad
def testAll (f : E → MS → Out Bool) : Es → MS → Out Bool
  | .nil, s => .ok true s
  | .cons e es, s => (f e s).bind fun b s => if b then testAll f es s else .ok false s
mutual
noncomputable def ev (G : List Val) (C : CallEnv) : E → MS → Out Val
  | .var i, s => match s.sl[i]? with
    | some (.val v) => .ok v s
    | some (.own _) => .ok (.loc i) s
    | _ => .bad
  | .frz i, s => match s.sl[i]? with
    | some (.val v) => .ok v s
    | some (.own (.lst vs)) => .ok (.lst vs) { s with sl := s.sl.set i (.val (.lst vs)) }
    | _ => .bad
  | .cst v, s => .ok v s
  | .glob k, s => lift G[k]? s
  | .tup es, s => (evs G C es s).bind fun vs s => if vs.length ≤ line then .ok (.tup vs) s else .bad
  | .lst es, s => (evs G C es s).bind fun vs s => if vs.length ≤ line then .ok (.lst vs) s else .bad
  | .bin op a b, s => (ev G C a s).bind fun x s => (ev G C b s).bind fun y s => lift ((s.rd x).bind fun x => (s.rd y).bind fun y => opB op x y) s
  | .neg a, s => (ev G C a s).bind fun x s => match x with
    | .int i => .ok (.int (-i)) s
    | _ => .bad
  | .cmp op a b, s => (ev G C a s).bind fun x s => (ev G C b s).bind fun y s => lift (((s.rd x).bind fun x => (s.rd y).bind fun y => opC op x y).map .bool) s
  | .cmp2 op op2 a b c, s => (ev G C a s).bind fun x s => (ev G C b s).bind fun y s => match (s.rd x).bind fun x => (s.rd y).bind fun y => opC op x y with
    | some true => (ev G C c s).bind fun z s => lift (((s.rd y).bind fun y => (s.rd z).bind fun z => opC op2 y z).map .bool) s
    | some false => .ok (.bool false) s
    | none => .bad
  | .not_ a, s => (ev G C a s).bind fun x s => lift (((s.rd x).bind tru).map fun b => .bool (!b)) s
  | .and_ a b, s => (ev G C a s).bind fun x s => match (s.rd x).bind tru with
    | some true => ev G C b s
    | some false => .ok x s
    | none => .bad
  | .or_ a b, s => (ev G C a s).bind fun x s => match (s.rd x).bind tru with
    | some true => .ok x s
    | some false => ev G C b s
    | none => .bad
  | .ife c a b, s => (ev G C c s).bind fun x s => match (s.rd x).bind tru with
    | some true => ev G C a s
    | some false => ev G C b s
    | none => .bad
  | .ix a i, s => (ev G C a s).bind fun x s => (ev G C i s).bind fun y s => lift ((s.rd x).bind fun x => opIx x y) s
  | .slice a lo hi, s => (ev G C a s).bind fun x s => (evO G C lo s).bind fun l s => (evO G C hi s).bind fun h s => lift ((s.rd x).bind fun x => opSl x l h) s
  | .call f es, s => (evs G C es s).bind fun vs s => match C f vs s.mu with
    | .ok v mu => .ok v { s with mu := mu }
    | .exc e mu => .exc e { s with mu := mu }
    | .bad => .bad
  | .callD f es d, s => (evs G C es s).bind fun vs s => match C f (vs ++ [.int d]) s.mu with
    | .ok v mu => .ok v { s with mu := mu }
    | .exc e mu => .exc e { s with mu := mu }
    | .bad => .bad
  | .callK f es _ ks, s => (evs G C es s).bind fun vs s => (evs G C ks s).bind fun ws s => match C f (vs ++ ws) s.mu with
    | .ok v mu => .ok v { s with mu := mu }
    | .exc e mu => .exc e { s with mu := mu }
    | .bad => .bad
  | .bcall f es, s => (evh G C es s).bind fun vs s => lift ((vs.mapM s.rd).bind (opF f)) s
  | .meth m o es, s => (ev G C o s).bind fun x s => match x with
    | .str t => (evh G C es s).bind fun vs s => lift ((vs.mapM s.rd).bind (opM m (.str t))) s
    | _ => .bad
  | .shl es, s => (evs G C es s).bind fun vs s => if vs.length ≤ line then .ok (.ref s.mu.length) { s with mu := s.mu ++ [.lst vs] } else .bad
  | .shc elt tg it ifs own, s => (evI G C it s).bind fun src s1 =>
      (noexc (lcL src own (fun v s => match store tg v s with
        | some s => (evt G C ifs s).bind fun b s => if b then (ev G C elt s).bind fun x s => lift ((keep x).map some) s else .ok none s
        | none => .bad) [] src.items s1)).bind fun acc s2 => .ok (.ref (restoreS s1.sl own s2).mu.length) { restoreS s1.sl own s2 with mu := (restoreS s1.sl own s2).mu ++ [.lst acc] }
  | .fld o n, s => (ev G C o s).bind fun x s => lift (fldV x n) s
  | .repl o y z, s => (ev G C o s).bind fun x s => match x with
    | .str t => lift (replV t y z) s
    | _ => .bad
  | .pop o es, s => (ev G C o s).bind fun x s => match s.get x with
    | some (.lst _) => (evs G C es s).bind fun vs s => match s.get x with
      | some (.lst xs) => match popped xs vs with
        | some (y, ws) => (lift (s.put (.lst ws) x) s).bind fun s' _ => .ok y s'
        | none => .bad
      | _ => .bad
    | _ => .bad
  | .app o es, s => (ev G C o s).bind fun x s => match s.get x with
    | some (.lst _) => (evs G C es s).bind fun vs s => match s.get x, vs with
      | some (.lst xs), [y] => if xs.length < line then (lift (s.put (.lst (xs ++ [y])) x) s).bind fun s' _ => .ok .none s' else .bad
      | _, _ => .bad
    | _ => .bad
  | .lc elt tg it ifs own, s => (evI G C it s).bind fun src s1 =>
      (noexc (lcL src own (fun v s => match store tg v s with
        | some s => (evt G C ifs s).bind fun b s => if b then (ev G C elt s).bind fun x s => lift ((keep x).map some) s else .ok none s
        | none => .bad) [] src.items s1)).bind fun acc s2 => .ok (.lst acc) (restoreS s1.sl own s2)
noncomputable def evs (G : List Val) (C : CallEnv) : Es → MS → Out (List Val)
  | .nil, s => .ok [] s
  | .cons e es, s => (ev G C e s).bind fun x s => match keep x with
    | some x => (evs G C es s).bind fun xs s => .ok (x :: xs) s
    | none => .bad
noncomputable def evh (G : List Val) (C : CallEnv) : Es → MS → Out (List Val)
  | .nil, s => .ok [] s
  | .cons e es, s => (ev G C e s).bind fun x s => (evh G C es s).bind fun xs s => .ok (x :: xs) s
noncomputable def evt (G : List Val) (C : CallEnv) : Es → MS → Out Bool
  | .nil, s => .ok true s
  | .cons e es, s => (ev G C e s).bind fun x s => match (s.rd x).bind tru with
    | some true => evt G C es s
    | some false => .ok false s
    | none => .bad
noncomputable def evO (G : List Val) (C : CallEnv) : Option E → MS → Out (Option Int)
  | none, s => .ok none s
  | some e, s => (ev G C e s).bind fun x s => match x with
    | .int i => .ok (some i) s
    | _ => .bad
noncomputable def evI (G : List Val) (C : CallEnv) : I → MS → Out Src
  | .e x, s => (ev G C x s).bind fun v s => lift (srcOf s v) s
  | .range es, s => (evs G C es s).bind fun vs s => lift (opRange vs) s
  | .enum x, s => (ev G C x s).bind fun v s => lift ((srcOf s v).map fun src => ⟨enumV 0 src.items, src.deps⟩) s
  | .zip a b, s => (ev G C a s).bind fun x s => (ev G C b s).bind fun y s => lift ((srcOf s x).bind fun p => (srcOf s y).map fun q => ⟨zipV p.items q.items, p.deps ++ q.deps⟩) s
  | .rev x, s => .bad
  | .ez es _, s => (evs G C es s).bind fun vs s => lift (ezSrc vs) s
end
def pick {α : Type} (is : List Nat) (l : List α) : List α := is.filterMap fun i => l[i]?
inductive Fl where
  | next (s : MS) | brk (s : MS) | cont (s : MS) | ret (v : Val) (s : MS) | exc (e : Exc) (s : MS) | bad
def Out.fl {α : Type} : Out α → (α → MS → Fl) → Fl
  | .ok a s, f => f a s
  | .exc e s, _ => .exc e s
  | .bad, _ => .bad
@[simp] theorem Out.fl_ok {α : Type} (a : α) (s : MS) (f : α → MS → Fl) : (Out.ok a s).fl f = f a s := rfl
@[simp] theorem Out.fl_exc {α : Type} (e : Exc) (s : MS) (f : α → MS → Fl) : (Out.exc e s).fl f = .exc e s := rfl
@[simp] theorem Out.fl_bad {α : Type} (f : α → MS → Fl) : (Out.bad : Out α).fl f = .bad := rfl
def Fl.seq : Fl → (MS → Fl) → Fl
  | .next s, f => f s
  | x, _ => x
@[simp] theorem Fl.seq_next (s : MS) (f : MS → Fl) : (Fl.next s).seq f = f s := rfl
@[simp] theorem Fl.seq_brk (s : MS) (f : MS → Fl) : (Fl.brk s).seq f = .brk s := rfl
@[simp] theorem Fl.seq_cont (s : MS) (f : MS → Fl) : (Fl.cont s).seq f = .cont s := rfl
@[simp] theorem Fl.seq_ret (v : Val) (s : MS) (f : MS → Fl) : (Fl.ret v s).seq f = .ret v s := rfl
@[simp] theorem Fl.seq_exc (e : Exc) (s : MS) (f : MS → Fl) : (Fl.exc e s).seq f = .exc e s := rfl
@[simp] theorem Fl.seq_bad (f : MS → Fl) : Fl.bad.seq f = .bad := rfl
def Fl.loop : Fl → (MS → Fl) → Fl
  | .next s, f => f s
  | .cont s, f => f s
  | .brk s, _ => .next s
  | .ret v s, _ => .ret v s
  | .exc e s, _ => .exc e s
  | .bad, _ => .bad
@[simp] theorem Fl.loop_next (s : MS) (f : MS → Fl) : (Fl.next s).loop f = f s := rfl
@[simp] theorem Fl.loop_cont (s : MS) (f : MS → Fl) : (Fl.cont s).loop f = f s := rfl
@[simp] theorem Fl.loop_brk (s : MS) (f : MS → Fl) : (Fl.brk s).loop f = .next s := rfl
@[simp] theorem Fl.loop_ret (v : Val) (s : MS) (f : MS → Fl) : (Fl.ret v s).loop f = .ret v s := rfl
@[simp] theorem Fl.loop_exc (e : Exc) (s : MS) (f : MS → Fl) : (Fl.exc e s).loop f = .exc e s := rfl
@[simp] theorem Fl.loop_bad (f : MS → Fl) : Fl.bad.loop f = .bad := rfl
open Classical in
noncomputable def forL (src : Src) (t : T) (body : MS → Fl) : List Val → MS → Fl
  | [], s => if srcOk src s.mu then .next s else .bad
  | v :: vs, s => if srcOk src s.mu then (match store t v s with
    | some s => (body s).loop (forL src t body vs)
    | none => .bad) else .bad
def whileN (c : MS → Out Bool) (body : MS → Fl) : Nat → MS → Fl
  | 0, _ => .bad
  | n + 1, s => (c s).fl fun b s => if b then (body s).loop (whileN c body n) else .next s
open Classical in
noncomputable def whileL (c : MS → Out Bool) (body : MS → Fl) (s : MS) : Fl :=
  if h : ∃ n, whileN c body n s ≠ .bad then whileN c body (choose h) s else .bad
def tryAs (subs nots : List PySem.Str) (i j : Nat) : Fl → Fl
  | .exc e s1 => if subs.contains e.cls then (if i < s1.sl.length ∧ j < s1.sl.length then .next { s1 with sl := ((s1.sl.set i (.val (.exc e.cls e.ns e.fs))).set j (.val (.exc e.cls e.ns e.fs))).set i .none } else .bad) else if nots.contains e.cls then .exc e s1 else .bad
  | x => x
noncomputable def test (G : List Val) (C : CallEnv) (e : E) (s : MS) : Out Bool := (ev G C e s).bind fun x s => lift ((s.rd x).bind tru) s
noncomputable def exR (G : List Val) (C : CallEnv) : RK → MS → Fl
  | .r0 c, s => .exc ⟨c, [], []⟩ s
  | .rE c e, s => (ev G C e s).fl fun _ s => .exc ⟨c, [], []⟩ s
  | .rI c ns es, s => (evs G C es s).fl fun vs s => if vs.length = ns.length then .exc ⟨c, ns, vs⟩ s else .bad
  | .rK c ns ks is es, s => (evs G C es s).fl fun vs s => if vs.length = ks.length ∧ (pick is vs).length = ns.length then .exc ⟨c, ns, pick is vs⟩ s else .bad
mutual
noncomputable def ex (G : List Val) (C : CallEnv) : St → MS → Fl
  | .asg t e, s => (ev G C e s).fl fun x s => match keep x with
    | some x => match store t x s with
      | some s => .next s
      | none => .bad
    | none => .bad
  | .own i e, s => (ev G C e s).fl fun x s => match x with
    | .lst vs => if i < s.sl.length then .next { s with sl := s.sl.set i (.own (.lst vs)) } else .bad
    | _ => .bad
  | .par i j a b, s => (evs G C (.cons a (.cons b .nil)) s).fl fun vs s => match vs with
    | [x, y] => if i < s.sl.length ∧ j < s.sl.length then .next { s with sl := (s.sl.set i (.val x)).set j (.val y) } else .bad
    | _ => .bad
  | .aug i op e, s => match s.sl[i]? with
    | some (.val x) => (ev G C e s).fl fun y s => match opA op x y with
      | some z => if i < s.sl.length then .next { s with sl := s.sl.set i (.val z) } else .bad
      | none => .bad
    | _ => .bad
  | .if_ c a b, s => (test G C c s).fl fun x s => if x then exs G C a s else exs G C b s
  | .while_ c b, s => whileL (test G C c) (exs G C b) s
  | .for_ t it b, s => (evI G C it s).fl fun src s => forL src t (exs G C b) src.items s
  | .ret e, s => (ev G C e s).fl fun x s => match keep x with
    | some x => .ret x s
    | none => .bad
  | .retN, s => .ret .none s
  | .expr e, s => (ev G C e s).fl fun _ s => .next s
  | .pass_, s => .next s
  | .brk, s => .brk s
  | .cont, s => .cont s
  | .never, s => .bad
  | .raise_ c, s => .exc ⟨c, [], []⟩ s
  | .rz k, s => exR G C k s
  | .tryAs b k i j, s => match G[k]? with
    | some (.cls _ subs nots) => tryAs subs nots i j (exs G C b s)
    | _ => .bad
  | .setIx o i e, s => (ev G C e s).fl fun z s => match keep z with
    | some z => (ev G C o s).fl fun x s => (ev G C i s).fl fun y s => match s.get x, y with
      | some (.lst xs), .int k => match ixN xs.length k with
        | some j => match s.put (.lst (xs.set j z)) x with
          | some s => .next s
          | none => .bad
        | none => .bad
      | _, _ => .bad
    | none => .bad
noncomputable def exs (G : List Val) (C : CallEnv) : Sts → MS → Fl
  | .nil, s => .next s
  | .cons a b, s => (ex G C a s).seq (exs G C b)
end
structure FDef where
  name : PySem.Str
  params : List PySem.Str
  names : List PySem.Str
  body : Sts
  kwi : Option (PySem.Str × Int) := none
noncomputable def run (G : List Val) (F : List FDef) : Nat → CallEnv
  | 0, _, _, _ => .bad
  | n + 1, f, vs, mu => match F[f]? with
    | some d => if vs.length = d.params.length then (match exs G (run G F n) d.body ⟨vs.map .val ++ List.replicate (d.names.length - vs.length) .none, mu⟩ with
      | .ret v s => .ok v s.mu
      | .next s => .ok .none s.mu
      | .exc e s => .exc e s.mu
      | _ => .bad) else .bad
    | none => .bad
end M
end F_M1
section F_M2
set_option maxRecDepth 100000
namespace M
open PySem PySem.Spec PyProof.Rows L2
structure RI where
  io : List Addr
  fz : Addr → Prop
def KL (K : PySem.W.Frag) (a : Addr) (xs : List V) : Prop :=
  ∃ (o : PySem.Obj) (its : Array Value) (n : Nat), K.lookup a = some o ∧ o.cls = .type "list" ∧ o.dict = none ∧ o.data = .seq its n ∧ its.size ≤ sizeLine ∧ Vals xs its.toList
def LAt (K : PySem.W.Frag) (H : Hp) (r : RI) (p : Addr) (xs : List V) : Prop := (r.fz p ∧ Rd H p (.lst xs)) ∨ KL K p xs
theorem LAt.sq {K : PySem.W.Frag} {H : Hp} {r : RI} {p : Addr} {xs : List V} (h : LAt K H r p xs) : SqL K H p xs := by
  rcases h with ⟨_, h⟩ | h
  · exact .inl h
  · exact .inr h
def clA (K : PySem.W.Frag) (c : Str) : Addr := match PySem.W.nsIn K mainGlobals c with
  | some (some (.ref a)) => a
  | _ => 0
def ExH (cls : Value) (d : Option Addr) (a : Addr) : HO := .ext fun h => ∃ (oe : PySem.Obj) (vs : Array Value), h.get? a = some oe ∧ Zc cls d oe ∧ oe.data = .fields vs
structure EK (K : PySem.W.Frag) (C : Addr) : Prop where
  cl : (PySem.W.clsIn K C).isSome = true
  ga : PySem.W.findIn K (.ref C) "__getattribute__" = some (some (.builtin "BaseException.__getattribute__"))
  gg : PySem.W.findIn K (.ref C) "__getattr__" = some none
  sb : PySem.W.subIn K (.ref C) (.type "BaseException") = some true
  ca : PySem.W.findIn K (.ref C) "__class__" = some (some (.builtin "object.__class__"))
  cg : PySem.W.specialIn K (.builtin "object.__class__") "__get__" = some (some (.builtin "getset_descriptor.__get__"))
  tk : PySem.W.takesIn K (.builtin "object.__class__") = some true
  mo : PySem.W.mroIn K C (.type "object") = some true
  ve : PySem.W.kitOne K (.ref C) (.type "ValueError") = some true
structure CF (K : PySem.W.Frag) (c : Str) (subs nots : List Str) : Prop where
  yes : ∀ D ∈ subs, PySem.W.kitOne K (.ref (clA K D)) (.ref (clA K c)) = some true ∧ PySem.W.exmOne K (.ref (clA K D)) (.ref (clA K c)) = some true
  no : ∀ D ∈ nots, PySem.W.kitOne K (.ref (clA K D)) (.ref (clA K c)) = some false ∧ PySem.W.exmOne K (.ref (clA K D)) (.ref (clA K c)) = some false
  bt : ∀ t ∈ ["NoneType", "bool", "int", "str", "tuple", "list"], PySem.W.kitOne K (.type t) (.ref (clA K c)) = some false
def FC (K : PySem.W.Frag) (C : Addr) (ns : List Str) : Prop := PySem.W.hasDictIn K C = true ∧ ∀ n ∈ ns, PySem.W.findIn K (.ref C) n = some none
mutual
def VR (K : PySem.W.Frag) (H : Hp) (r : RI) : Val → V → Prop
  | .none, x => x = .non
  | .bool b, x => x = .bl b
  | .int i, x => x = .int i
  | .str s, x => x = .str ⟨s.toArray⟩ ∧ s.all (· < 1114112) = true
  | .tup vs, x => ∃ p xs, x = .ref p ∧ SqT K H p xs ∧ VRs K H r vs xs
  | .lst vs, x => ∃ p xs, x = .ref p ∧ (r.fz p ∧ H p = some (.lst xs)) ∧ VRs K H r vs xs
  | .rol vs, x => ∃ p xs, x = .ref p ∧ LAt K H r p xs ∧ VRs K H r vs xs
  | .ref a, x => ∃ p, x = .ref p ∧ r.io[a]? = some p
  | .loc _, _ => False
  | .ty n, x => x = .ty n.name
  | .exc c ns fs, x => ∃ a d, x = .ref a ∧ (r.fz a ∧ H a = some (ExH (.ref (clA K c)) d a)) ∧ EK K (clA K c) ∧ ((ns = [] ∧ fs = [] ∧ d = none) ∨ ∃ dd fl xs, d = some dd ∧ (r.fz dd ∧ H dd = some (.xd fl)) ∧ VRs K H r fs xs ∧ ns.map (fun n => fl.lookup n) = xs.map some ∧ FC K (clA K c) ns)
  | .cls c subs nots, x => x = .ref (clA K c) ∧ CF K c subs nots
def VRs (K : PySem.W.Frag) (H : Hp) (r : RI) : List Val → List V → Prop
  | [], xs => xs = []
  | v :: vs, xs => ∃ x ys, xs = x :: ys ∧ VR K H r v x ∧ VRs K H r vs ys
end
structure Gr (H : Hp) (r : RI) (H' : Hp) (r' : RI) : Prop where
  io : ∃ more, r'.io = r.io ++ more
  fz : ∀ p, r.fz p → r'.fz p
  at_ : ∀ p, r.fz p → H' p = H p
  tup : ∀ p xs, H p = some (.tup xs) → H' p = some (.tup xs)
  frz : ∀ p o u, H p = some (.frz o u) → H' p = some (.frz o u)
theorem Gr.refl {H : Hp} {r : RI} : Gr H r H r := ⟨⟨[], by simp⟩, fun _ h => h, fun _ _ => rfl, fun _ _ h => h, fun _ _ _ h => h⟩
theorem Gr.trans {H H1 H2 : Hp} {r r1 r2 : RI} (a : Gr H r H1 r1) (b : Gr H1 r1 H2 r2) : Gr H r H2 r2 := by
  obtain ⟨m, hm⟩ := a.io
  obtain ⟨m', hm'⟩ := b.io
  exact ⟨⟨m ++ m', by rw [hm', hm, List.append_assoc]⟩, fun p h => b.fz p (a.fz p h), fun p h => (b.at_ p (a.fz p h)).trans (a.at_ p h), fun p xs h => b.tup p xs (a.tup p xs h), fun p o u h => b.frz p o u (a.frz p o u h)⟩
section
variable {K : PySem.W.Frag} {H H' : Hp} {r r' : RI}
theorem Gr.sqT (g : Gr H r H' r') {p : Addr} {xs : List V} (h : SqT K H p xs) : SqT K H' p xs := by
  rcases h with (h | ⟨o, h⟩) | h
  · exact .inl (.inl (g.tup _ _ h))
  · exact .inl (.inr ⟨o, g.frz _ _ _ h⟩)
  · exact .inr h
theorem Gr.lat (g : Gr H r H' r') {p : Addr} {xs : List V} (h : LAt K H r p xs) : LAt K H' r' p xs := by
  rcases h with ⟨f, h⟩ | h
  · refine .inl ⟨g.fz _ f, ?_⟩
    have e := g.at_ p f
    rcases h with h | ⟨o, h⟩
    · exact .inl (e.trans h)
    · exact .inr ⟨o, e.trans h⟩
  · exact .inr h
theorem Gr.get (g : Gr H r H' r') {a : Nat} {p : Addr} (h : r.io[a]? = some p) : r'.io[a]? = some p := by
  obtain ⟨m, hm⟩ := g.io
  rw [hm, List.getElem?_append_left (List.getElem?_eq_some_iff.mp h).1]
  exact h
mutual
theorem VR.mono (g : Gr H r H' r') : ∀ (v : Val) (x : V), VR K H r v x → VR K H' r' v x
  | .none, _, h => h
  | .bool _, _, h => h
  | .int _, _, h => h
  | .str _, _, h => h
  | .tup vs, _, h => by
    obtain ⟨p, xs, e, h1, h2⟩ := h
    exact ⟨p, xs, e, g.sqT h1, VRs.mono g vs xs h2⟩
  | .lst vs, _, h => by
    obtain ⟨p, xs, e, ⟨f, h1⟩, h2⟩ := h
    exact ⟨p, xs, e, ⟨g.fz _ f, (g.at_ _ f).trans h1⟩, VRs.mono g vs xs h2⟩
  | .rol vs, _, h => by
    obtain ⟨p, xs, e, h1, h2⟩ := h
    exact ⟨p, xs, e, g.lat h1, VRs.mono g vs xs h2⟩
  | .ref _, _, h => by
    obtain ⟨p, e, h1⟩ := h
    exact ⟨p, e, g.get h1⟩
  | .loc _, _, h => h
  | .ty _, _, h => h
  | .exc _ ns fs, _, h => by
    obtain ⟨a, d, e, ⟨f, h1⟩, h2, h3⟩ := h
    refine ⟨a, d, e, ⟨g.fz _ f, (g.at_ _ f).trans h1⟩, h2, ?_⟩
    rcases h3 with h3 | ⟨dd, fl, xs, e2, ⟨f2, h4⟩, h5, h6⟩
    · exact .inl h3
    · exact .inr ⟨dd, fl, xs, e2, ⟨g.fz _ f2, (g.at_ _ f2).trans h4⟩, VRs.mono g fs xs h5, h6⟩
  | .cls _ _ _, _, h => h
theorem VRs.mono (g : Gr H r H' r') : ∀ (vs : List Val) (xs : List V), VRs K H r vs xs → VRs K H' r' vs xs
  | [], _, h => h
  | v :: vs, _, h => by
    obtain ⟨x, ys, e, h1, h2⟩ := h
    exact ⟨x, ys, e, VR.mono g v x h1, VRs.mono g vs ys h2⟩
end
def XD (K : PySem.W.Frag) (H : Hp) (r : RI) (C : Addr) (ns : List Str) (fs : List Val) (d : Option Addr) : Prop :=
  (ns = [] ∧ fs = [] ∧ d = none) ∨ ∃ dd fl xs, d = some dd ∧ (r.fz dd ∧ H dd = some (.xd fl)) ∧ VRs K H r fs xs ∧ ns.map (fun n => fl.lookup n) = xs.map some ∧ FC K C ns
theorem XD.mono (g : Gr H r H' r') {C : Addr} {ns : List Str} {fs : List Val} {d : Option Addr} (h : XD K H r C ns fs d) : XD K H' r' C ns fs d := by
  rcases h with h3 | ⟨dd, fl, xs, e2, ⟨f2, h4⟩, h5, h6⟩
  · exact .inl h3
  · exact .inr ⟨dd, fl, xs, e2, ⟨g.fz _ f2, (g.at_ _ f2).trans h4⟩, VRs.mono g fs xs h5, h6⟩
theorem VRs.len : ∀ {vs : List Val} {xs : List V}, VRs K H r vs xs → vs.length = xs.length
  | [], _, h => by rw [show _ = [] from h]; rfl
  | v :: vs, _, h => by
    obtain ⟨x, ys, e, _, h2⟩ := h
    rw [e, List.length_cons, List.length_cons, VRs.len h2]
theorem VRs.get : ∀ {vs : List Val} {xs : List V} {i : Nat} {v : Val}, VRs K H r vs xs → vs[i]? = some v → ∃ x, xs[i]? = some x ∧ VR K H r v x
  | v :: vs, _, 0, w, h, e => by
    obtain ⟨x, ys, rfl, h1, h2⟩ := h
    simp at e
    subst e
    exact ⟨x, rfl, h1⟩
  | v :: vs, _, i + 1, w, h, e => by
    obtain ⟨x, ys, rfl, h1, h2⟩ := h
    simp at e
    obtain ⟨y, hy, hv⟩ := VRs.get h2 e
    exact ⟨y, by simpa using hy, hv⟩
  | [], _, i, w, h, e => by simp at e
theorem VRs.nil : VRs K H r [] [] := rfl
theorem VRs.cons {v : Val} {x : V} {vs : List Val} {xs : List V} (h : VR K H r v x) (t : VRs K H r vs xs) : VRs K H r (v :: vs) (x :: xs) := ⟨x, xs, rfl, h, t⟩
theorem VRs.app : ∀ {vs ws : List Val} {xs ys : List V}, VRs K H r vs xs → VRs K H r ws ys → VRs K H r (vs ++ ws) (xs ++ ys)
  | [], ws, _, ys, h, t => by rw [show _ = [] from h]; exact t
  | v :: vs, ws, _, ys, h, t => by
    obtain ⟨x, zs, rfl, h1, h2⟩ := h
    exact ⟨x, zs ++ ys, rfl, h1, VRs.app h2 t⟩
theorem VRs.drop : ∀ {vs : List Val} {xs : List V} (n : Nat), VRs K H r vs xs → VRs K H r (vs.drop n) (xs.drop n)
  | vs, xs, 0, h => h
  | [], _, n + 1, h => by rw [show _ = [] from h]; rfl
  | v :: vs, _, n + 1, h => by
    obtain ⟨x, zs, rfl, h1, h2⟩ := h
    exact VRs.drop n h2
theorem VRs.take : ∀ {vs : List Val} {xs : List V} (n : Nat), VRs K H r vs xs → VRs K H r (vs.take n) (xs.take n)
  | vs, xs, 0, h => rfl
  | [], _, n + 1, h => by rw [show _ = [] from h]; rfl
  | v :: vs, _, n + 1, h => by
    obtain ⟨x, zs, rfl, h1, h2⟩ := h
    exact ⟨x, _, rfl, h1, VRs.take n h2⟩
theorem VRs.set : ∀ {vs : List Val} {xs : List V} {v : Val} {x : V} (n : Nat), VRs K H r vs xs → VR K H r v x → VRs K H r (vs.set n v) (xs.set n x)
  | [], _, v, x, n, h, q => by rw [show _ = [] from h]; rfl
  | w :: vs, _, v, x, 0, h, q => by
    obtain ⟨y, zs, rfl, h1, h2⟩ := h
    exact ⟨x, zs, rfl, q, h2⟩
  | w :: vs, _, v, x, n + 1, h, q => by
    obtain ⟨y, zs, rfl, h1, h2⟩ := h
    exact ⟨y, _, rfl, h1, VRs.set n h2 q⟩
theorem VRs.erase : ∀ {vs : List Val} {xs : List V} (n : Nat), VRs K H r vs xs → VRs K H r (vs.eraseIdx n) (xs.eraseIdx n)
  | [], _, n, h => by rw [show _ = [] from h]; rfl
  | w :: vs, _, 0, h => by
    obtain ⟨y, zs, rfl, h1, h2⟩ := h
    exact h2
  | w :: vs, _, n + 1, h => by
    obtain ⟨y, zs, rfl, h1, h2⟩ := h
    exact ⟨y, _, rfl, h1, VRs.erase n h2⟩
theorem VRs.rep {vs : List Val} {xs : List V} (h : VRs K H r vs xs) : ∀ n : Nat, VRs K H r (List.replicate n vs).flatten (List.replicate n xs).flatten
  | 0 => rfl
  | n + 1 => by
    rw [List.replicate_succ, List.replicate_succ, List.flatten_cons, List.flatten_cons]
    exact VRs.app h (VRs.rep h n)
def OR (K : PySem.W.Frag) (H : Hp) (r : RI) (p : Addr) : Obj → Prop
  | .lst vs => ∃ xs, H p = some (.lst xs) ∧ VRs K H r vs xs
  | .gone => ∃ xs, H p = some (.lst xs)
theorem OR.some {p : Addr} {o : Obj} (h : OR K H r p o) : ∃ xs, H p = some (.lst xs) := by
  cases o with
  | lst vs => obtain ⟨xs, e, _⟩ := h; exact ⟨xs, e⟩
  | gone => exact h
theorem OR.mono {p : Addr} {o : Obj} (g : Gr H r H' r') (e : H' p = H p) (h : OR K H r p o) : OR K H' r' p o := by
  cases o with
  | lst vs => obtain ⟨xs, q, t⟩ := h; exact ⟨xs, e.trans q, VRs.mono g _ _ t⟩
  | gone => obtain ⟨xs, q⟩ := h; exact ⟨xs, e.trans q⟩
structure HR (K : PySem.W.Frag) (H : Hp) (r : RI) (mu : List Obj) : Prop where
  len : r.io.length = mu.length
  obj : ∀ (a : Nat) p o, r.io[a]? = some p → mu[a]? = some o → OR K H r p o
  nofz : ∀ p ∈ r.io, ¬ r.fz p
  nd : r.io.Nodup
  is : ∀ p, r.fz p → H p ≠ none
theorem HR.at_io {mu : List Obj} (h : HR K H r mu) {p : Addr} (hp : p ∈ r.io) : ∃ xs, H p = some (.lst xs) := by
  obtain ⟨a, ha, e⟩ := List.mem_iff_getElem.mp hp
  have h2 : a < mu.length := by rw [← h.len]; exact ha
  exact (h.obj a p mu[a] (by rw [List.getElem?_eq_getElem ha, e]) (List.getElem?_eq_getElem h2)).some
def Own (σ : L2.St) (sl : List Slot) (p : Addr) : Prop := ∃ (i : Nat) (o : Obj), sl[i]? = some (Slot.own o) ∧ σ[i]? = some (some (V.ref p))
structure SR (K : PySem.W.Frag) (H : Hp) (r : RI) (σ : L2.St) (sl : List Slot) : Prop where
  len : sl.length = σ.length
  val : ∀ (i : Nat) v, sl[i]? = some (.val v) → ∃ x, σ[i]? = some (some x) ∧ VR K H r v x
  own : ∀ (i : Nat) o, sl[i]? = some (.own o) → ∃ p, σ[i]? = some (some (.ref p)) ∧ OR K H r p o
  nofz : ∀ p, Own σ sl p → ¬ r.fz p ∧ p ∉ r.io
  nd : ∀ (i j : Nat) o o' p, sl[i]? = some (.own o) → sl[j]? = some (.own o') → σ[i]? = some (some (.ref p)) → σ[j]? = some (some (.ref p)) → i = j
theorem SR.at_own {σ : L2.St} {sl : List Slot} (s : SR K H r σ sl) {p : Addr} (h : Own σ sl p) : ∃ xs, H p = some (.lst xs) := by
  obtain ⟨i, o, h1, h2⟩ := h
  obtain ⟨q, h3, h4⟩ := s.own i o h1
  rw [h2] at h3
  cases h3
  exact h4.some
structure Step (σ : L2.St) (sl : List Slot) (H : Hp) (r : RI) (σ' : L2.St) (sl' : List Slot) (H' : Hp) (r' : RI) : Prop where
  gr : Gr H r H' r'
  kp : ∀ p u, H p = some u → p ∉ r.io → ¬ Own σ sl p → H' p = some u
  io : ∀ p, p ∈ r'.io → p ∈ r.io ∨ H p = none
  fz : ∀ p, r'.fz p → r.fz p ∨ H p = none ∨ Own σ sl p
  own : ∀ p, Own σ' sl' p → Own σ sl p ∨ H p = none
  is : ∀ p, H p ≠ none → H' p ≠ none
theorem Step.refl {σ : L2.St} {sl : List Slot} : Step σ sl H r σ sl H r := ⟨.refl, fun _ _ h _ _ => h, fun _ h => .inl h, fun _ h => .inl h, fun _ h => .inl h, fun _ h => h⟩
end
theorem Step.trans {σ σ1 σ2 : L2.St} {sl sl1 sl2 : List Slot} {H H1 H2 : Hp} {r r1 r2 : RI} (a : Step σ sl H r σ1 sl1 H1 r1) (b : Step σ1 sl1 H1 r1 σ2 sl2 H2 r2) : Step σ sl H r σ2 sl2 H2 r2 := by
  have bk : ∀ p, H1 p = none → H p = none := fun p h => by
    cases e : H p with
    | none => rfl
    | some u => exact absurd h (a.is p (by rw [e]; simp))
  refine ⟨a.gr.trans b.gr, fun p u h hi ho => ?_, fun p h => ?_, fun p h => ?_, fun p h => ?_, fun p h => b.is p (a.is p h)⟩
  · refine b.kp p u (a.kp p u h hi ho) (fun z => ?_) fun z => ?_
    · rcases a.io p z with z | z
      · exact hi z
      · rw [h] at z; cases z
    · rcases a.own p z with z | z
      · exact ho z
      · rw [h] at z; cases z
  · rcases b.io p h with z | z
    · exact a.io p z
    · exact .inr (bk p z)
  · rcases b.fz p h with z | z | z
    · exact a.fz p z
    · exact .inr (.inl (bk p z))
    · rcases a.own p z with z | z
      · exact .inr (.inr z)
      · exact .inr (.inl z)
  · rcases b.own p h with z | z
    · exact a.own p z
    · exact .inr (bk p z)
section
variable {K : PySem.W.Frag} {H H' : Hp} {r r' : RI} {σ : L2.St} {sl : List Slot} {mu : List Obj}
theorem SR.keep (s : SR K H r σ sl) (g : Gr H r H' r') (kp : ∀ p, Own σ sl p → H' p = H p) (io : ∀ p, p ∈ r'.io → p ∈ r.io ∨ H p = none) (fz : ∀ p, r'.fz p → r.fz p ∨ H p = none) : SR K H' r' σ sl := by
  refine ⟨s.len, fun i v h => ?_, fun i o h => ?_, fun p h => ?_, s.nd⟩
  · obtain ⟨x, h1, h2⟩ := s.val i v h
    exact ⟨x, h1, VR.mono g _ _ h2⟩
  · obtain ⟨p, h1, h2⟩ := s.own i o h
    exact ⟨p, h1, h2.mono g (kp p ⟨i, o, h, h1⟩)⟩
  · obtain ⟨xs, e⟩ := s.at_own h
    obtain ⟨h1, h2⟩ := s.nofz p h
    refine ⟨fun z => ?_, fun z => ?_⟩
    · rcases fz p z with z | z
      · exact h1 z
      · rw [e] at z; cases z
    · rcases io p z with z | z
      · exact h2 z
      · rw [e] at z; cases z
def RI.add (r : RI) (p : Addr) : RI := ⟨r.io, fun b => r.fz b ∨ b = p⟩
theorem Gr.new {p : Addr} {o : HO} (h : H p = none) (hr : ∀ q, r.fz q → H q ≠ none) : Gr H r (upd H p o) r := by
  refine ⟨⟨[], by simp⟩, fun _ z => z, fun q z => ?_, fun q xs z => ?_, fun q ob u z => ?_⟩
  · exact upd_ne (fun e => hr q z (by rw [e]; exact h))
  · rw [upd_ne (ne_of_none z h)]; exact z
  · rw [upd_ne (ne_of_none z h)]; exact z
theorem Gr.add {p : Addr} {o : HO} (h : H p = none) (hr : ∀ q, r.fz q → H q ≠ none) : Gr H r (upd H p o) (r.add p) :=
  ⟨⟨[], by simp [RI.add]⟩, fun _ z => .inl z, (Gr.new h hr).at_, (Gr.new h hr).tup, (Gr.new h hr).frz⟩
theorem Step.new {p : Addr} {o : HO} (h : H p = none) (hr : ∀ q, r.fz q → H q ≠ none) : Step σ sl H r σ sl (upd H p o) r :=
  ⟨.new h hr, fun q u z _ _ => by rw [upd_ne (ne_of_none z h)]; exact z, fun _ z => .inl z, fun _ z => .inl z, fun _ z => .inl z, fun q z => by
    by_cases e : q = p
    · rw [e, upd_same]; simp
    · rw [upd_ne e]; exact z⟩
theorem Step.add {p : Addr} {o : HO} (h : H p = none) (hr : ∀ q, r.fz q → H q ≠ none) : Step σ sl H r σ sl (upd H p o) (r.add p) :=
  ⟨.add h hr, (Step.new (σ := σ) (sl := sl) h hr).kp, fun _ z => .inl z, fun q z => z.elim .inl fun e => .inr (.inl (by rw [e]; exact h)), fun _ z => .inl z, (Step.new (σ := σ) (sl := sl) h hr).is⟩
theorem HR.new {p : Addr} {o : HO} (q : HR K H r mu) (h : H p = none) : HR K (upd H p o) r mu := by
  refine ⟨q.len, fun a b u h1 h2 => ?_, q.nofz, q.nd, fun b z => ?_⟩
  · have e := q.obj a b u h1 h2
    obtain ⟨xs, hx⟩ := e.some
    exact e.mono (.new h q.is) (upd_ne (ne_of_none hx h))
  · by_cases e : b = p
    · rw [e, upd_same]; simp
    · rw [upd_ne e]; exact q.is b z
theorem HR.add {p : Addr} {o : HO} (q : HR K H r mu) (h : H p = none) : HR K (upd H p o) (r.add p) mu := by
  refine ⟨q.len, fun a b u h1 h2 => ?_, fun b hb z => ?_, q.nd, fun b z => ?_⟩
  · have e := q.obj a b u h1 h2
    obtain ⟨xs, hx⟩ := e.some
    exact e.mono (.add h q.is) (upd_ne (ne_of_none hx h))
  · rcases z with z | z
    · exact q.nofz b hb z
    · subst z
      obtain ⟨xs, e⟩ := q.at_io hb
      rw [h] at e; cases e
  · by_cases e : b = p
    · rw [e, upd_same]; simp
    · rw [upd_ne e]
      exact q.is b (z.elim (fun z => z) fun z => absurd z e)
theorem SR.new {p : Addr} {o : HO} (s : SR K H r σ sl) (h : H p = none) (hr : ∀ q, r.fz q → H q ≠ none) : SR K (upd H p o) r σ sl :=
  s.keep (.new h hr) (fun q z => by obtain ⟨xs, e⟩ := s.at_own z; exact upd_ne (ne_of_none e h)) (fun _ z => .inl z) fun _ z => .inl z
theorem SR.add {p : Addr} {o : HO} (s : SR K H r σ sl) (h : H p = none) (hr : ∀ q, r.fz q → H q ≠ none) : SR K (upd H p o) (r.add p) σ sl :=
  s.keep (.add h hr) (fun q z => by obtain ⟨xs, e⟩ := s.at_own z; exact upd_ne (ne_of_none e h)) (fun _ z => .inl z) fun _ z => z.elim .inl fun e => .inr (by rw [e]; exact h)
def VL (K : PySem.W.Frag) (H : Hp) (r : RI) (σ : L2.St) (sl : List Slot) (v : Val) (x : V) : Prop :=
  VR K H r v x ∨ ∃ i, v = .loc i ∧ σ[i]? = some (some x)
theorem VL.keep {v w : Val} {x : V} (h : VL K H r σ sl v x) (e : M.keep v = some w) : w = v ∧ VR K H r w x := by
  rcases h with h | ⟨i, rfl, _⟩
  · cases v <;> first | (cases e; exact ⟨rfl, h⟩) | exact False.elim h
  · cases e
end
end M
end F_M2
section F_M3a
set_option maxRecDepth 100000
namespace M
open PySem PySem.Spec PyProof.Rows L2
theorem line_eq : sizeLine = line := by rw [sizeLine_eq]; rfl
section
variable {K : PySem.W.Frag} {H H' : Hp} {r r' : RI} {σ : L2.St} {sl : List Slot} {mu : List Obj}
def VD (K : PySem.W.Frag) (H : Hp) (r : RI) : Val → V → Prop
  | .lst vs, x => ∃ p xs, x = .ref p ∧ H p = some (.lst xs) ∧ VRs K H r vs xs
  | v, x => VR K H r v x
theorem VR.vd {v : Val} {x : V} (h : VR K H r v x) : VD K H r v x := by
  cases v <;> try exact h
  obtain ⟨p, xs, e, ⟨_, h1⟩, h2⟩ := h
  exact ⟨p, xs, e, h1, h2⟩
theorem rd_ok {s : MS} {v w : Val} {x : V} (hH : HR K H r s.mu) (hS : SR K H r σ s.sl) (h : VL K H r σ s.sl v x) (e : s.rd v = some w) : VD K H r w x := by
  rcases h with h | ⟨i, rfl, hx⟩
  · cases v with
    | loc i => exact False.elim h
    | ref a =>
      obtain ⟨p, rfl, hp⟩ := h
      simp only [MS.rd] at e
      cases hm : s.mu[a]? with
      | none => rw [hm] at e; cases e
      | some o =>
        rw [hm] at e
        cases o with
        | gone => cases e
        | lst vs =>
          cases e
          obtain ⟨xs, h1, h2⟩ := hH.obj a p _ hp hm
          exact ⟨p, xs, rfl, h1, h2⟩
    | _ => cases e; exact h.vd
  · simp only [MS.rd] at e
    cases hm : s.sl[i]? with
    | none => rw [hm] at e; cases e
    | some o =>
      rw [hm] at e
      cases o with
      | none => cases e
      | val _ => cases e
      | own o =>
        cases o with
        | gone => cases e
        | lst vs =>
          cases e
          obtain ⟨p, h1, xs, h2, h3⟩ := hS.own i _ hm
          rw [hx] at h1
          cases h1
          exact ⟨p, xs, rfl, h2, h3⟩
def Fin (K : PySem.W.Frag) (σ : L2.St) (sl : List Slot) (H : Hp) (r : RI) (mu : List Obj) (w : Val) (Q : VK) : Prop :=
  ∀ z H' r', Step σ sl H r σ sl H' r' → HR K H' r' mu → SR K H' r' σ sl → VR K H' r' w z → Q z H'
structure At (K : PySem.W.Frag) (σ : L2.St) (sl : List Slot) (H : Hp) (r : RI) (mu : List Obj) : Prop where
  hr : HR K H r mu
  sr : SR K H r σ sl
theorem Fin.val {w : Val} {z : V} {Q : VK} (a : At K σ sl H r mu) (f : Fin K σ sl H r mu w Q) (h : VR K H r w z) : Q z H := f z H r .refl a.hr a.sr h
theorem Fin.tup {vs : List Val} {xs : List V} {Q : VK} {p : Addr} (a : At K σ sl H r mu) (f : Fin K σ sl H r mu (.tup vs) Q) (h : VRs K H r vs xs) (hp : H p = none) : Q (.ref p) (upd H p (.tup xs)) :=
  f _ _ r (.new hp a.hr.is) (a.hr.new hp) (a.sr.new hp a.hr.is) ⟨p, xs, rfl, SqT.of upd_same, VRs.mono (.new hp a.hr.is) _ _ h⟩
theorem Fin.lst {vs : List Val} {xs : List V} {Q : VK} {p : Addr} (a : At K σ sl H r mu) (f : Fin K σ sl H r mu (.lst vs) Q) (h : VRs K H r vs xs) (hp : H p = none) : Q (.ref p) (upd H p (.lst xs)) :=
  f _ _ (r.add p) (.add hp a.hr.is) (a.hr.add hp) (a.sr.add hp a.hr.is) ⟨p, xs, rfl, ⟨.inr rfl, upd_same⟩, VRs.mono (.add hp a.hr.is) _ _ h⟩
theorem VD.int {i : Int} {x : V} (h : VD K H r (.int i) x) : x = .int i := h
theorem VD.str {s : Tx} {x : V} (h : VD K H r (.str s) x) : x = .str ⟨s.toArray⟩ ∧ s.all (· < 1114112) = true := h
end
def BinOk (X : Cx) (f : Value → Value → Sem Value) (g : Val → Val → Option Val) : Prop :=
  ∃ rr : R2, OpR X f rr ∧ ∀ (σ : L2.St) (sl : List Slot) (H : Hp) (r : RI) (mu : List Obj) (u v w : Val) (x y : V) (Q : VK), At X.K σ sl H r mu → VD X.K H r u x → VD X.K H r v y → g u v = some w →
    Fin X.K σ sl H r mu w Q → rr x y H Q
theorem BinOk.or {X : Cx} {f : Value → Value → Sem Value} {g g' : Val → Val → Option Val} (a : BinOk X f g) (b : BinOk X f g') : BinOk X f (fun u v => (g u v).orElse fun _ => g' u v) := by
  obtain ⟨r1, o1, h1⟩ := a
  obtain ⟨r2, o2, h2⟩ := b
  refine ⟨_, o1.or o2, fun σ sl H r mu u v w x y Q at_ hu hv e q => ?_⟩
  cases hg : g u v with
  | some z =>
    simp only [hg, Option.orElse] at e
    cases e
    exact .inl (h1 σ sl H r mu u v w x y Q at_ hu hv hg q)
  | none =>
    simp only [hg, Option.orElse] at e
    exact .inr (h2 σ sl H r mu u v w x y Q at_ hu hv e q)
theorem BinOk.imp {X : Cx} {f : Value → Value → Sem Value} {g g' : Val → Val → Option Val} (a : BinOk X f g) (h : ∀ u v w, g' u v = some w → g u v = some w) : BinOk X f g' := by
  obtain ⟨r1, o1, h1⟩ := a
  exact ⟨r1, o1, fun σ sl H r mu u v w x y Q at_ hu hv e q => h1 σ sl H r mu u v w x y Q at_ hu hv (h _ _ _ e) q⟩
section
variable {X : Cx}
theorem binI {f : Value → Value → Sem Value} {C : Int → Int → Prop} {k : Int → Int → V} (ho : OpR X f (rI C k)) (c : Int → Int → Bool) (g : Int → Int → Val) (hc : ∀ i j, c i j = true → C i j) (hg : ∀ i j H r, VR X.K H r (g i j) (k i j)) :
    BinOk X f (fun u v => match u, v with | .int i, .int j => if c i j then some (g i j) else none | _, _ => none) := by
  refine ⟨_, ho, fun σ sl H r mu u v w x y Q at_ hu hv e q => ?_⟩
  cases u <;> try (cases e; done)
  cases v <;> try (cases e; done)
  rename_i i j
  simp only at e
  split at e
  · rename_i hcc
    cases e
    exact ⟨i, j, hu, hv, hc i j hcc, q.val at_ (hg i j H r)⟩
  · cases e
theorem binI0 {f : Value → Value → Sem Value} {k : Int → Int → V} (ho : OpR X f (rI0 k)) (g : Int → Int → Val) (hg : ∀ i j H r, VR X.K H r (g i j) (k i j)) :
    BinOk X f (fun u v => match u, v with | .int i, .int j => some (g i j) | _, _ => none) := by
  refine ⟨_, ho, fun σ sl H r mu u v w x y Q at_ hu hv e q => ?_⟩
  cases u <;> try (cases e; done)
  cases v <;> try (cases e; done)
  rename_i i j
  cases e
  exact ⟨i, j, hu, hv, q.val at_ (hg i j H r)⟩
theorem str_len (a : Tx) : (⟨a.toArray⟩ : Str).length = a.length := by show a.toArray.size = _; simp
theorem str_app (a b : Tx) : (⟨a.toArray⟩ : Str) ++ (⟨b.toArray⟩ : Str) = ⟨(a ++ b).toArray⟩ := by
  show (⟨a.toArray ++ b.toArray⟩ : Str) = _
  simp
theorem all_app {a b : Tx} (h1 : a.all (· < 1114112) = true) (h2 : b.all (· < 1114112) = true) : (a ++ b).all (· < 1114112) = true := by
  rw [List.all_append, h1, h2]; rfl
theorem binS {f : Value → Value → Sem Value} (ho : OpR X f (fun x y H Q => ∃ i j, x = .str i ∧ y = .str j ∧ i.length + j.length ≤ sizeLine ∧ Q (.str (i ++ j)) H)) :
    BinOk X f (fun u v => match u, v with | .str a, .str b => if a.length + b.length ≤ line then some (.str (a ++ b)) else none | _, _ => none) := by
  refine ⟨_, ho, fun σ sl H r mu u v w x y Q at_ hu hv e q => ?_⟩
  cases u <;> try (cases e; done)
  cases v <;> try (cases e; done)
  rename_i a b
  simp only at e
  split at e
  · rename_i hl
    cases e
    obtain ⟨rfl, h1⟩ := hu
    obtain ⟨rfl, h2⟩ := hv
    refine ⟨_, _, rfl, rfl, by rw [str_len, str_len, line_eq]; exact hl, ?_⟩
    rw [str_app]
    exact q.val at_ ⟨rfl, all_app h1 h2⟩
  · cases e
theorem binL : BinOk X (binaryOp .Add) (fun u v => match u, v with | .lst a, .lst b => if a.length + b.length ≤ line then some (.lst (a ++ b)) else none | _, _ => none) := by
  refine ⟨_, op_cat, fun σ sl H r mu u v w x y Q at_ hu hv e q => ?_⟩
  cases u <;> try (cases e; done)
  cases v <;> try (cases e; done)
  rename_i a b
  simp only at e
  split at e
  · rename_i hl
    cases e
    obtain ⟨p, xs, rfl, h1, h2⟩ := hu
    obtain ⟨p', xs', rfl, h1', h2'⟩ := hv
    exact ⟨p, p', xs, xs', rfl, rfl, h1, h1', by rw [← h2.len, ← h2'.len, line_eq]; exact hl, fun l hl => q.lst at_ (h2.app h2') hl⟩
  · cases e
theorem binT : BinOk X (binaryOp .Add) (fun u v => match u, v with | .tup a, .tup b => if a.length + b.length ≤ line then some (.tup (a ++ b)) else none | _, _ => none) := by
  refine ⟨_, op_catA, fun σ sl H r mu u v w x y Q at_ hu hv e q => ?_⟩
  cases u <;> try (cases e; done)
  cases v <;> try (cases e; done)
  rename_i a b
  simp only at e
  split at e
  · rename_i hl
    cases e
    obtain ⟨p, xs, rfl, h1, h2⟩ := hu
    obtain ⟨p', xs', rfl, h1', h2'⟩ := hv
    refine ⟨p, p', xs, xs', rfl, rfl, h1, h1', by rw [← h2.len, ← h2'.len, line_eq]; exact hl, fun e => ?_, fun _ e => ?_, fun _ _ l hl => q.tup at_ (h2.app h2') hl⟩
    · subst e
      have : a = [] := List.length_eq_zero_iff.mp (by rw [h2.len]; rfl)
      subst this
      exact q.val at_ ⟨p', xs', rfl, h1', h2'⟩
    · subst e
      have : b = [] := List.length_eq_zero_iff.mp (by rw [h2'.len]; rfl)
      subst this
      exact q.val at_ ⟨p, xs, rfl, h1, by rw [List.append_nil]; exact h2⟩
  · cases e
theorem binAdd : BinOk X (binaryOp .Add) (opB .add) := by
  refine ((((binI0 op_add (fun i j => .int (i + j)) fun i j _ _ => rfl).or (binS op_add_str)).or binL).or binT).imp fun u v w e => ?_
  cases u <;> cases v <;> simp_all [opB, Option.orElse]
theorem binSub : BinOk X (binaryOp .Sub) (opB .sub) := by
  refine (binI0 op_sub (fun i j => .int (i - j)) fun i j _ _ => rfl).imp fun u v w e => ?_
  cases u <;> cases v <;> simp_all [opB]
theorem strRep (a : Tx) (n : Nat) : ∀ acc : Array Nat, ((List.replicate n a.toArray).foldl (· ++ ·) acc).toList = acc.toList ++ (List.replicate n a).flatten := by
  induction n with
  | zero => intro acc; simp
  | succ n ih => intro acc; rw [List.replicate_succ, List.foldl_cons, ih, List.replicate_succ, List.flatten_cons]; simp
theorem txtMul (a : Tx) (k : Int) : Txt.mul ⟨a.toArray⟩ k = ⟨((List.replicate k.toNat a).flatten).toArray⟩ := by
  unfold Txt.mul
  by_cases h1 : k < 1
  · rw [if_pos h1]
    have : k.toNat = 0 := by omega
    rw [this]; rfl
  · rw [if_neg h1]
    by_cases h2 : (k == 1 || (⟨a.toArray⟩ : Str).length == 0) = true
    · rw [if_pos h2]
      rw [str_len, Bool.or_eq_true] at h2
      rcases h2 with h2 | h2
      · have : k = 1 := by simpa using h2
        subst this
        simp
      · have : a = [] := by simpa using h2
        subst this
        simp
    · rw [if_neg h2]
      have e := strRep a k.toNat #[]
      simp only [List.nil_append] at e
      rw [← e]
theorem all_rep {a : Tx} (h : a.all (· < 1114112) = true) : ∀ n : Nat, ((List.replicate n a).flatten).all (· < 1114112) = true
  | 0 => rfl
  | n + 1 => by rw [List.replicate_succ, List.flatten_cons]; exact all_app h (all_rep h n)
theorem op_mul_str : OpR X (binaryOp .Mult) (fun x y H Q => ∃ (a : Tx) (k : Int), x = .str ⟨a.toArray⟩ ∧ y = .int k ∧ a.length * k.toNat ≤ line ∧ -(2 ^ 62) ≤ k ∧ k < 2 ^ 62 ∧ Q (.str ⟨((List.replicate k.toNat a).flatten).toArray⟩) H) := by
  intro pins s σ H x y v u Q I rx ry h
  obtain ⟨a, k, rfl, rfl, hl, h1, h2, q⟩ := h
  obtain ⟨t, rfl⟩ := rx
  obtain ⟨t', rfl⟩ := ry
  rw [← txtMul] at q
  have hline : line = 16777216 := rfl
  refine SB.mul ⟨?_, fun h3 h4 => ?_, fun h3 h4 => ?_⟩ fun t' k' => ⟨.str (Txt.mul _ k), H, I.tok _, ⟨_, rfl⟩, q⟩
  · rw [decide_eq_false (by omega), decide_eq_false (by omega)]; rfl
  · rw [str_len]
    have h5 : a.length * k.toNat ≤ line := hl
    have h6 : 1 ≤ k := by omega
    have h7 : (a.length : Int) * k ≤ 16777216 := by
      have e : ((a.length * k.toNat : Nat) : Int) = (a.length : Int) * k := by
        rw [Int.natCast_mul, Int.toNat_of_nonneg (by omega)]
      rw [← e]
      omega
    have h8 : (a.length : Int) ≤ 16777216 / k := (Int.le_ediv_iff_mul_le (by omega)).mpr h7
    have h9 : (16777216 : Int) / k ≤ (2 ^ 63 - 1) / k := Int.ediv_le_ediv (by omega) (by decide)
    have h10 := Int.le_trans h8 h9
    omega
  · rw [str_len]
    show decide _ = false
    have e := line_eq
    simp only [decide_eq_false_iff_not]
    omega
theorem binMulS : BinOk X (binaryOp .Mult) (fun u v => match u, v with | .str a, .int k => if a.length * k.toNat ≤ line ∧ -(2 ^ 62) ≤ k ∧ k < 2 ^ 62 then some (.str (List.replicate k.toNat a).flatten) else none | _, _ => none) := by
  refine ⟨_, op_mul_str, fun σ sl H r mu u v w x y Q at_ hu hv e q => ?_⟩
  cases u <;> try (cases e; done)
  cases v <;> try (cases e; done)
  rename_i a k
  simp only at e
  split at e
  · rename_i hl
    cases e
    obtain ⟨rfl, h1⟩ := hu
    have hv : y = .int k := hv
    subst hv
    exact ⟨a, k, rfl, rfl, hl.1, hl.2.1, hl.2.2, q.val at_ ⟨rfl, all_rep h1 _⟩⟩
  · cases e
theorem binMulL : BinOk X (binaryOp .Mult) (fun u v => match u, v with | .lst a, .int k => if a.length * k.toNat ≤ line ∧ -(2 ^ 62) ≤ k ∧ k < 2 ^ 62 then some (.lst (List.replicate k.toNat a).flatten) else none | _, _ => none) := by
  refine ⟨_, op_rep, fun σ sl H r mu u v w x y Q at_ hu hv e q => ?_⟩
  cases u <;> try (cases e; done)
  cases v <;> try (cases e; done)
  rename_i a k
  simp only at e
  split at e
  · rename_i hl
    cases e
    obtain ⟨p, xs, rfl, h1, h2⟩ := hu
    have hv : y = .int k := hv
    subst hv
    exact ⟨p, k, xs, rfl, rfl, h1, by omega, by omega, by rw [← h2.len, line_eq]; exact hl.1, fun l hl => q.lst at_ (h2.rep _) hl⟩
  · cases e
theorem binMul : BinOk X (binaryOp .Mult) (opB .mul) := by
  refine (((binI op_mulW (fun i j => decide (bits i + bits j < 1000000)) (fun i j => .int (i * j)) (fun i j h => (show bits i + bits j < 1000000 from of_decide_eq_true h)) fun i j _ _ => rfl).or binMulS).or binMulL).imp fun u v w e => ?_
  cases u <;> cases v <;> simp_all [opB, Option.orElse]
theorem binFdiv : BinOk X (binaryOp .FloorDiv) (opB .fdiv) := by
  refine (binI op_fdivW (fun i j => decide (0 < j ∧ bits j < 9000)) (fun i j => .int (i / j)) (fun i j h => (show 0 < j ∧ bits j < 9000 from of_decide_eq_true h)) fun i j _ _ => rfl).imp fun u v w e => ?_
  cases u <;> cases v <;> simp_all [opB]
theorem binMod : BinOk X (binaryOp .Mod) (opB .mod) := by
  refine (binI op_mod (fun i j => decide (0 < j)) (fun i j => .int (i % j)) (fun i j h => of_decide_eq_true h) fun i j _ _ => rfl).imp fun u v w e => ?_
  cases u <;> cases v <;> simp_all [opB]
theorem op_powB : OpR X (binaryOp .Pow) (rI (fun i j => 0 ≤ j ∧ (bits i + 1) * j.toNat ≤ 1000000) fun i j => .int (i ^ j.toNat)) := opI fun i j _ _ _ _ _ hc q => by
  refine pow_int hc.1 ?_ q
  have h1 : Builtin.Int.intBits i ≤ bits i + 1 := by
    unfold Builtin.Int.intBits bits
    split <;> omega
  have h2 : Builtin.Int.intBits i * j.toNat ≤ 1000000 := Nat.le_trans (Nat.mul_le_mul_right _ h1) hc.2
  have e : ((Builtin.Int.intBits i * j.toNat : Nat) : Int) = (Builtin.Int.intBits i : Int) * j := by
    rw [Int.natCast_mul, Int.toNat_of_nonneg hc.1]
  rw [← e]
  omega
theorem binPow : BinOk X (binaryOp .Pow) (opB .pow) := by
  refine (binI op_powB (fun i j => decide (0 ≤ j ∧ (bits i + 1) * j.toNat ≤ 1000000)) (fun i j => .int (i ^ j.toNat)) (fun i j h => of_decide_eq_true h) fun i j _ _ => rfl).imp fun u v w e => ?_
  cases u <;> cases v <;> simp_all [opB]
theorem binAnd : BinOk X (binaryOp .BitAnd) (opB .band) := by
  refine (binI0 op_and (fun i j => .int (Builtin.bitAnd i j)) fun i j _ _ => rfl).imp fun u v w e => ?_
  cases u <;> cases v <;> simp_all [opB]
def opOf : BOp → Operator
  | .add => .Add | .sub => .Sub | .mul => .Mult | .fdiv => .FloorDiv | .mod => .Mod | .pow => .Pow | .band => .BitAnd | .bor => .BitOr | .shl => .LShift | .shr => .RShift
theorem binNone {f : Value → Value → Sem Value} {g : Val → Val → Option Val} (h : ∀ u v, g u v = none) : BinOk X f g :=
  ⟨fun _ _ _ _ => False, fun _ _ _ _ _ _ _ _ _ _ _ _ z => z.elim, fun _ _ _ _ _ u v _ _ _ _ _ _ _ e _ => by rw [h] at e; cases e⟩
theorem binOk (op : BOp) : BinOk X (binaryOp (opOf op)) (opB op) := by
  cases op with
  | add => exact binAdd
  | sub => exact binSub
  | mul => exact binMul
  | fdiv => exact binFdiv
  | mod => exact binMod
  | pow => exact binPow
  | band => exact binAnd
  | _ => exact binNone fun u v => by cases u <;> cases v <;> rfl
theorem augOk (op : BOp) : BinOk X (inplaceOp (opOf op)) (opA op) := by
  cases op with
  | add =>
    refine ((binI0 iop_add (fun i j => .int (i + j)) fun i j _ _ => rfl).or (binS iop_add_str)).imp fun u v w e => ?_
    cases u <;> cases v <;> simp_all [opA, Option.orElse]
  | sub =>
    refine (binI0 iop_sub (fun i j => .int (i - j)) fun i j _ _ => rfl).imp fun u v w e => ?_
    cases u <;> cases v <;> simp_all [opA]
  | _ => exact binNone fun u v => by cases u <;> cases v <;> rfl
end
end M
end F_M3a
section F_M3b
set_option maxRecDepth 100000
namespace M
open PySem PySem.Spec PyProof.Rows L2
section
variable {K : PySem.W.Frag} {H : Hp} {r : RI}
mutual
theorem VR.dp : ∀ (n : Nat) (v : Val) (x : V), isData n v = true → VR K H r v x → Dp K H x (toPD v) ∧ (toPD v).canLay0 = true ∧ (toPD v).depth ≤ n
  | n, .none, _, _, h => by rw [show _ = _ from h]; exact ⟨.non, by simp [toPD, PyData.canLay0], by simp [toPD, PyData.depth]⟩
  | n, .bool b, _, _, h => by rw [show _ = _ from h]; exact ⟨.bl b, by simp [toPD, PyData.canLay0], by simp [toPD, PyData.depth]⟩
  | n, .int i, _, _, h => by rw [show _ = _ from h]; exact ⟨.int i, by simp [toPD, PyData.canLay0], by simp [toPD, PyData.depth]⟩
  | n, .str s, _, _, h => by
    obtain ⟨rfl, h2⟩ := h
    refine ⟨.str _, ?_, by simp [toPD, PyData.depth]⟩
    simp only [toPD, PyData.canLay0, PyData.strOk]
    simpa using h2
  | n + 1, .tup vs, _, d, h => by
    obtain ⟨p, xs, rfl, h1, h2⟩ := h
    obtain ⟨q1, q2, q3⟩ := VRs.dp n vs xs (by simpa [isData] using d) h2
    exact ⟨.tup h1 q1, by simpa [toPD, PyData.canLay0] using q2, by simp only [toPD, PyData.depth]; omega⟩
  | n + 1, .lst vs, _, d, h => by
    obtain ⟨p, xs, rfl, ⟨_, h1⟩, h2⟩ := h
    obtain ⟨q1, q2, q3⟩ := VRs.dp n vs xs (by simpa [isData] using d) h2
    exact ⟨.lst (SqL.of h1) q1, by simpa [toPD, PyData.canLay0] using q2, by simp only [toPD, PyData.depth]; omega⟩
  | 0, .tup vs, _, d, _ => by simp [isData] at d
  | 0, .lst vs, _, d, _ => by simp [isData] at d
  | n, .ref _, _, d, _ => by simp [isData] at d
  | n, .loc _, _, d, _ => by simp [isData] at d
  | n, .ty _, _, d, _ => by simp [isData] at d
  | n, .rol _, _, d, _ => by simp [isData] at d
theorem VRs.dp : ∀ (n : Nat) (vs : List Val) (xs : List V), isDatas n vs = true → VRs K H r vs xs → DpAll K H xs (toPDs vs) ∧ PyData.canLayAll0 (toPDs vs) = true ∧ PyData.depthAll (toPDs vs) ≤ n
  | n, [], _, _, h => by rw [show _ = [] from h]; exact ⟨.nil, by simp [toPDs, PyData.canLayAll0], by simp [toPDs, PyData.depthAll]⟩
  | n, v :: vs, _, d, h => by
    obtain ⟨x, ys, rfl, h1, h2⟩ := h
    simp only [isDatas, Bool.and_eq_true] at d
    obtain ⟨q1, q2, q3⟩ := VR.dp n v x d.1 h1
    obtain ⟨p1, p2, p3⟩ := VRs.dp n vs ys d.2 h2
    exact ⟨.cons q1 p1, by simp [toPDs, PyData.canLayAll0, q2, p2], by simp only [toPDs, PyData.depthAll]; omega⟩
end
mutual
theorem veq_pd : ∀ (n m : Nat) (u v : Val), isData n u = true → isData m v = true → PyData.eqv (toPD u) (toPD v) = veq u v
  | n, m, .none, v, _, dv => by cases v <;> simp_all [toPD, PyData.eqv, veq, isData]
  | n, m, .bool a, v, _, dv => by cases v <;> simp_all [toPD, PyData.eqv, veq, isData]
  | n, m, .int a, v, _, dv => by cases v <;> simp_all [toPD, PyData.eqv, veq, isData]
  | n, m, .str a, v, _, dv => by
    cases v <;> simp_all [toPD, PyData.eqv, veq, isData]
    rename_i b
    by_cases e : a = b
    · subst e; simp
    · have : ¬ (({ cps := a.toArray } : Str) = { cps := b.toArray }) := fun z => e (by have := congrArg (fun s : Str => s.cps.toList) z; simpa using this)
      rw [beq_eq_false_iff_ne.mpr this, beq_eq_false_iff_ne.mpr e]
  | n + 1, m, .tup us, v, du, dv => by
    cases v with
    | tup vs =>
      cases m with
      | zero => simp [isData] at dv
      | succ m => simp only [toPD, PyData.eqv, veq]; exact veqs_pd n m us vs (by simpa [isData] using du) (by simpa [isData] using dv)
    | _ => simp_all [toPD, PyData.eqv, veq, isData]
  | n + 1, m, .lst us, v, du, dv => by
    cases v with
    | lst vs =>
      cases m with
      | zero => simp [isData] at dv
      | succ m => simp only [toPD, PyData.eqv, veq]; exact veqs_pd n m us vs (by simpa [isData] using du) (by simpa [isData] using dv)
    | _ => simp_all [toPD, PyData.eqv, veq, isData]
  | 0, m, .tup vs, _, d, _ => by simp [isData] at d
  | 0, m, .lst vs, _, d, _ => by simp [isData] at d
  | n, m, .ref _, _, d, _ => by simp [isData] at d
  | n, m, .loc _, _, d, _ => by simp [isData] at d
  | n, m, .ty _, _, d, _ => by simp [isData] at d
  | n, m, .rol _, _, d, _ => by simp [isData] at d
theorem veqs_pd : ∀ (n m : Nat) (us vs : List Val), isDatas n us = true → isDatas m vs = true → PyData.eqvAll (toPDs us) (toPDs vs) = veqs us vs
  | n, m, [], vs, _, dv => by cases vs <;> simp [toPDs, PyData.eqvAll, veqs]
  | n, m, u :: us, [], _, _ => by simp [toPDs, PyData.eqvAll, veqs]
  | n, m, u :: us, v :: vs, du, dv => by
    simp only [isDatas, Bool.and_eq_true] at du dv
    simp only [toPDs, PyData.eqvAll, veqs]
    rw [veq_pd n m u v du.1 dv.1, veqs_pd n m us vs du.2 dv.2]
end
theorem VD.dp {n : Nat} {v : Val} {x : V} (d : isData n v = true) (h : VD K H r v x) (hn : n ≤ 32) : Dp K H x (toPD v) ∧ SeqAt.shaped (toPD v) = true := by
  have : Dp K H x (toPD v) ∧ (toPD v).canLay0 = true ∧ (toPD v).depth ≤ n := by
    cases v with
    | lst vs =>
      cases n with
      | zero => simp [isData] at d
      | succ n =>
        obtain ⟨p, xs, rfl, h1, h2⟩ := h
        obtain ⟨q1, q2, q3⟩ := VRs.dp n vs xs (by simpa [isData] using d) h2
        exact ⟨.lst (SqL.of h1) q1, by simpa [toPD, PyData.canLay0] using q2, by simp only [toPD, PyData.depth]; omega⟩
    | _ => exact VR.dp (r := r) n _ _ d h
  obtain ⟨q1, q2, q3⟩ := this
  refine ⟨q1, ?_⟩
  unfold SeqAt.shaped
  rw [q2, decide_eq_true (by omega)]
  rfl
end
section
variable {X : Cx}
theorem binEq (hu : X.A.units + 65 < cLine) : BinOk X (compareOp .Eq) (fun u v => (opC .eq u v).map .bool) := by
  refine ⟨_, op_eqD (by omega), fun σ sl H r mu u v w x y Q at_ hx hy e q => ?_⟩
  simp only [opC, Option.map_eq_some_iff] at e
  obtain ⟨b, e, rfl⟩ := e
  split at e
  · rename_i hd
    cases e
    rw [Bool.and_eq_true] at hd
    obtain ⟨d1, s1⟩ := hx.dp hd.1 (by omega)
    obtain ⟨d2, s2⟩ := hy.dp hd.2 (by omega)
    refine ⟨_, _, d1, d2, s1, s2, ?_⟩
    rw [veq_pd 16 16 u v hd.1 hd.2]
    exact q.val at_ rfl
  · cases e
theorem binNe (hu : X.A.units + 65 < cLine) : BinOk X (compareOp .NotEq) (fun u v => (opC .ne u v).map .bool) := by
  refine ⟨_, op_neD (by omega), fun σ sl H r mu u v w x y Q at_ hx hy e q => ?_⟩
  simp only [opC, Option.map_eq_some_iff] at e
  obtain ⟨b, e, rfl⟩ := e
  split at e
  · rename_i hd
    cases e
    rw [Bool.and_eq_true] at hd
    obtain ⟨d1, s1⟩ := hx.dp hd.1 (by omega)
    obtain ⟨d2, s2⟩ := hy.dp hd.2 (by omega)
    refine ⟨_, _, d1, d2, s1, s2, ?_⟩
    rw [veq_pd 16 16 u v hd.1 hd.2]
    exact q.val at_ rfl
  · cases e
theorem vr_non {K : PySem.W.Frag} {H : Hp} {r : RI} {v : Val} {x : V} {b : Bool} (h : VD K H r v x) (e : sameV v .none = some b) : b = decide (x = .non) := by
  cases v with
  | none => rw [show x = .non from h]; simp_all [sameV]
  | bool _ => rw [show x = _ from h]; simp_all [sameV]
  | int _ => rw [show x = _ from h]; simp_all [sameV]
  | str _ => obtain ⟨rfl, _⟩ := h; simp_all [sameV]
  | tup _ => obtain ⟨p, xs, rfl, _⟩ := h; simp_all [sameV]
  | lst _ => obtain ⟨p, xs, rfl, _⟩ := h; simp_all [sameV]
  | ref _ => obtain ⟨p, rfl, _⟩ := h; simp_all [sameV]
  | _ => simp [sameV] at e
theorem binIs : BinOk X (compareOp .Is) (fun u v => (opC .is_ u v).map .bool) := by
  refine ⟨_, op_isN.or op_isBl, fun σ sl H r mu u v w x y Q at_ hx hy e q => ?_⟩
  simp only [opC, Option.map_eq_some_iff] at e
  obtain ⟨b, e, rfl⟩ := e
  cases v with
  | none =>
    have hy : y = .non := hy
    refine .inl ⟨hy, ?_⟩
    rw [← vr_non hx e]
    exact q.val at_ rfl
  | bool c =>
    cases u with
    | bool a =>
      cases e
      refine .inr ⟨a, c, hx, hy, ?_⟩
      have : decide (a = c) = (a == c) := by cases a <;> cases c <;> rfl
      first
        | (rw [this]; exact q.val at_ rfl)
        | exact q.val at_ rfl
    | _ => simp [sameV] at e
  | _ => cases u <;> simp [sameV] at e
theorem binIsNot : BinOk X (compareOp .IsNot) (fun u v => (opC .isNot u v).map .bool) := by
  refine ⟨_, op_notN.or op_notBl, fun σ sl H r mu u v w x y Q at_ hx hy e q => ?_⟩
  simp only [opC, Option.map_eq_some_iff] at e
  obtain ⟨b, ⟨c, e, rfl⟩, rfl⟩ := e
  cases v with
  | none =>
    have hy : y = .non := hy
    refine .inl ⟨hy, ?_⟩
    rw [← vr_non hx e]
    exact q.val at_ rfl
  | bool c =>
    cases u with
    | bool a =>
      cases e
      refine .inr ⟨a, c, hx, hy, ?_⟩
      have : (!decide (a = c)) = !(a == c) := by cases a <;> cases c <;> rfl
      first
        | (rw [this]; exact q.val at_ rfl)
        | exact q.val at_ rfl
    | _ => simp [sameV] at e
  | _ => cases u <;> simp [sameV] at e
theorem binLt : BinOk X (compareOp .Lt) (fun u v => (opC .lt u v).map .bool) := (binI0 op_lt (fun i j => .bool (decide (i < j))) fun _ _ _ _ => rfl).imp fun u v w e => by cases u <;> cases v <;> simp_all [opC]
theorem binLe : BinOk X (compareOp .LtE) (fun u v => (opC .le u v).map .bool) := (binI0 op_le (fun i j => .bool (decide (i ≤ j))) fun _ _ _ _ => rfl).imp fun u v w e => by cases u <;> cases v <;> simp_all [opC]
theorem binGt : BinOk X (compareOp .Gt) (fun u v => (opC .gt u v).map .bool) := (binI0 op_gt (fun i j => .bool (decide (j < i))) fun _ _ _ _ => rfl).imp fun u v w e => by cases u <;> cases v <;> simp_all [opC]
theorem binGe : BinOk X (compareOp .GtE) (fun u v => (opC .ge u v).map .bool) := (binI0 op_ge (fun i j => .bool (decide (j ≤ i))) fun _ _ _ _ => rfl).imp fun u v w e => by cases u <;> cases v <;> simp_all [opC]
theorem flat_v {K : PySem.W.Frag} {H : Hp} {r : RI} {v : Val} {x : V} (h : VD K H r v x) (e : flat v = true) : flatV x = true := by
  cases v with
  | none => rw [show x = .non from h]; rfl
  | bool _ => rw [show x = _ from h]; rfl
  | int _ => rw [show x = _ from h]; rfl
  | str _ => obtain ⟨rfl, _⟩ := h; rfl
  | _ => simp [flat] at e
theorem flat_vs {K : PySem.W.Frag} {H : Hp} {r : RI} : ∀ {vs : List Val} {xs : List V}, VRs K H r vs xs → vs.all flat = true → xs.all flatV = true
  | [], _, h, _ => by rw [show _ = [] from h]; rfl
  | v :: vs, _, h, e => by
    obtain ⟨x, ys, rfl, h1, h2⟩ := h
    rw [List.all_cons, Bool.and_eq_true] at e ⊢
    exact ⟨flat_v h1.vd e.1, flat_vs h2 e.2⟩
theorem eqV_flat {K : PySem.W.Frag} {H : Hp} {r : RI} {u v : Val} {x y : V} (hu : VD K H r u x) (hv : VD K H r v y) (fu : flat u = true) (fv : flat v = true) : eqV x y = veq u v := by
  cases u with
  | none => rw [show x = .non from hu]; cases v with
    | none => rw [show y = .non from hv]; rfl
    | bool _ => rw [show y = _ from hv]; rfl
    | int _ => rw [show y = _ from hv]; rfl
    | str _ => obtain ⟨rfl, _⟩ := hv; rfl
    | _ => simp [flat] at fv
  | bool _ => rw [show x = _ from hu]; cases v with
    | none => rw [show y = .non from hv]; rfl
    | bool _ => rw [show y = _ from hv]; simp [eqV, veq]
    | int _ => rw [show y = _ from hv]; simp [eqV, veq]
    | str _ => obtain ⟨rfl, _⟩ := hv; rfl
    | _ => simp [flat] at fv
  | int _ => rw [show x = _ from hu]; cases v with
    | none => rw [show y = .non from hv]; rfl
    | bool _ => rw [show y = _ from hv]; simp [eqV, veq]
    | int _ => rw [show y = _ from hv]; simp [eqV, veq]
    | str _ => obtain ⟨rfl, _⟩ := hv; rfl
    | _ => simp [flat] at fv
  | str a => obtain ⟨rfl, _⟩ := hu; cases v with
    | none => rw [show y = .non from hv]; rfl
    | bool _ => rw [show y = _ from hv]; rfl
    | int _ => rw [show y = _ from hv]; rfl
    | str b =>
      obtain ⟨rfl, _⟩ := hv
      simp only [eqV, veq]
      rw [Bool.eq_iff_iff]
      simp
    | _ => simp [flat] at fv
  | _ => simp [flat] at fu
theorem any_flat {K : PySem.W.Frag} {H : Hp} {r : RI} {u : Val} {x : V} (hu : VD K H r u x) (fu : flat u = true) : ∀ {vs : List Val} {xs : List V}, VRs K H r vs xs → vs.all flat = true → inV x xs = vs.any (veq · u)
  | [], _, h, _ => by rw [show _ = [] from h]; rfl
  | v :: vs, _, h, e => by
    obtain ⟨y, ys, rfl, h1, h2⟩ := h
    rw [List.all_cons, Bool.and_eq_true] at e
    have ih := any_flat hu fu h2 e.2
    unfold inV at ih ⊢
    rw [List.any_cons, List.any_cons, ih, eqV_flat h1.vd hu e.1 fu]
theorem any_pd {n m : Nat} {u : Val} (du : isData n u = true) : ∀ {vs : List Val}, isDatas m vs = true → ((toPDs vs).any fun z => PyData.eqv z (toPD u)) = vs.any (veq · u)
  | [], _ => by simp [toPDs]
  | v :: vs, d => by
    simp only [isDatas, Bool.and_eq_true] at d
    simp only [toPDs, List.any_cons, any_pd du d.2, veq_pd m n v u d.1 du]
theorem binIn (hu : X.A.units + 65 < cLine) : BinOk X (compareOp .In) (fun u v => (opC .in_ u v).map .bool) := by
  refine ⟨_, (op_in_sign.or (op_inD hu)).or op_in_seq, fun σ sl H r mu u v w x y Q at_ hx hy e q => ?_⟩
  simp only [Option.map_eq_some_iff] at e
  obtain ⟨b, e, rfl⟩ := e
  cases v with
  | str t =>
    obtain ⟨c, rfl⟩ : ∃ c, u = .str [c] := by
      cases u with
      | str s => match s, e with | [c], _ => exact ⟨c, rfl⟩
      | _ => simp [opC] at e
    obtain ⟨rfl, _⟩ := hx
    obtain ⟨rfl, _⟩ := hy
    refine .inl (.inl ⟨c, ⟨t.toArray⟩, rfl, rfl, ?_⟩)
    simp only [opC] at e
    cases e
    have : decide (c ∈ (⟨t.toArray⟩ : Str).cps.toList) = t.contains c := by simp
    rw [this]
    exact q.val at_ rfl
  | lst vs =>
    simp only [opC] at e
    split at e
    · rename_i hd
      cases e
      rw [Bool.and_eq_true] at hd
      obtain ⟨d1, s1⟩ := hx.dp hd.1 (by omega)
      obtain ⟨d2, s2⟩ := hy.dp (n := 17) (by simpa [isData] using hd.2) (by omega)
      refine .inl (.inr ⟨_, toPDs vs, d1, by simpa [toPD] using d2, s1, by simpa [toPD] using s2, ?_⟩)
      rw [any_pd hd.1 hd.2]
      exact q.val at_ rfl
    · cases e
  | tup vs =>
    simp only [opC] at e
    split at e
    · rename_i hd
      cases e
      rw [Bool.and_eq_true] at hd
      obtain ⟨p, xs, rfl, h1, h2⟩ := hy
      refine .inr ⟨p, xs, rfl, .inr h1, flat_v hx hd.1, flat_vs h2 hd.2, ?_⟩
      rw [any_flat hx hd.1 h2 hd.2]
      exact q.val at_ rfl
    · cases e
  | _ => cases u <;> simp [opC] at e
theorem binNotIn (hu : X.A.units + 65 < cLine) : BinOk X (compareOp .NotIn) (fun u v => (opC .notIn u v).map .bool) := by
  refine ⟨_, (op_notIn_sign.or (op_notInD hu)).or op_notIn_seq, fun σ sl H r mu u v w x y Q at_ hx hy e q => ?_⟩
  simp only [Option.map_eq_some_iff] at e
  obtain ⟨b, e, rfl⟩ := e
  cases v with
  | str t =>
    obtain ⟨c, rfl⟩ : ∃ c, u = .str [c] := by
      cases u with
      | str s => match s, e with | [c], _ => exact ⟨c, rfl⟩
      | _ => simp [opC] at e
    obtain ⟨rfl, _⟩ := hx
    obtain ⟨rfl, _⟩ := hy
    refine .inl (.inl ⟨c, ⟨t.toArray⟩, rfl, rfl, ?_⟩)
    simp only [opC] at e
    cases e
    have : decide (c ∈ (⟨t.toArray⟩ : Str).cps.toList) = t.contains c := by simp
    rw [this]
    exact q.val at_ rfl
  | lst vs =>
    simp only [opC] at e
    split at e
    · rename_i hd
      cases e
      rw [Bool.and_eq_true] at hd
      obtain ⟨d1, s1⟩ := hx.dp hd.1 (by omega)
      obtain ⟨d2, s2⟩ := hy.dp (n := 17) (by simpa [isData] using hd.2) (by omega)
      refine .inl (.inr ⟨_, toPDs vs, d1, by simpa [toPD] using d2, s1, by simpa [toPD] using s2, ?_⟩)
      rw [any_pd hd.1 hd.2]
      exact q.val at_ rfl
    · cases e
  | tup vs =>
    simp only [opC] at e
    split at e
    · rename_i hd
      cases e
      rw [Bool.and_eq_true] at hd
      obtain ⟨p, xs, rfl, h1, h2⟩ := hy
      refine .inr ⟨p, xs, rfl, .inr h1, flat_v hx hd.1, flat_vs h2 hd.2, ?_⟩
      rw [any_flat hx hd.1 h2 hd.2]
      exact q.val at_ rfl
    · cases e
  | _ => cases u <;> simp [opC] at e
def cmpOf : COp → CmpOp
  | .eq => .Eq | .ne => .NotEq | .lt => .Lt | .le => .LtE | .gt => .Gt | .ge => .GtE | .is_ => .Is | .isNot => .IsNot | .in_ => .In | .notIn => .NotIn
theorem cmpOk (hu : X.A.units + 65 < cLine) (op : COp) : BinOk X (compareOp (cmpOf op)) (fun u v => (opC op u v).map .bool) := by
  cases op with
  | eq => exact binEq hu
  | ne => exact binNe hu
  | lt => exact binLt
  | le => exact binLe
  | gt => exact binGt
  | ge => exact binGe
  | is_ => exact binIs
  | isNot => exact binIsNot
  | in_ => exact binIn hu
  | notIn => exact binNotIn hu
end
end M
end F_M3b
section F_M3c
set_option maxRecDepth 100000
namespace M
open PySem PySem.Spec PyProof.Rows L2
section
variable {X : Cx}
theorem VRs.atI {K : PySem.W.Frag} {H : Hp} {r : RI} {vs : List Val} {xs : List V} {i : Int} {w : Val} (h : VRs K H r vs xs) (e : M.atI vs i = some w) : ∃ x, L2.atI xs i = some x ∧ VR K H r w x := by
  unfold M.atI L2.atI at e
  unfold L2.atI
  rw [← h.len]
  cases hj : L2.ixN vs.length i with
  | none => rw [hj] at e; cases e
  | some j =>
    rw [hj] at e
    exact h.get e
theorem ixOk : ∃ rr : R2, IxR X rr ∧ ∀ (σ : L2.St) (sl : List Slot) (H : Hp) (r : RI) (mu : List Obj) (u v w : Val) (x y : V) (Q : VK), At X.K σ sl H r mu → VD X.K H r u x → VD X.K H r v y → opIx u v = some w →
    Fin X.K σ sl H r mu w Q → rr x y H Q := by
  refine ⟨_, ix_seq, fun σ sl H r mu u v w x y Q at_ hx hy e q => ?_⟩
  cases v with
  | int i =>
    have hy : y = .int i := hy
    subst hy
    cases u with
    | lst vs =>
      obtain ⟨p, xs, rfl, h1, h2⟩ := hx
      obtain ⟨z, e1, e2⟩ := h2.atI e
      exact .inl ⟨p, xs, i, z, rfl, rfl, SqL.of h1, e1, q.val at_ e2⟩
    | rol vs =>
      obtain ⟨p, xs, rfl, h1, h2⟩ := hx
      obtain ⟨z, e1, e2⟩ := h2.atI e
      exact .inl ⟨p, xs, i, z, rfl, rfl, h1.sq, e1, q.val at_ e2⟩
    | tup vs =>
      obtain ⟨p, xs, rfl, h1, h2⟩ := hx
      obtain ⟨z, e1, e2⟩ := h2.atI e
      exact .inr (.inl ⟨p, xs, i, z, rfl, rfl, h1, e1, q.val at_ e2⟩)
    | str s =>
      obtain ⟨rfl, hs⟩ := hx
      simp only [opIx] at e
      split at e
      · rename_i hl
        obtain ⟨c, e1, rfl⟩ := Option.map_eq_some_iff.mp e
        refine .inr (.inr ⟨_, i, c, rfl, rfl, by rw [str_len, line_eq]; exact hl, by simpa using e1, q.val at_ ⟨rfl, ?_⟩⟩)
        have hc : c ∈ s := by
          unfold M.atI L2.atI at e1
          cases hj : L2.ixN s.length i with
          | none => rw [hj] at e1; cases e1
          | some j => rw [hj] at e1; exact List.mem_of_getElem? e1
        have := (List.all_eq_true.mp hs) c hc
        simpa using this
      · cases e
    | _ => simp [opIx] at e
  | _ => cases u <;> simp [opIx] at e
theorem VRs.cut {K : PySem.W.Frag} {H : Hp} {r : RI} {vs : List Val} {xs : List V} (lo hi : Option Int) (h : VRs K H r vs xs) : VRs K H r (M.cut vs lo hi) (cutV xs lo hi) := by
  unfold M.cut cutV
  rw [← h.len]
  exact (h.drop _).take _
theorem all_cut {s : Tx} {lo hi : Option Int} (h : s.all (· < 1114112) = true) : (M.cut s lo hi).all (· < 1114112) = true := by
  rw [List.all_eq_true] at h ⊢
  exact fun c hc => h c (List.mem_of_mem_drop (List.mem_of_mem_take hc))
theorem slOk : ∃ rr : V → Option Int → Option Int → Hp → VK → Prop, SlR X rr ∧ ∀ (σ : L2.St) (sl : List Slot) (H : Hp) (r : RI) (mu : List Obj) (u w : Val) (x : V) (lo hi : Option Int) (Q : VK), At X.K σ sl H r mu → VD X.K H r u x → opSl u lo hi = some w →
    Fin X.K σ sl H r mu w Q → rr x lo hi H Q := by
  refine ⟨_, sl_list.or (sl_tupA.or sl_str), fun σ sl H r mu u w x lo hi Q at_ hx e q => ?_⟩
  cases u with
  | lst vs =>
    cases e
    obtain ⟨p, xs, rfl, h1, h2⟩ := hx
    exact .inl ⟨p, xs, rfl, SqL.of h1, fun l hl => q.lst at_ (h2.cut lo hi) hl⟩
  | rol vs =>
    cases e
    obtain ⟨p, xs, rfl, h1, h2⟩ := hx
    exact .inl ⟨p, xs, rfl, h1.sq, fun l hl => q.lst at_ (h2.cut lo hi) hl⟩
  | tup vs =>
    cases e
    obtain ⟨p, xs, rfl, h1, h2⟩ := hx
    refine .inr (.inl ⟨p, xs, rfl, h1, fun hw => ?_, fun _ l hl => q.tup at_ (h2.cut lo hi) hl⟩)
    have e : M.cut vs lo hi = vs := by
      unfold M.cut M.sIx
      rw [h2.len, hw.1, hw.2, List.drop_zero, Nat.sub_zero, ← h2.len, List.take_length]
    rw [e] at q
    exact q.val at_ ⟨p, xs, rfl, h1, h2⟩
  | str s =>
    obtain ⟨rfl, hs⟩ := hx
    simp only [opSl] at e
    split at e
    · rename_i hl
      cases e
      refine .inr (.inr ⟨_, rfl, by rw [str_len, line_eq]; exact hl, ?_⟩)
      have e : cutS ⟨s.toArray⟩ lo hi = ⟨(M.cut s lo hi).toArray⟩ := by
        unfold cutS M.cut M.sIx
        rw [str_len]
      rw [e]
      exact q.val at_ ⟨rfl, all_cut hs⟩
    · cases e
  | _ => simp [opSl] at e
theorem tru_v {K : PySem.W.Frag} {H : Hp} {r : RI} {v : Val} {x : V} {b : Bool} (h : VD K H r v x) (e : tru v = some b) : TruV K x H b := by
  cases v with
  | none => cases e; rw [show x = .non from h]; rfl
  | bool _ => cases e; rw [show x = _ from h]; rfl
  | int _ => cases e; rw [show x = _ from h]; rfl
  | str s =>
    obtain ⟨rfl, _⟩ := h
    simp only [tru] at e
    split at e
    · rename_i hl
      cases e
      refine ⟨by rw [str_len, line_eq]; exact hl, ?_⟩
      rw [str_len]
      cases s <;> simp
      omega
    · cases e
  | tup vs =>
    cases e
    obtain ⟨p, xs, rfl, h1, h2⟩ := h
    refine .inr (.inl ⟨xs, h1, ?_⟩)
    have := h2.len
    cases vs <;> cases xs <;> simp_all
  | lst vs =>
    cases e
    obtain ⟨p, xs, rfl, h1, h2⟩ := h
    refine .inl ⟨xs, SqL.of h1, ?_⟩
    have := h2.len
    cases vs <;> cases xs <;> simp_all
  | _ => simp [tru] at e
def VDs (K : PySem.W.Frag) (H : Hp) (r : RI) : List Val → List V → Prop
  | [], xs => xs = []
  | v :: vs, xs => ∃ x ys, xs = x :: ys ∧ VD K H r v x ∧ VDs K H r vs ys
def CallOk (X : Cx) (f : Value) (g : List Val → Option Val) : Prop :=
  ∃ rr : List V → Hp → VK → Prop, CallR X f rr ∧ ∀ (σ : L2.St) (sl : List Slot) (H : Hp) (r : RI) (mu : List Obj) (us : List Val) (w : Val) (xs : List V) (Q : VK), At X.K σ sl H r mu → VDs X.K H r us xs → g us = some w →
    Fin X.K σ sl H r mu w Q → rr xs H Q
theorem callNone {f : Value} {g : List Val → Option Val} (h : ∀ us, g us = none) : CallOk X f g :=
  ⟨fun _ _ _ => False, fun _ _ _ _ _ _ _ _ _ z => z.elim, fun _ _ _ _ _ us _ _ _ _ _ e _ => by rw [h] at e; cases e⟩
def bfName : BF → String
  | .len => "len" | .isinstance => "isinstance" | .max2 => "max" | .min2 => "min" | .int_ => "int" | .str_ => "str" | .list_ => "list" | .tuple_ => "tuple" | .all_ => "all" | .any_ => "any" | .abs_ => "abs" | .sum_ => "sum" | .bool_ => "bool" | .divmod => "divmod" | .repr_ => "repr"
def bfVal : BF → Value
  | .int_ => .type "int" | .str_ => .type "str" | .list_ => .type "list" | .tuple_ => .type "tuple" | .bool_ => .type "bool"
  | f => .builtin (bfName f)
theorem VDs.one {K : PySem.W.Frag} {H : Hp} {r : RI} {v : Val} {xs : List V} (h : VDs K H r [v] xs) : ∃ x, xs = [x] ∧ VD K H r v x := by
  obtain ⟨x, ys, rfl, h1, h2⟩ := h
  rw [show ys = [] from h2]
  exact ⟨x, rfl, h1⟩
theorem VDs.two {K : PySem.W.Frag} {H : Hp} {r : RI} {v w : Val} {xs : List V} (h : VDs K H r [v, w] xs) : ∃ x y, xs = [x, y] ∧ VD K H r v x ∧ VD K H r w y := by
  obtain ⟨x, ys, rfl, h1, y, zs, rfl, h2, h3⟩ := h
  rw [show zs = [] from h3]
  exact ⟨x, y, rfl, h1, h2⟩
theorem lenOk : CallOk X (.builtin "len") (opF .len) := by
  refine ⟨_, call_len, fun σ sl H r mu us w xs Q at_ hx e q => ?_⟩
  match us, e with
  | [.str s], e =>
    obtain ⟨x, rfl, rfl, _⟩ := hx.one
    simp only [opF] at e
    split at e
    · rename_i hl
      cases e
      exact ⟨_, s.length, rfl, ⟨by rw [str_len, line_eq]; exact hl, by rw [str_len]⟩, q.val at_ rfl⟩
    · cases e
  | [.lst vs], e =>
    cases e
    obtain ⟨x, rfl, p, xs, rfl, h1, h2⟩ := hx.one
    exact ⟨_, vs.length, rfl, .inl ⟨xs, SqL.of h1, h2.len⟩, q.val at_ rfl⟩
  | [.rol vs], e =>
    cases e
    obtain ⟨x, rfl, p, xs, rfl, h1, h2⟩ := hx.one
    exact ⟨_, vs.length, rfl, .inl ⟨xs, h1.sq, h2.len⟩, q.val at_ rfl⟩
  | [.tup vs], e =>
    cases e
    obtain ⟨x, rfl, p, xs, rfl, h1, h2⟩ := hx.one
    exact ⟨_, vs.length, rfl, .inr ⟨xs, h1, h2.len⟩, q.val at_ rfl⟩
def ExA (H : Hp) (C a : Addr) : Prop := ∃ d, H a = some (ExH (.ref C) d a) ∧ (d = none ∨ ∃ dd fl, d = some dd ∧ H dd = some (.xd fl))
theorem exA {K : PySem.W.Frag} {H : Hp} {r : RI} {ns : List Str} {fs : List Val} {C a : Addr} {d : Option Addr} (h : H a = some (ExH (.ref C) d a)) {Cx : Addr} (x : XD K H r Cx ns fs d) : ExA H C a := by
  refine ⟨d, h, ?_⟩
  rcases x with ⟨_, _, e⟩ | ⟨dd, fl, _, e, ⟨_, h2⟩, _⟩
  · exact .inl e
  · exact .inr ⟨dd, fl, e, h2⟩
theorem ExA.inst {X : Cx} {pins : List (Addr × PySem.Obj)} {σ : L2.St} {H : Hp} {s : Shared} {C a : Addr} (I : Inv X pins σ H s) (h : ExA H C a) : ∃ oe od, PySem.W.InstAt s.heap a oe C od := by
  obtain ⟨d, ha, hd⟩ := h
  obtain ⟨⟨oe, vs, ho, hz, hv⟩, _, _⟩ := I.hok a _ ha
  obtain ⟨oc, od, oda, osl⟩ := oe
  obtain ⟨h1, h2⟩ := hz
  dsimp only at h1 h2 hv
  subst h1 h2 hv
  rcases hd with rfl | ⟨dd, fl, rfl, hx⟩
  · exact ⟨_, none, ho, rfl, rfl, trivial⟩
  · obtain ⟨mA, hns, _⟩ : ObjOk X.prog X.w H s.heap dd (.xd fl) := I.hok dd _ hx
    obtain ⟨o, _, _, e, _⟩ := hns
    exact ⟨_, some o, ho, rfl, rfl, e⟩
theorem isi_v {K : PySem.W.Frag} {H : Hp} {r : RI} {v : Val} {x : V} {c : Ty} {b : Bool} (h : VD K H r v x) (e : isInst v c = some b) : (∃ t, TyX K H x t ∧ PySem.W.kitOne K t (.type c.name) = some b) ∨ ∃ a C, x = .ref a ∧ ExA H C a ∧ EK K C ∧ PySem.W.kitOne K (.ref C) (.type c.name) = some b := by
  cases v with
  | none => rw [show x = .non from h]; exact .inl ⟨_, .base .non, by cases e; cases c <;> rfl⟩
  | bool _ => rw [show x = _ from h]; exact .inl ⟨_, .base (.bl _), by cases e; cases c <;> rfl⟩
  | int _ => rw [show x = _ from h]; exact .inl ⟨_, .base (.int _), by cases e; cases c <;> rfl⟩
  | str s => obtain ⟨rfl, _⟩ := h; exact .inl ⟨_, .base (.str _), by cases e; cases c <;> rfl⟩
  | lst vs => obtain ⟨p, xs, rfl, h1, _⟩ := h; exact .inl ⟨_, .base (.lst h1), by cases e; cases c <;> rfl⟩
  | exc d ns fs =>
    obtain ⟨a, dd, rfl, ⟨_, h1⟩, h2, h3⟩ := h
    refine .inr ⟨a, _, rfl, exA h1 h3, h2, ?_⟩
    cases c <;> cases e
    exact h2.ve
  | tup vs =>
    obtain ⟨p, xs, rfl, h1, _⟩ := h
    refine .inl ⟨.type "tuple", ?_, by cases e; cases c <;> rfl⟩
    rcases h1 with (h1 | ⟨o, h1⟩) | ⟨o, its, n, h1, h2, _⟩
    · exact .base (.tup h1)
    · exact .fTuple h1
    · exact .kTuple h1 h2
  | _ => simp [isInst] at e
theorem isc_v {K : PySem.W.Frag} {H : Hp} {r : RI} {v : Val} {x : V} {c : Str} {subs nots : List Str} {b : Bool} (h : VD K H r v x) (hc : CF K c subs nots) (e : isInstC v subs nots = some b) :
    (∃ t, TyX K H x t ∧ PySem.W.kitOne K t (.ref (clA K c)) = some b) ∨ ∃ a C, x = .ref a ∧ ExA H C a ∧ EK K C ∧ PySem.W.kitOne K (.ref C) (.ref (clA K c)) = some b := by
  cases v with
  | none => cases e; rw [show x = .non from h]; exact .inl ⟨_, .base .non, hc.bt "NoneType" (by simp)⟩
  | bool _ => cases e; rw [show x = _ from h]; exact .inl ⟨_, .base (.bl _), hc.bt "bool" (by simp)⟩
  | int _ => cases e; rw [show x = _ from h]; exact .inl ⟨_, .base (.int _), hc.bt "int" (by simp)⟩
  | str s => cases e; obtain ⟨rfl, _⟩ := h; exact .inl ⟨_, .base (.str _), hc.bt "str" (by simp)⟩
  | lst vs => cases e; obtain ⟨p, xs, rfl, h1, _⟩ := h; exact .inl ⟨_, .base (.lst h1), hc.bt "list" (by simp)⟩
  | tup vs =>
    cases e
    obtain ⟨p, xs, rfl, h1, _⟩ := h
    refine .inl ⟨.type "tuple", ?_, hc.bt "tuple" (by simp)⟩
    rcases h1 with (h1 | ⟨o, h1⟩) | ⟨o, its, n, h1, h2, _⟩
    · exact .base (.tup h1)
    · exact .fTuple h1
    · exact .kTuple h1 h2
  | exc d ns fs =>
    obtain ⟨a, dd, rfl, ⟨_, h1⟩, h2, h3⟩ := h
    refine .inr ⟨a, _, rfl, exA h1 h3, h2, ?_⟩
    simp only [isInstC] at e
    split at e
    · rename_i hs
      cases e
      exact (hc.yes d (by simpa using hs)).1
    · split at e
      · rename_i hs
        cases e
        exact (hc.no d (by simpa using hs)).1
      · cases e
  | _ => simp [isInstC] at e
def rIsH (K : PySem.W.Frag) : List V → Hp → VK → Prop := fun xs H Q => ∃ (a C c : Addr) (b : Bool), xs = [.ref a, .ref c] ∧ ExA H C a ∧ EK K C ∧ PySem.W.kitOne K (.ref C) (.ref c) = some b ∧ Q (.bl b) H
def rIsT (K : PySem.W.Frag) : List V → Hp → VK → Prop := fun xs H Q => ∃ (a C : Addr) (T : String) (b : Bool), xs = [.ref a, .ty T] ∧ ExA H C a ∧ EK K C ∧ PySem.W.kitOne K (.ref C) (.type T) = some b ∧ Q (.bl b) H
def rIsO (K : PySem.W.Frag) : List V → Hp → VK → Prop := fun xs H Q => ∃ (x : V) (c : Addr) (t : Value) (b : Bool), xs = [x, .ref c] ∧ TyX K H x t ∧ PySem.W.kitOne K t (.ref c) = some b ∧ Q (.bl b) H
theorem call_is2 {X : Cx} : CallR X (.builtin "isinstance") (fun xs H Q => rIsi X.K xs H Q ∨ rIsO X.K xs H Q ∨ rIsH X.K xs H Q ∨ rIsT X.K xs H Q) := by
  intro pins s σ H xs us Q I r h
  rcases h with h | ⟨x, c, t, b, rfl, ty, e, q⟩ | ⟨a, C, c, b, rfl, ha, ek, e, q⟩ | ⟨a, C, c, b, rfl, ha, ek, e, q⟩
  · exact call_isi pins s σ H xs us Q I r h
  · obtain ⟨u1, u2, rfl, r1, r2⟩ := vals2 r
    cases (show u2 = Value.ref c from r2)
    obtain ⟨P, Z, p, hx⟩ := kit_of I r1 ty
    exact PySem.W.kia_one Z I.kIn p e hx fun tk => ⟨.bl b, H, I.tok tk, rfl, q⟩
  · obtain ⟨u1, u2, rfl, r1, r2⟩ := vals2 r
    cases (show u1 = Value.ref a from r1)
    cases (show u2 = Value.ref c from r2)
    obtain ⟨oe, od, J⟩ := ha.inst I
    exact PySem.W.kia_one (PySem.W.kitx_exc ek.cl ek.ga ek.gg ek.sb ek.ca ek.cg ek.tk ek.mo) I.kIn J e (fun z => nomatch z) fun tk => ⟨.bl b, H, I.tok tk, rfl, q⟩
  · obtain ⟨u1, u2, rfl, r1, r2⟩ := vals2 r
    cases (show u1 = Value.ref a from r1)
    cases (show u2 = Value.type c from r2)
    obtain ⟨oe, od, J⟩ := ha.inst I
    exact PySem.W.kia_one (PySem.W.kitx_exc ek.cl ek.ga ek.gg ek.sb ek.ca ek.cg ek.tk ek.mo) I.kIn J e (fun z => nomatch z) fun tk => ⟨.bl b, H, I.tok tk, rfl, q⟩
theorem isiOk : CallOk X (.builtin "isinstance") (opF .isinstance) := by
  refine ⟨_, call_is2, fun σ sl H r mu us w xs Q at_ hx e q => ?_⟩
  match us, e with
  | [v, .ty c], e =>
    obtain ⟨b, e1, rfl⟩ := Option.map_eq_some_iff.mp e
    obtain ⟨x, y, rfl, h1, h2⟩ := hx.two
    have h2 : y = .ty c.name := h2
    subst h2
    rcases isi_v h1 e1 with ⟨t, h3, h4⟩ | ⟨a, C, rfl, h3, h4, h5⟩
    · exact .inl ⟨x, _, t, _, b, rfl, .ty _, h3, h4, q.val at_ rfl⟩
    · exact .inr (.inr (.inr ⟨a, C, _, b, rfl, h3, h4, h5, q.val at_ rfl⟩))
  | [v, .cls c subs nots], e =>
    obtain ⟨b, e1, rfl⟩ := Option.map_eq_some_iff.mp e
    obtain ⟨x, y, rfl, h1, h2⟩ := hx.two
    obtain ⟨rfl, h2⟩ : y = .ref (clA X.K c) ∧ CF X.K c subs nots := h2
    rcases isc_v h1 h2 e1 with ⟨t, h3, h4⟩ | ⟨a, C, rfl, h3, h4, h5⟩
    · exact .inr (.inl ⟨x, _, t, b, rfl, h3, h4, q.val at_ rfl⟩)
    · exact .inr (.inr (.inl ⟨a, C, _, b, rfl, h3, h4, h5, q.val at_ rfl⟩))
theorem call2I {f : Value} {rr : List V → Hp → VK → Prop} {k : Int → Int → Int} {g : List Val → Option Val} (hr : CallR X f rr) (h : ∀ i j H Q, Q (.int (k i j)) H → rr [.int i, .int j] H Q) (hg : ∀ us w, g us = some w → ∃ i j, us = [.int i, .int j] ∧ w = .int (k i j)) : CallOk X f g := by
  refine ⟨_, hr, fun σ sl H r mu us w xs Q at_ hx e q => ?_⟩
  obtain ⟨i, j, rfl, rfl⟩ := hg _ _ e
  obtain ⟨x, y, rfl, h1, h2⟩ := hx.two
  have h1 : x = .int i := h1
  have h2 : y = .int j := h2
  subst h1 h2
  exact h i j H Q (q.val at_ rfl)
theorem call_maxT (hc : X.calm = true) (hu : X.A.units + 65 < cLine) : CallR X (.builtin "max") (fun xs H Q => (∃ i j, xs = [.int i, .int j] ∧ Q (.int (if j > i then j else i)) H) ∨ ∃ p i j, xs = [.ref p] ∧ SqT X.K H p [.int i, .int j] ∧ Q (.int (if j > i then j else i)) H) := by
  intro pins s σ H xs us Q I r h
  rcases h with h | ⟨p, i, j, rfl, hs, q⟩
  · exact call_max2 hc pins s σ H xs us Q I r h
  · obtain ⟨its, rv, hp, _⟩ := I.tuple hs
    rw [Vals.ref1 r]
    obtain ⟨u, w', rfl, ⟨t, rfl⟩, ⟨t', rfl⟩⟩ := vals2 rv
    refine PySem.W.max_tuple_datum (x := i) (xs := [j]) (I.ok.hd hc) hp (PySem.W.HoldAll.cons (PySem.W.holds_int i t) (PySem.W.HoldAll.cons (PySem.W.holds_int j t') PySem.W.HoldAll.nil)) (by show X.A.units + 1 + 0 < cLine; omega) fun k v h' tk _ hv hk => ?_
    obtain ⟨t2, rfl⟩ := PySem.W.int_of_holds hv
    refine ⟨.int (PySem.W.maxOf i [j]), H, I.kept hk, ⟨t2, rfl⟩, ?_⟩
    have e : PySem.W.maxOf i [j] = if j > i then j else i := by
      show (if decide (i < j) = true then j else i) = _
      by_cases h : i < j
      · rw [if_pos (decide_eq_true h), if_pos h]
      · rw [if_neg (by simp [h]), if_neg h]
    rw [e]
    exact q
theorem max2Ok (hc : X.calm = true) (hu : X.A.units + 65 < cLine) : CallOk X (.builtin "max") (opF .max2) := by
  refine ⟨_, call_maxT hc hu, fun σ sl H r mu us w xs Q at_ hx e q => ?_⟩
  match us, e with
  | [.int i, .int j], e =>
    cases e
    obtain ⟨x, y, rfl, h1, h2⟩ := hx.two
    have h1 : x = .int i := h1
    have h2 : y = .int j := h2
    subst h1 h2
    exact .inl ⟨i, j, rfl, q.val at_ rfl⟩
  | [.tup [.int i, .int j]], e =>
    cases e
    obtain ⟨x, rfl, p, xs, rfl, h1, h2⟩ := hx.one
    obtain ⟨x1, ys, rfl, k1, x2, zs, rfl, k2, k3⟩ := h2
    cases (show x1 = .int i from k1)
    cases (show x2 = .int j from k2)
    cases (show zs = [] from k3)
    exact .inr ⟨p, i, j, rfl, h1, q.val at_ rfl⟩
theorem divmodOk : CallOk X (.builtin "divmod") (opF .divmod) := by
  refine ⟨_, call_divmod, fun σ sl H r mu us w xs Q at_ hx e q => ?_⟩
  match us, e with
  | [.int i, .int j], e =>
    simp only [opF] at e
    split at e
    · rename_i hj
      cases e
      obtain ⟨x, y, rfl, h1, h2⟩ := hx.two
      have h1 : x = .int i := h1
      have h2 : y = .int j := h2
      subst h1 h2
      exact ⟨i, j, rfl, hj, fun p hp => q.tup at_ ⟨_, _, rfl, rfl, _, _, rfl, rfl, rfl⟩ hp⟩
    · cases e
theorem min2Ok (hc : X.calm = true) : CallOk X (.builtin "min") (opF .min2) := by
  refine call2I (call_min2 hc) (k := fun i j => if j < i then j else i) (fun i j H Q q => ⟨i, j, rfl, q⟩) fun us w e => ?_
  match us, e with
  | [.int i, .int j], e => cases e; exact ⟨i, j, rfl, rfl⟩
theorem listOk : CallOk X (.type "list") (opF .list_) := by
  refine ⟨_, call_list_of, fun σ sl H r mu us w xs Q at_ hx e q => ?_⟩
  match us, e with
  | [.lst vs], e =>
    cases e
    obtain ⟨x, rfl, p, xs, rfl, h1, h2⟩ := hx.one
    exact ⟨p, xs, rfl, .inl (SqL.of h1), fun l hl => q.lst at_ h2 hl⟩
  | [.tup vs], e =>
    cases e
    obtain ⟨x, rfl, p, xs, rfl, h1, h2⟩ := hx.one
    exact ⟨p, xs, rfl, .inr h1, fun l hl => q.lst at_ h2 hl⟩
theorem tupleOk : CallOk X (.type "tuple") (opF .tuple_) := by
  refine ⟨_, call_tuple_of, fun σ sl H r mu us w xs Q at_ hx e q => ?_⟩
  match us, e with
  | [.lst vs], e =>
    cases e
    obtain ⟨x, rfl, p, xs, rfl, h1, h2⟩ := hx.one
    exact ⟨p, xs, rfl, .inl ⟨SqL.of h1, fun l hl => q.tup at_ h2 hl⟩⟩
  | [.tup vs], e =>
    cases e
    obtain ⟨x, rfl, p, xs, rfl, h1, h2⟩ := hx.one
    exact ⟨p, xs, rfl, .inr ⟨h1, q.val at_ ⟨p, xs, rfl, h1, h2⟩⟩⟩
theorem absOk : CallOk X (.builtin "abs") (opF .abs_) := by
  refine ⟨_, call_abs, fun σ sl H r mu us w xs Q at_ hx e q => ?_⟩
  match us, e with
  | [.int i], e =>
    cases e
    obtain ⟨x, rfl, h1⟩ := hx.one
    have h1 : x = .int i := h1
    subst h1
    exact ⟨i, rfl, q.val at_ rfl⟩
theorem digit_of {c : Nat} (h : 48 ≤ c ∧ c < 58) : PySem.intText? ⟨#[c]⟩ = some ((c : Int) - 48) := by
  obtain ⟨k, hk, rfl⟩ : ∃ k, k < 10 ∧ c = 48 + k := ⟨c - 48, by omega, by omega⟩
  clear h
  have : ∀ k, k < 10 → PySem.intText? ⟨#[48 + k]⟩ = some (((48 + k : Nat) : Int) - 48) := by decide +kernel
  exact this k hk
theorem call_intT : CallR X (.type "int") (fun xs H Q => ((∃ i, xs = [.int i] ∧ Q (.int i) H) ∨ ∃ k, xs = [.bl k] ∧ Q (.int (if k then 1 else 0)) H) ∨ ∃ a n, xs = [.str a] ∧ PySem.intText? a = some n ∧ a.length ≤ 640 ∧ Q (.int n) H) :=
  fun pins s σ H xs us Q I r h => h.elim (call_int1 pins s σ H xs us Q I r) (call_int_str pins s σ H xs us Q I r)
theorem intOk : CallOk X (.type "int") (opF .int_) := by
  refine ⟨_, call_intT, fun σ sl H r mu us w xs Q at_ hx e q => ?_⟩
  match us, e with
  | [.int i], e =>
    cases e
    obtain ⟨x, rfl, h1⟩ := hx.one
    have h1 : x = .int i := h1
    subst h1
    exact .inl (.inl ⟨i, rfl, q.val at_ rfl⟩)
  | [.bool b], e =>
    cases e
    obtain ⟨x, rfl, h1⟩ := hx.one
    have h1 : x = .bl b := h1
    subst h1
    exact .inl (.inr ⟨b, rfl, q.val at_ rfl⟩)
  | [.str [c]], e =>
    simp only [opF] at e
    split at e
    · rename_i hc
      cases e
      obtain ⟨x, rfl, h1⟩ := hx.one
      obtain ⟨rfl, _⟩ := VD.str h1
      exact .inr ⟨_, _, rfl, digit_of hc, by rw [str_len]; simp, q.val at_ rfl⟩
    · cases e
theorem call_repr (hu : X.A.units + 65 < cLine) (hg : X.A.guards = some []) : CallR X (.builtin "repr") (fun xs H Q => ∃ x d, xs = [x] ∧ Dp X.K H x d ∧ d.showable = true ∧ d.canLay0 = true ∧ d.depth ≤ 16 ∧ d.shown.length ≤ sizeLine ∧ Q (.str d.shown) H) := by
  intro pins s σ H xs us Q I r h
  obtain ⟨x, d, rfl, hd, h1, h2, h3, h4, q⟩ := h
  obtain ⟨u, rfl, ru⟩ := vals1 r
  obtain ⟨as, rd⟩ := Dp.reads I d x u hd ru
  cases d with
  | none => cases rd; exact PySem.P.repr_of_none ⟨.str _, H, I.tok _, ⟨_, rfl⟩, by simpa only [PyData.shown] using q⟩
  | bool b => cases rd; exact PySem.P.repr_of_bool ⟨.str _, H, I.tok _, ⟨_, rfl⟩, by simpa only [PyData.shown] using q⟩
  | int i => cases rd; exact PySem.P.repr_of_int (by simpa [PyData.showable] using h1) ⟨.str _, H, I.tok _, ⟨_, rfl⟩, by simpa only [PyData.shown] using q⟩
  | str t => cases rd; exact PySem.P.repr_of_str ⟨.str _, H, I.tok _, ⟨_, rfl⟩, by simpa only [PyData.shown] using q⟩ (hsz := by simpa only [PyData.shown] using h4)
  | list ds =>
    have hn := PyData.hasDict_of_canLay _ h2
    cases rd with
    | list k1 k2 k3 k4 => exact repr_of_reads' (.list k1 k2 k3 k4) h1 (PyData.noDict_hsm hn) hg (by omega) (fun _ _ z => z) (fun h' t tk hk => ⟨.str _, H, I.kept hk, ⟨t, rfl⟩, q⟩) (hsz := h4)
  | tuple ds =>
    have hn := PyData.hasDict_of_canLay _ h2
    cases rd with
    | tuple k1 k2 k3 k4 => exact repr_of_reads' (.tuple k1 k2 k3 k4) h1 (PyData.noDict_hsm hn) hg (by omega) (fun _ _ z => z) (fun h' t tk hk => ⟨.str _, H, I.kept hk, ⟨t, rfl⟩, q⟩) (hsz := h4)
  | dict ds => cases hd
theorem call_strD (hu : X.A.units + 65 < cLine) (hg : X.A.guards = some []) : CallR X (.type "str") (fun xs H Q => (∃ a, xs = [.str a] ∧ Q (.str a) H) ∨ ∃ x d, xs = [x] ∧ (∀ t, d ≠ .str t) ∧ Dp X.K H x d ∧ d.showable = true ∧ d.canLay0 = true ∧ d.depth ≤ 16 ∧ d.shown.length ≤ sizeLine ∧ Q (.str d.shown) H) := by
  intro pins s σ H xs us Q I r h
  rcases h with ⟨a, rfl, q⟩ | ⟨x, d, rfl, h0, hd, h1, h2, h3, h4, q⟩
  · obtain ⟨u, rfl, t, rfl⟩ := vals1 r
    exact PySem.P.str_of_str ⟨.str a, H, I, ⟨t, rfl⟩, q⟩
  obtain ⟨u, rfl, ru⟩ := vals1 r
  obtain ⟨as, rd⟩ := Dp.reads I d x u hd ru
  cases d with
  | none => cases rd; exact PySem.P.str_of_none ⟨.str _, H, I.tok _, ⟨_, rfl⟩, by simpa only [PyData.shown] using q⟩
  | bool b => cases rd; exact PySem.P.str_of_bool ⟨.str _, H, I.tok _, ⟨_, rfl⟩, by simpa only [PyData.shown] using q⟩
  | int i => cases rd; exact PySem.P.str_of_int (by simpa [PyData.showable] using h1) ⟨.str _, H, I.tok _, ⟨_, rfl⟩, by simpa only [PyData.shown] using q⟩
  | str t => exact absurd rfl (h0 t)
  | list ds =>
    have hn := PyData.hasDict_of_canLay _ h2
    cases rd with
    | list k1 k2 k3 k4 => exact str_of_reads (.list k1 k2 k3 k4) h1 (PyData.noDict_hsm hn) hg (by omega) (fun _ _ z => z) (fun h' t tk hk => ⟨.str _, H, I.kept hk, ⟨t, rfl⟩, q⟩) (hsz := h4)
  | tuple ds =>
    have hn := PyData.hasDict_of_canLay _ h2
    cases rd with
    | tuple k1 k2 k3 k4 => exact str_of_reads (.tuple k1 k2 k3 k4) h1 (PyData.noDict_hsm hn) hg (by omega) (fun _ _ z => z) (fun h' t tk hk => ⟨.str _, H, I.kept hk, ⟨t, rfl⟩, q⟩) (hsz := h4)
  | dict ds => cases hd
theorem textV_by {v w : Val} (h : textV v = some w) : isData 16 v = true ∧ (toPD v).showable = true ∧ (toPD v).shown.length ≤ line ∧ (toPD v).shown.cps.toList.all (· < 1114112) = true ∧ w = .str (toPD v).shown.cps.toList := by
  unfold textV at h
  split at h
  · rename_i c
    cases h
    exact ⟨c.1, c.2.1, c.2.2.1, c.2.2.2, rfl⟩
  · cases h
theorem VD.dpt {K : PySem.W.Frag} {H : Hp} {r : RI} {v : Val} {x : V} (d : isData 16 v = true) (h : VD K H r v x) : Dp K H x (toPD v) ∧ (toPD v).canLay0 = true ∧ (toPD v).depth ≤ 16 := by
  cases v with
  | lst vs =>
    obtain ⟨p, xs, rfl, h1, h2⟩ := h
    obtain ⟨q1, q2, q3⟩ := VRs.dp 15 vs xs (by simpa [isData] using d) h2
    exact ⟨.lst (SqL.of h1) q1, by simpa [toPD, PyData.canLay0] using q2, by simp only [toPD, PyData.depth]; omega⟩
  | _ => exact VR.dp (r := r) 16 _ _ d h
theorem vr_text {K : PySem.W.Frag} {H : Hp} {r : RI} {t : Str} (h : t.cps.toList.all (· < 1114112) = true) : VR K H r (.str t.cps.toList) (.str t) := ⟨by cases t; simp, h⟩
theorem reprOk (hu : X.A.units + 65 < cLine) (hg : X.A.guards = some []) : CallOk X (.builtin "repr") (opF .repr_) := by
  refine ⟨_, call_repr hu hg, fun σ sl H r mu us w xs Q at_ hx e q => ?_⟩
  match us, e with
  | [v], e =>
    obtain ⟨d, h1, h2, h3, rfl⟩ := textV_by (show textV v = some w from e)
    obtain ⟨x, rfl, hv⟩ := hx.one
    obtain ⟨k1, k2, k3⟩ := hv.dpt d
    exact ⟨x, _, rfl, k1, h1, k2, k3, by rw [line_eq]; exact h2, q.val at_ (vr_text h3)⟩
theorem strOk (hu : X.A.units + 65 < cLine) (hg : X.A.guards = some []) : CallOk X (.type "str") (opF .str_) := by
  refine ⟨_, call_strD hu hg, fun σ sl H r mu us w xs Q at_ hx e q => ?_⟩
  match us, e with
  | [v], e =>
    have e : strV v = some w := e
    obtain ⟨x, rfl, hv⟩ := hx.one
    by_cases hs : ∃ s, v = .str s
    · obtain ⟨s, rfl⟩ := hs
      cases e
      obtain ⟨rfl, hc⟩ := VD.str hv
      exact .inl ⟨_, rfl, q.val at_ ⟨rfl, hc⟩⟩
    · have e : textV v = some w := by
        cases v with
        | str s => exact absurd ⟨s, rfl⟩ hs
        | _ => exact e
      obtain ⟨d, h1, h2, h3, rfl⟩ := textV_by e
      obtain ⟨k1, k2, k3⟩ := hv.dpt d
      refine .inr ⟨x, _, rfl, fun t z => ?_, k1, h1, k2, k3, by rw [line_eq]; exact h2, q.val at_ (vr_text h3)⟩
      cases v with
      | str s => exact hs ⟨s, rfl⟩
      | _ => simp [toPD] at z
theorem bools_v {K : PySem.W.Frag} {H : Hp} {r : RI} : ∀ {vs : List Val} {xs : List V} {bs : List Bool}, VRs K H r vs xs → boolsOf vs = some bs → xs = bs.map V.bl
  | [], _, _, h, e => by cases e; exact h
  | v :: vs, _, bs, h, e => by
    obtain ⟨x, ys, rfl, h1, h2⟩ := h
    cases v with
    | bool b =>
      simp only [boolsOf] at e
      obtain ⟨cs, e1, rfl⟩ := Option.map_eq_some_iff.mp e
      rw [bools_v h2 e1, show x = .bl b from h1]
      rfl
    | _ => simp [boolsOf] at e
theorem allOk (hc : X.calm = true) : CallOk X (.builtin "all") (opF .all_) := by
  refine ⟨_, cr_all hc, fun σ sl H r mu us w xs Q at_ hx e q => ?_⟩
  match us, e with
  | [.lst vs], e =>
    obtain ⟨bs, e1, rfl⟩ := Option.map_eq_some_iff.mp e
    obtain ⟨x, rfl, p, xs, rfl, h1, h2⟩ := hx.one
    exact ⟨p, bs, rfl, SqL.of (by rw [← bools_v h2 e1]; exact h1), q.val at_ rfl⟩
theorem anyOk (hc : X.calm = true) : CallOk X (.builtin "any") (opF .any_) := by
  refine ⟨_, cr_any hc, fun σ sl H r mu us w xs Q at_ hx e q => ?_⟩
  match us, e with
  | [.lst vs], e =>
    obtain ⟨bs, e1, rfl⟩ := Option.map_eq_some_iff.mp e
    obtain ⟨x, rfl, p, xs, rfl, h1, h2⟩ := hx.one
    exact ⟨p, bs, rfl, SqL.of (by rw [← bools_v h2 e1]; exact h1), q.val at_ rfl⟩
theorem callOk (hc : X.calm = true) (hu : X.A.units + 65 < cLine) (hg : X.A.guards = some []) (f : BF) : CallOk X (bfVal f) (opF f) := by
  cases f with
  | len => exact lenOk
  | isinstance => exact isiOk
  | max2 => exact max2Ok hc hu
  | divmod => exact divmodOk
  | min2 => exact min2Ok hc
  | int_ => exact intOk
  | repr_ => exact reprOk hu hg
  | str_ => exact strOk hu hg
  | list_ => exact listOk
  | tuple_ => exact tupleOk
  | all_ => exact allOk hc
  | any_ => exact anyOk hc
  | abs_ => exact absOk
  | _ => exact callNone fun us => by unfold opF; split <;> first | rfl | simp_all
def MethOk (X : Cx) (id : String) (g : Val → List Val → Option Val) : Prop :=
  ∃ rr : V → List V → Hp → VK → Prop, MtR X id rr ∧ ∀ (σ : L2.St) (sl : List Slot) (H : Hp) (r : RI) (mu : List Obj) (u : Val) (us : List Val) (w : Val) (x : V) (xs : List V) (Q : VK), At X.K σ sl H r mu → VD X.K H r u x → VDs X.K H r us xs → g u us = some w →
    Fin X.K σ sl H r mu w Q → rr x xs H Q
theorem drop_takeWhile {α : Type} (p : α → Bool) : ∀ l : List α, l.drop (l.takeWhile p).length = l.dropWhile p
  | [] => rfl
  | a :: l => by
    by_cases h : p a = true
    · rw [List.takeWhile_cons_of_pos h, List.dropWhile_cons_of_pos h, List.length_cons, List.drop_succ_cons, drop_takeWhile p l]
    · rw [List.takeWhile_cons_of_neg h, List.dropWhile_cons_of_neg h]; rfl
theorem dropEnd {α : Type} (p : α → Bool) (l : List α) : l.take (l.length - (l.reverse.takeWhile p).length) = (l.reverse.dropWhile p).reverse := by
  rw [← drop_takeWhile, List.drop_reverse, List.reverse_reverse]
theorem strip_eq (s cs : Tx) : Txt.stripChars ⟨s.toArray⟩ ⟨cs.toArray⟩ = ⟨(stripL cs s).toArray⟩ := by
  have e0 : ∀ l : List Nat, ((cs.contains ·) : Nat → Bool) = (cs.toArray.contains ·) := fun _ => by funext c; simp
  unfold Txt.stripChars Txt.stripBy
  have hs : stripped (cs.toArray.contains ·) true true ⟨s.toArray⟩ = ⟨(stripL cs s).toArray⟩ := by
    unfold stripped stripLo stripHi Builtin.Str.strSub stripL
    simp only [if_true]
    congr 1
    rw [List.extract_toArray]
    congr 1
    rw [List.extract_eq_take_drop, str_len]
    have e1 : (List.takeWhile (cs.toArray.contains ·) s).length ≤ s.length := List.Sublist.length_le (List.takeWhile_sublist _)
    have ed : s.drop (s.takeWhile (cs.toArray.contains ·)).length = s.dropWhile (cs.toArray.contains ·) := drop_takeWhile _ _
    have e2 : (s.dropWhile (cs.toArray.contains ·)).length = s.length - (s.takeWhile (cs.toArray.contains ·)).length := by rw [← ed, List.length_drop]
    have e3 := dropEnd (cs.toArray.contains ·) (s.dropWhile (cs.toArray.contains ·))
    rw [e0 s, ← e3, e2, ed]
    congr 1
    omega
  split
  · rename_i h
    have h' : stripSame (cs.toArray.contains ·) true true ⟨s.toArray⟩ = true := h
    unfold stripSame at h'
    rw [Bool.and_eq_true] at h'
    have h1 : stripLo (cs.toArray.contains ·) true ⟨s.toArray⟩ = 0 := by simpa using h'.1
    have h2 := h'.2
    rw [h1] at h2
    have h2 : stripHi (cs.toArray.contains ·) true ⟨s.toArray⟩ 0 = (⟨s.toArray⟩ : Str).length := by simpa using h2
    rw [← hs]
    unfold stripped
    rw [h1, h2]
    unfold Builtin.Str.strSub Str.length
    simp
  · exact hs
theorem stripOk : MethOk X "str.strip" (opM .strip) := by
  refine ⟨_, mt_stripChars, fun σ sl H r mu u us w x xs Q at_ hx hxs e q => ?_⟩
  match u, us, e with
  | .str s, [.str cs], e =>
    simp only [opM] at e
    split at e
    · rename_i hl
      cases e
      obtain ⟨rfl, h1⟩ := hx
      obtain ⟨y, rfl, rfl, h2⟩ := hxs.one
      refine ⟨_, _, rfl, rfl, by rw [str_len, line_eq]; exact hl, ?_⟩
      rw [strip_eq]
      refine q.val at_ ⟨rfl, ?_⟩
      rw [List.all_eq_true] at h1 ⊢
      refine fun c hc => h1 c ?_
      have hc' : c ∈ (s.dropWhile (cs.contains ·)).reverse.dropWhile (cs.contains ·) := List.mem_reverse.mp hc
      exact (List.dropWhile_sublist _).mem (List.mem_reverse.mp ((List.dropWhile_sublist _).mem hc'))
    · cases e
theorem join_eq (sep : Tx) : ∀ xs : List Tx, (Txt.join ⟨sep.toArray⟩ (xs.map fun x => (⟨x.toArray⟩ : Str))) = ⟨(joinL sep xs).toArray⟩ := by
  have go : ∀ (xs : List Tx) (acc : Array Nat), ((xs.map fun x => (⟨x.toArray⟩ : Str)).foldl (fun acc p => acc ++ sep.toArray ++ p.cps) acc).toList = acc.toList ++ (xs.flatMap fun x => sep ++ x) := by
    intro xs
    induction xs with
    | nil => intro acc; simp
    | cons x xs ih => intro acc; rw [List.map_cons, List.foldl_cons, ih]; simp
  have flat : ∀ (x : Tx) (xs : List Tx), joinL sep (x :: xs) = x ++ (xs.flatMap fun x => sep ++ x) := by
    intro x xs
    induction xs generalizing x with
    | nil => simp [joinL]
    | cons y ys ih => rw [joinL, ih]; simp; simp
  intro xs
  cases xs with
  | nil => rfl
  | cons x xs =>
    show (⟨(xs.map fun x => (⟨x.toArray⟩ : Str)).foldl (fun acc p => acc ++ sep.toArray ++ p.cps) x.toArray⟩ : Str) = _
    have := go xs x.toArray
    rw [flat]
    congr 1
    rw [← Array.toList_inj, this]
theorem strs_v {K : PySem.W.Frag} {H : Hp} {r : RI} : ∀ {vs : List Val} {xs : List V} {bs : List Tx}, VRs K H r vs xs → strsOf vs = some bs → xs = (bs.map fun x => (⟨x.toArray⟩ : Str)).map V.str ∧ ∀ b ∈ bs, b.all (· < 1114112) = true
  | [], _, _, h, e => by cases e; exact ⟨h, by simp⟩
  | v :: vs, _, bs, h, e => by
    obtain ⟨x, ys, rfl, h1, h2⟩ := h
    cases v with
    | str b =>
      simp only [strsOf] at e
      obtain ⟨cs, e1, rfl⟩ := Option.map_eq_some_iff.mp e
      obtain ⟨q1, q2⟩ := strs_v h2 e1
      obtain ⟨rfl, h3⟩ := h1
      refine ⟨by rw [q1]; rfl, fun c hc => ?_⟩
      rcases List.mem_cons.mp hc with e | hc
      · rw [e]; exact h3
      · exact q2 c hc
    | _ => simp [strsOf] at e
theorem all_join {sep : Tx} (hs : sep.all (· < 1114112) = true) : ∀ xs : List Tx, (∀ b ∈ xs, b.all (· < 1114112) = true) → (joinL sep xs).all (· < 1114112) = true
  | [], _ => rfl
  | [x], h => h x (by simp)
  | x :: y :: xs, h => by
    rw [joinL]
    · exact all_app (all_app (h x (by simp)) hs) (all_join hs (y :: xs) fun b hb => h b (List.mem_cons_of_mem _ hb))
    · simp
theorem countOk : MethOk X "str.count" (opM .count) := by
  refine ⟨_, mt_count, fun σ sl H r mu u us w x xs Q at_ hx hxs e q => ?_⟩
  match u, us, e with
  | .str s, [.str b], e =>
    cases e
    obtain ⟨rfl, h1⟩ := hx
    obtain ⟨y, rfl, rfl, h2⟩ := hxs.one
    exact ⟨_, _, rfl, rfl, q.val at_ rfl⟩
theorem findOk : MethOk X "str.find" (opM .find) := by
  refine ⟨_, MtR.or mt_find mt_find3, fun σ sl H r mu u us w x xs Q at_ hx hxs e q => ?_⟩
  match u, us, e with
  | .str s, [.str b], e =>
    cases e
    obtain ⟨rfl, h1⟩ := hx
    obtain ⟨y, rfl, rfl, h2⟩ := hxs.one
    exact .inl ⟨_, _, rfl, rfl, q.val at_ rfl⟩
  | .str s, [.str b, .int i], e =>
    cases e
    obtain ⟨rfl, h1⟩ := hx
    obtain ⟨y, z, rfl, ⟨rfl, h2⟩, h3⟩ := hxs.two
    have h3 : z = .int i := h3
    subst h3
    exact .inr ⟨_, _, _, rfl, rfl, q.val at_ rfl⟩
theorem joinOk : MethOk X "str.join" (opM .join) := by
  refine ⟨_, mt_join, fun σ sl H r mu u us w x xs Q at_ hx hxs e q => ?_⟩
  have fin : ∀ (sep : Tx) (vs : List Val) (p : Addr) (ys : List V) (bs : List Tx), x = .str ⟨sep.toArray⟩ → sep.all (· < 1114112) = true → xs = [.ref p] → (SqL X.K H p ys ∨ SqT X.K H p ys) → VRs X.K H r vs ys → strsOf vs = some bs →
      (bs.map (·.length)).sum + bs.length * sep.length ≤ line → w = .str (joinL sep bs) →
      ∃ a p, ∃ ys : List Str, x = .str a ∧ xs = [.ref p] ∧ (SqL X.K H p (ys.map V.str) ∨ SqT X.K H p (ys.map V.str)) ∧ (ys.map (·.length)).sum + ys.length * a.length ≤ 16777216 ∧ Q (.str (Txt.join a ys)) H := by
    intro sep vs p ys bs h1 h2 h3 h4 h5 h6 h7 h8
    obtain ⟨q1, q2⟩ := strs_v h5 h6
    refine ⟨_, p, bs.map fun x => (⟨x.toArray⟩ : Str), h1, h3, by rw [← q1]; exact h4, ?_, ?_⟩
    · rw [List.length_map, str_len, List.map_map]
      have : ((fun x : Str => x.length) ∘ fun x : Tx => (⟨x.toArray⟩ : Str)) = fun x : Tx => x.length := by funext z; exact str_len z
      rw [this]
      exact h7
    · rw [join_eq]
      subst h8
      exact q.val at_ ⟨rfl, all_join h2 _ q2⟩
  match u, us, e with
  | .str sep, [.lst vs], e =>
    simp only [opM] at e
    obtain ⟨bs, e1, e2⟩ := Option.bind_eq_some_iff.mp e
    split at e2
    · rename_i hl
      obtain ⟨rfl, h1⟩ := hx
      obtain ⟨y, rfl, p, ys, rfl, h2, h3⟩ := hxs.one
      exact fin sep vs p ys bs rfl h1 rfl (.inl (SqL.of h2)) h3 e1 hl (by cases e2; rfl)
    · cases e2
  | .str sep, [.tup vs], e =>
    simp only [opM] at e
    obtain ⟨bs, e1, e2⟩ := Option.bind_eq_some_iff.mp e
    split at e2
    · rename_i hl
      obtain ⟨rfl, h1⟩ := hx
      obtain ⟨y, rfl, p, ys, rfl, h2, h3⟩ := hxs.one
      exact fin sep vs p ys bs rfl h1 rfl (.inr h2) h3 e1 hl (by cases e2; rfl)
    · cases e2
end
end M
end F_M3c
section F_M3d
set_option maxRecDepth 100000
namespace M
open PySem PySem.Spec PyProof.Rows L2
def ER (K : PySem.W.Frag) (H : Hp) (r : RI) (e : Exc) (cls : Value) (d : Option Addr) : Prop := cls = .ref (clA K e.cls) ∧ EK K (clA K e.cls) ∧ XD K H r (clA K e.cls) e.ns e.fs d
def OP (K : PySem.W.Frag) (W : WX) (σ : L2.St) (sl : List Slot) (H : Hp) (r : RI) {β : Type} (o : Out β) (P : β → MS → Hp → RI → Prop) : Prop := match o with
  | .ok b s' => ∀ H' r', Step σ sl H r σ s'.sl H' r' → At K σ s'.sl H' r' s'.mu → P b s' H' r'
  | .exc e s' => ∀ cls d H' r', Step σ sl H r σ s'.sl H' r' → At K σ s'.sl H' r' s'.mu → ER K H' r' e cls d → W cls d σ H'
  | .bad => False
section
variable {K : PySem.W.Frag} {W : WX} {σ : L2.St} {sl sl' : List Slot} {H H' : Hp} {r r' : RI} {β γ : Type}
theorem OP.imp {o : Out β} {P P' : β → MS → Hp → RI → Prop} (h : OP K W σ sl H r o P) (hp : ∀ b s' H' r', o = .ok b s' → Step σ sl H r σ s'.sl H' r' → At K σ s'.sl H' r' s'.mu → P b s' H' r' → P' b s' H' r') : OP K W σ sl H r o P' := by
  cases o with
  | ok b s' => exact fun H' r' st a => hp b s' H' r' rfl st a (h H' r' st a)
  | exc e s' => exact h
  | bad => exact h
theorem OP.rebase {o : Out β} {P : β → MS → Hp → RI → Prop} (h : OP K W σ sl H r o P) (st : Step σ sl H r σ sl' H' r') : OP K W σ sl' H' r' o P := by
  cases o with
  | ok b s' => exact fun H2 r2 st2 a => h H2 r2 (st.trans st2) a
  | exc e s' => exact fun cls d H2 r2 st2 a => h cls d H2 r2 (st.trans st2) a
  | bad => exact h
theorem OP.bind {o : Out β} {f : β → MS → Out γ} {P : γ → MS → Hp → RI → Prop} (h : OP K W σ sl H r (o.bind f) P) : OP K W σ sl H r o fun b s' H' r' => OP K W σ s'.sl H' r' (f b s') P := by
  cases o with
  | ok b s' => exact fun H' r' st a => OP.rebase h st
  | exc e s' => exact h
  | bad => exact h
theorem OP.lift {o : Option β} {s : MS} {P : β → MS → Hp → RI → Prop} (h : OP K W σ s.sl H r (M.lift o s) P) (a : At K σ s.sl H r s.mu) : ∃ b, o = some b ∧ ∀ H' r', Step σ s.sl H r σ s.sl H' r' → At K σ s.sl H' r' s.mu → P b s H' r' := by
  cases o with
  | some b => exact ⟨b, rfl, h⟩
  | none => exact False.elim h
end
def tE (K : PySem.W.Frag) (W : WX) (f : MS → Out Val) : TE := fun σ H Q => ∃ r s, At K σ s.sl H r s.mu ∧ OP K W σ s.sl H r (f s) fun v s' H' r' => ∀ x, VL K H' r' σ s'.sl v x → Q x H'
def tT (K : PySem.W.Frag) (W : WX) (f : MS → Out Bool) : TT := fun σ H Q => ∃ r s, At K σ s.sl H r s.mu ∧ OP K W σ s.sl H r (f s) fun b _ H' _ => Q b H'
def tA (K : PySem.W.Frag) (W : WX) (f : MS → Out (List Val)) : TA := fun σ H Q => ∃ r s, At K σ s.sl H r s.mu ∧ OP K W σ s.sl H r (f s) fun vs s' H' r' => ∀ xs, VRs K H' r' vs xs → Q xs H'
def VLs (K : PySem.W.Frag) (H : Hp) (r : RI) (σ : L2.St) (sl : List Slot) : List Val → List V → Prop
  | [], xs => xs = []
  | v :: vs, xs => ∃ x ys, xs = x :: ys ∧ VL K H r σ sl v x ∧ VLs K H r σ sl vs ys
def tAh (K : PySem.W.Frag) (W : WX) (f : MS → Out (List Val)) : TA := fun σ H Q => ∃ r s, At K σ s.sl H r s.mu ∧ OP K W σ s.sl H r (f s) fun vs s' H' r' => ∀ xs, VLs K H' r' σ s'.sl vs xs → Q xs H'
def tO (K : PySem.W.Frag) (W : WX) (f : MS → Out (Option Int)) : TO := fun σ H Q => ∃ r s, At K σ s.sl H r s.mu ∧ OP K W σ s.sl H r (f s) fun v _ H' _ => Q v H'
theorem PE.imp {X : Cx} {e : Expr} {t t' : TE} (h : PE X e t) (i : ∀ σ H Q, t' σ H Q → t σ H Q) : PE X e t' := ⟨fun pins s σ H Q I q => h.run pins s σ H Q I (i _ _ _ q)⟩
theorem PT.imp {X : Cx} {e : Expr} {t t' : TT} (h : PT X e t) (i : ∀ σ H Q, t' σ H Q → t σ H Q) : PT X e t' := ⟨fun pins s σ H Q I q => h.run pins s σ H Q I (i _ _ _ q)⟩
theorem PW.imp {X : Cx} {e : Expr} {t t' : TT} (h : PW X e t) (i : ∀ σ H Q, t' σ H Q → t σ H Q) : PW X e t' := ⟨fun wh pins s σ H Q I q => h.run wh pins s σ H Q I (i _ _ _ q)⟩
theorem PA.imp {X : Cx} {e : List Expr} {t t' : TA} (h : PA X e t) (i : ∀ σ H Q, t' σ H Q → t σ H Q) : PA X e t' := ⟨fun pos pins s σ H Q I q => h.run pos pins s σ H Q I (i _ _ _ q)⟩
theorem PO.imp {X : Cx} {e : Option Expr} {t t' : TO} (h : PO X e t) (i : ∀ σ H Q, t' σ H Q → t σ H Q) : PO X e t' := ⟨fun pins s σ H Q I q => h.run pins s σ H Q I (i _ _ _ q)⟩
theorem PS.imp {X : Cx} {e : Stmt} {t t' : TS} (h : PS X e t) (i : ∀ D σ H, t' D σ H → t D σ H) : PS X e t' := ⟨fun pins s σ H D I q => h.run pins s σ H D I (i _ _ _ q)⟩
theorem PSs.imp {X : Cx} {e : List Stmt} {t t' : TS} (h : PSs X e t) (i : ∀ D σ H, t' D σ H → t D σ H) : PSs X e t' := ⟨fun pins s σ H D I q => h.run pins s σ H D I (i _ _ _ q)⟩
theorem PG.imp {X : Cx} {e : Expr} {t t' : TG} (h : PG X e t) (i : ∀ v σ H Q, t' v σ H Q → t v σ H Q) : PG X e t' := ⟨fun pins s σ H v u Q I rv q => h.run pins s σ H v u Q I rv (i _ _ _ _ q)⟩
section
variable {X : Cx} {W : WX} {e a b c : Expr} {pos : Pos} {f g h : MS → Out Val}
theorem VL.mono {K : PySem.W.Frag} {H H' : Hp} {r r' : RI} {σ : L2.St} {sl sl' : List Slot} {v : Val} {x : V} (q : VL K H r σ sl v x) (g : Gr H r H' r') : VL K H' r' σ sl' v x := by
  rcases q with q | ⟨i, e1, e2⟩
  · exact .inl (VR.mono g _ _ q)
  · exact .inr ⟨i, e1, e2⟩
theorem OP.here {K : PySem.W.Frag} {σ : L2.St} {H : Hp} {r : RI} {s : MS} {β : Type} {v : β} {P : β → MS → Hp → RI → Prop} (h : OP K W σ s.sl H r (.ok v s) P) (a : At K σ s.sl H r s.mu) : P v s H r := h H r .refl a
theorem sVar {i : Nat} {x : Str} (hN : X.N[i]? = some x) (hv : Vis X.env.scope x) (hd : (x == ("__debug__" : Str)) = false) (hcd : (x == ("__classdict__" : Str)) = false) :
    PE X (.Name x pos) (tE X.K W fun s => match s.sl[i]? with
      | some (.val v) => .ok v s
      | some (.own _) => .ok (.loc i) s
      | _ => .bad) := by
  refine PE.imp (pe_var hN hv hd hcd) fun σ H Q ⟨r, s, at_, q⟩ => ?_
  cases e : s.sl[i]? with
  | none => simp only [e] at q; exact False.elim q
  | some w =>
    cases w with
    | none => simp only [e] at q; exact False.elim q
    | val v =>
      simp only [e] at q
      obtain ⟨x, h1, h2⟩ := at_.sr.val i v e
      exact ⟨x, h1, q.here at_ x (.inl h2)⟩
    | own o =>
      simp only [e] at q
      obtain ⟨p, h1, h2⟩ := at_.sr.own i o e
      exact ⟨_, h1, q.here at_ _ (.inr ⟨i, rfl, h1⟩)⟩
theorem freeze {K : PySem.W.Frag} {σ : L2.St} {H : Hp} {r : RI} {s : MS} {i : Nat} {vs : List Val} (at_ : At K σ s.sl H r s.mu) (e : s.sl[i]? = some (.own (.lst vs))) :
    ∃ p r', σ[i]? = some (some (.ref p)) ∧ Step σ s.sl H r σ (s.sl.set i (.val (.lst vs))) H r' ∧ At K σ (s.sl.set i (.val (.lst vs))) H r' s.mu ∧ VR K H r' (.lst vs) (.ref p) := by
  obtain ⟨p, h1, xs, h2, h3⟩ := at_.sr.own i _ e
  have hi : i < s.sl.length := (List.getElem?_eq_some_iff.mp e).1
  have ow : Own σ s.sl p := ⟨i, _, e, h1⟩
  obtain ⟨n1, n2⟩ := at_.sr.nofz p ow
  have ow' : ∀ q, Own σ (s.sl.set i (.val (.lst vs))) q → Own σ s.sl q ∧ q ≠ p := by
    rintro q ⟨j, o, k1, k2⟩
    by_cases hj : i = j
    · subst hj
      rw [List.getElem?_set_self hi] at k1
      cases k1
    · rw [List.getElem?_set_ne hj] at k1
      exact ⟨⟨j, o, k1, k2⟩, fun z => hj (at_.sr.nd i j _ _ p e k1 h1 (z ▸ k2))⟩
  have gr : Gr H r H (r.add p) := ⟨⟨[], by simp [RI.add]⟩, fun _ z => .inl z, fun _ _ => rfl, fun _ _ z => z, fun _ _ _ z => z⟩
  have fr : VR K H (r.add p) (.lst vs) (.ref p) := ⟨p, xs, rfl, ⟨.inr rfl, h2⟩, VRs.mono gr _ _ h3⟩
  refine ⟨p, r.add p, h1, ⟨gr, fun _ _ z _ _ => z, fun _ z => .inl z, fun q z => ?_, fun q z => .inl (ow' q z).1, fun _ z => z⟩, ⟨⟨at_.hr.len, fun a q o k1 k2 => ?_, fun q hq z => ?_, at_.hr.nd, fun q z => ?_⟩, ⟨by rw [List.length_set]; exact at_.sr.len, fun j v k => ?_, fun j o k => ?_, fun q z => ?_, fun j k o o' q k1 k2 k3 k4 => ?_⟩⟩, fr⟩
  · rcases z with z | z
    · exact .inl z
    · exact .inr (.inr (z ▸ ow))
  · exact (at_.hr.obj a q o k1 k2).mono gr rfl
  · rcases z with z | z
    · exact at_.hr.nofz q hq z
    · exact n2 (z ▸ hq)
  · rcases z with z | z
    · exact at_.hr.is q z
    · rw [z, h2]; simp
  · by_cases hj : i = j
    · subst hj
      rw [List.getElem?_set_self hi] at k
      cases k
      exact ⟨_, h1, fr⟩
    · rw [List.getElem?_set_ne hj] at k
      obtain ⟨x, k1, k2⟩ := at_.sr.val j v k
      exact ⟨x, k1, VR.mono gr _ _ k2⟩
  · by_cases hj : i = j
    · subst hj
      rw [List.getElem?_set_self hi] at k
      cases k
    · rw [List.getElem?_set_ne hj] at k
      obtain ⟨q, k1, k2⟩ := at_.sr.own j o k
      exact ⟨q, k1, k2.mono gr rfl⟩
  · obtain ⟨z1, z2⟩ := ow' q z
    obtain ⟨m1, m2⟩ := at_.sr.nofz q z1
    exact ⟨fun y => y.elim m1 z2, m2⟩
  · by_cases hj : i = j
    · subst hj
      rw [List.getElem?_set_self hi] at k1
      cases k1
    · by_cases hk : i = k
      · subst hk
        rw [List.getElem?_set_self hi] at k2
        cases k2
      · rw [List.getElem?_set_ne hj] at k1
        rw [List.getElem?_set_ne hk] at k2
        exact at_.sr.nd j k o o' q k1 k2 k3 k4
theorem sFrz {i : Nat} {x : Str} (hN : X.N[i]? = some x) (hv : Vis X.env.scope x) (hd : (x == ("__debug__" : Str)) = false) (hcd : (x == ("__classdict__" : Str)) = false) :
    PE X (.Name x pos) (tE X.K W fun s => match s.sl[i]? with
      | some (.val v) => .ok v s
      | some (.own (.lst vs)) => .ok (.lst vs) { s with sl := s.sl.set i (.val (.lst vs)) }
      | _ => .bad) := by
  refine PE.imp (pe_var hN hv hd hcd) fun σ H Q ⟨r, s, at_, q⟩ => ?_
  cases e : s.sl[i]? with
  | none => simp only [e] at q; exact False.elim q
  | some w =>
    cases w with
    | none => simp only [e] at q; exact False.elim q
    | val v =>
      simp only [e] at q
      obtain ⟨x, h1, h2⟩ := at_.sr.val i v e
      exact ⟨x, h1, q.here at_ x (.inl h2)⟩
    | own o =>
      cases o with
      | gone => simp only [e] at q; exact False.elim q
      | lst vs =>
        simp only [e] at q
        obtain ⟨p, r', h1, st, a2, fr⟩ := freeze at_ e
        exact ⟨_, h1, q H r' st a2 _ (.inl fr)⟩
theorem sCst {v : Val} {x : V} (hc : PE X e (tC x)) (hv : ∀ H r, VR X.K H r v x) : PE X e (tE X.K W fun s => .ok v s) :=
  PE.imp hc fun σ H Q ⟨r, s, at_, q⟩ => q.here at_ x (.inl (hv H r))
theorem sBin {F : Operator} {k : Val → Val → Option Val} (ok : BinOk X (binaryOp F) k) (ha : PE X a (tE X.K W f)) (hb : PE X b (tE X.K W g)) :
    PE X (.BinOp a F b pos) (tE X.K W fun s => (f s).bind fun x s => (g s).bind fun y s => lift ((s.rd x).bind fun x => (s.rd y).bind fun y => k x y) s) := by
  obtain ⟨rr, ho, hk⟩ := ok
  refine PE.imp (pe_op ho ha hb) fun σ H Q ⟨r, s, at_, q⟩ => ?_
  refine ⟨r, s, at_, (OP.bind q).imp fun v s1 H1 r1 _ st1 a1 q1 x vx => ?_⟩
  refine ⟨r1, s1, a1, (OP.bind q1).imp fun w s2 H2 r2 _ st2 a2 q2 y vy => ?_⟩
  obtain ⟨z, e, q3⟩ := q2.lift a2
  obtain ⟨u', e1, e⟩ := Option.bind_eq_some_iff.mp e
  obtain ⟨v', e2, e⟩ := Option.bind_eq_some_iff.mp e
  exact hk σ s2.sl H2 r2 s2.mu u' v' z x y Q a2 (rd_ok a2.hr a2.sr (vx.mono st2.gr) e1) (rd_ok a2.hr a2.sr vy e2) e fun z H' r' st hr sr vz => q3 H' r' st ⟨hr, sr⟩ z (.inl vz)
theorem sNeg (ha : PE X a (tE X.K W f)) : PE X (.UnaryOp .USub a pos) (tE X.K W fun s => (f s).bind fun x s => match x with
    | .int i => .ok (.int (-i)) s
    | _ => .bad) := by
  refine PE.imp (pe_un un_neg ha) fun σ H Q ⟨r, s, at_, q⟩ => ?_
  refine ⟨r, s, at_, (OP.bind q).imp fun v s1 H1 r1 _ st1 a1 q1 x vx => ?_⟩
  cases v with
  | int i =>
    rcases vx with vx | ⟨_, e, _⟩
    · exact ⟨i, vx, q1.here a1 _ (.inl rfl)⟩
    · cases e
  | _ => exact False.elim q1
theorem sCmp {F : CmpOp} {k : Val → Val → Option Bool} (ok : BinOk X (compareOp F) fun u v => (k u v).map .bool) (ha : PE X a (tE X.K W f)) (hb : PE X b (tE X.K W g)) (hm : behindInMarks F b = false) :
    PE X (.Compare a [F] [b] pos) (tE X.K W fun s => (f s).bind fun x s => (g s).bind fun y s => lift (((s.rd x).bind fun x => (s.rd y).bind fun y => k x y).map .bool) s) := by
  obtain ⟨rr, ho, hk⟩ := ok
  refine PE.imp (pe_cmpR ho ha hb hm) fun σ H Q ⟨r, s, at_, q⟩ => ?_
  refine ⟨r, s, at_, (OP.bind q).imp fun v s1 H1 r1 _ st1 a1 q1 x vx => ?_⟩
  refine ⟨r1, s1, a1, (OP.bind q1).imp fun w s2 H2 r2 _ st2 a2 q2 y vy => ?_⟩
  obtain ⟨z, e, q3⟩ := q2.lift a2
  obtain ⟨zb, e0, rfl⟩ := Option.map_eq_some_iff.mp e
  obtain ⟨u', e1, e3⟩ := Option.bind_eq_some_iff.mp e0
  obtain ⟨v', e2, e4⟩ := Option.bind_eq_some_iff.mp e3
  exact hk σ s2.sl H2 r2 s2.mu u' v' (.bool zb) x y Q a2 (rd_ok a2.hr a2.sr (vx.mono st2.gr) e1) (rd_ok a2.hr a2.sr vy e2) (by show (k u' v').map Val.bool = _; rw [e4]; rfl) fun z H' r' st hr sr vz => q3 H' r' st ⟨hr, sr⟩ z (.inl vz)
theorem sCmpT {F : CmpOp} {k : Val → Val → Option Bool} (ok : BinOk X (compareOp F) fun u v => (k u v).map .bool) (ha : PE X a (tE X.K W f)) (hb : PE X b (tE X.K W g)) (hm : behindInMarks F b = false) :
    PT X (.Compare a [F] [b] pos) (tT X.K W fun s => (f s).bind fun x s => (g s).bind fun y s => lift ((s.rd x).bind fun x => (s.rd y).bind fun y => k x y) s) := by
  obtain ⟨rr, ho, hk⟩ := ok
  refine PT.imp (pt_cmpR ho ha hb hm) fun σ H Q ⟨r, s, at_, q⟩ => ?_
  refine ⟨r, s, at_, (OP.bind q).imp fun v s1 H1 r1 _ st1 a1 q1 x vx => ?_⟩
  refine ⟨r1, s1, a1, (OP.bind q1).imp fun w s2 H2 r2 _ st2 a2 q2 y vy => ?_⟩
  obtain ⟨zb, e, q3⟩ := q2.lift a2
  obtain ⟨u', e1, e3⟩ := Option.bind_eq_some_iff.mp e
  obtain ⟨v', e2, e4⟩ := Option.bind_eq_some_iff.mp e3
  exact hk σ s2.sl H2 r2 s2.mu u' v' (.bool zb) x y _ a2 (rd_ok a2.hr a2.sr (vx.mono st2.gr) e1) (rd_ok a2.hr a2.sr vy e2) (by show (k u' v').map Val.bool = _; rw [e4]; rfl) fun z H' r' st hr sr vz => ⟨zb, vz, q3 H' r' st ⟨hr, sr⟩⟩
theorem sTru (ha : PE X a (tE X.K W f)) (he : ∀ whole, isTrue a X.env whole = (do let v ← whole; standAt a.pos; holding [v] (truthy v))) :
    PT X a (tT X.K W fun s => (f s).bind fun x s => lift ((s.rd x).bind tru) s) := by
  refine PT.imp (pt_truth ha he) fun σ H Q ⟨r, s, at_, q⟩ => ?_
  refine ⟨r, s, at_, (OP.bind q).imp fun v s1 H1 r1 _ st1 a1 q1 x vx => ?_⟩
  obtain ⟨b, e, q3⟩ := q1.lift a1
  obtain ⟨u', e1, e⟩ := Option.bind_eq_some_iff.mp e
  exact ⟨b, tru_v (rd_ok a1.hr a1.sr vx e1) e, q3 H1 r1 .refl a1⟩
theorem sNotT {k : MS → Out Bool} (ha : PT X a (tT X.K W k)) : PT X (.UnaryOp .Not a pos) (tT X.K W fun s => (k s).bind fun b s => .ok (!b) s) := by
  refine PT.imp (pt_not ha) fun σ H Q ⟨r, s, at_, q⟩ => ?_
  exact ⟨r, s, at_, (OP.bind q).imp fun v s1 H1 r1 _ st1 a1 q1 => q1.here a1⟩
theorem sAnd1 {k : MS → Out Bool} {rest : List Expr} (ha : PT X a (tT X.K W k)) : PW X (.BoolOp .And [a] pos) (tT X.K W k) := pw_and1 ha
theorem sOr1 {k : MS → Out Bool} {rest : List Expr} (ha : PT X a (tT X.K W k)) : PW X (.BoolOp .Or [a] pos) (tT X.K W k) := pw_or1 ha
theorem sAnd {k l : MS → Out Bool} {rest : List Expr} (ha : PT X a (tT X.K W k)) (hb : PW X (.BoolOp .And (b :: rest) pos) (tT X.K W l)) :
    PW X (.BoolOp .And (a :: b :: rest) pos) (tT X.K W fun s => (k s).bind fun c s => if c then l s else .ok false s) := by
  refine PW.imp (pw_and ha hb) fun σ H Q ⟨r, s, at_, q⟩ => ?_
  refine ⟨r, s, at_, (OP.bind q).imp fun v s1 H1 r1 _ st1 a1 q1 => ?_⟩
  cases v with
  | true => exact ite_tt ⟨r1, s1, a1, q1⟩
  | false => exact ite_ff (q1.here a1)
theorem sOr {k l : MS → Out Bool} {rest : List Expr} (ha : PT X a (tT X.K W k)) (hb : PW X (.BoolOp .Or (b :: rest) pos) (tT X.K W l)) :
    PW X (.BoolOp .Or (a :: b :: rest) pos) (tT X.K W fun s => (k s).bind fun c s => if c then .ok true s else l s) := by
  refine PW.imp (pw_or ha hb) fun σ H Q ⟨r, s, at_, q⟩ => ?_
  refine ⟨r, s, at_, (OP.bind q).imp fun v s1 H1 r1 _ st1 a1 q1 => ?_⟩
  cases v with
  | true => exact ite_tt (q1.here a1)
  | false => exact ite_ff ⟨r1, s1, a1, q1⟩
theorem sIfe {k : MS → Out Bool} (hc : PT X c (tT X.K W k)) (ha : PE X a (tE X.K W f)) (hb : PE X b (tE X.K W g)) :
    PE X (.IfExp c a b pos) (tE X.K W fun s => (k s).bind fun b s => if b then f s else g s) := by
  refine PE.imp (pe_ifExp hc ha hb) fun σ H Q ⟨r, s, at_, q⟩ => ?_
  refine ⟨r, s, at_, (OP.bind q).imp fun v s1 H1 r1 _ st1 a1 q1 => ?_⟩
  cases v with
  | true => exact ite_tt ⟨r1, s1, a1, q1⟩
  | false => exact ite_ff ⟨r1, s1, a1, q1⟩
theorem sIdx (ha : PE X a (tE X.K W f)) (hb : PE X b (tE X.K W g)) (hp : PlainIx b) :
    PE X (.Subscript a b pos) (tE X.K W fun s => (f s).bind fun x s => (g s).bind fun y s => lift ((s.rd x).bind fun x => opIx x y) s) := by
  obtain ⟨rr, ho, hk⟩ := ixOk (X := X)
  refine PE.imp (pe_ix ho ha hb hp) fun σ H Q ⟨r, s, at_, q⟩ => ?_
  refine ⟨r, s, at_, (OP.bind q).imp fun v s1 H1 r1 _ st1 a1 q1 x vx => ?_⟩
  refine ⟨r1, s1, a1, (OP.bind q1).imp fun w s2 H2 r2 _ st2 a2 q2 y vy => ?_⟩
  obtain ⟨z, e, q3⟩ := q2.lift a2
  obtain ⟨u', e1, e⟩ := Option.bind_eq_some_iff.mp e
  have vy' : VR X.K H2 r2 w y := by
    rcases vy with vy | ⟨_, e3, _⟩
    · exact vy
    · subst e3; cases u' <;> simp [opIx] at e
  exact hk σ s2.sl H2 r2 s2.mu u' w z x y Q a2 (rd_ok a2.hr a2.sr (vx.mono st2.gr) e1) vy'.vd e fun z H' r' st hr sr vz => q3 H' r' st ⟨hr, sr⟩ z (.inl vz)
theorem sNoPart : PO X none (tO X.K W fun s => .ok none s) := PO.imp po_none fun σ H Q ⟨r, s, at_, q⟩ => q.here at_
theorem sPart (ha : PE X a (tE X.K W f)) : PO X (some a) (tO X.K W fun s => (f s).bind fun x s => match x with
    | .int i => .ok (some i) s
    | _ => .bad) := by
  refine PO.imp (po_some ha) fun σ H Q ⟨r, s, at_, q⟩ => ?_
  refine ⟨r, s, at_, (OP.bind q).imp fun v s1 H1 r1 _ st1 a1 q1 x vx => ?_⟩
  cases v with
  | int i =>
    rcases vx with vx | ⟨_, e, _⟩
    · exact ⟨i, vx, q1.here a1⟩
    · cases e
  | _ => exact False.elim q1
theorem sSlice {lo hi : Option Expr} {p2 : Pos} {k l : MS → Out (Option Int)} (ha : PE X a (tE X.K W f)) (hl : PO X lo (tO X.K W k)) (hh : PO X hi (tO X.K W l)) :
    PE X (.Subscript a (.Slice lo hi none p2) pos) (tE X.K W fun s => (f s).bind fun x s => (k s).bind fun l' s => (l s).bind fun h s => lift ((s.rd x).bind fun x => opSl x l' h) s) := by
  obtain ⟨rr, ho, hk⟩ := slOk (X := X)
  refine PE.imp (pe_slice ho ha hl hh) fun σ H Q ⟨r, s, at_, q⟩ => ?_
  refine ⟨r, s, at_, (OP.bind q).imp fun v s1 H1 r1 _ st1 a1 q1 x vx => ?_⟩
  refine ⟨r1, s1, a1, (OP.bind q1).imp fun w s2 H2 r2 _ st2 a2 q2 => ?_⟩
  refine ⟨r2, s2, a2, (OP.bind q2).imp fun w' s3 H3 r3 _ st3 a3 q3 => ?_⟩
  obtain ⟨z, e, q4⟩ := q3.lift a3
  obtain ⟨u', e1, e⟩ := Option.bind_eq_some_iff.mp e
  exact hk σ s3.sl H3 r3 s3.mu u' z x w w' Q a3 (rd_ok a3.hr a3.sr (vx.mono (st2.gr.trans st3.gr)) e1) e fun z H' r' st hr sr vz => q4 H' r' st ⟨hr, sr⟩ z (.inl vz)
def nstar : Expr → Bool
  | .Starred .. => false
  | _ => true
theorem star_cons {e : Expr} (h : nstar e = true) (es : List Expr) (env : Env) : starEach (e :: es) env = (false, eval e env) :: starEach es env := by
  cases e <;> first | rfl | cases h
theorem star_any {env : Env} {pos : Pos} : ∀ {es : List Expr}, es.all nstar = true → (backTo pos (starEach es env)).any (·.1) = false
  | [], _ => rfl
  | e :: es, h => by
    rw [List.all_cons, Bool.and_eq_true] at h
    rw [star_cons h.1]
    show (false || (backTo pos (starEach es env)).any (·.1)) = false
    rw [star_any h.2]
    rfl
theorem star_all {env : Env} {pos : Pos} : ∀ {es : List Expr}, es.all nstar = true → (backTo pos (starEach es env)).all (fun x => !x.1) = true
  | [], _ => rfl
  | e :: es, h => by
    rw [List.all_cons, Bool.and_eq_true] at h
    rw [star_cons h.1]
    show (true && (backTo pos (starEach es env)).all (fun x => !x.1)) = true
    rw [star_all h.2]
    rfl
theorem sNilA : PA X [] (tA X.K W fun s => .ok [] s) := PA.imp pa_nil fun σ H Q ⟨r, s, at_, q⟩ => q.here at_ _ rfl
theorem sConsA {es : List Expr} {k : MS → Out (List Val)} (ha : PE X a (tE X.K W f)) (hb : PA X es (tA X.K W k)) (hs : nstar a = true) :
    PA X (a :: es) (tA X.K W fun s => (f s).bind fun x s => match keep x with
      | some x => (k s).bind fun xs s => .ok (x :: xs) s
      | none => .bad) := by
  refine PA.imp (pa_cons ha hb (star_cons hs es X.env)) fun σ H Q ⟨r, s, at_, q⟩ => ?_
  refine ⟨r, s, at_, (OP.bind q).imp fun v s1 H1 r1 _ st1 a1 q1 x vx => ?_⟩
  cases hk : keep v with
  | none => simp only [hk] at q1; exact False.elim q1
  | some w =>
    simp only [hk] at q1
    obtain ⟨rfl, vr⟩ := vx.keep hk
    exact ⟨r1, s1, a1, (OP.bind q1).imp fun ws s2 H2 r2 _ st2 a2 q2 xs vxs => q2.here a2 _ ⟨x, xs, rfl, VR.mono st2.gr _ _ vr, vxs⟩⟩
theorem sNilH : PA X [] (tAh X.K W fun s => .ok [] s) := PA.imp pa_nil fun σ H Q ⟨r, s, at_, q⟩ => q.here at_ _ rfl
theorem sConsH {es : List Expr} {k : MS → Out (List Val)} (ha : PE X a (tE X.K W f)) (hb : PA X es (tAh X.K W k)) (hs : nstar a = true) :
    PA X (a :: es) (tAh X.K W fun s => (f s).bind fun x s => (k s).bind fun xs s => .ok (x :: xs) s) := by
  refine PA.imp (pa_cons ha hb (star_cons hs es X.env)) fun σ H Q ⟨r, s, at_, q⟩ => ?_
  refine ⟨r, s, at_, (OP.bind q).imp fun v s1 H1 r1 _ st1 a1 q1 x vx => ?_⟩
  exact ⟨r1, s1, a1, (OP.bind q1).imp fun ws s2 H2 r2 _ st2 a2 q2 xs vxs => q2.here a2 _ ⟨x, xs, rfl, vx.mono st2.gr, vxs⟩⟩
theorem sTup {es : List Expr} {x1 : Nat} {k : MS → Out (List Val)} (ha : PA X es (tA X.K W k)) : PE X (.Tuple es x1 pos) (tE X.K W fun s => (k s).bind fun vs s => if vs.length ≤ line then .ok (.tup vs) s else .bad) := by
  refine PE.imp (pe_tup ha) fun σ H Q ⟨r, s, at_, q⟩ => ?_
  refine ⟨r, s, at_, (OP.bind q).imp fun vs s1 H1 r1 _ st1 a1 q1 xs vxs => ?_⟩
  split at q1
  · rename_i hl
    refine ⟨by rw [← vxs.len, line_eq]; exact hl, fun p hp => ?_⟩
    exact q1 _ r1 (.new hp a1.hr.is) ⟨a1.hr.new hp, a1.sr.new hp a1.hr.is⟩ _ (.inl ⟨p, xs, rfl, SqT.of upd_same, VRs.mono (.new hp a1.hr.is) _ _ vxs⟩)
  · exact False.elim q1
theorem sLst {es : List Expr} {k : MS → Out (List Val)} (ha : PA X es (tA X.K W k)) : PE X (.List es pos) (tE X.K W fun s => (k s).bind fun vs s => if vs.length ≤ line then .ok (.lst vs) s else .bad) := by
  refine PE.imp (pe_lst ha) fun σ H Q ⟨r, s, at_, q⟩ => ?_
  refine ⟨r, s, at_, (OP.bind q).imp fun vs s1 H1 r1 _ st1 a1 q1 xs vxs => ?_⟩
  split at q1
  · rename_i hl
    refine ⟨by rw [← vxs.len, line_eq]; exact hl, fun p hp => ?_⟩
    exact q1 _ (r1.add p) (.add hp a1.hr.is) ⟨a1.hr.add hp, a1.sr.add hp a1.hr.is⟩ _ (.inl ⟨p, xs, rfl, ⟨.inr rfl, upd_same⟩, VRs.mono (.add hp a1.hr.is) _ _ vxs⟩)
  · exact False.elim q1
theorem VLs.rd {σ : L2.St} {H : Hp} {r : RI} {s : MS} (a : At X.K σ s.sl H r s.mu) : ∀ {vs : List Val} {xs : List V} {ws : List Val}, VLs X.K H r σ s.sl vs xs → vs.mapM s.rd = some ws → VDs X.K H r ws xs
  | [], _, ws, h, e => by
    have : ws = [] := by simpa using e.symm
    subst this
    exact h
  | v :: vs, _, ws, h, e => by
    obtain ⟨x, ys, rfl, h1, h2⟩ := h
    rw [List.mapM_cons] at e
    obtain ⟨w, e1, e⟩ := Option.bind_eq_some_iff.mp e
    obtain ⟨ws', e2, e⟩ := Option.bind_eq_some_iff.mp e
    cases e
    exact ⟨x, ys, rfl, rd_ok a.hr a.sr h1 e1, VLs.rd a h2 e2⟩
theorem sCallB {u : Value} {k : List Val → Option Val} {l : MS → Out (List Val)} (ok : CallOk X u k)
    (hr : ∀ rr, CallR X u rr → PE X e fun σ H Q => tAh X.K W l σ H fun vs H1 => rr vs H1 Q) :
    PE X e (tE X.K W fun s => (l s).bind fun vs s => lift ((vs.mapM s.rd).bind k) s) := by
  obtain ⟨rr, ho, hk⟩ := ok
  refine PE.imp (hr rr ho) fun σ H Q ⟨r, s, at_, q⟩ => ?_
  refine ⟨r, s, at_, (OP.bind q).imp fun vs s1 H1 r1 _ st1 a1 q1 xs vxs => ?_⟩
  obtain ⟨z, e, q3⟩ := q1.lift a1
  obtain ⟨ws, e1, e⟩ := Option.bind_eq_some_iff.mp e
  exact hk σ s1.sl H1 r1 s1.mu ws z xs Q a1 (VLs.rd a1 vxs e1) e fun z H' r' st hr sr vz => q3 H' r' st ⟨hr, sr⟩ z (.inl vz)
theorem VLs.mono {K : PySem.W.Frag} {H H' : Hp} {r r' : RI} {σ : L2.St} {sl sl' : List Slot} (g : Gr H r H' r') : ∀ {vs : List Val} {xs : List V}, VLs K H r σ sl vs xs → VLs K H' r' σ sl' vs xs
  | [], _, h => h
  | v :: vs, _, h => by
    obtain ⟨x, ys, rfl, h1, h2⟩ := h
    exact ⟨x, ys, rfl, h1.mono g, VLs.mono g h2⟩
end
end M
end F_M3d
section F_M3e
set_option maxRecDepth 100000
namespace M
open PySem PySem.Spec PyProof.Rows L2
section
variable {X : Cx} {W : WX} {e a b c : Expr} {pos : Pos} {f g h : MS → Out Val}
theorem sAndV {rest : List Expr} (ha : PE X a (tE X.K W f)) (hb : PE X (.BoolOp .And (b :: rest) pos) (tE X.K W g)) :
    PE X (.BoolOp .And (a :: b :: rest) pos) (tE X.K W fun s => (f s).bind fun x s => match (s.rd x).bind tru with
      | some true => g s
      | some false => .ok x s
      | none => .bad) := by
  refine PE.imp (pe_andT ha hb) fun σ H Q ⟨r, s, at_, q⟩ => ?_
  refine ⟨r, s, at_, (OP.bind q).imp fun v s1 H1 r1 _ st1 a1 q1 x vx => ?_⟩
  cases ht : (s1.rd v).bind tru with
  | none => simp only [ht] at q1; exact False.elim q1
  | some k =>
    obtain ⟨u', e1, e2⟩ := Option.bind_eq_some_iff.mp ht
    refine ⟨k, tru_v (rd_ok a1.hr a1.sr vx e1) e2, ?_⟩
    cases k with
    | true => simp only [ht] at q1; exact ite_tt ⟨r1, s1, a1, q1⟩
    | false => simp only [ht] at q1; exact ite_ff (q1.here a1 x vx)
theorem sOrV {rest : List Expr} (ha : PE X a (tE X.K W f)) (hb : PE X (.BoolOp .Or (b :: rest) pos) (tE X.K W g)) :
    PE X (.BoolOp .Or (a :: b :: rest) pos) (tE X.K W fun s => (f s).bind fun x s => match (s.rd x).bind tru with
      | some true => .ok x s
      | some false => g s
      | none => .bad) := by
  refine PE.imp (pe_orT ha hb) fun σ H Q ⟨r, s, at_, q⟩ => ?_
  refine ⟨r, s, at_, (OP.bind q).imp fun v s1 H1 r1 _ st1 a1 q1 x vx => ?_⟩
  cases ht : (s1.rd v).bind tru with
  | none => simp only [ht] at q1; exact False.elim q1
  | some k =>
    obtain ⟨u', e1, e2⟩ := Option.bind_eq_some_iff.mp ht
    refine ⟨k, tru_v (rd_ok a1.hr a1.sr vx e1) e2, ?_⟩
    cases k with
    | true => simp only [ht] at q1; exact ite_tt (q1.here a1 x vx)
    | false => simp only [ht] at q1; exact ite_ff ⟨r1, s1, a1, q1⟩
theorem sNotV (ha : PE X a (tE X.K W f)) : PE X (.UnaryOp .Not a pos) (tE X.K W fun s => (f s).bind fun x s => lift (((s.rd x).bind tru).map fun b => .bool (!b)) s) := by
  refine PE.imp (pe_notT ha) fun σ H Q ⟨r, s, at_, q⟩ => ?_
  refine ⟨r, s, at_, (OP.bind q).imp fun v s1 H1 r1 _ st1 a1 q1 x vx => ?_⟩
  obtain ⟨z, e, q3⟩ := q1.lift a1
  obtain ⟨k, e0, rfl⟩ := Option.map_eq_some_iff.mp e
  obtain ⟨u', e1, e2⟩ := Option.bind_eq_some_iff.mp e0
  exact ⟨k, tru_v (rd_ok a1.hr a1.sr vx e1) e2, q3 H1 r1 .refl a1 _ (.inl rfl)⟩
theorem sCmp2 {F F2 : CmpOp} {k k2 : Val → Val → Option Bool} (ok : BinOk X (compareOp F) fun u v => (k u v).map .bool) (ok2 : BinOk X (compareOp F2) fun u v => (k2 u v).map .bool) (ha : PE X a (tE X.K W f)) (hb : PE X b (tE X.K W g)) (hc : PE X c (tE X.K W h)) (hm : lastMarks [F, F2] [b, c] = false) :
    PE X (.Compare a [F, F2] [b, c] pos) (tE X.K W fun s => (f s).bind fun x s => (g s).bind fun y s => match (s.rd x).bind fun x => (s.rd y).bind fun y => k x y with
      | some true => (h s).bind fun z s => lift (((s.rd y).bind fun y => (s.rd z).bind fun z => k2 y z).map .bool) s
      | some false => .ok (.bool false) s
      | none => .bad) := by
  obtain ⟨rr, ho, hk⟩ := ok
  obtain ⟨rr2, ho2, hk2⟩ := ok2
  refine PE.imp (pe_chain ho ho2 ha hb hc hm) fun σ H Q ⟨r, s, at_, q⟩ => ?_
  refine ⟨r, s, at_, (OP.bind q).imp fun v s1 H1 r1 _ st1 a1 q1 x vx => ?_⟩
  refine ⟨r1, s1, a1, (OP.bind q1).imp fun w s2 H2 r2 _ st2 a2 q2 y vy => ?_⟩
  cases ht : (s2.rd v).bind fun x => (s2.rd w).bind fun y => k x y with
  | none => simp only [ht] at q2; exact False.elim q2
  | some kb =>
    obtain ⟨u', e1, e3⟩ := Option.bind_eq_some_iff.mp ht
    obtain ⟨v', e2, e4⟩ := Option.bind_eq_some_iff.mp e3
    refine hk σ s2.sl H2 r2 s2.mu u' v' (.bool kb) x y _ a2 (rd_ok a2.hr a2.sr (vx.mono st2.gr) e1) (rd_ok a2.hr a2.sr vy e2) (by show (k u' v').map Val.bool = _; rw [e4]; rfl) fun z H' r' st hr sr vz => ⟨kb, vz, ?_⟩
    cases kb with
    | false => simp only [ht] at q2; exact ite_ff (q2 H' r' st ⟨hr, sr⟩ _ (.inl rfl))
    | true =>
      simp only [ht] at q2
      refine ite_tt ⟨r', s2, ⟨hr, sr⟩, ((OP.bind q2).rebase st).imp fun z' s3 H3 r3 _ st3 a3 q3 zz vz' => ?_⟩
      obtain ⟨zb, e, q4⟩ := q3.lift a3
      obtain ⟨zb', e0, rfl⟩ := Option.map_eq_some_iff.mp e
      obtain ⟨u2, e5, e6⟩ := Option.bind_eq_some_iff.mp e0
      obtain ⟨v2, e7, e8⟩ := Option.bind_eq_some_iff.mp e6
      exact hk2 σ s3.sl H3 r3 s3.mu u2 v2 (.bool zb') y zz Q a3 (rd_ok a3.hr a3.sr (vy.mono (st.gr.trans st3.gr)) e5) (rd_ok a3.hr a3.sr vz' e7) (by show (k2 u2 v2).map Val.bool = _; rw [e8]; rfl) fun z H' r' st hr sr vz => q4 H' r' st ⟨hr, sr⟩ z (.inl vz)
theorem sCmp2T {F F2 : CmpOp} {k k2 : Val → Val → Option Bool} (ok : BinOk X (compareOp F) fun u v => (k u v).map .bool) (ok2 : BinOk X (compareOp F2) fun u v => (k2 u v).map .bool) (ha : PE X a (tE X.K W f)) (hb : PE X b (tE X.K W g)) (hc : PE X c (tE X.K W h)) (hm : lastMarks [F, F2] [b, c] = false) :
    PT X (.Compare a [F, F2] [b, c] pos) (tT X.K W fun s => (f s).bind fun x s => (g s).bind fun y s => match (s.rd x).bind fun x => (s.rd y).bind fun y => k x y with
      | some true => (h s).bind fun z s => lift ((s.rd y).bind fun y => (s.rd z).bind fun z => k2 y z) s
      | some false => .ok false s
      | none => .bad) := by
  obtain ⟨rr, ho, hk⟩ := ok
  obtain ⟨rr2, ho2, hk2⟩ := ok2
  refine PT.imp (pt_chain ho ho2 ha hb hc hm) fun σ H Q ⟨r, s, at_, q⟩ => ?_
  refine ⟨r, s, at_, (OP.bind q).imp fun v s1 H1 r1 _ st1 a1 q1 x vx => ?_⟩
  refine ⟨r1, s1, a1, (OP.bind q1).imp fun w s2 H2 r2 _ st2 a2 q2 y vy => ?_⟩
  cases ht : (s2.rd v).bind fun x => (s2.rd w).bind fun y => k x y with
  | none => simp only [ht] at q2; exact False.elim q2
  | some kb =>
    obtain ⟨u', e1, e3⟩ := Option.bind_eq_some_iff.mp ht
    obtain ⟨v', e2, e4⟩ := Option.bind_eq_some_iff.mp e3
    refine hk σ s2.sl H2 r2 s2.mu u' v' (.bool kb) x y _ a2 (rd_ok a2.hr a2.sr (vx.mono st2.gr) e1) (rd_ok a2.hr a2.sr vy e2) (by show (k u' v').map Val.bool = _; rw [e4]; rfl) fun z H' r' st hr sr vz => ⟨kb, vz, ?_⟩
    cases kb with
    | false => simp only [ht] at q2; exact ite_ff ⟨false, rfl, q2 H' r' st ⟨hr, sr⟩⟩
    | true =>
      simp only [ht] at q2
      refine ite_tt ⟨r', s2, ⟨hr, sr⟩, ((OP.bind q2).rebase st).imp fun z' s3 H3 r3 _ st3 a3 q3 zz vz' => ?_⟩
      obtain ⟨zb', e0, q4⟩ := q3.lift a3
      obtain ⟨u2, e5, e6⟩ := Option.bind_eq_some_iff.mp e0
      obtain ⟨v2, e7, e8⟩ := Option.bind_eq_some_iff.mp e6
      exact hk2 σ s3.sl H3 r3 s3.mu u2 v2 (.bool zb') y zz _ a3 (rd_ok a3.hr a3.sr (vy.mono (st.gr.trans st3.gr)) e5) (rd_ok a3.hr a3.sr vz' e7) (by show (k2 u2 v2).map Val.bool = _; rw [e8]; rfl) fun z H' r' st hr sr vz => ⟨zb', vz, q4 H' r' st ⟨hr, sr⟩⟩
def FO (K : PySem.W.Frag) (H : Hp) (r : RI) (o : OutF) (Q : VK) (E : XK) : Prop := match o with
  | .ok v mu' => ∀ x H' r', Step [] [] H r [] [] H' r' → HR K H' r' mu' → VR K H' r' v x → Q x H'
  | .exc e mu' => ∀ cls d H' r', Step [] [] H r [] [] H' r' → HR K H' r' mu' → ER K H' r' e cls d → E cls d H'
  | .bad => False
def spOf (K : PySem.W.Frag) (g : List Val → List Obj → OutF) (np : Nat) : Sp := fun vs H Q E => vs.length = np ∧ ∃ r mu us, HR K H r mu ∧ VRs K H r us vs ∧ FO K H r (g us mu) Q E
theorem own_nil {p : Addr} : ¬ Own [] [] p := fun ⟨i, o, h, _⟩ => by simp at h
theorem Step.inF {σ : L2.St} {sl : List Slot} {H H' : Hp} {r r' : RI} (st : Step [] [] H r [] [] H' r') : Step σ sl H r σ sl H' r' :=
  ⟨st.gr, fun p u z hi _ => st.kp p u z hi own_nil, st.io, fun p z => (st.fz p z).elim .inl fun z => z.elim (fun z => .inr (.inl z)) fun z => absurd z own_nil, fun _ z => .inl z, st.is⟩
theorem SR.inF {K : PySem.W.Frag} {σ : L2.St} {sl : List Slot} {H H' : Hp} {r r' : RI} (s : SR K H r σ sl) (st : Step [] [] H r [] [] H' r') : SR K H' r' σ sl :=
  s.keep st.gr (fun p o => by
    obtain ⟨xs, e⟩ := s.at_own o
    rw [e]
    exact st.kp p _ e (s.nofz p o).2 own_nil) st.io fun p z => (st.fz p z).elim .inl fun z => z.elim .inr fun z => absurd z own_nil
theorem sCall {es : List Expr} {k : MS → Out (List Val)} {gf : List Val → List Obj → OutF} {np : Nat} (ha : PA X es (tA X.K W k))
    (hr : ∀ t, PA X es t → PE X e (tCallS (spOf X.K gf np) (WE W) t)) (hn : ∀ s vs s', k s = .ok vs s' → vs.length = np) :
    PE X e (tE X.K W fun s => (k s).bind fun vs s => match gf vs s.mu with
      | .ok v mu => .ok v { s with mu := mu }
      | .exc e mu => .exc e { s with mu := mu }
      | .bad => .bad) := by
  refine PE.imp (hr _ ha) fun σ H Q ⟨r, s, at_, q⟩ => ?_
  refine ⟨r, s, at_, (OP.bind q).imp fun vs s1 H1 r1 ek st1 a1 q1 xs vxs => ?_⟩
  refine ⟨by rw [← vxs.len]; exact hn _ _ _ ek, r1, s1.mu, vs, a1.hr, vxs, ?_⟩
  cases hg : gf vs s1.mu with
  | ok v mu =>
    simp only [hg] at q1
    exact fun x H' r' st hr vx => q1 H' r' st.inF ⟨hr, a1.sr.inF st⟩ x (.inl vx)
  | exc ex mu =>
    simp only [hg] at q1
    exact fun cls d H' r' st hr er => q1 cls d H' r' st.inF ⟨hr, a1.sr.inF st⟩ er
  | bad => simp only [hg] at q1; exact q1
theorem sCallD {es : List Expr} {k : MS → Out (List Val)} {gf : List Val → List Obj → OutF} {np : Nat} {d : Int} (ha : PA X es (tA X.K W k))
    (hr : ∀ t, PA X es t → PE X e (tCallSD (spOf X.K gf np) [V.int d] (WE W) t)) (hn : ∀ s vs s', k s = .ok vs s' → vs.length + 1 = np) :
    PE X e (tE X.K W fun s => (k s).bind fun vs s => match gf (vs ++ [.int d]) s.mu with
      | .ok v mu => .ok v { s with mu := mu }
      | .exc e mu => .exc e { s with mu := mu }
      | .bad => .bad) := by
  refine PE.imp (hr _ ha) fun σ H Q ⟨r, s, at_, q⟩ => ?_
  refine ⟨r, s, at_, (OP.bind q).imp fun vs s1 H1 r1 ek st1 a1 q1 xs vxs => ?_⟩
  refine ⟨by rw [List.length_append, ← vxs.len]; exact hn _ _ _ ek, r1, s1.mu, vs ++ [.int d], a1.hr, VRs.app vxs (VRs.cons (v := .int d) (x := .int d) rfl VRs.nil), ?_⟩
  cases hg : gf (vs ++ [.int d]) s1.mu with
  | ok v mu =>
    simp only [hg] at q1
    exact fun x H' r' st hr vx => q1 H' r' st.inF ⟨hr, a1.sr.inF st⟩ x (.inl vx)
  | exc ex mu =>
    simp only [hg] at q1
    exact fun cls d H' r' st hr er => q1 cls d H' r' st.inF ⟨hr, a1.sr.inF st⟩ er
  | bad => simp only [hg] at q1; exact q1
theorem PK.imp {X : Cx} {e : List Keyword} {t t' : TA} (h : PK X e t) (i : ∀ σ H Q, t' σ H Q → t σ H Q) : PK X e t' := ⟨fun pos pins s σ H Q I q => h.run pos pins s σ H Q I (i _ _ _ q)⟩
theorem sNilK : PK X [] (tA X.K W fun s => .ok [] s) := PK.imp pk_nil fun σ H Q ⟨r, s, at_, q⟩ => q.here at_ _ rfl
theorem sConsK {kws : List Keyword} {nm : Option Str} {kpos : Pos} {k : MS → Out (List Val)} (ha : PE X a (tE X.K W f)) (hb : PK X kws (tA X.K W k)) :
    PK X (⟨nm, a, kpos⟩ :: kws) (tA X.K W fun s => (f s).bind fun x s => match keep x with
      | some x => (k s).bind fun xs s => .ok (x :: xs) s
      | none => .bad) := by
  refine PK.imp (pk_cons ha hb) fun σ H Q ⟨r, s, at_, q⟩ => ?_
  refine ⟨r, s, at_, (OP.bind q).imp fun v s1 H1 r1 _ st1 a1 q1 x vx => ?_⟩
  cases hk : keep v with
  | none => simp only [hk] at q1; exact False.elim q1
  | some w =>
    simp only [hk] at q1
    obtain ⟨rfl, vr⟩ := vx.keep hk
    exact ⟨r1, s1, a1, (OP.bind q1).imp fun ws s2 H2 r2 _ st2 a2 q2 xs vxs => q2.here a2 _ ⟨x, xs, rfl, VR.mono st2.gr _ _ vr, vxs⟩⟩
def tCallKS (n m : Nat) (sp : Sp) (E : L2.St → XK) (t tk : TA) : TE := fun σ H Q => t σ H fun vs H1 => tk σ H1 fun zs H2 => vs.length = n ∧ zs.length = m ∧ sp (vs ++ zs) H2 Q (E σ)
section
variable {CX : CXT} {k n : Nat} {fa : Addr} {fd : FuncData} {ps : List Str} {sp : Sp} {E : L2.St → XK} {x nm : Str} {p kp : Pos} {es : List Expr} {t tk : TA} {gb : List Value → List Value → List Value}
theorem run_fnKS {pins : List (Addr × PySem.Obj)} {σ : L2.St} {H : Hp} {s : Shared} {Q : VK} {us ws : List Value} {vs zs : List V} (F : FnOk X.prog X.w X.K X.mg X.base CX k fa fd ps sp) (hr : Room k X.A) (hb : KBn X.K fd ps n [nm] gb (fun vs zs => vs ++ zs)) (hx : PassesAt CX X σ (E σ))
    (I : Inv X pins σ H s) (r : Vals vs us) (rz : Vals zs ws) (l1 : vs.length = n) (l2 : zs.length = 1) (h : sp (vs ++ zs) H Q (E σ)) : wpAny (model X.prog X.w) X.A (PySem.call (.ref fa) us ([nm].zip ws)) (EP X pins σ Q) X.xe s := by
  have r2 := hb.rel r rz
  refine wpAny_call (codeAny_mono (F.run X.A X.stack s H ⟨us, [nm].zip ws⟩ (gb us ws) (vs ++ zs) Q (E σ) hr I.env0 (hb.to s us ws I.kIn (r.length.symm.trans l1) (rz.length.symm.trans l2)) r2 h) fun r s' hq => ?_)
  cases r with
  | error e => exact hx pins H s e s' I hq
  | ok fl =>
    cases fl with
    | ret u => exact I.after hq
    | next => exact False.elim hq
    | brk => exact False.elim hq
    | cont => exact False.elim hq
theorem pe_callKS (F : FnOk X.prog X.w X.K X.mg X.base CX k fa fd ps sp) (hr : Room k X.A) (hg : Gl X x) (hm : X.mg x = some (.ref fa)) (hk : PySem.W.keepIn X.K (.ref fa) = true) (hb : KBn X.K fd ps n [nm] gb (fun vs zs => vs ++ zs)) (hx : ∀ σ, PassesAt CX X σ (E σ))
    (ha : PA X (e :: es) t) (hkw : PK X [⟨some nm, a, kp⟩] tk) (hdb : (x == ("__debug__" : Str)) = false) (he : starEach (e :: es) X.env = (false, eval e X.env) :: starEach es X.env) (hpl : (backTo pos (starEach (e :: es) X.env)).any (·.1) = false) :
    PE X (.Call (.Name x p) (e :: es) [⟨some nm, a, kp⟩] pos) (tCallKS n 1 sp E t tk) := by
  refine ⟨fun pins s σ H Q I h => ?_⟩
  refine wpAny_Call_Name_kw (ld_glob I hg hm ?_ hdb)
  refine PySem.W.callWith_KW (h₀ := X.base) I.ok.mod.kin hk rfl (thn (ha.run pos pins s σ H _ I h) fun us s1 ⟨vs, H1, I1, r, q⟩ => ?_) (by rw [hpl]; rfl) he
  refine thn (hkw.run pos pins s1 σ H1 _ I1 q) fun ws s2 ⟨zs, H2, I2, rz, l1, l2, q2⟩ => ⟨I2.kIn, ?_⟩
  exact run_fnKS F hr hb (hx σ) I2 r rz l1 l2 q2
end
theorem sCallK {es : List Expr} {kws : List Keyword} {k kk : MS → Out (List Val)} {gf : List Val → List Obj → OutF} {n np : Nat} (ha : PA X es (tA X.K W k)) (hk : PK X kws (tA X.K W kk))
    (hr : ∀ t tk, PA X es t → PK X kws tk → PE X e (tCallKS n 1 (spOf X.K gf np) (WE W) t tk)) (hn : ∀ s vs s', k s = .ok vs s' → vs.length = n) (hm : ∀ s vs s', kk s = .ok vs s' → vs.length = 1) (hnp : np = n + 1) :
    PE X e (tE X.K W fun s => (k s).bind fun vs s => (kk s).bind fun ws s => match gf (vs ++ ws) s.mu with
      | .ok v mu => .ok v { s with mu := mu }
      | .exc e mu => .exc e { s with mu := mu }
      | .bad => .bad) := by
  refine PE.imp (hr _ _ ha hk) fun σ H Q ⟨r, s, at_, q⟩ => ?_
  refine ⟨r, s, at_, (OP.bind q).imp fun vs s1 H1 r1 ek st1 a1 q1 xs vxs => ?_⟩
  refine ⟨r1, s1, a1, (OP.bind q1).imp fun ws s2 H2 r2 ek2 st2 a2 q2 ys vys => ?_⟩
  have l1 := hn _ _ _ ek
  have l2 := hm _ _ _ ek2
  refine ⟨by rw [← vxs.len]; exact l1, by rw [← vys.len]; exact l2, by rw [List.length_append, ← vxs.len, ← vys.len, l1, l2, hnp], r2, s2.mu, vs ++ ws, a2.hr, VRs.app (VRs.mono st2.gr _ _ vxs) vys, ?_⟩
  cases hg : gf (vs ++ ws) s2.mu with
  | ok v mu =>
    simp only [hg] at q2
    exact fun x H' r' st hr vx => q2 H' r' st.inF ⟨hr, a2.sr.inF st⟩ x (.inl vx)
  | exc ex mu =>
    simp only [hg] at q2
    exact fun cls d H' r' st hr er => q2 cls d H' r' st.inF ⟨hr, a2.sr.inF st⟩ er
  | bad => simp only [hg] at q2; exact q2
theorem sMeth {id : String} {kk : Val → List Val → Option Val} {l : MS → Out (List Val)} (ok : MethOk X id kk)
    (hr : ∀ rr, MtR X id rr → PE X e (tBM X.K "str" rr (tE X.K W f) (tAh X.K W l))) :
    PE X e (tE X.K W fun s => (f s).bind fun x s => match x with
      | .str t => (l s).bind fun vs s => lift ((vs.mapM s.rd).bind (kk (.str t))) s
      | _ => .bad) := by
  obtain ⟨rr, ho, hk⟩ := ok
  refine PE.imp (hr rr ho) fun σ H Q ⟨r, s, at_, q⟩ => ?_
  refine ⟨r, s, at_, (OP.bind q).imp fun v s1 H1 r1 _ st1 a1 q1 x vx => ?_⟩
  cases v with
  | str t =>
    have vx' : VR X.K H1 r1 (.str t) x := by
      rcases vx with vx | ⟨_, e, _⟩
      · exact vx
      · cases e
    obtain ⟨rfl, ht⟩ := vx'
    refine ⟨rfl, r1, s1, a1, (OP.bind q1).imp fun vs s2 H2 r2 _ st2 a2 q2 xs vxs => ?_⟩
    obtain ⟨z, e, q3⟩ := q2.lift a2
    obtain ⟨ws, e1, e⟩ := Option.bind_eq_some_iff.mp e
    exact hk σ s2.sl H2 r2 s2.mu (.str t) ws z _ xs Q a2 ⟨rfl, ht⟩ (VLs.rd a2 vxs e1) e fun z H' r' st hr sr vz => q3 H' r' st ⟨hr, sr⟩ z (.inl vz)
  | _ => exact False.elim q1
def Feeds (K : PySem.W.Frag) (H1 : Hp) (r1 : RI) (J : It) (src : Src) : Prop :=
  ∀ (i : Nat) (H : Hp) (r : RI) (mu : List Obj), HR K H r mu → Gr H1 r1 H r → srcOk src mu →
    (∀ v, src.items[i]? = some v → J.go i H ∧ ∀ x H', J.yld i H x H' → ∃ r', Step [] [] H r [] [] H' r' ∧ HR K H' r' mu ∧ VR K H' r' v x) ∧ (src.items.length ≤ i → J.stop i H)
def tI (K : PySem.W.Frag) (W : WX) (f : MS → Out Src) : TI := fun σ H R => ∃ r s, At K σ s.sl H r s.mu ∧ OP K W σ s.sl H r (f s) fun src _ H' r' => ∀ J, Feeds K H' r' J src → R J H'
theorem PI.imp {tg e : Expr} {t t' : TI} (h : PI X tg e t) (i : ∀ σ H R, t' σ H R → t σ H R) : PI X tg e t' := ⟨fun pins s σ H R I q => h.run pins s σ H R I (i _ _ _ q)⟩
theorem PI.or {tg e : Expr} {t t' : TI} (h : PI X tg e t) (h' : PI X tg e t') : PI X tg e (fun σ H R => t σ H R ∨ t' σ H R) :=
  ⟨fun pins s σ H R I q => q.elim (h.run pins s σ H R I) (h'.run pins s σ H R I)⟩
theorem feedsL {K : PySem.W.Frag} {H1 : Hp} {r1 : RI} {p : Addr} {src : Src} (h : ∀ (H : Hp) (r : RI) (mu : List Obj), HR K H r mu → Gr H1 r1 H r → srcOk src mu → ∃ xs, SqL K H p xs ∧ VRs K H r src.items xs) (huniq : True) :
    Feeds K H1 r1 (Itl K p) src := by
  intro i H r mu hr g so
  obtain ⟨xs, h1, h2⟩ := h H r mu hr g so
  refine ⟨fun v e => ?_, fun hl => ⟨xs, h1, by rw [← h2.len]; exact hl⟩⟩
  obtain ⟨x, e1, e2⟩ := h2.get e
  refine ⟨⟨xs, x, h1, e1⟩, fun y H' hy => ?_⟩
  obtain ⟨e3, hy⟩ := hy
  subst e3
  have := hy xs h1
  rw [e1] at this
  cases this
  exact ⟨r, .refl, hr, e2⟩
theorem feedsT {K : PySem.W.Frag} {H1 : Hp} {r1 : RI} {p : Addr} {src : Src} (h : ∀ (H : Hp) (r : RI) (mu : List Obj), HR K H r mu → Gr H1 r1 H r → srcOk src mu → ∃ xs, SqT K H p xs ∧ VRs K H r src.items xs) :
    Feeds K H1 r1 (Itt K p) src := by
  intro i H r mu hr g so
  obtain ⟨xs, h1, h2⟩ := h H r mu hr g so
  refine ⟨fun v e => ?_, fun hl => ⟨xs, h1, by rw [← h2.len]; exact hl⟩⟩
  obtain ⟨x, e1, e2⟩ := h2.get e
  refine ⟨⟨xs, x, h1, e1⟩, fun y H' hy => ?_⟩
  obtain ⟨e3, hy⟩ := hy
  subst e3
  have := hy xs h1
  rw [e1] at this
  cases this
  exact ⟨r, .refl, hr, e2⟩
theorem upTo_get (n : Nat) : ∀ (lo : Int) (i : Nat), (upTo lo n)[i]? = if i < n then some (.int (lo + i)) else none := by
  induction n with
  | zero => intro lo i; simp [upTo]
  | succ n ih =>
    intro lo i
    cases i with
    | zero => simp [upTo]
    | succ i =>
      rw [upTo, List.getElem?_cons_succ, ih]
      by_cases h : i < n
      · rw [if_pos h, if_pos (by omega)]
        congr 2
        omega
      · rw [if_neg h, if_neg (by omega)]
theorem upTo_len (n : Nat) : ∀ lo : Int, (upTo lo n).length = n := by
  induction n with
  | zero => intro lo; rfl
  | succ n ih => intro lo; rw [upTo, List.length_cons, ih]
theorem feedsR {K : PySem.W.Frag} {H1 : Hp} {r1 : RI} {lo : Int} {n : Nat} : Feeds K H1 r1 (Itr lo n) ⟨upTo lo n, []⟩ := by
  intro i H r mu hr g so
  refine ⟨fun v e => ?_, fun hl => by rw [upTo_len] at hl; exact hl⟩
  rw [upTo_get] at e
  split at e
  · rename_i hi
    cases e
    refine ⟨hi, fun y H' hy => ?_⟩
    obtain ⟨e1, e2⟩ := hy
    subst e1 e2
    exact ⟨r, .refl, hr, rfl⟩
  · cases e
theorem sRange1 {p : Pos} {tg : Expr} {k : MS → Out (List Val)} (hg : Gl X "range") (hm : X.mg "range" = none) (ha : PA X [a] (tA X.K W k)) (hs : nstar a = true) (h1' : ∀ s vs s', k s = .ok vs s' → vs.length = 1) :
    PI X tg (.Call (.Name "range" p) [a] [] pos) (tI X.K W fun s => (k s).bind fun vs s => lift (opRange vs) s) := by
  refine PI.imp (pi_range1 hg hm ha (by rw [star_cons hs]; rfl)) fun σ H R ⟨r, s, at_, q⟩ => ?_
  refine ⟨r, s, at_, (OP.bind q).imp fun vs s1 H1 r1 ek st1 a1 q1 xs vxs => ?_⟩
  obtain ⟨src, e, q2⟩ := q1.lift a1
  have hl := h1' _ _ _ ek
  match vs, hl, e with
  | [.int j], _, e =>
    simp only [opRange] at e
    split at e
    · rename_i hl
      cases e
      obtain ⟨x, ys, rfl, h1, h2⟩ := vxs
      rw [show ys = [] from h2, show x = .int j from h1]
      have hj : -(2 ^ 62) ≤ j ∧ j < 2 ^ 62 := of_decide_eq_true hl
      exact ⟨j, rfl, hj.1, hj.2, q2 H1 r1 .refl a1 _ feedsR⟩
    · cases e
theorem sRange2 {p : Pos} {tg : Expr} {k : MS → Out (List Val)} (hg : Gl X "range") (hm : X.mg "range" = none) (ha : PA X [a, b] (tA X.K W k)) (hs : nstar a = true) (hs2 : nstar b = true) (h2 : ∀ s vs s', k s = .ok vs s' → vs.length = 2) :
    PI X tg (.Call (.Name "range" p) [a, b] [] pos) (tI X.K W fun s => (k s).bind fun vs s => lift (opRange vs) s) := by
  refine PI.imp (pi_range2 hg hm ha (by rw [star_cons hs, star_cons hs2]; rfl) (by rw [star_cons hs2]; rfl)) fun σ H R ⟨r, s, at_, q⟩ => ?_
  refine ⟨r, s, at_, (OP.bind q).imp fun vs s1 H1 r1 ek st1 a1 q1 xs vxs => ?_⟩
  obtain ⟨src, e, q2⟩ := q1.lift a1
  have hl := h2 _ _ _ ek
  match vs, hl, e with
  | [.int i, .int j], _, e =>
    simp only [opRange] at e
    split at e
    · rename_i hl
      cases e
      rw [Bool.and_eq_true] at hl
      obtain ⟨x, ys, rfl, h1, y, zs, rfl, h2, h3⟩ := vxs
      rw [show zs = [] from h3, show x = .int i from h1, show y = .int j from h2]
      have hi : -(2 ^ 62) ≤ i ∧ i < 2 ^ 62 := of_decide_eq_true hl.1
      have hj : -(2 ^ 62) ≤ j ∧ j < 2 ^ 62 := of_decide_eq_true hl.2
      exact ⟨i, j, rfl, ⟨hi.1, hi.2, hj.1, hj.2⟩, q2 H1 r1 .refl a1 _ feedsR⟩
    · cases e
end
end M
end F_M3e
section F_M3g
set_option maxRecDepth 100000
namespace M
open PySem PySem.Spec PyProof.Rows L2
section
variable {X : Cx} {W : WX} {e a b c : Expr} {pos : Pos} {f g h : MS → Out Val}
theorem sIter {tg : Expr} (ha : PE X a (tE X.K W f)) : PI X tg a (tI X.K W fun s => (f s).bind fun v s => lift (srcOf s v) s) := by
  refine PI.imp (PI.or (pi_list ha) (PI.or (pi_tup ha) (pi_str ha))) fun σ H R ⟨r, s, at_, q⟩ => ?_
  cases e : f s with
  | bad => simp only [e] at q; exact False.elim q
  | exc ex s1 => simp only [e] at q; exact .inl ⟨r, s, at_, by rw [e]; exact q⟩
  | ok v s1 =>
    simp only [e, Out.bind_ok] at q
    cases hs : srcOf s1 v with
    | none => simp only [hs, lift_none] at q; exact False.elim q
    | some src =>
      simp only [hs, lift_some] at q
      cases v with
      | str t =>
        refine .inr (.inr ⟨r, s, at_, by
          rw [e]
          intro H1 r1 st1 a1 x vx
          have vx' : VR X.K H1 r1 (.str t) x := by
            rcases vx with vx | ⟨_, e, _⟩
            · exact vx
            · cases e
          obtain ⟨rfl, ht⟩ := vx'
          refine ⟨_, rfl, q H1 r1 st1 a1 _ ?_⟩
          simp only [srcOf] at hs
          split at hs
          · cases hs
            intro i H r mu hr g so
            have hl : (t.map fun c => Val.str [c]).length = t.toArray.size := by simp
            refine ⟨fun v ev => ?_, fun hi => by rw [hl] at hi; exact hi⟩
            rw [List.getElem?_map] at ev
            obtain ⟨c, ec, rfl⟩ := Option.map_eq_some_iff.mp ev
            refine ⟨by have := (List.getElem?_eq_some_iff.mp ec).1; show i < t.toArray.size; simpa using this, fun y H' hy => ?_⟩
            obtain ⟨e1, c', ec', e2⟩ := hy
            subst e1 e2
            have : c' = c := by
              have : t[i]? = some c' := by simpa using ec'
              rw [ec] at this
              exact (Option.some.inj this).symm
            subst this
            have h2 := (List.all_eq_true.mp ht) _ (List.mem_of_getElem? ec)
            exact ⟨r, .refl, hr, rfl, by simpa using h2⟩
          · cases hs⟩)
      | tup vs =>
        refine .inr (.inl ⟨r, s, at_, by
          rw [e]
          intro H1 r1 st1 a1 x vx
          have vx' : VR X.K H1 r1 (.tup vs) x := by
            rcases vx with vx | ⟨_, e, _⟩
            · exact vx
            · cases e
          obtain ⟨p, xs, rfl, h1, h2⟩ := vx'
          cases hs
          exact ⟨p, rfl, ⟨xs, h1⟩, q H1 r1 st1 a1 _ (feedsT fun H r mu hr g so => ⟨xs, g.sqT h1, VRs.mono g _ _ h2⟩)⟩⟩)
      | lst vs =>
        refine .inl ⟨r, s, at_, by
          rw [e]
          intro H1 r1 st1 a1 x vx
          have vx' : VR X.K H1 r1 (.lst vs) x := by
            rcases vx with vx | ⟨_, e, _⟩
            · exact vx
            · cases e
          obtain ⟨p, xs, rfl, ⟨h0, h1⟩, h2⟩ := vx'
          cases hs
          exact ⟨p, rfl, ⟨xs, SqL.of h1⟩, q H1 r1 st1 a1 _ (feedsL (fun H r mu hr g so => ⟨xs, SqL.of ((g.at_ _ h0).trans h1), VRs.mono g _ _ h2⟩) trivial)⟩⟩
      | rol vs =>
        refine .inl ⟨r, s, at_, by
          rw [e]
          intro H1 r1 st1 a1 x vx
          have vx' : VR X.K H1 r1 (.rol vs) x := by
            rcases vx with vx | ⟨_, e, _⟩
            · exact vx
            · cases e
          obtain ⟨p, xs, rfl, h1, h2⟩ := vx'
          cases hs
          exact ⟨p, rfl, ⟨xs, h1.sq⟩, q H1 r1 st1 a1 _ (feedsL (fun H r mu hr g so => ⟨xs, (g.lat h1).sq, VRs.mono g _ _ h2⟩) trivial)⟩⟩
      | ref ad =>
        refine .inl ⟨r, s, at_, by
          rw [e]
          intro H1 r1 st1 a1 x vx
          have vx' : VR X.K H1 r1 (.ref ad) x := by
            rcases vx with vx | ⟨_, e, _⟩
            · exact vx
            · cases e
          obtain ⟨p, rfl, h1⟩ := vx'
          simp only [srcOf] at hs
          cases hm : s1.mu[ad]? with
          | none => rw [hm] at hs; cases hs
          | some o =>
            rw [hm] at hs
            cases o with
            | gone => cases hs
            | lst vs =>
              cases hs
              obtain ⟨xs, h3, h4⟩ := a1.hr.obj ad p _ h1 hm
              exact ⟨p, rfl, ⟨xs, SqL.of h3⟩, q H1 r1 st1 a1 _ (feedsL (fun H r mu hr g so => by
                obtain ⟨ys, h5, h6⟩ := hr.obj ad p _ (g.get h1) (so (ad, vs) (by simp))
                exact ⟨ys, SqL.of h5, h6⟩) trivial)⟩⟩
      | _ => cases hs
theorem set_at {α : Type} {l : List α} {i j : Nat} {x : α} (h : i ≠ j) : (l.set i x)[j]? = l[j]? := List.getElem?_set_ne h
theorem At.set {K : PySem.W.Frag} {σ : L2.St} {sl : List Slot} {H : Hp} {r : RI} {mu : List Obj} {i : Nat} {v : Val} {x : V} (a : At K σ sl H r mu) (hi : i < sl.length) (hv : VR K H r v x) :
    At K (σ.set i (some x)) (sl.set i (.val v)) H r mu ∧ Step σ sl H r (σ.set i (some x)) (sl.set i (.val v)) H r := by
  have hi2 : i < σ.length := by rw [← a.sr.len]; exact hi
  have ow : ∀ q, Own (σ.set i (some x)) (sl.set i (.val v)) q → Own σ sl q := by
    rintro q ⟨j, o, k1, k2⟩
    by_cases hj : i = j
    · subst hj
      rw [List.getElem?_set_self hi] at k1
      cases k1
    · rw [set_at hj] at k1 k2
      exact ⟨j, o, k1, k2⟩
  refine ⟨⟨a.hr, ⟨by rw [List.length_set, List.length_set]; exact a.sr.len, fun j w k => ?_, fun j o k => ?_, fun q z => a.sr.nofz q (ow q z), fun j k o o' q k1 k2 k3 k4 => ?_⟩⟩,
    ⟨.refl, fun _ _ z _ _ => z, fun _ z => .inl z, fun _ z => .inl z, fun q z => .inl (ow q z), fun _ z => z⟩⟩
  · by_cases hj : i = j
    · subst hj
      rw [List.getElem?_set_self hi] at k
      cases k
      exact ⟨x, List.getElem?_set_self hi2, hv⟩
    · rw [set_at hj] at k ⊢
      exact a.sr.val j w k
  · by_cases hj : i = j
    · subst hj
      rw [List.getElem?_set_self hi] at k
      cases k
    · rw [set_at hj] at k ⊢
      exact a.sr.own j o k
  · by_cases hj : i = j
    · subst hj
      rw [List.getElem?_set_self hi] at k1
      cases k1
    · by_cases hk : i = k
      · subst hk
        rw [List.getElem?_set_self hi] at k2
        cases k2
      · rw [set_at hj] at k1 k3
        rw [set_at hk] at k2 k4
        exact a.sr.nd j k o o' q k1 k2 k3 k4
mutual
def slotsOf : T → List Nat
  | .nm i => [i]
  | .tup ts => slotsOfs ts
def slotsOfs : List T → List Nat
  | [] => []
  | t :: ts => slotsOf t ++ slotsOfs ts
end
def gT (K : PySem.W.Frag) (t : T) : TG := fun v σ H Q => ∃ val r s s', At K σ s.sl H r s.mu ∧ VR K H r val v ∧ store t val s = some s' ∧
  ∀ σ', At K σ' s'.sl H r s'.mu → Step σ s.sl H r σ' s'.sl H r → (∀ j, j ∉ slotsOf t → σ'[j]? = σ[j]?) → s'.mu = s.mu → Q σ' H
def gTs (K : PySem.W.Frag) (ts : List T) : TGs := fun vs σ H Q => ∃ vals r s s', At K σ s.sl H r s.mu ∧ VRs K H r vals vs ∧ stores ts vals s = some s' ∧
  ∀ σ', At K σ' s'.sl H r s'.mu → Step σ s.sl H r σ' s'.sl H r → (∀ j, j ∉ slotsOfs ts → σ'[j]? = σ[j]?) → s'.mu = s.mu → Q σ' H
theorem sNm {i : Nat} {x : Str} (hN : X.N.Nodup) (hi : X.N[i]? = some x) (hx : Loc X.env.scope x) (hf : X.fn x = true ∨ X.env.scope.names.lookup x = some .local) : PG X (.Name x pos) (gT X.K (.nm i)) := by
  refine PG.imp (pg_name hN hi hx hf) fun v σ H Q ⟨val, r, s, s', at_, vr, e, q⟩ => ?_
  simp only [store] at e
  split at e
  · rename_i hl
    cases e
    obtain ⟨a2, st⟩ := at_.set hl vr
    refine q _ a2 st (fun j hj => ?_) rfl
    have : i ≠ j := fun z => hj (by simp [slotsOf, z])
    exact set_at this
  · cases e
theorem PG.or {X : Cx} {e : Expr} {t t' : TG} (h : PG X e t) (h' : PG X e t') : PG X e (fun v σ H Q => t v σ H Q ∨ t' v σ H Q) := ⟨fun pins s σ H v u Q I rv q => q.elim (h.run pins s σ H v u Q I rv) (h'.run pins s σ H v u Q I rv)⟩
theorem PGs.imp {X : Cx} {e : List Expr} {t t' : TGs} (h : PGs X e t) (i : ∀ v σ H Q, t' v σ H Q → t v σ H Q) : PGs X e t' := ⟨fun pins s σ H v u Q I rv q => h.run pins s σ H v u Q I rv (i _ _ _ _ q)⟩
theorem asg_cons {e : Expr} (h : nstar e = true) (es : List Expr) (env : Env) : assignEach (e :: es) env = (false, assign e env) :: assignEach es env := by
  cases e <;> first | rfl | cases h
theorem asg_len {env : Env} : ∀ {es : List Expr}, es.all nstar = true → (assignEach es env).length = es.length
  | [], _ => rfl
  | e :: es, h => by
    rw [List.all_cons, Bool.and_eq_true] at h
    rw [asg_cons h.1, List.length_cons, List.length_cons, asg_len h.2]
theorem asg_find {env : Env} : ∀ {es : List Expr}, es.all nstar = true → (assignEach es env).findIdx? (·.1) = none
  | [], _ => rfl
  | e :: es, h => by
    rw [List.all_cons, Bool.and_eq_true] at h
    rw [asg_cons h.1, List.findIdx?_cons, asg_find h.2]
    rfl
theorem stores_len : ∀ {ts : List T} {vs : List Val} {s s' : MS}, stores ts vs s = some s' → ts.length = vs.length
  | [], [], _, _, _ => rfl
  | [], _ :: _, _, _, e => by simp [stores] at e
  | _ :: _, [], _, _, e => by simp [stores] at e
  | t :: ts, v :: vs, s, s', e => by
    simp only [stores] at e
    obtain ⟨s1, _, e2⟩ := Option.bind_eq_some_iff.mp e
    rw [List.length_cons, List.length_cons, stores_len e2]
theorem sNilG : PGs X [] (gTs X.K []) := by
  refine PGs.imp pgs_nil fun vs σ H Q ⟨vals, r, s, s', at_, vr, e, q⟩ => ?_
  cases vals with
  | nil =>
    simp only [stores] at e
    cases e
    exact ⟨vr, q σ at_ .refl (fun _ _ => rfl) rfl⟩
  | cons v vs => simp [stores] at e
theorem sConsG {es : List Expr} {t : T} {ts : List T} (h1 : PG X a (gT X.K t)) (h2 : PGs X es (gTs X.K ts)) (hs : nstar a = true) : PGs X (a :: es) (gTs X.K (t :: ts)) := by
  refine PGs.imp (pgs_cons h1 h2 (by rw [asg_cons hs]; rfl)) fun vs σ H Q ⟨vals, r, s, s', at_, vr, e, q⟩ => ?_
  cases vals with
  | nil => simp [stores] at e
  | cons v vs' =>
    obtain ⟨x, ys, rfl, v1, v2⟩ := vr
    simp only [stores] at e
    obtain ⟨s1, e1, e2⟩ := Option.bind_eq_some_iff.mp e
    refine ⟨x, ys, rfl, v, r, s, s1, at_, v1, e1, fun σ1 a1 st1 k1 m1 => ⟨vs', r, s1, s', a1, v2, e2, fun σ2 a2 st2 k2 m2 => q σ2 a2 (st1.trans st2) (fun j hj => ?_) (m2.trans m1)⟩⟩
    simp only [slotsOfs, List.mem_append, not_or] at hj
    rw [k2 j hj.2, k1 j hj.1]
theorem sTupG {es : List Expr} {k : Nat} {ts : List T} (hc : X.calm = true) (h : PGs X es (gTs X.K ts)) (hs : es.all nstar = true) (hl : es.length = ts.length) : PG X (.Tuple es k pos) (gT X.K (.tup ts)) := by
  refine PG.imp (PG.or (pg_tup hc h (n := es.length) (asg_len hs) (asg_find hs)) (pg_lst hc h (n := es.length) (asg_len hs) (asg_find hs))) fun v σ H Q ⟨val, r, s, s', at_, vr, e, q⟩ => ?_
  simp only [store] at e
  cases hr : s.rd val with
  | none => simp only [hr] at e; cases e
  | some w =>
    have vd := rd_ok at_.hr at_.sr (.inl vr) hr
    simp only [hr] at e
    cases w with
    | tup vs =>
      obtain ⟨p, xs, rfl, h1, h2⟩ := vd
      exact .inl ⟨p, xs, rfl, h1, by rw [← h2.len, hl]; exact (stores_len e).symm, vs, r, s, s', at_, h2, e, q⟩
    | lst vs =>
      obtain ⟨p, xs, rfl, h1, h2⟩ := vd
      exact .inr ⟨p, xs, rfl, SqL.of h1, by rw [← h2.len, hl]; exact (stores_len e).symm, vs, r, s, s', at_, h2, e, q⟩
    | _ => cases e
end
end M
end F_M3g
section F_M3h
set_option maxRecDepth 100000
namespace M
open PySem PySem.Spec PyProof.Rows L2
section
variable {X : Cx} {W : WX} {e a b c : Expr} {pos : Pos} {f g h : MS → Out Val}
theorem wipeS_mu : ∀ (is : List Nat) (s : MS), (wipeS is s).mu = s.mu
  | [], _ => rfl
  | i :: is, s => wipeS_mu is s
theorem wipeS_len : ∀ (is : List Nat) (s : MS), (wipeS is s).sl.length = s.sl.length
  | [], _ => rfl
  | i :: is, s => by show ((wipeS is s).sl.set i .none).length = _; rw [List.length_set, wipeS_len is s]
theorem wipeS_out : ∀ {is : List Nat} {s : MS} {j : Nat}, j ∉ is → (wipeS is s).sl[j]? = s.sl[j]?
  | [], _, _, _ => rfl
  | i :: is, s, j, h => by
    show ((wipeS is s).sl.set i .none)[j]? = _
    rw [set_at (fun z => h (by simp [z])), wipeS_out fun z => h (List.mem_cons_of_mem _ z)]
theorem wipeS_in : ∀ {is : List Nat} {s : MS} {j : Nat} {w : Slot}, j ∈ is → (wipeS is s).sl[j]? = some w → w = .none
  | i :: is, s, j, w, h, e => by
    have e : ((wipeS is s).sl.set i .none)[j]? = some w := e
    by_cases hj : i = j
    · subst hj
      by_cases hl : i < (wipeS is s).sl.length
      · rw [List.getElem?_set_self hl] at e
        exact (Option.some.inj e).symm
      · rw [List.getElem?_eq_none (by rw [List.length_set]; omega)] at e
        cases e
    · rw [set_at hj] at e
      exact wipeS_in ((List.mem_cons.mp h).resolve_left fun z => hj z.symm) e
theorem wipe_at : ∀ {vs : List Nat} {σ : L2.St} {j : Nat}, j ∉ vs → (wipe σ vs)[j]? = σ[j]?
  | [], _, _, _ => rfl
  | v :: vs, σ, j, h => by
    unfold wipe
    rw [set_at (fun z => h (by simp [z])), wipe_at fun z => h (List.mem_cons_of_mem _ z)]
theorem wipe_in : ∀ {vs : List Nat} {σ : L2.St} {j : Nat}, j ∈ vs → j < σ.length → (wipe σ vs)[j]? = some none
  | v :: vs, σ, j, h, hl => by
    unfold wipe
    by_cases hj : v = j
    · subst hj
      exact List.getElem?_set_self (by rw [wipe_length]; exact hl)
    · rw [set_at hj]
      exact wipe_in ((List.mem_cons.mp h).resolve_left fun z => hj z.symm) hl
theorem wipe_eq {σ σ' : L2.St} {vs : List Nat} (hl : σ'.length = σ.length) (h : ∀ j, j ∉ vs → σ'[j]? = σ[j]?) : wipe σ' vs = wipe σ vs := by
  apply List.ext_getElem?
  intro j
  by_cases hj : j ∈ vs
  · by_cases hlt : j < σ.length
    · rw [wipe_in hj hlt, wipe_in hj (by omega)]
    · rw [List.getElem?_eq_none (by rw [wipe_length]; omega), List.getElem?_eq_none (by rw [wipe_length]; omega)]
  · rw [wipe_at hj, wipe_at hj, h j hj]
theorem wipe_wipe {σ : L2.St} {vs : List Nat} : wipe (wipe σ vs) vs = wipe σ vs := wipe_eq (wipe_length _ _) fun j hj => wipe_at hj
theorem own_wipe {σ : L2.St} {s : MS} {is : List Nat} {p : Addr} : Own (wipe σ is) (wipeS is s).sl p ↔ ∃ (i : Nat) (o : Obj), i ∉ is ∧ s.sl[i]? = some (Slot.own o) ∧ σ[i]? = some (some (V.ref p)) := by
  constructor
  · rintro ⟨i, o, h1, h2⟩
    by_cases hi : i ∈ is
    · exact nomatch wipeS_in hi h1
    · exact ⟨i, o, hi, by rw [← wipeS_out hi]; exact h1, by rw [← wipe_at hi]; exact h2⟩
  · rintro ⟨i, o, hi, h1, h2⟩
    exact ⟨i, o, by rw [wipeS_out hi]; exact h1, by rw [wipe_at hi]; exact h2⟩
theorem own_wiped {σ : L2.St} {s : MS} {is : List Nat} {p : Addr} (h : Own (wipe σ is) (wipeS is s).sl p) : Own σ s.sl p := by
  obtain ⟨i, o, _, h1, h2⟩ := own_wipe.mp h
  exact ⟨i, o, h1, h2⟩
theorem At.wipe {K : PySem.W.Frag} {σ : L2.St} {s : MS} {H : Hp} {r : RI} (a : At K σ s.sl H r s.mu) (is : List Nat) : At K (wipe σ is) (wipeS is s).sl H r (wipeS is s).mu ∧ Step σ s.sl H r (wipe σ is) (wipeS is s).sl H r := by
  refine ⟨⟨by rw [wipeS_mu]; exact a.hr, ⟨by rw [wipeS_len, wipe_length]; exact a.sr.len, fun j v k => ?_, fun j o k => ?_, fun q z => a.sr.nofz q (own_wiped z), fun j k o o' q k1 k2 k3 k4 => ?_⟩⟩,
    ⟨.refl, fun _ _ z _ _ => z, fun _ z => .inl z, fun _ z => .inl z, fun q z => .inl (own_wiped z), fun _ z => z⟩⟩
  · by_cases hj : j ∈ is
    · exact nomatch wipeS_in hj k
    · rw [wipeS_out hj] at k
      rw [wipe_at hj]
      exact a.sr.val j v k
  · by_cases hj : j ∈ is
    · exact nomatch wipeS_in hj k
    · rw [wipeS_out hj] at k
      rw [wipe_at hj]
      exact a.sr.own j o k
  · by_cases hj : j ∈ is
    · exact nomatch wipeS_in hj k1
    · by_cases hk : k ∈ is
      · exact nomatch wipeS_in hk k2
      · rw [wipeS_out hj] at k1
        rw [wipeS_out hk] at k2
        rw [wipe_at hj] at k3
        rw [wipe_at hk] at k4
        exact a.sr.nd j k o o' q k1 k2 k3 k4
theorem restoreS_mu (old : List Slot) : ∀ (is : List Nat) (s : MS), (restoreS old is s).mu = s.mu
  | [], _ => rfl
  | i :: is, s => restoreS_mu old is s
theorem restoreS_len (old : List Slot) : ∀ (is : List Nat) (s : MS), (restoreS old is s).sl.length = s.sl.length
  | [], _ => rfl
  | i :: is, s => by
    show (match old[i]? with | some x => (restoreS old is s).sl.set i x | none => (restoreS old is s).sl).length = _
    split
    · rw [List.length_set, restoreS_len old is s]
    · exact restoreS_len old is s
theorem restoreS_out {old : List Slot} : ∀ {is : List Nat} {s : MS} {j : Nat}, j ∉ is → (restoreS old is s).sl[j]? = s.sl[j]?
  | [], _, _, _ => rfl
  | i :: is, s, j, h => by
    show (match old[i]? with | some x => (restoreS old is s).sl.set i x | none => (restoreS old is s).sl)[j]? = _
    have ih := restoreS_out (old := old) (s := s) fun z => h (List.mem_cons_of_mem i z)
    split
    · rw [set_at (fun z => h (by simp [z])), ih]
    · exact ih
theorem restoreS_in {old : List Slot} : ∀ {is : List Nat} {s : MS} {j : Nat}, j ∈ is → s.sl.length = old.length → (restoreS old is s).sl[j]? = old[j]?
  | i :: is, s, j, h, hl => by
    show (match old[i]? with | some x => (restoreS old is s).sl.set i x | none => (restoreS old is s).sl)[j]? = _
    by_cases hj : i = j
    · subst hj
      cases e : old[i]? with
      | some x =>
        simp only
        exact List.getElem?_set_self (by rw [restoreS_len, hl]; exact (List.getElem?_eq_some_iff.mp e).1)
      | none =>
        simp only
        exact List.getElem?_eq_none (by rw [restoreS_len, hl]; exact List.getElem?_eq_none_iff.mp e)
    · have ih := restoreS_in (old := old) (s := s) ((List.mem_cons.mp h).resolve_left fun z => hj z.symm) hl
      split
      · rw [set_at hj, ih]
      · exact ih
theorem At.restore {K : PySem.W.Frag} {σ : L2.St} {s1 s2 : MS} {H1 H : Hp} {r1 r : RI} {is : List Nat} (a1 : At K σ s1.sl H1 r1 s1.mu) (a2 : At K (L2.wipe σ is) (wipeS is s2).sl H r s2.mu)
    (st : Step (L2.wipe σ is) (wipeS is s1).sl H1 r1 (L2.wipe σ is) (wipeS is s2).sl H r) : At K σ (restoreS s1.sl is s2).sl H r s2.mu ∧ Step σ s1.sl H1 r1 σ (restoreS s1.sl is s2).sl H r := by
  have hl : s2.sl.length = s1.sl.length := by
    have h1 := a1.sr.len
    have h2 := a2.sr.len
    rw [wipeS_len, wipe_length] at h2
    omega
  have ho : ∀ (i : Nat) (o : Obj) (p : Addr), i ∈ is → s1.sl[i]? = some (.own o) → σ[i]? = some (some (.ref p)) → (¬ Own (L2.wipe σ is) (wipeS is s1).sl p) ∧ H p = H1 p ∧ ¬ r.fz p ∧ p ∉ r.io ∧ ¬ Own (L2.wipe σ is) (wipeS is s2).sl p := by
    intro i o p hi h1 h2
    have own1 : Own σ s1.sl p := ⟨i, o, h1, h2⟩
    obtain ⟨xs, hx⟩ := a1.sr.at_own own1
    obtain ⟨n1, n2⟩ := a1.sr.nofz p own1
    have n0 : ¬ Own (L2.wipe σ is) (wipeS is s1).sl p := fun z => by
      obtain ⟨j, o', hj, k1, k2⟩ := own_wipe.mp z
      exact hj (a1.sr.nd i j o o' p h1 k1 h2 k2 ▸ hi)
    refine ⟨n0, (st.kp p _ hx n2 n0).trans hx.symm, fun z => ?_, fun z => ?_, fun z => ?_⟩
    · rcases st.fz p z with z | z | z
      · exact n1 z
      · rw [hx] at z; cases z
      · exact n0 z
    · rcases st.io p z with z | z
      · exact n2 z
      · rw [hx] at z; cases z
    · rcases st.own p z with z | z
      · exact n0 z
      · rw [hx] at z; cases z
  have cases_ : ∀ {j : Nat} {w : Slot}, (restoreS s1.sl is s2).sl[j]? = some w → (j ∈ is ∧ s1.sl[j]? = some w) ∨ (j ∉ is ∧ (wipeS is s2).sl[j]? = some w ∧ (L2.wipe σ is)[j]? = σ[j]?) := by
    intro j w k
    by_cases hj : j ∈ is
    · rw [restoreS_in hj hl] at k
      exact .inl ⟨hj, k⟩
    · rw [restoreS_out hj] at k
      exact .inr ⟨hj, by rw [wipeS_out hj]; exact k, wipe_at hj⟩
  have ow : ∀ q, Own σ (restoreS s1.sl is s2).sl q → (∃ i o, i ∈ is ∧ s1.sl[i]? = some (.own o) ∧ σ[i]? = some (some (.ref q))) ∨ Own (L2.wipe σ is) (wipeS is s2).sl q := by
    rintro q ⟨j, o, k1, k2⟩
    rcases cases_ k1 with ⟨hj, k⟩ | ⟨hj, k, k'⟩
    · exact .inl ⟨j, o, hj, k, k2⟩
    · exact .inr ⟨j, o, k, by rw [k']; exact k2⟩
  refine ⟨⟨a2.hr, ⟨by rw [restoreS_len, hl]; exact a1.sr.len, fun j v k => ?_, fun j o k => ?_, fun q z => ?_, fun j k o o' q k1 k2 k3 k4 => ?_⟩⟩, ⟨st.gr, fun p u z hi hno => st.kp p u z hi fun y => hno (own_wiped y), st.io, fun p z => ?_, fun p z => ?_, st.is⟩⟩
  · rcases cases_ k with ⟨hj, k⟩ | ⟨hj, k, k'⟩
    · obtain ⟨x, k1, k2⟩ := a1.sr.val j v k
      exact ⟨x, k1, VR.mono st.gr _ _ k2⟩
    · rw [← k']
      exact a2.sr.val j v k
  · rcases cases_ k with ⟨hj, k⟩ | ⟨hj, k, k'⟩
    · obtain ⟨p, k1, k2⟩ := a1.sr.own j o k
      obtain ⟨_, e, _⟩ := ho j o p hj k k1
      exact ⟨p, k1, k2.mono st.gr e⟩
    · rw [← k']
      exact a2.sr.own j o k
  · rcases ow q z with ⟨i, o, hi, k1, k2⟩ | z
    · obtain ⟨_, _, n1, n2, _⟩ := ho i o q hi k1 k2
      exact ⟨n1, n2⟩
    · exact a2.sr.nofz q z
  · rcases cases_ k1 with ⟨hj, k1⟩ | ⟨hj, k1, e1⟩
    · rcases cases_ k2 with ⟨hk, k2⟩ | ⟨hk, k2, e2⟩
      · exact a1.sr.nd j k o o' q k1 k2 k3 k4
      · exact absurd ⟨k, o', k2, by rw [e2]; exact k4⟩ (ho j o q hj k1 k3).2.2.2.2
    · rcases cases_ k2 with ⟨hk, k2⟩ | ⟨hk, k2, e2⟩
      · exact absurd ⟨j, o, k1, by rw [e1]; exact k3⟩ (ho k o' q hk k2 k4).2.2.2.2
      · exact a2.sr.nd j k o o' q k1 k2 (by rw [e1]; exact k3) (by rw [e2]; exact k4)
  · rcases st.fz p z with z | z | z
    · exact .inl z
    · exact .inr (.inl z)
    · exact .inr (.inr (own_wiped z))
  · rcases ow p z with ⟨i, o, hi, k1, k2⟩ | z
    · exact .inl ⟨i, o, k1, k2⟩
    · rcases st.own p z with z | z
      · exact .inl (own_wiped z)
      · exact .inr z
theorem PTs.imp {X : Cx} {ifs : List Expr} {t t' : TT} (h : PTs X ifs t) (i : ∀ σ H Q, t' σ H Q → t σ H Q) : PTs X ifs t' := ⟨fun pins s σ H Q I q => h.run pins s σ H Q I (i _ _ _ q)⟩
theorem sNoIf : PTs X [] (tT X.K W fun s => .ok true s) := PTs.imp pts_nil fun σ H Q ⟨r, s, at_, q⟩ => q.here at_
theorem sOneIf {k : MS → Out Bool} (h : PT X c (tT X.K W k)) : PTs X [c] (tT X.K W k) := pts_one h
abbrev W0 : WX := fun _ _ _ _ => False
def lcTurn (tg : T) (fi : MS → Out Bool) (fe : MS → Out Val) (v : Val) (s : MS) : Out (Option Val) := match store tg v s with
  | some s => (fi s).bind fun b s => if b then (fe s).bind fun x s => lift ((keep x).map some) s else .ok none s
  | none => .bad
structure Apart (σ : L2.St) (sl : List Slot) (r : RI) (D : Addr) : Prop where
  io : D ∉ r.io
  fz : ¬ r.fz D
  ow : ¬ Own σ sl D
theorem Apart.step {σ σ' : L2.St} {sl sl' : List Slot} {H H' : Hp} {r r' : RI} {D : Addr} {o : HO} (d : Apart σ sl r D) (st : Step σ sl H r σ' sl' H' r') (h : H D = some o) : Apart σ' sl' r' D ∧ H' D = some o := by
  have ne : H D ≠ none := by rw [h]; simp
  refine ⟨⟨fun z => (st.io D z).elim d.io ne, fun z => ?_, fun z => (st.own D z).elim d.ow ne⟩, st.kp D o h d.io d.ow⟩
  rcases st.fz D z with z | z | z
  · exact d.fz z
  · exact ne z
  · exact d.ow z
mutual
theorem store_len : ∀ (t : T) (v : Val) (s s' : MS), store t v s = some s' → s'.sl.length = s.sl.length
  | .nm i, v, s, s', e => by
    simp only [store] at e
    split at e
    · cases e
      exact List.length_set
    · cases e
  | .tup ts, v, s, s', e => by
    simp only [store] at e
    split at e
    · exact stores_slen ts _ s s' e
    · exact stores_slen ts _ s s' e
    · cases e
theorem stores_slen : ∀ (ts : List T) (vs : List Val) (s s' : MS), stores ts vs s = some s' → s'.sl.length = s.sl.length
  | [], [], s, s', e => by simp only [stores] at e; cases e; rfl
  | [], _ :: _, s, s', e => by simp [stores] at e
  | _ :: _, [], s, s', e => by simp [stores] at e
  | t :: ts, v :: vs, s, s', e => by
    simp only [stores] at e
    obtain ⟨s1, e1, e2⟩ := Option.bind_eq_some_iff.mp e
    rw [stores_slen ts vs s1 s' e2, store_len t v s s1 e1]
end
theorem Apart.addFz {K : PySem.W.Frag} {σ : L2.St} {sl : List Slot} {H : Hp} {r : RI} {mu : List Obj} {D : Addr} {o : HO} (a : At K σ sl H r mu) (d : Apart σ sl r D) (h : H D = some o) : At K σ sl H (r.add D) mu ∧ Gr H r H (r.add D) := by
  have gr : Gr H r H (r.add D) := ⟨⟨[], by simp [RI.add]⟩, fun _ z => .inl z, fun _ _ => rfl, fun _ _ z => z, fun _ _ _ z => z⟩
  refine ⟨⟨⟨a.hr.len, fun i p u k1 k2 => (a.hr.obj i p u k1 k2).mono gr rfl, fun p hp z => ?_, a.hr.nd, fun p z => ?_⟩, ⟨a.sr.len, fun i v k => ?_, fun i u k => ?_, fun p z => ?_, a.sr.nd⟩⟩, gr⟩
  · exact z.elim (a.hr.nofz p hp) fun e => d.io (e ▸ hp)
  · rcases z with z | z
    · exact a.hr.is p z
    · rw [z, h]; simp
  · obtain ⟨x, k1, k2⟩ := a.sr.val i v k
    exact ⟨x, k1, VR.mono gr _ _ k2⟩
  · obtain ⟨p, k1, k2⟩ := a.sr.own i u k
    exact ⟨p, k1, k2.mono gr rfl⟩
  · obtain ⟨n1, n2⟩ := a.sr.nofz p z
    exact ⟨fun y => y.elim n1 fun e => d.ow (e ▸ z), n2⟩
def OPF (K : PySem.W.Frag) (W : WX) (σ : L2.St) (sl : List Slot) (H : Hp) (r : RI) (o : Out (List Val)) (Q : VK) : Prop := match o with
  | .ok vs s' => ∀ p xs H' r', Step σ sl H r σ s'.sl H' r' → At K σ s'.sl H' r' s'.mu → H' p = some (.lst xs) → H p = none → Apart σ s'.sl r' p → VRs K H' r' vs xs → Q (.ref p) H'
  | .exc e s' => ∀ cls d H' r', Step σ sl H r σ s'.sl H' r' → At K σ s'.sl H' r' s'.mu → ER K H' r' e cls d → W cls d σ H'
  | .bad => False
def tF (K : PySem.W.Frag) (W : WX) (f : MS → Out (List Val)) : TE := fun σ H Q => ∃ r s, At K σ s.sl H r s.mu ∧ OPF K W σ s.sl H r (f s) Q
theorem back_none {σ σ' : L2.St} {sl sl' : List Slot} {H H' : Hp} {r r' : RI} {p : Addr} (st : Step σ sl H r σ' sl' H' r') (h : H' p = none) : H p = none := by
  cases e : H p with
  | none => rfl
  | some u => exact absurd h (st.is p (by rw [e]; simp))
theorem OPF.rebase {K : PySem.W.Frag} {σ : L2.St} {sl sl' : List Slot} {H H' : Hp} {r r' : RI} {o : Out (List Val)} {Q : VK} (h : OPF K W σ sl H r o Q) (st : Step σ sl H r σ sl' H' r') : OPF K W σ sl' H' r' o Q := by
  cases o with
  | ok vs s' => exact fun p xs H2 r2 st2 a h1 h2 h3 h4 => h p xs H2 r2 (st.trans st2) a h1 (back_none st h2) h3 h4
  | exc e s' => exact fun cls d H2 r2 st2 a => h cls d H2 r2 (st.trans st2) a
  | bad => exact h
theorem OPF.bind {K : PySem.W.Frag} {σ : L2.St} {sl : List Slot} {H : Hp} {r : RI} {β : Type} {o : Out β} {f : β → MS → Out (List Val)} {Q : VK} (h : OPF K W σ sl H r (o.bind f) Q) : OP K W σ sl H r o fun b s' H' r' => OPF K W σ s'.sl H' r' (f b s') Q := by
  cases o with
  | ok b s' => exact fun H' r' st a => OPF.rebase h st
  | exc e s' => exact h
  | bad => exact h
theorem tE_tF {K : PySem.W.Frag} {g : MS → Out (List Val)} {σ : L2.St} {H : Hp} {Q : VK} (h : tE K W (fun s => (g s).bind fun vs s => .ok (.lst vs) s) σ H Q) : tF K W g σ H Q := by
  obtain ⟨r, s, at_, q⟩ := h
  refine ⟨r, s, at_, ?_⟩
  cases e : g s with
  | bad => simp only [e] at q; exact False.elim q
  | exc ex s1 => simp only [e] at q; exact q
  | ok vs s1 =>
    simp only [e] at q
    intro p xs H' r' st a h1 h2 h3 h4
    obtain ⟨a2, g2⟩ := h3.addFz a h1
    refine q H' (r'.add p) ⟨st.gr.trans g2, st.kp, st.io, fun b z => ?_, st.own, st.is⟩ a2 _ (.inl ⟨p, xs, rfl, ⟨.inr rfl, h1⟩, VRs.mono g2 _ _ h4⟩)
    rcases z with z | z
    · exact st.fz b z
    · exact .inr (.inl (by rw [z]; exact h2))
theorem Apart.push {K : PySem.W.Frag} {σ : L2.St} {sl : List Slot} {H : Hp} {r : RI} {mu : List Obj} {D : Addr} {vs : List Val} {xs : List V} (a : At K σ sl H r mu) (d : Apart σ sl r D) (h : H D = some (.lst xs)) (hv : VRs K H r vs xs) :
    At K σ sl H ⟨r.io ++ [D], r.fz⟩ (mu ++ [.lst vs]) ∧ Gr H r H ⟨r.io ++ [D], r.fz⟩ := by
  have gr : Gr H r H ⟨r.io ++ [D], r.fz⟩ := ⟨⟨[D], rfl⟩, fun _ z => z, fun _ _ => rfl, fun _ _ z => z, fun _ _ _ z => z⟩
  refine ⟨⟨⟨?_, fun i p u k1 k2 => ?_, fun p hp => ?_, ?_, a.hr.is⟩, ⟨a.sr.len, fun i v k => ?_, fun i u k => ?_, fun p z => ?_, a.sr.nd⟩⟩, gr⟩
  · rw [List.length_append, List.length_append, a.hr.len]; rfl
  · by_cases hi : i < r.io.length
    · rw [List.getElem?_append_left hi] at k1
      rw [List.getElem?_append_left (by rw [← a.hr.len]; exact hi)] at k2
      exact (a.hr.obj i p u k1 k2).mono gr rfl
    · have hi2 : i = r.io.length := by
        have := (List.getElem?_eq_some_iff.mp k1).1
        rw [List.length_append, List.length_singleton] at this
        omega
      subst hi2
      rw [List.getElem?_append_right (Nat.le_refl _), Nat.sub_self] at k1
      rw [a.hr.len, List.getElem?_append_right (Nat.le_refl _), Nat.sub_self] at k2
      cases k1
      cases k2
      exact ⟨xs, h, VRs.mono gr _ _ hv⟩
  · rcases List.mem_append.mp hp with z | z
    · exact a.hr.nofz p z
    · rw [List.mem_singleton.mp z]; exact d.fz
  · refine List.nodup_append.mpr ⟨a.hr.nd, by simp, fun b hb c hc e => ?_⟩
    rw [List.mem_singleton.mp hc] at e
    exact d.io (e ▸ hb)
  · obtain ⟨x, k1, k2⟩ := a.sr.val i v k
    exact ⟨x, k1, VR.mono gr _ _ k2⟩
  · obtain ⟨p, k1, k2⟩ := a.sr.own i u k
    exact ⟨p, k1, k2.mono gr rfl⟩
  · obtain ⟨n1, n2⟩ := a.sr.nofz p z
    refine ⟨n1, fun y => ?_⟩
    rcases List.mem_append.mp y with y | y
    · exact n2 y
    · rw [List.mem_singleton.mp y] at z; exact d.ow z
theorem tE_sh {K : PySem.W.Frag} {g : MS → Out (List Val)} {σ : L2.St} {H : Hp} {Q : VK} (h : tE K W (fun s => (g s).bind fun vs s => .ok (.ref s.mu.length) { s with mu := s.mu ++ [.lst vs] }) σ H Q) : tF K W g σ H Q := by
  obtain ⟨r, s, at_, q⟩ := h
  refine ⟨r, s, at_, ?_⟩
  cases e : g s with
  | bad => simp only [e] at q; exact False.elim q
  | exc ex s1 => simp only [e] at q; exact q
  | ok vs s1 =>
    simp only [e] at q
    intro p xs H' r' st a h1 h2 h3 h4
    obtain ⟨a2, g2⟩ := h3.push a h1 h4
    refine q H' _ ⟨st.gr.trans g2, st.kp, fun b z => ?_, st.fz, st.own, st.is⟩ a2 _ (.inl ⟨p, rfl, ?_⟩)
    · rcases List.mem_append.mp z with z | z
      · exact st.io b z
      · rw [List.mem_singleton.mp z]; exact .inr h2
    · show (r'.io ++ [p])[s1.mu.length]? = some p
      rw [← a.hr.len, List.getElem?_append_right (Nat.le_refl _), Nat.sub_self]; rfl
theorem lstF {es : List Expr} {k : MS → Out (List Val)} (ha : PA X es (tA X.K W k)) : PE X (.List es pos) (tF X.K W fun s => (k s).bind fun vs s => if vs.length ≤ line then .ok vs s else .bad) := by
  refine PE.imp (pe_lst ha) fun σ H Q ⟨r, s, at_, q⟩ => ?_
  refine ⟨r, s, at_, ?_⟩
  exact (OPF.bind q).imp fun vs s1 H1 r1 _ st1 a1 q1 xs vxs => by
    split at q1
    · rename_i hl
      refine ⟨by rw [← vxs.len, line_eq]; exact hl, fun p hp => ?_⟩
      refine q1 p xs _ r1 (.new hp a1.hr.is) ⟨a1.hr.new hp, a1.sr.new hp a1.hr.is⟩ upd_same hp ⟨fun z => ?_, fun z => a1.hr.is p z hp, fun z => ?_⟩ (VRs.mono (.new hp a1.hr.is) _ _ vxs)
      · obtain ⟨ys, e⟩ := a1.hr.at_io z
        rw [hp] at e; cases e
      · obtain ⟨ys, e⟩ := a1.sr.at_own z
        rw [hp] at e; cases e
    · exact False.elim q1
def LcSt (K : PySem.W.Frag) (σ : L2.St) (own : List Nat) (s1 : MS) (H1 : Hp) (r1 : RI) (D : Addr) (acc : List Val) (s : MS) (H : Hp) : Prop :=
  ∃ r xs, At K (L2.wipe σ own) (wipeS own s).sl H r s.mu ∧ Step (L2.wipe σ own) (wipeS own s1).sl H1 r1 (L2.wipe σ own) (wipeS own s).sl H r ∧ Apart (L2.wipe σ own) (wipeS own s).sl r D ∧ H D = some (.lst xs) ∧ VRs K H r acc xs
theorem sLcF {own : List (Str × Nat)} {t : T} {fs : MS → Out Src} {fi : MS → Out Bool} {fe : MS → Out Val} (hso : ∀ j ∈ slotsOf t, j ∈ own.map (·.2)) (σ : L2.St) (H : Hp) (Q : VK)
    (h : tF X.K W (fun s => (fs s).bind fun src s1 => (noexc (lcL src (own.map (·.2)) (lcTurn t fi fe) [] src.items s1)).bind fun acc s2 => .ok acc (restoreS s1.sl (own.map (·.2)) s2)) σ H Q) :
    tLc (tI X.K W fs) (gT X.K t) (tT X.K W0 fi) (tE X.K W0 fe) (own.map (·.2)) σ H Q := by
  obtain ⟨r, s, at_, q⟩ := h
  generalize hown : own.map (·.2) = is at q hso ⊢
  refine ⟨r, s, at_, (OPF.bind q).imp fun src s1 H1 r1 _ st1 a1 q1 J feeds => ?_⟩
  intro D hD
  cases hl : noexc (lcL src is (lcTurn t fi fe) [] src.items s1) with
  | bad => rw [hl] at q1; exact False.elim q1
  | exc ex s2 =>
    cases h2 : lcL src is (lcTurn t fi fe) [] src.items s1 <;> rw [h2] at hl <;> cases hl
  | ok accF sF =>
    rw [hl] at q1
    have hl : lcL src is (lcTurn t fi fe) [] src.items s1 = .ok accF sF := by
      cases h2 : lcL src is (lcTurn t fi fe) [] src.items s1 <;> rw [h2] at hl <;> first | exact hl | cases hl
    simp only [Out.bind_ok] at q1
    have dio : D ∉ r1.io := fun z => by
      obtain ⟨xs, e⟩ := a1.hr.at_io z
      rw [hD] at e; cases e
    have dfz : ¬ r1.fz D := fun z => a1.hr.is D z hD
    have down : ¬ Own σ s1.sl D := fun z => by
      obtain ⟨xs, e⟩ := a1.sr.at_own z
      rw [hD] at e; cases e
    have start : LcSt X.K σ is s1 H1 r1 D [] s1 (upd H1 D (.lst [])) := by
      have a0 : At X.K σ s1.sl (upd H1 D (.lst [])) r1 s1.mu := ⟨a1.hr.new hD, a1.sr.new hD a1.hr.is⟩
      obtain ⟨aw, _⟩ := a0.wipe is
      rw [wipeS_mu] at aw
      exact ⟨r1, [], aw, .new hD a1.hr.is, ⟨dio, dfz, fun z => down (own_wiped z)⟩, upd_same, rfl⟩
    refine ⟨fun i m H => m = src.items.length - i ∧ i ≤ src.items.length ∧ ∃ acc s, LcSt X.K σ is s1 H1 r1 D acc s H ∧ lcL src is (lcTurn t fi fe) acc (src.items.drop i) s = .ok accF sF,
      ⟨_, rfl, Nat.zero_le _, [], s1, start, hl⟩, ?_⟩
    rintro i m H2 ⟨rfl, hi, acc, s2, ⟨r2, xs, a2, st2, d2, hx, hxs⟩, run⟩
    by_cases hlt : i < src.items.length
    ·
      have hd : src.items.drop i = src.items[i] :: src.items.drop (i + 1) := List.drop_eq_getElem_cons hlt
      rw [hd] at run
      unfold lcL at run
      split at run
      · rename_i hcond
        obtain ⟨f1, f2⟩ := feeds i H2 r2 s2.mu a2.hr st2.gr hcond.1
        obtain ⟨go, yld⟩ := f1 src.items[i] (List.getElem?_eq_getElem hlt)
        refine .inr ⟨go, fun H' => ∃ acc s, LcSt X.K σ is s1 H1 r1 D acc s H' ∧ lcL src is (lcTurn t fi fe) acc (src.items.drop (i + 1)) s = .ok accF sF, fun H' q => ⟨_, by omega, rfl, hlt, q⟩, fun x H3 hy => ?_⟩
        obtain ⟨r3, st3, hr3, vx⟩ := yld x H3 hy
        have a3 : At X.K (L2.wipe σ is) (wipeS is s2).sl H3 r3 s2.mu := ⟨hr3, a2.sr.inF st3⟩
        have st3i := st3.inF (σ := L2.wipe σ is) (sl := (wipeS is s2).sl)
        obtain ⟨d3, hx3⟩ := d2.step st3i hx
        cases hs : store t src.items[i] (wipeS is s2) with
        | none =>
          exfalso
          have : lcTurn t fi fe src.items[i] (wipeS is s2) = .bad := by unfold lcTurn; rw [hs]
          rw [this] at run
          cases run
        | some s4 =>
          have a3' : At X.K (L2.wipe σ is) (wipeS is s2).sl H3 r3 (wipeS is s2).mu := by rw [wipeS_mu]; exact a3
          refine ⟨src.items[i], r3, wipeS is s2, s4, a3', vx, hs, fun σ4 a4 st4 keep4 mu4 => ?_⟩
          have hw4 : wipe σ4 is = wipe σ is := by
            have hlen : σ4.length = (wipe σ is).length := by
              have h1 := a4.sr.len
              have h2 := a3.sr.len
              have h3 := store_len _ _ _ _ hs
              omega
            rw [wipe_eq hlen fun j hj => keep4 j fun z => hj (hso j z), wipe_wipe]
          refine ⟨hw4, ?_⟩
          obtain ⟨d4, hx4⟩ := d3.step st4 hx3
          have turn : lcTurn t fi fe src.items[i] (wipeS is s2) = ((fi s4).bind fun b s => if b then (fe s).bind fun x s => lift ((keep x).map some) s else .ok none s) := by unfold lcTurn; rw [hs]
          rw [turn] at run
          cases hf : fi s4 with
          | bad => rw [hf] at run; cases run
          | exc _ _ => rw [hf] at run; cases run
          | ok bb s5 =>
            rw [hf] at run
            refine ⟨r3, s4, a4, ?_⟩
            rw [hf]
            intro H5 r5 st5 a5
            obtain ⟨d5, hx5⟩ := d4.step st5 hx4
            have g5 : Gr H2 r2 H5 r5 := st3.gr.trans (st4.gr.trans st5.gr)
            cases bb with
            | false =>
              refine ite_ff ⟨acc, s5, ?_, by simpa using run⟩
              obtain ⟨a7, st7⟩ := a5.wipe is
              rw [hw4, wipeS_mu] at a7
              rw [hw4] at st7
              obtain ⟨d7, hx7⟩ := d5.step st7 hx5
              exact ⟨r5, xs, a7, (((st2.trans st3i).trans st4).trans st5).trans st7, d7, hx7, VRs.mono g5 _ _ hxs⟩
            | true =>
              refine ite_tt ?_
              simp only [Out.bind_ok, if_true] at run
              cases he : fe s5 with
              | bad => rw [he] at run; cases run
              | exc _ _ => rw [he] at run; cases run
              | ok w s6 =>
                rw [he] at run
                simp only [Out.bind_ok] at run
                refine ⟨r5, s5, a5, ?_⟩
                rw [he]
                intro H6 r6 st6 a6 y vy
                cases hk : keep w with
                | none => rw [hk] at run; cases run
                | some w' =>
                  rw [hk] at run
                  simp only [Option.map_some, lift_some, Out.bind_ok] at run
                  obtain ⟨e1, vr⟩ := vy.keep hk
                  obtain ⟨d6, hx6⟩ := d5.step st6 hx5
                  have hxs6 : VRs X.K H6 r6 acc xs := VRs.mono (g5.trans st6.gr) _ _ hxs
                  refine ⟨xs, hx6, by rw [← hxs6.len, line_eq]; exact hcond.2, acc ++ [w'], s6, ?_, run⟩
                  obtain ⟨a7, st7⟩ := a6.wipe is
                  rw [hw4, wipeS_mu] at a7
                  rw [hw4] at st7
                  obtain ⟨d7, _⟩ := d6.step st7 hx6
                  have gD : Gr H6 r6 (upd H6 D (.lst (xs ++ [y]))) r6 := ⟨⟨[], by simp⟩, fun _ z => z, fun p z => upd_ne fun e => d6.fz (by rw [← e]; exact z), fun p ys z => by rw [upd_ne (ne_of z hx6 (by intro z; cases z))]; exact z, fun p o u z => by rw [upd_ne (ne_of z hx6 (by intro z; cases z))]; exact z⟩
                  have aD : At X.K (L2.wipe σ is) (wipeS is s6).sl (upd H6 D (.lst (xs ++ [y]))) r6 s6.mu := by
                    refine ⟨⟨a7.hr.len, fun a p o k1 k2 => (a7.hr.obj a p o k1 k2).mono gD (upd_ne fun e => d7.io (e ▸ List.mem_of_getElem? k1)), a7.hr.nofz, a7.hr.nd, fun p z => ?_⟩, a7.sr.keep gD (fun p z => upd_ne fun e => d7.ow (e ▸ z)) (fun _ z => .inl z) fun _ z => .inl z⟩
                    have np : p ≠ D := fun e => d7.fz (by rw [← e]; exact z)
                    rw [upd_ne np]
                    exact a7.hr.is p z
                  have stA : Step (L2.wipe σ is) (wipeS is s1).sl H1 r1 (L2.wipe σ is) (wipeS is s6).sl H6 r6 := ((((st2.trans st3i).trans st4).trans st5).trans st6).trans st7
                  refine ⟨r6, xs ++ [y], aD, ⟨stA.gr.trans gD, fun p u z hi2 ho => ?_, stA.io, stA.fz, stA.own, fun p z => ?_⟩, d7, upd_same, VRs.app (VRs.mono gD _ _ hxs6) (VRs.cons (VR.mono gD _ _ vr) VRs.nil)⟩
                  · rw [upd_ne (ne_of_none z hD)]
                    exact stA.kp p u z hi2 ho
                  · by_cases e : p = D
                    · rw [e, upd_same]; simp
                    · rw [upd_ne e]; exact stA.is p z
      · cases run
    ·
      have e : i = src.items.length := by omega
      subst e
      rw [List.drop_length] at run
      unfold lcL at run
      split at run
      · rename_i hcond
        cases run
        obtain ⟨_, f2⟩ := feeds src.items.length H2 r2 sF.mu a2.hr st2.gr hcond
        refine .inl ⟨f2 (Nat.le_refl _), ?_⟩
        obtain ⟨a8, st8⟩ := At.restore a1 a2 st2
        have d8 : Apart σ (restoreS s1.sl is sF).sl r2 D := by
          refine ⟨d2.io, d2.fz, fun z => ?_⟩
          obtain ⟨j, o, k1, k2⟩ := z
          have hl2 : sF.sl.length = s1.sl.length := by
            have h1 := a1.sr.len
            have h2 := a2.sr.len
            rw [wipeS_len, wipe_length] at h2
            omega
          by_cases hj : j ∈ is
          · rw [restoreS_in hj hl2] at k1
            exact down ⟨j, o, k1, k2⟩
          · rw [restoreS_out hj] at k1
            exact d2.ow (own_wipe.mpr ⟨j, o, hj, k1, k2⟩)
        exact q1 D xs H2 r2 st8 (by rw [restoreS_mu]; exact a8) hx hD d8 hxs
      · cases run
end
end M
end F_M3h
section F_M3i
set_option maxRecDepth 100000
namespace M
open PySem PySem.Spec PyProof.Rows L2
section
variable {X : Cx} {W : WX} {e a b c : Expr} {pos : Pos} {f g h : MS → Out Val}
theorem sLstF {es : List Expr} {k : MS → Out (List Val)} (ha : PA X es (tA X.K W k)) : PE X (.List es pos) (tF X.K W fun s => (k s).bind fun vs s => if vs.length ≤ line then .ok vs s else .bad) := by
  refine PE.imp (pe_lst ha) fun σ H Q ⟨r, s, at_, q⟩ => ?_
  refine ⟨r, s, at_, (OPF.bind q).imp fun vs s1 H1 r1 _ st1 a1 q1 xs vxs => ?_⟩
  split at q1
  · rename_i hl
    refine ⟨by rw [← vxs.len, line_eq]; exact hl, fun p hp => ?_⟩
    refine q1 p xs _ r1 (.new hp a1.hr.is) ⟨a1.hr.new hp, a1.sr.new hp a1.hr.is⟩ upd_same hp ⟨fun z => ?_, fun z => a1.hr.is p z hp, fun z => ?_⟩ (VRs.mono (.new hp a1.hr.is) _ _ vxs)
    · obtain ⟨ys, e⟩ := a1.hr.at_io z
      rw [hp] at e; cases e
    · obtain ⟨ys, e⟩ := a1.sr.at_own z
      rw [hp] at e; cases e
  · exact False.elim q1
theorem sListF {l : MS → Out (List Val)} (hr : ∀ rr, CallR X (.type "list") rr → PE X e fun σ H Q => tAh X.K W l σ H fun vs H1 => rr vs H1 Q) :
    PE X e (tF X.K W fun s => (l s).bind fun vs s => lift ((vs.mapM s.rd).bind fun
      | [.lst vs] => some vs
      | [.tup vs] => some vs
      | _ => none) s) := by
  refine PE.imp (hr _ call_list_of) fun σ H Q ⟨r, s, at_, q⟩ => ?_
  refine ⟨r, s, at_, (OPF.bind q).imp fun vs s1 H1 r1 _ st1 a1 q1 xs vxs => ?_⟩
  cases e1 : (vs.mapM s1.rd).bind fun
      | [.lst vs] => some vs
      | [.tup vs] => some vs
      | _ => none with
  | none => simp only [e1] at q1; exact False.elim q1
  | some us =>
    rw [e1] at q1
    obtain ⟨ws, e2, e3⟩ := Option.bind_eq_some_iff.mp e1
    have vd := VLs.rd a1 vxs e2
    have fin : ∀ (p : Addr) (ys : List V), VRs X.K H1 r1 us ys → ∀ l, H1 l = none → Q (.ref l) (upd H1 l (.lst ys)) := fun p ys h l hp => by
      refine q1 l ys _ r1 (.new hp a1.hr.is) ⟨a1.hr.new hp, a1.sr.new hp a1.hr.is⟩ upd_same hp ⟨fun z => ?_, fun z => a1.hr.is l z hp, fun z => ?_⟩ (VRs.mono (.new hp a1.hr.is) _ _ h)
      · obtain ⟨ys, e⟩ := a1.hr.at_io z
        rw [hp] at e; cases e
      · obtain ⟨ys, e⟩ := a1.sr.at_own z
        rw [hp] at e; cases e
    match ws, e3 with
    | [.lst vs'], e3 =>
      cases e3
      obtain ⟨x, rfl, p, ys, rfl, h1, h2⟩ := vd.one
      exact ⟨p, ys, rfl, .inl (SqL.of h1), fin p ys h2⟩
    | [.tup vs'], e3 =>
      cases e3
      obtain ⟨x, rfl, p, ys, rfl, h1, h2⟩ := vd.one
      exact ⟨p, ys, rfl, .inr h1, fin p ys h2⟩
theorem put_ok {K : PySem.W.Frag} {σ : L2.St} {s s' : MS} {H : Hp} {r : RI} {v : Val} {x : V} {vs ws : List Val} (a : At K σ s.sl H r s.mu) (h : VL K H r σ s.sl v x) (hg : s.get v = some (.lst vs)) (hp : s.put (.lst ws) v = some s') :
    ∃ p xs, x = .ref p ∧ H p = some (.lst xs) ∧ VRs K H r vs xs ∧ ∀ ys, VRs K H r ws ys → Step σ s.sl H r σ s'.sl (upd H p (.lst ys)) r ∧ At K σ s'.sl (upd H p (.lst ys)) r s'.mu ∧ Gr H r (upd H p (.lst ys)) r := by
  have gr : ∀ {p : Addr} {xs ys : List V}, H p = some (.lst xs) → ¬ r.fz p → Gr H r (upd H p (.lst ys)) r := fun {p xs ys} hx hf =>
    ⟨⟨[], by simp⟩, fun _ z => z, fun q z => upd_ne fun e => hf (e ▸ z), fun q zs z => by rw [upd_ne (ne_of z hx (by intro z; cases z))]; exact z, fun q o u z => by rw [upd_ne (ne_of z hx (by intro z; cases z))]; exact z⟩
  rcases h with h | ⟨i, rfl, hx⟩
  · cases v with
    | ref ad =>
      obtain ⟨p, rfl, hio⟩ := h
      obtain ⟨xs, h1, h2⟩ := a.hr.obj ad p _ hio hg
      have hmem : p ∈ r.io := List.mem_of_getElem? hio
      have nf := a.hr.nofz p hmem
      have nown : ¬ Own σ s.sl p := fun z => (a.sr.nofz p z).2 hmem
      simp only [MS.put] at hp
      split at hp
      · rename_i hlt
        cases hp
        refine ⟨p, xs, rfl, h1, h2, fun ys hys => ?_⟩
        have g := gr (ys := ys) h1 nf
        refine ⟨⟨g, fun q u z hi _ => by rw [upd_ne fun e => hi (by rw [e]; exact hmem)]; exact z, fun _ z => .inl z, fun _ z => .inl z, fun _ z => .inl z, fun q z => ?_⟩, ⟨⟨by rw [List.length_set]; exact a.hr.len, fun ad2 q o k1 k2 => ?_, a.hr.nofz, a.hr.nd, fun q z => ?_⟩, a.sr.keep g (fun q z => upd_ne fun e => nown (e ▸ z)) (fun _ z => .inl z) fun _ z => .inl z⟩, g⟩
        · by_cases e : q = p
          · rw [e, upd_same]; simp
          · rw [upd_ne e]; exact z
        · by_cases e : ad = ad2
          · subst e
            rw [List.getElem?_set_self hlt] at k2
            cases k2
            rw [hio] at k1
            cases k1
            exact ⟨ys, upd_same, VRs.mono g _ _ hys⟩
          · rw [List.getElem?_set_ne e] at k2
            refine (a.hr.obj ad2 q o k1 k2).mono g (upd_ne fun e2 => e ?_)
            subst e2
            obtain ⟨l1, e1⟩ := List.getElem?_eq_some_iff.mp hio
            obtain ⟨l2, e2⟩ := List.getElem?_eq_some_iff.mp k1
            exact (List.getElem_inj a.hr.nd).mp (e1.trans e2.symm)
        · by_cases e : q = p
          · rw [e, upd_same]; simp
          · rw [upd_ne e]; exact a.hr.is q z
      · cases hp
    | loc i => exact False.elim h
    | _ => simp [MS.get] at hg
  · simp only [MS.get] at hg
    simp only [MS.put] at hp
    cases hm : s.sl[i]? with
    | none => rw [hm] at hg; cases hg
    | some sl =>
      rw [hm] at hg hp
      cases sl with
      | none => cases hg
      | val _ => cases hg
      | own o =>
        cases hg
        cases hp
        have hi : i < s.sl.length := (List.getElem?_eq_some_iff.mp hm).1
        obtain ⟨p, k1, xs, h1, h2⟩ := a.sr.own i _ hm
        rw [hx] at k1
        cases k1
        have ow : Own σ s.sl p := ⟨i, _, hm, hx⟩
        obtain ⟨nf, nio⟩ := a.sr.nofz p ow
        refine ⟨p, xs, rfl, h1, h2, fun ys hys => ?_⟩
        have g := gr (ys := ys) h1 nf
        have ow' : ∀ q, Own σ (s.sl.set i (.own (.lst ws))) q → Own σ s.sl q := by
          rintro q ⟨j, o, k1, k2⟩
          by_cases hj : i = j
          · subst hj
            exact ⟨i, _, hm, k2⟩
          · rw [set_at hj] at k1
            exact ⟨j, o, k1, k2⟩
        refine ⟨⟨g, fun q u z _ ho => by rw [upd_ne fun e => ho (by rw [e]; exact ow)]; exact z, fun _ z => .inl z, fun _ z => .inl z, fun q z => .inl (ow' q z), fun q z => ?_⟩,
          ⟨⟨a.hr.len, fun ad q o k1 k2 => (a.hr.obj ad q o k1 k2).mono g (upd_ne fun e => nio (e ▸ List.mem_of_getElem? k1)), a.hr.nofz, a.hr.nd, fun q z => ?_⟩, ⟨by rw [List.length_set]; exact a.sr.len, fun j w k => ?_, fun j o k => ?_, fun q z => a.sr.nofz q (ow' q z), fun j k o o' q k1 k2 k3 k4 => ?_⟩⟩, g⟩
        · by_cases e : q = p
          · rw [e, upd_same]; simp
          · rw [upd_ne e]; exact z
        · by_cases e : q = p
          · rw [e, upd_same]; simp
          · rw [upd_ne e]; exact a.hr.is q z
        · by_cases hj : i = j
          · subst hj
            rw [List.getElem?_set_self hi] at k
            cases k
          · rw [set_at hj] at k
            obtain ⟨x, k1, k2⟩ := a.sr.val j w k
            exact ⟨x, k1, VR.mono g _ _ k2⟩
        · by_cases hj : i = j
          · subst hj
            rw [List.getElem?_set_self hi] at k
            cases k
            exact ⟨p, hx, ys, upd_same, VRs.mono g _ _ hys⟩
          · rw [set_at hj] at k
            obtain ⟨q, k1, k2⟩ := a.sr.own j o k
            refine ⟨q, k1, k2.mono g (upd_ne fun e => hj ?_)⟩
            subst e
            exact a.sr.nd i j _ _ q hm k hx k1
        · have h1 : ∃ o, s.sl[j]? = some (.own o) := by
            by_cases hj : i = j
            · subst hj; exact ⟨_, hm⟩
            · rw [set_at hj] at k1; exact ⟨_, k1⟩
          have h2 : ∃ o, s.sl[k]? = some (.own o) := by
            by_cases hk : i = k
            · subst hk; exact ⟨_, hm⟩
            · rw [set_at hk] at k2; exact ⟨_, k2⟩
          obtain ⟨o1, h1⟩ := h1
          obtain ⟨o2, h2⟩ := h2
          exact a.sr.nd j k o1 o2 q h1 h2 k3 k4
end
end M
end F_M3i
section F_M3j
set_option maxRecDepth 100000
namespace M
open PySem PySem.Spec PyProof.Rows L2
def FP (K : PySem.W.Frag) (W : WX) (σ : L2.St) (sl : List Slot) (H : Hp) (r : RI) (D : Ends) : Fl → Prop
  | .next s' => ∀ σ' H' r', Step σ sl H r σ' s'.sl H' r' → At K σ' s'.sl H' r' s'.mu → D.nx σ' H'
  | .brk s' => ∀ σ' H' r', Step σ sl H r σ' s'.sl H' r' → At K σ' s'.sl H' r' s'.mu → D.bk σ' H'
  | .cont s' => ∀ σ' H' r', Step σ sl H r σ' s'.sl H' r' → At K σ' s'.sl H' r' s'.mu → D.ct σ' H'
  | .ret v s' => ∀ x σ' H' r', Step σ sl H r σ' s'.sl H' r' → At K σ' s'.sl H' r' s'.mu → VR K H' r' v x → D.rt x H'
  | .exc e s' => ∀ cls d σ' H' r', Step σ sl H r σ' s'.sl H' r' → At K σ' s'.sl H' r' s'.mu → ER K H' r' e cls d → W cls d σ' H'
  | .bad => False
def tS (K : PySem.W.Frag) (W : WX) (f : MS → Fl) : TS := fun D σ H => ∃ r s, At K σ s.sl H r s.mu ∧ FP K W σ s.sl H r D (f s)
section
variable {K : PySem.W.Frag} {W : WX} {σ σ' : L2.St} {sl sl' : List Slot} {H H' : Hp} {r r' : RI} {D : Ends}
theorem FP.rebase {x : Fl} (h : FP K W σ sl H r D x) (st : Step σ sl H r σ' sl' H' r') : FP K W σ' sl' H' r' D x := by
  cases x with
  | next s' => exact fun σ2 H2 r2 st2 a => h σ2 H2 r2 (st.trans st2) a
  | brk s' => exact fun σ2 H2 r2 st2 a => h σ2 H2 r2 (st.trans st2) a
  | cont s' => exact fun σ2 H2 r2 st2 a => h σ2 H2 r2 (st.trans st2) a
  | ret v s' => exact fun x σ2 H2 r2 st2 a => h x σ2 H2 r2 (st.trans st2) a
  | exc e s' => exact fun cls d σ2 H2 r2 st2 a => h cls d σ2 H2 r2 (st.trans st2) a
  | bad => exact h
theorem FP.fl {β : Type} {o : Out β} {f : β → MS → Fl} (h : FP K W σ sl H r D (o.fl f)) : OP K W σ sl H r o fun b s' H' r' => FP K W σ s'.sl H' r' D (f b s') := by
  cases o with
  | ok b s' => exact fun H' r' st a => FP.rebase h st
  | exc e s' => exact fun cls d H' r' st a er => h cls d σ H' r' st a er
  | bad => exact h
theorem FP.seq {x : Fl} {f : MS → Fl} (h : FP K W σ sl H r D (x.seq f)) : FP K W σ sl H r { D with nx := tS K W f D } x := by
  cases x with
  | next s' => exact fun σ2 H2 r2 st2 a => ⟨r2, s', a, FP.rebase h st2⟩
  | brk s' => exact h
  | cont s' => exact h
  | ret v s' => exact h
  | exc e s' => exact h
  | bad => exact h
theorem FP.here {s : MS} (h : FP K W σ s.sl H r D (.next s)) (a : At K σ s.sl H r s.mu) : D.nx σ H := h σ H r .refl a
end
section
variable {X : Cx} {W : WX} {e a b c : Expr} {pos : Pos} {f g h : MS → Out Val} {st : Stmt} {sts : List Stmt}
theorem sNil : PSs X [] (tS X.K W fun s => .next s) := PSs.imp pss_nil fun D σ H ⟨r, s, at_, q⟩ => q.here at_
theorem sCons {k l : MS → Fl} (h1 : PS X st (tS X.K W k)) (h2 : PSs X sts (tS X.K W l)) : PSs X (st :: sts) (tS X.K W fun s => (k s).seq l) :=
  PSs.imp (pss_cons h1 h2) fun D σ H ⟨r, s, at_, q⟩ => ⟨r, s, at_, q.seq⟩
theorem sPass : PS X (.Pass pos) (tS X.K W fun s => .next s) := PS.imp ps_pass fun D σ H ⟨r, s, at_, q⟩ => q.here at_
theorem sBreak : PS X (.Break pos) (tS X.K W fun s => .brk s) := PS.imp ps_break fun D σ H ⟨r, s, at_, q⟩ => q σ H r .refl at_
theorem sCont : PS X (.Continue pos) (tS X.K W fun s => .cont s) := PS.imp ps_continue fun D σ H ⟨r, s, at_, q⟩ => q σ H r .refl at_
theorem sRetN : PS X (.Return none pos) (tS X.K W fun s => .ret .none s) := PS.imp ps_retN fun D σ H ⟨r, s, at_, q⟩ => q .non σ H r .refl at_ rfl
theorem sRet (ha : PE X a (tE X.K W f)) : PS X (.Return (some a) pos) (tS X.K W fun s => (f s).fl fun x s => match keep x with
    | some x => .ret x s
    | none => .bad) := by
  refine PS.imp (ps_ret ha) fun D σ H ⟨r, s, at_, q⟩ => ?_
  refine ⟨r, s, at_, (FP.fl q).imp fun v s1 H1 r1 _ st1 a1 q1 x vx => ?_⟩
  cases hk : keep v with
  | none => simp only [hk] at q1; exact False.elim q1
  | some w =>
    simp only [hk] at q1
    obtain ⟨_, vr⟩ := vx.keep hk
    exact q1 x σ H1 r1 .refl a1 vr
theorem sIf {k : MS → Out Bool} {l m : MS → Fl} {sa sb : List Stmt} (hc : PT X c (tT X.K W k)) (ha : PSs X sa (tS X.K W l)) (hb : PSs X sb (tS X.K W m)) :
    PS X (.If c sa sb pos) (tS X.K W fun s => (k s).fl fun x s => if x then l s else m s) := by
  refine PS.imp (ps_if hc ha hb) fun D σ H ⟨r, s, at_, q⟩ => ?_
  refine ⟨r, s, at_, (FP.fl q).imp fun v s1 H1 r1 _ st1 a1 q1 => ?_⟩
  cases v with
  | true => exact ite_tt ⟨r1, s1, a1, q1⟩
  | false => exact ite_ff ⟨r1, s1, a1, q1⟩
theorem sExpr (ha : PE X a (tE X.K W f)) (hs : swapsWith a none pos.line X.env = pure false) : PS X (.Expr a pos) (tS X.K W fun s => (f s).fl fun _ s => .next s) := by
  refine PS.imp (ps_expr ha hs) fun D σ H ⟨r, s, at_, q⟩ => ?_
  exact ⟨r, s, at_, (FP.fl q).imp fun v s1 H1 r1 _ st1 a1 q1 x vx => q1.here a1⟩
theorem sAsg {tg : Expr} {t : T} (ha : PE X a (tE X.K W f)) (hg : PG X tg (gT X.K t)) (hs : swapsWithSole [tg] a pos.line X.env = pure false) (hw : swappedStores [tg] a X.env = pure none) (h1 : (assignEach [tg] X.env).map (·.2) = [assign tg X.env]) :
    PS X (.Assign [tg] a pos) (tS X.K W fun s => (f s).fl fun x s => match keep x with
      | some x => match store t x s with
        | some s => .next s
        | none => .bad
      | none => .bad) := by
  refine PS.imp (ps_asg ha hg hs hw h1) fun D σ H ⟨r, s, at_, q⟩ => ?_
  refine ⟨r, s, at_, (FP.fl q).imp fun v s1 H1 r1 _ st1 a1 q1 x vx => ?_⟩
  cases hk : keep v with
  | none => simp only [hk] at q1; exact False.elim q1
  | some w =>
    simp only [hk] at q1
    obtain ⟨_, vr⟩ := vx.keep hk
    cases he : store t w s1 with
    | none => simp only [he] at q1; exact False.elim q1
    | some s2 =>
      simp only [he] at q1
      exact ⟨w, r1, s1, s2, a1, vr, he, fun σ2 a2 st2 _ _ => q1 σ2 H1 r1 st2 a2⟩
theorem sAsgT {te : TE} {i : Nat} (hp : PS X st (tAsg te (gName i))) (ht : ∀ σ H Q, tE X.K W f σ H Q → te σ H Q) :
    PS X st (tS X.K W fun s => (f s).fl fun x s => match keep x with
      | some x => match store (.nm i) x s with
        | some s => .next s
        | none => .bad
      | none => .bad) := by
  refine PS.imp hp fun D σ H ⟨r, s, at_, q⟩ => ht _ _ _ ?_
  refine ⟨r, s, at_, (FP.fl q).imp fun v s1 H1 r1 _ st1 a1 q1 x vx => ?_⟩
  cases hk : keep v with
  | none => simp only [hk] at q1; exact False.elim q1
  | some w =>
    simp only [hk] at q1
    obtain ⟨_, vr⟩ := vx.keep hk
    simp only [store] at q1
    by_cases hi : i < s1.sl.length
    · simp only [if_pos hi] at q1
      obtain ⟨a2, st2⟩ := a1.set hi vr
      exact q1 _ H1 r1 st2 a2
    · simp only [if_neg hi] at q1
      exact False.elim q1
theorem sOwn {te : TE} {i : Nat} {k : MS → Out (List Val)} (hp : PS X st (tAsg te (gName i))) (ht : ∀ σ H Q, tF X.K W k σ H Q → te σ H Q) :
    PS X st (tS X.K W fun s => (k s).fl fun vs s => if i < s.sl.length then .next { s with sl := s.sl.set i (.own (.lst vs)) } else .bad) := by
  refine PS.imp hp fun D σ H ⟨r, s, at_, q⟩ => ht _ _ _ ⟨r, s, at_, ?_⟩
  cases hk : k s with
  | bad => simp only [hk] at q; exact False.elim q
  | exc ex s1 => simp only [hk] at q; exact fun cls d H' r' st a er => q cls d σ H' r' st a er
  | ok vs s1 =>
    simp only [hk, Out.fl_ok] at q
    intro p xs H1 r1 st1 a1 h1 h2 h3 h4
    split at q
    · rename_i hi
      have hi2 : i < σ.length := by rw [← a1.sr.len]; exact hi
      have ow : ∀ b, Own (σ.set i (some (.ref p))) (s1.sl.set i (.own (.lst vs))) b → b = p ∨ Own σ s1.sl b := by
        rintro b ⟨j, o, k1, k2⟩
        by_cases hj : i = j
        · subst hj
          rw [List.getElem?_set_self hi2] at k2
          cases k2
          exact .inl rfl
        · rw [set_at hj] at k1 k2
          exact .inr ⟨j, o, k1, k2⟩
      refine q (σ.set i (some (.ref p))) H1 r1 ⟨st1.gr, st1.kp, st1.io, st1.fz, fun b z => ?_, st1.is⟩ ⟨a1.hr, ⟨by rw [List.length_set, List.length_set]; exact a1.sr.len, fun j w k => ?_, fun j o k => ?_, fun b z => ?_, fun j k o o' b k1 k2 k3 k4 => ?_⟩⟩
      · rcases ow b z with e | z
        · exact .inr (by rw [e]; exact h2)
        · exact st1.own b z
      · by_cases hj : i = j
        · subst hj
          rw [List.getElem?_set_self hi] at k
          cases k
        · rw [set_at hj] at k ⊢
          exact a1.sr.val j w k
      · by_cases hj : i = j
        · subst hj
          rw [List.getElem?_set_self hi] at k
          cases k
          exact ⟨p, List.getElem?_set_self hi2, xs, h1, h4⟩
        · rw [set_at hj] at k ⊢
          exact a1.sr.own j o k
      · rcases ow b z with e | z
        · rw [e]; exact ⟨h3.fz, h3.io⟩
        · exact a1.sr.nofz b z
      · by_cases hj : i = j
        · subst hj
          by_cases hk : i = k
          · exact hk
          · rw [set_at hk] at k2 k4
            rw [List.getElem?_set_self hi2] at k3
            cases k3
            exact absurd ⟨k, o', k2, k4⟩ h3.ow
        · rw [set_at hj] at k1 k3
          by_cases hk : i = k
          · subst hk
            rw [List.getElem?_set_self hi2] at k4
            cases k4
            exact absurd ⟨j, o, k1, k3⟩ h3.ow
          · rw [set_at hk] at k2 k4
            exact a1.sr.nd j k o o' b k1 k2 k3 k4
    · exact False.elim q
theorem sPar {i j : Nat} {k : MS → Out (List Val)} (hp : ∀ ta, PA X [a, b] ta → PS X st (tPar i j ta)) (ha : PA X [a, b] (tA X.K W k)) :
    PS X st (tS X.K W fun s => (k s).fl fun vs s => match vs with
      | [x, y] => if i < s.sl.length ∧ j < s.sl.length then .next { s with sl := (s.sl.set i (.val x)).set j (.val y) } else .bad
      | _ => .bad) := by
  refine PS.imp (hp _ ha) fun D σ H ⟨r, s, at_, q⟩ => ?_
  refine ⟨r, s, at_, (FP.fl q).imp fun vs s1 H1 r1 _ st1 a1 q1 xs vxs => ?_⟩
  match vs, q1 with
  | [x, y], q1 =>
    simp only at q1
    split at q1
    · rename_i hl
      obtain ⟨v, ys, rfl, v1, w, zs, rfl, v2, v3⟩ := vxs
      rw [show zs = [] from v3]
      obtain ⟨a2, st2⟩ := a1.set hl.1 v1
      obtain ⟨a3, st3⟩ := a2.set (i := j) (by rw [List.length_set]; exact hl.2) v2
      exact ⟨v, w, rfl, q1 _ H1 r1 (st2.trans st3) a3⟩
    · exact False.elim q1
theorem sAug {i : Nat} {F : Operator} {k : Val → Val → Option Val} {x : Str} {p' : Pos} (ok : BinOk X (inplaceOp F) k) (hN : X.N.Nodup) (hi : X.N[i]? = some x) (hx : Loc X.env.scope x) (hf : X.fn x = true ∨ X.env.scope.names.lookup x = some .local)
    (ha : PE X a (tE X.K W g)) (hloc : ∀ u j, k u (.loc j) = none) :
    PS X (.AugAssign (.Name x p') F a pos) (tS X.K W fun s => match s.sl[i]? with
      | some (.val x) => (g s).fl fun y s => match k x y with
        | some z => if i < s.sl.length then .next { s with sl := s.sl.set i (.val z) } else .bad
        | none => .bad
      | _ => .bad) := by
  obtain ⟨rr, ho, hk⟩ := ok
  refine PS.imp (ps_aug hN hi hx ha (ti := rr) ho hf) fun D σ H ⟨r, s, at_, q⟩ => ?_
  cases hs : s.sl[i]? with
  | none => simp only [hs] at q; exact False.elim q
  | some sv =>
    cases sv with
    | none => simp only [hs] at q; exact False.elim q
    | own _ => simp only [hs] at q; exact False.elim q
    | val u =>
      simp only [hs] at q
      obtain ⟨x, e1, vx⟩ := at_.sr.val i u hs
      refine ⟨x, e1, r, s, at_, (FP.fl q).imp fun v s1 H1 r1 _ st1 a1 q1 y vy => ?_⟩
      cases hz : k u v with
      | none => simp only [hz] at q1; exact False.elim q1
      | some z =>
        simp only [hz] at q1
        split at q1
        · rename_i hi2
          have vy' : VD X.K H1 r1 v y := by
            rcases vy with vy | ⟨j, rfl, _⟩
            · exact vy.vd
            · rw [hloc] at hz; cases hz
          refine hk σ s1.sl H1 r1 s1.mu u v z x y _ a1 (VR.mono st1.gr _ _ vx).vd vy' hz fun zz H' r' st hr sr vz => ?_
          obtain ⟨a3, st3⟩ := At.set (K := X.K) ⟨hr, sr⟩ hi2 vz
          exact q1 _ H' r' (st.trans st3) a3
        · exact False.elim q1
theorem get_ty {K : PySem.W.Frag} {σ : L2.St} {s : MS} {H : Hp} {r : RI} {v : Val} {x : V} {o : Obj} (a : At K σ s.sl H r s.mu) (h : VL K H r σ s.sl v x) (hg : s.get v = some o) : ∃ p xs, x = .ref p ∧ H p = some (.lst xs) ∧ ∀ vs, o = .lst vs → VRs K H r vs xs := by
  rcases h with h | ⟨i, rfl, hx⟩
  · cases v with
    | ref ad =>
      obtain ⟨p, rfl, hio⟩ := h
      cases o with
      | lst vs =>
        obtain ⟨xs, h1, h2⟩ := a.hr.obj ad p _ hio hg
        exact ⟨p, xs, rfl, h1, fun _ e => by cases e; exact h2⟩
      | gone =>
        obtain ⟨xs, h1⟩ := a.hr.obj ad p _ hio hg
        exact ⟨p, xs, rfl, h1, fun _ e => by cases e⟩
    | loc _ => exact False.elim h
    | _ => simp [MS.get] at hg
  · simp only [MS.get] at hg
    cases hm : s.sl[i]? with
    | none => rw [hm] at hg; cases hg
    | some sl =>
      rw [hm] at hg
      cases sl with
      | own o' =>
        cases hg
        obtain ⟨p, k1, k2⟩ := a.sr.own i _ hm
        rw [hx] at k1
        cases k1
        cases o with
        | lst vs =>
          obtain ⟨xs, h1, h2⟩ := k2
          exact ⟨p, xs, rfl, h1, fun _ e => by cases e; exact h2⟩
        | gone =>
          obtain ⟨xs, h1⟩ := k2
          exact ⟨p, xs, rfl, h1, fun _ e => by cases e⟩
      | _ => cases hg
theorem sApp {l : MS → Out (List Val)} (hr : ∀ rr, MtR X "list.append" rr → PE X e (tBM X.K "list" rr (tE X.K W f) (tA X.K W l))) :
    PE X e (tE X.K W fun s => (f s).bind fun x s => match s.get x with
      | some (.lst _) => (l s).bind fun vs s => match s.get x, vs with
        | some (.lst xs), [y] => if xs.length < line then (lift (s.put (.lst (xs ++ [y])) x) s).bind fun s' _ => .ok .none s' else .bad
        | _, _ => .bad
      | _ => .bad) := by
  refine PE.imp (hr _ mt_append) fun σ H Q ⟨r, s, at_, q⟩ => ?_
  refine ⟨r, s, at_, (OP.bind q).imp fun v s1 H1 r1 _ st1 a1 q1 x vx => ?_⟩
  cases hg : s1.get v with
  | none => simp only [hg] at q1; exact False.elim q1
  | some o =>
    cases o with
    | gone => simp only [hg] at q1; exact False.elim q1
    | lst vs0 =>
      simp only [hg] at q1
      obtain ⟨p, xs0, rfl, h1, _⟩ := get_ty a1 vx hg
      refine ⟨.inl ⟨rfl, xs0, SqL.of h1⟩, r1, s1, a1, (OP.bind q1).imp fun vs s2 H2 r2 _ st2 a2 q2 xs vxs => ?_⟩
      cases hg2 : s2.get v with
      | none => simp only [hg2] at q2; exact False.elim q2
      | some o2 =>
        cases o2 with
        | gone => simp only [hg2] at q2; exact False.elim q2
        | lst ys =>
          match vs, q2 with
          | [y], q2 =>
            simp only [hg2] at q2
            split at q2
            · rename_i hl
              cases hp : s2.put (.lst (ys ++ [y])) v with
              | none => simp only [hp] at q2; exact False.elim q2
              | some s3 =>
                simp only [hp, lift_some, Out.bind_ok] at q2
                obtain ⟨p', zs, e1, h2, h3, fin⟩ := put_ok a2 (vx.mono (sl' := s2.sl) st2.gr) hg2 hp
                cases e1
                obtain ⟨z, t, rfl, v1, v2⟩ := vxs
                rw [show t = [] from v2]
                obtain ⟨k1, k2, k3⟩ := fin (zs ++ [z]) (VRs.app h3 ⟨z, [], rfl, v1, rfl⟩)
                exact ⟨p, zs, z, rfl, rfl, h2, by rw [← h3.len, line_eq]; exact hl, q2 _ r2 k1 k2 _ (.inl rfl)⟩
            · exact False.elim q2
          | [], q2 => simp only [hg2] at q2; exact False.elim q2
          | _ :: _ :: _, q2 => simp only [hg2] at q2; exact False.elim q2
theorem sPop {l : MS → Out (List Val)} (hr : ∀ rr, MtR X "list.pop" rr → PE X e (tBM X.K "list" rr (tE X.K W f) (tA X.K W l))) :
    PE X e (tE X.K W fun s => (f s).bind fun x s => match s.get x with
      | some (.lst _) => (l s).bind fun vs s => match s.get x with
        | some (.lst xs) => match popped xs vs with
          | some (y, ws) => (lift (s.put (.lst ws) x) s).bind fun s' _ => .ok y s'
          | none => .bad
        | _ => .bad
      | _ => .bad) := by
  refine PE.imp (hr _ (MtR.or mt_pop mt_popAt)) fun σ H Q ⟨r, s, at_, q⟩ => ?_
  refine ⟨r, s, at_, (OP.bind q).imp fun v s1 H1 r1 _ st1 a1 q1 x vx => ?_⟩
  cases hg : s1.get v with
  | none => simp only [hg] at q1; exact False.elim q1
  | some o =>
    cases o with
    | gone => simp only [hg] at q1; exact False.elim q1
    | lst vs0 =>
      simp only [hg] at q1
      obtain ⟨p, xs0, rfl, h1, _⟩ := get_ty a1 vx hg
      refine ⟨.inl ⟨rfl, xs0, SqL.of h1⟩, r1, s1, a1, (OP.bind q1).imp fun vs s2 H2 r2 _ st2 a2 q2 xs vxs => ?_⟩
      cases hg2 : s2.get v with
      | none => simp only [hg2] at q2; exact False.elim q2
      | some o2 =>
        cases o2 with
        | gone => simp only [hg2] at q2; exact False.elim q2
        | lst ys =>
          simp only [hg2] at q2
          cases hpo : popped ys vs with
          | none => simp only [hpo] at q2; exact False.elim q2
          | some yw =>
            obtain ⟨y, ws⟩ := yw
            simp only [hpo] at q2
            cases hp : s2.put (.lst ws) v with
            | none => simp only [hp] at q2; exact False.elim q2
            | some s3 =>
              simp only [hp, lift_some, Out.bind_ok] at q2
              obtain ⟨p', zs, e1, h2, h3, fin⟩ := put_ok a2 (vx.mono (sl' := s2.sl) st2.gr) hg2 hp
              cases e1
              match vs, hpo with
              | [], hpo =>
                obtain ⟨y', ey, e2⟩ := Option.map_eq_some_iff.mp hpo
                cases e2
                rw [show xs = [] from vxs]
                rw [List.getLast?_eq_getElem?] at ey
                obtain ⟨z, ez, vz⟩ := h3.get ey
                have hd : VRs X.K H2 r2 ys.dropLast zs.dropLast := by
                  rw [List.dropLast_eq_take, List.dropLast_eq_take, ← h3.len]
                  exact h3.take _
                obtain ⟨k1, k2, k3⟩ := fin zs.dropLast hd
                exact .inl ⟨p, zs, z, rfl, rfl, h2, by rw [← h3.len]; exact ez, q2 _ r2 k1 k2 _ (.inl (VR.mono k3 _ _ vz))⟩
              | [.int i], hpo =>
                simp only [popped] at hpo
                split at hpo
                case isFalse => cases hpo
                rename_i hbd
                obtain ⟨j, ej, e2⟩ := Option.bind_eq_some_iff.mp hpo
                obtain ⟨y', ey, e3⟩ := Option.map_eq_some_iff.mp e2
                cases e3
                obtain ⟨w, t, rfl, v1, v2⟩ := vxs
                rw [show t = [] from v2, show w = .int i from v1]
                obtain ⟨z, ez, vz⟩ := h3.get ey
                obtain ⟨k1, k2, k3⟩ := fin (zs.eraseIdx j) (h3.erase j)
                have hj := ixN_seq (show L2.ixN ys.length i = some j from ej)
                rw [h3.len] at hj
                exact .inr ⟨p, zs, i, j, z, rfl, rfl, h2, by omega, by omega, hj.1, ez, q2 _ r2 k1 k2 _ (.inl (VR.mono k3 _ _ vz))⟩
theorem FP.loop {K : PySem.W.Frag} {σ : L2.St} {sl : List Slot} {H : Hp} {r : RI} {D : Ends} {x : Fl} {g : MS → Fl} (h : FP K W σ sl H r D (x.loop g)) :
    FP K W σ sl H r { D with nx := fun σ' H' => ∃ r' s', At K σ' s'.sl H' r' s'.mu ∧ Gr H r H' r' ∧ FP K W σ' s'.sl H' r' D (g s'), ct := fun σ' H' => ∃ r' s', At K σ' s'.sl H' r' s'.mu ∧ Gr H r H' r' ∧ FP K W σ' s'.sl H' r' D (g s'), bk := D.nx } x := by
  cases x with
  | next s' => exact fun σ' H' r' st a => ⟨r', s', a, st.gr, FP.rebase h st⟩
  | cont s' => exact fun σ' H' r' st a => ⟨r', s', a, st.gr, FP.rebase h st⟩
  | brk s' => exact h
  | ret v s' => exact h
  | exc e s' => exact h
  | bad => exact h
theorem FP.ends {K : PySem.W.Frag} {σ : L2.St} {sl : List Slot} {H : Hp} {r : RI} {D D' : Ends} {x : Fl} (h : FP K W σ sl H r D x) (h1 : ∀ σ H, D.nx σ H → D'.nx σ H) (h2 : ∀ σ H, D.bk σ H → D'.bk σ H) (h3 : ∀ σ H, D.ct σ H → D'.ct σ H) (h4 : ∀ x H, D.rt x H → D'.rt x H) : FP K W σ sl H r D' x := by
  cases x with
  | next s' => exact fun σ' H' r' st a => h1 _ _ (h σ' H' r' st a)
  | cont s' => exact fun σ' H' r' st a => h3 _ _ (h σ' H' r' st a)
  | brk s' => exact fun σ' H' r' st a => h2 _ _ (h σ' H' r' st a)
  | ret v s' => exact fun x σ' H' r' st a vr => h4 _ _ (h x σ' H' r' st a vr)
  | exc e s' => exact h
  | bad => exact h
theorem whileL_of {k : MS → Out Bool} {l : MS → Fl} {s : MS} (h : whileL k l s ≠ .bad) : ∃ n, whileN k l n s = whileL k l s := by
  by_cases e : ∃ n, whileN k l n s ≠ .bad
  · refine ⟨Classical.choose e, ?_⟩
    unfold whileL
    rw [dif_pos e]
  · unfold whileL at h
    rw [dif_neg e] at h
    exact absurd rfl h
theorem sWhile {k : MS → Out Bool} {l : MS → Fl} {body : List Stmt} (hp : PassesOwn (model X.prog X.w) X.A X.env X.xe) (hc : PT X c (tT X.K W k)) (hb : PSs X body (tS X.K W l)) :
    PS X (.While c body [] pos) (tS X.K W (whileL k l)) := by
  refine PS.imp (ps_while hp hc hb) fun D σ H ⟨r, s, at_, q⟩ => ?_
  have nb : whileL k l s ≠ .bad := fun e => by rw [e] at q; exact q
  obtain ⟨n, hn⟩ := whileL_of nb
  rw [← hn] at q
  refine ⟨fun m σ' H' => ∃ r' s', At X.K σ' s'.sl H' r' s'.mu ∧ FP X.K W σ' s'.sl H' r' D (whileN k l m s'), ⟨n, r, s, at_, q⟩, ?_⟩
  rintro m σ' H' ⟨r', s', a', q'⟩
  cases m with
  | zero => exact False.elim q'
  | succ m =>
    refine ⟨r', s', a', (FP.fl q').imp fun b s1 H1 r1 _ st1 a1 q1 => ?_⟩
    cases b with
    | true =>
      simp only [if_true] at q1
      refine ite_tt ⟨fun σ2 H2 => ∃ r2 s2, At X.K σ2 s2.sl H2 r2 s2.mu ∧ FP X.K W σ2 s2.sl H2 r2 D (whileN k l m s2), fun σ2 H2 h => ⟨m, Nat.lt_succ_self m, h⟩, r1, s1, a1, ?_⟩
      exact (FP.loop q1).ends (fun _ _ ⟨r2, s2, a2, _, q2⟩ => ⟨r2, s2, a2, q2⟩) (fun _ _ z => z) (fun _ _ ⟨r2, s2, a2, _, q2⟩ => ⟨r2, s2, a2, q2⟩) fun _ _ z => z
    | false =>
      simp only [Bool.false_eq_true, if_false] at q1
      exact ite_ff (q1.here a1)
theorem sFor {tg it : Expr} {t : T} {k : MS → Out Src} {l : MS → Fl} {body : List Stmt} (hp : PassesOwn (model X.prog X.w) X.A X.env X.xe) (hc : X.calm = true) (hi : PI X tg it (tI X.K W k)) (hg : PG X tg (gT X.K t)) (hb : PSs X body (tS X.K W l))
    (hs : ∀ x, foldedSetIterable it X.env x = pure x) : PS X (.For tg it body [] pos) (tS X.K W fun s => (k s).fl fun src s => forL src t l src.items s) := by
  refine PS.imp (ps_for hp hc hi hg hb hs) fun D σ H ⟨r, s, at_, q⟩ => ?_
  refine ⟨r, s, at_, (FP.fl q).imp fun src s1 H1 r1 _ st1 a1 q1 J feeds => ?_⟩
  refine ⟨fun i m σ' H' => m = src.items.length - i ∧ i ≤ src.items.length ∧ ∃ r' s', At X.K σ' s'.sl H' r' s'.mu ∧ Gr H1 r1 H' r' ∧ FP X.K W σ' s'.sl H' r' D (forL src t l (src.items.drop i) s'), ⟨_, rfl, Nat.zero_le _, r1, s1, a1, .refl, q1⟩, ?_⟩
  rintro i m σ2 H2 ⟨rfl, hi, r2, s2, a2, g2, q2⟩
  by_cases hlt : i < src.items.length
  · have hd : src.items.drop i = src.items[i] :: src.items.drop (i + 1) := List.drop_eq_getElem_cons hlt
    rw [hd] at q2
    unfold forL at q2
    split at q2
    · rename_i hcond
      obtain ⟨f1, f2⟩ := feeds i H2 r2 s2.mu a2.hr g2 hcond
      obtain ⟨go, yld⟩ := f1 src.items[i] (List.getElem?_eq_getElem hlt)
      refine .inr ⟨go, fun σ' H' => ∃ r' s', At X.K σ' s'.sl H' r' s'.mu ∧ Gr H1 r1 H' r' ∧ FP X.K W σ' s'.sl H' r' D (forL src t l (src.items.drop (i + 1)) s'), fun σ' H' z => ⟨_, by omega, rfl, hlt, z⟩, fun x H3 hy => ?_⟩
      obtain ⟨r3, st3, hr3, vx⟩ := yld x H3 hy
      have a3 : At X.K σ2 s2.sl H3 r3 s2.mu := ⟨hr3, a2.sr.inF st3⟩
      cases hs : store t src.items[i] s2 with
      | none => simp only [hs] at q2; exact False.elim q2
      | some s4 =>
        simp only [hs] at q2
        refine ⟨src.items[i], r3, s2, s4, a3, vx, hs, fun σ4 a4 st4 _ _ => ⟨r3, s4, a4, ?_⟩⟩
        have q4 := FP.rebase q2 (st3.inF.trans st4)
        have g3 : Gr H1 r1 H3 r3 := g2.trans st3.gr
        exact (FP.loop q4).ends (fun _ _ ⟨r5, s5, a5, g5, q5⟩ => ⟨r5, s5, a5, g3.trans g5, q5⟩) (fun _ _ z => z) (fun _ _ ⟨r5, s5, a5, g5, q5⟩ => ⟨r5, s5, a5, g3.trans g5, q5⟩) fun _ _ z => z
    · exact False.elim q2
  · have e : i = src.items.length := by omega
    subst e
    rw [List.drop_length] at q2
    unfold forL at q2
    split at q2
    · rename_i hcond
      obtain ⟨_, f2⟩ := feeds src.items.length H2 r2 s2.mu a2.hr g2 hcond
      exact .inl ⟨f2 (Nat.le_refl _), q2.here a2⟩
    · exact False.elim q2
theorem sSetIx {o i : Expr} {p' : Pos} {fo fi : MS → Out Val} (ha : PE X a (tE X.K W f)) (ho : PE X o (tE X.K W fo)) (hi : PE X i (tE X.K W fi))
    (hsub : ∀ v, assign (.Subscript o i p') X.env v = (do
      let ov ← holding [v] (eval o X.env)
      let iv ← holding [v, ov] (eval i X.env)
      standAt p'
      holding [v, ov, iv] (setItem ov iv v)
      release [v, ov, iv] []))
    (hs : swapsWithSole [.Subscript o i p'] a pos.line X.env = pure false) (hw : swappedStores [.Subscript o i p'] a X.env = pure none) (h1 : (assignEach [.Subscript o i p'] X.env).map (·.2) = [assign (.Subscript o i p') X.env]) :
    PS X (.Assign [.Subscript o i p'] a pos) (tS X.K W fun s => (f s).fl fun z s => match keep z with
      | some z => (fo s).fl fun x s => (fi s).fl fun y s => match s.get x, y with
        | some (.lst xs), .int k => match ixN xs.length k with
          | some j => match s.put (.lst (xs.set j z)) x with
            | some s => .next s
            | none => .bad
          | none => .bad
        | _, _ => .bad
      | none => .bad) := by
  refine PS.imp (ps_asg ha (pg_sub ho hi set_list hsub) hs hw h1) fun D σ H ⟨r, s, at_, q⟩ => ?_
  refine ⟨r, s, at_, (FP.fl q).imp fun v s1 H1 r1 _ st1 a1 q1 z vz => ?_⟩
  cases hk : keep v with
  | none => simp only [hk] at q1; exact False.elim q1
  | some w =>
    simp only [hk] at q1
    obtain ⟨_, vw⟩ := vz.keep hk
    refine ⟨r1, s1, a1, (FP.fl q1).imp fun u s2 H2 r2 _ st2 a2 q2 x vx => ?_⟩
    refine ⟨r2, s2, a2, (FP.fl q2).imp fun y s3 H3 r3 _ st3 a3 q3 yy vy => ?_⟩
    cases hg : s3.get u with
    | none => simp only [hg] at q3; exact False.elim q3
    | some o =>
      cases o with
      | gone => simp only [hg] at q3; exact False.elim q3
      | lst xs =>
        cases y with
        | int k =>
          simp only [hg] at q3
          cases hj : ixN xs.length k with
          | none => simp only [hj] at q3; exact False.elim q3
          | some j =>
            simp only [hj] at q3
            cases hp : s3.put (.lst (xs.set j w)) u with
            | none => simp only [hp] at q3; exact False.elim q3
            | some s4 =>
              simp only [hp] at q3
              obtain ⟨p, ys, rfl, h2, h3, fin⟩ := put_ok a3 (vx.mono (sl' := s3.sl) st3.gr) hg hp
              have vw3 := VR.mono (st2.gr.trans st3.gr) _ _ vw
              obtain ⟨k1, k2, k3⟩ := fin (ys.set j z) (h3.set j vw3)
              have vy' : yy = .int k := by
                rcases vy with vy | ⟨_, e, _⟩
                · exact vy
                · cases e
              subst vy'
              exact ⟨p, ys, k, j, rfl, rfl, h2, by rw [← h3.len]; exact hj, q3 σ _ r3 k1 k2⟩
        | _ => simp only [hg] at q3; exact False.elim q3
end
end M
end F_M3j
section F_M3k
set_option maxRecDepth 100000
namespace M
open PySem PySem.Spec PyProof.Rows L2
section
variable {X : Cx} {pins : List (Addr × PySem.Obj)} {σ : L2.St} {H : Hp} {s : Shared} {a : Addr} {oe : PySem.Obj} {vs : Array Value} {cls : Value} {d : Option Addr}
theorem track (I : Inv X ((a, oe) :: pins) σ H s) (hd : oe.data = .fields vs) (hz : Zc cls d oe) (n0 : X.s_0.heap.get? a = none) (np : ∀ p ∈ X.pn ++ pins, p.1 ≠ a) :
    Inv X pins σ (upd H a (ExH cls d a)) s := by
  obtain ⟨pa, pn, pl, pf, pc⟩ := I.pin (a, oe) (List.mem_append_right _ (.head _))
  have pa : s.heap.get? a = some oe := pa
  have pn : H a = none := pn
  have ne_of : ∀ {b : Addr} {u : HO}, H b = some u → b ≠ a := fun e z => by rw [z, pn] at e; cases e
  have old : ∀ {b : Addr} {o : PySem.Obj}, X.s_0.heap.get? b = some o → b ≠ a := fun e z => by rw [z, n0] at e; cases e
  constructor
  case ok => exact I.ok
  case os => exact I.os
  case bare => exact I.bare
  case loc => exact I.loc
  case cell => exact I.cell
  case len => exact I.len
  case free => rw [upd_ne (fun z => pl z.symm)]; exact I.free
  case freeC =>
    intro y c e
    rw [upd_ne (fun z => ?_)]
    · exact I.freeC y c e
    · obtain ⟨v, o, ho, hdc⟩ := I.cell y c e
      rw [z, pa] at ho
      cases ho
      exact pc v hdc
  case pin =>
    intro p hp
    have hp' : p ∈ X.pn ++ (a, oe) :: pins := by
      rcases List.mem_append.mp hp with h | h
      · exact List.mem_append_left _ h
      · exact List.mem_append_right _ (.tail _ h)
    obtain ⟨q1, q2, q3, q4, q5⟩ := I.pin p hp'
    exact ⟨q1, by rw [upd_ne (np p hp)]; exact q2, q3, q4, q5⟩
  case base =>
    constructor
    case keep => exact I.base.keep
    case slot => exact I.base.slot
    case free => exact fun b o e n hx => by rw [upd_ne (old e)]; exact I.base.free b o e n hx
    case there => exact I.base.there
    case tups => exact fun b xs e => by have q := I.base.tups b xs e; rw [upd_ne (ne_of q)]; exact q
    case frzs => exact fun b o u e => by have q := I.base.frzs b o u e; rw [upd_ne (ne_of q)]; exact q
    case tbls => exact fun b ps e => by obtain ⟨m, q⟩ := I.base.tbls b ps e; exact ⟨m, by rw [upd_ne (ne_of q)]; exact q⟩
  case hok =>
    intro b u e
    by_cases hb : b = a
    · subst hb
      rw [upd_same] at e
      cases e
      exact ⟨⟨oe, vs, pa, hz, hd⟩, ⟨oe, pa⟩, fun _ _ ⟨o, v, q, r⟩ k => ⟨o, v, k o q, r⟩⟩
    · rw [upd_ne hb] at e
      exact (I.hok b u e).stay (fun c v _ q => q) (fun c q => by rw [upd_ne (ne_of q)]; exact q) fun c xs q => by rw [upd_ne (ne_of q)]; exact q
end
def wKeep (K : PySem.W.Frag) (c : Value) (i : Nat) (ts : Addr → Value → Option Addr → TS) (Wo : WX) (D : Ends) : WX := fun cls d σ H =>
  ∃ b, PySem.W.exmOne K cls c = some b ∧
    (b = true → ∀ a, H a = none → ts a cls d ⟨fun τ J => J a = none → D.nx (τ.set i none) (upd J a (ExH cls d a)), D.rt, fun τ J => D.bk (τ.set i none) J, fun τ J => D.ct (τ.set i none) J⟩ (σ.set i (some (.ref a))) H) ∧
    (b = false → Wo cls d σ H)
section
variable {X : Cx} {x n : Str} {c : Value} {i : Nat} {body su : List Stmt} {b0 : Stmt} {np p1 p2 : Pos} {tb : WX → TS} {ts : Addr → Value → Option Addr → TS} {Wo : WX}
theorem ps_try_keep (hs : X.stack = X.env :: X.outer) (hf : X.env.frame = some X.env.locals) (hx : X.ex = []) (hN : X.N.Nodup) (hi : X.N[i]? = some n) (hln : X.env.kindOf n = some .local) (hc : Names X x c) (tk : Takes X Wo)
    (hb : ∀ (W : WX) (pn : List (Addr × PySem.Obj)) (xe : Value → Shared → Prop), Takes (X.tr pn xe) W → PassesOwn (model X.prog X.w) X.A X.env xe → PSs (X.tr pn xe) body (tb W))
    (hsu : ∀ (a : Addr) (oe : PySem.Obj) (cls : Value) (d : Option Addr) (pn : List (Addr × PySem.Obj)), Zc cls d oe → (∃ vs, oe.data = .fields vs) → PSs (X.suite a ((a, oe) :: pn)) (b0 :: su) (ts a cls d)) :
    PS X (.Try body [.ExceptHandler (some (.Name x np)) (some n) (b0 :: su) p2] [] [] p1) (fun D σ H => tb (wKeep X.K c i ts Wo D) D σ H) := by
  constructor
  intro pins s σ H D I0 wish
  have K0 := I0.ok
  have frs0 : X.A.frames = some (X.env :: X.outer) := by rw [K0.frames, hs]
  apply wpAny_Try_except
  have run := (hb (wKeep X.K c i ts Wo D) (X.pn ++ pins) (fun e s1 => wpAny (model X.prog X.w) X.A (noteFrame e X.env) (fun _ s2 => wpAny (model X.prog X.w) X.A (setFlight e none)
    (fun _ s3 => wpAny (model X.prog X.w) X.A (handleBy e X.env [.ExceptHandler (some (.Name x np)) (some n) (b0 :: su) p2]) (SP X pins D) X.xe s3) X.xe s2) X.xe s1) ?taken PassesOwn.looking).run [] s σ H D (I0.toTry _) wish
  · refine wpAny_mono run ?_ fun e s1 he => he
    rintro fl s1 fin
    cases fl with
    | next =>
      obtain ⟨τ, G, J, q⟩ := fin
      apply wpAny_execs_nil
      exact ⟨τ, G, J.ofTry K0, q⟩
    | brk => obtain ⟨τ, G, J, q⟩ := fin; exact ⟨τ, G, J.ofTry K0, q⟩
    | cont => obtain ⟨τ, G, J, q⟩ := fin; exact ⟨τ, G, J.ofTry K0, q⟩
    | ret u => obtain ⟨v, τ, G, J, r, q⟩ := fin; exact ⟨v, τ, G, J.ofTry K0, r, q⟩
  · rintro u s' ⟨a, B, sI, pins', τ, G, cls, d, rfl, JT, nb, up, sky, na, os, ag, b, hb1, yes, no⟩
    have J : Inv X pins τ G sI := JT.ofTry K0
    rw [show (X.tr (X.pn ++ pins) _).stack = X.env :: X.outer from hs] at sky nb
    show wpAny (model X.prog X.w) X.A (noteFrame (.ref a) X.env) _ _ _
    apply Sky.land Zc.steady frs0 hf sky
    intro h3 fly3 up3
    have J3 : Inv X pins τ G { s' with heap := h3 } := J.landed (by rw [hs]; exact nb) fly3.1 (up.trans up3) os ag
    have nofr : ∀ {h : Heap} {o : PySem.Obj} {vs : Array Value}, h.FunFrames B (X.env :: X.outer) → h.get? a = some o → o.data = .fields vs → a ∉ frs (X.env :: X.outer) := by
      intro h o vs ff e dd hm
      obtain ⟨_, o', e', hnf⟩ := ff.mem hm
      rw [e] at e'
      cases e'
      exact hnf _ dd
    obtain ⟨oe3, vs3, he3, hz3, hd3⟩ := fly3.there
    have nf3 := nofr fly3.2.2.1 he3 hd3
    have nL : a ≠ X.env.locals := by
      intro z
      apply nf3
      exact List.mem_filterMap.mpr ⟨X.env, .head _, by rw [hf, z]⟩
    have nF : a ∉ X.fs := by
      intro hm
      obtain ⟨e, he, q⟩ := List.mem_filterMap.mp hm
      exact nf3 (List.mem_filterMap.mpr ⟨e, .tail _ he, q⟩)
    have Ba : B.get? a = none := fly3.2.1
    have notIn : ∀ o, sI.heap.get? a ≠ some o := by
      intro o e
      have := nb a o e nf3
      rw [Ba] at this
      cases this
    have n0 : X.s_0.heap.get? a = none := by
      cases e : X.s_0.heap.get? a with
      | none => rfl
      | some o =>
        obtain ⟨o', e'⟩ := J.base.there a o e (by rw [hx]; exact fun z => nomatch z)
        exact absurd e' (notIn o')
    have npin : ∀ p ∈ X.pn ++ pins, p.1 ≠ a := by
      intro p hp z
      obtain ⟨q, _⟩ := J.pin p hp
      rw [z] at q
      exact notIn _ q
    have S3 := J3.suite he3 hd3 na nL nF
    refine wpAny_handleBy_cons (codeAny_handlers_test ?_) (by intro q; cases q)
    have LT : PySem.W.Looks (model X.prog X.w) h3 (typeOf (.ref a)) cls := by
      intro A Q E s k q
      exact wpAny_typeOf_ref (k _ _ he3) (by rw [hz3.1]; exact q)
    have LM := PySem.W.exm_one (M := model X.prog X.w) J3.kIn LT hb1
    have asks : ∀ {Q : Value → Shared → Prop} {E : Value → Shared → Prop}, Q c { s' with heap := h3 } → wpAny (model X.prog X.w) (X.A.mark (some (.ref a))) (eval (.Name x np) X.env) Q E { s' with heap := h3 } := by
      intro Q E q
      obtain ⟨hg, hdb, hm | ⟨hm, hv, hnn⟩⟩ := hc
      · exact ld_glob (X := X.suite a ((a, oe3) :: (X.pn ++ pins))) S3 hg hm q hdb
      · exact ld_blt (X := X.suite a ((a, oe3) :: (X.pn ++ pins))) S3 hg hm hv q hnn hdb
    apply asks
    apply LM.here
    cases b with
    | true =>
      apply codeAny_handlers_suite_as
      apply HandSPX.lands_againZ fly3
      intro h4 fly4 up4
      have J4 : Inv X pins τ G { s' with heap := h4 } := J.landed (by rw [hs]; exact nb) fly4.1 ((up.trans up3).trans up4) os ag
      obtain ⟨oe4, vs4, he4, hz4, hd4⟩ := fly4.there
      have S4 := J4.suite he4 hd4 na nL nF
      refine store_ok (X := X.suite a ((a, oe4) :: (X.pn ++ pins))) (v := .ref a) S4 hN hi (.inl hln) rfl (fun s5 S5 => ?_) (.inr hln)
      refine wpAny_mono ((hsu a oe4 cls d (X.pn ++ pins) hz4 ⟨_, hd4⟩).run [] s5 _ G _ S5 (yes rfl a na)) (fun fl s6 fin => ?_) fun _ _ z => False.elim z
      have keepPin : ∀ {τ6 : L2.St} {G6 : Hp}, Inv (X.suite a ((a, oe4) :: (X.pn ++ pins))) [] τ6 G6 s6 → Inv X ((a, oe4) :: pins) τ6 G6 s6 := by
        intro τ6 G6 S6
        refine ⟨K0, S6.os, S6.bare, S6.base, S6.loc, S6.cell, S6.free, S6.freeC, fun p hp => S6.pin p ?_, S6.hok, S6.len⟩
        rcases List.mem_append.mp hp with h | h
        · exact List.mem_append_left _ (.tail _ (List.mem_append_left _ h))
        · rcases List.mem_cons.mp h with h | h
          · rw [h]; exact List.mem_append_left _ (.head _)
          · exact List.mem_append_left _ (.tail _ (List.mem_append_right _ h))
      have off : ∀ {τ6 : L2.St} {G6 : Hp} {Q : Shared → Prop}, Inv (X.suite a ((a, oe4) :: (X.pn ++ pins))) [] τ6 G6 s6 → (∀ s7, Inv X ((a, oe4) :: pins) (τ6.set i none) G6 s7 → Q s7) →
          wpAny (model X.prog X.w) X.A (do bindName X.env n .none; unbindBehindTheSuite X.env n p2) (fun _ s7 => Q s7) X.xe s6 := fun S6 hq => gone_ok (keepPin S6) hN hi hln hq
      have less : ∀ {τ6 : L2.St} {G6 : Hp} {s7 : Shared}, Inv X ((a, oe4) :: pins) τ6 G6 s7 → Inv X pins τ6 G6 s7 := by
        intro τ6 G6 s7 J7
        refine ⟨K0, J7.os, J7.bare, J7.base, J7.loc, J7.cell, J7.free, J7.freeC, fun p hp => J7.pin p ?_, J7.hok, J7.len⟩
        rcases List.mem_append.mp hp with h | h
        · exact List.mem_append_left _ h
        · exact List.mem_append_right _ (.tail _ h)
      cases fl with
      | next =>
        obtain ⟨τ6, G6, S6, q6⟩ := fin
        refine off S6 fun s7 J7 => ⟨_, _, track J7 hd4 hz4 n0 npin, q6 (J7.pin (a, oe4) (List.mem_append_right _ (.head _))).2.1⟩
      | brk => obtain ⟨τ6, G6, S6, q6⟩ := fin; exact off S6 fun s7 J7 => ⟨_, _, less J7, q6⟩
      | cont => obtain ⟨τ6, G6, S6, q6⟩ := fin; exact off S6 fun s7 J7 => ⟨_, _, less J7, q6⟩
      | ret u => obtain ⟨v6, τ6, G6, S6, r6, q6⟩ := fin; exact off S6 fun s7 J7 => ⟨_, _, _, less J7, r6, q6⟩
    | false =>
      show wpAny _ X.A (handleBy (.ref a) X.env []) _ _ _
      apply wpAny_handleBy_nil
      obtain ⟨_, _, _, oe, vs, T, oT, _, he, _, hd, h1, hr⟩ := id fly3
      unfold PySem.passOn
      apply wpAny_bind
      apply wpAny_field he hd h1
      rw [if_neg (show ¬ ((Value.ref T == Value.none) = true) by simp)]
      have away : wpAny (model X.prog X.w) X.A (setFlight (.ref a) X.env.frame) (fun _ s4 => wpAny (model X.prog X.w) X.A (throw (.ref a) : Sem Flow) (SP X pins D) X.xe s4) X.xe { s' with heap := h3 } := by
        rw [hf]
        apply HandSPX.setFlight_upZ fly3
        intro h4 held4 up4
        apply wpAny_throw
        apply tk
        exact ⟨a, B, sI, pins, τ, G, cls, d, rfl, J, by rw [hs]; exact nb, (up.trans up3).trans up4, .inr (.inr (by rw [hs]; exact held4)), na, os, ag, no rfl⟩
      first
        | exact wpAny_bind (wpAny_pure (wpAny_bind away))
        | exact wpAny_bind away
end
section
variable {X : Cx} {W : WX}
theorem sRaise {x : Str} {e : Expr} {C : Addr} {pos : Pos} (hc : X.calm = true) (tk : Takes X W) (he : PMk X e (fun _ H Q => Q (.ref C) none H)) (hC : C = clA X.K x) (ek : EK X.K (clA X.K x)) :
    PS X (.Raise (some e) none pos) (tS X.K W fun s => .exc ⟨x, [], []⟩ s) := by
  refine PS.imp (ps_raise hc tk he) fun D σ H ⟨r, s, at_, q⟩ => ?_
  exact q (.ref C) none σ H r .refl at_ ⟨by rw [hC], ek, .inl ⟨rfl, rfl, rfl⟩⟩
theorem sTryAs {x n m c : Str} {i j : Nat} {body : List Stmt} {np mp ep ap p1 p2 : Pos} {subs nots : List Str} {f : MS → Fl} (hs : X.stack = X.env :: X.outer) (hf : X.env.frame = some X.env.locals) (hx : X.ex = []) (hN : X.N.Nodup) (hi : X.N[i]? = some n) (hj : X.N[j]? = some m)
    (hln : X.env.kindOf n = some .local) (hlm : Loc X.env.scope m) (hfm : X.fn m = true ∨ X.env.scope.names.lookup m = some .local) (hnd : (n == ("__debug__" : Str)) = false) (hnc : (n == ("__classdict__" : Str)) = false)
    (hc : Names X x (.ref (clA X.K c))) (tk : Takes X W) (cf : CF X.K c subs nots)
    (hb : ∀ (W' : WX) (pn : List (Addr × PySem.Obj)) (xe : Value → Shared → Prop), Takes (X.tr pn xe) W' → PassesOwn (model X.prog X.w) X.A X.env xe → PSs (X.tr pn xe) body (tS X.K W' f)) :
    PS X (.Try body [.ExceptHandler (some (.Name x np)) (some n) [.Assign [.Name m mp] (.Name n ep) ap] p2] [] [] p1) (tS X.K W fun s => tryAs subs nots i j (f s)) := by
  have base := ps_try_keep (X := X) (np := np) (p1 := p1) (p2 := p2) (b0 := .Assign [.Name m mp] (.Name n ep) ap) (su := []) (body := body) (tb := fun W' => tS X.K W' f) (ts := fun _ _ _ => tAsg (tVar i) (gName j)) hs hf hx hN hi hln hc tk hb
    (fun a oe cls d pn hz hv => pss_one (ps_set (X := X.suite a ((a, oe) :: pn)) hN hj hlm (pe_var (X := X.suite a ((a, oe) :: pn)) hi (.inl hln) hnd hnc) rfl hfm))
  refine PS.imp base fun D σ H ⟨r, s, at_, q⟩ => ⟨r, s, at_, ?_⟩
  have q : FP X.K W σ s.sl H r D (tryAs subs nots i j (f s)) := q
  cases hfs : f s with
  | next s' => rw [hfs] at q; exact q
  | brk s' => rw [hfs] at q; exact q
  | cont s' => rw [hfs] at q; exact q
  | ret v s' => rw [hfs] at q; exact q
  | bad => rw [hfs] at q; exact q
  | exc e s1 =>
    rw [hfs] at q
    intro cls d σ' H' r' st a er
    obtain ⟨rfl, ek, xd⟩ := id er
    simp only [tryAs] at q
    by_cases hsub : subs.contains e.cls = true
    · rw [if_pos hsub] at q
      refine ⟨true, (cf.yes _ (by simpa using hsub)).2, fun _ ad hn => ?_, fun z => nomatch z⟩
      by_cases hlen : i < s1.sl.length ∧ j < s1.sl.length
      · rw [if_pos hlen] at q
        have hi' : i < σ'.length := by rw [← a.sr.len]; exact hlen.1
        refine ⟨_, List.getElem?_set_self hi', fun hn2 => ?_⟩
        have stA : Step σ' s1.sl H' r' σ' s1.sl (upd H' ad (ExH (.ref (clA X.K e.cls)) d ad)) (r'.add ad) := .add hn a.hr.is
        have aA : At X.K σ' s1.sl (upd H' ad (ExH (.ref (clA X.K e.cls)) d ad)) (r'.add ad) s1.mu := ⟨a.hr.add hn, a.sr.add hn a.hr.is⟩
        have vr : VR X.K (upd H' ad (ExH (.ref (clA X.K e.cls)) d ad)) (r'.add ad) (.exc e.cls e.ns e.fs) (.ref ad) := ⟨ad, d, rfl, ⟨.inr rfl, upd_same⟩, ek, XD.mono stA.gr xd⟩
        obtain ⟨a1, st1⟩ := aA.set hlen.1 vr
        obtain ⟨a2, st2⟩ := a1.set (i := j) (by rw [List.length_set]; exact hlen.2) vr
        obtain ⟨a3, st3⟩ := At.wipe (s := ⟨_, s1.mu⟩) a2 [i]
        exact q _ _ _ (st.trans (stA.trans (st1.trans (st2.trans st3)))) a3
      · rw [if_neg hlen] at q
        exact False.elim q
    · rw [if_neg hsub] at q
      by_cases hnot : nots.contains e.cls = true
      · rw [if_pos hnot] at q
        refine ⟨false, (cf.no _ (by simpa using hnot)).2, fun z => (nomatch z), fun _ => ?_⟩
        exact q _ _ σ' H' r' st a er
      · rw [if_neg hnot] at q
        exact False.elim q
end
end M
end F_M3k
section F_Z1
set_option maxRecDepth 100000
namespace Zp
open PySem PySem.Spec PyProof.Rows L2
open PySem.Builtin.SmallTypes (nextOf nextOrEnd)
abbrev IsZipB (h : Heap) (z TI TO : Addr) (f0 : Value) (f1 st : Bool) : Prop :=
  h.get? z = some { cls := .type "zip", dict := none, data := .fields #[f0, .bool f1, .bool st, .ref TI, .ref TO], slots := #[] }
def Given (f0 : Value) : Prop := f0 = .none ∨ ∃ T : Addr, f0 = rawInt T
def zdraw (st : Bool) (it : Value) : Sem (Option Value) := do
  if st then nextOrEnd it else return some (← nextOf it)
section
variable {prog : Program} {w : World} {A : Around} {E : Value → Shared → Prop} {s : Shared} {z TI TO i1 i2 : Addr} {fp1 fp2 : List Addr} {n n1 n2 i : Nat} {P P1 P2 : Nat → Value → Prop} {St St1 St2 : Nat → Heap → Prop} {a1 a2 f0 : Value} {f1 st : Bool}
theorem alive {a : Addr} {Q : Option PySem.Obj → Shared → Prop} (h : Q (s.heap.get? a) s) : wpAny (model prog w) A (loadIfAlive a) Q E s := fun _ _ _ => h
theorem free_any {Q : Bool → Shared → Prop} (hz : IsZipB s.heap z TI TO f0 f1 st) (hg : Given f0)
    (h : ∀ b h' f1', IsZipB h' z TI TO f0 f1' st → Heap.SameBut z s.heap h' → Q b { s with heap := h' }) : wpAny (model prog w) A (Builtin.SmallTypes.ownedTupleIsFree (.ref z)) Q E s := by
  unfold Builtin.SmallTypes.ownedTupleIsFree
  rcases hg with rfl | ⟨T, rfl⟩
  · refine wpAny_bind (wpAny_field hz rfl (x := .none) rfl (wpAny_pure ?_))
    exact h true s.heap f1 hz (Heap.SameBut.refl _ _)
  · refine wpAny_bind (wpAny_field hz rfl (x := rawInt T) rfl ?_)
    show wpAny _ _ (loadIfAlive ((T : Int).toNat) >>= _) _ _ _
    rw [Int.toNat_natCast]
    refine wpAny_bind (alive ?_)
    cases s.heap.get? T with
    | none =>
      simp only [Option.isNone_none, if_true]
      exact wpAny_pure (h true s.heap f1 hz (Heap.SameBut.refl _ _))
    | some oT =>
      simp only [Option.isNone_some, Bool.false_eq_true, if_false]
      refine wpAny_bind (wpAny_field hz rfl (x := .bool f1) rfl ?_)
      cases f1 with
      | true =>
        rw [if_neg (show ¬ ((Value.bool true != Value.bool true) = true) from Bool.false_ne_true)]
        exact wpAny_pure (h false s.heap true hz (Heap.SameBut.refl _ _))
      | false =>
        rw [if_pos (show (Value.bool false != Value.bool true) = true from rfl)]
        exact wpAny_bind (wpAny_setField_rec hz (by simp) fun h₁ hz₁ hs₁ => wpAny_pure (h false h₁ true hz₁ hs₁))
theorem zdraw_item {it : Addr} {fp : List Addr} {Q : Option Value → Shared → Prop} (D : Draws prog w A it fp n P St) (hi : i < n) (hs : St i s.heap)
    (h : ∀ x h' tk, P i x → St (i + 1) h' → Heap.SameBut it s.heap h' → Q (some x) { s with heap := h', toks := tk }) : wpAny (model prog w) A (zdraw st (.ref it)) Q E s := by
  unfold zdraw
  cases st with
  | false => exact wpAny_bind (D.item i s _ _ hi hs fun x h' tk a b c => wpAny_pure (h x h' tk a b c))
  | true =>
    show wpAny _ _ (nextOrEnd (.ref it)) _ _ _
    unfold nextOrEnd
    exact wpAny_bind (wpAny_attempt (D.item i s _ _ hi hs fun x h' tk a b c => wpAny_pure (h x h' tk a b c)))
theorem orEnd_done {it : Addr} {fp : List Addr} {Q : Option Value → Shared → Prop} (D : Draws prog w A it fp n P St) (hs : St n s.heap)
    (h : ∀ h', Heap.ExtBut it s.heap h' → Q none { s with heap := h' }) : wpAny (model prog w) A (nextOrEnd (.ref it)) Q E s := by
  unfold nextOrEnd
  refine wpAny_bind (wpAny_attempt (D.done s _ _ hs fun h' e a he => ?_))
  obtain ⟨o, ho, hc⟩ := he
  exact wpAny_bind (wpAny_isInstance (T := "StopIteration") (b := true) ⟨o, ho, hc⟩ isSubtype_stop (wpAny_pure (h h' a)))
theorem st_eq : (Value.bool st == Value.bool true) = st := by cases st <;> rfl
theorem updT {T : Addr} {x : Value} {k : Nat} {Q : Unit → Shared → Prop} (hT : IsTupOf2 s.heap T a1 a2)
    (h : ∀ h', h'.get? T = some { cls := .type "tuple", data := .seq ((#[a1, a2] : Array Value).setIfInBounds k x) } → Heap.SameBut T s.heap h' → Q () { s with heap := h' }) :
    wpAny (model prog w) A (updateSeq T (·.setIfInBounds k x)) Q E s := updateSeq_IsTupOf2 hT h
theorem next_item {Q : Value → Shared → Prop} (S : ZipSep2 z TI TO i1 i2 fp1 fp2) (D1 : Draws prog w A i1 fp1 n1 P1 St1) (D2 : Draws prog w A i2 fp2 n2 P2 St2)
    (hz : IsZipB s.heap z TI TO f0 f1 st) (hg : Given f0) (hTI : IsTupOf2 s.heap TI (.ref i1) (.ref i2)) (hTO : IsTupOf2 s.heap TO a1 a2) (st1 : St1 i s.heap) (st2 : St2 i s.heap) (hlt1 : i < n1) (hlt2 : i < n2)
    (hQ : ∀ x1 x2 h' tk f0' f1' b1 b2, P1 i x1 → P2 i x2 → Given f0' → IsZipB h' z TI TO f0' f1' st → IsTupOf2 h' TO b1 b2 → St1 (i + 1) h' → St2 (i + 1) h' → IsTupOf2 h' s.heap.objs.size x1 x2 → h'.objs.size = s.heap.objs.size + 1 →
      (∀ c o, c ≠ z → c ≠ TO → c ≠ i1 → c ≠ i2 → s.heap.get? c = some o → h'.get? c = some o) → Q (.ref s.heap.objs.size) { s with heap := h', toks := tk }) :
    wpAny (model prog w) A (Builtin.«zip.__next__» ⟨[.ref z], []⟩) (fun fin s' => ∃ v, fin = .done (.ret v) ∧ Q v s') E s := by
  obtain ⟨hp, g, d, tk0, os⟩ := s
  show wpAny _ _ (field (.ref z) 2 >>= _) _ _ _
  refine wpAny_bind (wpAny_field hz rfl (x := .bool st) rfl ?_)
  show wpAny _ _ (field (.ref z) 3 >>= _) _ _ _
  refine wpAny_bind (wpAny_field hz rfl (x := .ref TI) rfl ?_)
  refine wpAny_bind (wpAny_seqItems hTI rfl ?_)
  show wpAny _ _ (Builtin.SmallTypes.ownedTupleIsFree (.ref z) >>= _) _ _ _
  refine wpAny_bind (free_any hz hg fun b hf f1' hzf hsf => ?_)
  replace hsf : Heap.SameBut z hp hf := hsf
  have st1 : St1 i hf := D1.over st1 hsf S.zf1
  have st2 : St2 i hf := D2.over st2 hsf S.zf2
  have hTO : IsTupOf2 hf TO a1 a2 := hsf.extBut _ _ S.TOz hTO
  have hfz : hf.objs.size = hp.objs.size := hsf.1
  cases b with
  | true =>
    simp only [if_true]
    refine wpAny_bind (wpAny_rule ?_)
    refine wpAny_bind (wpAny_field (s := ⟨hf, g, d, tk0, os⟩) hzf rfl (x := .ref TO) rfl ?_)
    refine wpAny_bind (wpAny_setField_rec (s := ⟨hf, g, d, tk0, os⟩) hzf (by simp) fun g0 hz0 hs0 => ?_)
    replace hz0 : IsZipB g0 z TI TO .ellipsis f1' st := hz0
    replace hs0 : Heap.SameBut z hf g0 := hs0
    refine wpAny_bind ?_
    simp only [List.zipIdx_cons, List.zipIdx_nil, List.forIn_cons, List.forIn_nil]
    refine wpAny_bind (wpAny_bind (wpAny_onRaise ?_))
    show wpAny _ _ (zdraw (Value.bool st == Value.bool true) (.ref i1)) _ _ ⟨g0, g, d, tk0, os⟩
    rw [st_eq]
    refine zdraw_item D1 hlt1 (D1.over st1 hs0 S.zf1) fun x1 p1 tk1 hx1 sn1 hp1 => ?_
    replace hp1 : Heap.SameBut i1 g0 p1 := hp1
    have hU1 : IsTupOf2 p1 TO a1 a2 := hp1.extBut _ _ S.Ti1 (hs0.extBut _ _ S.TOz hTO)
    refine wpAny_bind (wpAny_seqItems (s := ⟨p1, g, d, tk1, os⟩) hU1 rfl ?_)
    refine wpAny_bind (updT (s := ⟨p1, g, d, tk1, os⟩) hU1 fun g1 hT1 hs1 => ?_)
    replace hT1 : IsTupOf2 g1 TO x1 a2 := hT1
    replace hs1 : Heap.SameBut TO p1 g1 := hs1
    refine wpAny_bind (wpAny_letGo (wpAny_pure ?_))
    refine wpAny_bind (wpAny_bind (wpAny_onRaise ?_))
    show wpAny _ _ (zdraw st (.ref i2)) _ _ ⟨g1, g, d, tk1, os⟩
    refine zdraw_item D2 hlt2 (D2.over (D2.over (D2.over st2 hs0 S.zf2) hp1 S.sep1_2) hs1 S.Tf2) fun x2 p2 tk2 hx2 sn2 hp2 => ?_
    replace hp2 : Heap.SameBut i2 g1 p2 := hp2
    have hU2 : IsTupOf2 p2 TO x1 a2 := hp2.extBut _ _ S.Ti2 hT1
    refine wpAny_bind (wpAny_seqItems (s := ⟨p2, g, d, tk2, os⟩) hU2 rfl ?_)
    refine wpAny_bind (updT (s := ⟨p2, g, d, tk2, os⟩) hU2 fun g2 hT2 hs2 => ?_)
    replace hT2 : IsTupOf2 g2 TO x1 x2 := hT2
    replace hs2 : Heap.SameBut TO p2 g2 := hs2
    refine wpAny_bind (wpAny_letGo (wpAny_pure (wpAny_pure ?_)))
    refine wpAny_bind (wpAny_seqItems (s := ⟨g2, g, d, tk2, os⟩) hT2 rfl ?_)
    refine wpAny_bind (wpAny_newTuple ?_)
    have hsz : g2.objs.size = hp.objs.size := by rw [hs2.1, hp2.1, hs1.1, hp1.1, hs0.1, hfz]
    have hzz : IsZipB g2 z TI TO .ellipsis f1' st := (hs2.extBut _ _ S.TOz.symm (hp2.extBut _ _ S.zi2 (hs1.extBut _ _ S.TOz.symm (hp1.extBut _ _ S.zi1 hz0))))
    have hkk : ∀ c o, c ≠ z → c ≠ TO → c ≠ i1 → c ≠ i2 → hp.get? c = some o → g2.get? c = some o := fun c o cz cT c1 c2 e =>
      (hs2.extBut _ _ cT (hp2.extBut _ _ c2 (hs1.extBut _ _ cT (hp1.extBut _ _ c1 (hs0.extBut _ _ cz (hsf.extBut _ _ cz e))))))
    have hj1 : St1 (i + 1) g2 := (D1.over (D1.over (D1.over sn1 hs1 S.Tf1) hp2 S.sep2_1) hs2 S.Tf1)
    have hj2 : St2 (i + 1) g2 := (D2.over sn2 hs2 S.Tf2)
    have hzlt : z < g2.objs.size := Heap.lt_size hzz
    show wpAny _ _ (Builtin.SmallTypes.ownedTupleHandOut (.ref z) (.ref g2.objs.size) >>= _) _ _ ⟨g2.push { cls := .type "tuple", data := .seq #[x1, x2] }, g, d, tk2, os⟩
    refine wpAny_bind ?_
    unfold Builtin.SmallTypes.ownedTupleHandOut
    have hz₆ : IsZipB (g2.push { cls := .type "tuple", data := .seq #[x1, x2] }) z TI TO .ellipsis f1' st := Heap.get?_push_of_some _ hzz
    refine wpAny_bind (wpAny_setField_rec hz₆ (by simp) fun h₇ hz₇ hs₇ => ?_)
    replace hz₇ : IsZipB h₇ z TI TO (rawInt g2.objs.size) f1' st := hz₇
    refine wpAny_setField_rec hz₇ (by simp) fun h₈ hz₈ hs₈ => ?_
    replace hz₈ : IsZipB h₈ z TI TO (rawInt g2.objs.size) false st := hz₈
    replace hs₇ : Heap.SameBut z (g2.push { cls := .type "tuple", data := .seq #[x1, x2] }) h₇ := hs₇
    replace hs₈ : Heap.SameBut z h₇ h₈ := hs₈
    have up : ∀ c o, c ≠ z → g2.get? c = some o → h₈.get? c = some o := fun c o c1 e => hs₈.extBut _ _ c1 (hs₇.extBut _ _ c1 (Heap.get?_push_of_some _ e))
    have hT₈ : IsTupOf2 h₈ g2.objs.size x1 x2 := hs₈.extBut _ _ (Nat.ne_of_gt hzlt) (hs₇.extBut _ _ (Nat.ne_of_gt hzlt) (Heap.get?_push_size _ rfl))
    have hz8 : h₈.objs.size = g2.objs.size + 1 := by rw [hs₈.1, hs₇.1, Heap.size_push]
    rw [hsz] at hz₈ hT₈ hz8
    refine wpAny_pure ⟨_, rfl, ?_⟩
    show Q (.ref g2.objs.size) ⟨h₈, g, d, tk2, os⟩
    rw [hsz]
    exact hQ x1 x2 h₈ tk2 _ _ _ _ hx1 hx2 (.inr ⟨_, rfl⟩) hz₈ (up _ _ S.TOz hT2) (D1.frame _ _ _ hj1 fun b hb o e => up b o (fun q => S.zf1 (q ▸ hb)) e) (D2.frame _ _ _ hj2 fun b hb o e => up b o (fun q => S.zf2 (q ▸ hb)) e) hT₈ hz8 fun c o cz cT c1 c2 e => up c o cz (hkk c o cz cT c1 c2 e)
  | false =>
    simp only [Bool.false_eq_true, if_false]
    refine wpAny_bind ?_
    rw [← Array.forIn_toList]
    simp only [List.forIn_cons, List.forIn_nil]
    refine wpAny_bind (wpAny_bind (wpAny_holding ?_))
    show wpAny _ _ (zdraw (Value.bool st == Value.bool true) (.ref i1)) _ _ ⟨hf, g, d, tk0, os⟩
    rw [st_eq]
    refine zdraw_item D1 hlt1 st1 fun x1 p1 tk1 hx1 sn1 hp1 => ?_
    replace hp1 : Heap.SameBut i1 hf p1 := hp1
    refine wpAny_pure ?_
    refine wpAny_bind (wpAny_bind (wpAny_holding ?_))
    show wpAny _ _ (zdraw st (.ref i2)) _ _ ⟨p1, g, d, tk1, os⟩
    refine zdraw_item D2 hlt2 (D2.over st2 hp1 S.sep1_2) fun x2 p2 tk2 hx2 sn2 hp2 => ?_
    replace hp2 : Heap.SameBut i2 p1 p2 := hp2
    refine wpAny_pure (wpAny_pure ?_)
    show wpAny _ _ (newTuple [x1, x2] >>= _) _ _ ⟨p2, g, d, tk2, os⟩
    refine wpAny_bind (wpAny_newTuple ?_)
    have hsz : p2.objs.size = hp.objs.size := by rw [hp2.1, hp1.1, hfz]
    have hzz : IsZipB p2 z TI TO f0 f1' st := hp2.extBut _ _ S.zi2 (hp1.extBut _ _ S.zi1 hzf)
    have hTT : IsTupOf2 p2 TO a1 a2 := hp2.extBut _ _ S.Ti2 (hp1.extBut _ _ S.Ti1 hTO)
    have hkk : ∀ c o, c ≠ z → c ≠ TO → c ≠ i1 → c ≠ i2 → hp.get? c = some o → p2.get? c = some o := fun c o cz cT c1 c2 e =>
      hp2.extBut _ _ c2 (hp1.extBut _ _ c1 (hsf.extBut _ _ cz e))
    have hj1 : St1 (i + 1) p2 := D1.over sn1 hp2 S.sep2_1
    refine wpAny_pure ⟨_, rfl, ?_⟩
    show Q (.ref p2.objs.size) ⟨p2.push { cls := .type "tuple", data := .seq #[x1, x2] }, g, d, tk2, os⟩
    have up : ∀ c o, p2.get? c = some o → (p2.push { cls := .type "tuple", data := .seq #[x1, x2] }).get? c = some o := fun c o e => Heap.get?_push_of_some _ e
    have hT8 : IsTupOf2 (p2.push { cls := .type "tuple", data := .seq #[x1, x2] }) p2.objs.size x1 x2 := Heap.get?_push_size _ rfl
    have hz8 : (p2.push { cls := .type "tuple", data := .seq #[x1, x2] }).objs.size = p2.objs.size + 1 := Heap.size_push ..
    rw [hsz] at hT8 hz8 ⊢
    exact hQ x1 x2 _ tk2 _ _ _ _ hx1 hx2 hg (up _ _ hzz) (up _ _ hTT) (D1.frame _ _ _ hj1 fun b hb o e => up b o e) (D2.frame _ _ _ sn2 fun b hb o e => up b o e) hT8 hz8 fun c o cz cT c1 c2 e => up c o (hkk c o cz cT c1 c2 e)
end
end Zp
end F_Z1
section F_Z2
set_option maxRecDepth 100000
namespace Zp
open PySem PySem.Spec PyProof.Rows L2
open PySem.Builtin.SmallTypes (nextOf nextOrEnd stopIteration)
section
variable {prog : Program} {w : World} {A : Around} {E : Value → Shared → Prop} {s : Shared} {z TI TO i1 i2 : Addr} {fp1 fp2 : List Addr} {n n1 n2 i : Nat} {P P1 P2 : Nat → Value → Prop} {St St1 St2 : Nat → Heap → Prop} {a1 a2 f0 : Value} {f1 st : Bool}
theorem stop_raise {α : Type} {Q : α → Shared → Prop} (hh : A.handled = none) (hE : ∀ h' e, (∀ b o, s.heap.get? b = some o → h'.get? b = some o) → (∃ o, h'.get? e = some o ∧ o.cls = .type "StopIteration") → E (.ref e) { s with heap := h' }) :
    wpAny (model prog w) A (stopIteration : Sem α) Q E s := by
  unfold Builtin.SmallTypes.stopIteration
  show wpAny _ _ (newExc (.type "StopIteration") [] >>= _) _ _ _
  refine wpAny_bind ?_
  simp only [newExc, newTuple]
  refine wpAny_bind (wpAny_newObj_type ?_ (by size_fits))
  refine wpAny_bind (m := firstArgMember _ _) (wpAny_of_eq (a := Value.none) (by first | rfl | (simp only [firstArgMember]; rfl)) ?_)
  refine wpAny_newObj_type ?_ (by size_fits)
  simp only [raiseNew]
  refine wpAny_bind (wpAny_handled ?_)
  rw [hh]
  refine wpAny_bind (wpAny_pure (wpAny_throw ?_))
  exact hE _ _ (fun b o e => Heap.get?_push_of_some _ (Heap.get?_push_of_some _ e)) ⟨_, Heap.get?_push_size _ rfl, rfl⟩
def zBefore (i : Nat) : String := if i == 1 then "argument 1" else s!"arguments 1-{i}"
def zend (its : List Value) (i : Nat) : Sem Fin := do
  if i > 0 then
    rule "zip.__next__.shorter"; raiseError "ValueError" s!"zip() argument {i + 1} is shorter than {zBefore i}"
  for (it, j) in (its.drop 1).zipIdx 1 do
    if (← nextOrEnd it).isSome then
      rule "zip.__next__.longer"; raiseError "ValueError" s!"zip() argument {j + 1} is longer than {zBefore j}"
  rule "zip.__next__.all-ended"; stopIteration
theorem zend_all {Q : Fin → Shared → Prop} (hh : A.handled = none) (D2 : Draws prog w A i2 fp2 n2 P2 St2) (st2 : St2 n2 s.heap)
    (hE : ∀ h' e, (∀ b o, b ≠ i2 → s.heap.get? b = some o → h'.get? b = some o) → (∃ o, h'.get? e = some o ∧ o.cls = .type "StopIteration") → E (.ref e) { s with heap := h' }) :
    wpAny (model prog w) A (zend [.ref i1, .ref i2] 0) Q E s := by
  unfold zend
  simp only [gt_iff_lt, Nat.lt_irrefl, if_false]
  refine wpAny_bind ?_
  simp only [List.drop_succ_cons, List.drop_zero, List.zipIdx_cons, List.zipIdx_nil, List.forIn_cons, List.forIn_nil]
  refine wpAny_bind (wpAny_bind (orEnd_done D2 st2 fun h' hx => ?_))
  simp only [Option.isSome_none, Bool.false_eq_true, if_false]
  refine wpAny_pure (wpAny_pure ?_)
  refine wpAny_bind (wpAny_rule ?_)
  exact stop_raise hh fun h'' e k he => hE h'' e (fun b o hb x => k b o (hx b o hb x)) he
theorem next_end {Q : Fin → Shared → Prop} (hh : A.handled = none) (S : ZipSep2 z TI TO i1 i2 fp1 fp2) (D1 : Draws prog w A i1 fp1 n P1 St1) (D2 : Draws prog w A i2 fp2 n P2 St2)
    (hz : IsZipB s.heap z TI TO f0 f1 st) (hg : Given f0) (hTI : IsTupOf2 s.heap TI (.ref i1) (.ref i2)) (st1 : St1 n s.heap) (st2 : St2 n s.heap)
    (hE : ∀ h' tk e, (∀ c o, c ≠ z → c ≠ TO → c ≠ i1 → c ≠ i2 → s.heap.get? c = some o → h'.get? c = some o) → (∃ o, h'.get? e = some o ∧ o.cls = .type "StopIteration") → E (.ref e) { s with heap := h', toks := tk }) :
    wpAny (model prog w) A (Builtin.«zip.__next__» ⟨[.ref z], []⟩) Q E s := by
  obtain ⟨hp, g, d, tk0, os⟩ := s
  show wpAny _ _ (field (.ref z) 2 >>= _) _ _ _
  refine wpAny_bind (wpAny_field hz rfl (x := .bool st) rfl ?_)
  show wpAny _ _ (field (.ref z) 3 >>= _) _ _ _
  refine wpAny_bind (wpAny_field hz rfl (x := .ref TI) rfl ?_)
  refine wpAny_bind (wpAny_seqItems hTI rfl ?_)
  show wpAny _ _ (Builtin.SmallTypes.ownedTupleIsFree (.ref z) >>= _) _ _ _
  refine wpAny_bind (free_any hz hg fun b hf f1' hzf hsf => ?_)
  replace hsf : Heap.SameBut z hp hf := hsf
  have st1 : St1 n hf := D1.over st1 hsf S.zf1
  have st2 : St2 n hf := D2.over st2 hsf S.zf2
  cases b with
  | true =>
    simp only [if_true]
    refine wpAny_bind (wpAny_rule ?_)
    refine wpAny_bind (wpAny_field (s := ⟨hf, g, d, tk0, os⟩) hzf rfl (x := .ref TO) rfl ?_)
    refine wpAny_bind (wpAny_setField_rec (s := ⟨hf, g, d, tk0, os⟩) hzf (by simp) fun g0 hz0 hs0 => ?_)
    replace hz0 : IsZipB g0 z TI TO .ellipsis f1' st := hz0
    replace hs0 : Heap.SameBut z hf g0 := hs0
    refine wpAny_bind ?_
    simp only [List.zipIdx_cons, List.zipIdx_nil, List.forIn_cons, List.forIn_nil]
    refine wpAny_bind (wpAny_bind (wpAny_onRaise ?_))
    have sd1 : St1 n g0 := D1.over st1 hs0 S.zf1
    have sd2 : St2 n g0 := D2.over st2 hs0 S.zf2
    have ck : ∀ c o, c ≠ z → hp.get? c = some o → g0.get? c = some o := fun c o cz e => hs0.extBut _ _ cz (hsf.extBut _ _ cz e)
    cases st with
    | false =>
      show wpAny _ _ (nextOf (.ref i1) >>= _) _ _ ⟨g0, g, d, tk0, os⟩
      refine wpAny_bind (D1.done ⟨g0, g, d, tk0, os⟩ _ _ sd1 fun q e hq he => ?_)
      replace hq : Heap.ExtBut i1 g0 q := hq
      obtain ⟨oe, hoe, hce⟩ := he
      replace hoe : q.get? e = some oe := hoe
      have hzq : IsZipB q z TI TO .ellipsis f1' false := hq _ _ S.zi1 hz0
      have hez : e ≠ z := fun x => by subst x; rw [hzq] at hoe; cases hoe; simp at hce
      refine wpAny_setField_rec (s := ⟨q, g, d, tk0, os⟩) hzq (by simp) fun q' _ hq' => ?_
      replace hq' : Heap.SameBut z q q' := hq'
      exact hE q' tk0 e (fun c o cz cT c1 c2 x => hq'.extBut _ _ cz (hq _ _ c1 (ck c o cz x))) ⟨oe, hq'.extBut _ _ hez hoe, hce⟩
    | true =>
      show wpAny _ _ (nextOrEnd (.ref i1)) _ _ ⟨g0, g, d, tk0, os⟩
      refine orEnd_done D1 sd1 fun q hq => ?_
      replace hq : Heap.ExtBut i1 g0 q := hq
      have hzq : IsZipB q z TI TO .ellipsis f1' true := hq _ _ S.zi1 hz0
      refine wpAny_bind (wpAny_setField_rec (s := ⟨q, g, d, tk0, os⟩) hzq (by simp) fun q' _ hq' => ?_)
      replace hq' : Heap.SameBut z q q' := hq'
      have sq2 : St2 n q' := D2.over (D2.frame _ _ _ sd2 fun b hb o e => hq b o (fun x => S.sep1_2 (x ▸ hb)) e) hq' S.zf2
      show wpAny _ _ (zend [.ref i1, .ref i2] 0 >>= _) _ _ ⟨q', g, d, tk0, os⟩
      refine wpAny_bind (zend_all hh D2 sq2 fun h'' e k he => ?_)
      exact hE h'' tk0 e (fun c o cz cT c1 c2 x => k c o c2 (hq'.extBut _ _ cz (hq _ _ c1 (ck c o cz x)))) he
  | false =>
    simp only [Bool.false_eq_true, if_false]
    refine wpAny_bind ?_
    rw [← Array.forIn_toList]
    simp only [List.forIn_cons, List.forIn_nil]
    refine wpAny_bind (wpAny_bind (wpAny_holding ?_))
    cases st with
    | false =>
      show wpAny _ _ (nextOf (.ref i1) >>= _) _ _ ⟨hf, g, d, tk0, os⟩
      refine wpAny_bind (D1.done ⟨hf, g, d, tk0, os⟩ _ _ st1 fun q e hq he => ?_)
      replace hq : Heap.ExtBut i1 hf q := hq
      exact hE q tk0 e (fun c o cz cT c1 c2 x => hq _ _ c1 (hsf.extBut _ _ cz x)) he
    | true =>
      show wpAny _ _ (nextOrEnd (.ref i1)) _ _ ⟨hf, g, d, tk0, os⟩
      refine orEnd_done D1 st1 fun q hq => ?_
      replace hq : Heap.ExtBut i1 hf q := hq
      have sq2 : St2 n q := D2.frame _ _ _ st2 fun b hb o e => hq b o (fun x => S.sep1_2 (x ▸ hb)) e
      show wpAny _ _ (zend [.ref i1, .ref i2] 0 >>= _) _ _ ⟨q, g, d, tk0, os⟩
      refine wpAny_bind (zend_all hh D2 sq2 fun h'' e k he => ?_)
      exact hE h'' tk0 e (fun c o cz cT c1 c2 x => k c o c2 (hq _ _ c1 (hsf.extBut _ _ cz x))) he
theorem nextOf_item {Q : Value → Shared → Prop} (S : ZipSep2 z TI TO i1 i2 fp1 fp2) (D1 : Draws prog w A.in1 i1 fp1 n1 P1 St1) (D2 : Draws prog w A.in1 i2 fp2 n2 P2 St2)
    (hz : IsZipB s.heap z TI TO f0 f1 st) (hg : Given f0) (hTI : IsTupOf2 s.heap TI (.ref i1) (.ref i2)) (hTO : IsTupOf2 s.heap TO a1 a2) (st1 : St1 i s.heap) (st2 : St2 i s.heap) (hlt1 : i < n1) (hlt2 : i < n2)
    (hQ : ∀ x1 x2 h' tk f0' f1' b1 b2, P1 i x1 → P2 i x2 → Given f0' → IsZipB h' z TI TO f0' f1' st → IsTupOf2 h' TO b1 b2 → St1 (i + 1) h' → St2 (i + 1) h' → IsTupOf2 h' s.heap.objs.size x1 x2 → h'.objs.size = s.heap.objs.size + 1 →
      (∀ c o, c ≠ z → c ≠ TO → c ≠ i1 → c ≠ i2 → s.heap.get? c = some o → h'.get? c = some o) → Q (.ref s.heap.objs.size) { s with heap := h', toks := tk }) :
    wpAny (model prog w) A (nextOf (.ref z)) Q E s := by
  have hT : s.TypeIs (.ref z) "zip" := ⟨_, hz, rfl⟩
  unfold Builtin.SmallTypes.nextOf
  refine wpAny_bind (wpAny_callSpecial?_slot (name := Str.ofString "__next__") hT F.slot_zip_next
    (wpAny_call_entry F.slot_zip_next hT F.entry_zip_next
      (next_item S D1 D2 hz hg hTI hTO st1 st2 hlt1 hlt2 fun x1 x2 h' tk f0' f1' b1 b2 y1 y2 y3 y4 y5 y6 y7 y8 y9 y10 => wpAny_pure (hQ x1 x2 h' tk f0' f1' b1 b2 y1 y2 y3 y4 y5 y6 y7 y8 y9 y10)) (F.args_zip_next_1 _)))
theorem nextOf_end {Q : Value → Shared → Prop} (hh : A.handled = none) (S : ZipSep2 z TI TO i1 i2 fp1 fp2) (D1 : Draws prog w A.in1 i1 fp1 n P1 St1) (D2 : Draws prog w A.in1 i2 fp2 n P2 St2)
    (hz : IsZipB s.heap z TI TO f0 f1 st) (hg : Given f0) (hTI : IsTupOf2 s.heap TI (.ref i1) (.ref i2)) (st1 : St1 n s.heap) (st2 : St2 n s.heap)
    (hE : ∀ h' tk e, (∀ c o, c ≠ z → c ≠ TO → c ≠ i1 → c ≠ i2 → s.heap.get? c = some o → h'.get? c = some o) → (∃ o, h'.get? e = some o ∧ o.cls = .type "StopIteration") → E (.ref e) { s with heap := h', toks := tk }) :
    wpAny (model prog w) A (nextOf (.ref z)) Q E s := by
  have hT : s.TypeIs (.ref z) "zip" := ⟨_, hz, rfl⟩
  unfold Builtin.SmallTypes.nextOf
  exact wpAny_bind (wpAny_callSpecial?_slot (name := Str.ofString "__next__") hT F.slot_zip_next
    (wpAny_call_entry F.slot_zip_next hT F.entry_zip_next (next_end hh S D1 D2 hz hg hTI st1 st2 hE) (F.args_zip_next_1 _)))
end
end Zp
end F_Z2
section F_Z3
set_option maxRecDepth 100000
namespace Zp
open PySem PySem.Spec PyProof.Rows L2
open PySem.Builtin.SmallTypes (nextOf nextOrEnd stopIteration)
theorem typeCall_zs (a b c : Value) : checkTypeCall "zip" ⟨[a, b], [(Str.ofString "strict", c)]⟩ = pure () := by kernel_rfl
theorem newCall_zs (a b c : Value) : checkBuiltinCall "zip.__new__" ⟨[.type "zip", a, b], [(Str.ofString "strict", c)]⟩ = pure () := by kernel_rfl
theorem args_init_zs (obj a b c : Value) : argsOk "object.__init__" ⟨[obj, a, b], [(Str.ofString "strict", c)]⟩ := by unfold argsOk; kernel_rfl
abbrev zh3 (h : Heap) (o1 o2 : PySem.Obj) : Heap := ((h.push o1).push o2).push { cls := .type "tuple", data := .seq #[.ref h.objs.size, .ref (h.push o1).objs.size] }
abbrev zh4 (h : Heap) (o1 o2 : PySem.Obj) : Heap := (zh3 h o1 o2).push { cls := .type "tuple", data := .seq #[.none, .none] }
abbrev zh5 (h : Heap) (o1 o2 : PySem.Obj) (st : Bool) : Heap := (zh4 h o1 o2).push { cls := .type "zip", data := .fields #[.none, .bool false, .bool st, .ref ((h.push o1).push o2).objs.size, .ref (zh3 h o1 o2).objs.size] }
def zkw (st : Bool) : List (Str × Value) := if st then [(Str.ofString "strict", .bool true)] else []
set_option maxHeartbeats 1000000 in
theorem meets_new {v1 v2 : Value} {o1 o2 : PySem.Obj} {H1 H2 : Heap → Prop} (B1 : Begins v1 o1 H1) (B2 : Begins v2 o2 H2) (st : Bool) :
    Meets (Builtin.«zip.__new__» ⟨[.type "zip", v1, v2], zkw st⟩) (fun _ R s => H1 s.heap ∧ H2 s.heap ∧ R (.ok (.ret (.ref (zh4 s.heap o1 o2).objs.size))) { s with heap := zh5 s.heap o1 o2 st }) :=
  .of_wp fun prog w A R s h => by
    obtain ⟨hp, g, d, tk, os⟩ := s; obtain ⟨h1, h2, h⟩ := h
    have hsub := sub_zip
    have q1 : ∀ {A' : Around} {E : Value → Shared → Prop} {Q : Value → Shared → Prop}, Q (.ref hp.objs.size) ⟨hp.push o1, g, d, tk, os⟩ → wpAny (model prog w) A' (pyIter v1) Q E ⟨hp, g, d, tk, os⟩ :=
      fun q => B1.iter prog w _ _ ⟨hp, g, d, tk, os⟩ _ h1 q
    have q2 : ∀ {A' : Around} {E : Value → Shared → Prop} {Q : Value → Shared → Prop}, Q (.ref (hp.push o1).objs.size) ⟨(hp.push o1).push o2, g, d, tk, os⟩ → wpAny (model prog w) A' (pyIter v2) Q E ⟨hp.push o1, g, d, tk, os⟩ :=
      fun q => B2.iter prog w _ _ ⟨hp.push o1, g, d, tk, os⟩ _ (B2.keeps _ _ h2 fun b o e => Heap.get?_push_of_some _ e) q
    have e1 : (Str.ofString "strict" == ("strict" : Str)) = true := by decide +kernel
    have e2 : (Str.ofString "strict" != ("strict" : Str)) = false := by decide +kernel
    cases st with
    | false =>
      show wpAny _ _ (Builtin.«zip.__new__» ⟨[.type "zip", v1, v2], []⟩) _ _ _
      wp_walk using q1, q2
      exact ⟨_, rfl, h⟩
    | true =>
      show wpAny _ _ (Builtin.«zip.__new__» ⟨[.type "zip", v1, v2], [(Str.ofString "strict", .bool true)]⟩) _ _ _
      wp_walk using q1, q2
      exact ⟨_, rfl, h⟩
end Zp
end F_Z3
section F_Z4
set_option maxRecDepth 100000
namespace Zp
open PySem PySem.Spec PyProof.Rows L2
open PySem.Builtin.SmallTypes (nextOf nextOrEnd stopIteration)
section
variable {prog : Program} {w : World} {A : Around} {E : Value → Shared → Prop} {s : Shared} {z TI TO i1 i2 e : Addr} {fp1 fp2 : List Addr} {n n1 n2 i : Nat} {P P1 P2 : Nat → Value → Prop} {St St1 St2 : Nat → Heap → Prop} {a1 a2 f0 : Value} {f1 st : Bool}
theorem call_zip {v1 v2 : Value} {o1 o2 : PySem.Obj} {H1 H2 : Heap → Prop} {Q : Value → Shared → Prop} (B1 : Begins v1 o1 H1) (B2 : Begins v2 o2 H2) (h1 : H1 s.heap) (h2 : H2 s.heap)
    (h : ∀ h', IsZipB h' (s.heap.objs.size + 4) (s.heap.objs.size + 2) (s.heap.objs.size + 3) .none false st → IsTupOf2 h' (s.heap.objs.size + 2) (.ref s.heap.objs.size) (.ref (s.heap.objs.size + 1)) →
      IsTupOf2 h' (s.heap.objs.size + 3) .none .none → h'.get? s.heap.objs.size = some o1 → h'.get? (s.heap.objs.size + 1) = some o2 → h'.objs.size = s.heap.objs.size + 5 →
      (∀ c o, s.heap.get? c = some o → h'.get? c = some o) → Q (.ref (s.heap.objs.size + 4)) { s with heap := h' }) :
    wpAny (model prog w) A (call (.type "zip") [v1, v2] (zkw st)) Q E s := by
  refine callType_newKw F.called_zip (by decide) (by cases st; exact F.typeCall_zip_2 _ _; exact typeCall_zs _ _ _) (by cases st; exact F.newCall_zip_2 _ _; exact newCall_zs _ _ _)
    (fun obj => by cases st; exact F.args_object_init_3 obj _ _; exact args_init_zs obj _ _ _) F.entry_zip_new (meets_new B1 B2 st) ⟨h1, h2, ?_⟩
  have z1 : (s.heap.push o1).objs.size = s.heap.objs.size + 1 := Heap.size_push ..
  have z2 : ((s.heap.push o1).push o2).objs.size = s.heap.objs.size + 2 := by rw [Heap.size_push, z1]
  have z3 : (zh3 s.heap o1 o2).objs.size = s.heap.objs.size + 3 := by rw [Heap.size_push, z2]
  have z4 : (zh4 s.heap o1 o2).objs.size = s.heap.objs.size + 4 := by rw [Heap.size_push, z3]
  have z5 : (zh5 s.heap o1 o2 st).objs.size = s.heap.objs.size + 5 := by rw [Heap.size_push, z4]
  have g5 : (zh5 s.heap o1 o2 st).get? (zh4 s.heap o1 o2).objs.size = some _ := Heap.get?_push_size _ rfl
  have g4 : (zh5 s.heap o1 o2 st).get? (zh3 s.heap o1 o2).objs.size = some _ := Heap.get?_push_of_some _ (Heap.get?_push_size _ rfl)
  have g3 : (zh5 s.heap o1 o2 st).get? ((s.heap.push o1).push o2).objs.size = some _ := Heap.get?_push_of_some _ (Heap.get?_push_of_some _ (Heap.get?_push_size _ rfl))
  have g2 : (zh5 s.heap o1 o2 st).get? (s.heap.push o1).objs.size = some _ := Heap.get?_push_of_some _ (Heap.get?_push_of_some _ (Heap.get?_push_of_some _ (Heap.get?_push_size _ B2.free)))
  have g1 : (zh5 s.heap o1 o2 st).get? s.heap.objs.size = some _ := Heap.get?_push_of_some _ (Heap.get?_push_of_some _ (Heap.get?_push_of_some _ (Heap.get?_push_of_some _ (Heap.get?_push_size _ B1.free))))
  show _ ∧ _
  rw [z2, z3, z4] at g5
  rw [z1, z2] at g3
  rw [z3] at g4
  rw [z1] at g2
  rw [z4]
  exact ⟨⟨_, g5, rfl⟩, h _ g5 g3 g4 g1 g2 z5 fun c o x =>
    Heap.get?_push_of_some _ (Heap.get?_push_of_some _ (Heap.get?_push_of_some _ (Heap.get?_push_of_some _ (Heap.get?_push_of_some _ x))))⟩
theorem pyIter_zip {Q : Value → Shared → Prop} (hz : IsZipB s.heap z TI TO f0 f1 st) (h : Q (.ref z) s) : wpAny (model prog w) A (pyIter (.ref z)) Q E s := by
  have hT : s.TypeIs (.ref z) "zip" := ⟨_, hz, rfl⟩
  refine wpAny_pyIter_slot hT F.slot_zip_iter (wpAny_call_entry F.slot_zip_iter hT F.entry_zip_iter ?_ (F.args_zip_iter_1 _))
  show wpAny _ _ (ret (.ref z)) _ _ s
  exact wpAny_pure ⟨_, rfl, "zip", _, hT, F.slot_zip_next.lookup, h⟩
end
set_option maxHeartbeats 1000000 in
theorem meets_enum_self (z TI TO : Addr) (f0 : Value) (f1 st : Bool) :
    Meets (Builtin.«enumerate.__new__» ⟨[.type "enumerate", .ref z], []⟩) (fun _ R s => IsZipB s.heap z TI TO f0 f1 st ∧
      R (.ok (.ret (.ref s.heap.objs.size))) { s with heap := s.heap.push { cls := .type "enumerate", data := .fields #[.none, .bool false, .ref z, rawInt 0, .none, .none] } }) :=
  .of_wp fun prog w A R s h => by
    obtain ⟨hp, g, d, tk, os⟩ := s; obtain ⟨h1, h⟩ := h
    have hsub := sub_enumerate
    have q1 : ∀ {A' : Around} {E : Value → Shared → Prop} {Q : Value → Shared → Prop}, Q (.ref z) ⟨hp, g, d, tk, os⟩ → wpAny (model prog w) A' (pyIter (.ref z)) Q E ⟨hp, g, d, tk, os⟩ :=
      fun q => pyIter_zip (s := ⟨hp, g, d, tk, os⟩) h1 q
    wp_walk using q1
    refine wpAny_stack_any fun st => wpAny_pure ?_
    split
    · rename_i c _ _ _ _ _
      cases (c == Value.type "enumerate")
      · wp_walk using q1
        exact ⟨_, rfl, h⟩
      · wp_walk using q1
        exact ⟨_, rfl, h⟩
    · wp_walk using q1
      exact ⟨_, rfl, h⟩
section
variable {prog : Program} {w : World} {A : Around} {E : Value → Shared → Prop} {s : Shared} {z TI TO i1 i2 e : Addr} {fp1 fp2 : List Addr} {n n1 n2 i : Nat} {P P1 P2 : Nat → Value → Prop} {St St1 St2 : Nat → Heap → Prop} {a1 a2 f0 old : Value} {f1 st : Bool}
theorem call_enum {Q : Value → Shared → Prop} (hz : IsZipB s.heap z TI TO f0 f1 st)
    (h : ∀ h', IsEnum h' s.heap.objs.size z 0 .none → h'.objs.size = s.heap.objs.size + 1 → (∀ c o, s.heap.get? c = some o → h'.get? c = some o) → Q (.ref s.heap.objs.size) { s with heap := h' }) :
    wpAny (model prog w) A (call (.type "enumerate") [.ref z]) Q E s := by
  refine callType_new F.called_enumerate (by decide) (F.typeCall_enumerate_1 _) (F.newCall_enumerate_1 _) (fun obj => F.args_object_init_2 obj _) F.entry_enumerate_new (meets_enum_self z TI TO f0 f1 st) ⟨hz, ?_⟩
  have he : IsEnum (s.heap.push { cls := .type "enumerate", data := .fields #[.none, .bool false, .ref z, rawInt 0, .none, .none] }) s.heap.objs.size z 0 .none := Heap.get?_push_size _ rfl
  show _ ∧ _
  exact ⟨⟨_, he, rfl⟩, h _ he (Heap.size_push ..) fun c o x => Heap.get?_push_of_some _ x⟩
end
end Zp
end F_Z4
section F_Z5
set_option maxRecDepth 100000
namespace Zp
open PySem PySem.Spec PyProof.Rows L2
open PySem.Builtin.SmallTypes (nextOf nextOrEnd stopIteration)
def ZSt (h : Heap) (z TI TO i1 i2 : Addr) (st : Bool) : Prop := ∃ f0 f1 b1 b2, Given f0 ∧ IsZipB h z TI TO f0 f1 st ∧ IsTupOf2 h TI (.ref i1) (.ref i2) ∧ IsTupOf2 h TO b1 b2
theorem ZSt.keep {h h' : Heap} {z TI TO i1 i2 : Addr} {st : Bool} (x : ZSt h z TI TO i1 i2 st) (k : ∀ b, b = z ∨ b = TI ∨ b = TO → ∀ o, h.get? b = some o → h'.get? b = some o) : ZSt h' z TI TO i1 i2 st := by
  obtain ⟨f0, f1, b1, b2, a, b, c, d⟩ := x
  exact ⟨f0, f1, b1, b2, a, k z (.inl rfl) _ b, k TI (.inr (.inl rfl)) _ c, k TO (.inr (.inr rfl)) _ d⟩
section
variable {prog : Program} {w : World} {A : Around} {E : Value → Shared → Prop} {s : Shared} {z TI TO i1 i2 e : Addr} {fp1 fp2 : List Addr} {n n1 n2 i : Nat} {P P1 P2 : Nat → Value → Prop} {St St1 St2 : Nat → Heap → Prop} {a1 a2 f0 old : Value} {f1 st : Bool}
theorem enum_item {Q : Value → Shared → Prop} (S : ZipSep2 z TI TO i1 i2 fp1 fp2) (D1 : Draws prog w A.in1 i1 fp1 n1 P1 St1) (D2 : Draws prog w A.in1 i2 fp2 n2 P2 St2)
    (he : IsEnum s.heap e z ((i : Nat) : Int) old) (hz : ZSt s.heap z TI TO i1 i2 st) (st1 : St1 i s.heap) (st2 : St2 i s.heap) (hlt1 : i < n1) (hlt2 : i < n2) (hef : e ∉ z :: TI :: TO :: (fp1 ++ fp2))
    (hQ : ∀ x1 x2 h' tk, P1 i x1 → P2 i x2 → IsEnumOut h' e z ((i : Int) + 1) (.ref s.heap.objs.size) (s.heap.objs.size + 1) → ZSt h' z TI TO i1 i2 st → St1 (i + 1) h' → St2 (i + 1) h' → IsTupOf2 h' s.heap.objs.size x1 x2 →
      h'.get? (s.heap.objs.size + 1) = some { cls := .type "tuple", data := .seq #[.int i tk, .ref s.heap.objs.size] } → h'.objs.size = s.heap.objs.size + 2 →
      (∀ b o, b ≠ e → b ≠ z → b ≠ TO → b ≠ i1 → b ≠ i2 → s.heap.get? b = some o → h'.get? b = some o) → Q (.ref (s.heap.objs.size + 1)) { s with heap := h', toks := tk + 1 }) :
    wpAny (model prog w) A (Builtin.«enumerate.__next__» ⟨[.ref e], []⟩) (fun fin s' => ∃ v, fin = .done (.ret v) ∧ Q v s') E s := by
  obtain ⟨f0, f1, b1, b2, hg, hzb, hTI, hTO⟩ := hz
  have hez : e ≠ z := fun q => hef (by simp [q])
  have heTI : TI ≠ e := fun q => hef (by simp [q])
  have heTO : TO ≠ e := fun q => hef (by simp [q])
  have hei1 : e ∉ fp1 := fun q => hef (by simp [q])
  have hei2 : e ∉ fp2 := fun q => hef (by simp [q])
  have n1' : e ≠ i1 := fun q => hei1 (q ▸ S.mem1)
  have n2' : e ≠ i2 := fun q => hei2 (q ▸ S.mem2)
  obtain ⟨hp, g, d, tk₀, os⟩ := s
  show wpAny _ _ (field (.ref e) 2 >>= _) _ _ _
  refine wpAny_bind (wpAny_field he rfl (x := .ref z) rfl ?_)
  refine wpAny_bind (nextOf_item S D1 D2 hzb hg hTI hTO st1 st2 hlt1 hlt2 fun x1 x2 h₁ tk f0' f1' c1 c2 hP1 hP2 hg' hzb' hTO' sn1 sn2 hT1 hs1 hk1 => ?_)
  replace hs1 : h₁.objs.size = hp.objs.size + 1 := hs1
  replace hT1 : IsTupOf2 h₁ hp.objs.size x1 x2 := hT1
  replace hk1 : ∀ c o, c ≠ z → c ≠ TO → c ≠ i1 → c ≠ i2 → hp.get? c = some o → h₁.get? c = some o := hk1
  have hTI' : IsTupOf2 h₁ TI (.ref i1) (.ref i2) := hk1 _ _ S.TIz S.TITO S.TIi1 S.TIi2 hTI
  have he₁ : IsEnum h₁ e z i old := hk1 _ _ hez (Ne.symm heTO) n1' n2' he
  have hel : e < hp.objs.size := Heap.lt_size he
  show wpAny _ _ (field (.ref e) 3 >>= _) _ _ ⟨h₁, g, d, tk, os⟩
  refine wpAny_bind (wpAny_field he₁ rfl (x := rawInt i) rfl ?_)
  show wpAny _ _ (field (.ref e) 4 >>= _) _ _ ⟨h₁, g, d, tk, os⟩
  refine wpAny_bind (wpAny_field he₁ rfl (x := .none) rfl ?_)
  show wpAny _ _ (mkInt i >>= _) _ _ ⟨h₁, g, d, tk, os⟩
  refine wpAny_bind (wpAny_mkInt ?_)
  show wpAny _ _ (setField (.ref e) 3 (rawInt ((i : Int) + 1)) >>= _) _ _ ⟨h₁, g, d, tk + 1, os⟩
  refine wpAny_bind (wpAny_setField_rec he₁ (by simp) fun h₂ he₂ hs₂ => ?_)
  replace hs₂ : Heap.SameBut e h₁ h₂ := hs₂
  replace he₂ : IsEnum h₂ e z ((i : Int) + 1) old := he₂
  show wpAny _ _ (setField (.ref e) 4 .none >>= _) _ _ ⟨h₂, g, d, tk + 1, os⟩
  refine wpAny_bind (wpAny_setField_rec he₂ (by simp) fun h₃ he₃ hs₃ => ?_)
  replace hs₃ : Heap.SameBut e h₂ h₃ := hs₃
  replace he₃ : IsEnum h₃ e z ((i : Int) + 1) old := he₃
  show wpAny _ _ (newTuple [.int i tk, .ref hp.objs.size] >>= _) _ _ ⟨h₃, g, d, tk + 1, os⟩
  refine wpAny_bind (wpAny_newTuple ?_)
  have he₄ : IsEnum (h₃.push { cls := .type "tuple", data := .seq #[.int i tk, .ref hp.objs.size] }) e z ((i : Int) + 1) old := Heap.get?_push_of_some _ he₃
  generalize hh₄ : h₃.push { cls := .type "tuple", data := .seq #[.int i tk, .ref hp.objs.size] } = h₄ at he₄
  have hsz : h₃.objs.size = hp.objs.size + 1 := by rw [hs₃.1, hs₂.1, hs1]
  have ht₄ : h₄.get? (hp.objs.size + 1) = some { cls := .type "tuple", data := .seq #[.int i tk, .ref hp.objs.size] } := by rw [← hh₄, ← hsz]; exact Heap.get?_push_size _ rfl
  have hz₄ : h₄.objs.size = hp.objs.size + 2 := by rw [← hh₄, Heap.size_push, hsz]
  have kk : ∀ b o, b ≠ e → h₁.get? b = some o → h₄.get? b = some o := fun b o hbe x => by
    rw [← hh₄]; exact Heap.get?_push_of_some _ (hs₃.extBut b o hbe (hs₂.extBut b o hbe x))
  show wpAny _ _ (Builtin.SmallTypes.ownedTupleIsFree (.ref e) >>= _) _ _ ⟨h₄, g, d, tk + 1, os⟩
  rw [hsz]
  clear hh₄ he₃ hs₃ he₂ hs₂ hsz h₃ h₂
  refine wpAny_bind ?_
  · unfold Builtin.SmallTypes.ownedTupleIsFree
    refine wpAny_bind (wpAny_field he₄ rfl (x := .none) rfl (wpAny_pure ?_))
    simp only [if_true]
    refine wpAny_bind (wpAny_rule ?_)
    refine wpAny_bind (wpAny_field he₄ rfl (x := old) rfl ?_)
    refine wpAny_bind (wpAny_setField_rec he₄ (by simp) fun h₅ he₅ hs₅ => ?_)
    replace hs₅ : Heap.SameBut e h₄ h₅ := hs₅
    replace he₅ : IsEnum h₅ e z ((i : Int) + 1) (.ref hp.objs.size) := he₅
    show wpAny _ _ (Builtin.SmallTypes.ownedTupleHandOut (.ref e) (.ref (hp.objs.size + 1)) >>= _) _ _ ⟨h₅, g, d, tk + 1, os⟩
    refine wpAny_bind ?_
    · unfold Builtin.SmallTypes.ownedTupleHandOut
      refine wpAny_bind (wpAny_setField_rec he₅ (by simp) fun h₆ he₆ hs₆ => ?_)
      replace hs₆ : Heap.SameBut e h₅ h₆ := hs₆
      replace he₆ : IsEnumOut h₆ e z ((i : Int) + 1) (.ref hp.objs.size) (hp.objs.size + 1) := he₆
      refine wpAny_setField_rec he₆ (by simp) fun h₇ he₇ hs₇ => ?_
      replace hs₇ : Heap.SameBut e h₆ h₇ := hs₇
      replace he₇ : IsEnumOut h₇ e z ((i : Int) + 1) (.ref hp.objs.size) (hp.objs.size + 1) := he₇
      have k7 : ∀ b o, b ≠ e → h₁.get? b = some o → h₇.get? b = some o := fun b o hbe x => hs₇.extBut b o hbe (hs₆.extBut b o hbe (hs₅.extBut b o hbe (kk b o hbe x)))
      refine wpAny_bind (wpAny_letGo (wpAny_pure ⟨_, rfl, hQ x1 x2 h₇ tk hP1 hP2 he₇ ⟨f0', f1', c1, c2, hg', k7 _ _ (Ne.symm hez) hzb', k7 _ _ heTI hTI', k7 _ _ heTO hTO'⟩ ?_ ?_ (k7 _ _ (Nat.ne_of_gt hel) hT1) ?_ ?_ ?_⟩))
      · exact D1.frame _ _ _ sn1 fun b hb o y => k7 b o (fun q => hei1 (q ▸ hb)) y
      · exact D2.frame _ _ _ sn2 fun b hb o y => k7 b o (fun q => hei2 (q ▸ hb)) y
      · have hne : hp.objs.size + 1 ≠ e := Nat.ne_of_gt (Nat.lt_succ_of_lt hel)
        exact hs₇.extBut _ _ hne (hs₆.extBut _ _ hne (hs₅.extBut _ _ hne ht₄))
      · rw [hs₇.1, hs₆.1, hs₅.1, hz₄]
      · exact fun b o hbe hbz hbT hb1 hb2 x => k7 b o hbe (hk1 b o hbz hbT hb1 hb2 x)
theorem next_enum_item {Q : Option Value → Shared → Prop} (S : ZipSep2 z TI TO i1 i2 fp1 fp2) (D1 : Draws prog w A.in1.in1 i1 fp1 n1 P1 St1) (D2 : Draws prog w A.in1.in1 i2 fp2 n2 P2 St2)
    (he : IsEnum s.heap e z ((i : Nat) : Int) old) (hz : ZSt s.heap z TI TO i1 i2 st) (st1 : St1 i s.heap) (st2 : St2 i s.heap) (hlt1 : i < n1) (hlt2 : i < n2) (hef : e ∉ z :: TI :: TO :: (fp1 ++ fp2))
    (hQ : ∀ x1 x2 h' tk, P1 i x1 → P2 i x2 → IsEnumOut h' e z ((i : Int) + 1) (.ref s.heap.objs.size) (s.heap.objs.size + 1) → ZSt h' z TI TO i1 i2 st → St1 (i + 1) h' → St2 (i + 1) h' → IsTupOf2 h' s.heap.objs.size x1 x2 →
      h'.get? (s.heap.objs.size + 1) = some { cls := .type "tuple", data := .seq #[.int i tk, .ref s.heap.objs.size] } → h'.objs.size = s.heap.objs.size + 2 →
      (∀ b o, b ≠ e → b ≠ z → b ≠ TO → b ≠ i1 → b ≠ i2 → s.heap.get? b = some o → h'.get? b = some o) → Q (some (.ref (s.heap.objs.size + 1))) { s with heap := h', toks := tk + 1 }) :
    wpAny (model prog w) A (pyNext (.ref e)) Q E s := by
  have hT : s.TypeIs (.ref e) "enumerate" := ⟨_, he, rfl⟩
  unfold pyNext
  exact wpAny_bind (wpAny_attempt (wpAny_callSpecial?_slot (name := Str.ofString "__next__") hT F.slot_enumerate_next
    (wpAny_call_entry F.slot_enumerate_next hT F.entry_enumerate_next
      (enum_item S D1 D2 he hz st1 st2 hlt1 hlt2 hef fun x1 x2 h' tk a b c d k q l m p r => wpAny_pure (hQ x1 x2 h' tk a b c d k q l m p r)) (F.args_enumerate_next_1 _))))
theorem next_enum_end {Q : Option Value → Shared → Prop} (hh : A.handled = none) (S : ZipSep2 z TI TO i1 i2 fp1 fp2) (D1 : Draws prog w A.in1.in1 i1 fp1 n P1 St1) (D2 : Draws prog w A.in1.in1 i2 fp2 n P2 St2)
    (he : IsEnum s.heap e z ((i : Nat) : Int) old) (hz : ZSt s.heap z TI TO i1 i2 st) (st1 : St1 n s.heap) (st2 : St2 n s.heap)
    (hQ : ∀ h' tk, (∀ b o, b ≠ z → b ≠ TO → b ≠ i1 → b ≠ i2 → s.heap.get? b = some o → h'.get? b = some o) → Q none { s with heap := h', toks := tk }) :
    wpAny (model prog w) A (pyNext (.ref e)) Q E s := by
  obtain ⟨f0, f1, b1, b2, hg, hzb, hTI, hTO⟩ := hz
  have hT : s.TypeIs (.ref e) "enumerate" := ⟨_, he, rfl⟩
  unfold pyNext
  refine wpAny_bind (wpAny_attempt (wpAny_callSpecial?_slot (name := Str.ofString "__next__") hT F.slot_enumerate_next
    (wpAny_call_entry F.slot_enumerate_next hT F.entry_enumerate_next ?_ (F.args_enumerate_next_1 _))))
  show wpAny _ _ (field (.ref e) 2 >>= _) _ _ _
  refine wpAny_bind (wpAny_field he rfl (x := .ref z) rfl ?_)
  refine wpAny_bind (nextOf_end hh S D1 D2 hzb hg hTI st1 st2 fun h' tk x hk hx' => ?_)
  obtain ⟨o, ho, hc⟩ := hx'
  refine wpAny_bind (wpAny_isInstance (T := "StopIteration") (b := true) ⟨o, ho, hc⟩ isSubtype_stop ?_)
  exact wpAny_pure (hQ _ _ hk)
end
end Zp
end F_Z5
section F_Z6
set_option maxRecDepth 100000
namespace L2
open PySem PySem.Spec PyProof.Rows
section
variable {X : Cx} {pins : List (Addr × PySem.Obj)} {σ : L2.St} {H : Hp} {s : Shared} {h' : Heap}
theorem Inv.turnedNew2 {t' : Nat} {ch : List Addr} {T U : Addr} {ob oc : HO} (I : Inv X pins σ H s) (k : ∀ b o, b ∉ ch → s.heap.get? b = some o → h'.get? b = some o) (hf : ∀ b ∈ ch, FpOk X pins H b) (hT : s.heap.objs.size ≤ T) (hU : s.heap.objs.size ≤ U) (hTU : T ≠ U)
    (new1 : ObjOk X.prog X.w (upd (upd H T ob) U oc) h' T ob) (new2 : ObjOk X.prog X.w (upd (upd H T ob) U oc) h' U oc) : Inv X pins σ (upd (upd H T ob) U oc) { s with heap := h', toks := t' } := by
  have hn : H T = none := I.hok.fresh hT
  have hm : H U = none := I.hok.fresh hU
  have both : ∀ {b : Addr} {u : HO}, H b = some u → upd (upd H T ob) U oc b = some u := fun {b u} e => by
    rw [upd_ne (ne_of_none e hm), upd_ne (ne_of_none e hn)]; exact e
  have nit : ∀ b u, H b = some u → b ∉ ch := fun b u e z => by
    have q := (hf b z).1
    rw [q] at e; cases e
  refine I.step (g' := s.gens) (d' := s.drawn) (ch := ch) (fun b hb => ⟨(hf b hb).2.2.2.1, (hf b hb).2.1, (hf b hb).2.2.2.2.1, (hf b hb).2.2.2.2.2⟩) (fun b o _ _ hc e _ => k b o hc e) (fun b o _ _ hc e _ => ⟨o.slots, k b o hc e⟩)
    (fun b o _ e n => ?_) (fun b o hc e => ⟨o, k b o hc e⟩) (fun b xs e => both e) (fun b o u e => both e) (fun b ps e => ⟨#[], ?_⟩) (fun m hm => ?_) (fun b u e => ?_) I.bare
  · rw [upd_ne (Nat.ne_of_lt (Nat.lt_of_lt_of_le (Heap.lt_size e) hU)), upd_ne (Nat.ne_of_lt (Nat.lt_of_lt_of_le (Heap.lt_size e) hT))]; exact n
  · rw [both e]; simp
  · obtain ⟨o, es, ep, ho, r⟩ := hm
    exact ⟨o, es, ep, k _ o (fun z => (hf _ z).2.1 rfl) ho, r⟩
  · by_cases hb : b = U
    · subst hb
      rw [upd_same] at e
      cases e
      exact new2
    · rw [upd_ne hb] at e
      by_cases hb2 : b = T
      · subst hb2
        rw [upd_same] at e
        cases e
        exact new1
      · rw [upd_ne hb2] at e
        refine (I.hok b u e).stay (fun c v hc q => k c v ?_ q) (fun c q => both q) fun c xs q => both q
        rcases hc with z | z
        · rw [z]; exact nit b u e
        · exact nit c _ z
end
end L2
namespace Zp
open PySem PySem.Spec PyProof.Rows L2
theorem drawsTxt {prog : Program} {w : World} {A : Around} (hh : A.handled = none) (it : Addr) (x : Str) (t : Tok) :
    Draws prog w A it [it] x.cps.size (fun i v => ∃ c u, x.cps[i]? = some c ∧ v = .str ⟨#[c]⟩ u) (fun i h => h.IsStrIter it (strIterType x) x t i) := by
  unfold strIterType
  split
  · exact Draws.strAscii hh it x t
  · exact Draws.strWide hh it x t
def Iez (x y : Str) : It :=
  ⟨fun i _ => i < x.cps.size ∧ i < y.cps.size,
    fun i H v H' => ∃ T U c d, v = .ref U ∧ H T = none ∧ H U = none ∧ T ≠ U ∧ x.cps[i]? = some c ∧ y.cps[i]? = some d ∧ H' = upd (upd H T (.tup [.str ⟨#[c]⟩, .str ⟨#[d]⟩])) U (.tup [.int (i : Nat), .ref T]),
    fun i _ => x.cps.size ≤ i ∧ y.cps.size ≤ i⟩
theorem turn_ez {P : Program} {w : World} {K : PySem.W.Frag} {elts : List Expr} {kk : Nat} {tpos : Pos} {x y : Str} {tx ty : Tok} {st : Bool} (e z TI TO i1 i2 : Addr) (S : ZipSep2 z TI TO i1 i2 [i1] [i2]) (hef : e ∉ z :: TI :: TO :: ([i1] ++ [i2])) :
    Turn P w K (.Tuple elts kk tpos) (Iez x y) [e, z, TI, TO, i1, i2] e (fun i h => (∃ old, IsEnum h e z ((i : Nat) : Int) old) ∧ ZSt h z TI TO i1 i2 st ∧ h.IsStrIter i1 (strIterType x) x tx i ∧ h.IsStrIter i2 (strIterType y) y ty i ∧ i ≤ x.cps.size ∧ i ≤ y.cps.size) where
  mem := by simp
  obj := fun i h q b hb => by
    obtain ⟨⟨old, he⟩, ⟨f0, f1, b1, b2, hg, hz, hTI, hTO⟩, ⟨o1, ho1, hc1, hd1⟩, ⟨o2, ho2, hc2, hd2⟩, _⟩ := q
    simp only [List.mem_cons, List.not_mem_nil, or_false] at hb
    rcases hb with rfl | rfl | rfl | rfl | rfl | rfl
    · exact ⟨_, he, fun v q => nomatch q⟩
    · exact ⟨_, hz, fun v q => nomatch q⟩
    · exact ⟨_, hTI, fun v q => nomatch q⟩
    · exact ⟨_, hTO, fun v q => nomatch q⟩
    · exact ⟨o1, ho1, fun v q => by rw [hd1] at q; cases q⟩
    · exact ⟨o2, ho2, fun v q => by rw [hd2] at q; cases q⟩
  keep := fun i h h' q k => by
    obtain ⟨⟨old, he⟩, hz, ⟨o1, ho1, r1⟩, ⟨o2, ho2, r2⟩, hle⟩ := q
    exact ⟨⟨old, k e (by simp) _ he⟩, hz.keep fun b hb o q => k b (by rcases hb with rfl | rfl | rfl <;> simp) o q, ⟨o1, k i1 (by simp) _ ho1, r1⟩, ⟨o2, k i2 (by simp) _ ho2, r2⟩, hle⟩
  item := by
    intro X hP hw hK hc i pins s σ H E I hf q hg
    subst hP hw hK
    obtain ⟨⟨old, he⟩, hz, h1, h2, hle⟩ := q
    obtain ⟨g1, g2⟩ := hg
    have hel : e < s.heap.objs.size := Heap.lt_size he
    have hlt : ∀ b ∈ [e, z, TI, TO, i1, i2], b < s.heap.objs.size := fun b hb => by
      obtain ⟨f0, f1, b1, b2, _, hzb, hTI, hTO⟩ := hz
      obtain ⟨o1, ho1, _⟩ := h1
      obtain ⟨o2, ho2, _⟩ := h2
      simp only [List.mem_cons, List.not_mem_nil, or_false] at hb
      rcases hb with rfl | rfl | rfl | rfl | rfl | rfl
      · exact hel
      · exact Heap.lt_size hzb
      · exact Heap.lt_size hTI
      · exact Heap.lt_size hTO
      · exact Heap.lt_size ho1
      · exact Heap.lt_size ho2
    have D1 := drawsTxt (prog := X.prog) (w := X.w) (A := X.A.in1.in1) (I.ok.hd hc) i1 x tx
    have D2 := drawsTxt (prog := X.prog) (w := X.w) (A := X.A.in1.in1) (I.ok.hd hc) i2 y ty
    refine next_enum_item (i := i) S D1 D2 he hz h1 h2 g1 g2 hef fun x1 x2 h' tk p1 p2 ho hz' n1 n2 hT1 hT2 hsz hk => ?_
    obtain ⟨c, u1, e1, rfl⟩ := p1
    obtain ⟨d, u2, e2, rfl⟩ := p2
    refine ⟨_, rfl, wpAny_letOwnedTupleGo_enum (s := { s with heap := h', toks := tk + 1 }) ho fun h'' he' sb => ?_⟩
    replace sb : Heap.SameBut e h' h'' := sb
    have hne1 : s.heap.objs.size ≠ e := Nat.ne_of_gt hel
    have hne2 : s.heap.objs.size + 1 ≠ e := Nat.ne_of_gt (Nat.lt_succ_of_lt hel)
    have hT1' : IsTupOf2 h'' s.heap.objs.size (.str ⟨#[c]⟩ u1) (.str ⟨#[d]⟩ u2) := (sb.2 _ hne1).trans hT1
    have hT2' : h''.get? (s.heap.objs.size + 1) = some { cls := .type "tuple", data := .seq #[.int i tk, .ref s.heap.objs.size] } := (sb.2 _ hne2).trans hT2
    have hTU : s.heap.objs.size ≠ s.heap.objs.size + 1 := Nat.ne_of_lt (Nat.lt_succ_self _)
    have new1 : ObjOk X.prog X.w (upd (upd H s.heap.objs.size (.tup [.str ⟨#[c]⟩, .str ⟨#[d]⟩])) (s.heap.objs.size + 1) (.tup [.int (i : Nat), .ref s.heap.objs.size])) h'' s.heap.objs.size (.tup [.str ⟨#[c]⟩, .str ⟨#[d]⟩]) :=
      ⟨by show 2 ≤ sizeLine; decide, [.str ⟨#[c]⟩ u1, .str ⟨#[d]⟩ u2], .cons ⟨_, rfl⟩ (.cons ⟨_, rfl⟩ .nil), ⟨_, hT1', rfl, _, rfl⟩⟩
    have new2 : ObjOk X.prog X.w (upd (upd H s.heap.objs.size (.tup [.str ⟨#[c]⟩, .str ⟨#[d]⟩])) (s.heap.objs.size + 1) (.tup [.int (i : Nat), .ref s.heap.objs.size])) h'' (s.heap.objs.size + 1) (.tup [.int (i : Nat), .ref s.heap.objs.size]) :=
      ⟨by show 2 ≤ sizeLine; decide, [.int i tk, .ref s.heap.objs.size], .cons ⟨_, rfl⟩ (.cons rfl .nil), ⟨_, hT2', rfl, _, rfl⟩⟩
    have I1 : Inv X pins σ _ { s with heap := h'', toks := tk + 1 } :=
      I.turnedNew2 (ch := [e, z, TI, TO, i1, i2]) (fun b ob hb q => (sb.2 b (fun z => hb (by simp [z]))).trans (hk b ob (fun z => hb (by simp [z])) (fun z => hb (by simp [z])) (fun z => hb (by simp [z])) (fun z => hb (by simp [z])) (fun z => hb (by simp [z])) q)) hf (Nat.le_refl _) (Nat.le_succ _) hTU new1 new2
    refine ⟨.ref (s.heap.objs.size + 1), _, I1, rfl, ⟨s.heap.objs.size, s.heap.objs.size + 1, c, d, rfl, I.hok.fresh (Nat.le_refl _), I.hok.fresh (Nat.le_succ _), hTU, e1, e2, rfl⟩, ⟨⟨.ref s.heap.objs.size, ?_⟩, hz'.keep fun b hb o q => (sb.2 b (fun z => hef (by rw [← z]; rcases hb with rfl | rfl | rfl <;> simp))).trans q, ?_, ?_, g1, g2⟩, fun b hb => ?_⟩
    · have e3 : ((i + 1 : Nat) : Int) = (i : Int) + 1 := by omega
      rw [e3]; exact he'
    · obtain ⟨o, ho, r⟩ := n1
      exact ⟨o, (sb.2 i1 (fun z => hef (by simp [z]))).trans ho, r⟩
    · obtain ⟨o, ho, r⟩ := n2
      exact ⟨o, (sb.2 i2 (fun z => hef (by simp [z]))).trans ho, r⟩
    · have hb' := hlt b hb
      rw [upd_ne (Nat.ne_of_lt (Nat.lt_succ_of_lt hb')), upd_ne (Nat.ne_of_lt hb')]
      exact (hf b hb).1
  done := by
    intro X hP hw hK hc i pins s σ H E I hf q hg
    subst hP hw hK
    obtain ⟨⟨old, he⟩, hz, h1, h2, hle⟩ := q
    obtain ⟨g1, g2⟩ := hg
    have D2 := drawsTxt (prog := X.prog) (w := X.w) (A := X.A.in1.in1) (I.ok.hd hc) i2 y ty
    have D1 := drawsTxt (prog := X.prog) (w := X.w) (A := X.A.in1.in1) (I.ok.hd hc) i1 x tx
    rw [Nat.le_antisymm g1 hle.1] at D1
    rw [Nat.le_antisymm g2 hle.2] at D2
    refine next_enum_end (n := i) (I.ok.hd hc) S D1 D2 he hz h1 h2 fun h' tk hk => ⟨rfl, ?_⟩
    exact I.turnedL (ch := [e, z, TI, TO, i1, i2]) (fun b ob hb q => hk b ob (fun z => hb (by simp [z])) (fun z => hb (by simp [z])) (fun z => hb (by simp [z])) (fun z => hb (by simp [z])) q) hf
  self := fun A i s Q E q h => let ⟨⟨_, he⟩, _⟩ := q; wpAny_pyIter_enum he h
end Zp
end F_Z6
section F_Z7
set_option maxRecDepth 100000
namespace Zp
open PySem PySem.Spec PyProof.Rows L2
theorem callWith_typeKw {M : Model} {A : Around} {E : Value → Shared → Prop} {s : Shared} {pos : Pos} {T : String} {first : List Value} {args : List (Bool × Sem Value)} {keywords : List (Option Str × Sem Value)} {Q : Value → Shared → Prop}
    (hplain : args.any (·.1) = false) (hkw : keywords.any (·.1.isNone) = false)
    (h : wpAny M A (evalArgs (.type T) true args keywords) (fun a s₁ => wpAny M A (call (.type T) (first ++ a.pos) a.kw) Q E s₁) E s) :
    wpAny M A (callWith pos (.type T) first args keywords) Q E s := by
  unfold callWith
  refine wpAny_bind (wpAny_holding (wpAny_mono h (fun a s₁ h₁ => wpAny_bind (wpAny_standAt ?_)) fun _ _ x => x))
  simp only [hplain, hkw, Bool.or_false]
  refine wpAny_bind (wpAny_pure ?_)
  exact wpAny_bind (wpAny_mono h₁ (fun r s₂ hr => wpAny_bind (wpAny_holding (wpAny_point (wpAny_pure hr)))) fun _ _ x => x)
def zkws (st : Option (Nat × Pos × Pos)) : List Keyword := match st with
  | none => []
  | some (k, cp, kp) => [⟨some "strict", .Constant (.bool true) k cp, kp⟩]
section
variable {X : Cx} {a b : Expr} {ta : TA} {p p2 pos pos2 tpos : Pos} {elts : List Expr} {kk : Nat} {st : Option (Nat × Pos × Pos)}
theorem zip_eval {pins : List (Addr × PySem.Obj)} {s : Shared} {σ : L2.St} {H : Hp} {Q : Value → Shared → Prop} {R : List V → Hp → Prop} (hg : Gl X "zip") (hm : X.mg "zip" = none) (ha : PA X [a, b] ta) (hsa : starEach [a, b] X.env = (false, eval a X.env) :: starEach [b] X.env) (hsb : (backTo pos2 (starEach [b] X.env)).any (·.1) = false)
    (I : Inv X pins σ H s) (h : ta σ H R) (q : ∀ us s1 vs H1, Inv X pins σ H1 s1 → Vals vs us → R vs H1 → wpAny (model X.prog X.w) X.A (call (.type "zip") us (zkw st.isSome)) Q X.xe s1) :
    wpAny (model X.prog X.w) X.A (eval (.Call (.Name "zip" p2) [a, b] (zkws st) pos2) X.env) Q X.xe s := by
  refine wpAny_Call_Name_kw (ld_blt I hg hm PyProof.Rows.boot_zip ?_)
  cases st with
  | none =>
    refine PyProof.Rows.callWith_type1 (thn (ha.run pos2 pins s σ H _ I h) fun us s1 ⟨vs, H1, I1, r1, q1⟩ => ?_) hsa hsb
    exact q us s1 vs H1 I1 r1 q1
  | some t =>
    obtain ⟨k, cp, kp⟩ := t
    have hpl : (backTo pos2 (starEach [a, b] X.env)).any (·.1) = false := by
      rw [hsa]
      show (false || (backTo pos2 (starEach [b] X.env)).any (·.1)) = false
      rw [hsb]; rfl
    refine callWith_typeKw hpl rfl ?_
    have ha2 := ha.run pos2 pins s σ H _ I h
    rw [hsa] at ha2 ⊢
    refine PyProof.Rows.evalArgs_kwB rfl (thn ha2 fun us s1 ⟨vs, H1, I1, r1, q1⟩ => ?_)
    have hk : PK X [⟨some "strict", .Constant (.bool true) k cp, kp⟩] (tCons (tC (.bl true)) tNil) := pk_cons pe_bl pk_nil
    refine thn (hk.run pos2 pins s1 σ H1 (fun zs H2 => zs = [.bl true] ∧ H2 = H1) I1 ⟨rfl, rfl⟩) fun ws s2 ⟨zs, H2, I2, r2, e1, e2⟩ => ?_
    subst e1 e2
    obtain ⟨w, rfl, rfl⟩ := vals1 r2
    exact q us s2 vs _ I2 r1 q1
def iEz (ta : TA) : TI := fun σ H R => ta σ H fun vs H1 => ∃ x y, vs = [.str x, .str y] ∧ R (Iez x y) H1
theorem pi_ez (hge : Gl X "enumerate") (hme : X.mg "enumerate" = none) (hg : Gl X "zip") (hm : X.mg "zip" = none) (ha : PA X [a, b] ta) (hsa : starEach [a, b] X.env = (false, eval a X.env) :: starEach [b] X.env) (hsb : (backTo pos2 (starEach [b] X.env)).any (·.1) = false) :
    PI X (.Tuple elts kk tpos) (.Call (.Name "enumerate" p) [.Call (.Name "zip" p2) [a, b] (zkws st) pos2] [] pos) (iEz ta) := by
  refine ⟨fun pins s σ H R I h => ?_⟩
  refine Call_ (ld_blt I hge hme boot_enumerate (PyProof.Rows.callWith_type1 (Calls.spliced_cons ?_) rfl rfl))
  refine zip_eval hg hm ha hsa hsb I h fun us s1 vs H1 I1 r1 q1 => ?_
  obtain ⟨x, y, rfl, q⟩ := q1
  obtain ⟨u1, u2, rfl, ⟨tx, rfl⟩, ⟨ty, rfl⟩⟩ := vals2 r1
  refine call_zip (begins_text x tx) (begins_text y ty) trivial trivial fun h1 hz hTI hTO g1 g2 hsz hk => ?_
  refine Calls.spliced_nil ?_
  refine call_enum (s := { s1 with heap := h1 }) hz fun h2 he hsz2 hk2 => wpAny_pyIter_enum he ?_
  replace he : IsEnum h2 h1.objs.size (s1.heap.objs.size + 4) 0 .none := he
  replace hk2 : ∀ c o, h1.get? c = some o → h2.get? c = some o := hk2
  rw [hsz] at he
  have I2 : Inv X pins σ H1 { s1 with heap := h2 } := I1.kept (t' := s1.toks) fun b o e => hk2 b o (hk b o e)
  have S : ZipSep2 (s1.heap.objs.size + 4) (s1.heap.objs.size + 2) (s1.heap.objs.size + 3) s1.heap.objs.size (s1.heap.objs.size + 1) [s1.heap.objs.size] [s1.heap.objs.size + 1] := by
    constructor <;> simp
  have hef : s1.heap.objs.size + 5 ∉ (s1.heap.objs.size + 4) :: (s1.heap.objs.size + 2) :: (s1.heap.objs.size + 3) :: ([s1.heap.objs.size] ++ [s1.heap.objs.size + 1]) := by simp
  refine ⟨s1.heap.objs.size + 5, [s1.heap.objs.size + 5, s1.heap.objs.size + 4, s1.heap.objs.size + 2, s1.heap.objs.size + 3, s1.heap.objs.size, s1.heap.objs.size + 1], _, _, H1, by rw [← hsz], I2,
    turn_ez (x := x) (y := y) (tx := tx) (ty := ty) (st := st.isSome) _ _ _ _ _ _ S hef, ⟨⟨.none, he⟩, ⟨.none, false, .none, .none, .inl rfl, hk2 _ _ hz, hk2 _ _ hTI, hk2 _ _ hTO⟩, ⟨_, hk2 _ _ g1, rfl, rfl⟩, ⟨_, hk2 _ _ g2, rfl, rfl⟩, Nat.zero_le _, Nat.zero_le _⟩, fun c hc => ?_, q⟩
  have hle : s1.heap.objs.size ≤ c := by
    simp only [List.mem_cons, List.not_mem_nil, or_false] at hc
    rcases hc with rfl | rfl | rfl | rfl | rfl | rfl <;> first | exact Nat.le_refl _ | exact Nat.le_add_right _ _
  exact I1.fpOk hle (I1.hok.fresh hle)
end
end Zp
end F_Z7
section F_Z8
set_option maxRecDepth 100000
namespace M
open PySem PySem.Spec PyProof.Rows L2
theorem enumV_get : ∀ (vs : List Val) (k : Int) (i : Nat), (enumV k vs)[i]? = (vs[i]?).map fun v => .tup [.int (k + (i : Int)), v]
  | [], k, i => by simp [enumV]
  | v :: vs, k, 0 => by simp [enumV]
  | v :: vs, k, i + 1 => by
    rw [enumV, List.getElem?_cons_succ, List.getElem?_cons_succ, enumV_get vs (k + 1) i]
    rw [show k + 1 + (i : Int) = k + ((i + 1 : Nat) : Int) by omega]
theorem zipV_get : ∀ (vs ws : List Val) (i : Nat), (zipV vs ws)[i]? = (vs[i]?).bind fun v => (ws[i]?).map fun w => .tup [v, w]
  | [], ws, i => by cases ws <;> simp [zipV]
  | v :: vs, [], i => by
    simp [zipV]
  | v :: vs, w :: ws, 0 => by simp [zipV]
  | v :: vs, w :: ws, i + 1 => by
    rw [zipV, List.getElem?_cons_succ, List.getElem?_cons_succ, List.getElem?_cons_succ, zipV_get vs ws i]
theorem enumV_len : ∀ (vs : List Val) (k : Int), (enumV k vs).length = vs.length
  | [], _ => rfl
  | v :: vs, k => by rw [enumV, List.length_cons, List.length_cons, enumV_len vs]
theorem zipV_len : ∀ (vs ws : List Val), vs.length = ws.length → (zipV vs ws).length = vs.length
  | [], [], _ => rfl
  | v :: vs, w :: ws, h => by
    rw [zipV, List.length_cons, List.length_cons, zipV_len vs ws (by simpa using h)]
theorem feedsEz {K : PySem.W.Frag} {H1 : Hp} {r1 : RI} {t u : Tx} (hl : t.length = u.length) (ht : t.all (· < 1114112) = true) (hu : u.all (· < 1114112) = true) :
    Feeds K H1 r1 (Zp.Iez ⟨t.toArray⟩ ⟨u.toArray⟩) ⟨enumV 0 (zipV (t.map fun c => .str [c]) (u.map fun c => .str [c])), []⟩ := by
  intro i H r mu hr g so
  have len : (enumV 0 (zipV (t.map fun c => Val.str [c]) (u.map fun c => Val.str [c]))).length = t.length := by rw [enumV_len, zipV_len _ _ (by simp [hl]), List.length_map]
  refine ⟨fun v ev => ?_, fun h => ?_⟩
  · have hi : i < t.length := by
      have := (List.getElem?_eq_some_iff.mp ev).1
      rw [len] at this; exact this
    refine ⟨⟨by show i < t.toArray.size; simpa using hi, by show i < u.toArray.size; simp; omega⟩, fun x H' hy => ?_⟩
    obtain ⟨T, U, c, d, rfl, hT, hU, hTU, e1, e2, rfl⟩ := hy
    have e1 : t[i]? = some c := by simpa using e1
    have e2 : u[i]? = some d := by simpa using e2
    have ev2 : v = .tup [.int ((0 : Int) + (i : Int)), .tup [.str [c], .str [d]]] := by
      have : (enumV 0 (zipV (t.map fun c => Val.str [c]) (u.map fun c => Val.str [c])))[i]? = some v := ev
      rw [enumV_get, zipV_get, List.getElem?_map, List.getElem?_map, e1, e2] at this
      exact (Option.some.inj this).symm
    subst ev2
    have hc := (List.all_eq_true.mp ht) _ (List.mem_of_getElem? e1)
    have hd := (List.all_eq_true.mp hu) _ (List.mem_of_getElem? e2)
    have hU' : upd H T (.tup [.str ⟨#[c]⟩, .str ⟨#[d]⟩]) U = none := by rw [upd_ne (Ne.symm hTU)]; exact hU
    have hr1 : HR K (upd H T (.tup [.str ⟨#[c]⟩, .str ⟨#[d]⟩])) r mu := hr.new hT
    refine ⟨r, (Step.new hT hr.is).trans (Step.new hU' hr1.is), hr1.new hU', U, [.int (i : Nat), .ref T], rfl, SqT.of upd_same, ?_⟩
    refine VRs.cons ?_ (VRs.cons ⟨T, [.str ⟨#[c]⟩, .str ⟨#[d]⟩], rfl, SqT.of (by rw [upd_ne hTU]; exact upd_same), VRs.cons ⟨rfl, by simpa using hc⟩ (VRs.cons ⟨rfl, by simpa using hd⟩ VRs.nil)⟩ VRs.nil)
    show V.int (i : Int) = V.int (0 + (i : Int))
    rw [Int.zero_add]
  · rw [len] at h
    exact ⟨by show t.toArray.size ≤ i; simpa using h, by show u.toArray.size ≤ i; simp; omega⟩
theorem sEz {X : Cx} {W : WX} {a b : Expr} {p p2 pos pos2 tpos : Pos} {elts : List Expr} {kk : Nat} {st : Option (Nat × Pos × Pos)} {k : MS → Out (List Val)} (hge : Gl X "enumerate") (hme : X.mg "enumerate" = none) (hg : Gl X "zip") (hm : X.mg "zip" = none) (ha : PA X [a, b] (tA X.K W k)) (hsa : nstar a = true) (hsb : nstar b = true) :
    PI X (.Tuple elts kk tpos) (.Call (.Name "enumerate" p) [.Call (.Name "zip" p2) [a, b] (Zp.zkws st) pos2] [] pos) (tI X.K W fun s => (k s).bind fun vs s => lift (ezSrc vs) s) := by
  refine PI.imp (Zp.pi_ez hge hme hg hm ha (star_cons hsa _ _) (star_any (by rw [List.all_cons, hsb]; rfl))) fun σ H R ⟨r, s, at_, q⟩ => ?_
  refine ⟨r, s, at_, (OP.bind q).imp fun vs s1 H1 r1 _ st1 a1 q1 xs vxs => ?_⟩
  obtain ⟨src, e, q3⟩ := q1.lift a1
  match vs, e with
  | [.str t, .str u], e =>
    simp only [ezSrc] at e
    split at e
    · rename_i hl
      cases e
      obtain ⟨x, ys, rfl, v1, y, zs, rfl, v2, v3⟩ := vxs
      obtain ⟨rfl, ht⟩ := v1
      obtain ⟨rfl, hu⟩ := v2
      cases (show zs = [] from v3)
      exact ⟨_, _, rfl, q3 H1 r1 .refl a1 _ (feedsEz hl.1 ht hu)⟩
    · cases e
end M
end F_Z8
section F_G1
set_option maxRecDepth 100000
namespace M
open PySem PySem.Spec PyProof.Rows L2
structure RmG (k : Nat) (A : Around) : Prop where
  rm : Room k A
  gd : A.guards = some []
theorem RmG.deeper {k : Nat} {A : Around} (h : RmG (k + 1) A) (e : Env) : RmG k (A.deeper e) := ⟨h.rm.deeper e, h.gd⟩
theorem RmG.mono {j k : Nat} {A : Around} (h : RmG k A) (l : j ≤ k) : RmG j A := ⟨h.rm.mono l, h.gd⟩
structure FnG (prog : Program) (w : World) (K : PySem.W.Frag) (mg : Str → Option Value) (base : Heap) (CX : CXT) (k : Nat) (fa : Addr) (fd : FuncData) (ps : List Str) (sp : Sp) : Prop where
  len : ∀ xs H Q E, sp xs H Q E → xs.length = ps.length
  go : ∀ (A : Around) (o : List Env) (s : Shared) (H : Hp) (ar : Args) (us : List Value) (xs : List V) (Q : VK) (E : XK),
    RmG k A → Env0 prog w K mg base A o s H → BindsTo s fd ar (ps.zip us) → Vals xs us → sp xs H Q E →
    codeAny (model prog w) A (.call (.ref fa) ar) (CR CX o prog w H s Q E) s
section
variable {X : Cx} {CX : CXT} {k n : Nat} {fa : Addr} {fd : FuncData} {ps : List Str} {sp : Sp} {E : L2.St → XK} {x nm : Str} {p kp pos : Pos} {a e : Expr} {es : List Expr} {t tk : TA} {gb : List Value → List Value → List Value}
theorem runG {pins : List (Addr × PySem.Obj)} {σ : L2.St} {H : Hp} {s : Shared} {Q : VK} {u0 us : List Value} {kw : List (Str × Value)} {xs : List V} (F : FnG X.prog X.w X.K X.mg X.base CX k fa fd ps sp) (hr : RmG k X.A)
    (hx : PassesAt CX X σ (E σ)) (I : Inv X pins σ H s) (b : us.length = ps.length → BindsTo s fd ⟨u0, kw⟩ (ps.zip us)) (r : Vals xs us) (h : sp xs H Q (E σ)) :
    wpAny (model X.prog X.w) X.A (PySem.call (.ref fa) u0 kw) (EP X pins σ Q) X.xe s := by
  have hl : us.length = ps.length := r.length.symm.trans (F.len _ _ _ _ h)
  have c := F.go X.A X.stack s H ⟨u0, kw⟩ us xs Q (E σ) hr I.env0 (b hl) r h
  refine wpAny_call (codeAny_mono c fun z s' hz => ?_)
  match z, hz with
  | .error d, hz => exact hx pins H s d s' I hz
  | .ok (.ret u), hz => exact I.after hz
  | .ok .next, hz => exact False.elim hz
  | .ok .brk, hz => exact False.elim hz
  | .ok .cont, hz => exact False.elim hz
variable (F : FnG X.prog X.w X.K X.mg X.base CX k fa fd ps sp) (hr : RmG k X.A) (hg : Gl X x) (hm : X.mg x = some (.ref fa)) (hk : PySem.W.keepIn X.K (.ref fa) = true) (hx : ∀ σ, PassesAt CX X σ (E σ)) (hdb : (x == ("__debug__" : Str)) = false)
include F hr hg hm hk hx hdb
theorem peG {dvs : List V} {ds : List Value} (hb : Binds X.K fd ps ds) (hd : Vals dvs ds) (ha : PA X (e :: es) t) (he : starEach (e :: es) X.env = (false, eval e X.env) :: starEach es X.env) (hpl : (backTo pos (starEach es X.env)).any (·.1) = false) :
    PE X (.Call (.Name x p) (e :: es) [] pos) (tCallSD sp dvs E t) := ⟨fun pins s σ H Q I h =>
  wpAny_Call_Name_kw (ld_glob I hg hm (PySem.W.callWith_K (h₀ := X.base) I.ok.mod.kin hk (thn (ha.run pos pins s σ H _ I h) fun us s1 ⟨xs, H1, I1, r, q⟩ =>
    ⟨I1.kIn, runG F hr (hx σ) I1 (us := us ++ ds) (fun hl => hb s1 us I1.kIn hl) (r.append hd) q⟩) he hpl) hdb)⟩
theorem peG0 (hb : Binds X.K fd ps []) (ha : PA X (e :: es) t) (he : starEach (e :: es) X.env = (false, eval e X.env) :: starEach es X.env) (hpl : (backTo pos (starEach es X.env)).any (·.1) = false) :
    PE X (.Call (.Name x p) (e :: es) [] pos) (tCallS sp E t) := PE.imp (peG (dvs := []) (ds := []) F hr hg hm hk hx hdb hb .nil ha he hpl) fun σ H Q q => by
  unfold tCallSD
  unfold tCallS at q
  simpa only [List.append_nil] using q
theorem peGK (hb : KBn X.K fd ps n [nm] gb (fun vs zs => vs ++ zs)) (ha : PA X (e :: es) t) (hkw : PK X [⟨some nm, a, kp⟩] tk) (he : starEach (e :: es) X.env = (false, eval e X.env) :: starEach es X.env)
    (hpl : (backTo pos (starEach (e :: es) X.env)).any (·.1) = false) : PE X (.Call (.Name x p) (e :: es) [⟨some nm, a, kp⟩] pos) (tCallKS n 1 sp E t tk) := ⟨fun pins s σ H Q I h =>
  wpAny_Call_Name_kw (ld_glob I hg hm (PySem.W.callWith_KW (h₀ := X.base) I.ok.mod.kin hk rfl (thn (ha.run pos pins s σ H _ I h) fun us s1 ⟨xs, H1, I1, r, q⟩ =>
    thn (hkw.run pos pins s1 σ H1 _ I1 q) fun ws s2 ⟨zs, H2, I2, rz, l1, l2, q2⟩ => ⟨I2.kIn,
      runG F hr (hx σ) I2 (us := gb us ws) (fun _ => hb.to s2 us ws I2.kIn (r.length.symm.trans l1) (rz.length.symm.trans l2)) (hb.rel r rz) q2⟩) (by rw [hpl]; rfl) he) hdb)⟩
end
end M
end F_G1
section F_G2
set_option maxRecDepth 100000
namespace M
open PySem PySem.Spec PyProof.Rows L2
theorem FnG.of {prog : Program} {w : World} {K : PySem.W.Frag} {mg : Str → Option Value} {base : Heap} {CX : CXT} {k : Nat} {fa : Addr} {fd : FuncData} {ps : List Str} {sp : Sp} (F : FnOk prog w K mg base CX k fa fd ps sp) : FnG prog w K mg base CX k fa fd ps sp :=
  ⟨F.len, fun A o s H ar us xs Q E hr => F.run A o s H ar us xs Q E hr.rm⟩
section
variable {CX : CXT} {prog : Program} {w : World} {K : PySem.W.Frag} {mg : Str → Option Value} {base : Heap} {k : Nat} {fa : Addr} {fd : FuncData} {qual nm : Str} {params : Arguments} {body : List Stmt} {scope : Scope} {cdv : Value} {N ps : List Str} {sp : Sp}
theorem endG {A : Around} {o : List Env} {s s' : Shared} {H : Hp} {Q : VK} {E : XK} : ∀ (fl : Flow), SP (cxOf CX prog w K mg base N qual scope fa cdv A o s H E) [] { nx := fun _ H' => Q .non H', rt := Q } fl s' →
    CR CX o prog w H s Q E (.ok (.ret (match fl with | .ret v => v | _ => .none))) s'
  | .next, ⟨_, H', J, q⟩ => ⟨.non, H', J.os, J.bare, J.base, J.hok, rfl, q⟩
  | .ret u, ⟨v, _, H', J, rv, q⟩ => ⟨v, H', J.os, J.bare, J.base, J.hok, rv, q⟩
  | .brk, ⟨_, _, _, q⟩ => False.elim q
  | .cont, ⟨_, _, _, q⟩ => False.elim q
theorem okG {dvs : List V} {kws : List (Str × V)} (D : FunD K nm qual params body scope dvs kws fa fd) (S : FnScope N ps scope) (len : ∀ xs H Q E, sp xs H Q E → xs.length = ps.length)
    (B : ∀ (cdv : Value) (A : Around) (o : List Env) (s : Shared) (H : Hp) (xs : List V) (Q : VK) (E : XK), RmG k (A.deeper (envOfC qual scope s.heap.objs.size fa cdv)) → sp xs H Q E →
      ∃ t, PSs (cxOf CX prog w K mg base N qual scope fa cdv A o s H E) body t ∧ t { nx := fun _ H' => Q .non H', rt := Q } (start N xs) H) : FnG prog w K mg base CX (k + 1) fa fd ps sp := by
  obtain ⟨_, _, _, _, _, _, _, cdv, _, _, e, lk, hcd, _, _⟩ := D.ex
  subst e
  refine ⟨len, fun A o s H ar us xs Q E hr e0 hb r hsp => ?_⟩
  have old : ∀ b ob, base.get? b = some ob → s.heap.get? b = some ob := fun b ob e => (e0.bs b ob e).1
  have inS : K.In s.heap := e0.mod.kin.keeps old
  refine codeAny_call_function hr.rm.depth (inS _ _ lk) rfl S.co S.gen rfl (PySem.W.codeRec_of inS hcd) (hb _ _ _ _ ?_)
  refine wpAny_newFunctionEnv_cells S.kind (fun y hy => (S.par y.1 (List.of_mem_zip hy).1).imp id fun c => ⟨c, PySem.W.cellsFrom_some _ _ _ (.inl c)⟩) fun env he s1 x => ?_
  subst he
  obtain ⟨t, ht, hq⟩ := B cdv A o s H xs Q E (hr.deeper _) hsp
  have J := inv_start (CX := CX) (E := E) (qual := qual) (f := fa) (cd := cdv) S hr.rm.hd e0 (len _ _ _ _ hsp) r x
  exact ⟨(e0.mod.nolimit.keeps old).keeps x.toInCall.keep, codeAny_func (wpAny_mono (ht.run [] s1 _ H _ J hq) (fun fl s' z => endG fl z) fun d s' z => z)⟩
end
theorem lawG {prog : Program} {w : World} {K : PySem.W.Frag} {mg mb : Str → Option Value} {CX : CXT} {k : Nat} {fa a : Addr} {fd : FuncData} {x : Str} {sp : Sp} {s1 : Shared} {vs : List Value} {ns : List Int}
    (inS : K.In s1.heap) (hns : s1.heap.Ns mainGlobals mg) (hb : s1.heap.Ns builtinsNs mb) (hbb : ∀ x : Str, x ≠ "__name__" → mb x = bootBuiltins x) (hlim : s1.heap.NoLimit) (hg : s1.gens = #[])
    {O : PySem.Obj} (hO : O = { cls := .type "list", data := .seq vs.toArray }) (ha : s1.heap.get? a = some O) (hi : IntsAre vs ns) (hl : ns.length ≤ sizeLine) (hr : Room k callerA)
    (F : ∀ base : Heap, K.In base → base.Ns mainGlobals mg → FnG prog w K mg base CX k fa fd [x] sp) (hbind : ∀ (s : Shared) (u : Value), BindsTo s fd ⟨[u], []⟩ [(x, u)])
    (hsp : ∀ H : Hp, Only H → SqL K H a (ns.map V.int) → sp [.ref a] H (fun v _ => v = .bl true) fun _ _ _ => False)
    (hCX : ∀ H d s', CX [] H s1 (fun _ _ _ => False) d s' → False) :
    codeAny (model prog w) callerA (.call (.ref fa) ⟨[.ref a], []⟩)
      (fun z s' => z = .ok (.ret (.bool true)) ∧ OldK s1.heap s'.heap ∧ s'.os = s1.os ∧ AllBare s'.gens) s1 := by
  have rv : Vals (ns.map V.int) vs := vals_ints hi
  have hsz : (ns.map V.int).length ≤ sizeLine := by rw [List.length_map]; exact hl
  obtain ⟨H, hA, hK, hS⟩ : ∃ H : Hp, (∀ b u, H b = some u → b = a ∧ u = .frz O (.lst (ns.map V.int))) ∧ (H a ≠ none → K.lookup a = none) ∧ SqL K H a (ns.map V.int) := by
    cases hk : K.lookup a with
    | none =>
      refine ⟨upd (fun _ => none) a (.frz O (.lst (ns.map V.int))), fun b u z => ?_, fun _ => rfl, .inl (.inr ⟨O, ?_⟩)⟩
      · by_cases e : b = a
        · subst e
          rw [show upd (fun _ => none) b (HO.frz O (.lst (ns.map V.int))) b = _ from if_pos rfl] at z
          exact ⟨rfl, (Option.some.inj z).symm⟩
        · rw [show upd (fun _ => none) a (HO.frz O (.lst (ns.map V.int))) b = none from if_neg e] at z
          cases z
      · exact if_pos rfl
    | some o =>
      have e := inS a o hk
      rw [ha] at e
      obtain rfl := Option.some.inj e
      refine ⟨fun _ => none, fun _ _ z => (by cases z), fun z => absurd rfl z, .inr ⟨O, vs.toArray, _, hk, by rw [hO], by rw [hO], by rw [hO], ?_, by simpa using rv⟩⟩
      rw [List.size_toArray, hi.length]
      exact hl
  have only : Only H := fun b => by
    cases z : H b with
    | none => exact .inl rfl
    | some u => exact .inr ⟨O, _, by rw [(hA b u z).2]⟩
  have hok : HOk prog w H s1.heap := fun b u z => by
    obtain ⟨rfl, rfl⟩ := hA b u z
    exact ⟨ha, hsz, vs, _, rv, by rw [ha, hO]⟩
  have plain : ∀ {b : Addr} {ob : PySem.Obj} {es : Array DictEntry} {ep : Nat}, s1.heap.get? b = some ob → ob.data = .dict es ep → H b = none := fun {b ob es ep} e d => by
    cases z : H b with
    | none => rfl
    | some u =>
      obtain ⟨rfl, -⟩ := hA b u z
      rw [ha] at e
      obtain rfl := Option.some.inj e
      subst hO
      cases d
  have under : ∀ {b : Addr} {m : Str → Option Value}, s1.heap.Ns b m → (hidT s1.heap H).Ns b m := fun {b m} z => by
    obtain ⟨ob, es, ep, e, d, q⟩ := z
    exact ⟨ob, es, ep, hidT_get e (plain e d), d, q⟩
  have inB : K.In (hidT s1.heap H) := fun b ob e => hidT_get (inS b ob e) (by
    cases z : H b with
    | none => rfl
    | some u =>
      obtain ⟨rfl, -⟩ := hA b u z
      rw [hK (by rw [z]; nofun)] at e
      cases e)
  have md : Mod K mg (hidT s1.heap H) := ⟨inB, under hns, ⟨mb, under hb, hbb⟩, by
    obtain ⟨mc, l1, l2⟩ := hlim
    exact ⟨mc, under l1, l2⟩⟩
  have e0 : Env0 prog w K mg (hidT s1.heap H) callerA [] s1 H := {
    frames := rfl
    mod := md
    bs := fun b ob e => of_hidT e
    bsz := Nat.le_of_eq (hidT_size _ _)
    funs := trivial
    frf := fun b z => nomatch z
    hok := hok
    bare := .of_eq hg }
  have c := (F _ inB (under hns)).go callerA [] s1 H ⟨[.ref a], []⟩ [.ref a] [.ref a] _ _ ⟨hr, rfl⟩ e0 (hbind s1 (.ref a)) (.cons rfl .nil) (hsp H only hS)
  refine codeAny_mono c fun z s' h => ?_
  match z, h with
  | .error d, h => exact (hCX H d s' h).elim
  | .ok .next, h => exact False.elim h
  | .ok .brk, h => exact False.elim h
  | .ok .cont, h => exact False.elim h
  | .ok (.ret u), ⟨v, H', h1, h2, un, hok', r', q⟩ =>
    obtain rfl : v = V.bl true := q
    obtain rfl : u = Value.bool true := r'
    refine ⟨rfl, OldK.of_keep fun b ob e => ?_, h1, h2⟩
    cases z : H b with
    | none => exact un.keep b ob e z (fun y => nomatch y) (fun y => nomatch y)
    | some u =>
      obtain ⟨rfl, rfl⟩ := hA b u z
      obtain ⟨e2, -⟩ := hok' b _ (un.frzs b O _ z)
      rw [ha] at e
      rw [e2, ← e]
theorem walkG {l : PySem.W.OpenLaw} {n k : Nat} {q : Program} {loose : List Str} {XP : (Str → Option Value) → Heap → Prop} {YP : World → Heap → Prop} {d : DefRec} {KW : Params → PySem.W.Frag} {CXw : World → CXT} {sp : World → Sp} {x : Str}
    (hn : l.most = some n) (hn2 : n ≤ sizeLine) (hdf : d.params.defaults = []) (hr : Room k callerA)
    (hY : ∀ (w : World) (h : Heap), YP w h → (KW w.params).In h)
    (F : ∀ (w : World) (mg : Str → Option Value) (fa : Addr) (h : Heap), (KW w.params).In h → h.Ns mainGlobals mg → mg d.name = some (.ref fa) → ∃ fd : FuncData,
      (∀ (s : Shared) (u : Value), BindsTo s fd ⟨[u], []⟩ [(x, u)]) ∧ ∀ base : Heap, (KW w.params).In base → base.Ns mainGlobals mg → FnG l.prog w (KW w.params) mg base (CXw w) k fa fd [x] (sp w))
    (hsp : ∀ (w : World) (H : Hp) (a : Addr) (ns : List Int), ns.length ≤ n → Only H → SqL (KW w.params) H a (ns.map V.int) → sp w [.ref a] H (fun v _ => v = .bl true) fun _ _ _ => False)
    (hCX : ∀ (w : World) (H : Hp) (s : Shared) (d : Value) (s' : Shared), CXw w [] H s (fun _ _ _ => False) d s' → False) :
    PySem.W.WalkO q loose XP YP l.row.toRowW d [] (fun f vs => PySem.call f vs) :=
  Att.attach_call hn hdf fun w _ s1 mg _ fa _ _ _ _ a _ ns G Y _ _ _ hmg hobj hints hlen hg =>
    let ⟨_, hb, hF⟩ := F w mg fa _ (hY w _ Y) G.T.g hmg
    lawG (hY w _ Y) G.T.g G.T.b G.T.builtins G.T.nolimit hg rfl hobj hints (Nat.le_trans hlen hn2) hr hF hb (fun H o z => hsp w H a ns hlen o z) fun H d s' => hCX w H s1 d s'
end M
end F_G2
section F_M3l
set_option maxRecDepth 100000
namespace M
open PySem PySem.Spec PyProof.Rows L2
theorem lookup_zip : ∀ {ns : List Str} {fs : List Val} {n : Str} {v : Val}, (ns.zip fs).lookup n = some v → ∃ i : Nat, ns[i]? = some n ∧ fs[i]? = some v
  | [], _, n, v, h => by simp at h
  | _ :: _, [], n, v, h => by simp at h
  | m :: ns, f :: fs, n, v, h => by
    rw [List.zip_cons_cons, List.lookup_cons] at h
    cases e : n == m with
    | true =>
      rw [e] at h
      exact ⟨0, by rw [eq_of_beq e]; rfl, h⟩
    | false =>
      rw [e] at h
      obtain ⟨i, h1, h2⟩ := lookup_zip h
      exact ⟨i + 1, h1, h2⟩
section
variable {X : Cx} {W : WX} {f : MS → Out Val} {o : Expr} {pos : Pos}
theorem sFld {n : Str} (ho : PE X o (tE X.K W f)) (hb : attributeBase o n X.env (eval o X.env) = eval o X.env) : PE X (.Attribute o n pos) (tE X.K W fun s => (f s).bind fun x s => lift (fldV x n) s) := by
  refine ⟨fun pins s σ H Q I h => ?_⟩
  obtain ⟨r, ms, at_, q⟩ := h
  have run := ho.run pins s σ H (fun x H1 => ∃ v s1 r1, At X.K σ s1.sl H1 r1 s1.mu ∧ VL X.K H1 r1 σ s1.sl v x ∧ OP X.K W σ s1.sl H1 r1 (lift (fldV v n) s1) (fun w s2 H2 r2 => ∀ y, VL X.K H2 r2 σ s2.sl w y → Q y H2)) I
    ⟨r, ms, at_, (OP.bind q).imp fun v s1 H1 r1 _ st1 a1 q1 x vx => ⟨v, s1, r1, a1, vx, q1⟩⟩
  refine attr_of hb (thn run fun u s1 z => ?_)
  obtain ⟨x, H1, I1, rx, v, s2, r1, a1, vx, q1⟩ := z
  obtain ⟨w, e, q2⟩ := OP.lift q1 a1
  cases v with
  | exc c ns fs =>
    have vr : VR X.K H1 r1 (.exc c ns fs) x := by
      rcases vx with vx | ⟨_, e, _⟩
      · exact vx
      · cases e
    obtain ⟨a, d, rfl, ⟨_, ha⟩, ek, xd⟩ := vr
    have e : (ns.zip fs).lookup n = some w := e
    obtain ⟨i, e1, e2⟩ := lookup_zip e
    rcases xd with ⟨rfl, _, _⟩ | ⟨dd, fl, xs, rfl, ⟨_, hd⟩, vrs, hl, fc1, fc2⟩
    · simp at e1
    · obtain ⟨y, e3, vy⟩ := vrs.get e2
      have lk : fl.lookup n = some y := by
        have := congrArg (fun l => l[i]?) hl
        simp only [List.getElem?_map, e1, e3, Option.map_some] at this
        exact Option.some.inj this
      obtain rfl : u = Value.ref a := rx
      obtain ⟨⟨oe, vs, ho', hz, hv⟩, _, _⟩ := I1.hok a _ ha
      have hx : ObjOk X.prog X.w H1 s1.heap dd (.xd fl) := I1.hok dd _ hd
      obtain ⟨mA, hns, hr⟩ := hx
      obtain ⟨od, hod, hlo⟩ := lookIn_ns hns
      obtain ⟨u, hu, ru⟩ := RelO.some_of (v := y) (o := mA n) (by rw [← lk]; exact hr n)
      have J : PySem.W.InstAt s1.heap a oe (clA X.K c) (some od) := ⟨ho', hz.1, by unfold PySem.W.notCls; rw [hv] <;> rfl, by rw [hz.2]; exact hod⟩
      exact HandSPX.exc_get I1.kIn J ek.ga ek.gg ek.sb (PySem.W.findObj_own fc1 (fc2 n (List.mem_of_getElem? e1)) rfl (by rw [hlo, hu])) (handed_of ru) ⟨y, H1, I1.tok _, ru, q2 H1 r1 .refl a1 y (.inl vy)⟩
  | _ => cases e
end
end M
end F_M3l
section F_M3m
set_option maxRecDepth 100000
namespace M
open PySem PySem.Spec PyProof.Rows L2
section
variable {X : Cx} {B : Str} {CB : Addr} {mc : Value} {e : Expr} {es : List Expr} {p1 p2 pos : Pos} {ta : TA}
theorem pe_basei (hg : Gl X B) (hm : X.mg B = some (.ref CB)) (hdb : (B == ("__debug__" : Str)) = false) (rc : ClX.CRead X.K CB mc) (hf : PySem.W.findCls X.K (.ref CB) mc "__init__" = some (.val (.builtin "ValueError.__init__"))) (ha : PA X (e :: es) ta)
    (he : starEach (e :: es) X.env = (false, eval e X.env) :: starEach es X.env) (hpl : (backTo pos (starEach es X.env)).any (·.1) = false)
    (hfo : methodCallForm ((e :: es).length + ([] : List Keyword).length) (backTo pos (starEach (e :: es) X.env)) (backToKw pos (keywordEach [] X.env)) = true) (hli : (p2.endLine == pos.line) = true) :
    PE X (.Call (.Attribute (.Name B p1) "__init__" p2) (e :: es) [] pos) (tVeI X.K ta) := by
  constructor
  intro pins s σ H Q I h
  have form : eval (.Call (.Attribute (.Name B p1) "__init__" p2) (e :: es) [] pos) X.env = (do
      let ov ← eval (.Name B p1) X.env
      standAt p2.atName
      let (f, first) ← holding [ov] (getMethod ov "__init__" (do return (← importBound (.Name B p1) X.env).getD true))
      callWith pos f first (backTo pos (starEach (e :: es) X.env)) (backToKw pos (keywordEach [] X.env))) := by
    rw [arm_eval_Call]
    unfold methodCall calleeOf methodCallPos
    rw [hfo, hli]
    simp only [Bool.not_true, Bool.false_or, if_true, pure_bind]
    rfl
  apply PySem.W.methodCall_KW (ld_glob I hg hm ?_ hdb) form
  apply PySem.W.method_cls I.kIn rc.ga
  apply PySem.W.cls_value I.kIn rc.rd hf rfl
  show wpAny _ _ (callWith pos (Value.builtin "ValueError.__init__") [] (backTo pos (starEach (e :: es) X.env)) []) _ _ _
  apply PyProof.Rows.callWith_method1 ?_ he hpl
  refine thn (ha.run pos pins _ σ H _ (I.tok _) h) fun us s1 ⟨vs, H1, I1, r1, a, C, ws, ev, hl, T, ea, q⟩ => ?_
  subst ev
  cases r1 with
  | cons ra rs =>
    cases ra
    exact oinit_ok T I1 ea (by rw [← rs.length, sizeLine_eq]; omega) fun s2 J => ⟨.non, H1, J, rfl, q⟩
def asgF : Stmt → Str → Bool
  | .Assign [.Attribute (.Name o _) f _] (.Name y _) _, n => decide (o = ("self" : Str)) && decide (f = n) && decide (y = n)
  | _, _ => false
theorem asgF_by {s : Stmt} {n : Str} (h : asgF s n = true) : ∃ p1 p2 p3 p4, s = .Assign [.Attribute (.Name "self" p1) n p2] (.Name n p3) p4 := by
  unfold asgF at h
  split at h
  · simp only [Bool.and_eq_true, decide_eq_true_eq] at h
    obtain ⟨⟨rfl, rfl⟩, rfl⟩ := h
    exact ⟨_, _, _, _, rfl⟩
  · cases h
def fsSh : List Stmt → List Str → Bool
  | [], [] => true
  | s :: ss, n :: ns => asgF s n && fsSh ss ns
  | _, _ => false
def tFs (K : PySem.W.Frag) : List Str → Nat → TS
  | [], _ => tNext
  | n :: ns, k => tSeq (tOst K n (tVar 0) (tVar k)) (tFs K ns (k + 1))
theorem ps_fs {N : List Str} (hN : X.N = N) (h0 : N[0]? = some ("self" : Str)) (hV : ∀ (i : Nat) x, N[i]? = some x → Vis X.env.scope x ∧ (x == ("__debug__" : Str)) = false ∧ (x == ("__classdict__" : Str)) = false) : ∀ (ss : List Stmt) (ns : List Str) (k : Nat), fsSh ss ns = true → (∀ (i : Nat) n, ns[i]? = some n → N[k + i]? = some n) → PSs X ss (tFs X.K ns k)
  | [], [], k, _, _ => pss_nil
  | [], _ :: _, k, h, _ => by simp [fsSh] at h
  | _ :: _, [], k, h, _ => by simp [fsSh] at h
  | s :: ss, n :: ns, k, h, hk => by
      simp only [fsSh, Bool.and_eq_true] at h
      obtain ⟨h1, h4⟩ := h
      obtain ⟨_, _, _, _, rfl⟩ := asgF_by h1
      have k0 := hk 0 _ rfl
      obtain ⟨v1, v2, v3⟩ := hV 0 _ h0
      obtain ⟨w1, w2, w3⟩ := hV _ _ k0
      exact pss_cons (ps_ost (pe_var (by rw [hN]; exact h0) v1 v2 v3) (pe_var (by rw [hN]; exact k0) w1 w2 w3)) (ps_fs hN h0 hV ss ns (k + 1) h4 fun i m hm => by
        have := hk (i + 1) m hm
        rwa [show k + (i + 1) = k + 1 + i by omega] at this)
theorem fs_more {K : PySem.W.Frag} {a C d : Addr} (T : OexC K C) {σ : L2.St} (h0 : σ[0]? = some (some (.ref a))) (hne : d ≠ a) : ∀ (ns : List Str) (ys : List V) (k : Nat) (fl : List (Str × V)) (D : Ends) (H : Hp), ns.length = ys.length → (∀ n ∈ ns, PySem.W.findIn K (.ref C) n = some none) →
    (∀ (i : Nat) y, ys[i]? = some y → σ[k + i]? = some (some y)) → fl.length + ns.length ≤ 900 → H a = some (exo a C (some d)) → H d = some (exd d fl) →
    (∀ H', H' a = some (exo a C (some d)) → H' d = some (exd d ((ns.zip ys).reverse ++ fl)) → (∀ b, b ≠ a → b ≠ d → H' b = H b) → D.nx σ H') → tFs K ns k D σ H
  | [], [], k, fl, D, H, _, _, _, _, ha, hd, q => q H ha hd fun _ _ _ => rfl
  | n :: ns, y :: ys, k, fl, D, H, hl, hno, hy, hz, ha, hd, q => by
    refine ⟨y, by simpa using hy 0 y rfl, .ref a, h0, a, C, rfl, T, hno n (.head _), .inr ⟨d, fl, ha, hd, by simp at hz; omega, ?_⟩⟩
    refine fs_more T h0 hne ns ys (k + 1) ((n, y) :: fl) D _ (by simpa using hl) (fun m hm => hno m (.tail _ hm)) (fun i z hz => by
      have := hy (i + 1) z hz
      rwa [show k + (i + 1) = k + 1 + i by omega] at this) (by simp at hz ⊢; omega) (by rw [upd_ne (Ne.symm hne)]; exact ha) upd_same fun H' e1 e2 e3 => ?_
    refine q H' e1 (by rw [e2]; simp) fun b b1 b2 => (e3 b b1 b2).trans (upd_ne b2)
  | [], _ :: _, _, _, _, _, hl, _, _, _, _, _, _ => by simp at hl
  | _ :: _, [], _, _, _, _, hl, _, _, _, _, _, _ => by simp at hl
theorem fs_all {K : PySem.W.Frag} {a C : Addr} (T : OexC K C) {σ : L2.St} (h0 : σ[0]? = some (some (.ref a))) {n : Str} {y : V} (ns : List Str) (ys : List V) (D : Ends) (H : Hp) (hl : ns.length = ys.length) (hno : ∀ m ∈ n :: ns, PySem.W.findIn K (.ref C) m = some none)
    (hy : ∀ (i : Nat) z, (y :: ys)[i]? = some z → σ[1 + i]? = some (some z)) (hz : ns.length ≤ 800) (ha : H a = some (exo a C none))
    (q : ∀ d H', H d = none → d ≠ a → H' a = some (exo a C (some d)) → H' d = some (exd d ((n :: ns).zip (y :: ys)).reverse) → (∀ b, b ≠ a → b ≠ d → H' b = H b) → D.nx σ H') : tFs K (n :: ns) 1 D σ H := by
  refine ⟨y, by simpa using hy 0 y rfl, .ref a, h0, a, C, rfl, T, hno n (.head _), .inl ⟨ha, fun d hd hne => ?_⟩⟩
  refine fs_more T h0 hne ns ys 2 [(n, y)] D _ hl (fun m hm => hno m (.tail _ hm)) (fun i z hz => by
    have := hy (i + 1) z hz
    rwa [show 1 + (i + 1) = 2 + i by omega] at this) (by simp; omega) upd_same (by rw [upd_ne hne]; exact upd_same) fun H' e1 e2 e3 => ?_
  exact q d H' hd hne e1 (by rw [e2]; simp) fun b b1 b2 => (e3 b b1 b2).trans ((upd_ne b1).trans (upd_ne b2))
end
def spI (K : PySem.W.Frag) (C : Addr) (ns : List Str) : Sp := fun vs H Q _ => vs.length = ns.length + 1 ∧ ∃ a ys, vs = .ref a :: ys ∧ H a = some (exo a C none) ∧
  ∀ d H', H d = none → d ≠ a → H' a = some (exo a C (some d)) → H' d = some (exd d (ns.zip ys).reverse) → (∀ b, b ≠ a → b ≠ d → H' b = H b) → Q .non H'
end M
end F_M3m
section F_M3n
set_option maxRecDepth 100000
namespace M
open PySem PySem.Spec PyProof.Rows L2
section
variable {X : Cx} {W : WX} {c : Str} {p pos pos' : Pos} {e : Expr} {es : List Expr}
theorem pmk_own0 {C : Addr} {bmB : List Value} {B newId initId : String} (F : ExcBaseFacts B newId initId bmB) (q : PySem.W.excIn X.K C bmB newId = true) (gC : X.mg c = some (.ref C)) (kC : PySem.W.keepIn X.K (.ref C) = true) (r : Raises X (.ref C)) (hg : Gl X c) (hdb : (c == ("__debug__" : Str)) = false) :
    PMk X (.Call (.Name c p) [] [] pos) (fun _ H Q => Q (.ref C) none H) := fun pins s σ H Q I h => by
  apply wpAny_Call_Name_kw (ld_glob I hg gC ?_ hdb)
  apply PySem.W.callWith_K0 I.kIn kC
  show wpAny _ _ (call (.ref C) []) _ _ _
  obtain ⟨_, _, _, _, _, _, _, _, _, _, _, _, _, _, _, _, _, hC, hN, hni, T⟩ := exc_obj I.kIn q
  apply wpAny_call_exc_subT F T hC hN hni (fun h' d hm => ?_) (by show 0 ≤ sizeLine; exact Nat.zero_le _)
  exact mk_of I hm r h (I.hok.gone hm.new)
theorem sRaiseE {C : Addr} {f : MS → Out Val} (hc : X.calm = true) (tk : Takes X W) (he : PMk X (.Call (.Name c p) [e] [] pos) (fun σ H Q => tE X.K W f σ H fun _ H1 => Q (.ref C) none H1)) (hC : C = clA X.K c) (ek : EK X.K (clA X.K c)) :
    PS X (.Raise (some (.Call (.Name c p) [e] [] pos)) none pos') (tS X.K W fun s => (f s).fl fun _ s => .exc ⟨c, [], []⟩ s) := by
  refine PS.imp (ps_raise hc tk he) fun D σ H ⟨r, s, at_, q⟩ => ?_
  have q : FP X.K W σ s.sl H r D ((f s).fl fun _ s => .exc ⟨c, [], []⟩ s) := q
  refine ⟨r, s, at_, (FP.fl q).imp fun v s1 H1 r1 _ st1 a1 q1 x vx => ?_⟩
  exact q1 (.ref C) none σ H1 r1 .refl a1 ⟨by rw [hC], ek, .inl ⟨rfl, rfl, rfl⟩⟩
structure XF (X : Cx) (c : Str) (ns : List Str) (kws : List (List Str × List Nat)) : Prop where
  mg : X.mg c = some (.ref (clA X.K c))
  oc : OexC X.K (clA X.K c)
  ek : EK X.K (clA X.K c)
  fc : FC X.K (clA X.K c) ns
  nd : ns.Nodup
  hn : ns.length ≤ 800
  ini : ∃ fI fd, PySem.W.findIn X.K (.ref (clA X.K c)) "__init__" = some (some (.ref fI)) ∧ PySem.W.typeIn X.K (.ref fI) = some (.type "function") ∧ FnOk X.prog X.w X.K X.mg X.base CX0 1 fI fd ("self" :: ns) (spI X.K (clA X.K c) ns) ∧ Binds X.K fd ("self" :: ns) [] ∧
    ∀ q ∈ kws, ∀ u (ws : List Value), ws.length = q.1.length → bindArgs fd ⟨[u], q.1.zip ws⟩ = pure ((("self" : Str) :: ns).zip (u :: pick q.2 ws))
theorem lookup_mem : ∀ {l : List (Str × V)} {n : Str} {y : V}, (l.map (·.1)).Nodup → (n, y) ∈ l → l.lookup n = some y
  | (m, z) :: l, n, y, nd, h => by
    rw [List.lookup_cons]
    rw [List.map_cons, List.nodup_cons] at nd
    rcases List.mem_cons.mp h with e | h
    · cases e
      simp
    · have hne : (n == m) = false := by
        cases e : n == m with
        | false => rfl
        | true =>
          rw [← eq_of_beq e] at nd
          exact absurd (List.mem_map.mpr ⟨_, h, rfl⟩) nd.1
      rw [hne]
      exact lookup_mem nd.2 h
theorem zip_fields {ns : List Str} {ys : List V} (nd : ns.Nodup) (hl : ns.length = ys.length) : ns.map (fun n => ((ns.zip ys).reverse).lookup n) = ys.map some := by
  have keys : ((ns.zip ys).reverse.map (·.1)).Nodup := by
    rw [List.map_reverse, List.map_fst_zip (by omega)]
    exact List.pairwise_reverse.mpr (nd.imp fun h => Ne.symm h)
  apply List.ext_getElem?
  intro i
  rw [List.getElem?_map, List.getElem?_map]
  by_cases hi : i < ns.length
  · rw [List.getElem?_eq_getElem hi, List.getElem?_eq_getElem (by omega : i < ys.length), Option.map_some, Option.map_some]
    congr 1
    refine lookup_mem keys ?_
    rw [List.mem_reverse]
    refine List.mem_iff_getElem.mpr ⟨i, by rw [List.length_zip]; omega, ?_⟩
    rw [List.getElem_zip]
  · rw [List.getElem?_eq_none (by omega), List.getElem?_eq_none (by omega)]; rfl
theorem XF.made {kws : List (List Str × List Nat)} {D : Ends} {σ : L2.St} {H H2 : Hp} {r : RI} {s : MS} {ns : List Str} {vs : List Val} {ys : List V} {a d : Addr} (T : XF X c ns kws) (at_ : At X.K σ s.sl H r s.mu) (hv : VRs X.K H r vs ys) (hl : ns.length = ys.length) (ha : H a = none) (hd : H d = none)
    (h2 : ∀ b, b ≠ a → b ≠ d → H2 b = H b) (q : FP X.K W σ s.sl H r D (.exc ⟨c, ns, vs⟩ s)) : W (.ref (clA X.K c)) (some d) σ (upd (del H2 a) d (.xd (ns.zip ys).reverse)) := by
  have e : upd (del H2 a) d (.xd (ns.zip ys).reverse) = upd H d (.xd (ns.zip ys).reverse) := by
    funext b
    by_cases hb : b = d
    · subst hb; rw [upd_same, upd_same]
    · rw [upd_ne hb, upd_ne hb]
      by_cases hba : b = a
      · subst hba; rw [del_same, ha]
      · rw [del_ne hba, h2 b hba hb]
  rw [e]
  have st : Step σ s.sl H r σ s.sl (upd H d (.xd (ns.zip ys).reverse)) (r.add d) := .add hd at_.hr.is
  exact q (.ref (clA X.K c)) (some d) σ _ (r.add d) st ⟨at_.hr.add hd, at_.sr.add hd at_.hr.is⟩ ⟨rfl, T.ek, .inr ⟨d, _, ys, rfl, ⟨.inr rfl, upd_same⟩, VRs.mono st.gr _ _ hv, zip_fields T.nd hl, T.fc⟩⟩
theorem sRaiseI {kws : List (List Str × List Nat)} {k : MS → Out (List Val)} {ns : List Str} (T : XF X c ns kws) (hr : Room 2 X.A) (hc : X.calm = true) (tk : Takes X W) (hg : Gl X c) (hdb : (c == ("__debug__" : Str)) = false) (ha : PA X (e :: es) (tA X.K W k))
    (he : starEach (e :: es) X.env = (false, eval e X.env) :: starEach es X.env) (hpl : (backTo pos (starEach es X.env)).any (·.1) = false) :
    PS X (.Raise (some (.Call (.Name c p) (e :: es) [] pos)) none pos') (tS X.K W fun s => (k s).fl fun vs s => if vs.length = ns.length then .exc ⟨c, ns, vs⟩ s else .bad) := by
  obtain ⟨fI, fd, i1, i2, i3, i4, _⟩ := T.ini
  refine PS.imp (ps_raise hc tk (pmk_oex (ds := []) (dvs := []) T.oc i1 i2 i3 hr i4 .nil (fun _ _ _ _ _ _ _ z => z.elim) hg T.mg ha hdb he hpl)) fun D σ H ⟨r, s, at_, q⟩ => ?_
  have q : FP X.K W σ s.sl H r D ((k s).fl fun vs s => if vs.length = ns.length then .exc ⟨c, ns, vs⟩ s else .bad) := q
  refine ⟨r, s, at_, (FP.fl q).imp fun vs s1 H1 r1 _ st1 a1 q1 ys vys => ?_⟩
  have hlen := vys.len
  split at q1
  · rename_i hl
    refine ⟨by have := T.hn; omega, fun a han => ?_⟩
    rw [List.append_nil]
    refine ⟨by simp; omega, a, ys, rfl, upd_same, fun d H2 hd hne e1 e2 e3 => ⟨rfl, d, _, e1, e2, by rw [upd_ne hne] at hd; exact hd, ?_⟩⟩
    exact T.made a1 vys (by omega) han (by rw [upd_ne hne] at hd; exact hd) (fun b b1 b2 => (e3 b b1 b2).trans (upd_ne b1)) q1
  · exact False.elim q1
end
end M
end F_M3n
section F_X1
set_option maxRecDepth 100000
set_option maxHeartbeats 4000000
namespace M
open PySem PySem.W PySem.Calls PyProof.Rows PySem.HandSPX
section
open Builtin
variable {Md : Model} {prog : Program} {w : World} {A : Around} {E : Value → Shared → Prop} {R : Result → Shared → Prop} {hp : Heap} {gs : Array GenState} {dr : Drawn} {tk : Nat} {os : OsState}
variable {nm q : Str} {C N fI : Addr} {bs bm bmB : List Value} {hdct : Bool} {sn : List Str} {sub : List Value} {ab : Bool} {col : Option Bool} {dd : Option Addr} {k0 k1 k2 k3 k5 : Option Value} {B newId initId : String} {us : List Value} {kw : List (Str × Value)}
theorem kwNewCheck (F : ExcBaseFacts B newId initId bmB) (hB : bm.contains (.type B) = true) {Q : Unit → Shared → Prop} (hC : hp.get? C = some (excClassObj nm q C N bs bm hdct sn sub ab col dd k0 k1 k2 k3 k5 newId))
    (z : Q () ⟨hp, gs, dr, tk, os⟩) : wpAny Md A (checkBuiltinCall newId ⟨.ref C :: us, kw⟩) Q E ⟨hp, gs, dr, tk, os⟩ := by
  have c1 : (Value.ref C :: bm).contains (.type B) = true := by rw [List.contains_cons, hB, Bool.or_true]
  have c2 := F.noStar
  simp only [checkBuiltinCall, F.newRow, F.newSplit, F.newKind]
  repeat (first | refine wpAny_madeBy_exc hC ?_ | refine wpAny_loadPart_at hC ?_ | refine wpAny_staticBase_exc hC ?_ | (refine wpAny_isSubtype_exc hC ?_; rw [c1]) | simp only [bne_self_eq_false, Bool.false_eq_true, if_false] | wp_step)
  exact z
theorem kwNew (F : ExcBaseFacts B newId initId bmB) (hB : ∀ T : String, bm.contains (.type T) = bmB.contains (.type T)) (hC : hp.get? C = some (excClassObj nm q C N bs bm hdct sn sub ab col dd k0 k1 k2 k3 k5 newId)) (hl : us.length ≤ sizeLine)
    (z : R (.ok (.ret (.ref (hp.objs.size + 1)))) ⟨(hp.push (W.kdv_tup us)).push (excO C hp.objs.size), gs, dr, tk, os⟩) : codeAny (model prog w) A (.builtin newId ⟨.ref C :: us, kw⟩) R ⟨hp, gs, dr, tk, os⟩ := by
  have en := F.ends
  have c1 : (Value.ref C :: bm).contains (.type B) = true := by rw [List.contains_cons, hB, F.hasB, Bool.or_true]
  have c2 : (Value.ref C :: bm).contains (.type "NameError") = false := by rw [List.contains_cons, hB, F.noName]; rfl
  have c3 : (Value.ref C :: bm).contains (.type "AttributeError") = false := by rw [List.contains_cons, hB, F.noAttr]; rfl
  apply codeAny_builtinAt F.entry
  unfold Builtin.«BaseException.__new__»
  apply PySem.wpAt_bind
  show PySem.wpAt _ _ _ (stack >>= _) _ _ _
  apply PySem.wpAt_bind
  apply PySem.wpAt_stack
  intro p below
  apply PySem.wpAt_of_wpAny
  wp_walk
  apply PySem.wpAt_of_wpAny
  rw [F.owner]
  repeat (first | with_reducible refine wpAny_loadPart_at hC ?_ | with_reducible refine wpAny_madeHere_exc F.canon hC ?_ | (with_reducible refine wpAny_isSubtype_exc hC ?_; first | rw [c2] | rw [c3] | rw [c1]) | wp_step)
  show R _ _
  rw [Heap.size_push]
  exact z
theorem kwType (F : ExcBaseFacts B newId initId bmB) (hB : ∀ T : String, bm.contains (.type T) = bmB.contains (.type T)) {Q : PySem.Fin → Shared → Prop} (hC : hp.get? C = some (excClassObj nm q C N bs bm hdct sn sub ab col dd k0 k1 k2 k3 k5 newId)) (hl : us.length ≤ sizeLine)
    (hi : Looks (model prog w) hp (typeLookup (.ref C) "__init__") (some (.ref fI))) (hb : ∀ self, Looks (model prog w) hp (bindSpecial (.ref fI) self) (.ref fI, [self]))
    (z : codeAny (model prog w) A (.call (.ref fI) ⟨.ref (hp.objs.size + 1) :: us, kw⟩) (fun r s' => match r with | .ok (.ret v) => v = .none ∧ Q (.done (.ret (.ref (hp.objs.size + 1)))) s' | .ok _ => False | .error e => E e s')
      ⟨(hp.push (W.kdv_tup us)).push (excO C hp.objs.size), gs, dr, tk, os⟩) : wpAny (model prog w) A (Builtin.«type.__call__» ⟨.ref C :: us, kw⟩) Q E ⟨hp, gs, dr, tk, os⟩ := by
  repeat (first | with_reducible refine wpAny_madeBy_exc hC ?_ | with_reducible refine wpAny_loadPart_at hC ?_ | wp_step)
  apply codeAny_call_builtin_code (Code.quiet_builtin _ F.quiet) (kwNewCheck F (by rw [hB, F.hasB]) hC ?_)
  apply kwNew F hB hC hl
  show wpAny _ _ _ _ _ _
  have kp : ∀ b o, hp.get? b = some o → ((hp.push (W.kdv_tup us)).push (excO C hp.objs.size)).get? b = some o := fun b o y => Heap.get?_push_of_some _ (Heap.get?_push_of_some _ y)
  have hC1 := kp _ _ hC
  have at1 : ((hp.push (W.kdv_tup us)).push (excO C hp.objs.size)).get? (hp.objs.size + 1) = some (excO C hp.objs.size) := by heap_get
  have self1 : (Value.ref C :: bm).contains (.ref C) = true := by simp
  unfold isInstance
  repeat (first | with_reducible refine wpAny_loadPart_at at1 ?_ | (with_reducible refine wpAny_isSubtype_exc hC1 ?_; rw [self1]) | wp_step)
  show wpAny _ _ (typeLookup (.ref C) _) _ _ _
  apply (hi.keeps kp).at
  apply wpAny_holding
  apply wpAny_bind
  apply ((hb (.ref (hp.objs.size + 1))).keeps kp).at
  apply wpAny_bind
  apply wpAny_call
  refine codeAny_mono z fun r s' y => ?_
  match r, y with
  | .error d, y => exact y
  | .ok (.ret v), ⟨e, y⟩ =>
    subst e
    first | exact wpAny_pure (wpAny_pure y) | (wp_walk; exact y)
theorem kwCall (F : ExcBaseFacts B newId initId bmB) (hB : ∀ T : String, bm.contains (.type T) = bmB.contains (.type T)) (hC : hp.get? C = some (excClassObj nm q C N bs bm hdct sn sub ab col dd k0 k1 k2 k3 k5 newId)) (hl : us.length ≤ sizeLine)
    (hi : Looks (model prog w) hp (typeLookup (.ref C) "__init__") (some (.ref fI))) (hb : ∀ self, Looks (model prog w) hp (bindSpecial (.ref fI) self) (.ref fI, [self]))
    (z : codeAny (model prog w) (A.under (.builtin "type.__call__" ⟨.ref C :: us, kw⟩)) (.call (.ref fI) ⟨.ref (hp.objs.size + 1) :: us, kw⟩) (InitBack (hp.objs.size + 1) R) ⟨(hp.push (W.kdv_tup us)).push (excO C hp.objs.size), gs, dr, tk, os⟩) :
    codeAny (model prog w) A (.call (.ref C) ⟨us, kw⟩) R ⟨hp, gs, dr, tk, os⟩ := by
  have t1 := tc_lookup
  have t2 := tc_bind (.ref C)
  have ty : (⟨hp, gs, dr, tk, os⟩ : Shared).TypeIs (.ref C) "type" := ⟨_, hC, rfl⟩
  apply codeAny_of_tree
  show wpAny _ _ (callAny (.ref C) _) _ _ _
  repeat (any_goals (first | assumption | with_reducible refine wpAny_loadPart_at hC ?_ | wp_step))
  refine ⟨rfl, ?_⟩
  apply codeAny_call_builtin_at (Code.quiet_builtin _ (by decide +kernel)) entry_typeCall
  apply wpAny_check_type_call_sub hC
  apply kwType F hB hC hl hi hb
  refine codeAny_mono z fun r s' y => ?_
  match r, y with
  | .error d, y => exact y
  | .ok (.ret v), y => exact y
end
end M
end F_X1
section F_M3o
set_option maxRecDepth 100000
namespace M
open PySem PySem.Spec PyProof.Rows L2
theorem pick_vals : ∀ (is : List Nat) {zs : List V} {ws : List Value}, Vals zs ws → Vals (pick is zs) (pick is ws)
  | [], _, _, _ => .nil
  | i :: is, zs, ws, r => by
    have ih := pick_vals is r
    unfold pick at ih ⊢
    rw [List.filterMap_cons, List.filterMap_cons]
    cases e : zs[i]? with
    | none =>
      have : ws[i]? = none := by
        rw [List.getElem?_eq_none_iff] at e ⊢
        rw [← r.length]; exact e
      rw [this]
      exact ih
    | some y =>
      obtain ⟨u, hu, ru⟩ := r.get e
      rw [hu]
      exact .cons ru ih
theorem pick_vrs {K : PySem.W.Frag} {H : Hp} {r : RI} : ∀ (is : List Nat) {vs : List Val} {xs : List V}, VRs K H r vs xs → VRs K H r (pick is vs) (pick is xs)
  | [], _, _, _ => rfl
  | i :: is, vs, xs, h => by
    have ih := pick_vrs is h
    unfold pick at ih ⊢
    rw [List.filterMap_cons, List.filterMap_cons]
    cases e : vs[i]? with
    | none =>
      have : xs[i]? = none := by
        rw [List.getElem?_eq_none_iff] at e ⊢
        rw [← h.len]; exact e
      rw [this]
      exact ih
    | some v =>
      obtain ⟨x, hx, vx⟩ := h.get e
      rw [hx]
      exact .cons vx ih
section
variable {X : Cx} {W : WX} {c : Str} {p pos pos' : Pos} {kwl : List Keyword}
theorem pmk_oexK {kws : List (List Str × List Nat)} {ns : List Str} {q : List Str × List Nat} {tk : TA} (T : XF X c ns kws) (hq : q ∈ kws) (hr : Room 2 X.A) (hg : Gl X c) (hdb : (c == ("__debug__" : Str)) = false) (hk : PK X kwl tk)
    (hall : (backToKw pos (keywordEach kwl X.env)).all (·.1.isSome) = true) (hks : (backToKw pos (keywordEach kwl X.env)).filterMap (·.1) = q.1) (hno : ((backTo pos (starEach [] X.env)).any (·.1) || (backToKw pos (keywordEach kwl X.env)).any (·.1.isNone)) = false) :
    PMk X (.Call (.Name c p) [] kwl pos) (fun σ H Q => tk σ H fun zs H1 => zs.length = q.1.length ∧ (pick q.2 zs).length = ns.length ∧ ∀ a d H2, H1 a = none → H1 d = none → d ≠ a → H2 a = some (exo a (clA X.K c) (some d)) → H2 d = some (exd d (ns.zip (pick q.2 zs)).reverse) →
      (∀ b, b ≠ a → b ≠ d → H2 b = H1 b) → Q (.ref (clA X.K c)) (some d) (upd (del H2 a) d (.xd (ns.zip (pick q.2 zs)).reverse))) := by
  intro pins s σ H Q I h
  obtain ⟨fI, fd, i1, i2, F1, _, kb⟩ := T.ini
  obtain ⟨nm, qn, N, bs, bm, sn, sub, ab, col, dd, k0, k1, k2, k3, k5, hC, hbm⟩ := T.oc.cls
  apply wpAny_Call_Name_kw (ld_glob I hg T.mg ?_ hdb)
  apply PySem.W.callWith_KW0 (h₀ := X.base) I.ok.mod.kin T.oc.kC hall (thn (hk.run pos pins s σ H _ I h) fun ws s1 ⟨zs, H1, I1, rz, hl, hp, q1⟩ => ⟨I1.kIn, ?_⟩) hno
  rw [hks]
  show wpAny _ _ (PySem.call (.ref (clA X.K c)) [] (q.1.zip ws)) _ _ _
  obtain ⟨hp1, g1, d1, t1, os1⟩ := s1
  have up : hp1.objs.size ≤ hp1.objs.size + 1 := Nat.le_succ _
  have an : H1 (hp1.objs.size + 1) = none := I1.hok.fresh up
  have kk : ∀ b o, hp1.get? b = some o → ((hp1.push (PySem.W.kdv_tup [])).push (PySem.HandSPX.excO (clA X.K c) hp1.objs.size)).get? b = some o := fun b o y => Heap.get?_push_of_some _ (Heap.get?_push_of_some _ y)
  have at1 : ((hp1.push (PySem.W.kdv_tup [])).push (PySem.HandSPX.excO (clA X.K c) hp1.objs.size)).get? (hp1.objs.size + 1) = some (PySem.HandSPX.excO (clA X.K c) hp1.objs.size) := by heap_get
  have I2 := I1.laid (t' := t1) (a := hp1.objs.size + 1) (o := exo (hp1.objs.size + 1) (clA X.K c) none) kk up (exo_ok at1)
  have rv : Vals (V.ref (hp1.objs.size + 1) :: pick q.2 zs) (Value.ref (hp1.objs.size + 1) :: pick q.2 ws) := .cons rfl (pick_vals q.2 rz)
  have bt : BindsTo (⟨(hp1.push (PySem.W.kdv_tup [])).push (PySem.HandSPX.excO (clA X.K c) hp1.objs.size), g1, d1, t1, os1⟩ : Shared) fd ⟨[Value.ref (hp1.objs.size + 1)], q.1.zip ws⟩ ((("self" : Str) :: ns).zip (Value.ref (hp1.objs.size + 1) :: pick q.2 ws)) :=
    .of_eq (kb q hq _ ws (by rw [← rz.length]; exact hl))
  have run := F1.run (X.A.under (.builtin "type.__call__" ⟨.ref (clA X.K c) :: [], q.1.zip ws⟩)) X.stack _ (upd H1 (hp1.objs.size + 1) (exo (hp1.objs.size + 1) (clA X.K c) none)) ⟨[Value.ref (hp1.objs.size + 1)], q.1.zip ws⟩ _ _
    (fun v H2 => v = .non ∧ ∃ d fs, H2 (hp1.objs.size + 1) = some (exo (hp1.objs.size + 1) (clA X.K c) (some d)) ∧ H2 d = some (exd d fs) ∧ H1 d = none ∧ Q (.ref (clA X.K c)) (some d) (upd (del H2 (hp1.objs.size + 1)) d (.xd fs))) (fun _ _ _ => False)
    (hr.make (clA X.K c) [] (q.1.zip ws)) (I2.env0.make (clA X.K c) [] (q.1.zip ws)) bt rv
    ⟨by simp; omega, _, _, rfl, upd_same, fun d H2 hd hne e1 e2 e3 => ⟨rfl, d, _, e1, e2, by rw [upd_ne hne] at hd; exact hd, q1 _ d H2 an (by rw [upd_ne hne] at hd; exact hd) hne e1 e2 fun b b1 b2 => (e3 b b1 b2).trans (upd_ne b1)⟩⟩
  apply wpAny_call
  apply kwCall PySem.F.excBase_ValueError (fun Y => PySem.HandSPX.refsVE_contains Y bm hbm) (I1.kIn _ _ hC) (by simp) (PySem.W.looks_findIn I1.kIn i1) (fun self => PySem.W.bind_fn I1.kIn self i2)
  refine codeAny_mono run fun z s' y => ?_
  match z, y with
  | .error er, y => exact y.elim
  | .ok .next, y => exact y.elim
  | .ok .brk, y => exact y.elim
  | .ok .cont, y => exact y.elim
  | .ok (.ret u), ⟨v, H2, os2, bare2, un2, hok2, rv2, ev, d, fs, ea, ed, hd1, q2⟩ =>
    subst ev
    obtain ⟨h2, g2, d2, t2, os'⟩ := s'
    exact ⟨rv2, mk_end (raises_own T.oc.exC T.oc.tyC) I1 up kk un2 hok2 os2 bare2 ea ed hd1 q2⟩
theorem sRaiseK {kws : List (List Str × List Nat)} {ns : List Str} {q : List Str × List Nat} {k : MS → Out (List Val)} (T : XF X c ns kws) (hq : q ∈ kws) (hr : Room 2 X.A) (hc : X.calm = true) (tk : Takes X W) (hg : Gl X c) (hdb : (c == ("__debug__" : Str)) = false) (hk : PK X kwl (tA X.K W k))
    (hall : (backToKw pos (keywordEach kwl X.env)).all (·.1.isSome) = true) (hks : (backToKw pos (keywordEach kwl X.env)).filterMap (·.1) = q.1) (hno : ((backTo pos (starEach [] X.env)).any (·.1) || (backToKw pos (keywordEach kwl X.env)).any (·.1.isNone)) = false) :
    PS X (.Raise (some (.Call (.Name c p) [] kwl pos)) none pos') (tS X.K W fun s => (k s).fl fun vs s => if vs.length = q.1.length ∧ (pick q.2 vs).length = ns.length then .exc ⟨c, ns, pick q.2 vs⟩ s else .bad) := by
  refine PS.imp (ps_raise hc tk (pmk_oexK (p := p) T hq hr hg hdb hk hall hks hno)) fun D σ H ⟨r, s, at_, w⟩ => ?_
  have w : FP X.K W σ s.sl H r D ((k s).fl fun vs s => if vs.length = q.1.length ∧ (pick q.2 vs).length = ns.length then .exc ⟨c, ns, pick q.2 vs⟩ s else .bad) := w
  refine ⟨r, s, at_, (FP.fl w).imp fun vs s1 H1 r1 _ st1 a1 q1 ys vys => ?_⟩
  have pv := pick_vrs q.2 vys
  split at q1
  · rename_i hl
    refine ⟨by rw [← vys.len]; exact hl.1, by rw [← pv.len]; exact hl.2, fun a d H2 ha hd hne e1 e2 e3 => T.made a1 pv (by rw [← pv.len]; exact hl.2.symm) ha hd e3 q1⟩
  · exact False.elim q1
end
end M
end F_M3o
section F_M4a
set_option maxRecDepth 100000
namespace M
open PySem PySem.Spec PyProof.Rows L2
structure Pr where
  fns : List FDef
  gl : List (Str × Val)
  exs : List Str := []
  exi : List (Str × List Str × List (List Str × List Nat)) := []
def Pr.G (P : Pr) : List Val := P.gl.map (·.2)
def isGl (S : Scope) (x : Str) : Bool := decide (S.names.lookup x = some .globalImplicit)
def isVis (S : Scope) (x : Str) : Bool := match S.names.lookup x with | some .local => true | some .cell => true | some .free => true | _ => false
def isLoc (S : Scope) (x : Str) : Bool := match S.names.lookup x with | some .local => true | some .cell => true | _ => false
def okV (N : List Str) (S : Scope) (i : Nat) (x : Str) : Bool := decide (N[i]? = some x) && isVis S x && !(x == ("__debug__" : Str)) && !(x == ("__classdict__" : Str))
def notSlice : Expr → Bool
  | .Slice .. => false
  | _ => true
def notSet : Expr → Bool
  | .Set .. => false
  | _ => true
def plainBase : Expr → Bool
  | .Call (.Name _ _) [] [] _ => false
  | _ => true
def mfName : MF → String
  | .strip => "strip" | .join => "join" | .count => "count" | .find => "find"
def okCst (S : Scope) : Val → Expr → Bool
  | .none, .Constant .none _ _ => true
  | .bool b, .Constant (.bool c) _ _ => b == c
  | .int i, .Constant (.int j) _ _ => i == j
  | .str s, .Constant (.str x) _ _ => decide (x = ⟨s.toArray⟩) && s.all (· < 1114112)
  | .ty t, .Name x _ => decide (x = Str.ofString t.name) && isGl S x
  | _, _ => false
mutual
def okT (N : List Str) (L : Str → Bool) : T → Expr → Bool
  | .nm i, .Name x _ => decide (N[i]? = some x) && L x
  | .tup ts, .Tuple es _ _ => okTs N L ts es
  | _, _ => false
def okTs (N : List Str) (L : Str → Bool) : List T → List Expr → Bool
  | [], [] => true
  | t :: ts, e :: es => nstar e && okT N L t e && okTs N L ts es
  | _, _ => false
end
def own2 (N : List Str) (own : List Nat) : List (Str × Nat) := own.map fun i => (N.getD i Str.empty, i)
def blkL (S scope : Scope) (x : Str) : Bool := decide ((relS scope S).names.lookup x = some .local) || (decide (scope.names.lookup x = some .cell) && decide ((relS scope S).names.lookup x = some .cell))
def isTupT : Expr → Bool
  | .Tuple .. => true
  | _ => false
theorem isTupT_by {t : Expr} (h : isTupT t = true) : ∃ es k p, t = .Tuple es k p := by
  cases t <;> first | exact ⟨_, _, _, rfl⟩ | cases h
def tupOk : I → Expr → Bool
  | .ez _ _, t => isTupT t
  | _, _ => true
def ezSh : Expr → Option (Str × Str × Expr × Expr × List Keyword)
  | .Call (.Name x _) [.Call (.Name y _) [a, b] kws _] [] _ => some (x, y, a, b, kws)
  | _ => none
theorem ezSh_by {e a b : Expr} {x y : Str} {kws : List Keyword} (h : ezSh e = some (x, y, a, b, kws)) : ∃ p p2 pos2 pos, e = .Call (.Name x p) [.Call (.Name y p2) [a, b] kws pos2] [] pos := by
  unfold ezSh at h
  split at h
  · cases h
    exact ⟨_, _, _, _, rfl⟩
  · cases h
def kwZ : List Keyword → Bool → Bool
  | [], false => true
  | [⟨some n, .Constant (.bool true) _ _, _⟩], true => decide (n = "strict")
  | _, _ => false
theorem kwZ_by {kws : List Keyword} {st : Bool} (h : kwZ kws st = true) : ∃ o, kws = Zp.zkws o := by
  unfold kwZ at h
  split at h
  · exact ⟨none, rfl⟩
  · have e := of_decide_eq_true h
    subst e
    exact ⟨some (_, _, _), rfl⟩
  · cases h
mutual
def okE (P : Pr) (N : List Str) : Scope → E → Expr → Bool
  | S, .var i, .Name x _ => okV N S i x
  | S, .frz i, .Name x _ => okV N S i x
  | S, .cst v, e => okCst S v e
  | S, .glob k, .Name x _ => (match P.gl[k]? with | some (y, _) => decide (y = x) | none => false) && isGl S x && !(x == ("__debug__" : Str))
  | S, .tup es, .Tuple l _ _ => okEs P N S es l
  | S, .lst es, .List l _ => okEs P N S es l
  | S, .fld o n, .Attribute x m _ => decide (m = n) && okE P N S o x && plainBase x
  | S, .shl es, .List l _ => okEs P N S es l
  | S, .bin op a b, .BinOp x o y _ => decide (o = opOf op) && okE P N S a x && okE P N S b y
  | S, .neg a, .UnaryOp .USub x _ => okE P N S a x
  | S, .cmp op a b, .Compare x [o] [y] _ => decide (o = cmpOf op) && okE P N S a x && okE P N S b y && !behindInMarks o y
  | S, .cmp2 op op2 a b c, .Compare x [o, o2] [y, z] _ => decide (o = cmpOf op) && decide (o2 = cmpOf op2) && okE P N S a x && okE P N S b y && okE P N S c z && !lastMarks [o, o2] [y, z]
  | S, .not_ a, .UnaryOp .Not x _ => okE P N S a x
  | S, .and_ a b, .BoolOp .And [x, y] _ => okE P N S a x && okE P N S b y
  | S, .and_ a b, .BoolOp .And (x :: y :: z :: rest) pos => okE P N S a x && okE P N S b (.BoolOp .And (y :: z :: rest) pos)
  | S, .or_ a b, .BoolOp .Or [x, y] _ => okE P N S a x && okE P N S b y
  | S, .or_ a b, .BoolOp .Or (x :: y :: z :: rest) pos => okE P N S a x && okE P N S b (.BoolOp .Or (y :: z :: rest) pos)
  | S, .ife c a b, .IfExp x y z _ => okE P N S c x && okE P N S a y && okE P N S b z
  | S, .ix a i, .Subscript x y _ => okE P N S a x && okE P N S i y && notSlice y
  | S, .slice a lo hi, .Subscript x (.Slice l u none _) _ => okE P N S a x && okO P N S lo l && okO P N S hi u
  | S, .call f es, .Call (.Name x _) (y :: args) [] _ => (match P.fns[f]? with | some d => decide (d.name = x) && decide (d.params.length = args.length + 1) && decide (d.kwi = none) | none => false) && isGl S x && !(x == ("__debug__" : Str)) && okEs P N S es (y :: args)
  | S, .callD f es v, .Call (.Name x _) (y :: args) [] _ => (match P.fns[f]? with | some d => decide (d.name = x) && decide (d.params.length = args.length + 2) && (match d.kwi with | some (_, w) => decide (w = v) | none => false) | none => false) && isGl S x && !(x == ("__debug__" : Str)) && okEs P N S es (y :: args)
  | S, .callK f es n (.cons e .nil), .Call (.Name x _) (y :: args) [kw] _ => (match P.fns[f]? with | some d => decide (d.name = x) && decide (d.params.length = args.length + 2) && (match d.kwi with | some (m, _) => decide (m = n) | none => false) | none => false) && isGl S x && !(x == ("__debug__" : Str)) && okEs P N S es (y :: args) && decide (kw.arg = some n) && okE P N S e kw.value
  | S, .bcall f es, .Call (.Name x _) (y :: args) [] _ => decide (x = Str.ofString (bfName f)) && isGl S x && okEs P N S es (y :: args)
  | S, .meth m o es, .Call (.Attribute x nm ap) (y :: args) [] cp => decide (nm = Str.ofString (mfName m)) && okE P N S o x && plainBase x && okEs P N S es (y :: args) && (ap.endLine == cp.line) && decide (args.length < 28)
  | S, .app o es, .Call (.Attribute x nm ap) (y :: args) [] cp => decide (nm = Str.ofString "append") && okE P N S o x && plainBase x && okEs P N S es (y :: args) && (ap.endLine == cp.line) && decide (args.length < 28)
  | S, .pop o es, .Call (.Attribute x nm ap) (y :: args) [] cp => decide (nm = Str.ofString "pop") && okE P N S o x && plainBase x && okEs P N S es (y :: args) && (ap.endLine == cp.line) && decide (args.length < 28)
  | S, .lc elt tg it ifs own, .ListComp x [⟨t, i, c, ka⟩] scope _ => decide (ka = 0) && okI P N S it i && (notSet i && tupOk it t) && blkC N S scope (own2 N own) && okT N (blkL S scope) tg t && nstar t && (slotsOf tg).all (own.contains ·) && okEs P N (relS scope S) ifs c && decide (c.length ≤ 1) && okE P N (relS scope S) elt x
  | S, .shc elt tg it ifs own, .ListComp x [⟨t, i, c, ka⟩] scope _ => decide (ka = 0) && okI P N S it i && (notSet i && tupOk it t) && blkC N S scope (own2 N own) && okT N (blkL S scope) tg t && nstar t && (slotsOf tg).all (own.contains ·) && okEs P N (relS scope S) ifs c && decide (c.length ≤ 1) && okE P N (relS scope S) elt x
  | _, _, _ => false
def okEs (P : Pr) (N : List Str) : Scope → Es → List Expr → Bool
  | S, .nil, [] => true
  | S, .cons e es, x :: l => nstar x && okE P N S e x && okEs P N S es l
  | _, _, _ => false
def okO (P : Pr) (N : List Str) : Scope → Option E → Option Expr → Bool
  | S, none, none => true
  | S, some e, some x => okE P N S e x
  | _, _, _ => false
def okI (P : Pr) (N : List Str) : Scope → I → Expr → Bool
  | S, .range es, .Call (.Name x _) [a] [] _ => decide (x = ("range" : Str)) && isGl S x && okEs P N S es [a]
  | S, .range es, .Call (.Name x _) [a, b] [] _ => decide (x = ("range" : Str)) && isGl S x && okEs P N S es [a, b]
  | S, .e a, x => okE P N S a x
  | S, .ez es st, e => (match ezSh e with | some (x, y, a, b, kws) => decide (x = ("enumerate" : Str)) && decide (y = ("zip" : Str)) && isGl S x && isGl S y && okEs P N S es [a, b] && kwZ kws st | none => false)
  | _, _, _ => false
end
def Bnd (K : PySem.W.Frag) (fd : FuncData) (d : FDef) : Prop := match d.kwi with
  | none => Binds K fd d.params []
  | some (n, v) => (∃ ds, Vals [V.int v] ds ∧ Binds K fd d.params ds) ∧ ∃ g, KBn K fd d.params (d.params.length - 1) [n] g (fun vs zs => vs ++ zs)
structure RF (K : PySem.W.Frag) (mg : Str → Option Value) (c : Str) : Prop where
  mg : mg c = some (.ref (clA K c))
  kp : PySem.W.keepIn K (.ref (clA K c)) = true
  ex : PySem.W.excIn K (clA K c) [.type "ValueError", .type "Exception", .type "BaseException", .type "object"] "ValueError.__new__" = true
  ty : PySem.W.typeIn K (.ref (clA K c)) = some (.type "type")
  ek : EK K (clA K c)
structure SX (X : Cx) : Prop where
  hs : X.stack = X.env :: X.outer
  hf : X.env.frame = some X.env.locals
  hx : X.ex = []
structure GX (P : Pr) (C : CallEnv) (N : List Str) (S : Scope) (L : Str → Bool) (W : WX) (X : Cx) : Prop where
  hN : X.N = N
  nd : N.Nodup
  sc : X.env.scope = S
  kind : S.kind = .function
  calm : X.calm = true
  un : X.A.units + 65 < cLine
  ln : ∀ x, L x = true → Loc S x ∧ (X.fn x = true ∨ S.names.lookup x = some .local)
  po : PassesOwn (model X.prog X.w) X.A X.env X.xe
  tk : Takes X W
  bl : ∀ x ∈ (["len", "isinstance", "max", "min", "int", "str", "list", "tuple", "all", "any", "abs", "sum", "bool", "range", "dict", "ValueError", "divmod", "enumerate", "zip", "repr"] : List String), X.mg (Str.ofString x) = none
  gl : ∀ (k : Nat) x v, P.gl[k]? = some (x, v) → ∃ u cv, X.mg x = some u ∧ RelV cv u ∧ ∀ H r, VR X.K H r v cv
  rs : ∀ c ∈ P.exs, RF X.K X.mg c
  rx : ∀ c ns kws, (c, ns, kws) ∈ P.exi → XF X c ns kws
  fns : ∃ k, (2 ≤ k ∧ RmG k X.A) ∧ ∀ (i : Nat) d, P.fns[i]? = some d → ∃ f fd, X.mg d.name = some (.ref f) ∧ PySem.W.keepIn X.K (.ref f) = true ∧ Bnd X.K fd d ∧
    FnG X.prog X.w X.K X.mg X.base (L2.CX X.prog X.w) k f fd d.params (spOf X.K (C i) d.params.length)
theorem GX.rm2 {P : Pr} {C : CallEnv} {N : List Str} {S : Scope} {L : Str → Bool} {W : WX} {X : Cx} (g : GX P C N S L W X) : Room 2 X.A := g.fns.elim fun _ h => h.1.2.rm.mono h.1.1
theorem GX.gd {P : Pr} {C : CallEnv} {N : List Str} {S : Scope} {L : Str → Bool} {W : WX} {X : Cx} (g : GX P C N S L W X) : X.A.guards = some [] := g.fns.elim fun _ h => h.1.2.gd
section
variable {P : Pr} {C : CallEnv} {N : List Str} {S : Scope} {L : Str → Bool} {W : WX} {X : Cx}
theorem vis_of {x : Str} (h : isVis S x = true) : Vis S x := by
  unfold isVis at h
  split at h <;> first | exact .inl (by assumption) | exact .inr (.inl (by assumption)) | exact .inr (.inr (by assumption)) | cases h
theorem GX.vis (g : GX P C N S L W X) {x : Str} (h : isVis S x = true) : Vis X.env.scope x := by rw [g.sc]; exact vis_of h
theorem GX.isGl (g : GX P C N S L W X) {x : Str} (h : isGl S x = true) : Gl X x := by
  show X.env.scope.names.lookup x = _
  rw [g.sc]
  exact of_decide_eq_true h
theorem GX.wish0 (g : GX P C N S L W X) {s : Shared} {H : Hp} {scope : Scope} {cl : List (Str × Addr)} {Ca : Addr} {fp : List Addr} (hk : scope.kind = .function) :
    GX P C N (relS scope S) (blkL S scope) W0 (X.blk s H scope (compEnvC scope cl Ca X.env) fp) where
  hN := g.hN
  nd := g.nd
  sc := by
    show relabel scope X.env = _
    unfold relabel relS
    rw [← g.sc]
    rfl
  kind := hk
  calm := g.calm
  un := g.un
  ln := fun x h => by
    unfold blkL at h
    rw [Bool.or_eq_true, Bool.and_eq_true] at h
    rcases h with h | ⟨h1, h2⟩
    · have h := of_decide_eq_true h
      exact ⟨.inl h, .inr h⟩
    · have h1 := of_decide_eq_true h1
      have h2 := of_decide_eq_true h2
      exact ⟨.inr h2, .inl (by show (scope.names.lookup x == some .cell) = true; rw [h1]; rfl)⟩
  po := PassesOwn.never
  tk := takes0
  bl := g.bl
  gl := g.gl
  rs := g.rs
  rx := fun c ns kws h => let f := g.rx c ns kws h; ⟨f.mg, f.oc, f.ek, f.fc, f.nd, f.hn, f.ini⟩
  fns := g.fns
theorem GX.tr (g : GX P C N S L W X) {W' : WX} {pn : List (Addr × PySem.Obj)} {xe : Value → Shared → Prop} (tk : Takes (X.tr pn xe) W') (po : PassesOwn (model X.prog X.w) X.A X.env xe) : GX P C N S L W' (X.tr pn xe) where
  hN := g.hN
  nd := g.nd
  sc := g.sc
  kind := g.kind
  calm := g.calm
  un := g.un
  ln := g.ln
  po := po
  tk := tk
  bl := g.bl
  gl := g.gl
  rs := g.rs
  rx := fun c ns kws h => let f := g.rx c ns kws h; ⟨f.mg, f.oc, f.ek, f.fc, f.nd, f.hn, f.ini⟩
  fns := g.fns
theorem GX.raise (g : GX P C N S L W X) {x : Str} {p p2 pos : Pos} {m : Str} {j : Nat} (hx : x ∈ P.exs) (hg : Gl X x) (hd : (x == ("__debug__" : Str)) = false) :
    PMk X (.Call (.Name x p) [.Constant (.str m) j p2] [] pos) (fun _ H Q => Q (.ref (clA X.K x)) none H) := by
  have f := g.rs x hx
  exact pmk_own PySem.F.excBase_ValueError f.ex f.mg f.kp (raises_own f.ek.sb f.ty) hg hd
theorem GX.cls (g : GX P C N S L W X) {k : Nat} {x : Str} {subs nots : List Str} (h : P.gl[k]? = some (x, .cls x subs nots)) (hg : Gl X x) (hd : (x == ("__debug__" : Str)) = false) : Names X x (.ref (clA X.K x)) ∧ CF X.K x subs nots := by
  obtain ⟨u, cv, h1, h2, h3⟩ := g.gl k x _ h
  obtain ⟨rfl, cf⟩ := h3 (fun _ => none) ⟨[], fun _ => False⟩
  cases (show u = Value.ref _ from h2)
  exact ⟨⟨hg, hd, .inl h1⟩, cf⟩
def tstOk : Expr → Bool
  | .UnaryOp .Not _ _ => false | .BoolOp .. => false | .IfExp .. => false | .Compare .. => false | _ => true
theorem tstForm {e : Expr} {env : Env} (h : tstOk e = true) :
    ∀ whole, isTrue e env whole = (do let v ← whole; standAt e.pos; holding [v] (truthy v)) := by
  intro whole
  cases e <;> first | rfl | skip
  all_goals first | (cases h; done) | skip
  rename_i op _ _
  cases op <;> first | rfl | (cases h; done)
theorem plainIx {b : Expr} (h : notSlice b = true) : PlainIx b := by
  intro o i
  cases b <;> first | rfl | cases h
theorem plainBase_of {o : Expr} {nm : Str} {env : Env} {w : Sem Value} (h : plainBase o = true) : attributeBase o nm env w = w := by
  unfold attributeBase
  split
  · rename_i id p pos
    cases h
  · rfl
end
end M
end F_M4a
section F_M4b
set_option maxRecDepth 100000
namespace M
open PySem PySem.Spec PyProof.Rows L2
section
variable {G : List Val} {C : CallEnv}
theorem Out.bind_assoc {α β γ : Type} (o : Out α) (f : α → MS → Out β) (g : β → MS → Out γ) : (o.bind f).bind g = o.bind fun a s => (f a s).bind g := by
  cases o <;> rfl
theorem lift_bind {α β : Type} (o : Option α) (s : MS) (f : α → MS → Out β) : (lift o s).bind f = match o with
    | some a => f a s
    | none => .bad := by
  cases o <;> rfl
theorem bind_congr {α β : Type} {o : Out α} {f g : α → MS → Out β} (h : ∀ a s, f a s = g a s) : o.bind f = o.bind g := by
  cases o with
  | ok a s => exact h a s
  | _ => rfl
theorem test_not (a : E) : test G C (.not_ a) = fun s => (test G C a s).bind fun b s => .ok (!b) s := by
  funext s
  show ((ev G C a s).bind _).bind _ = ((ev G C a s).bind _).bind _
  rw [Out.bind_assoc, Out.bind_assoc]
  refine bind_congr fun x s => ?_
  rw [lift_bind, lift_bind]
  cases (s.rd x).bind tru <;> rfl
theorem test_and (a b : E) : test G C (.and_ a b) = fun s => (test G C a s).bind fun c s => if c then test G C b s else .ok false s := by
  funext s
  show ((ev G C a s).bind _).bind _ = ((ev G C a s).bind _).bind _
  rw [Out.bind_assoc, Out.bind_assoc]
  refine bind_congr fun x s => ?_
  rw [lift_bind]
  cases h : (s.rd x).bind tru with
  | none => rfl
  | some k =>
    cases k with
    | true => rfl
    | false => simp [h]
theorem test_or (a b : E) : test G C (.or_ a b) = fun s => (test G C a s).bind fun c s => if c then .ok true s else test G C b s := by
  funext s
  show ((ev G C a s).bind _).bind _ = ((ev G C a s).bind _).bind _
  rw [Out.bind_assoc, Out.bind_assoc]
  refine bind_congr fun x s => ?_
  rw [lift_bind]
  cases h : (s.rd x).bind tru with
  | none => rfl
  | some k =>
    cases k with
    | true => simp [h]
    | false => rfl
theorem lift_bool (o : Option Bool) (s : MS) : ((lift (o.map Val.bool) s).bind fun x s => lift ((s.rd x).bind tru) s) = lift o s := by
  cases o <;> rfl
theorem test_cmp (op : COp) (a b : E) : test G C (.cmp op a b) = fun s => (ev G C a s).bind fun x s => (ev G C b s).bind fun y s => lift ((s.rd x).bind fun x => (s.rd y).bind fun y => opC op x y) s := by
  funext s
  show ((ev G C a s).bind _).bind _ = _
  rw [Out.bind_assoc]
  refine bind_congr fun x s => ?_
  rw [Out.bind_assoc]
  exact bind_congr fun y s => lift_bool _ _
theorem test_cmp2 (op op2 : COp) (a b c : E) : test G C (.cmp2 op op2 a b c) = fun s => (ev G C a s).bind fun x s => (ev G C b s).bind fun y s => match (s.rd x).bind fun x => (s.rd y).bind fun y => opC op x y with
      | some true => (ev G C c s).bind fun z s => lift ((s.rd y).bind fun y => (s.rd z).bind fun z => opC op2 y z) s
      | some false => .ok false s
      | none => .bad := by
  funext s
  show ((ev G C a s).bind _).bind _ = _
  rw [Out.bind_assoc]
  refine bind_congr fun x s => ?_
  rw [Out.bind_assoc]
  refine bind_congr fun y s => ?_
  cases h : (s.rd x).bind fun x => (s.rd y).bind fun y => opC op x y with
  | none => rfl
  | some k =>
    cases k with
    | false => rfl
    | true =>
      simp only
      rw [Out.bind_assoc]
      exact bind_congr fun z s => lift_bool _ _
theorem ev_ife (c a b : E) : ev G C (.ife c a b) = fun s => (test G C c s).bind fun k s => if k then ev G C a s else ev G C b s := by
  funext s
  show (ev G C c s).bind _ = ((ev G C c s).bind _).bind _
  rw [Out.bind_assoc]
  refine bind_congr fun x s => ?_
  rw [lift_bind]
  cases h : (s.rd x).bind tru with
  | none => rfl
  | some k => cases k <;> rfl
theorem test_ife (c a b : E) : test G C (.ife c a b) = fun s => (test G C c s).bind fun k s => if k then test G C a s else test G C b s := by
  funext s
  unfold test
  rw [ev_ife]
  simp only
  rw [Out.bind_assoc]
  refine bind_congr fun k s => ?_
  cases k <;> rfl
theorem evt_one (e : E) : evt G C (.cons e .nil) = test G C e := by
  funext s
  show (ev G C e s).bind _ = (ev G C e s).bind _
  refine bind_congr fun x s => ?_
  cases h : (s.rd x).bind tru with
  | none => rfl
  | some k => cases k <;> rfl
theorem evs_len : ∀ (es : Es) (s : MS) (vs : List Val) (s' : MS), evs G C es s = .ok vs s' → ∀ l : List Expr, ∀ P N S, okEs P N S es l = true → vs.length = l.length
  | .nil, s, vs, s', h, l, P, N, S, ok => by
    cases l with
    | nil => cases h; rfl
    | cons _ _ => simp [okEs] at ok
  | .cons e es, s, vs, s', h, l, P, N, S, ok => by
    cases l with
    | nil => simp [okEs] at ok
    | cons x l =>
      simp only [okEs, Bool.and_eq_true] at ok
      simp only [evs] at h
      cases he : ev G C e s with
      | bad => rw [he] at h; cases h
      | exc _ _ => rw [he] at h; cases h
      | ok v s1 =>
        rw [he] at h
        simp only [Out.bind_ok] at h
        cases hk : keep v with
        | none => simp only [hk] at h; cases h
        | some w =>
          simp only [hk] at h
          cases h2 : evs G C es s1 with
          | bad => rw [h2] at h; cases h
          | exc _ _ => rw [h2] at h; cases h
          | ok ws s2 =>
            rw [h2] at h
            simp only [Out.bind_ok] at h
            cases h
            rw [List.length_cons, List.length_cons, evs_len es s1 ws _ h2 l P N S ok.2]
theorem evs_len1 {e : E} {s s' : MS} {vs : List Val} (h : evs G C (.cons e .nil) s = .ok vs s') : vs.length = 1 := by
  simp only [evs] at h
  cases he : ev G C e s with
  | bad => rw [he] at h; cases h
  | exc _ _ => rw [he] at h; cases h
  | ok v s1 =>
    rw [he] at h
    simp only [Out.bind_ok] at h
    cases hk : keep v with
    | none => simp only [hk] at h; cases h
    | some w => simp only [hk, Out.bind_ok] at h; cases h; rfl
end
section
variable {X : Cx} {W : WX} {c a b : Expr} {pos : Pos}
theorem pt_ifExp {tc ta tb : TT} (hc : PT X c tc) (ha : PT X a ta) (hb : PT X b tb) : PT X (.IfExp c a b pos) (fun σ H Q => tc σ H fun k H1 => if k = true then ta σ H1 Q else tb σ H1 Q) := by
  refine ⟨fun pins s σ H Q I h => ?_⟩
  show wpAny _ _ (do if ← isTrue c X.env (eval c X.env) then isTrue a X.env (eval a X.env) else isTrue b X.env (eval b X.env)) _ _ _
  refine wpAny_bind (thn (hc.run pins s σ H _ I h) fun k s1 ⟨H1, I1, q⟩ => ?_)
  cases k with
  | true => exact ha.run pins s1 σ H1 Q I1 q
  | false => exact hb.run pins s1 σ H1 Q I1 q
theorem sIfeT {k l m : MS → Out Bool} (hc : PT X c (tT X.K W k)) (ha : PT X a (tT X.K W l)) (hb : PT X b (tT X.K W m)) : PT X (.IfExp c a b pos) (tT X.K W fun s => (k s).bind fun b s => if b then l s else m s) := by
  refine PT.imp (pt_ifExp hc ha hb) fun σ H Q ⟨r, s, at_, q⟩ => ?_
  refine ⟨r, s, at_, (OP.bind q).imp fun v s1 H1 r1 _ st1 a1 q1 => ?_⟩
  cases v with
  | true => exact ite_tt ⟨r1, s1, a1, q1⟩
  | false => exact ite_ff ⟨r1, s1, a1, q1⟩
theorem PT.pw {op : BoolOp} {vs : List Expr} {t : TT} (h : PT X (.BoolOp op vs pos) t) : PW X (.BoolOp op vs pos) t := by
  refine ⟨fun wh pins s σ H Q I q => ?_⟩
  have := h.run pins s σ H Q I q
  exact this
theorem sOneV {op : BoolOp} {f : MS → Out Val} (h : PE X a (tE X.K W f)) : PE X (.BoolOp op [a] pos) (tE X.K W f) := pe_one h
end
end M
end F_M4b
section F_M4c
set_option maxRecDepth 100000
namespace M
open PySem PySem.Spec PyProof.Rows L2
structure Both (X : Cx) (W : WX) (e : Expr) (f : MS → Out Val) (k : MS → Out Bool) : Prop where
  pe : PE X e (tE X.K W f)
  pt : PT X e (tT X.K W k)
section
variable {P : Pr} {C : CallEnv} {N : List Str} {S : Scope} {L : Str → Bool} {W : WX} {X : Cx}
theorem Both.of {e' : E} {e : Expr} (h : PE X e (tE X.K W (ev P.G C e'))) (hf : tstOk e = true) : Both X W e (ev P.G C e') (test P.G C e') :=
  ⟨h, sTru h (tstForm hf)⟩
theorem not_true {b : Bool} (h : (!b) = true) : b = false := by cases b <;> simp_all
theorem okV_in {N : List Str} {S : Scope} {X : Cx} (hN : X.N = N) (sc : X.env.scope = S) {i : Nat} {x : Str} (h : okV N S i x = true) : X.N[i]? = some x ∧ Vis X.env.scope x ∧ (x == ("__debug__" : Str)) = false ∧ (x == ("__classdict__" : Str)) = false := by
  unfold okV at h
  simp only [Bool.and_eq_true] at h
  obtain ⟨⟨⟨h1, h2⟩, h3⟩, h4⟩ := h
  exact ⟨by rw [hN]; exact of_decide_eq_true h1, by rw [sc]; exact vis_of h2, not_true h3, not_true h4⟩
theorem okV_of (g : GX P C N S L W X) {i : Nat} {x : Str} (h : okV N S i x = true) : X.N[i]? = some x ∧ Vis X.env.scope x ∧ (x == ("__debug__" : Str)) = false ∧ (x == ("__classdict__" : Str)) = false := okV_in g.hN g.sc h
theorem blt_ty (g : GX P C N S L W X) {t : Ty} {pos : Pos} {x : Str} (hx : x = Str.ofString t.name) (h : isGl S x = true) : PE X (.Name x pos) (tC (.ty t.name)) := by
  have hg := g.isGl h
  subst hx
  cases t with
  | int => exact pe_bltn (v := .ty "int") hg (g.bl "int" (by simp)) (u := .type "int") (by decide +kernel) rfl (by decide +kernel) (by decide +kernel)
  | bool => exact pe_bltn (v := .ty "bool") hg (g.bl "bool" (by simp)) (u := .type "bool") (by decide +kernel) rfl (by decide +kernel) (by decide +kernel)
  | str => exact pe_bltn (v := .ty "str") hg (g.bl "str" (by simp)) (u := .type "str") (by decide +kernel) rfl (by decide +kernel) (by decide +kernel)
  | list => exact pe_bltn (v := .ty "list") hg (g.bl "list" (by simp)) (u := .type "list") (by decide +kernel) rfl (by decide +kernel) (by decide +kernel)
  | tuple => exact pe_bltn (v := .ty "tuple") hg (g.bl "tuple" (by simp)) (u := .type "tuple") (by decide +kernel) rfl (by decide +kernel) (by decide +kernel)
  | valueError => exact pe_bltn (v := .ty "ValueError") hg (g.bl "ValueError" (by simp)) (u := .type "ValueError") (by decide +kernel) rfl (by decide +kernel) (by decide +kernel)
  | dict => exact pe_bltn (v := .ty "dict") hg (g.bl "dict" (by simp)) (u := .type "dict") (by decide +kernel) rfl (by decide +kernel) (by decide +kernel)
theorem soCst (g : GX P C N S L W X) : ∀ (v : Val) (e : Expr), okCst S v e = true → Both X W e (ev P.G C (.cst v)) (test P.G C (.cst v)) := by
  intro v e h
  cases v with
  | none =>
    cases e <;> try (simp [okCst] at h; done)
    rename_i c _ _
    cases c <;> try (simp [okCst] at h; done)
    exact Both.of (sCst (x := .non) pe_non fun _ _ => rfl) rfl
  | bool b =>
    cases e <;> try (simp [okCst] at h; done)
    rename_i c _ _
    cases c <;> try (simp [okCst] at h; done)
    rename_i c'
    have : b = c' := by simpa [okCst] using h
    subst this
    exact Both.of (sCst (x := .bl b) pe_bl fun _ _ => rfl) rfl
  | int i =>
    cases e <;> try (simp [okCst] at h; done)
    rename_i c _ _
    cases c <;> try (simp [okCst] at h; done)
    rename_i c'
    have : i = c' := by simpa [okCst] using h
    subst this
    exact Both.of (sCst (x := .int i) pe_int fun _ _ => rfl) rfl
  | str s =>
    cases e <;> try (simp [okCst] at h; done)
    rename_i c _ _
    cases c <;> try (simp [okCst] at h; done)
    rename_i c'
    simp only [okCst, Bool.and_eq_true] at h
    have h1 := of_decide_eq_true h.1
    subst h1
    exact Both.of (sCst (x := .str _) pe_str fun _ _ => ⟨rfl, h.2⟩) rfl
  | ty t =>
    cases e <;> try (simp [okCst] at h; done)
    rename_i x pos
    simp only [okCst, Bool.and_eq_true] at h
    exact Both.of (sCst (blt_ty g (of_decide_eq_true h.1) h.2) fun _ _ => rfl) rfl
  | _ => cases e <;> simp [okCst] at h
theorem okEs_star : ∀ {es : Es} {l : List Expr}, okEs P N S es l = true → l.all nstar = true
  | .nil, [], _ => rfl
  | .nil, _ :: _, h => by simp [okEs] at h
  | .cons _ _, [], h => by simp [okEs] at h
  | .cons e es, x :: l, h => by
    simp only [okEs, Bool.and_eq_true] at h
    rw [List.all_cons, h.1.1, okEs_star h.2]
    rfl
structure Args (X : Cx) (W : WX) (l : List Expr) (f h : MS → Out (List Val)) : Prop where
  pa : PA X l (tA X.K W f)
  ph : PA X l (tAh X.K W h)
theorem boot_of : ∀ f : BF, bootBuiltins (Str.ofString (bfName f)) = some (bfVal f) := by
  intro f
  cases f <;> decide +kernel
theorem bcall (g : GX P C N S L W X) {f : BF} {y : Expr} {args : List Expr} {p pos : Pos} {l : MS → Out (List Val)} (hgl : isGl S (Str.ofString (bfName f)) = true) (ha : PA X (y :: args) (tAh X.K W l)) (hs : (y :: args).all nstar = true) :
    PE X (.Call (.Name (Str.ofString (bfName f)) p) (y :: args) [] pos) (tE X.K W fun s => (l s).bind fun vs s => lift ((vs.mapM s.rd).bind (opF f)) s) := by
  have hg := g.isGl hgl
  rw [List.all_cons, Bool.and_eq_true] at hs
  have hm : X.mg (Str.ofString (bfName f)) = none := g.bl _ (by cases f <;> simp [bfName])
  have hb := boot_of f
  have hn : Str.ofString (bfName f) ≠ "__name__" := by cases f <;> decide +kernel
  have hd : (Str.ofString (bfName f) == ("__debug__" : Str)) = false := by cases f <;> decide +kernel
  refine sCallB (u := bfVal f) (callOk g.calm g.un g.gd f) fun rr hr => ?_
  cases f with
  | len => exact pe_callB hr hg hm hb ha hn hd (star_cons hs.1 _ _) (star_any hs.2)
  | isinstance => exact pe_callB hr hg hm hb ha hn hd (star_cons hs.1 _ _) (star_any hs.2)
  | max2 => exact pe_callB hr hg hm hb ha hn hd (star_cons hs.1 _ _) (star_any hs.2)
  | min2 => exact pe_callB hr hg hm hb ha hn hd (star_cons hs.1 _ _) (star_any hs.2)
  | all_ => exact pe_callB hr hg hm hb ha hn hd (star_cons hs.1 _ _) (star_any hs.2)
  | any_ => exact pe_callB hr hg hm hb ha hn hd (star_cons hs.1 _ _) (star_any hs.2)
  | abs_ => exact pe_callB hr hg hm hb ha hn hd (star_cons hs.1 _ _) (star_any hs.2)
  | repr_ => exact pe_callB hr hg hm hb ha hn hd (star_cons hs.1 _ _) (star_any hs.2)
  | divmod => exact pe_callB hr hg hm hb ha hn hd (star_cons hs.1 _ _) (star_any hs.2)
  | sum_ => exact pe_callB hr hg hm hb ha hn hd (star_cons hs.1 _ _) (star_any hs.2)
  | int_ => exact pe_callTy hr hg hm hb ha hn hd (star_cons hs.1 _ _) (star_any hs.2)
  | str_ => exact pe_callTy hr hg hm hb ha hn hd (star_cons hs.1 _ _) (star_any hs.2)
  | list_ => exact pe_callTy hr hg hm hb ha hn hd (star_cons hs.1 _ _) (star_any hs.2)
  | tuple_ => exact pe_callTy hr hg hm hb ha hn hd (star_cons hs.1 _ _) (star_any hs.2)
  | bool_ => exact pe_callTy hr hg hm hb ha hn hd (star_cons hs.1 _ _) (star_any hs.2)
theorem list_call (g : GX P C N S L W X) {y : Expr} {args : List Expr} {p pos : Pos} {t : TA} (hgl : isGl S ("list" : Str) = true) (ha : PA X (y :: args) t) (hs : (y :: args).all nstar = true) (rr : List V → Hp → VK → Prop) (hr : CallR X (.type "list") rr) :
    PE X (.Call (.Name ("list" : Str) p) (y :: args) [] pos) fun σ H Q => t σ H fun vs H1 => rr vs H1 Q := by
  rw [List.all_cons, Bool.and_eq_true] at hs
  exact pe_callTy hr (g.isGl hgl) (g.bl "list" (by simp)) (boot_of .list_) ha (by decide +kernel) (by decide +kernel) (star_cons hs.1 _ _) (star_any hs.2)
theorem kwNil {X : Cx} {cpos : Pos} : (backToKw cpos (keywordEach [] X.env)).all (fun x => x.1.isSome) = true := rfl
theorem few {X : Cx} {es : List Expr} {cpos : Pos} (hs : es.all nstar = true) (hl : es.length < 30) : ((backTo cpos (starEach es X.env)).all (fun x => !x.1) && (backToKw cpos (keywordEach [] X.env)).all (fun x => x.1.isSome)
      && decide (es.length + ([] : List Keyword).length + (if ([] : List Keyword).isEmpty then 0 else 1) < 30)) = true := by
  rw [star_all hs, kwNil, decide_eq_true (by simpa using hl)]
  rfl
theorem meth (g : GX P C N S L W X) {m : MF} {o y : Expr} {args : List Expr} {ap cp : Pos} {f : MS → Out Val} {l : MS → Out (List Val)} (ho : PE X o (tE X.K W f)) (hb : plainBase o = true) (ha : PA X (y :: args) (tAh X.K W l)) (hs : (y :: args).all nstar = true) (hl : args.length < 28) (hp : (ap.endLine == cp.line) = true) :
    PE X (.Call (.Attribute o (Str.ofString (mfName m)) ap) (y :: args) [] cp) (tE X.K W fun s => (f s).bind fun x s => match x with
      | .str t => (l s).bind fun vs s => lift ((vs.mapM s.rd).bind (opM m (.str t))) s
      | _ => .bad) := by
  have hs' := hs
  rw [List.all_cons, Bool.and_eq_true] at hs'
  have hf := few (X := X) (cpos := cp) hs (by rw [List.length_cons]; omega)
  cases m with
  | strip => exact sMeth stripOk fun rr hr => pe_bm PySem.F.plainAttrs_str PySem.F.slot_str_strip PySem.F.type_str_strip hr ho ha (plainBase_of hb) hf hp (star_cons hs'.1 _ _) (star_any hs'.2)
  | count => exact sMeth countOk fun rr hr => pe_bm PySem.F.plainAttrs_str PySem.F.slot_str_count PySem.F.type_str_count hr ho ha (plainBase_of hb) hf hp (star_cons hs'.1 _ _) (star_any hs'.2)
  | find => exact sMeth findOk fun rr hr => pe_bm PySem.F.plainAttrs_str PySem.F.slot_str_find PySem.F.type_str_find hr ho ha (plainBase_of hb) hf hp (star_cons hs'.1 _ _) (star_any hs'.2)
  | join => exact sMeth joinOk fun rr hr => pe_bm PySem.F.plainAttrs_str PySem.F.slot_str_join PySem.F.type_str_join hr ho ha (plainBase_of hb) hf hp (star_cons hs'.1 _ _) (star_any hs'.2)
theorem lmeth (g : GX P C N S L W X) {o y : Expr} {args : List Expr} {ap cp : Pos} {f : MS → Out Val} {l : MS → Out (List Val)} (ho : PE X o (tE X.K W f)) (hb : plainBase o = true) (ha : PA X (y :: args) (tA X.K W l)) (hs : (y :: args).all nstar = true) (hl : args.length < 28) (hp : (ap.endLine == cp.line) = true) :
    (∀ rr, MtR X "list.append" rr → PE X (.Call (.Attribute o ("append" : Str) ap) (y :: args) [] cp) (tBM X.K "list" rr (tE X.K W f) (tA X.K W l))) ∧
    (∀ rr, MtR X "list.pop" rr → PE X (.Call (.Attribute o ("pop" : Str) ap) (y :: args) [] cp) (tBM X.K "list" rr (tE X.K W f) (tA X.K W l))) := by
  have hs' := hs
  rw [List.all_cons, Bool.and_eq_true] at hs'
  have hf := few (X := X) (cpos := cp) hs (by rw [List.length_cons]; omega)
  exact ⟨fun rr hr => pe_bm PySem.F.plainAttrs_list PySem.F.slot_list_append PySem.F.type_list_append hr ho ha (plainBase_of hb) hf hp (star_cons hs'.1 _ _) (star_any hs'.2),
    fun rr hr => pe_bm PySem.F.plainAttrs_list PySem.F.slot_list_pop PySem.F.type_list_pop hr ho ha (plainBase_of hb) hf hp (star_cons hs'.1 _ _) (star_any hs'.2)⟩
mutual
theorem okT_pg (g : GX P C N S L W X) : ∀ (t : T) (e : Expr), okT N L t e = true → PG X e (gT X.K t)
  | .nm i, e, h => by
    cases e <;> try (simp [okT] at h; done)
    rename_i x pos
    simp only [okT, Bool.and_eq_true] at h
    obtain ⟨h1, h2⟩ := h
    obtain ⟨k1, k2⟩ := g.ln x h2
    exact sNm (by rw [g.hN]; exact g.nd) (by rw [g.hN]; exact of_decide_eq_true h1) (by rw [g.sc]; exact k1) (by rw [g.sc]; exact k2)
  | .tup ts, e, h => by
    cases e <;> try (simp [okT] at h; done)
    rename_i es k pos
    simp only [okT] at h
    obtain ⟨h1, h2, h3⟩ := okTs_pg g ts es h
    exact sTupG g.calm h1 h2 h3
theorem okTs_pg (g : GX P C N S L W X) : ∀ (ts : List T) (es : List Expr), okTs N L ts es = true → PGs X es (gTs X.K ts) ∧ es.all nstar = true ∧ es.length = ts.length
  | [], [], _ => ⟨sNilG, rfl, rfl⟩
  | [], _ :: _, h => by simp [okTs] at h
  | _ :: _, [], h => by simp [okTs] at h
  | t :: ts, e :: es, h => by
    simp only [okTs, Bool.and_eq_true] at h
    obtain ⟨h1, h2, h3⟩ := okTs_pg g ts es h.2
    exact ⟨sConsG (okT_pg g t e h.1.2) h1 h.1.1, by rw [List.all_cons, h.1.1, h2]; rfl, by rw [List.length_cons, List.length_cons, h3]⟩
end
theorem setFree {i : Expr} {env : Env} (h : notSet i = true) : ∀ x, foldedSetIterable i env x = pure x := by
  intro x
  cases i <;> first | rfl | cases h
theorem own2_snd (N : List Str) (own : List Nat) : (own2 N own).map (·.2) = own := by
  unfold own2
  rw [List.map_map]
  exact List.map_id _
theorem lcPE (g : GX P C N S L W X) {x t i : Expr} {c : List Expr} {scope : Scope} {own : List Nat} {tg : T} {pos : Pos} {fs : MS → Out Src} {fi : MS → Out Bool} {fe : MS → Out Val} (hi : PI X t i (tI X.K W fs)) (h2 : notSet i = true) (h3 : blkC N S scope (own2 N own) = true)
    (h4 : okT N (blkL S scope) tg t = true) (h6 : (slotsOf tg).all (own.contains ·) = true)
    (ht : ∀ (s : Shared) (H : Hp) (Ca : Addr) (cl : List (Str × Addr)) (fp : List Addr), PTs (X.blk s H scope (compEnvC scope cl Ca X.env) fp) c (tT X.K W0 fi))
    (he : ∀ (s : Shared) (H : Hp) (Ca : Addr) (cl : List (Str × Addr)) (fp : List Addr), PE (X.blk s H scope (compEnvC scope cl Ca X.env) fp) x (tE X.K W0 fe)) :
    PE X (.ListComp x [⟨t, i, c, 0⟩] scope pos) (tF X.K W fun s => (fs s).bind fun src s1 => (noexc (lcL src own (lcTurn tg fi fe) [] src.items s1)).bind fun acc s2 => .ok acc (restoreS s1.sl own s2)) := by
  have hso : ∀ j ∈ slotsOf tg, j ∈ (own2 N own).map (·.2) := fun j hj => by
    rw [own2_snd]
    have := List.all_eq_true.mp h6 j hj
    simpa using this
  have ok := blkOk_by h3
  have := pe_lc (own := own2 N own) (g := gT X.K tg) (tt := tT X.K W0 fi) (te := tE X.K W0 fe) g.calm (by rw [g.hN]; exact g.nd) hi (by rw [g.hN, g.sc]; exact ok) (pos := pos) (fun s H Ca cl fp => okT_pg (g.wish0 ok.kind) tg t h4) ht he (setFree h2)
  refine PE.imp this fun σ H Q q => sLcF hso σ H Q ?_
  rw [own2_snd]
  exact q
mutual
theorem soE : ∀ (e' : E) {S : Scope} {L : Str → Bool} {W : WX} {X : Cx}, GX P C N S L W X → ∀ e : Expr, okE P N S e' e = true → Both X W e (ev P.G C e') (test P.G C e')
  | .var i, S, L, W, X, g, e, h => by
    cases e <;> try (simp [okE] at h; done)
    obtain ⟨h1, h2, h3, h4⟩ := okV_of g (by simpa only [okE] using h)
    exact Both.of (sVar h1 h2 h3 h4) rfl
  | .frz i, S, L, W, X, g, e, h => by
    cases e <;> try (simp [okE] at h; done)
    obtain ⟨h1, h2, h3, h4⟩ := okV_of g (by simpa only [okE] using h)
    exact Both.of (sFrz h1 h2 h3 h4) rfl
  | .cst v, S, L, W, X, g, e, h => soCst g v e (by cases e <;> simpa only [okE] using h)
  | .glob k, S, L, W, X, g, e, h => by
    cases e <;> try (simp [okE] at h; done)
    rename_i x pos
    simp only [okE, Bool.and_eq_true] at h
    obtain ⟨⟨h1, h2⟩, h3⟩ := h
    cases hk : P.gl[k]? with
    | none => rw [hk] at h1; cases h1
    | some yv =>
      obtain ⟨y, v⟩ := yv
      rw [hk] at h1
      have h1 := of_decide_eq_true h1
      subst h1
      obtain ⟨u, cv, k1, k2, k3⟩ := g.gl k y v hk
      have hG : P.G[k]? = some v := by unfold Pr.G; rw [List.getElem?_map, hk]; rfl
      have : ev P.G C (.glob k) = fun s => .ok v s := by
        funext s
        show lift P.G[k]? s = _
        rw [hG]
        rfl
      refine Both.of ?_ rfl
      rw [this]
      exact sCst (pe_glob (g.isGl h2) k1 k2 (not_true h3)) k3
  | .tup es, S, L, W, X, g, e, h => by
    cases e <;> try (simp [okE] at h; done)
    exact Both.of (sTup (soEs es g _ (by simpa only [okE] using h)).pa) rfl
  | .lst es, S, L, W, X, g, e, h => by
    cases e <;> try (simp [okE] at h; done)
    exact Both.of (sLst (soEs es g _ (by simpa only [okE] using h)).pa) rfl
  | .bin op a b, S, L, W, X, g, e, h => by
    cases e <;> try (simp [okE] at h; done)
    simp only [okE, Bool.and_eq_true] at h
    have h1 := of_decide_eq_true h.1.1
    subst h1
    exact Both.of (sBin (binOk op) (soE a g _ h.1.2).pe (soE b g _ h.2).pe) rfl
  | .neg a, S, L, W, X, g, e, h => by
    cases e <;> try (simp [okE] at h; done)
    rename_i op x pos
    cases op <;> try (simp [okE] at h; done)
    exact Both.of (sNeg (soE a g _ (by simpa only [okE] using h)).pe) rfl
  | .cmp op a b, S, L, W, X, g, e, h => by
    cases e <;> try (simp [okE] at h; done)
    rename_i x ops ys pos
    match ops, ys, h with
    | [o], [y], h =>
      simp only [okE, Bool.and_eq_true] at h
      have h1 := of_decide_eq_true h.1.1.1
      subst h1
      have ha := (soE a g _ h.1.1.2).pe
      have hb := (soE b g _ h.1.2).pe
      exact ⟨sCmp (cmpOk g.un op) ha hb (not_true h.2), by rw [test_cmp]; exact sCmpT (cmpOk g.un op) ha hb (not_true h.2)⟩
    | [], _, h => simp [okE] at h
    | _ :: _ :: _, [], h => simp [okE] at h
    | _ :: _ :: _, [_], h => simp [okE] at h
    | _ :: _ :: _, _ :: _ :: _, h => simp [okE] at h
    | [_], [], h => simp [okE] at h
    | [_], _ :: _ :: _, h => simp [okE] at h
  | .cmp2 op op2 a b c, S, L, W, X, g, e, h => by
    cases e <;> try (simp [okE] at h; done)
    rename_i x ops ys pos
    match ops, ys, h with
    | [o, o2], [y, z], h =>
      simp only [okE, Bool.and_eq_true] at h
      obtain ⟨⟨⟨⟨⟨h1, h2⟩, h3⟩, h4⟩, h5⟩, h6⟩ := h
      have h1 := of_decide_eq_true h1
      have h2 := of_decide_eq_true h2
      subst h1 h2
      have ha := (soE a g _ h3).pe
      have hb := (soE b g _ h4).pe
      have hc := (soE c g _ h5).pe
      exact ⟨sCmp2 (cmpOk g.un op) (cmpOk g.un op2) ha hb hc (not_true h6), by rw [test_cmp2]; exact sCmp2T (cmpOk g.un op) (cmpOk g.un op2) ha hb hc (not_true h6)⟩
    | [], _, h => simp [okE] at h
    | [_], _, h => simp [okE] at h
    | [_, _], [], h => simp [okE] at h
    | [_, _], [_], h => simp [okE] at h
    | [_, _], _ :: _ :: _ :: _, h => simp [okE] at h
    | _ :: _ :: _ :: _, _, h => simp [okE] at h
  | .not_ a, S, L, W, X, g, e, h => by
    cases e <;> try (simp [okE] at h; done)
    rename_i op x pos
    cases op <;> try (simp [okE] at h; done)
    have ih := soE a g x (by simpa only [okE] using h)
    exact ⟨sNotV ih.pe, by rw [test_not]; exact sNotT ih.pt⟩
  | .and_ a b, S, L, W, X, g, e, h => by
    cases e <;> try (simp [okE] at h; done)
    rename_i op vs pos
    cases op with
    | Or => simp [okE] at h
    | And =>
      match vs, h with
      | [], h => simp [okE] at h
      | [_], h => simp [okE] at h
      | [x, y], h =>
        simp only [okE, Bool.and_eq_true] at h
        have ha := soE a g _ h.1
        have hb := soE b g _ h.2
        exact ⟨sAndV ha.pe (sOneV hb.pe), by rw [test_and]; exact (sAnd (rest := []) ha.pt (sAnd1 (rest := []) hb.pt)).pt⟩
      | x :: y :: z :: rest, h =>
        simp only [okE, Bool.and_eq_true] at h
        have ha := soE a g _ h.1
        have hb := soE b g _ h.2
        exact ⟨sAndV ha.pe hb.pe, by rw [test_and]; exact (sAnd ha.pt (M.PT.pw hb.pt)).pt⟩
  | .or_ a b, S, L, W, X, g, e, h => by
    cases e <;> try (simp [okE] at h; done)
    rename_i op vs pos
    cases op with
    | And => simp [okE] at h
    | Or =>
      match vs, h with
      | [], h => simp [okE] at h
      | [_], h => simp [okE] at h
      | [x, y], h =>
        simp only [okE, Bool.and_eq_true] at h
        have ha := soE a g _ h.1
        have hb := soE b g _ h.2
        exact ⟨sOrV ha.pe (sOneV hb.pe), by rw [test_or]; exact (sOr (rest := []) ha.pt (sOr1 (rest := []) hb.pt)).pt⟩
      | x :: y :: z :: rest, h =>
        simp only [okE, Bool.and_eq_true] at h
        have ha := soE a g _ h.1
        have hb := soE b g _ h.2
        exact ⟨sOrV ha.pe hb.pe, by rw [test_or]; exact (sOr ha.pt (M.PT.pw hb.pt)).pt⟩
  | .ife c a b, S, L, W, X, g, e, h => by
    cases e <;> try (simp [okE] at h; done)
    simp only [okE, Bool.and_eq_true] at h
    have hc := soE c g _ h.1.1
    have ha := soE a g _ h.1.2
    have hb := soE b g _ h.2
    exact ⟨by rw [ev_ife]; exact sIfe hc.pt ha.pe hb.pe, by rw [test_ife]; exact sIfeT hc.pt ha.pt hb.pt⟩
  | .ix a i, S, L, W, X, g, e, h => by
    cases e <;> try (simp [okE] at h; done)
    simp only [okE, Bool.and_eq_true] at h
    exact Both.of (sIdx (soE a g _ h.1.1).pe (soE i g _ h.1.2).pe (plainIx h.2)) rfl
  | .slice a lo hi, S, L, W, X, g, e, h => by
    cases e <;> try (simp [okE] at h; done)
    rename_i x y pos
    cases y <;> try (simp [okE] at h; done)
    rename_i l u st p2
    cases st <;> try (simp [okE] at h; done)
    simp only [okE, Bool.and_eq_true] at h
    exact Both.of (sSlice (soE a g _ h.1.1).pe (soO lo g _ h.1.2) (soO hi g _ h.2)) rfl
  | .call f es, S, L, W, X, g, e, h => by
    cases e <;> try (simp [okE] at h; done)
    rename_i fn args kws pos
    cases fn <;> try (simp [okE] at h; done)
    rename_i x p
    match args, kws, h with
    | [], _, h => simp [okE] at h
    | _ :: _, _ :: _, h => simp [okE] at h
    | y :: args, [], h =>
      simp only [okE, Bool.and_eq_true] at h
      obtain ⟨⟨⟨h1, h2⟩, h3⟩, h4⟩ := h
      cases hd : P.fns[f]? with
      | none => rw [hd] at h1; cases h1
      | some d =>
        rw [hd] at h1
        simp only [Bool.and_eq_true] at h1
        have e1 := of_decide_eq_true h1.1.1
        have e2 := of_decide_eq_true h1.1.2
        have e3 := of_decide_eq_true h1.2
        subst e1
        obtain ⟨k, ⟨_, hr⟩, fns⟩ := g.fns
        obtain ⟨fa, fd, q1, q2, q3, q4⟩ := fns f d hd
        simp only [Bnd, e3] at q3
        have hst := okEs_star h4
        have hst' := hst
        rw [List.all_cons, Bool.and_eq_true] at hst'
        refine Both.of (sCall (soEs es g _ h4).pa (np := d.params.length) (gf := C f) (fun t ht => peG0 q4 hr (g.isGl h2) q1 q2 (fun σ => passAt g.tk σ) (not_true h3) q3 ht (star_cons hst'.1 _ _) (star_any hst'.2)) fun s vs s' hv => ?_) rfl
        rw [evs_len es s vs s' hv _ P N S h4, e2]
        rfl
  | .callD f es v, S, L, W, X, g, e, h => by
    cases e <;> try (simp [okE] at h; done)
    rename_i fn args kws pos
    cases fn <;> try (simp [okE] at h; done)
    rename_i x p
    match args, kws, h with
    | [], _, h => simp [okE] at h
    | _ :: _, _ :: _, h => simp [okE] at h
    | y :: args, [], h =>
      simp only [okE, Bool.and_eq_true] at h
      obtain ⟨⟨⟨h1, h2⟩, h3⟩, h4⟩ := h
      cases hd : P.fns[f]? with
      | none => rw [hd] at h1; cases h1
      | some d =>
        rw [hd] at h1
        simp only [Bool.and_eq_true] at h1
        obtain ⟨⟨e1, e2⟩, e3⟩ := h1
        have e1 := of_decide_eq_true e1
        have e2 := of_decide_eq_true e2
        subst e1
        cases hk : d.kwi with
        | none => rw [hk] at e3; cases e3
        | some nv =>
          obtain ⟨n, v'⟩ := nv
          rw [hk] at e3
          have e3 : v' = v := of_decide_eq_true e3
          subst e3
          obtain ⟨k, ⟨_, hr⟩, fns⟩ := g.fns
          obtain ⟨fa, fd, q1, q2, q3, q4⟩ := fns f d hd
          simp only [Bnd, hk] at q3
          obtain ⟨⟨ds, r1, r2⟩, _⟩ := q3
          have hst := okEs_star h4
          have hst' := hst
          rw [List.all_cons, Bool.and_eq_true] at hst'
          refine Both.of (sCallD (soEs es g _ h4).pa (np := d.params.length) (gf := C f) (fun t ht => peG q4 hr (g.isGl h2) q1 q2 (fun σ => passAt g.tk σ) (not_true h3) r2 r1 ht (star_cons hst'.1 _ _) (star_any hst'.2)) fun s vs s' hv => ?_) rfl
          rw [evs_len es s vs s' hv _ P N S h4, e2]
          rfl
  | .callK f es n ks, S, L, W, X, g, e, h => by
    cases e <;> try (simp [okE] at h; done)
    rename_i fn args kws pos
    cases fn <;> try (simp [okE] at h; done)
    rename_i x p
    match ks, args, kws, h with
    | .nil, _, _, h => simp [okE] at h
    | .cons _ (.cons _ _), _, _, h => simp [okE] at h
    | .cons _ .nil, [], _, h => simp [okE] at h
    | .cons _ .nil, _ :: _, [], h => simp [okE] at h
    | .cons _ .nil, _ :: _, _ :: _ :: _, h => simp [okE] at h
    | .cons e' .nil, y :: args, [⟨nm, a, kp⟩], h =>
      simp only [okE, Bool.and_eq_true] at h
      obtain ⟨⟨⟨⟨⟨h1, h2⟩, h3⟩, h4⟩, h5⟩, h6⟩ := h
      have h5 : nm = some n := of_decide_eq_true h5
      subst h5
      cases hd : P.fns[f]? with
      | none => rw [hd] at h1; cases h1
      | some d =>
        rw [hd] at h1
        simp only [Bool.and_eq_true] at h1
        obtain ⟨⟨e1, e2⟩, e3⟩ := h1
        have e1 := of_decide_eq_true e1
        have e2 := of_decide_eq_true e2
        subst e1
        cases hk : d.kwi with
        | none => rw [hk] at e3; cases e3
        | some nv =>
          obtain ⟨n', v'⟩ := nv
          rw [hk] at e3
          have e3 : n' = n := of_decide_eq_true e3
          subst e3
          obtain ⟨k, ⟨_, hr⟩, fns⟩ := g.fns
          obtain ⟨fa, fd, q1, q2, q3, q4⟩ := fns f d hd
          simp only [Bnd, hk] at q3
          obtain ⟨_, gb, r2⟩ := q3
          have hst := okEs_star h4
          have hst' := hst
          rw [List.all_cons, Bool.and_eq_true] at hst'
          refine Both.of (sCallK (soEs es g _ h4).pa (sConsK (soE e' g _ h6).pe sNilK) (n := d.params.length - 1) (np := d.params.length) (gf := C f) (fun t tk ht htk => peGK q4 hr (g.isGl h2) q1 q2 (fun σ => passAt g.tk σ) (not_true h3) r2 ht htk (star_cons hst'.1 _ _) (star_any hst)) (fun s vs s' hv => ?_) (fun s vs s' hv => ?_) (by omega)) rfl
          · rw [evs_len es s vs s' hv _ P N S h4, e2]
            rfl
          · exact evs_len1 hv
  | .bcall f es, S, L, W, X, g, e, h => by
    cases e <;> try (simp [okE] at h; done)
    rename_i fn args kws pos
    cases fn <;> try (simp [okE] at h; done)
    rename_i x p
    match args, kws, h with
    | [], _, h => simp [okE] at h
    | _ :: _, _ :: _, h => simp [okE] at h
    | y :: args, [], h =>
      simp only [okE, Bool.and_eq_true] at h
      have e1 := of_decide_eq_true h.1.1
      subst e1
      exact Both.of (bcall g h.1.2 (soEs es g _ h.2).ph (okEs_star h.2)) rfl
  | .meth m o es, S, L, W, X, g, e, h => by
    cases e <;> try (simp [okE] at h; done)
    rename_i fn args kws pos
    cases fn <;> try (simp [okE] at h; done)
    rename_i x nm ap
    match args, kws, h with
    | [], _, h => simp [okE] at h
    | _ :: _, _ :: _, h => simp [okE] at h
    | y :: args, [], h =>
      simp only [okE, Bool.and_eq_true] at h
      obtain ⟨⟨⟨⟨⟨h1, h2⟩, h3⟩, h4⟩, h5⟩, h6⟩ := h
      have e1 := of_decide_eq_true h1
      subst e1
      exact Both.of (meth g (soE o g _ h2).pe h3 (soEs es g _ h4).ph (okEs_star h4) (of_decide_eq_true h6) h5) rfl
  | .fld o n, S, L, W, X, g, e, h => by
    cases e <;> try (simp [okE] at h; done)
    simp only [okE, Bool.and_eq_true] at h
    obtain ⟨⟨h1, h2⟩, h3⟩ := h
    have h1 := of_decide_eq_true h1
    subst h1
    exact Both.of (sFld (soE o g _ h2).pe (plainBase_of h3)) rfl
  | .repl o y z, S, L, W, X, g, e, h => by cases e <;> simp [okE] at h
  | .app o es, S, L, W, X, g, e, h => by
    cases e <;> try (simp [okE] at h; done)
    rename_i fn args kws pos
    cases fn <;> try (simp [okE] at h; done)
    rename_i x nm ap
    match args, kws, h with
    | [], _, h => simp [okE] at h
    | _ :: _, _ :: _, h => simp [okE] at h
    | y :: args, [], h =>
      simp only [okE, Bool.and_eq_true] at h
      obtain ⟨⟨⟨⟨⟨h1, h2⟩, h3⟩, h4⟩, h5⟩, h6⟩ := h
      have e1 := of_decide_eq_true h1
      subst e1
      exact Both.of (sApp (lmeth g (soE o g _ h2).pe h3 (soEs es g _ h4).pa (okEs_star h4) (of_decide_eq_true h6) h5).1) rfl
  | .pop o es, S, L, W, X, g, e, h => by
    cases e <;> try (simp [okE] at h; done)
    rename_i fn args kws pos
    cases fn <;> try (simp [okE] at h; done)
    rename_i x nm ap
    match args, kws, h with
    | [], _, h => simp [okE] at h
    | _ :: _, _ :: _, h => simp [okE] at h
    | y :: args, [], h =>
      simp only [okE, Bool.and_eq_true] at h
      obtain ⟨⟨⟨⟨⟨h1, h2⟩, h3⟩, h4⟩, h5⟩, h6⟩ := h
      have e1 := of_decide_eq_true h1
      subst e1
      exact Both.of (sPop (lmeth g (soE o g _ h2).pe h3 (soEs es g _ h4).pa (okEs_star h4) (of_decide_eq_true h6) h5).2) rfl
  | .lc elt tg it ifs own, S, L, W, X, g, e, h => by
    cases e <;> try (simp [okE] at h; done)
    rename_i x gs scope pos
    match gs, h with
    | [], h => simp [okE] at h
    | [⟨t, i, c, ka⟩], h =>
      simp only [okE, Bool.and_eq_true] at h
      obtain ⟨⟨⟨⟨⟨⟨⟨⟨⟨h0, h1⟩, h2⟩, h3⟩, h4⟩, h5⟩, h6⟩, h7⟩, h8⟩, h9⟩ := h
      have h0 := of_decide_eq_true h0
      subst h0
      have hk : scope.kind = .function := (blkOk_by h3).kind
      refine Both.of ?_ rfl
      have hp := lcPE g (c := c) (fs := evI P.G C it) (fi := evt P.G C ifs) (fe := ev P.G C elt) (pos := pos) (soI it g t i h2.2 h1) h2.1 h3 h4 h6 (fun s H Ca cl fp => by
        have gb := g.wish0 (s := s) (H := H) (cl := cl) (Ca := Ca) (fp := fp) hk
        match c, h8, ifs, h7 with
        | [], _, .nil, _ => exact sNoIf
        | [c1], _, .cons e1 .nil, h7 =>
          rw [evt_one]
          simp only [okEs, Bool.and_eq_true] at h7
          exact sOneIf (soE e1 gb c1 h7.1.2).pt
        | [c1], _, .cons e1 (.cons _ _), h7 => simp [okEs] at h7
        | [c1], _, .nil, h7 => simp [okEs] at h7
        | [], _, .cons _ _, h7 => simp [okEs] at h7
        | _ :: _ :: _, h8, _, _ => simp at h8) fun s H Ca cl fp => (soE elt (g.wish0 hk) x h9).pe
      refine PE.imp hp fun σ H Q q => tE_tF ?_
      refine cast ?_ q
      congr 1
      funext s
      show (evI P.G C it s).bind _ = ((evI P.G C it s).bind _).bind _
      rw [Out.bind_assoc]
      refine bind_congr fun src s1 => ?_
      rw [Out.bind_assoc]
      rfl
    | _ :: _ :: _, h => simp [okE] at h
  | .shc elt tg it ifs own, S, L, W, X, g, e, h => by
    cases e <;> try (simp [okE] at h; done)
    rename_i x gs scope pos
    match gs, h with
    | [], h => simp [okE] at h
    | [⟨t, i, c, ka⟩], h =>
      simp only [okE, Bool.and_eq_true] at h
      obtain ⟨⟨⟨⟨⟨⟨⟨⟨⟨h0, h1⟩, h2⟩, h3⟩, h4⟩, h5⟩, h6⟩, h7⟩, h8⟩, h9⟩ := h
      have h0 := of_decide_eq_true h0
      subst h0
      have hk : scope.kind = .function := (blkOk_by h3).kind
      refine Both.of ?_ rfl
      have hp := lcPE g (c := c) (fs := evI P.G C it) (fi := evt P.G C ifs) (fe := ev P.G C elt) (pos := pos) (soI it g t i h2.2 h1) h2.1 h3 h4 h6 (fun s H Ca cl fp => by
        have gb := g.wish0 (s := s) (H := H) (cl := cl) (Ca := Ca) (fp := fp) hk
        match c, h8, ifs, h7 with
        | [], _, .nil, _ => exact sNoIf
        | [c1], _, .cons e1 .nil, h7 =>
          rw [evt_one]
          simp only [okEs, Bool.and_eq_true] at h7
          exact sOneIf (soE e1 gb c1 h7.1.2).pt
        | [c1], _, .cons e1 (.cons _ _), h7 => simp [okEs] at h7
        | [c1], _, .nil, h7 => simp [okEs] at h7
        | [], _, .cons _ _, h7 => simp [okEs] at h7
        | _ :: _ :: _, h8, _, _ => simp at h8) fun s H Ca cl fp => (soE elt (g.wish0 hk) x h9).pe
      refine PE.imp hp fun σ H Q q => tE_sh ?_
      refine cast ?_ q
      congr 1
      funext s
      show (evI P.G C it s).bind _ = ((evI P.G C it s).bind _).bind _
      rw [Out.bind_assoc]
      refine bind_congr fun src s1 => ?_
      rw [Out.bind_assoc]
      rfl
    | _ :: _ :: _, h => simp [okE] at h
  | .shl es, S, L, W, X, g, e, h => by
    cases e <;> try (simp [okE] at h; done)
    refine Both.of (PE.imp (lstF (soEs es g _ (by simpa only [okE] using h)).pa) fun σ H Q q => tE_sh ?_) rfl
    refine cast ?_ q
    congr 1
    funext s
    show (evs P.G C es s).bind _ = ((evs P.G C es s).bind _).bind _
    rw [Out.bind_assoc]
    refine bind_congr fun vs s1 => ?_
    split <;> rfl
theorem soEs : ∀ (es : Es) {S : Scope} {L : Str → Bool} {W : WX} {X : Cx}, GX P C N S L W X → ∀ l : List Expr, okEs P N S es l = true → Args X W l (evs P.G C es) (evh P.G C es)
  | .nil, S, L, W, X, g, l, h => by
    cases l with
    | nil => exact ⟨sNilA, sNilH⟩
    | cons _ _ => simp [okEs] at h
  | .cons e es, S, L, W, X, g, l, h => by
    cases l with
    | nil => simp [okEs] at h
    | cons x l =>
      simp only [okEs, Bool.and_eq_true] at h
      have h1 := (soE e g _ h.1.2).pe
      have h2 := soEs es g _ h.2
      exact ⟨sConsA h1 h2.pa h.1.1, sConsH h1 h2.ph h.1.1⟩
theorem soO : ∀ (o : Option E) {S : Scope} {L : Str → Bool} {W : WX} {X : Cx}, GX P C N S L W X → ∀ e : Option Expr, okO P N S o e = true → PO X e (tO X.K W (evO P.G C o))
  | none, S, L, W, X, g, e, h => by
    cases e with
    | none => exact sNoPart
    | some _ => simp [okO] at h
  | some a, S, L, W, X, g, e, h => by
    cases e with
    | none => simp [okO] at h
    | some x => exact sPart (soE a g x (by simpa only [okO] using h)).pe
theorem soI : ∀ (i : I) {S : Scope} {L : Str → Bool} {W : WX} {X : Cx}, GX P C N S L W X → ∀ (tg e : Expr), tupOk i tg = true → okI P N S i e = true → PI X tg e (tI X.K W (evI P.G C i))
  | .e a, S, L, W, X, g, tg, e, ht, h => sIter (soE a g e (by simpa only [okI] using h)).pe
  | .range es, S, L, W, X, g, tg, e, ht, h => by
    cases e <;> try (simp [okI] at h; done)
    rename_i fn args kws pos
    cases fn <;> try (simp [okI] at h; done)
    rename_i x p
    match args, kws, h with
    | [], _, h => simp [okI] at h
    | [a], [], h =>
      simp only [okI, Bool.and_eq_true] at h
      have e1 := of_decide_eq_true h.1.1
      subst e1
      have hs := okEs_star h.2
      simp only [List.all_cons, List.all_nil, Bool.and_true] at hs
      exact sRange1 (g.isGl h.1.2) (g.bl "range" (by simp)) (soEs es g _ h.2).pa hs fun s vs s' hv => evs_len es s vs s' hv _ P N S h.2
    | [a, b], [], h =>
      simp only [okI, Bool.and_eq_true] at h
      have e1 := of_decide_eq_true h.1.1
      subst e1
      have hs := okEs_star h.2
      simp only [List.all_cons, List.all_nil, Bool.and_true, Bool.and_eq_true] at hs
      exact sRange2 (g.isGl h.1.2) (g.bl "range" (by simp)) (soEs es g _ h.2).pa hs.1 hs.2 fun s vs s' hv => evs_len es s vs s' hv _ P N S h.2
    | _ :: _ :: _ :: _, _, h => simp [okI] at h
    | [_], _ :: _, h => simp [okI] at h
    | [_, _], _ :: _, h => simp [okI] at h
  | .enum x, S, L, W, X, g, tg, e, ht, h => by simp [okI] at h
  | .zip a b, S, L, W, X, g, tg, e, ht, h => by simp [okI] at h
  | .rev x, S, L, W, X, g, tg, e, ht, h => by simp [okI] at h
  | .ez es st, S, L, W, X, g, tg, e, ht, h => by
    simp only [okI] at h
    cases hsh : ezSh e with
    | none => rw [hsh] at h; exact absurd h Bool.false_ne_true
    | some t =>
      obtain ⟨x, y, a, b, kws⟩ := t
      rw [hsh] at h
      obtain ⟨p, p2, pos2, pos, rfl⟩ := ezSh_by hsh
      simp only [Bool.and_eq_true] at h
      obtain ⟨⟨⟨⟨⟨h1, h2⟩, h3⟩, h4⟩, h5⟩, h6⟩ := h
      have h1 := of_decide_eq_true h1
      have h2 := of_decide_eq_true h2
      subst h1 h2
      obtain ⟨o, rfl⟩ := kwZ_by h6
      obtain ⟨elts, kk, tpos, rfl⟩ := isTupT_by ht
      have hs := okEs_star h5
      simp only [List.all_cons, List.all_nil, Bool.and_true, Bool.and_eq_true] at hs
      exact sEz (g.isGl h3) (g.bl "enumerate" (by simp)) (g.isGl h4) (g.bl "zip" (by simp)) (soEs es g _ h5).pa hs.1 hs.2
end
end
end M
end F_M4c
section F_M4d
set_option maxRecDepth 100000
namespace M
open PySem PySem.Spec PyProof.Rows L2
def swB (S : Scope) : Expr → Expr → Bool
  | .ListComp _ _ sc p, .Name t p' => decide (S.names.lookup t = some .local) && (p'.line == p.line) && !(sc.names.any fun (n, k) => n == t && (k == .local || k == .cell))
  | .SetComp _ _ sc p, .Name t p' => decide (S.names.lookup t = some .local) && (p'.line == p.line) && !(sc.names.any fun (n, k) => n == t && (k == .local || k == .cell))
  | .DictComp _ _ _ sc p, .Name t p' => decide (S.names.lookup t = some .local) && (p'.line == p.line) && !(sc.names.any fun (n, k) => n == t && (k == .local || k == .cell))
  | _, _ => false
theorem beq_dec (a b : Option NameKind) : (a == b) = decide (a = b) := by
  rw [Bool.eq_iff_iff]; simp
theorem star_match {a : Expr} (h : nstar a = true) : (match a with | .Starred _ _ => true | _ => false) = false := by
  cases a <;> first | rfl | cases h
def isNewE : E → Bool
  | .lst _ => true | .bcall .list_ _ => true | .lc .. => true | _ => false
def isLcAsg : T → E → Expr → Expr → Bool
  | .nm _, .lc .., .Name _ _, .ListComp .. => true
  | .nm _, .shc .., .Name _ _, .ListComp .. => true
  | _, _, _, _ => false
theorem sole {t v : Expr} {l : Nat} {env : Env} : swapsWithSole [t] v l env = swapsWith v (some t) l env := rfl
theorem sw_eq {env : Env} {S : Scope} (hs : env.scope = S) (hk : S.kind = .function) (x tg : Expr) (l : Nat) : swapsWith x (some tg) l env = pure (swB S x tg) := by
  have hb : env.blockKind = .function := by unfold Env.blockKind; rw [hs, hk]; rfl
  have hn : ∀ t, (env.kindOf t == some .local) = decide (S.names.lookup t = some .local) := fun t => by
    show (env.scope.names.lookup t == some .local) = _
    rw [hs]
    exact beq_dec _ _
  cases x <;> first | (cases tg <;> rfl) | skip
  all_goals
    cases tg <;> first | rfl | skip
    unfold swapsWith swB
    simp only [hb, hn, Expr.pos]
    rfl
def notComp : Expr → Bool
  | .ListComp .. => false | .SetComp .. => false | .DictComp .. => false | _ => true
theorem sw_none {x : Expr} {l : Nat} {env : Env} (h : notComp x = true) : swapsWith x none l env = pure false := by
  cases x <;> first | rfl | cases h
def twoTup : Expr → Expr → Bool
  | .Tuple .., .Tuple .. => true
  | .List .., .Tuple .. => true
  | _, _ => false
theorem st_none {tg x : Expr} {env : Env} (h : twoTup tg x = false) : swappedStores [tg] x env = pure none := by
  cases tg <;> cases x <;> first | rfl | cases h
def parB (S : Scope) (x y : Str) (px py : Pos) (a b : Expr) : Bool :=
  decide (S.names.lookup x = some .local) && decide (S.names.lookup y = some .local) && (py.line == px.line) && !decide (x = y) && nstar a && nstar b && !([a, b].all (foldedForSure 8)) && !([a, b].all (constantsAlone 8))
theorem par_eq {env : Env} {S : Scope} {x y : Str} {px py pt pt2 : Pos} {k k2 : Nat} {a b : Expr} (hs : env.scope = S) (hk : S.kind = .function) (h : parB S x y px py a b = true) :
    swappedStores [.Tuple [.Name x px, .Name y py] k pt] (.Tuple [a, b] k2 pt2) env = pure (some [x, y]) := by
  have hb : env.blockKind = .function := by unfold Env.blockKind; rw [hs, hk]; rfl
  unfold parB at h
  simp only [Bool.and_eq_true] at h
  obtain ⟨⟨⟨⟨⟨⟨⟨h1, h2⟩, h3⟩, h4⟩, h5⟩, h6⟩, h7⟩, h8⟩ := h
  have e1 : (env.kindOf x == some .local) = true := by show (env.scope.names.lookup x == some .local) = true; rw [hs, of_decide_eq_true h1]; rfl
  have e2 : (env.kindOf y == some .local) = true := by show (env.scope.names.lookup y == some .local) = true; rw [hs, of_decide_eq_true h2]; rfl
  have h4' : ¬ x = y := of_decide_eq_false (not_true h4)
  have hl : (py.line == px.line) = true := h3
  unfold swappedStores
  simp only [List.length_cons, List.length_nil, hb, List.any_cons, List.any_nil, star_match h5, star_match h6, List.filterMap_cons, List.filterMap_nil, e1, e2, List.head?_cons, Option.map_some, Option.getD_some, Expr.pos, hl, beq_self_eq_true, Bool.and_self, if_true, not_true h7, not_true h8]
  have hxy : (y == x) = false := beq_eq_false_iff_ne.mpr fun e => h4' e.symm
  have hxy2 : (x == y) = false := beq_eq_false_iff_ne.mpr h4'
  have ed : ([x, y] : List Str).eraseDups.length = 2 := by
    simp [List.eraseDups_cons, hxy, h4', hxy2]
  simp only [ed, beq_self_eq_true, Bool.and_true, if_true]
  simp
  intro hh
  exfalso
  rcases hh with hh | hh
  · cases a <;> first | (simp at hh; done) | (simp [nstar] at h5; done)
  · cases b <;> first | (simp at hh; done) | (simp [nstar] at h6; done)
def okCls (P : Pr) (k : Nat) (x : Str) : Bool := match P.gl[k]? with
  | some (y, .cls c _ _) => decide (y = x) && decide (c = x)
  | _ => false
theorem okCls_by {P : Pr} {k : Nat} {x : Str} (h : okCls P k x = true) : ∃ subs nots, P.gl[k]? = some (x, .cls x subs nots) := by
  unfold okCls at h
  split at h
  · rename_i y c subs nots e
    simp only [Bool.and_eq_true] at h
    have h1 := of_decide_eq_true h.1
    have h2 := of_decide_eq_true h.2
    subst h1 h2
    exact ⟨subs, nots, e⟩
  · cases h
def raiseSh : Option Expr → Option Expr → Option Str
  | some (.Call (.Name x _) [.Constant (.str _) _ _] [] _), none => some x
  | _, _ => none
theorem raiseSh_by {e c : Option Expr} {x : Str} (h : raiseSh e c = some x) : ∃ p m j p2 q, e = some (.Call (.Name x p) [.Constant (.str m) j p2] [] q) ∧ c = none := by
  unfold raiseSh at h
  split at h
  · cases h
    exact ⟨_, _, _, _, _, rfl, rfl⟩
  · cases h
def raiseSh0 : Option Expr → Option Expr → Option Str
  | some (.Call (.Name x _) [] [] _), none => some x
  | _, _ => none
theorem raiseSh0_by {e c : Option Expr} {x : Str} (h : raiseSh0 e c = some x) : ∃ p q, e = some (.Call (.Name x p) [] [] q) ∧ c = none := by
  unfold raiseSh0 at h
  split at h
  · cases h
    exact ⟨_, _, rfl, rfl⟩
  · cases h
def raiseShA : Option Expr → Option Expr → Option (Str × Expr × List Expr)
  | some (.Call (.Name x _) (y :: args) [] _), none => some (x, y, args)
  | _, _ => none
theorem raiseShA_by {e c : Option Expr} {x : Str} {y : Expr} {args : List Expr} (h : raiseShA e c = some (x, y, args)) : ∃ p q, e = some (.Call (.Name x p) (y :: args) [] q) ∧ c = none := by
  unfold raiseShA at h
  split at h
  · cases h
    exact ⟨_, _, rfl, rfl⟩
  · cases h
def raiseShK : Option Expr → Option Expr → Option (Str × List Keyword)
  | some (.Call (.Name x _) [] kwl _), none => some (x, kwl)
  | _, _ => none
theorem raiseShK_by {e c : Option Expr} {x : Str} {kwl : List Keyword} (h : raiseShK e c = some (x, kwl)) : ∃ p q, e = some (.Call (.Name x p) [] kwl q) ∧ c = none := by
  unfold raiseShK at h
  split at h
  · cases h
    exact ⟨_, _, rfl, rfl⟩
  · cases h
def kwN : List Keyword → List Str → Bool
  | [], [] => true
  | ⟨some m, _, _⟩ :: l, n :: ns => decide (m = n) && kwN l ns
  | _, _ => false
theorem kwN_by {env : Env} {pos : Pos} : ∀ {l : List Keyword} {ns : List Str}, kwN l ns = true → (backToKw pos (keywordEach l env)).all (·.1.isSome) = true ∧ (backToKw pos (keywordEach l env)).filterMap (·.1) = ns ∧ (backToKw pos (keywordEach l env)).any (·.1.isNone) = false
  | [], [], _ => ⟨rfl, rfl, rfl⟩
  | [], _ :: _, h => by simp [kwN] at h
  | ⟨none, _, _⟩ :: l, ns, h => by cases ns <;> simp [kwN] at h
  | ⟨some m, x, q⟩ :: l, [], h => by simp [kwN] at h
  | ⟨some m, x, q⟩ :: l, n :: ns, h => by
    simp only [kwN, Bool.and_eq_true, decide_eq_true_eq] at h
    obtain ⟨rfl, h⟩ := h
    obtain ⟨h1, h2, h3⟩ := kwN_by (env := env) (pos := pos) h
    unfold backToKw at h1 h2 h3 ⊢
    exact ⟨by simpa [keywordEach] using h1, by simpa [keywordEach] using h2, by simpa [keywordEach] using h3⟩
def okKs (P : Pr) (N : List Str) (S : Scope) : Es → List Keyword → Bool
  | .nil, [] => true
  | .cons e es, k :: l => okE P N S e k.value && okKs P N S es l
  | _, _ => false
def okXc (P : Pr) (S : Scope) (c x : Str) : Bool := decide (c = x) && isGl S x && !(x == ("__debug__" : Str))
def okRs (P : Pr) (S : Scope) (c : Str) : Option Str → Bool
  | some x => decide (c = x) && decide (x ∈ P.exs) && isGl S x && !(x == ("__debug__" : Str))
  | none => false
def trySh : List ExceptHandler → List Stmt → List Stmt → Option (Str × Str × Str × Str)
  | [.ExceptHandler (some (.Name x _)) (some n) [.Assign [.Name m _] (.Name n2 _) _] _], [], [] => some (x, n, m, n2)
  | _, _, _ => none
theorem trySh_by {hs : List ExceptHandler} {oe fi : List Stmt} {x n m n2 : Str} (h : trySh hs oe fi = some (x, n, m, n2)) : ∃ p p1 p2 p3 p4, hs = [.ExceptHandler (some (.Name x p)) (some n) [.Assign [.Name m p1] (.Name n2 p2) p3] p4] ∧ oe = [] ∧ fi = [] := by
  unfold trySh at h
  split at h
  · cases h
    exact ⟨_, _, _, _, _, rfl, rfl, rfl⟩
  · cases h
def okTry (P : Pr) (N : List Str) (S : Scope) (L : Str → Bool) (k i j : Nat) : Option (Str × Str × Str × Str) → Bool
  | some (x, n, m, n2) => okCls P k x && isGl S x && !(x == ("__debug__" : Str)) && decide (N[i]? = some n) && decide (N[j]? = some m) && decide (n2 = n) && decide (S.names.lookup n = some .local) && L m && !(n == ("__debug__" : Str)) && !(n == ("__classdict__" : Str))
  | none => false
def okRz (P : Pr) (N : List Str) (S : Scope) : RK → Option Expr → Option Expr → Bool
  | .r0 c, eo, ca => okRs P S c (raiseSh0 eo ca)
  | .rE c e, eo, ca => (match raiseShA eo ca with | some (x, y, []) => okRs P S c (some x) && nstar y && okE P N S e y | _ => false)
  | .rI c ns es, eo, ca => (match raiseShA eo ca with | some (x, y, args) => okXc P S c x && P.exi.any (fun t => decide (t.1 = c) && decide (t.2.1 = ns)) && okEs P N S es (y :: args) | none => false)
  | .rK c ns ks is es, eo, ca => (match raiseShK eo ca with | some (x, kwl) => okXc P S c x && P.exi.any (fun t => decide (t.1 = c) && decide (t.2.1 = ns) && decide ((ks, is) ∈ t.2.2)) && kwN kwl ks && okKs P N S es kwl | none => false)
mutual
def okS (P : Pr) (N : List Str) (S : Scope) (L : Str → Bool) : St → Stmt → Bool
  | .asg t e, .Assign [tg] x _ => okE P N S e x && okT N L t tg && nstar tg && !twoTup tg x && (!swB S x tg || isLcAsg t e tg x)
  | .own i e, .Assign [.Name y _] x _ => okE P N S e x && decide (N[i]? = some y) && L y && isNewE e
  | .par i j a b, .Assign [.Tuple [.Name x px, .Name y py] _ _] (.Tuple [u, v] _ _) _ => okEs P N S (.cons a (.cons b .nil)) [u, v] && decide (N[i]? = some x) && decide (N[j]? = some y) && parB S x y px py u v && decide (i ≠ j)
  | .aug i op e, .AugAssign (.Name x _) o y _ => decide (o = opOf op) && decide (N[i]? = some x) && L x && okE P N S e y
  | .if_ c a b, .If x u v _ => okE P N S c x && okSs P N S L a u && okSs P N S L b v
  | .while_ c b, .While x u [] _ => okE P N S c x && okSs P N S L b u
  | .for_ t it b, .For tg i u [] _ => okT N L t tg && okI P N S it i && (notSet i && tupOk it tg) && okSs P N S L b u
  | .ret e, .Return (some x) _ => okE P N S e x
  | .retN, .Return none _ => true
  | .expr e, .Expr x _ => okE P N S e x && notComp x
  | .pass_, .Pass _ => true
  | .brk, .Break _ => true
  | .cont, .Continue _ => true
  | .never, _ => true
  | .raise_ c, .Raise eo ca _ => okRs P S c (raiseSh eo ca)
  | .rz k, .Raise eo ca _ => okRz P N S k eo ca
  | .tryAs b k i j, .Try body hs oe fi _ => okTry P N S L k i j (trySh hs oe fi) && okSs P N S L b body
  | .setIx o i e, .Assign [.Subscript u v _] x _ => okE P N S o u && okE P N S i v && okE P N S e x && notSlice v
  | _, _ => false
def okSs (P : Pr) (N : List Str) (S : Scope) (L : Str → Bool) : Sts → List Stmt → Bool
  | .nil, [] => true
  | .cons a b, x :: xs => okS P N S L a x && okSs P N S L b xs
  | _, _ => false
end
section
variable {P : Pr} {C : CallEnv} {N : List Str} {S : Scope} {L : Str → Bool} {W : WX} {X : Cx}
theorem loc_of (g : GX P C N S L W X) {x : Str} (h : L x = true) : Loc X.env.scope x ∧ (X.fn x = true ∨ X.env.scope.names.lookup x = some .local) := by
  rw [g.sc]; exact g.ln x h
theorem hNi (g : GX P C N S L W X) {x : Str} {i : Nat} (h : decide (N[i]? = some x) = true) : X.N.Nodup ∧ X.N[i]? = some x := by
  rw [g.hN]; exact ⟨g.nd, of_decide_eq_true h⟩
theorem setLc (g : GX P C N S L W X) {elt : E} {tg : T} {it : I} {ifs : Es} {own : List Nat} {x t i : Expr} {c : List Expr} {scope : Scope} {ka : Int} {pos spos py : Pos} {y : Str} {k : Nat}
    (ok : okE P N S (.lc elt tg it ifs own) (.ListComp x [⟨t, i, c, ka⟩] scope pos) = true) (hy : N[k]? = some y) (hsw : swB S (.ListComp x [⟨t, i, c, ka⟩] scope pos) (.Name y py) = true) :
    PS X (.Assign [.Name y py] (.ListComp x [⟨t, i, c, ka⟩] scope pos) spos) (tAsg (tF X.K W fun s => (evI P.G C it s).bind fun src s1 => (noexc (lcL src own (lcTurn tg (evt P.G C ifs) (ev P.G C elt)) [] src.items s1)).bind fun acc s2 => .ok acc (restoreS s1.sl own s2)) (gName k)) := by
  simp only [okE, Bool.and_eq_true] at ok
  obtain ⟨⟨⟨⟨⟨⟨⟨⟨⟨h0, h1⟩, h2⟩, h3⟩, h4⟩, h5⟩, h6⟩, h7⟩, h8⟩, h9⟩ := ok
  have h0 := of_decide_eq_true h0
  subst h0
  have ok := blkOk_by h3
  have hso : ∀ j ∈ slotsOf tg, j ∈ (own2 N own).map (·.2) := fun j hj => by
    rw [own2_snd]
    have := List.all_eq_true.mp h6 j hj
    simpa using this
  have hyl : S.names.lookup y = some .local := by
    simp only [swB, Bool.and_eq_true] at hsw
    exact of_decide_eq_true hsw.1.1
  have hp := ps_setLc (X := X) (i := k) (py := py) (pos := pos) (spos := spos) (own := own2 N own) (g := gT X.K tg) (tt := tT X.K W0 (evt P.G C ifs)) (te := tE X.K W0 (ev P.G C elt)) g.calm (by rw [g.hN]; exact g.nd) (by rw [g.hN]; exact hy) (by rw [g.sc]; exact hyl)
    (by rw [sw_eq g.sc g.kind, hsw]) (soI it g t i h2.2 h1) (by rw [g.hN, g.sc]; exact ok) (fun s H Ca cl fp => okT_pg (g.wish0 ok.kind) tg t h4) (fun s H Ca cl fp => by
        have gb := g.wish0 (s := s) (H := H) (cl := cl) (Ca := Ca) (fp := fp) ok.kind
        match c, h8, ifs, h7 with
        | [], _, .nil, _ => exact sNoIf
        | [c1], _, .cons e1 .nil, h7 =>
          rw [evt_one]
          simp only [okEs, Bool.and_eq_true] at h7
          exact sOneIf (soE e1 gb c1 h7.1.2).pt
        | [c1], _, .cons e1 (.cons _ _), h7 => simp [okEs] at h7
        | [c1], _, .nil, h7 => simp [okEs] at h7
        | [], _, .cons _ _, h7 => simp [okEs] at h7
        | _ :: _ :: _, h8, _, _ => simp at h8) (fun s H Ca cl fp => (soE elt (g.wish0 ok.kind) x h9).pe) (setFree h2.1)
  refine PS.imp hp fun D σ H q => sLcF hso σ H _ ?_
  rw [own2_snd]
  exact q
theorem lc_tF {elt : E} {tg : T} {it : I} {ifs : Es} {own : List Nat} : ev P.G C (.lc elt tg it ifs own) = fun s => ((evI P.G C it s).bind fun src s1 => (noexc (lcL src own (lcTurn tg (evt P.G C ifs) (ev P.G C elt)) [] src.items s1)).bind fun acc s2 => .ok acc (restoreS s1.sl own s2)).bind fun vs s => .ok (.lst vs) s := by
  funext s
  rw [Out.bind_assoc]
  show (evI P.G C it s).bind _ = _
  refine bind_congr fun src s1 => ?_
  rw [Out.bind_assoc]
  rfl
theorem fl_bind {α β : Type} (o : Out α) (f : α → MS → Out β) (g : β → MS → Fl) : (o.bind f).fl g = o.fl fun a s => (f a s).fl g := by
  cases o <;> rfl
theorem fl_congr {α : Type} {o : Out α} {f g : α → MS → Fl} (h : ∀ a s, f a s = g a s) : o.fl f = o.fl g := by
  cases o with
  | ok a s => exact h a s
  | _ => rfl
theorem shc_tF {elt : E} {tg : T} {it : I} {ifs : Es} {own : List Nat} : ev P.G C (.shc elt tg it ifs own) = fun s => ((evI P.G C it s).bind fun src s1 => (noexc (lcL src own (lcTurn tg (evt P.G C ifs) (ev P.G C elt)) [] src.items s1)).bind fun acc s2 => .ok acc (restoreS s1.sl own s2)).bind fun vs s => .ok (.ref s.mu.length) { s with mu := s.mu ++ [.lst vs] } := by
  funext s
  rw [Out.bind_assoc]
  show (evI P.G C it s).bind _ = _
  refine bind_congr fun src s1 => ?_
  rw [Out.bind_assoc]
  rfl
theorem soF (g : GX P C N S L W X) (e : E) (x : Expr) (h : okE P N S e x = true) (hf : isNewE e = true) : ∃ k : MS → Out (List Val), PE X x (tF X.K W k) ∧ ∀ (i : Nat) s, ex P.G C (.own i e) s = (k s).fl fun vs s => if i < s.sl.length then .next { s with sl := s.sl.set i (.own (.lst vs)) } else .bad := by
  cases e with
  | lst es =>
    cases x <;> try (simp [okE] at h; done)
    refine ⟨_, sLstF (soEs es g _ (by simpa only [okE] using h)).pa, fun i s => ?_⟩
    show ((evs P.G C es s).bind _).fl _ = ((evs P.G C es s).bind _).fl _
    rw [fl_bind, fl_bind]
    refine fl_congr fun vs s => ?_
    split <;> rfl
  | bcall f es =>
    cases f with
    | list_ =>
      cases x <;> try (simp [okE] at h; done)
      rename_i fn args kws pos
      cases fn <;> try (simp [okE] at h; done)
      rename_i x p
      match args, kws, h with
      | [], _, h => simp [okE] at h
      | _ :: _, _ :: _, h => simp [okE] at h
      | y :: args, [], h =>
        simp only [okE, Bool.and_eq_true] at h
        have e1 := of_decide_eq_true h.1.1
        subst e1
        refine ⟨_, sListF (l := evh P.G C es) (list_call g h.1.2 (soEs es g _ h.2).ph (okEs_star h.2)), fun i s => ?_⟩
        show ((evh P.G C es s).bind _).fl _ = ((evh P.G C es s).bind _).fl _
        rw [fl_bind, fl_bind]
        refine fl_congr fun vs s => ?_
        cases vs.mapM s.rd with
        | none => rfl
        | some ws =>
          simp only [Option.bind_some]
          match ws with
          | [] => rfl
          | [.lst us] => rfl
          | [.tup us] => rfl
          | [.none] => rfl
          | [.bool _] => rfl
          | [.int _] => rfl
          | [.str _] => rfl
          | [.ref _] => rfl
          | [.loc _] => rfl
          | [.ty _] => rfl
          | [.rol _] => rfl
          | [.exc _ _ _] => rfl
          | [.cls _ _ _] => rfl
          | u :: v :: r => cases u <;> rfl
    | _ => simp [isNewE] at hf
  | lc elt tg it ifs own =>
    cases x <;> try (simp [okE] at h; done)
    rename_i x gs scope pos
    match gs, h with
    | [], h => simp [okE] at h
    | _ :: _ :: _, h => simp [okE] at h
    | [⟨t, i, c, ka⟩], h =>
      simp only [okE, Bool.and_eq_true] at h
      obtain ⟨⟨⟨⟨⟨⟨⟨⟨⟨h0, h1⟩, h2⟩, h3⟩, h4⟩, h5⟩, h6⟩, h7⟩, h8⟩, h9⟩ := h
      have h0 := of_decide_eq_true h0
      subst h0
      have hk : scope.kind = .function := (blkOk_by h3).kind
      refine ⟨_, lcPE g (c := c) (fs := evI P.G C it) (fi := evt P.G C ifs) (fe := ev P.G C elt) (pos := pos) (soI it g t i h2.2 h1) h2.1 h3 h4 h6 (fun s H Ca cl fp => by
        have gb := g.wish0 (s := s) (H := H) (cl := cl) (Ca := Ca) (fp := fp) hk
        match c, h8, ifs, h7 with
        | [], _, .nil, _ => exact sNoIf
        | [c1], _, .cons e1 .nil, h7 =>
          rw [evt_one]
          simp only [okEs, Bool.and_eq_true] at h7
          exact sOneIf (soE e1 gb c1 h7.1.2).pt
        | [c1], _, .cons e1 (.cons _ _), h7 => simp [okEs] at h7
        | [c1], _, .nil, h7 => simp [okEs] at h7
        | [], _, .cons _ _, h7 => simp [okEs] at h7
        | _ :: _ :: _, h8, _, _ => simp at h8) fun s H Ca cl fp => (soE elt (g.wish0 hk) x h9).pe, fun i s => ?_⟩
      show (ev P.G C (.lc elt tg it ifs own) s).fl _ = _
      rw [lc_tF]
      simp only
      rw [fl_bind]
      rfl
  | _ => simp [isNewE] at hf
set_option maxHeartbeats 2000000 in
theorem soKs (g : GX P C N S L W X) : ∀ (es : Es) (kwl : List Keyword), okKs P N S es kwl = true → PK X kwl (tA X.K W (evs P.G C es))
  | .nil, [], _ => sNilK
  | .nil, _ :: _, h => by simp [okKs] at h
  | .cons _ _, [], h => by simp [okKs] at h
  | .cons e es, ⟨n, x, q⟩ :: l, h => by
    simp only [okKs, Bool.and_eq_true] at h
    exact sConsK (soE e g x h.1).pe (soKs g es l h.2)
theorem soR' {pos : Pos} (g : GX P C N S L W X) : ∀ (k : RK) (eo ca : Option Expr), okRz P N S k eo ca = true → PS X (.Raise eo ca pos) (tS X.K W (exR P.G C k))
  | .r0 c, eo, ca, h => by
    simp only [okRz] at h
    cases hsh : raiseSh0 eo ca with
    | none => rw [hsh] at h; exact absurd h Bool.false_ne_true
    | some x =>
      rw [hsh] at h
      obtain ⟨p, q, rfl, rfl⟩ := raiseSh0_by hsh
      simp only [okRs, Bool.and_eq_true] at h
      obtain ⟨⟨⟨h1, h2⟩, h3⟩, h4⟩ := h
      have h1 := of_decide_eq_true h1
      subst h1
      have f := g.rs _ (of_decide_eq_true h2)
      exact sRaise g.calm g.tk (pmk_own0 PySem.F.excBase_ValueError f.ex f.mg f.kp (raises_own f.ek.sb f.ty) (g.isGl h3) (not_true h4)) rfl f.ek
  | .rE c e, eo, ca, h => by
    simp only [okRz] at h
    cases hsh : raiseShA eo ca with
    | none => rw [hsh] at h; exact absurd h Bool.false_ne_true
    | some t =>
      obtain ⟨x, y, args⟩ := t
      rw [hsh] at h
      obtain ⟨p, q, rfl, rfl⟩ := raiseShA_by hsh
      match args, h with
      | _ :: _, h => exact absurd h Bool.false_ne_true
      | [], h =>
        simp only [okRs, Bool.and_eq_true] at h
        obtain ⟨⟨⟨⟨⟨h1, h2⟩, h3⟩, h4⟩, h5⟩, h6⟩ := h
        have h1 := of_decide_eq_true h1
        subst h1
        have f := g.rs _ (of_decide_eq_true h2)
        exact sRaiseE g.calm g.tk (SkE.pmk_own1 PySem.F.excBase_ValueError f.ex f.mg f.kp (raises_own f.ek.sb f.ty) (g.isGl h3) (soE e g y h6).pe (star_cons h5 _ _) (not_true h4)) rfl f.ek
  | .rI c ns es, eo, ca, h => by
    simp only [okRz] at h
    cases hsh : raiseShA eo ca with
    | none => rw [hsh] at h; exact absurd h Bool.false_ne_true
    | some t =>
      obtain ⟨x, y, args⟩ := t
      rw [hsh] at h
      obtain ⟨p, q, rfl, rfl⟩ := raiseShA_by hsh
      simp only [okXc, Bool.and_eq_true] at h
      obtain ⟨⟨⟨⟨h1, h3⟩, h4⟩, h5⟩, h6⟩ := h
      have h1 := of_decide_eq_true h1
      subst h1
      obtain ⟨⟨c', ns', kws⟩, hm, ht⟩ := List.any_eq_true.mp h5
      simp only [Bool.and_eq_true, decide_eq_true_eq] at ht
      obtain ⟨rfl, rfl⟩ := ht
      have hst := okEs_star h6
      have hst' := hst
      rw [List.all_cons, Bool.and_eq_true] at hst'
      exact sRaiseI (g.rx _ _ _ hm) g.rm2 g.calm g.tk (g.isGl h3) (not_true h4) (soEs es g _ h6).pa (star_cons hst'.1 _ _) (star_any hst'.2)
  | .rK c ns ks is es, eo, ca, h => by
    simp only [okRz] at h
    cases hsh : raiseShK eo ca with
    | none => rw [hsh] at h; exact absurd h Bool.false_ne_true
    | some t =>
      obtain ⟨x, kwl⟩ := t
      rw [hsh] at h
      obtain ⟨p, q, rfl, rfl⟩ := raiseShK_by hsh
      simp only [okXc, Bool.and_eq_true] at h
      obtain ⟨⟨⟨⟨⟨h1, h3⟩, h4⟩, h5⟩, h6⟩, h7⟩ := h
      have h1 := of_decide_eq_true h1
      subst h1
      obtain ⟨⟨c', ns', kws⟩, hm, ht⟩ := List.any_eq_true.mp h5
      simp only [Bool.and_eq_true, decide_eq_true_eq] at ht
      obtain ⟨⟨rfl, rfl⟩, hq⟩ := ht
      obtain ⟨k1, k2, k3⟩ := kwN_by (env := X.env) (pos := q) h6
      exact sRaiseK (q := (ks, is)) (g.rx _ _ _ hm) hq g.rm2 g.calm g.tk (g.isGl h3) (not_true h4) (soKs g es kwl h7) k1 k2 (by rw [k3]; rfl)
set_option maxHeartbeats 8000000 in
mutual
theorem soS : ∀ (s' : St) {S : Scope} {L : Str → Bool} {W : WX} {X : Cx}, GX P C N S L W X → SX X → ∀ s : Stmt, okS P N S L s' s = true → PS X s (tS X.K W (ex P.G C s'))
  | .asg t e, S, L, W, X, g, y, s, h => by
    cases s <;> try (simp [okS] at h; done)
    rename_i tgs x pos
    match tgs, h with
    | [], h => simp [okS] at h
    | _ :: _ :: _, h => simp [okS] at h
    | [tg], h =>
      simp only [okS, Bool.and_eq_true] at h
      obtain ⟨⟨⟨⟨h1, h2⟩, h3⟩, h4⟩, h5⟩ := h
      cases hsw : swB S x tg with
      | false => exact sAsg (soE e g x h1).pe (okT_pg g t tg h2) (by rw [sole, sw_eq g.sc g.kind, hsw]) (st_none (not_true h4)) (by rw [asg_cons h3]; rfl)
      | true =>
        rw [hsw] at h5
        simp only [Bool.not_true, Bool.false_or] at h5
        unfold isLcAsg at h5
        match t, e, tg, x, h5, h1, h2, hsw with
        | .nm k, .lc elt tg it ifs own, .Name y py, .ListComp x gs scope p, _, h1, h2, hsw =>
          match gs, h1, hsw with
          | [], h1, _ => simp [okE] at h1
          | _ :: _ :: _, h1, _ => simp [okE] at h1
          | [⟨t, i, c, ka⟩], h1, hsw =>
            simp only [okT, Bool.and_eq_true] at h2
            refine sAsgT (setLc g (spos := pos) h1 (of_decide_eq_true h2.1) hsw) fun σ H Q q => tE_tF ?_
            rw [lc_tF] at q
            exact q
        | .nm k, .shc elt tg it ifs own, .Name y py, .ListComp x gs scope p, _, h1, h2, hsw =>
          match gs, h1, hsw with
          | [], h1, _ => simp [okE] at h1
          | _ :: _ :: _, h1, _ => simp [okE] at h1
          | [⟨t, i, c, ka⟩], h1, hsw =>
            simp only [okT, Bool.and_eq_true] at h2
            refine sAsgT (setLc g (spos := pos) (elt := elt) (tg := tg) (it := it) (ifs := ifs) (own := own) (by simpa only [okE] using h1) (of_decide_eq_true h2.1) hsw) fun σ H Q q => tE_sh ?_
            rw [shc_tF] at q
            exact q
  | .own i e, S, L, W, X, g, y, s, h => by
    cases s <;> try (simp [okS] at h; done)
    rename_i tgs x pos
    match tgs, h with
    | [], h => simp [okS] at h
    | q :: _ :: _, h => cases q <;> (simp [okS] at h; done)
    | [tg], h =>
      cases tg <;> try (simp [okS] at h; done)
      rename_i y' py
      simp only [okS, Bool.and_eq_true] at h
      obtain ⟨⟨⟨h1, h2⟩, h3⟩, h4⟩ := h
      obtain ⟨hx, hf⟩ := loc_of g h3
      obtain ⟨n1, n2⟩ := hNi g h2
      cases hsw : swB S x (.Name y' py) with
      | false =>
        obtain ⟨k, hp, he⟩ := soF g e x h1 h4
        have e2 : ex P.G C (.own i e) = fun s => (k s).fl fun vs s => if i < s.sl.length then .next { s with sl := s.sl.set i (.own (.lst vs)) } else .bad := by funext s; exact he i s
        rw [e2]
        exact sOwn (ps_set n1 n2 hx hp (by rw [sw_eq g.sc g.kind, hsw]) hf) fun σ H Q q => q
      | true =>
        cases x <;> try (simp [swB] at hsw; done)
        · rename_i x gs scope p
          cases e <;> try first | (simp [okE] at h1; done) | (simp [isNewE] at h4; done)
          rename_i elt tg it ifs own
          match gs, h1, hsw with
          | [], h1, _ => simp [okE] at h1
          | _ :: _ :: _, h1, _ => simp [okE] at h1
          | [⟨t, i', c, ka⟩], h1, hsw =>
            have e2 : ex P.G C (.own i (.lc elt tg it ifs own)) = fun s => (((evI P.G C it s).bind fun src s1 => (noexc (lcL src own (lcTurn tg (evt P.G C ifs) (ev P.G C elt)) [] src.items s1)).bind fun acc s2 => .ok acc (restoreS s1.sl own s2))).fl fun vs s => if i < s.sl.length then .next { s with sl := s.sl.set i (.own (.lst vs)) } else .bad := by
              funext s
              show (ev P.G C (.lc elt tg it ifs own) s).fl _ = _
              rw [lc_tF]
              simp only
              rw [fl_bind]
              rfl
            rw [e2]
            exact sOwn (setLc g (spos := pos) h1 (of_decide_eq_true h2) hsw) fun σ H Q q => q
        · cases e <;> first | (simp [okE] at h1; done) | (simp [isNewE] at h4; done)
        · cases e <;> first | (simp [okE] at h1; done) | (simp [isNewE] at h4; done)
  | .par i j a b, S, L, W, X, g, y, s, h => by
    cases s <;> try (simp [okS] at h; done)
    rename_i tgs x pos
    match tgs, x, h with
    | [.Tuple [.Name x px, .Name y py] k pt], .Tuple [u, v] k2 pt2, h =>
      simp only [okS, Bool.and_eq_true] at h
      obtain ⟨⟨⟨⟨h1, h2⟩, h3⟩, h4⟩, h5⟩ := h
      obtain ⟨n1, n2⟩ := hNi g h2
      obtain ⟨_, n3⟩ := hNi g h3
      have h4' := h4
      unfold parB at h4'
      simp only [Bool.and_eq_true] at h4'
      obtain ⟨⟨⟨⟨⟨⟨⟨k1, k2⟩, _⟩, _⟩, _⟩, _⟩, _⟩, _⟩ := h4'
      exact sPar (fun ta hta => ps_par g.calm n1 n2 n3 (of_decide_eq_true h5) (by rw [g.sc]; exact of_decide_eq_true k1) (by rw [g.sc]; exact of_decide_eq_true k2) hta (par_eq g.sc g.kind h4) (by rw [sole, sw_eq g.sc g.kind]; rfl)) (soEs (.cons a (.cons b .nil)) g _ h1).pa
  | .aug i op e, S, L, W, X, g, y, s, h => by
    cases s <;> try (simp [okS] at h; done)
    rename_i tg o y' pos
    cases tg <;> try (simp [okS] at h; done)
    rename_i x px
    simp only [okS, Bool.and_eq_true] at h
    obtain ⟨⟨⟨h1, h2⟩, h3⟩, h4⟩ := h
    have h1 := of_decide_eq_true h1
    subst h1
    obtain ⟨hx, hf⟩ := loc_of g h3
    obtain ⟨n1, n2⟩ := hNi g h2
    exact sAug (augOk op) n1 n2 hx hf (soE e g y' h4).pe fun u j => by cases op <;> cases u <;> rfl
  | .if_ c a b, S, L, W, X, g, y, s, h => by
    cases s <;> try (simp [okS] at h; done)
    simp only [okS, Bool.and_eq_true] at h
    exact sIf (soE c g _ h.1.1).pt (soSs a g y _ h.1.2) (soSs b g y _ h.2)
  | .while_ c b, S, L, W, X, g, y, s, h => by
    cases s <;> try (simp [okS] at h; done)
    rename_i x u v pos
    cases v <;> try (simp [okS] at h; done)
    simp only [okS, Bool.and_eq_true] at h
    exact sWhile g.po (soE c g _ h.1).pt (soSs b g y _ h.2)
  | .for_ t it b, S, L, W, X, g, y, s, h => by
    cases s <;> try (simp [okS] at h; done)
    rename_i tg i u v pos
    cases v <;> try (simp [okS] at h; done)
    simp only [okS, Bool.and_eq_true] at h
    obtain ⟨⟨⟨h1, h2⟩, h3⟩, h4⟩ := h
    exact sFor g.po g.calm (soI it g tg i h3.2 h2) (okT_pg g t tg h1) (soSs b g y _ h4) (setFree h3.1)
  | .ret e, S, L, W, X, g, y, s, h => by
    cases s <;> try (simp [okS] at h; done)
    rename_i o pos
    cases o <;> try (simp [okS] at h; done)
    exact sRet (soE e g _ (by simpa only [okS] using h)).pe
  | .retN, S, L, W, X, g, y, s, h => by
    cases s <;> try (simp [okS] at h; done)
    rename_i o pos
    cases o <;> try (simp [okS] at h; done)
    exact sRetN
  | .expr e, S, L, W, X, g, y, s, h => by
    cases s <;> try (simp [okS] at h; done)
    simp only [okS, Bool.and_eq_true] at h
    exact sExpr (soE e g _ h.1).pe (sw_none h.2)
  | .pass_, S, L, W, X, g, y, s, h => by
    cases s <;> try (simp [okS] at h; done)
    exact sPass
  | .brk, S, L, W, X, g, y, s, h => by
    cases s <;> try (simp [okS] at h; done)
    exact sBreak
  | .cont, S, L, W, X, g, y, s, h => by
    cases s <;> try (simp [okS] at h; done)
    exact sCont
  | .never, S, L, W, X, g, y, s, h => ⟨fun pins s σ H D I q => by obtain ⟨_, _, _, q⟩ := q; exact False.elim q⟩
  | .raise_ c, S, L, W, X, g, y, s, h => by
    cases s <;> try (simp [okS] at h; done)
    rename_i eo ca pos
    simp only [okS] at h
    cases hsh : raiseSh eo ca with
    | none => rw [hsh] at h; exact absurd h Bool.false_ne_true
    | some x =>
      rw [hsh] at h
      obtain ⟨p, m, j, p2, q, rfl, rfl⟩ := raiseSh_by hsh
      simp only [okRs, Bool.and_eq_true] at h
      obtain ⟨⟨⟨h1, h2⟩, h3⟩, h4⟩ := h
      have h1 := of_decide_eq_true h1
      subst h1
      have hx := of_decide_eq_true h2
      exact sRaise g.calm g.tk (g.raise hx (g.isGl h3) (not_true h4)) rfl (g.rs _ hx).ek
  | .rz k, S, L, W, X, g, y, s, h => by
    cases s <;> try (simp [okS] at h; done)
    rename_i eo ca pos
    exact soR' g k eo ca (by simpa only [okS] using h)
  | .tryAs b k i j, S, L, W, X, g, y, s, h => by
    cases s <;> try (simp [okS] at h; done)
    rename_i body hs orelse fin pos
    simp only [okS, Bool.and_eq_true] at h
    obtain ⟨h0, h11⟩ := h
    cases hsh : trySh hs orelse fin with
    | none => rw [hsh] at h0; exact absurd h0 Bool.false_ne_true
    | some t =>
      obtain ⟨x, n, m, n2⟩ := t
      rw [hsh] at h0
      obtain ⟨xp, mp, ep, ap, hp, rfl, rfl, rfl⟩ := trySh_by hsh
      simp only [okTry, Bool.and_eq_true] at h0
      obtain ⟨⟨⟨⟨⟨⟨⟨⟨⟨h1, h2⟩, h3⟩, h4⟩, h5⟩, h6⟩, h7⟩, h8⟩, h9⟩, h10⟩ := h0
      obtain ⟨subs, nots, hk⟩ := okCls_by h1
      have h6 := of_decide_eq_true h6
      subst h6
      obtain ⟨hN, hi⟩ := hNi g h4
      obtain ⟨_, hj⟩ := hNi g h5
      obtain ⟨hlm, hfm⟩ := loc_of g h8
      obtain ⟨hc, cf⟩ := g.cls hk (g.isGl h2) (not_true h3)
      have hln : X.env.kindOf n2 = some .local := by show X.env.scope.names.lookup n2 = _; rw [g.sc]; exact of_decide_eq_true h7
      have eG : P.G[k]? = some (.cls x subs nots) := by show (P.gl.map (·.2))[k]? = _; rw [List.getElem?_map, hk]; rfl
      have e2 : ex P.G C (.tryAs b k i j) = fun s => tryAs subs nots i j (exs P.G C b s) := by
        funext s
        show (match P.G[k]? with | some (.cls _ subs nots) => tryAs subs nots i j (exs P.G C b s) | _ => .bad) = _
        rw [eG]
      rw [e2]
      exact sTryAs y.hs y.hf y.hx hN hi hj hln hlm hfm (not_true h9) (not_true h10) hc g.tk cf fun W' pn xe tk po => soSs b (g.tr tk po) ⟨y.hs, y.hf, y.hx⟩ body h11
  | .setIx o i e, S, L, W, X, g, y, s, h => by
    cases s <;> try (simp [okS] at h; done)
    rename_i tgs x pos
    match tgs, h with
    | [], h => simp [okS] at h
    | q :: _ :: _, h => cases q <;> (simp [okS] at h; done)
    | [tg], h =>
      cases tg <;> try (simp [okS] at h; done)
      rename_i u v p'
      simp only [okS, Bool.and_eq_true] at h
      obtain ⟨⟨⟨h1, h2⟩, h3⟩, h4⟩ := h
      exact sSetIx (soE e g x h3).pe (soE o g u h1).pe (soE i g v h2).pe (fun w => by cases v <;> first | rfl | cases h4) (by rw [sole, sw_eq g.sc g.kind]; cases x <;> rfl) (st_none (by cases x <;> rfl)) rfl
theorem soSs : ∀ (ss : Sts) {S : Scope} {L : Str → Bool} {W : WX} {X : Cx}, GX P C N S L W X → SX X → ∀ l : List Stmt, okSs P N S L ss l = true → PSs X l (tS X.K W (exs P.G C ss))
  | .nil, S, L, W, X, g, y, l, h => by
    cases l with
    | nil => exact sNil
    | cons _ _ => simp [okSs] at h
  | .cons a b, S, L, W, X, g, y, l, h => by
    cases l with
    | nil => simp [okSs] at h
    | cons x xs =>
      simp only [okSs, Bool.and_eq_true] at h
      exact sCons (soS a g y x h.1) (soSs b g y xs h.2)
end
end
end M
end F_M4d
section F_M4e
set_option maxRecDepth 100000
namespace M
open PySem PySem.Spec PyProof.Rows L2
def replSh : Expr → Option (Expr × Str × Str × Str × Bool)
  | .Call (.Attribute x nm ap) [.Constant (.str y) _ _, .Constant (.str z) _ _] [] cp => some (x, nm, y, z, ap.endLine == cp.line)
  | _ => none
theorem replSh_by {e x : Expr} {nm y z : Str} {l : Bool} (h : replSh e = some (x, nm, y, z, l)) : ∃ ap j c0 k c1 cp, e = .Call (.Attribute x nm ap) [.Constant (.str y) j c0, .Constant (.str z) k c1] [] cp ∧ l = (ap.endLine == cp.line) := by
  unfold replSh at h
  split at h
  · cases h
    exact ⟨_, _, _, _, _, _, rfl, rfl⟩
  · cases h
def okR (N : List Str) (S : Scope) : E → Expr → Bool
  | .var i, .Name x _ => okV N S i x
  | .repl o y z, e => match replSh e with
    | some (x, nm, y', z', l) => decide (nm = ("replace" : Str)) && decide (y' = ⟨y.toArray⟩) && decide (z' = ⟨z.toArray⟩) && !(y' == z') && l && plainBase x && okR N S o x
    | none => false
  | _, _ => false
section
variable {P : Pr} {C : CallEnv} {N : List Str} {S : Scope} {L : Str → Bool} {W : WX} {X : Cx}
theorem PET.imp {X : Cx} {e : Expr} {t t' : TE} (h : PET X e t) (i : ∀ σ H Q, t' σ H Q → t σ H Q) : PET X e t' := fun pins s σ H Q h0 I q => h pins s σ H Q h0 I (i _ _ _ q)
theorem soR (hV : ∀ i x, okV N S i x = true → X.N[i]? = some x ∧ Vis X.env.scope x ∧ (x == ("__debug__" : Str)) = false ∧ (x == ("__classdict__" : Str)) = false) : ∀ (e' : E) (e : Expr), okR N S e' e = true → PET X e (tE X.K W (ev P.G C e'))
  | .var i, e, h => by
    cases e <;> try (simp [okR] at h; done)
    obtain ⟨h1, h2, h3, h4⟩ := hV _ _ (by simpa only [okR] using h)
    exact CwR.PET.of (sVar h1 h2 h3 h4)
  | .repl o y z, e, h => by
    have h : (match replSh e with
      | some (x, nm, y', z', l) => decide (nm = ("replace" : Str)) && decide (y' = ⟨y.toArray⟩) && decide (z' = ⟨z.toArray⟩) && !(y' == z') && l && plainBase x && okR N S o x
      | none => false) = true := by cases e <;> exact h
    cases hsh : replSh e with
    | none => rw [hsh] at h; exact absurd h Bool.false_ne_true
    | some t =>
      obtain ⟨x, nm, y', z', l⟩ := t
      rw [hsh] at h
      obtain ⟨ap, j, c0, k, c1, cp, rfl, rfl⟩ := replSh_by hsh
      simp only [Bool.and_eq_true] at h
      obtain ⟨⟨⟨⟨⟨⟨h1, h2⟩, h3⟩, h4⟩, h5⟩, h6⟩, h7⟩ := h
      have h1 := of_decide_eq_true h1
      have h2 := of_decide_eq_true h2
      have h3 := of_decide_eq_true h3
      subst h1 h2 h3
      have ih := soR hV o x h7
      refine PET.imp (CwR.pet_replT ih (not_true h4) rfl (plainBase_of h6) h5) fun σ H Q ⟨r, s, at_, q⟩ => ?_
      refine ⟨r, s, at_, (OP.bind (f := fun x s => match x with
        | .str t => lift (replV t y z) s
        | _ => .bad) q).imp fun v s1 H1 r1 _ st1 a1 q1 x vx => ?_⟩
      cases v with
      | str t =>
        have vx' : VR X.K H1 r1 (.str t) x := by
          rcases vx with vx | ⟨_, e, _⟩
          · exact vx
          · cases e
        obtain ⟨rfl, ht⟩ := vx'
        obtain ⟨w, e, q3⟩ := OP.lift q1 a1
        unfold replV at e
        split at e
        · rename_i hc
          cases e
          refine ⟨_, rfl, ?_, q3 H1 r1 .refl a1 _ (.inl ⟨?_, hc.2⟩)⟩
          · rw [str_len, str_len]; exact hc.1
          · generalize Txt.replace ⟨t.toArray⟩ ⟨y.toArray⟩ ⟨z.toArray⟩ = w
            obtain ⟨c⟩ := w
            simp
        · cases e
      | _ => exact False.elim q1
def okRd (d : FDef) (st : Stmt) : Bool := (match d.body, defBody st with
  | .cons (.ret e) .nil, [.Return (some x) _] => okR d.names (defScope st) e x
  | _, _ => false) && (defScope st).names.all (fun y => decide (y.2 ≠ .cell)) && decide (1 ≤ d.params.length)
theorem soRd (hV : ∀ i x, okV N S i x = true → X.N[i]? = some x ∧ Vis X.env.scope x ∧ (x == ("__debug__" : Str)) = false ∧ (x == ("__classdict__" : Str)) = false) {e : E} {x : Expr} {pos : Pos} (h : okR N S e x = true) : PSsT X [.Return (some x) pos] (tS X.K W (exs P.G C (.cons (.ret e) .nil))) := by
  have p := CwR.psst_one (CwR.pst_ret (pos := pos) (soR (P := P) (C := C) (W := W) hV e x h))
  intro pins s σ H D h0 I q
  refine p pins s σ H D h0 I ?_
  obtain ⟨r, s, at_, q⟩ := q
  have q : FP X.K W σ s.sl H r D (((ev P.G C e s).fl fun x s => match keep x with
    | some x => Fl.ret x s
    | none => .bad).seq fun s => .next s) := q
  refine ⟨r, s, at_, (FP.fl q.seq).imp fun v s1 H1 r1 _ st1 a1 q1 x vx => ?_⟩
  cases hk : keep v with
  | none => simp only [hk] at q1; exact False.elim q1
  | some w =>
    simp only [hk] at q1
    obtain ⟨_, vr⟩ := vx.keep hk
    exact q1 x σ H1 r1 .refl a1 vr
end
end M
end F_M4e
section F_M4f
set_option maxRecDepth 100000
namespace M
open PySem PySem.Spec PyProof.Rows L2
def baseSh (B : Str) : Stmt → Bool
  | .Expr (.Call (.Attribute (.Name b _) i p2) [.Name o _, .Constant (.str _) _ _] [] p5) _ => decide (b = B) && decide (i = ("__init__" : Str)) && decide (o = ("self" : Str)) && (p2.endLine == p5.line)
  | _ => false
theorem baseSh_by {B : Str} {s : Stmt} (h : baseSh B s = true) : ∃ p1 p2 p3 m j p4 p5 p6, s = .Expr (.Call (.Attribute (.Name B p1) "__init__" p2) [.Name "self" p3, .Constant (.str m) j p4] [] p5) p6 ∧ (p2.endLine == p5.line) = true := by
  unfold baseSh at h
  split at h
  · simp only [Bool.and_eq_true, decide_eq_true_eq] at h
    obtain ⟨⟨⟨rfl, rfl⟩, rfl⟩, h⟩ := h
    exact ⟨_, _, _, _, _, _, _, _, rfl, h⟩
  · cases h
def initSh (B : Str) (ns : List Str) (st : Stmt) : Bool := (match defBody st with
  | s :: ss => baseSh B s && fsSh ss ns
  | [] => false) && isGl (defScope st) B && !(B == ("__debug__" : Str)) && (("self" : Str) :: ns).all (fun x => isVis (defScope st) x && !(x == ("__debug__" : Str)) && !(x == ("__classdict__" : Str)))
theorem initSh_by {B : Str} {ns : List Str} {st : Stmt} (h : initSh B ns st = true) : (∃ s ss, defBody st = s :: ss ∧ baseSh B s = true ∧ fsSh ss ns = true) ∧ isGl (defScope st) B = true ∧ (B == ("__debug__" : Str)) = false ∧
    ∀ x ∈ ("self" : Str) :: ns, isVis (defScope st) x = true ∧ (x == ("__debug__" : Str)) = false ∧ (x == ("__classdict__" : Str)) = false := by
  unfold initSh at h
  simp only [Bool.and_eq_true] at h
  obtain ⟨⟨⟨h1, h2⟩, h3⟩, h4⟩ := h
  refine ⟨?_, h2, by simpa using h3, fun x hx => ?_⟩
  · split at h1
    · rename_i s ss e
      rw [Bool.and_eq_true] at h1
      exact ⟨s, ss, e, h1.1, h1.2⟩
    · cases h1
  · have := List.all_eq_true.mp h4 x hx
    simp only [Bool.and_eq_true] at this
    exact ⟨this.1.1, by simpa using this.1.2, by simpa using this.2⟩
structure IC (K : PySem.W.Frag) (mg : Str → Option Value) (B c : Str) (ns : List Str) (st : Stmt) (fI : Addr) (fd : FuncData) : Prop where
  F : FunD K "__init__" (c ++ ".__init__") (defArgs st) (defBody st) (defScope st) [] [] fI fd
  sc : FnScope (("self" : Str) :: ns) (("self" : Str) :: ns) (defScope st)
  sh : initSh B ns st = true
  n1 : 1 ≤ ns.length ∧ ns.length ≤ 800
  oc : OexC K (clA K c)
  no : ∀ n ∈ ns, PySem.W.findIn K (.ref (clA K c)) n = some none
  bg : mg B = some (.ref (clA K B))
  br : ∃ mc, ClX.CRead K (clA K B) mc ∧ PySem.W.findCls K (.ref (clA K B)) mc "__init__" = some (.val (.builtin "ValueError.__init__"))
theorem IC.fn {prog : Program} {w : World} {K : PySem.W.Frag} {mg : Str → Option Value} {base : Heap} {CX : CXT} {B c : Str} {ns : List Str} {st : Stmt} {fI : Addr} {fd : FuncData} (D : IC K mg B c ns st fI fd) : FnOk prog w K mg base CX 1 fI fd (("self" : Str) :: ns) (spI K (clA K c) ns) := by
  obtain ⟨⟨s0, ss, eb, hb, hfs⟩, hgl, hdb, hvs⟩ := initSh_by D.sh
  obtain ⟨p1, p2, p3, m, j, p4, p5, p6, rfl, hli⟩ := baseSh_by hb
  obtain ⟨mc, hr, hcl⟩ := D.br
  refine L2.FunD.ok D.F D.sc (fun vs H Q E h => h.1) fun cdv A outer s H vs Q E hroom h => ?_
  obtain ⟨hl, a, ys, rfl, ha, q⟩ := h
  rw [eb]
  have hV : ∀ (i : Nat) x, (("self" : Str) :: ns)[i]? = some x → Vis (defScope st) x ∧ (x == ("__debug__" : Str)) = false ∧ (x == ("__classdict__" : Str)) = false := fun i x hx => by
    obtain ⟨v1, v2, v3⟩ := hvs x (List.mem_of_getElem? hx)
    exact ⟨vis_of v1, v2, v3⟩
  obtain ⟨v1, v2, v3⟩ := hV 0 _ rfl
  have hG : (defScope st).names.lookup B = some .globalImplicit := by unfold isGl at hgl; exact of_decide_eq_true hgl
  refine ⟨_, pss_cons (ps_expr (pe_basei hG D.bg hdb hr hcl (pa_cons (pe_var (i := 0) rfl v1 v2 v3) (pa_cons pe_str pa_nil)) rfl rfl rfl hli)) (ps_fs (N := "self" :: ns) rfl rfl hV ss ns 1 hfs fun i n hn => ?_), ?_⟩
  · rw [Nat.add_comm]; exact hn
  · have hys : ns.length = ys.length := by simp at hl; omega
    have st0 : ∀ (i : Nat) z, (V.ref a :: ys)[i]? = some z → (L2.start ("self" :: ns) (V.ref a :: ys))[i]? = some (some z) := fun i z hz => by
      unfold L2.start
      rw [List.getElem?_append_left (by rw [List.length_map]; exact (List.getElem?_eq_some_iff.mp hz).1), List.getElem?_map, hz]; rfl
    match ns, ys, hys with
    | [], _, _ => exact absurd D.n1.1 (by simp)
    | n :: ns, [], hys => simp at hys
    | n :: ns, y :: ys, hys =>
      refine ⟨.ref a, st0 0 _ rfl, a, clA K c, [.str m], rfl, by simp, D.oc, ha, ?_⟩
      refine fs_all D.oc (st0 0 _ rfl) ns ys _ H (by simpa using hys) D.no (fun i z hz => ?_) (by have := D.n1.2; simp at this; omega) ha fun d H' e1 e2 e3 e4 e5 => q d H' e1 e2 e3 e4 e5
      rw [Nat.add_comm]
      exact st0 (i + 1) z hz
end M
end F_M4f
section F_M5
set_option maxRecDepth 100000
namespace M
open PySem PySem.Spec PyProof.Rows L2
def kwsOf (d : FDef) : List (Str × V) := match d.kwi with
  | none => []
  | some (n, v) => [(n, V.int v)]
structure Dn (K : PySem.W.Frag) (mg : Str → Option Value) (P : Pr) (d : FDef) (st : Stmt) (f : Addr) (fd : FuncData) : Prop where
  F : L2.FunD K d.name d.name (defArgs st) (defBody st) (defScope st) [] (kwsOf d) f fd
  mgf : mg d.name = some (.ref f)
  bn : d.kwi = none → ∀ us : List Value, us.length = d.params.length → bindArgs fd ⟨us, []⟩ = pure (d.params.zip us)
  bk : ∀ n v, d.kwi = some (n, v) → (∃ ds, Vals [V.int v] ds ∧ Binds K fd d.params ds) ∧ ∃ g, KBn K fd d.params (d.params.length - 1) [n] g (fun vs zs => vs ++ zs)
  sc : FnScope d.names d.params (defScope st)
  ok : okSs P d.names (defScope st) (isLoc (defScope st)) d.body (defBody st) = true ∨ okRd d st = true
structure XM (K : PySem.W.Frag) (mg : Str → Option Value) (c : Str) (ns : List Str) (kws : List (List Str × List Nat)) : Prop where
  mm : mg c = some (.ref (clA K c))
  ek : EK K (clA K c)
  hd : PySem.W.hasDictIn K (clA K c) = true
  nd : ns.Nodup
  ini : ∃ B st fI fd, IC K mg B c ns st fI fd ∧ PySem.W.findIn K (.ref (clA K c)) "__init__" = some (some (.ref fI)) ∧ PySem.W.typeIn K (.ref fI) = some (.type "function") ∧ Binds K fd ("self" :: ns) [] ∧
    ∀ q ∈ kws, ∀ u (ws : List Value), ws.length = q.1.length → bindArgs fd ⟨[u], q.1.zip ws⟩ = pure ((("self" : Str) :: ns).zip (u :: pick q.2 ws))
theorem XM.xf {K : PySem.W.Frag} {mg : Str → Option Value} {c : Str} {ns : List Str} {kws : List (List Str × List Nat)} (m : XM K mg c ns kws) {X : Cx} (hK : X.K = K) (hm : X.mg = mg) : XF X c ns kws := by
  subst hK hm
  obtain ⟨B, st, fI, fd, ic, i1, i2, i3, i4⟩ := m.ini
  exact ⟨m.mm, ic.oc, m.ek, ⟨m.hd, ic.no⟩, m.nd, ic.n1.2, fI, fd, i1, i2, ic.fn, i3, i4⟩
structure Md (K : PySem.W.Frag) (mg : Str → Option Value) (P : Pr) : Prop where
  bl : ∀ x ∈ (["len", "isinstance", "max", "min", "int", "str", "list", "tuple", "all", "any", "abs", "sum", "bool", "range", "dict", "ValueError", "divmod", "enumerate", "zip", "repr"] : List String), mg (Str.ofString x) = none
  gl : ∀ (k : Nat) x v, P.gl[k]? = some (x, v) → ∃ u cv, mg x = some u ∧ RelV cv u ∧ ∀ H r, VR K H r v cv
  rs : ∀ c ∈ P.exs, RF K mg c
  rx : ∀ c ns kws, (c, ns, kws) ∈ P.exi → XM K mg c ns kws
  ds : ∀ (i : Nat) d, P.fns[i]? = some d → ∃ st f fd, Dn K mg P d st f fd
section
variable {P : Pr} {prog : Program} {w : World} {K : PySem.W.Frag} {mg : Str → Option Value} {base : Heap}
theorem cls_some {K : PySem.W.Frag} {C : Addr} (h : PySem.W.hasDictIn K C = true) : (PySem.W.clsIn K C).isSome = true := by
  obtain ⟨cd, hc, _⟩ := PySem.W.any_some h
  rw [hc]; rfl
theorem kit_sub {K : PySem.W.Frag} {t : Value} {C : Addr} {b : Bool} (hd : PySem.W.hasDictIn K C = true) (ht : PySem.W.typeIn K (.ref C) = some (.type "type")) (hs : PySem.W.subIn K (.ref C) (.ref C) = some true) (h : PySem.W.subIn K t (.ref C) = some b) : PySem.W.kitOne K t (.ref C) = some b := by
  unfold PySem.W.kitOne
  split
  · rename_i e
    have e : t = .ref C := beq_iff_eq.mp e
    rw [e, hs] at h
    exact h
  · show (if ((PySem.W.clsIn K C).isSome && PySem.W.typeIn K (.ref C) == some (.type "type")) = true then PySem.W.subIn K t (.ref C) else none) = _
    rw [if_pos (by rw [cls_some hd, ht]; rfl), h]
theorem kit_ve {K : PySem.W.Frag} {C : Addr} (h : PySem.W.subIn K (.ref C) (.type "ValueError") = some true) : PySem.W.kitOne K (.ref C) (.type "ValueError") = some true := by
  have hm : PySem.W.kitMeta "ValueError" = true := by decide +kernel
  show (if _ then _ else if PySem.W.kitMeta "ValueError" = true then PySem.W.subIn K (.ref C) (.type "ValueError") else none) = _
  rw [if_pos hm, h]
  split <;> rfl
theorem clA_of {K : PySem.W.Frag} {c : Str} {a : Addr} (h : PySem.W.nsIn K mainGlobals c = some (some (.ref a))) : clA K c = a := by
  unfold clA
  rw [h]
theorem isLoc_of {S : Scope} {x : Str} (h : isLoc S x = true) : Loc S x := by
  unfold isLoc at h
  split at h <;> first | exact .inl (by assumption) | exact .inr (by assumption) | cases h
theorem Dn.bnd {d : FDef} {st : Stmt} {f : Addr} {fd : FuncData} (D : Dn K mg P d st f fd) : Bnd K fd d := by
  unfold Bnd
  cases h : d.kwi with
  | none => exact .all (D.bn h)
  | some nv => exact D.bk _ _ h
theorem funD_mk {x : Str} {st : Stmt} {f : Addr} {oc : Value} {od an : Option Addr} {osl : Array (Option Value)} {kV doc pm cdv ct : Value} (l : K.lookup f = some ⟨oc, od, .func (PySem.W.fnOf x x (defArgs st) (defBody st) (defScope st) .none kV doc pm an cdv ct), osl⟩)
    (c : PySem.W.codeIn K cdv x = true) (k : PySem.W.keepIn K (.ref f) = true) : FunD K x x (defArgs st) (defBody st) (defScope st) [] [] f (PySem.W.fnOf x x (defArgs st) (defBody st) (defScope st) .none kV doc pm an cdv ct) :=
  ⟨⟨oc, od, .none, kV, doc, pm, an, cdv, ct, osl, rfl, l, c, .inl ⟨rfl, rfl⟩, .inl rfl⟩, k⟩
theorem funD_mk2 {x y : Str} {st : Stmt} {f : Addr} {oc : Value} {od an : Option Addr} {osl : Array (Option Value)} {kV doc pm cdv ct : Value} (l : K.lookup f = some ⟨oc, od, .func (PySem.W.fnOf x y (defArgs st) (defBody st) (defScope st) .none kV doc pm an cdv ct), osl⟩)
    (c : PySem.W.codeIn K cdv y = true) (k : PySem.W.keepIn K (.ref f) = true) : FunD K x y (defArgs st) (defBody st) (defScope st) [] [] f (PySem.W.fnOf x y (defArgs st) (defBody st) (defScope st) .none kV doc pm an cdv ct) :=
  ⟨⟨oc, od, .none, kV, doc, pm, an, cdv, ct, osl, rfl, l, c, .inl ⟨rfl, rfl⟩, .inl rfl⟩, k⟩
theorem funK_mk {x n : Str} {v : Int} {q : Tok} {D : Addr} {st : Stmt} {f : Addr} {oc : Value} {od an : Option Addr} {osl : Array (Option Value)} {doc pm cdv ct : Value} (l : K.lookup f = some ⟨oc, od, .func (PySem.W.fnOf x x (defArgs st) (defBody st) (defScope st) .none (.ref D) doc pm an cdv ct), osl⟩)
    (c : PySem.W.codeIn K cdv x = true) (k : PySem.W.keepIn K (.ref f) = true) (hk : PySem.W.nsIn K D n = some (some (.int v q))) : FunD K x x (defArgs st) (defBody st) (defScope st) [] [(n, V.int v)] f (PySem.W.fnOf x x (defArgs st) (defBody st) (defScope st) .none (.ref D) doc pm an cdv ct) :=
  ⟨⟨oc, od, .none, .ref D, doc, pm, an, cdv, ct, osl, rfl, l, c, .inl ⟨rfl, rfl⟩, .inr ⟨D, rfl, fun p hp => by
    rw [List.mem_singleton] at hp
    subst hp
    exact ⟨_, hk, _, rfl⟩⟩⟩, k⟩
theorem FunD.okT {CX : CXT} {x qual : Str} {params : Arguments} {body : List Stmt} {scope : Scope} {dvs : List V} {kws : List (Str × V)} {f : Addr} {fd : FuncData} {N ps : List Str} {k : Nat} {sp : Sp} (F : FunD K x qual params body scope dvs kws f fd) (S : FnScope N ps scope) (hnc : ∀ y ∈ scope.names, y.2 ≠ .cell) (hps : 1 ≤ ps.length) (len : ∀ vs H Q E, sp vs H Q E → vs.length = ps.length)
    (hbody : ∀ (cdv : Value) (A : Around) (outer : List Env) (s : Shared) (H : Hp) (vs : List V) (Q : VK) (E : XK), Room k (A.deeper (envOfC qual scope s.heap.objs.size f cdv)) → sp vs H Q E →
      ∃ t, PSsT (cxOf CX prog w K mg base N qual scope f cdv A outer s H E) body t ∧ t { nx := fun _ H' => Q .non H', rt := Q } (start N vs) H) : FnOk prog w K mg base CX (k + 1) f fd ps sp := by
  obtain ⟨oc, od, dV, kV, doc, pm, an, cdv, ct, osl, rfl, lk, hcd, _, _⟩ := F.ex
  exact fn_ofT lk hcd S hnc hps len fun A outer s H vs Q E hr hsp => hbody cdv A outer s H vs Q E hr hsp
theorem okRd_by {d : FDef} {st : Stmt} (h : okRd d st = true) : (∃ e x pos, d.body = .cons (.ret e) .nil ∧ defBody st = [.Return (some x) pos] ∧ okR d.names (defScope st) e x = true) ∧ (∀ y ∈ (defScope st).names, y.2 ≠ .cell) ∧ 1 ≤ d.params.length := by
  unfold okRd at h
  simp only [Bool.and_eq_true] at h
  obtain ⟨⟨h1, h2⟩, h3⟩ := h
  refine ⟨?_, fun y hy => of_decide_eq_true ((List.all_eq_true.mp h2) y hy), of_decide_eq_true h3⟩
  split at h1
  · rename_i e x pos e1 e2
    exact ⟨e, x, _, e1, e2, h1⟩
  · exact absurd h1 Bool.false_ne_true
theorem Dn.fn (m : Md K mg P) : ∀ (n i : Nat) (d : FDef) (st : Stmt) (f : Addr) (fd : FuncData), P.fns[i]? = some d → Dn K mg P d st f fd →
    FnG prog w K mg base (L2.CX prog w) (n + 3) f fd d.params (spOf K (run P.G P.fns n i) d.params.length)
  | 0, i, d, st, f, fd, hi, D => ⟨fun vs H Q E h => h.1, fun A outer s H args us vs Q E hr he hb hv hs => by
      obtain ⟨_, r, mu, us, _, _, h⟩ := hs
      exact False.elim h⟩
  | n + 1, i, d, st, f, fd, hi, D => by
    have gx : ∀ (cdv : Value) (A : Around) (outer : List Env) (s : Shared) (H : Hp) (E : XK), RmG (n + 3) (A.deeper (envOfC d.name (defScope st) s.heap.objs.size f cdv)) →
        GX P (run P.G P.fns n) d.names (defScope st) (isLoc (defScope st)) (fun cls d _ H => E cls d H) (cxOf (L2.CX prog w) prog w K mg base d.names d.name (defScope st) f cdv A outer s H E) := by
      intro cdv A outer s H E hr
      exact {
        hN := rfl
        nd := D.sc.nd
        sc := rfl
        kind := D.sc.kind
        calm := rfl
        un := by have := hr.rm.un; show (A.deeper (envOfC d.name (defScope st) s.heap.objs.size f cdv)).units + 65 < cLine; omega
        ln := fun x h => ⟨isLoc_of h, .inl rfl⟩
        po := passes_of rfl
        tk := takes_of rfl rfl rfl rfl
        bl := m.bl
        gl := m.gl
        rs := m.rs
        rx := fun c ns kws h => (m.rx c ns kws h).xf rfl rfl
        fns := ⟨n + 3, ⟨by omega, hr⟩, fun j d' hj => by
          obtain ⟨st', f', fd', D'⟩ := m.ds j d' hj
          exact ⟨f', fd', D'.mgf, D'.F.kp, D'.bnd, Dn.fn m n j d' st' f' fd' hj D'⟩⟩ }
    have core : ∀ (H : Hp) (vs : List V) (Q : VK) (E : XK), spOf K (run P.G P.fns (n + 1) i) d.params.length vs H Q E →
        tS K (fun cls d _ H => E cls d H) (exs P.G (run P.G P.fns n) d.body) { nx := fun _ H' => Q .non H', rt := Q } (L2.start d.names vs) H := by
      intro H vs Q E h
      obtain ⟨hl, r, mu, us, hHR, hV, hq⟩ := h
      have hul : us.length = vs.length := hV.len
      have hpl : d.params.length ≤ d.names.length := by have := congrArg List.length D.sc.pre; rw [List.length_take] at this; omega
      have noO : ∀ p, ¬ Own (L2.start d.names vs) (us.map Slot.val ++ List.replicate (d.names.length - us.length) .none) p := by
        rintro p ⟨j, o, h1, _⟩
        rw [List.getElem?_append] at h1
        split at h1
        · rw [List.getElem?_map] at h1
          cases e : us[j]? with
          | none => rw [e] at h1; cases h1
          | some u => rw [e] at h1; cases h1
        · rw [List.getElem?_replicate] at h1
          split at h1 <;> cases h1
      have hS : SR K H r (L2.start d.names vs) (us.map Slot.val ++ List.replicate (d.names.length - us.length) .none) := {
        len := by unfold L2.start; simp only [List.length_append, List.length_map, List.length_replicate]; omega
        val := fun j v h => by
          rw [List.getElem?_append] at h
          split at h
          · rename_i hj
            rw [List.length_map] at hj
            rw [List.getElem?_map] at h
            cases e : us[j]? with
            | none => rw [e] at h; cases h
            | some u =>
              rw [e] at h
              cases h
              obtain ⟨x, hx, vx⟩ := hV.get e
              exact ⟨x, by unfold L2.start; rw [List.getElem?_append_left (by rw [List.length_map]; omega), List.getElem?_map, hx]; rfl, vx⟩
          · rw [List.getElem?_replicate] at h
            split at h <;> cases h
        own := fun j o h => by
          rw [List.getElem?_append] at h
          split at h
          · rw [List.getElem?_map] at h
            cases e : us[j]? with
            | none => rw [e] at h; cases h
            | some u => rw [e] at h; cases h
          · rw [List.getElem?_replicate] at h
            split at h <;> cases h
        nofz := fun p h => absurd h (noO p)
        nd := fun j k o o' p h1 h2 h3 h4 => absurd ⟨j, o, h1, h3⟩ (noO p) }
      refine ⟨r, ⟨us.map Slot.val ++ List.replicate (d.names.length - us.length) Slot.none, mu⟩, ⟨hHR, hS⟩, ?_⟩
      have e1 : run P.G P.fns (n + 1) i us mu = match exs P.G (run P.G P.fns n) d.body ⟨us.map .val ++ List.replicate (d.names.length - us.length) .none, mu⟩ with
        | .ret v s => .ok v s.mu
        | .next s => .ok .none s.mu
        | .exc e s => .exc e s.mu
        | _ => .bad := by
        show (match P.fns[i]? with | some d => _ | none => _) = _
        rw [hi]
        exact if_pos (hul.trans hl)
      rw [e1] at hq
      have back : ∀ {σ' : L2.St} {sl' : List Slot} {H' : Hp} {r' : RI}, Step (L2.start d.names vs) (us.map Slot.val ++ List.replicate (d.names.length - us.length) .none) H r σ' sl' H' r' → Step [] [] H r [] [] H' r' := fun st =>
        ⟨st.gr, fun p u z hi _ => st.kp p u z hi (noO p), st.io, fun p z => (st.fz p z).elim .inl fun z => z.elim (fun z => .inr (.inl z)) fun z => absurd z (noO p), fun p z => absurd z own_nil, st.is⟩
      cases ho : exs P.G (run P.G P.fns n) d.body ⟨us.map .val ++ List.replicate (d.names.length - us.length) .none, mu⟩ with
      | ret v s' =>
        rw [ho] at hq
        exact fun x σ' H' r' st a vx => hq x H' r' (back st) a.hr vx
      | next s' =>
        rw [ho] at hq
        exact fun σ' H' r' st a => hq .non H' r' (back st) a.hr rfl
      | exc e s' =>
        rw [ho] at hq
        exact fun cls dd σ' H' r' st a er => hq cls dd H' r' (back st) a.hr er
      | brk s' => rw [ho] at hq; exact False.elim hq
      | cont s' => rw [ho] at hq; exact False.elim hq
      | bad => rw [ho] at hq; exact False.elim hq
    rcases D.ok with ok | ok
    · exact okG D.F D.sc (fun vs H Q E h => h.1) fun cdv A outer s H vs Q E hr h => ⟨_, soSs d.body (gx cdv A outer s H E hr) ⟨rfl, rfl, rfl⟩ (defBody st) ok, core H vs Q E h⟩
    · obtain ⟨⟨e, x, pos, e1, e2, h1⟩, h2, h3⟩ := okRd_by ok
      refine .of (FunD.okT D.F D.sc h2 h3 (fun vs H Q E h => h.1) fun cdv A outer s H vs Q E hr h => ?_)
      have q := core H vs Q E h
      rw [e1] at q
      rw [e2]
      exact ⟨_, soRd (P := P) (N := d.names) (S := defScope st) (fun i x h => okV_in rfl rfl h) h1, q⟩
theorem vrs_ints {H : Hp} {r : RI} : ∀ ns : List Int, VRs K H r (ns.map Val.int) (ns.map V.int)
  | [] => rfl
  | n :: ns => ⟨_, _, rfl, rfl, vrs_ints ns⟩
theorem law_sp {sp : List Val → List Obj → OutF} {H : Hp} {a : Addr} {ns : List Int} (hO : Only H) (hS : SqL K H a (ns.map V.int)) (h : ∃ mu, sp [.rol (ns.map .int)] [] = .ok (.bool true) mu) :
    spOf K sp 1 [.ref a] H (fun v _ => v = .bl true) fun _ _ _ => False := by
  obtain ⟨mu, h⟩ := h
  refine ⟨rfl, ⟨[], fun p => p = a ∧ Rd H a (.lst (ns.map V.int))⟩, [], [.rol (ns.map .int)], ⟨rfl, fun _ _ _ z => by simp at z, fun _ z => by simp at z, List.nodup_nil, ?_⟩, ⟨_, _, rfl, ⟨a, _, rfl, ?_, vrs_ints ns⟩, rfl⟩, ?_⟩
  · rintro p ⟨rfl, z | ⟨o, z⟩⟩ <;> rw [z] <;> simp
  · rcases hS with z | z
    · exact .inl ⟨⟨rfl, z⟩, z⟩
    · exact .inr z
  · rw [h]
    exact fun x H' r' _ _ vx => vx
theorem walk {l : PySem.W.OpenLaw} {n k i : Nat} {q : Program} {loose : List Str} {XP : (Str → Option Value) → Heap → Prop} {YP : World → Heap → Prop} {d : DefRec} {KW : Params → PySem.W.Frag} {fdl : FDef} {x : Str}
    (hn : l.most = some n) (hn2 : n ≤ sizeLine) (hdf : d.params.defaults = []) (hr : Room (k + 3) callerA)
    (hY : ∀ (w : World) (h : Heap), YP w h → (KW w.params).In h) (hi : P.fns[i]? = some fdl) (hp : fdl.params = [x]) (hkw : fdl.kwi = none)
    (F : ∀ (w : World) (mg : Str → Option Value) (fa : Addr) (h : Heap), (KW w.params).In h → h.Ns mainGlobals mg → mg d.name = some (.ref fa) →
      Md (KW w.params) mg P ∧ ∃ st fd, Dn (KW w.params) mg P fdl st fa fd)
    (hm : ∀ ns : List Int, ns.length ≤ n → ∃ mu, run P.G P.fns k i [.rol (ns.map .int)] [] = .ok (.bool true) mu) :
    PySem.W.WalkO q loose XP YP l.row.toRowW d [] (fun f vs => PySem.call f vs) := by
  refine walkG (n := n) (k := k + 3) (x := x) (CXw := fun w => L2.CX l.prog w) (sp := fun w => spOf (KW w.params) (run P.G P.fns k i) 1) hn hn2 hdf hr hY (fun w mg fa h KX G hmg => ?_) (fun w H a ns hl hO hS => law_sp hO hS (hm ns hl)) fun w H s e s' z => ?_
  · obtain ⟨m, st, fd, D⟩ := F w mg fa h KX G hmg
    refine ⟨fd, fun s u => .of_eq ?_, fun base _ _ => ?_⟩
    · have := D.bn hkw [u] (by rw [hp]; rfl)
      rw [hp] at this
      exact this
    · have := D.fn (prog := l.prog) (w := w) (base := base) m k i fdl st fa fd hi
      rw [hp] at this
      exact this
  · obtain ⟨a, B, H', cls, dd, _, _, _, _, _, _, _, z⟩ := z
    exact z
end
end M
end F_M5
section F_M5e
set_option maxRecDepth 100000
namespace M
open PySem PySem.Spec PyProof.Rows L2
def oexB (K : PySem.W.Frag) (C : Addr) : Bool := match K.lookup C with
  | some ⟨.type "type", _, .cls cd, sl⟩ => (match cd.mro, sl.toList with
    | .ref C' :: bm, [_, _, _, _, some (.builtin n), _] => C' == C && n == "ValueError.__new__" && !cd.hasDel && cd.hasDict && PySem.HandSPX.refsVE bm
    | _, _ => false)
  | _ => false
theorem oexB_by {K : PySem.W.Frag} {C : Addr} (q : oexB K C = true) : ∃ nm qn N bs bm sn sub ab col dd k0 k1 k2 k3 k5, K.lookup C = some (excClassObj nm qn C N bs bm true sn sub ab col dd k0 k1 k2 k3 k5 "ValueError.__new__") ∧ PySem.HandSPX.refsVE bm = true := by
  unfold oexB at q
  split at q
  · rename_i dd cd sl ho
    split at q
    · rename_i C' bm k0 k1 k2 k3 n k5 hm hs
      simp only [Bool.and_eq_true, beq_iff_eq, Bool.not_eq_true'] at q
      obtain ⟨⟨⟨⟨rfl, rfl⟩, hdel⟩, hdict⟩, ht⟩ := q
      obtain ⟨nm, bs, mro, ns, qn, hd, sn, sub, ab, col, del⟩ := cd
      dsimp only at hm hdel hdict
      subst hm hdel hdict
      have hsl : sl = #[k0, k1, k2, k3, some (.builtin "ValueError.__new__"), k5] := by
        obtain ⟨l⟩ := sl
        simp only at hs
        rw [hs]
      subst hsl
      exact ⟨nm, qn, ns, bs, bm, sn, sub, ab, col, dd, k0, k1, k2, k3, k5, ho, ht⟩
    · cases q
  · cases q
def exB (K : PySem.W.Frag) (c : Str) : Bool :=
  (PySem.W.nsIn K mainGlobals c == some (some (.ref (clA K c)))) && (PySem.W.typeIn K (.ref (clA K c)) == some (.type "type")) && PySem.W.hasDictIn K (clA K c) &&
  (PySem.W.subIn K (.ref (clA K c)) (.type "BaseException") == some true) && (PySem.W.subIn K (.ref (clA K c)) (.ref (clA K c)) == some true) && (PySem.W.subIn K (.ref (clA K c)) (.type "ValueError") == some true) &&
  PySem.W.keepIn K (.ref (clA K c)) && (PySem.W.findIn K (.ref (clA K c)) "__getattribute__" == some (some (.builtin "BaseException.__getattribute__"))) && (PySem.W.findIn K (.ref (clA K c)) "__getattr__" == some none) &&
  (PySem.W.findIn K (.ref (clA K c)) "__class__" == some (some (.builtin "object.__class__"))) && (PySem.W.mroIn K (clA K c) (.type "object") == some true) &&
  (PySem.W.specialIn K (.builtin "object.__class__") "__get__" == some (some (.builtin "getset_descriptor.__get__"))) && (PySem.W.takesIn K (.builtin "object.__class__") == some true)
structure EB (K : PySem.W.Frag) (c : Str) : Prop where
  ns : PySem.W.nsIn K mainGlobals c = some (some (.ref (clA K c)))
  ty : PySem.W.typeIn K (.ref (clA K c)) = some (.type "type")
  hd : PySem.W.hasDictIn K (clA K c) = true
  be : PySem.W.subIn K (.ref (clA K c)) (.type "BaseException") = some true
  se : PySem.W.subIn K (.ref (clA K c)) (.ref (clA K c)) = some true
  kp : PySem.W.keepIn K (.ref (clA K c)) = true
  ek : EK K (clA K c)
theorem exB_by {K : PySem.W.Frag} {c : Str} (h : exB K c = true) : EB K c := by
  unfold exB at h
  simp only [Bool.and_eq_true, beq_iff_eq] at h
  obtain ⟨⟨⟨⟨⟨⟨⟨⟨⟨⟨⟨⟨h1, h2⟩, h3⟩, h4⟩, h5⟩, h6⟩, h7⟩, h8⟩, h9⟩, h10⟩, h11⟩, h12⟩, h13⟩ := h
  exact ⟨h1, h2, h3, h4, h5, h7, cls_some h3, h8, h9, h4, h10, h12, h13, h11, kit_ve h6⟩
def relB (K : PySem.W.Frag) (c : Str) (ds : List Str) (b : Bool) : Bool := ds.all fun d => PySem.W.subIn K (.ref (clA K d)) (.ref (clA K c)) == some b
def bltB (K : PySem.W.Frag) (c : Str) : Bool := (["NoneType", "bool", "int", "str", "tuple", "list"] : List String).all fun t => PySem.W.subIn K (.type t) (.ref (clA K c)) == some false
theorem cf_by {K : PySem.W.Frag} {c : Str} {subs nots : List Str} (e : EB K c) (h1 : relB K c subs true = true) (h2 : relB K c nots false = true) (h3 : bltB K c = true) : CF K c subs nots := by
  unfold relB at h1 h2
  unfold bltB at h3
  rw [List.all_eq_true] at h1 h2 h3
  refine ⟨fun D hD => ?_, fun D hD => ?_, fun t ht => ?_⟩
  · have h := beq_iff_eq.mp (h1 D hD)
    exact ⟨kit_sub e.hd e.ty e.se h, PySem.W.exm_ref e.be e.hd e.ty h⟩
  · have h := beq_iff_eq.mp (h2 D hD)
    exact ⟨kit_sub e.hd e.ty e.se h, PySem.W.exm_ref e.be e.hd e.ty h⟩
  · exact kit_sub e.hd e.ty e.se (beq_iff_eq.mp (h3 t ht))
theorem EB.mg {K : PySem.W.Frag} {h : Heap} {mg : Str → Option Value} {c : Str} (e : EB K c) (X : K.In h) (G : h.Ns mainGlobals mg) : mg c = some (.ref (clA K c)) := PySem.W.mg_of X G e.ns
def rfB (K : PySem.W.Frag) (c : Str) : Bool := PySem.W.excIn K (clA K c) [.type "ValueError", .type "Exception", .type "BaseException", .type "object"] "ValueError.__new__"
theorem rf_by {K : PySem.W.Frag} {h : Heap} {mg : Str → Option Value} {c : Str} (X : K.In h) (G : h.Ns mainGlobals mg) (e : EB K c) (q : rfB K c = true) : RF K mg c := ⟨e.mg X G, e.kp, q, e.ty, e.ek⟩
def xmB (K : PySem.W.Frag) (B c : Str) (ns : List Str) : Bool := oexB K (clA K c) && (PySem.W.findIn K (.ref (clA K c)) "__setattr__" == some (some (.builtin "object.__setattr__"))) && ns.all (fun n => PySem.W.findIn K (.ref (clA K c)) n == some none) &&
  PySem.W.readsIn K (clA K B) (.type "type") && (PySem.W.specialIn K (.ref (clA K B)) "__getattribute__" == some (some (.builtin "type.__getattribute__"))) &&
  (match PySem.W.findCls K (.ref (clA K B)) (.type "type") "__init__" with | some (.val (.builtin n)) => n == "ValueError.__init__" | _ => false)
theorem xmB_by {K : PySem.W.Frag} {B c : Str} {ns : List Str} (e : EB K c) (h : xmB K B c ns = true) : OexC K (clA K c) ∧ (∀ n ∈ ns, PySem.W.findIn K (.ref (clA K c)) n = some none) ∧
    ∃ mc, ClX.CRead K (clA K B) mc ∧ PySem.W.findCls K (.ref (clA K B)) mc "__init__" = some (.val (.builtin "ValueError.__init__")) := by
  unfold xmB at h
  simp only [Bool.and_eq_true, beq_iff_eq] at h
  obtain ⟨⟨⟨⟨⟨h1, h2⟩, h3⟩, h4⟩, h5⟩, h6⟩ := h
  rw [List.all_eq_true] at h3
  refine ⟨⟨oexB_by h1, h2, e.be, e.ty, e.kp⟩, fun n hn => beq_iff_eq.mp (h3 n hn), _, ⟨h4, h5⟩, ?_⟩
  split at h6
  · rename_i n hq
    rw [beq_iff_eq.mp h6] at hq
    exact hq
  · cases h6
theorem xm_mk {K : PySem.W.Frag} {h : Heap} {mg : Str → Option Value} {B c : Str} {ns : List Str} {kws : List (List Str × List Nat)} {st : Stmt} {fI : Addr} {fd : FuncData} {ql : Str} (X : K.In h) (G : h.Ns mainGlobals mg) (e : EB K c) (eB : EB K B) (q : xmB K B c ns = true)
    (hq : ql = c ++ ".__init__") (F : FunD K "__init__" ql (defArgs st) (defBody st) (defScope st) [] [] fI fd) (sc : FnScope (("self" : Str) :: ns) (("self" : Str) :: ns) (defScope st)) (sh : initSh B ns st = true) (n1 : 1 ≤ ns.length ∧ ns.length ≤ 800) (nd : ns.Nodup)
    (i1 : PySem.W.findIn K (.ref (clA K c)) "__init__" = some (some (.ref fI))) (i2 : PySem.W.typeIn K (.ref fI) = some (.type "function")) (b : Binds K fd ("self" :: ns) [])
    (kb : ∀ q ∈ kws, ∀ u (ws : List Value), ws.length = q.1.length → bindArgs fd ⟨[u], q.1.zip ws⟩ = pure ((("self" : Str) :: ns).zip (u :: pick q.2 ws))) : XM K mg c ns kws := by
  subst hq
  obtain ⟨oc, no, br⟩ := xmB_by e q
  exact ⟨e.mg X G, e.ek, e.hd, nd, B, st, fI, fd, ⟨F, sc, sh, n1, oc, no, eB.mg X G, br⟩, i1, i2, b, kb⟩
def clsSt (s : Stmt) (i : Nat) : Stmt := match s with
  | .ClassDef _ _ _ b _ _ _ _ _ _ _ => b.getD i (.Pass ⟨0, 0, 0, 0⟩)
  | _ => .Pass ⟨0, 0, 0, 0⟩
end M
end F_M5e
section F_K20a
set_option maxRecDepth 100000
namespace K20
open M PySem PySem.Spec PyProof.Rows L2
def d__law_purse : FDef := ⟨"_law_purse", ["script"], ["script", "cells", "cell"],
    (.cons (.asg (.nm 1) (.shc (.bin .mod (.var 2) (.bin .pow (.bin .pow (.cst (.int 10)) (.cst (.int 60))) (.cst (.int 60)))) (.nm 2) (.e (.slice (.var 0) none (some (.cst (.int 63))))) .nil [2]))
    (.cons (.if_ (.cmp .eq (.var 1) (.lst .nil)) (.cons (.asg (.nm 1) (.shl (.cons (.cst (.int 0)) .nil)))
    .nil) .nil)
    (.cons (.ret (.shl (.cons (.var 1) (.cons (.cst (.int 0)) .nil))))
    .nil))), none⟩
def d__law_draw : FDef := ⟨"_law_draw", ["purse", "out_of"], ["purse", "out_of", "cells", "went", "where", "cell", "number", "other"],
    (.cons (.asg (.tup [(.nm 2), (.nm 3)]) (.frz 0))
    (.cons (.asg (.nm 4) (.bin .mod (.var 3) (.bcall .len (.cons (.var 2) .nil))))
    (.cons (.asg (.nm 5) (.ix (.var 2) (.var 4)))
    (.cons (.setIx (.var 0) (.cst (.int 1)) (.bin .add (.var 3) (.cst (.int 1))))
    (.cons (.if_ (.cmp .ge (.var 5) (.bin .pow (.cst (.int 10)) (.cst (.int 18)))) (.cons (.setIx (.var 2) (.var 4) (.bin .fdiv (.var 5) (.var 1)))
    (.cons (.ret (.bin .mod (.var 5) (.var 1)))
    .nil)) .nil)
    (.cons (.asg (.nm 6) (.bin .mod (.bin .add (.bin .add (.bin .mul (.bin .mod (.var 5) (.cst (.int 2147483629))) (.cst (.int 48271))) (.bin .mul (.bin .mul (.var 3) (.var 3)) (.cst (.int 69621)))) (.cst (.int 11))) (.cst (.int 2147483647))))
    (.cons (.asg (.nm 6) (.bin .mod (.bin .mul (.var 6) (.var 6)) (.cst (.int 2147483629))))
    (.cons (.asg (.nm 6) (.bin .mod (.bin .mul (.var 6) (.var 6)) (.cst (.int 2147483587))))
    (.cons (.if_ (.cmp .gt (.var 1) (.bin .pow (.cst (.int 10)) (.cst (.int 9)))) (.cons (.asg (.nm 7) (.bin .mod (.bin .add (.bin .add (.bin .mul (.var 6) (.cst (.int 39373))) (.bin .mul (.var 3) (.cst (.int 7919)))) (.cst (.int 500))) (.cst (.int 2147483629))))
    (.cons (.asg (.nm 6) (.bin .mul (.var 6) (.bin .add (.bin .mul (.bin .mul (.var 7) (.var 7)) (.var 7)) (.cst (.int 1)))))
    .nil)) .nil)
    (.cons (.ret (.bin .mod (.var 6) (.var 1)))
    .nil)))))))))), none⟩
def d__law_thing : FDef := ⟨"_law_thing", ["purse", "which"], ["purse", "which", "number"],
    (.cons (.asg (.nm 2) (.ix (.lst (.cons (.call 1 (.cons (.var 0) (.cons (.cst (.int 12)) .nil))) (.cons (.call 1 (.cons (.var 0) (.cons (.bin .pow (.cst (.int 10)) (.cst (.int 30))) .nil))) .nil))) (.call 1 (.cons (.var 0) (.cons (.cst (.int 2)) .nil)))))
    (.cons (.if_ (.cmp .lt (.var 1) (.cst (.int 4))) (.cons (.ret (.ix (.lst (.cons (.cst (.str [97])) (.cons (.cst (.str [97, 97])) (.cons (.cst (.str [101, 105, 103, 104, 116, 101, 101, 110])) (.cons (.cst (.str [122, 122])) (.cons (.cst (.str [98])) .nil)))))) (.call 1 (.cons (.var 0) (.cons (.cst (.int 5)) .nil)))))
    .nil) .nil)
    (.cons (.if_ (.cmp .lt (.var 1) (.cst (.int 8))) (.cons (.ret (.ix (.lst (.cons (.tup (.cons (.cst (.str [109, 111, 100, 117, 108, 101])) .nil)) (.cons (.tup (.cons (.cst (.str [110, 97, 109, 101])) .nil)) (.cons (.tup (.cons (.cst (.str [114, 111, 119])) (.cons (.var 2) .nil))) (.cons (.tup (.cons (.cst (.str [109, 111, 100, 117, 108, 101, 115])) .nil)) (.cons (.tup (.cons (.cst (.str [110, 97, 109, 101])) (.cons (.var 2) .nil))) .nil)))))) (.call 1 (.cons (.var 0) (.cons (.cst (.int 5)) .nil)))))
    .nil) .nil)
    (.cons (.if_ (.cmp .eq (.var 1) (.cst (.int 13))) (.cons (.ret (.ix (.lst (.cons (.tup (.cons (.cst (.str [114, 105, 110, 103])) (.cons (.lst (.cons (.cst (.str [97])) (.cons (.cst (.str [98])) .nil))) .nil))) (.cons (.tup (.cons (.cst (.str [105, 110, 110, 101, 114])) (.cons (.cst (.str [97, 97])) .nil))) (.cons (.tup (.cons (.cst (.str [114, 105, 110, 103])) (.cons (.lst (.cons (.cst (.str [120])) .nil)) .nil))) (.cons (.tup (.cons (.cst (.str [112, 108, 97, 105, 110])) (.cons (.cst (.int 2)) (.cons (.cst (.int 0)) .nil)))) .nil))))) (.call 1 (.cons (.var 0) (.cons (.cst (.int 4)) .nil)))))
    .nil) .nil)
    (.cons (.if_ (.cmp .eq (.var 1) (.cst (.int 14))) (.cons (.ret (.ix (.lst (.cons (.tup (.cons (.var 2) (.cons (.tup .nil) .nil))) (.cons (.tup (.cons (.cst (.int 0)) (.cons (.tup (.cons (.cst (.int 1)) (.cons (.cst (.int 0)) .nil))) .nil))) (.cons (.tup (.cons (.cst (.int 3)) (.cons (.tup (.cons (.var 2) .nil)) .nil))) .nil)))) (.call 1 (.cons (.var 0) (.cons (.cst (.int 3)) .nil)))))
    .nil) .nil)
    (.cons (.ret (.var 2))
    .nil)))))), none⟩
def d__law_marks : FDef := ⟨"_law_marks", ["caught"], ["caught", "found", "k"],
    (.cons (.asg (.nm 1) (.lst (.cons (.bcall .isinstance (.cons (.var 0) (.cons (.glob 3) .nil))) (.cons (.bcall .isinstance (.cons (.var 0) (.cons (.glob 8) .nil))) (.cons (.bcall .isinstance (.cons (.var 0) (.cons (.glob 14) .nil))) .nil)))))
    (.cons (.asg (.nm 1) (.bin .add (.var 1) (.lst (.cons (.bcall .isinstance (.cons (.var 0) (.cons (.glob 28) .nil))) (.cons (.bcall .isinstance (.cons (.var 0) (.cons (.glob 4) .nil))) (.cons (.bcall .isinstance (.cons (.var 0) (.cons (.glob 11) .nil))) .nil))))))
    (.cons (.asg (.nm 1) (.bin .add (.var 1) (.lst (.cons (.bcall .isinstance (.cons (.var 0) (.cons (.glob 13) .nil))) (.cons (.bcall .isinstance (.cons (.var 0) (.cons (.glob 15) .nil))) (.cons (.bcall .isinstance (.cons (.var 0) (.cons (.glob 5) .nil))) .nil))))))
    (.cons (.asg (.nm 1) (.bin .add (.var 1) (.lst (.cons (.bcall .isinstance (.cons (.var 0) (.cons (.glob 19) .nil))) (.cons (.bcall .isinstance (.cons (.var 0) (.cons (.glob 18) .nil))) (.cons (.bcall .isinstance (.cons (.var 0) (.cons (.glob 0) .nil))) .nil))))))
    (.cons (.asg (.nm 1) (.bin .add (.var 1) (.lst (.cons (.bcall .isinstance (.cons (.var 0) (.cons (.glob 25) .nil))) (.cons (.bcall .isinstance (.cons (.var 0) (.cons (.glob 7) .nil))) (.cons (.bcall .isinstance (.cons (.var 0) (.cons (.glob 17) .nil))) .nil))))))
    (.cons (.asg (.nm 1) (.bin .add (.var 1) (.lst (.cons (.bcall .isinstance (.cons (.var 0) (.cons (.glob 20) .nil))) (.cons (.bcall .isinstance (.cons (.var 0) (.cons (.glob 2) .nil))) (.cons (.bcall .isinstance (.cons (.var 0) (.cons (.glob 6) .nil))) .nil))))))
    (.cons (.asg (.nm 1) (.bin .add (.var 1) (.lst (.cons (.bcall .isinstance (.cons (.var 0) (.cons (.glob 9) .nil))) (.cons (.bcall .isinstance (.cons (.var 0) (.cons (.glob 10) .nil))) (.cons (.bcall .isinstance (.cons (.var 0) (.cons (.glob 12) .nil))) .nil))))))
    (.cons (.asg (.nm 1) (.bin .add (.var 1) (.lst (.cons (.bcall .isinstance (.cons (.var 0) (.cons (.glob 16) .nil))) (.cons (.bcall .isinstance (.cons (.var 0) (.cons (.glob 21) .nil))) (.cons (.bcall .isinstance (.cons (.var 0) (.cons (.glob 22) .nil))) .nil))))))
    (.cons (.asg (.nm 1) (.bin .add (.var 1) (.lst (.cons (.bcall .isinstance (.cons (.var 0) (.cons (.glob 23) .nil))) (.cons (.bcall .isinstance (.cons (.var 0) (.cons (.glob 24) .nil))) (.cons (.bcall .isinstance (.cons (.var 0) (.cons (.glob 26) .nil))) .nil))))))
    (.cons (.asg (.nm 1) (.bin .add (.var 1) (.lst (.cons (.bcall .isinstance (.cons (.var 0) (.cons (.glob 27) .nil))) .nil))))
    (.cons (.ret (.lc (.var 2) (.nm 2) (.range (.cons (.bcall .len (.cons (.var 1) .nil)) .nil)) (.cons (.ix (.var 1) (.var 2)) .nil) [2]))
    .nil))))))))))), none⟩
def d__law_first : FDef := ⟨"_law_first", ["which", "one", "two"], ["which", "one", "two"],
    (.cons (.if_ (.cmp .eq (.var 0) (.cst (.int 0))) (.cons (.rz (.rI "NoBeat" ["name"] (.cons (.var 1) .nil)))
    .nil) .nil)
    (.cons (.if_ (.cmp .eq (.var 0) (.cst (.int 1))) (.cons (.rz (.rI "NoFlow" ["name"] (.cons (.var 1) .nil)))
    .nil) .nil)
    (.cons (.if_ (.cmp .eq (.var 0) (.cst (.int 2))) (.cons (.rz (.rI "NoName" ["name"] (.cons (.var 1) .nil)))
    .nil) .nil)
    (.cons (.if_ (.cmp .eq (.var 0) (.cst (.int 3))) (.cons (.rz (.rI "Twice" ["name"] (.cons (.var 1) .nil)))
    .nil) .nil)
    (.cons (.if_ (.cmp .eq (.var 0) (.cst (.int 4))) (.cons (.rz (.rI "NoBook" ["wrong"] (.cons (.var 1) .nil)))
    .nil) .nil)
    (.cons (.if_ (.cmp .eq (.var 0) (.cst (.int 5))) (.cons (.rz (.rI "NoLoop" ["wrong"] (.cons (.var 1) .nil)))
    .nil) .nil)
    (.cons (.if_ (.cmp .eq (.var 0) (.cst (.int 6))) (.cons (.rz (.rI "NoModule" ["wrong"] (.cons (.var 1) .nil)))
    .nil) .nil)
    (.cons (.if_ (.cmp .eq (.var 0) (.cst (.int 7))) (.cons (.rz (.rI "NoNet" ["wrong"] (.cons (.var 1) .nil)))
    .nil) .nil)
    (.cons (.if_ (.cmp .eq (.var 0) (.cst (.int 8))) (.cons (.rz (.rI "NoDeed" ["at"] (.cons (.var 1) .nil)))
    .nil) .nil)
    (.cons (.if_ (.cmp .eq (.var 0) (.cst (.int 9))) (.cons (.rz (.rI "NoState" ["at"] (.cons (.var 1) .nil)))
    .nil) .nil)
    (.cons (.if_ (.cmp .eq (.var 0) (.cst (.int 10))) (.cons (.rz (.rI "NoRoom" ["lane"] (.cons (.var 1) .nil)))
    .nil) .nil)
    (.cons (.if_ (.cmp .eq (.var 0) (.cst (.int 11))) (.cons (.rz (.rI "Dry" ["lane"] (.cons (.var 1) .nil)))
    .nil) .nil)
    (.cons (.if_ (.cmp .eq (.var 0) (.cst (.int 12))) (.cons (.rz (.rI "Over" ["lane"] (.cons (.var 1) .nil)))
    .nil) .nil)
    (.cons (.if_ (.cmp .eq (.var 0) (.cst (.int 13))) (.cons (.rz (.rI "NoFace" ["paper"] (.cons (.var 1) .nil)))
    .nil) .nil)
    (.cons (.if_ (.cmp .eq (.var 0) (.cst (.int 14))) (.cons (.rz (.rI "NoPlace" ["place"] (.cons (.var 1) .nil)))
    .nil) .nil)
    (.cons (.if_ (.cmp .eq (.var 0) (.cst (.int 15))) (.cons (.rz (.rI "NoText" ["row", "at"] (.cons (.var 1) (.cons (.var 2) .nil))))
    .nil) .nil)
    .nil)))))))))))))))), none⟩
def d__law_second : FDef := ⟨"_law_second", ["which", "one", "two"], ["which", "one", "two"],
    (.cons (.if_ (.cmp .eq (.var 0) (.cst (.int 0))) (.cons (.rz (.rK "NoBeat" ["name"] ["name"] [0] (.cons (.var 1) .nil)))
    .nil) .nil)
    (.cons (.if_ (.cmp .eq (.var 0) (.cst (.int 1))) (.cons (.rz (.rK "NoFlow" ["name"] ["name"] [0] (.cons (.var 1) .nil)))
    .nil) .nil)
    (.cons (.if_ (.cmp .eq (.var 0) (.cst (.int 2))) (.cons (.rz (.rK "NoName" ["name"] ["name"] [0] (.cons (.var 1) .nil)))
    .nil) .nil)
    (.cons (.if_ (.cmp .eq (.var 0) (.cst (.int 3))) (.cons (.rz (.rK "Twice" ["name"] ["name"] [0] (.cons (.var 1) .nil)))
    .nil) .nil)
    (.cons (.if_ (.cmp .eq (.var 0) (.cst (.int 4))) (.cons (.rz (.rK "NoBook" ["wrong"] ["wrong"] [0] (.cons (.var 1) .nil)))
    .nil) .nil)
    (.cons (.if_ (.cmp .eq (.var 0) (.cst (.int 5))) (.cons (.rz (.rK "NoLoop" ["wrong"] ["wrong"] [0] (.cons (.var 1) .nil)))
    .nil) .nil)
    (.cons (.if_ (.cmp .eq (.var 0) (.cst (.int 6))) (.cons (.rz (.rK "NoModule" ["wrong"] ["wrong"] [0] (.cons (.var 1) .nil)))
    .nil) .nil)
    (.cons (.if_ (.cmp .eq (.var 0) (.cst (.int 7))) (.cons (.rz (.rK "NoNet" ["wrong"] ["wrong"] [0] (.cons (.var 1) .nil)))
    .nil) .nil)
    (.cons (.if_ (.cmp .eq (.var 0) (.cst (.int 8))) (.cons (.rz (.rK "NoDeed" ["at"] ["at"] [0] (.cons (.var 1) .nil)))
    .nil) .nil)
    (.cons (.if_ (.cmp .eq (.var 0) (.cst (.int 9))) (.cons (.rz (.rK "NoState" ["at"] ["at"] [0] (.cons (.var 1) .nil)))
    .nil) .nil)
    (.cons (.if_ (.cmp .eq (.var 0) (.cst (.int 10))) (.cons (.rz (.rK "NoRoom" ["lane"] ["lane"] [0] (.cons (.var 1) .nil)))
    .nil) .nil)
    (.cons (.if_ (.cmp .eq (.var 0) (.cst (.int 11))) (.cons (.rz (.rK "Dry" ["lane"] ["lane"] [0] (.cons (.var 1) .nil)))
    .nil) .nil)
    (.cons (.if_ (.cmp .eq (.var 0) (.cst (.int 12))) (.cons (.rz (.rK "Over" ["lane"] ["lane"] [0] (.cons (.var 1) .nil)))
    .nil) .nil)
    (.cons (.if_ (.cmp .eq (.var 0) (.cst (.int 13))) (.cons (.rz (.rK "NoFace" ["paper"] ["paper"] [0] (.cons (.var 1) .nil)))
    .nil) .nil)
    (.cons (.if_ (.cmp .eq (.var 0) (.cst (.int 14))) (.cons (.rz (.rK "NoPlace" ["place"] ["place"] [0] (.cons (.var 1) .nil)))
    .nil) .nil)
    (.cons (.if_ (.cmp .eq (.var 0) (.cst (.int 15))) (.cons (.rz (.rK "NoText" ["row", "at"] ["at", "row"] [1, 0] (.cons (.var 2) (.cons (.var 1) .nil))))
    .nil) .nil)
    .nil)))))))))))))))), none⟩
def d__law_third : FDef := ⟨"_law_third", ["which"], ["which"],
    (.cons (.if_ (.cmp .eq (.var 0) (.cst (.int 16))) (.cons (.rz (.r0 "NoBack"))
    .nil) .nil)
    (.cons (.if_ (.cmp .eq (.var 0) (.cst (.int 17))) (.cons (.rz (.r0 "NoDrive"))
    .nil) .nil)
    (.cons (.if_ (.cmp .eq (.var 0) (.cst (.int 18))) (.cons (.rz (.r0 "NoLane"))
    .nil) .nil)
    (.cons (.if_ (.cmp .eq (.var 0) (.cst (.int 19))) (.cons (.rz (.r0 "NoLine"))
    .nil) .nil)
    (.cons (.if_ (.cmp .eq (.var 0) (.cst (.int 20))) (.cons (.rz (.r0 "NoMeasure"))
    .nil) .nil)
    (.cons (.if_ (.cmp .eq (.var 0) (.cst (.int 21))) (.cons (.rz (.r0 "NoPart"))
    .nil) .nil)
    (.cons (.if_ (.cmp .eq (.var 0) (.cst (.int 22))) (.cons (.rz (.r0 "NoTitle"))
    .nil) .nil)
    (.cons (.if_ (.cmp .eq (.var 0) (.cst (.int 23))) (.cons (.rz (.r0 "NoWait"))
    .nil) .nil)
    (.cons (.if_ (.cmp .eq (.var 0) (.cst (.int 24))) (.cons (.rz (.r0 "NoWay"))
    .nil) .nil)
    (.cons (.if_ (.cmp .eq (.var 0) (.cst (.int 25))) (.cons (.rz (.r0 "NoWord"))
    .nil) .nil)
    (.cons (.if_ (.cmp .eq (.var 0) (.cst (.int 26))) (.cons (.rz (.r0 "TooDeep"))
    .nil) .nil)
    (.cons (.if_ (.cmp .eq (.var 0) (.cst (.int 27))) (.cons (.rz (.r0 "TooLong"))
    .nil) .nil)
    .nil)))))))))))), none⟩
def d__law_fourth : FDef := ⟨"_law_fourth", ["which", "line"], ["which", "line"],
    (.cons (.if_ (.cmp .eq (.var 0) (.cst (.int 16))) (.cons (.rz (.rE "NoBack" (.var 1)))
    .nil) .nil)
    (.cons (.if_ (.cmp .eq (.var 0) (.cst (.int 17))) (.cons (.rz (.rE "NoDrive" (.var 1)))
    .nil) .nil)
    (.cons (.if_ (.cmp .eq (.var 0) (.cst (.int 18))) (.cons (.rz (.rE "NoLane" (.var 1)))
    .nil) .nil)
    (.cons (.if_ (.cmp .eq (.var 0) (.cst (.int 19))) (.cons (.rz (.rE "NoLine" (.var 1)))
    .nil) .nil)
    (.cons (.if_ (.cmp .eq (.var 0) (.cst (.int 20))) (.cons (.rz (.rE "NoMeasure" (.var 1)))
    .nil) .nil)
    (.cons (.if_ (.cmp .eq (.var 0) (.cst (.int 21))) (.cons (.rz (.rE "NoPart" (.var 1)))
    .nil) .nil)
    (.cons (.if_ (.cmp .eq (.var 0) (.cst (.int 22))) (.cons (.rz (.rE "NoTitle" (.var 1)))
    .nil) .nil)
    (.cons (.if_ (.cmp .eq (.var 0) (.cst (.int 23))) (.cons (.rz (.rE "NoWait" (.var 1)))
    .nil) .nil)
    (.cons (.if_ (.cmp .eq (.var 0) (.cst (.int 24))) (.cons (.rz (.rE "NoWay" (.var 1)))
    .nil) .nil)
    (.cons (.if_ (.cmp .eq (.var 0) (.cst (.int 25))) (.cons (.rz (.rE "NoWord" (.var 1)))
    .nil) .nil)
    (.cons (.if_ (.cmp .eq (.var 0) (.cst (.int 26))) (.cons (.rz (.rE "TooDeep" (.var 1)))
    .nil) .nil)
    (.cons (.if_ (.cmp .eq (.var 0) (.cst (.int 27))) (.cons (.rz (.rE "TooLong" (.var 1)))
    .nil) .nil)
    .nil)))))))))))), none⟩
def d__law_caught : FDef := ⟨"_law_caught", ["which", "way", "one", "two"], ["which", "way", "one", "two", "caught", "e"],
    (.cons (.asg (.nm 4) (.cst .none))
    (.cons (.tryAs (.cons (.if_ (.cmp .eq (.var 1) (.cst (.int 0))) (.cons (.expr (.call 4 (.cons (.var 0) (.cons (.var 2) (.cons (.var 3) .nil)))))
    (.cons (.expr (.call 6 (.cons (.var 0) .nil)))
    .nil)) (.cons (.expr (.call 5 (.cons (.var 0) (.cons (.var 2) (.cons (.var 3) .nil)))))
    (.cons (.expr (.call 7 (.cons (.var 0) (.cons (.ix (.lst (.cons (.cst (.str [])) (.cons (.cst (.str [97, 97])) (.cons (.cst (.str [110, 111, 32, 115, 117, 99, 104, 32, 116, 104, 105, 110, 103])) .nil)))) (.bin .sub (.var 1) (.cst (.int 1)))) .nil))))
    .nil)))
    .nil) 1 5 4)
    (.cons (.ret (.var 4))
    .nil))), none⟩
def d__law_borne : FDef := ⟨"_law_borne", ["which", "caught"], ["which", "caught"],
    (.cons (.if_ (.cmp .lt (.var 0) (.cst (.int 4))) (.cons (.ret (.lst (.cons (.fld (.var 1) "name") .nil)))
    .nil) .nil)
    (.cons (.if_ (.cmp .lt (.var 0) (.cst (.int 8))) (.cons (.ret (.lst (.cons (.fld (.var 1) "wrong") .nil)))
    .nil) .nil)
    (.cons (.if_ (.cmp .lt (.var 0) (.cst (.int 10))) (.cons (.ret (.lst (.cons (.fld (.var 1) "at") .nil)))
    .nil) .nil)
    (.cons (.if_ (.cmp .lt (.var 0) (.cst (.int 13))) (.cons (.ret (.lst (.cons (.fld (.var 1) "lane") .nil)))
    .nil) .nil)
    (.cons (.if_ (.cmp .eq (.var 0) (.cst (.int 13))) (.cons (.ret (.lst (.cons (.fld (.var 1) "paper") .nil)))
    .nil) .nil)
    (.cons (.if_ (.cmp .eq (.var 0) (.cst (.int 14))) (.cons (.ret (.lst (.cons (.fld (.var 1) "place") .nil)))
    .nil) .nil)
    (.cons (.if_ (.cmp .eq (.var 0) (.cst (.int 15))) (.cons (.ret (.lst (.cons (.fld (.var 1) "row") (.cons (.fld (.var 1) "at") .nil))))
    .nil) .nil)
    (.cons (.ret (.lst .nil))
    .nil)))))))), none⟩
def d_law : FDef := ⟨"law", ["script"], ["script", "purse", "held", "way", "which", "one", "two", "caught", "due"],
    (.cons (.asg (.nm 1) (.call 0 (.cons (.var 0) .nil)))
    (.cons (.own 2 (.lst .nil))
    (.cons (.for_ (.nm 3) (.range (.cons (.cst (.int 4)) .nil)) (.cons (.for_ (.nm 4) (.range (.cons (.cst (.int 28)) .nil)) (.cons (.asg (.nm 5) (.call 2 (.cons (.var 1) (.cons (.var 4) .nil))))
    (.cons (.asg (.nm 6) (.call 2 (.cons (.var 1) (.cons (.var 4) .nil))))
    (.cons (.asg (.nm 7) (.call 8 (.cons (.var 4) (.cons (.var 3) (.cons (.var 5) (.cons (.var 6) .nil))))))
    (.cons (.if_ (.or_ (.cmp .ne (.call 3 (.cons (.var 7) .nil)) (.lst (.cons (.var 4) .nil))) (.not_ (.bcall .isinstance (.cons (.var 7) (.cons (.cst (.ty .valueError)) .nil))))) (.cons (.ret (.cst (.bool false)))
    .nil) .nil)
    (.cons (.expr (.app (.var 2) (.cons (.lst (.cons (.var 4) (.cons (.var 7) (.cons (.slice (.lst (.cons (.var 5) (.cons (.var 6) .nil))) none (some (.bin .add (.bcall .int_ (.cons (.cmp .lt (.var 4) (.cst (.int 16))) .nil)) (.bcall .int_ (.cons (.cmp .eq (.var 4) (.cst (.int 15))) .nil))))) .nil)))) .nil)))
    .nil))))))
    .nil))
    (.cons (.ret (.cmp .eq (.lc (.var 4) (.tup [(.nm 4), (.nm 7), (.nm 8)]) (.e (.frz 2)) (.cons (.cmp .ne (.bcall .str_ (.cons (.call 9 (.cons (.var 4) (.cons (.var 7) .nil))) .nil)) (.bcall .str_ (.cons (.var 8) .nil))) .nil) [4, 7, 8]) (.lst .nil)))
    .nil)))), none⟩
abbrev prF : List FDef := [d__law_purse, d__law_draw, d__law_thing, d__law_marks, d__law_first, d__law_second, d__law_third, d__law_fourth, d__law_caught, d__law_borne, d_law]
abbrev prG : List (PySem.Str × Val) := [("Dry", (.cls "Dry" ["Dry"] ["NoBack", "NoBeat", "NoBook", "NoDeed", "NoDrive", "NoFace", "NoFlow", "NoLane", "NoLine", "NoLoop", "NoMeasure", "NoModule", "NoName", "NoNet", "NoPart", "NoPlace", "NoRoom", "NoState", "NoText", "NoTitle", "NoWait", "NoWay", "NoWord", "Over", "TooDeep", "TooLong", "Twice"])), ("LoomError", (.cls "LoomError" ["Dry", "NoBack", "NoBeat", "NoBook", "NoDeed", "NoDrive", "NoFace", "NoFlow", "NoLane", "NoLine", "NoLoop", "NoMeasure", "NoModule", "NoName", "NoNet", "NoPart", "NoPlace", "NoRoom", "NoState", "NoText", "NoTitle", "NoWait", "NoWay", "NoWord", "Over", "TooDeep", "TooLong", "Twice"] [])), ("NoBack", (.cls "NoBack" ["NoBack"] ["Dry", "NoBeat", "NoBook", "NoDeed", "NoDrive", "NoFace", "NoFlow", "NoLane", "NoLine", "NoLoop", "NoMeasure", "NoModule", "NoName", "NoNet", "NoPart", "NoPlace", "NoRoom", "NoState", "NoText", "NoTitle", "NoWait", "NoWay", "NoWord", "Over", "TooDeep", "TooLong", "Twice"])), ("NoBeat", (.cls "NoBeat" ["NoBeat"] ["Dry", "NoBack", "NoBook", "NoDeed", "NoDrive", "NoFace", "NoFlow", "NoLane", "NoLine", "NoLoop", "NoMeasure", "NoModule", "NoName", "NoNet", "NoPart", "NoPlace", "NoRoom", "NoState", "NoText", "NoTitle", "NoWait", "NoWay", "NoWord", "Over", "TooDeep", "TooLong", "Twice"])), ("NoBook", (.cls "NoBook" ["NoBook"] ["Dry", "NoBack", "NoBeat", "NoDeed", "NoDrive", "NoFace", "NoFlow", "NoLane", "NoLine", "NoLoop", "NoMeasure", "NoModule", "NoName", "NoNet", "NoPart", "NoPlace", "NoRoom", "NoState", "NoText", "NoTitle", "NoWait", "NoWay", "NoWord", "Over", "TooDeep", "TooLong", "Twice"])), ("NoDeed", (.cls "NoDeed" ["NoDeed"] ["Dry", "NoBack", "NoBeat", "NoBook", "NoDrive", "NoFace", "NoFlow", "NoLane", "NoLine", "NoLoop", "NoMeasure", "NoModule", "NoName", "NoNet", "NoPart", "NoPlace", "NoRoom", "NoState", "NoText", "NoTitle", "NoWait", "NoWay", "NoWord", "Over", "TooDeep", "TooLong", "Twice"])), ("NoDrive", (.cls "NoDrive" ["NoDrive"] ["Dry", "NoBack", "NoBeat", "NoBook", "NoDeed", "NoFace", "NoFlow", "NoLane", "NoLine", "NoLoop", "NoMeasure", "NoModule", "NoName", "NoNet", "NoPart", "NoPlace", "NoRoom", "NoState", "NoText", "NoTitle", "NoWait", "NoWay", "NoWord", "Over", "TooDeep", "TooLong", "Twice"])), ("NoFace", (.cls "NoFace" ["NoFace"] ["Dry", "NoBack", "NoBeat", "NoBook", "NoDeed", "NoDrive", "NoFlow", "NoLane", "NoLine", "NoLoop", "NoMeasure", "NoModule", "NoName", "NoNet", "NoPart", "NoPlace", "NoRoom", "NoState", "NoText", "NoTitle", "NoWait", "NoWay", "NoWord", "Over", "TooDeep", "TooLong", "Twice"])), ("NoFlow", (.cls "NoFlow" ["NoFlow"] ["Dry", "NoBack", "NoBeat", "NoBook", "NoDeed", "NoDrive", "NoFace", "NoLane", "NoLine", "NoLoop", "NoMeasure", "NoModule", "NoName", "NoNet", "NoPart", "NoPlace", "NoRoom", "NoState", "NoText", "NoTitle", "NoWait", "NoWay", "NoWord", "Over", "TooDeep", "TooLong", "Twice"])), ("NoLane", (.cls "NoLane" ["NoLane"] ["Dry", "NoBack", "NoBeat", "NoBook", "NoDeed", "NoDrive", "NoFace", "NoFlow", "NoLine", "NoLoop", "NoMeasure", "NoModule", "NoName", "NoNet", "NoPart", "NoPlace", "NoRoom", "NoState", "NoText", "NoTitle", "NoWait", "NoWay", "NoWord", "Over", "TooDeep", "TooLong", "Twice"])), ("NoLine", (.cls "NoLine" ["NoLine"] ["Dry", "NoBack", "NoBeat", "NoBook", "NoDeed", "NoDrive", "NoFace", "NoFlow", "NoLane", "NoLoop", "NoMeasure", "NoModule", "NoName", "NoNet", "NoPart", "NoPlace", "NoRoom", "NoState", "NoText", "NoTitle", "NoWait", "NoWay", "NoWord", "Over", "TooDeep", "TooLong", "Twice"])), ("NoLoop", (.cls "NoLoop" ["NoLoop"] ["Dry", "NoBack", "NoBeat", "NoBook", "NoDeed", "NoDrive", "NoFace", "NoFlow", "NoLane", "NoLine", "NoMeasure", "NoModule", "NoName", "NoNet", "NoPart", "NoPlace", "NoRoom", "NoState", "NoText", "NoTitle", "NoWait", "NoWay", "NoWord", "Over", "TooDeep", "TooLong", "Twice"])), ("NoMeasure", (.cls "NoMeasure" ["NoMeasure"] ["Dry", "NoBack", "NoBeat", "NoBook", "NoDeed", "NoDrive", "NoFace", "NoFlow", "NoLane", "NoLine", "NoLoop", "NoModule", "NoName", "NoNet", "NoPart", "NoPlace", "NoRoom", "NoState", "NoText", "NoTitle", "NoWait", "NoWay", "NoWord", "Over", "TooDeep", "TooLong", "Twice"])), ("NoModule", (.cls "NoModule" ["NoModule"] ["Dry", "NoBack", "NoBeat", "NoBook", "NoDeed", "NoDrive", "NoFace", "NoFlow", "NoLane", "NoLine", "NoLoop", "NoMeasure", "NoName", "NoNet", "NoPart", "NoPlace", "NoRoom", "NoState", "NoText", "NoTitle", "NoWait", "NoWay", "NoWord", "Over", "TooDeep", "TooLong", "Twice"])), ("NoName", (.cls "NoName" ["NoName"] ["Dry", "NoBack", "NoBeat", "NoBook", "NoDeed", "NoDrive", "NoFace", "NoFlow", "NoLane", "NoLine", "NoLoop", "NoMeasure", "NoModule", "NoNet", "NoPart", "NoPlace", "NoRoom", "NoState", "NoText", "NoTitle", "NoWait", "NoWay", "NoWord", "Over", "TooDeep", "TooLong", "Twice"])), ("NoNet", (.cls "NoNet" ["NoNet"] ["Dry", "NoBack", "NoBeat", "NoBook", "NoDeed", "NoDrive", "NoFace", "NoFlow", "NoLane", "NoLine", "NoLoop", "NoMeasure", "NoModule", "NoName", "NoPart", "NoPlace", "NoRoom", "NoState", "NoText", "NoTitle", "NoWait", "NoWay", "NoWord", "Over", "TooDeep", "TooLong", "Twice"])), ("NoPart", (.cls "NoPart" ["NoPart"] ["Dry", "NoBack", "NoBeat", "NoBook", "NoDeed", "NoDrive", "NoFace", "NoFlow", "NoLane", "NoLine", "NoLoop", "NoMeasure", "NoModule", "NoName", "NoNet", "NoPlace", "NoRoom", "NoState", "NoText", "NoTitle", "NoWait", "NoWay", "NoWord", "Over", "TooDeep", "TooLong", "Twice"])), ("NoPlace", (.cls "NoPlace" ["NoPlace"] ["Dry", "NoBack", "NoBeat", "NoBook", "NoDeed", "NoDrive", "NoFace", "NoFlow", "NoLane", "NoLine", "NoLoop", "NoMeasure", "NoModule", "NoName", "NoNet", "NoPart", "NoRoom", "NoState", "NoText", "NoTitle", "NoWait", "NoWay", "NoWord", "Over", "TooDeep", "TooLong", "Twice"])), ("NoRoom", (.cls "NoRoom" ["NoRoom"] ["Dry", "NoBack", "NoBeat", "NoBook", "NoDeed", "NoDrive", "NoFace", "NoFlow", "NoLane", "NoLine", "NoLoop", "NoMeasure", "NoModule", "NoName", "NoNet", "NoPart", "NoPlace", "NoState", "NoText", "NoTitle", "NoWait", "NoWay", "NoWord", "Over", "TooDeep", "TooLong", "Twice"])), ("NoState", (.cls "NoState" ["NoState"] ["Dry", "NoBack", "NoBeat", "NoBook", "NoDeed", "NoDrive", "NoFace", "NoFlow", "NoLane", "NoLine", "NoLoop", "NoMeasure", "NoModule", "NoName", "NoNet", "NoPart", "NoPlace", "NoRoom", "NoText", "NoTitle", "NoWait", "NoWay", "NoWord", "Over", "TooDeep", "TooLong", "Twice"])), ("NoText", (.cls "NoText" ["NoText"] ["Dry", "NoBack", "NoBeat", "NoBook", "NoDeed", "NoDrive", "NoFace", "NoFlow", "NoLane", "NoLine", "NoLoop", "NoMeasure", "NoModule", "NoName", "NoNet", "NoPart", "NoPlace", "NoRoom", "NoState", "NoTitle", "NoWait", "NoWay", "NoWord", "Over", "TooDeep", "TooLong", "Twice"])), ("NoTitle", (.cls "NoTitle" ["NoTitle"] ["Dry", "NoBack", "NoBeat", "NoBook", "NoDeed", "NoDrive", "NoFace", "NoFlow", "NoLane", "NoLine", "NoLoop", "NoMeasure", "NoModule", "NoName", "NoNet", "NoPart", "NoPlace", "NoRoom", "NoState", "NoText", "NoWait", "NoWay", "NoWord", "Over", "TooDeep", "TooLong", "Twice"])), ("NoWait", (.cls "NoWait" ["NoWait"] ["Dry", "NoBack", "NoBeat", "NoBook", "NoDeed", "NoDrive", "NoFace", "NoFlow", "NoLane", "NoLine", "NoLoop", "NoMeasure", "NoModule", "NoName", "NoNet", "NoPart", "NoPlace", "NoRoom", "NoState", "NoText", "NoTitle", "NoWay", "NoWord", "Over", "TooDeep", "TooLong", "Twice"])), ("NoWay", (.cls "NoWay" ["NoWay"] ["Dry", "NoBack", "NoBeat", "NoBook", "NoDeed", "NoDrive", "NoFace", "NoFlow", "NoLane", "NoLine", "NoLoop", "NoMeasure", "NoModule", "NoName", "NoNet", "NoPart", "NoPlace", "NoRoom", "NoState", "NoText", "NoTitle", "NoWait", "NoWord", "Over", "TooDeep", "TooLong", "Twice"])), ("NoWord", (.cls "NoWord" ["NoWord"] ["Dry", "NoBack", "NoBeat", "NoBook", "NoDeed", "NoDrive", "NoFace", "NoFlow", "NoLane", "NoLine", "NoLoop", "NoMeasure", "NoModule", "NoName", "NoNet", "NoPart", "NoPlace", "NoRoom", "NoState", "NoText", "NoTitle", "NoWait", "NoWay", "Over", "TooDeep", "TooLong", "Twice"])), ("Over", (.cls "Over" ["Over"] ["Dry", "NoBack", "NoBeat", "NoBook", "NoDeed", "NoDrive", "NoFace", "NoFlow", "NoLane", "NoLine", "NoLoop", "NoMeasure", "NoModule", "NoName", "NoNet", "NoPart", "NoPlace", "NoRoom", "NoState", "NoText", "NoTitle", "NoWait", "NoWay", "NoWord", "TooDeep", "TooLong", "Twice"])), ("TooDeep", (.cls "TooDeep" ["TooDeep"] ["Dry", "NoBack", "NoBeat", "NoBook", "NoDeed", "NoDrive", "NoFace", "NoFlow", "NoLane", "NoLine", "NoLoop", "NoMeasure", "NoModule", "NoName", "NoNet", "NoPart", "NoPlace", "NoRoom", "NoState", "NoText", "NoTitle", "NoWait", "NoWay", "NoWord", "Over", "TooLong", "Twice"])), ("TooLong", (.cls "TooLong" ["TooLong"] ["Dry", "NoBack", "NoBeat", "NoBook", "NoDeed", "NoDrive", "NoFace", "NoFlow", "NoLane", "NoLine", "NoLoop", "NoMeasure", "NoModule", "NoName", "NoNet", "NoPart", "NoPlace", "NoRoom", "NoState", "NoText", "NoTitle", "NoWait", "NoWay", "NoWord", "Over", "TooDeep", "Twice"])), ("Twice", (.cls "Twice" ["Twice"] ["Dry", "NoBack", "NoBeat", "NoBook", "NoDeed", "NoDrive", "NoFace", "NoFlow", "NoLane", "NoLine", "NoLoop", "NoMeasure", "NoModule", "NoName", "NoNet", "NoPart", "NoPlace", "NoRoom", "NoState", "NoText", "NoTitle", "NoWait", "NoWay", "NoWord", "Over", "TooDeep", "TooLong"]))]
abbrev pr : Pr := ⟨prF, prG, ["NoBack", "NoDrive", "NoLane", "NoLine", "NoMeasure", "NoPart", "NoTitle", "NoWait", "NoWay", "NoWord", "TooDeep", "TooLong"], [("Dry", ["lane"], [(["lane"], [0])]), ("NoBeat", ["name"], [(["name"], [0])]), ("NoBook", ["wrong"], [(["wrong"], [0])]), ("NoDeed", ["at"], [(["at"], [0])]), ("NoFace", ["paper"], [(["paper"], [0])]), ("NoFlow", ["name"], [(["name"], [0])]), ("NoLoop", ["wrong"], [(["wrong"], [0])]), ("NoModule", ["wrong"], [(["wrong"], [0])]), ("NoName", ["name"], [(["name"], [0])]), ("NoNet", ["wrong"], [(["wrong"], [0])]), ("NoPlace", ["place"], [(["place"], [0])]), ("NoRoom", ["lane"], [(["lane"], [0])]), ("NoState", ["at"], [(["at"], [0])]), ("NoText", ["row", "at"], [(["at", "row"], [1, 0])]), ("Over", ["lane"], [(["lane"], [0])]), ("Twice", ["name"], [(["name"], [0])])]⟩
def top (i : Nat) : Stmt := PySem.Challenge.pw_loomkeeps_k20_refusals_made.main.body.getD i (.Pass ⟨0, 0, 0, 0⟩)
abbrev t__law_purse : Stmt := top 31
theorem o__law_purse : okSs pr d__law_purse.names (defScope t__law_purse) (isLoc (defScope t__law_purse)) d__law_purse.body (defBody t__law_purse) = true := by decide +kernel
theorem c__law_purse : FnScope d__law_purse.names d__law_purse.params (defScope t__law_purse) := ⟨rfl, rfl, rfl, by decide +kernel, rfl, by decide +kernel, by decide +kernel⟩
abbrev t__law_draw : Stmt := top 32
theorem o__law_draw : okSs pr d__law_draw.names (defScope t__law_draw) (isLoc (defScope t__law_draw)) d__law_draw.body (defBody t__law_draw) = true := by decide +kernel
theorem c__law_draw : FnScope d__law_draw.names d__law_draw.params (defScope t__law_draw) := ⟨rfl, rfl, rfl, by decide +kernel, rfl, by decide +kernel, by decide +kernel⟩
abbrev t__law_thing : Stmt := top 33
theorem o__law_thing : okSs pr d__law_thing.names (defScope t__law_thing) (isLoc (defScope t__law_thing)) d__law_thing.body (defBody t__law_thing) = true := by decide +kernel
theorem c__law_thing : FnScope d__law_thing.names d__law_thing.params (defScope t__law_thing) := ⟨rfl, rfl, rfl, by decide +kernel, rfl, by decide +kernel, by decide +kernel⟩
abbrev t__law_marks : Stmt := top 34
theorem o__law_marks : okSs pr d__law_marks.names (defScope t__law_marks) (isLoc (defScope t__law_marks)) d__law_marks.body (defBody t__law_marks) = true := by decide +kernel
theorem c__law_marks : FnScope d__law_marks.names d__law_marks.params (defScope t__law_marks) := ⟨rfl, rfl, rfl, by decide +kernel, rfl, by decide +kernel, by decide +kernel⟩
abbrev t__law_first : Stmt := top 35
theorem o__law_first : okSs pr d__law_first.names (defScope t__law_first) (isLoc (defScope t__law_first)) d__law_first.body (defBody t__law_first) = true := by decide +kernel
theorem c__law_first : FnScope d__law_first.names d__law_first.params (defScope t__law_first) := ⟨rfl, rfl, rfl, by decide +kernel, rfl, by decide +kernel, by decide +kernel⟩
abbrev t__law_second : Stmt := top 36
theorem o__law_second : okSs pr d__law_second.names (defScope t__law_second) (isLoc (defScope t__law_second)) d__law_second.body (defBody t__law_second) = true := by decide +kernel
theorem c__law_second : FnScope d__law_second.names d__law_second.params (defScope t__law_second) := ⟨rfl, rfl, rfl, by decide +kernel, rfl, by decide +kernel, by decide +kernel⟩
abbrev t__law_third : Stmt := top 37
theorem o__law_third : okSs pr d__law_third.names (defScope t__law_third) (isLoc (defScope t__law_third)) d__law_third.body (defBody t__law_third) = true := by decide +kernel
theorem c__law_third : FnScope d__law_third.names d__law_third.params (defScope t__law_third) := ⟨rfl, rfl, rfl, by decide +kernel, rfl, by decide +kernel, by decide +kernel⟩
abbrev t__law_fourth : Stmt := top 38
theorem o__law_fourth : okSs pr d__law_fourth.names (defScope t__law_fourth) (isLoc (defScope t__law_fourth)) d__law_fourth.body (defBody t__law_fourth) = true := by decide +kernel
theorem c__law_fourth : FnScope d__law_fourth.names d__law_fourth.params (defScope t__law_fourth) := ⟨rfl, rfl, rfl, by decide +kernel, rfl, by decide +kernel, by decide +kernel⟩
abbrev t__law_caught : Stmt := top 39
theorem o__law_caught : okSs pr d__law_caught.names (defScope t__law_caught) (isLoc (defScope t__law_caught)) d__law_caught.body (defBody t__law_caught) = true := by decide +kernel
theorem c__law_caught : FnScope d__law_caught.names d__law_caught.params (defScope t__law_caught) := ⟨rfl, rfl, rfl, by decide +kernel, rfl, by decide +kernel, by decide +kernel⟩
abbrev t__law_borne : Stmt := top 40
theorem o__law_borne : okSs pr d__law_borne.names (defScope t__law_borne) (isLoc (defScope t__law_borne)) d__law_borne.body (defBody t__law_borne) = true := by decide +kernel
theorem c__law_borne : FnScope d__law_borne.names d__law_borne.params (defScope t__law_borne) := ⟨rfl, rfl, rfl, by decide +kernel, rfl, by decide +kernel, by decide +kernel⟩
abbrev t_law : Stmt := top 41
theorem o_law : okSs pr d_law.names (defScope t_law) (isLoc (defScope t_law)) d_law.body (defBody t_law) = true := by decide +kernel
theorem c_law : FnScope d_law.names d_law.params (defScope t_law) := ⟨rfl, rfl, rfl, by decide +kernel, rfl, by decide +kernel, by decide +kernel⟩
abbrev i_Dry : Stmt := clsSt (top 28) 0
theorem is_Dry : FnScope ("self" :: ["lane"]) ("self" :: ["lane"]) (defScope i_Dry) := ⟨rfl, rfl, rfl, by decide +kernel, rfl, by decide +kernel, by decide +kernel⟩
theorem ih_Dry : initSh "LoomError" ["lane"] i_Dry = true := by decide +kernel
abbrev i_NoBeat : Stmt := clsSt (top 23) 0
theorem is_NoBeat : FnScope ("self" :: ["name"]) ("self" :: ["name"]) (defScope i_NoBeat) := ⟨rfl, rfl, rfl, by decide +kernel, rfl, by decide +kernel, by decide +kernel⟩
theorem ih_NoBeat : initSh "LoomError" ["name"] i_NoBeat = true := by decide +kernel
abbrev i_NoBook : Stmt := clsSt (top 6) 0
theorem is_NoBook : FnScope ("self" :: ["wrong"]) ("self" :: ["wrong"]) (defScope i_NoBook) := ⟨rfl, rfl, rfl, by decide +kernel, rfl, by decide +kernel, by decide +kernel⟩
theorem ih_NoBook : initSh "LoomError" ["wrong"] i_NoBook = true := by decide +kernel
abbrev i_NoDeed : Stmt := clsSt (top 26) 0
theorem is_NoDeed : FnScope ("self" :: ["at"]) ("self" :: ["at"]) (defScope i_NoDeed) := ⟨rfl, rfl, rfl, by decide +kernel, rfl, by decide +kernel, by decide +kernel⟩
theorem ih_NoDeed : initSh "LoomError" ["at"] i_NoDeed = true := by decide +kernel
abbrev i_NoFace : Stmt := clsSt (top 20) 0
theorem is_NoFace : FnScope ("self" :: ["paper"]) ("self" :: ["paper"]) (defScope i_NoFace) := ⟨rfl, rfl, rfl, by decide +kernel, rfl, by decide +kernel, by decide +kernel⟩
theorem ih_NoFace : initSh "LoomError" ["paper"] i_NoFace = true := by decide +kernel
abbrev i_NoFlow : Stmt := clsSt (top 12) 0
theorem is_NoFlow : FnScope ("self" :: ["name"]) ("self" :: ["name"]) (defScope i_NoFlow) := ⟨rfl, rfl, rfl, by decide +kernel, rfl, by decide +kernel, by decide +kernel⟩
theorem ih_NoFlow : initSh "LoomError" ["name"] i_NoFlow = true := by decide +kernel
abbrev i_NoLoop : Stmt := clsSt (top 21) 0
theorem is_NoLoop : FnScope ("self" :: ["wrong"]) ("self" :: ["wrong"]) (defScope i_NoLoop) := ⟨rfl, rfl, rfl, by decide +kernel, rfl, by decide +kernel, by decide +kernel⟩
theorem ih_NoLoop : initSh "LoomError" ["wrong"] i_NoLoop = true := by decide +kernel
abbrev i_NoModule : Stmt := clsSt (top 5) 0
theorem is_NoModule : FnScope ("self" :: ["wrong"]) ("self" :: ["wrong"]) (defScope i_NoModule) := ⟨rfl, rfl, rfl, by decide +kernel, rfl, by decide +kernel, by decide +kernel⟩
theorem ih_NoModule : initSh "LoomError" ["wrong"] i_NoModule = true := by decide +kernel
abbrev i_NoName : Stmt := clsSt (top 8) 0
theorem is_NoName : FnScope ("self" :: ["name"]) ("self" :: ["name"]) (defScope i_NoName) := ⟨rfl, rfl, rfl, by decide +kernel, rfl, by decide +kernel, by decide +kernel⟩
theorem ih_NoName : initSh "LoomError" ["name"] i_NoName = true := by decide +kernel
abbrev i_NoNet : Stmt := clsSt (top 14) 0
theorem is_NoNet : FnScope ("self" :: ["wrong"]) ("self" :: ["wrong"]) (defScope i_NoNet) := ⟨rfl, rfl, rfl, by decide +kernel, rfl, by decide +kernel, by decide +kernel⟩
theorem ih_NoNet : initSh "LoomError" ["wrong"] i_NoNet = true := by decide +kernel
abbrev i_NoPlace : Stmt := clsSt (top 3) 0
theorem is_NoPlace : FnScope ("self" :: ["place"]) ("self" :: ["place"]) (defScope i_NoPlace) := ⟨rfl, rfl, rfl, by decide +kernel, rfl, by decide +kernel, by decide +kernel⟩
theorem ih_NoPlace : initSh "LoomError" ["place"] i_NoPlace = true := by decide +kernel
abbrev i_NoRoom : Stmt := clsSt (top 17) 0
theorem is_NoRoom : FnScope ("self" :: ["lane"]) ("self" :: ["lane"]) (defScope i_NoRoom) := ⟨rfl, rfl, rfl, by decide +kernel, rfl, by decide +kernel, by decide +kernel⟩
theorem ih_NoRoom : initSh "LoomError" ["lane"] i_NoRoom = true := by decide +kernel
abbrev i_NoState : Stmt := clsSt (top 22) 0
theorem is_NoState : FnScope ("self" :: ["at"]) ("self" :: ["at"]) (defScope i_NoState) := ⟨rfl, rfl, rfl, by decide +kernel, rfl, by decide +kernel, by decide +kernel⟩
theorem ih_NoState : initSh "LoomError" ["at"] i_NoState = true := by decide +kernel
abbrev i_NoText : Stmt := clsSt (top 9) 0
theorem is_NoText : FnScope ("self" :: ["row", "at"]) ("self" :: ["row", "at"]) (defScope i_NoText) := ⟨rfl, rfl, rfl, by decide +kernel, rfl, by decide +kernel, by decide +kernel⟩
theorem ih_NoText : initSh "LoomError" ["row", "at"] i_NoText = true := by decide +kernel
abbrev i_Over : Stmt := clsSt (top 29) 0
theorem is_Over : FnScope ("self" :: ["lane"]) ("self" :: ["lane"]) (defScope i_Over) := ⟨rfl, rfl, rfl, by decide +kernel, rfl, by decide +kernel, by decide +kernel⟩
theorem ih_Over : initSh "LoomError" ["lane"] i_Over = true := by decide +kernel
abbrev i_Twice : Stmt := clsSt (top 10) 0
theorem is_Twice : FnScope ("self" :: ["name"]) ("self" :: ["name"]) (defScope i_Twice) := ⟨rfl, rfl, rfl, by decide +kernel, rfl, by decide +kernel, by decide +kernel⟩
theorem ih_Twice : initSh "LoomError" ["name"] i_Twice = true := by decide +kernel
set_option maxHeartbeats 0 in
theorem all_mk {K : PySem.W.Frag} {h : Heap} {mg : Str → Option Value} {fa : Addr} (X : K.In h) (G : h.Ns mainGlobals mg) (hfa : mg "law" = some (.ref fa))
    {e0 fI0 e1 fI1 e2 fI2 e3 fI3 e4 fI4 e5 fI5 e6 fI6 e7 fI7 e8 fI8 e9 fI9 e10 fI10 e11 fI11 e12 fI12 e13 fI13 e14 fI14 e15 fI15 : Addr} {iod0 ian0 iod1 ian1 iod2 ian2 iod3 ian3 iod4 ian4 iod5 ian5 iod6 ian6 iod7 ian7 iod8 ian8 iod9 ian9 iod10 ian10 iod11 ian11 iod12 ian12 iod13 ian13 iod14 ian14 iod15 ian15 : Option Addr} {isl0 isl1 isl2 isl3 isl4 isl5 isl6 isl7 isl8 isl9 isl10 isl11 isl12 isl13 isl14 isl15 : Array (Option Value)} {ioc0 ikV0 idc0 ipm0 icd0 ict0 ioc1 ikV1 idc1 ipm1 icd1 ict1 ioc2 ikV2 idc2 ipm2 icd2 ict2 ioc3 ikV3 idc3 ipm3 icd3 ict3 ioc4 ikV4 idc4 ipm4 icd4 ict4 ioc5 ikV5 idc5 ipm5 icd5 ict5 ioc6 ikV6 idc6 ipm6 icd6 ict6 ioc7 ikV7 idc7 ipm7 icd7 ict7 ioc8 ikV8 idc8 ipm8 icd8 ict8 ioc9 ikV9 idc9 ipm9 icd9 ict9 ioc10 ikV10 idc10 ipm10 icd10 ict10 ioc11 ikV11 idc11 ipm11 icd11 ict11 ioc12 ikV12 idc12 ipm12 icd12 ict12 ioc13 ikV13 idc13 ipm13 icd13 ict13 ioc14 ikV14 idc14 ipm14 icd14 ict14 ioc15 ikV15 idc15 ipm15 icd15 ict15 : Value}
    {f0 f1 f2 f3 f4 f5 f6 f7 f8 f9 f10 : Addr} {od0 od1 od2 od3 od4 od5 od6 od7 od8 od9 od10 an0 an1 an2 an3 an4 an5 an6 an7 an8 an9 an10 : Option Addr} {sl0 sl1 sl2 sl3 sl4 sl5 sl6 sl7 sl8 sl9 sl10 : Array (Option Value)} {oc0 oc1 oc2 oc3 oc4 oc5 oc6 oc7 oc8 oc9 oc10 dc0 dc1 dc2 dc3 dc4 dc5 dc6 dc7 dc8 dc9 dc10 pm0 pm1 pm2 pm3 pm4 pm5 pm6 pm7 pm8 pm9 pm10 cd0 cd1 cd2 cd3 cd4 cd5 cd6 cd7 cd8 cd9 cd10 ct0 ct1 ct2 ct3 ct4 ct5 ct6 ct7 ct8 ct9 ct10 kV0 kV1 kV2 kV3 kV4 kV5 kV6 kV7 kV8 kV9 kV10 : Value}
    (a0 : PySem.W.nsIn K mainGlobals "_law_purse" = some (some (.ref f0))) (l0 : K.lookup f0 = some ⟨oc0, od0, .func (PySem.W.fnOf "_law_purse" "_law_purse" (defArgs t__law_purse) (defBody t__law_purse) (defScope t__law_purse) .none kV0 dc0 pm0 an0 cd0 ct0), sl0⟩) (c0 : PySem.W.codeIn K cd0 "_law_purse" = true) (k0 : PySem.W.keepIn K (.ref f0) = true)
    (a1 : PySem.W.nsIn K mainGlobals "_law_draw" = some (some (.ref f1))) (l1 : K.lookup f1 = some ⟨oc1, od1, .func (PySem.W.fnOf "_law_draw" "_law_draw" (defArgs t__law_draw) (defBody t__law_draw) (defScope t__law_draw) .none kV1 dc1 pm1 an1 cd1 ct1), sl1⟩) (c1 : PySem.W.codeIn K cd1 "_law_draw" = true) (k1 : PySem.W.keepIn K (.ref f1) = true)
    (a2 : PySem.W.nsIn K mainGlobals "_law_thing" = some (some (.ref f2))) (l2 : K.lookup f2 = some ⟨oc2, od2, .func (PySem.W.fnOf "_law_thing" "_law_thing" (defArgs t__law_thing) (defBody t__law_thing) (defScope t__law_thing) .none kV2 dc2 pm2 an2 cd2 ct2), sl2⟩) (c2 : PySem.W.codeIn K cd2 "_law_thing" = true) (k2 : PySem.W.keepIn K (.ref f2) = true)
    (a3 : PySem.W.nsIn K mainGlobals "_law_marks" = some (some (.ref f3))) (l3 : K.lookup f3 = some ⟨oc3, od3, .func (PySem.W.fnOf "_law_marks" "_law_marks" (defArgs t__law_marks) (defBody t__law_marks) (defScope t__law_marks) .none kV3 dc3 pm3 an3 cd3 ct3), sl3⟩) (c3 : PySem.W.codeIn K cd3 "_law_marks" = true) (k3 : PySem.W.keepIn K (.ref f3) = true)
    (a4 : PySem.W.nsIn K mainGlobals "_law_first" = some (some (.ref f4))) (l4 : K.lookup f4 = some ⟨oc4, od4, .func (PySem.W.fnOf "_law_first" "_law_first" (defArgs t__law_first) (defBody t__law_first) (defScope t__law_first) .none kV4 dc4 pm4 an4 cd4 ct4), sl4⟩) (c4 : PySem.W.codeIn K cd4 "_law_first" = true) (k4 : PySem.W.keepIn K (.ref f4) = true)
    (a5 : PySem.W.nsIn K mainGlobals "_law_second" = some (some (.ref f5))) (l5 : K.lookup f5 = some ⟨oc5, od5, .func (PySem.W.fnOf "_law_second" "_law_second" (defArgs t__law_second) (defBody t__law_second) (defScope t__law_second) .none kV5 dc5 pm5 an5 cd5 ct5), sl5⟩) (c5 : PySem.W.codeIn K cd5 "_law_second" = true) (k5 : PySem.W.keepIn K (.ref f5) = true)
    (a6 : PySem.W.nsIn K mainGlobals "_law_third" = some (some (.ref f6))) (l6 : K.lookup f6 = some ⟨oc6, od6, .func (PySem.W.fnOf "_law_third" "_law_third" (defArgs t__law_third) (defBody t__law_third) (defScope t__law_third) .none kV6 dc6 pm6 an6 cd6 ct6), sl6⟩) (c6 : PySem.W.codeIn K cd6 "_law_third" = true) (k6 : PySem.W.keepIn K (.ref f6) = true)
    (a7 : PySem.W.nsIn K mainGlobals "_law_fourth" = some (some (.ref f7))) (l7 : K.lookup f7 = some ⟨oc7, od7, .func (PySem.W.fnOf "_law_fourth" "_law_fourth" (defArgs t__law_fourth) (defBody t__law_fourth) (defScope t__law_fourth) .none kV7 dc7 pm7 an7 cd7 ct7), sl7⟩) (c7 : PySem.W.codeIn K cd7 "_law_fourth" = true) (k7 : PySem.W.keepIn K (.ref f7) = true)
    (a8 : PySem.W.nsIn K mainGlobals "_law_caught" = some (some (.ref f8))) (l8 : K.lookup f8 = some ⟨oc8, od8, .func (PySem.W.fnOf "_law_caught" "_law_caught" (defArgs t__law_caught) (defBody t__law_caught) (defScope t__law_caught) .none kV8 dc8 pm8 an8 cd8 ct8), sl8⟩) (c8 : PySem.W.codeIn K cd8 "_law_caught" = true) (k8 : PySem.W.keepIn K (.ref f8) = true)
    (a9 : PySem.W.nsIn K mainGlobals "_law_borne" = some (some (.ref f9))) (l9 : K.lookup f9 = some ⟨oc9, od9, .func (PySem.W.fnOf "_law_borne" "_law_borne" (defArgs t__law_borne) (defBody t__law_borne) (defScope t__law_borne) .none kV9 dc9 pm9 an9 cd9 ct9), sl9⟩) (c9 : PySem.W.codeIn K cd9 "_law_borne" = true) (k9 : PySem.W.keepIn K (.ref f9) = true)
    (a10 : PySem.W.nsIn K mainGlobals "law" = some (some (.ref f10))) (l10 : K.lookup f10 = some ⟨oc10, od10, .func (PySem.W.fnOf "law" "law" (defArgs t_law) (defBody t_law) (defScope t_law) .none kV10 dc10 pm10 an10 cd10 ct10), sl10⟩) (c10 : PySem.W.codeIn K cd10 "law" = true) (k10 : PySem.W.keepIn K (.ref f10) = true)
    (ea0 : PySem.W.nsIn K mainGlobals "Dry" = some (some (.ref e0)))
    (ei0 : PySem.W.findIn K (.ref e0) "__init__" = some (some (.ref fI0)))
    (el0 : K.lookup fI0 = some ⟨ioc0, iod0, .func (PySem.W.fnOf "__init__" "Dry.__init__" (defArgs i_Dry) (defBody i_Dry) (defScope i_Dry) .none ikV0 idc0 ipm0 ian0 icd0 ict0), isl0⟩)
    (ec0 : PySem.W.codeIn K icd0 "Dry.__init__" = true)
    (ek0 : PySem.W.keepIn K (.ref fI0) = true)
    (et0 : PySem.W.typeIn K (.ref fI0) = some (.type "function"))
    (ea1 : PySem.W.nsIn K mainGlobals "NoBeat" = some (some (.ref e1)))
    (ei1 : PySem.W.findIn K (.ref e1) "__init__" = some (some (.ref fI1)))
    (el1 : K.lookup fI1 = some ⟨ioc1, iod1, .func (PySem.W.fnOf "__init__" "NoBeat.__init__" (defArgs i_NoBeat) (defBody i_NoBeat) (defScope i_NoBeat) .none ikV1 idc1 ipm1 ian1 icd1 ict1), isl1⟩)
    (ec1 : PySem.W.codeIn K icd1 "NoBeat.__init__" = true)
    (ek1 : PySem.W.keepIn K (.ref fI1) = true)
    (et1 : PySem.W.typeIn K (.ref fI1) = some (.type "function"))
    (ea2 : PySem.W.nsIn K mainGlobals "NoBook" = some (some (.ref e2)))
    (ei2 : PySem.W.findIn K (.ref e2) "__init__" = some (some (.ref fI2)))
    (el2 : K.lookup fI2 = some ⟨ioc2, iod2, .func (PySem.W.fnOf "__init__" "NoBook.__init__" (defArgs i_NoBook) (defBody i_NoBook) (defScope i_NoBook) .none ikV2 idc2 ipm2 ian2 icd2 ict2), isl2⟩)
    (ec2 : PySem.W.codeIn K icd2 "NoBook.__init__" = true)
    (ek2 : PySem.W.keepIn K (.ref fI2) = true)
    (et2 : PySem.W.typeIn K (.ref fI2) = some (.type "function"))
    (ea3 : PySem.W.nsIn K mainGlobals "NoDeed" = some (some (.ref e3)))
    (ei3 : PySem.W.findIn K (.ref e3) "__init__" = some (some (.ref fI3)))
    (el3 : K.lookup fI3 = some ⟨ioc3, iod3, .func (PySem.W.fnOf "__init__" "NoDeed.__init__" (defArgs i_NoDeed) (defBody i_NoDeed) (defScope i_NoDeed) .none ikV3 idc3 ipm3 ian3 icd3 ict3), isl3⟩)
    (ec3 : PySem.W.codeIn K icd3 "NoDeed.__init__" = true)
    (ek3 : PySem.W.keepIn K (.ref fI3) = true)
    (et3 : PySem.W.typeIn K (.ref fI3) = some (.type "function"))
    (ea4 : PySem.W.nsIn K mainGlobals "NoFace" = some (some (.ref e4)))
    (ei4 : PySem.W.findIn K (.ref e4) "__init__" = some (some (.ref fI4)))
    (el4 : K.lookup fI4 = some ⟨ioc4, iod4, .func (PySem.W.fnOf "__init__" "NoFace.__init__" (defArgs i_NoFace) (defBody i_NoFace) (defScope i_NoFace) .none ikV4 idc4 ipm4 ian4 icd4 ict4), isl4⟩)
    (ec4 : PySem.W.codeIn K icd4 "NoFace.__init__" = true)
    (ek4 : PySem.W.keepIn K (.ref fI4) = true)
    (et4 : PySem.W.typeIn K (.ref fI4) = some (.type "function"))
    (ea5 : PySem.W.nsIn K mainGlobals "NoFlow" = some (some (.ref e5)))
    (ei5 : PySem.W.findIn K (.ref e5) "__init__" = some (some (.ref fI5)))
    (el5 : K.lookup fI5 = some ⟨ioc5, iod5, .func (PySem.W.fnOf "__init__" "NoFlow.__init__" (defArgs i_NoFlow) (defBody i_NoFlow) (defScope i_NoFlow) .none ikV5 idc5 ipm5 ian5 icd5 ict5), isl5⟩)
    (ec5 : PySem.W.codeIn K icd5 "NoFlow.__init__" = true)
    (ek5 : PySem.W.keepIn K (.ref fI5) = true)
    (et5 : PySem.W.typeIn K (.ref fI5) = some (.type "function"))
    (ea6 : PySem.W.nsIn K mainGlobals "NoLoop" = some (some (.ref e6)))
    (ei6 : PySem.W.findIn K (.ref e6) "__init__" = some (some (.ref fI6)))
    (el6 : K.lookup fI6 = some ⟨ioc6, iod6, .func (PySem.W.fnOf "__init__" "NoLoop.__init__" (defArgs i_NoLoop) (defBody i_NoLoop) (defScope i_NoLoop) .none ikV6 idc6 ipm6 ian6 icd6 ict6), isl6⟩)
    (ec6 : PySem.W.codeIn K icd6 "NoLoop.__init__" = true)
    (ek6 : PySem.W.keepIn K (.ref fI6) = true)
    (et6 : PySem.W.typeIn K (.ref fI6) = some (.type "function"))
    (ea7 : PySem.W.nsIn K mainGlobals "NoModule" = some (some (.ref e7)))
    (ei7 : PySem.W.findIn K (.ref e7) "__init__" = some (some (.ref fI7)))
    (el7 : K.lookup fI7 = some ⟨ioc7, iod7, .func (PySem.W.fnOf "__init__" "NoModule.__init__" (defArgs i_NoModule) (defBody i_NoModule) (defScope i_NoModule) .none ikV7 idc7 ipm7 ian7 icd7 ict7), isl7⟩)
    (ec7 : PySem.W.codeIn K icd7 "NoModule.__init__" = true)
    (ek7 : PySem.W.keepIn K (.ref fI7) = true)
    (et7 : PySem.W.typeIn K (.ref fI7) = some (.type "function"))
    (ea8 : PySem.W.nsIn K mainGlobals "NoName" = some (some (.ref e8)))
    (ei8 : PySem.W.findIn K (.ref e8) "__init__" = some (some (.ref fI8)))
    (el8 : K.lookup fI8 = some ⟨ioc8, iod8, .func (PySem.W.fnOf "__init__" "NoName.__init__" (defArgs i_NoName) (defBody i_NoName) (defScope i_NoName) .none ikV8 idc8 ipm8 ian8 icd8 ict8), isl8⟩)
    (ec8 : PySem.W.codeIn K icd8 "NoName.__init__" = true)
    (ek8 : PySem.W.keepIn K (.ref fI8) = true)
    (et8 : PySem.W.typeIn K (.ref fI8) = some (.type "function"))
    (ea9 : PySem.W.nsIn K mainGlobals "NoNet" = some (some (.ref e9)))
    (ei9 : PySem.W.findIn K (.ref e9) "__init__" = some (some (.ref fI9)))
    (el9 : K.lookup fI9 = some ⟨ioc9, iod9, .func (PySem.W.fnOf "__init__" "NoNet.__init__" (defArgs i_NoNet) (defBody i_NoNet) (defScope i_NoNet) .none ikV9 idc9 ipm9 ian9 icd9 ict9), isl9⟩)
    (ec9 : PySem.W.codeIn K icd9 "NoNet.__init__" = true)
    (ek9 : PySem.W.keepIn K (.ref fI9) = true)
    (et9 : PySem.W.typeIn K (.ref fI9) = some (.type "function"))
    (ea10 : PySem.W.nsIn K mainGlobals "NoPlace" = some (some (.ref e10)))
    (ei10 : PySem.W.findIn K (.ref e10) "__init__" = some (some (.ref fI10)))
    (el10 : K.lookup fI10 = some ⟨ioc10, iod10, .func (PySem.W.fnOf "__init__" "NoPlace.__init__" (defArgs i_NoPlace) (defBody i_NoPlace) (defScope i_NoPlace) .none ikV10 idc10 ipm10 ian10 icd10 ict10), isl10⟩)
    (ec10 : PySem.W.codeIn K icd10 "NoPlace.__init__" = true)
    (ek10 : PySem.W.keepIn K (.ref fI10) = true)
    (et10 : PySem.W.typeIn K (.ref fI10) = some (.type "function"))
    (ea11 : PySem.W.nsIn K mainGlobals "NoRoom" = some (some (.ref e11)))
    (ei11 : PySem.W.findIn K (.ref e11) "__init__" = some (some (.ref fI11)))
    (el11 : K.lookup fI11 = some ⟨ioc11, iod11, .func (PySem.W.fnOf "__init__" "NoRoom.__init__" (defArgs i_NoRoom) (defBody i_NoRoom) (defScope i_NoRoom) .none ikV11 idc11 ipm11 ian11 icd11 ict11), isl11⟩)
    (ec11 : PySem.W.codeIn K icd11 "NoRoom.__init__" = true)
    (ek11 : PySem.W.keepIn K (.ref fI11) = true)
    (et11 : PySem.W.typeIn K (.ref fI11) = some (.type "function"))
    (ea12 : PySem.W.nsIn K mainGlobals "NoState" = some (some (.ref e12)))
    (ei12 : PySem.W.findIn K (.ref e12) "__init__" = some (some (.ref fI12)))
    (el12 : K.lookup fI12 = some ⟨ioc12, iod12, .func (PySem.W.fnOf "__init__" "NoState.__init__" (defArgs i_NoState) (defBody i_NoState) (defScope i_NoState) .none ikV12 idc12 ipm12 ian12 icd12 ict12), isl12⟩)
    (ec12 : PySem.W.codeIn K icd12 "NoState.__init__" = true)
    (ek12 : PySem.W.keepIn K (.ref fI12) = true)
    (et12 : PySem.W.typeIn K (.ref fI12) = some (.type "function"))
    (ea13 : PySem.W.nsIn K mainGlobals "NoText" = some (some (.ref e13)))
    (ei13 : PySem.W.findIn K (.ref e13) "__init__" = some (some (.ref fI13)))
    (el13 : K.lookup fI13 = some ⟨ioc13, iod13, .func (PySem.W.fnOf "__init__" "NoText.__init__" (defArgs i_NoText) (defBody i_NoText) (defScope i_NoText) .none ikV13 idc13 ipm13 ian13 icd13 ict13), isl13⟩)
    (ec13 : PySem.W.codeIn K icd13 "NoText.__init__" = true)
    (ek13 : PySem.W.keepIn K (.ref fI13) = true)
    (et13 : PySem.W.typeIn K (.ref fI13) = some (.type "function"))
    (ea14 : PySem.W.nsIn K mainGlobals "Over" = some (some (.ref e14)))
    (ei14 : PySem.W.findIn K (.ref e14) "__init__" = some (some (.ref fI14)))
    (el14 : K.lookup fI14 = some ⟨ioc14, iod14, .func (PySem.W.fnOf "__init__" "Over.__init__" (defArgs i_Over) (defBody i_Over) (defScope i_Over) .none ikV14 idc14 ipm14 ian14 icd14 ict14), isl14⟩)
    (ec14 : PySem.W.codeIn K icd14 "Over.__init__" = true)
    (ek14 : PySem.W.keepIn K (.ref fI14) = true)
    (et14 : PySem.W.typeIn K (.ref fI14) = some (.type "function"))
    (ea15 : PySem.W.nsIn K mainGlobals "Twice" = some (some (.ref e15)))
    (ei15 : PySem.W.findIn K (.ref e15) "__init__" = some (some (.ref fI15)))
    (el15 : K.lookup fI15 = some ⟨ioc15, iod15, .func (PySem.W.fnOf "__init__" "Twice.__init__" (defArgs i_Twice) (defBody i_Twice) (defScope i_Twice) .none ikV15 idc15 ipm15 ian15 icd15 ict15), isl15⟩)
    (ec15 : PySem.W.codeIn K icd15 "Twice.__init__" = true)
    (ek15 : PySem.W.keepIn K (.ref fI15) = true)
    (et15 : PySem.W.typeIn K (.ref fI15) = some (.type "function"))
    (xb_Dry : exB K "Dry" = true)
    (xb_LoomError : exB K "LoomError" = true)
    (xb_NoBack : exB K "NoBack" = true)
    (xb_NoBeat : exB K "NoBeat" = true)
    (xb_NoBook : exB K "NoBook" = true)
    (xb_NoDeed : exB K "NoDeed" = true)
    (xb_NoDrive : exB K "NoDrive" = true)
    (xb_NoFace : exB K "NoFace" = true)
    (xb_NoFlow : exB K "NoFlow" = true)
    (xb_NoLane : exB K "NoLane" = true)
    (xb_NoLine : exB K "NoLine" = true)
    (xb_NoLoop : exB K "NoLoop" = true)
    (xb_NoMeasure : exB K "NoMeasure" = true)
    (xb_NoModule : exB K "NoModule" = true)
    (xb_NoName : exB K "NoName" = true)
    (xb_NoNet : exB K "NoNet" = true)
    (xb_NoPart : exB K "NoPart" = true)
    (xb_NoPlace : exB K "NoPlace" = true)
    (xb_NoRoom : exB K "NoRoom" = true)
    (xb_NoState : exB K "NoState" = true)
    (xb_NoText : exB K "NoText" = true)
    (xb_NoTitle : exB K "NoTitle" = true)
    (xb_NoWait : exB K "NoWait" = true)
    (xb_NoWay : exB K "NoWay" = true)
    (xb_NoWord : exB K "NoWord" = true)
    (xb_Over : exB K "Over" = true)
    (xb_TooDeep : exB K "TooDeep" = true)
    (xb_TooLong : exB K "TooLong" = true)
    (xb_Twice : exB K "Twice" = true)
    (xr_Dry : relB K "Dry" ["Dry"] true = true)
    (xn_Dry : relB K "Dry" ["NoBack", "NoBeat", "NoBook", "NoDeed", "NoDrive", "NoFace", "NoFlow", "NoLane", "NoLine", "NoLoop", "NoMeasure", "NoModule", "NoName", "NoNet", "NoPart", "NoPlace", "NoRoom", "NoState", "NoText", "NoTitle", "NoWait", "NoWay", "NoWord", "Over", "TooDeep", "TooLong", "Twice"] false = true)
    (xt_Dry : bltB K "Dry" = true)
    (xr_LoomError : relB K "LoomError" ["Dry", "NoBack", "NoBeat", "NoBook", "NoDeed", "NoDrive", "NoFace", "NoFlow", "NoLane", "NoLine", "NoLoop", "NoMeasure", "NoModule", "NoName", "NoNet", "NoPart", "NoPlace", "NoRoom", "NoState", "NoText", "NoTitle", "NoWait", "NoWay", "NoWord", "Over", "TooDeep", "TooLong", "Twice"] true = true)
    (xn_LoomError : relB K "LoomError" [] false = true)
    (xt_LoomError : bltB K "LoomError" = true)
    (xr_NoBack : relB K "NoBack" ["NoBack"] true = true)
    (xn_NoBack : relB K "NoBack" ["Dry", "NoBeat", "NoBook", "NoDeed", "NoDrive", "NoFace", "NoFlow", "NoLane", "NoLine", "NoLoop", "NoMeasure", "NoModule", "NoName", "NoNet", "NoPart", "NoPlace", "NoRoom", "NoState", "NoText", "NoTitle", "NoWait", "NoWay", "NoWord", "Over", "TooDeep", "TooLong", "Twice"] false = true)
    (xt_NoBack : bltB K "NoBack" = true)
    (xr_NoBeat : relB K "NoBeat" ["NoBeat"] true = true)
    (xn_NoBeat : relB K "NoBeat" ["Dry", "NoBack", "NoBook", "NoDeed", "NoDrive", "NoFace", "NoFlow", "NoLane", "NoLine", "NoLoop", "NoMeasure", "NoModule", "NoName", "NoNet", "NoPart", "NoPlace", "NoRoom", "NoState", "NoText", "NoTitle", "NoWait", "NoWay", "NoWord", "Over", "TooDeep", "TooLong", "Twice"] false = true)
    (xt_NoBeat : bltB K "NoBeat" = true)
    (xr_NoBook : relB K "NoBook" ["NoBook"] true = true)
    (xn_NoBook : relB K "NoBook" ["Dry", "NoBack", "NoBeat", "NoDeed", "NoDrive", "NoFace", "NoFlow", "NoLane", "NoLine", "NoLoop", "NoMeasure", "NoModule", "NoName", "NoNet", "NoPart", "NoPlace", "NoRoom", "NoState", "NoText", "NoTitle", "NoWait", "NoWay", "NoWord", "Over", "TooDeep", "TooLong", "Twice"] false = true)
    (xt_NoBook : bltB K "NoBook" = true)
    (xr_NoDeed : relB K "NoDeed" ["NoDeed"] true = true)
    (xn_NoDeed : relB K "NoDeed" ["Dry", "NoBack", "NoBeat", "NoBook", "NoDrive", "NoFace", "NoFlow", "NoLane", "NoLine", "NoLoop", "NoMeasure", "NoModule", "NoName", "NoNet", "NoPart", "NoPlace", "NoRoom", "NoState", "NoText", "NoTitle", "NoWait", "NoWay", "NoWord", "Over", "TooDeep", "TooLong", "Twice"] false = true)
    (xt_NoDeed : bltB K "NoDeed" = true)
    (xr_NoDrive : relB K "NoDrive" ["NoDrive"] true = true)
    (xn_NoDrive : relB K "NoDrive" ["Dry", "NoBack", "NoBeat", "NoBook", "NoDeed", "NoFace", "NoFlow", "NoLane", "NoLine", "NoLoop", "NoMeasure", "NoModule", "NoName", "NoNet", "NoPart", "NoPlace", "NoRoom", "NoState", "NoText", "NoTitle", "NoWait", "NoWay", "NoWord", "Over", "TooDeep", "TooLong", "Twice"] false = true)
    (xt_NoDrive : bltB K "NoDrive" = true)
    (xr_NoFace : relB K "NoFace" ["NoFace"] true = true)
    (xn_NoFace : relB K "NoFace" ["Dry", "NoBack", "NoBeat", "NoBook", "NoDeed", "NoDrive", "NoFlow", "NoLane", "NoLine", "NoLoop", "NoMeasure", "NoModule", "NoName", "NoNet", "NoPart", "NoPlace", "NoRoom", "NoState", "NoText", "NoTitle", "NoWait", "NoWay", "NoWord", "Over", "TooDeep", "TooLong", "Twice"] false = true)
    (xt_NoFace : bltB K "NoFace" = true)
    (xr_NoFlow : relB K "NoFlow" ["NoFlow"] true = true)
    (xn_NoFlow : relB K "NoFlow" ["Dry", "NoBack", "NoBeat", "NoBook", "NoDeed", "NoDrive", "NoFace", "NoLane", "NoLine", "NoLoop", "NoMeasure", "NoModule", "NoName", "NoNet", "NoPart", "NoPlace", "NoRoom", "NoState", "NoText", "NoTitle", "NoWait", "NoWay", "NoWord", "Over", "TooDeep", "TooLong", "Twice"] false = true)
    (xt_NoFlow : bltB K "NoFlow" = true)
    (xr_NoLane : relB K "NoLane" ["NoLane"] true = true)
    (xn_NoLane : relB K "NoLane" ["Dry", "NoBack", "NoBeat", "NoBook", "NoDeed", "NoDrive", "NoFace", "NoFlow", "NoLine", "NoLoop", "NoMeasure", "NoModule", "NoName", "NoNet", "NoPart", "NoPlace", "NoRoom", "NoState", "NoText", "NoTitle", "NoWait", "NoWay", "NoWord", "Over", "TooDeep", "TooLong", "Twice"] false = true)
    (xt_NoLane : bltB K "NoLane" = true)
    (xr_NoLine : relB K "NoLine" ["NoLine"] true = true)
    (xn_NoLine : relB K "NoLine" ["Dry", "NoBack", "NoBeat", "NoBook", "NoDeed", "NoDrive", "NoFace", "NoFlow", "NoLane", "NoLoop", "NoMeasure", "NoModule", "NoName", "NoNet", "NoPart", "NoPlace", "NoRoom", "NoState", "NoText", "NoTitle", "NoWait", "NoWay", "NoWord", "Over", "TooDeep", "TooLong", "Twice"] false = true)
    (xt_NoLine : bltB K "NoLine" = true)
    (xr_NoLoop : relB K "NoLoop" ["NoLoop"] true = true)
    (xn_NoLoop : relB K "NoLoop" ["Dry", "NoBack", "NoBeat", "NoBook", "NoDeed", "NoDrive", "NoFace", "NoFlow", "NoLane", "NoLine", "NoMeasure", "NoModule", "NoName", "NoNet", "NoPart", "NoPlace", "NoRoom", "NoState", "NoText", "NoTitle", "NoWait", "NoWay", "NoWord", "Over", "TooDeep", "TooLong", "Twice"] false = true)
    (xt_NoLoop : bltB K "NoLoop" = true)
    (xr_NoMeasure : relB K "NoMeasure" ["NoMeasure"] true = true)
    (xn_NoMeasure : relB K "NoMeasure" ["Dry", "NoBack", "NoBeat", "NoBook", "NoDeed", "NoDrive", "NoFace", "NoFlow", "NoLane", "NoLine", "NoLoop", "NoModule", "NoName", "NoNet", "NoPart", "NoPlace", "NoRoom", "NoState", "NoText", "NoTitle", "NoWait", "NoWay", "NoWord", "Over", "TooDeep", "TooLong", "Twice"] false = true)
    (xt_NoMeasure : bltB K "NoMeasure" = true)
    (xr_NoModule : relB K "NoModule" ["NoModule"] true = true)
    (xn_NoModule : relB K "NoModule" ["Dry", "NoBack", "NoBeat", "NoBook", "NoDeed", "NoDrive", "NoFace", "NoFlow", "NoLane", "NoLine", "NoLoop", "NoMeasure", "NoName", "NoNet", "NoPart", "NoPlace", "NoRoom", "NoState", "NoText", "NoTitle", "NoWait", "NoWay", "NoWord", "Over", "TooDeep", "TooLong", "Twice"] false = true)
    (xt_NoModule : bltB K "NoModule" = true)
    (xr_NoName : relB K "NoName" ["NoName"] true = true)
    (xn_NoName : relB K "NoName" ["Dry", "NoBack", "NoBeat", "NoBook", "NoDeed", "NoDrive", "NoFace", "NoFlow", "NoLane", "NoLine", "NoLoop", "NoMeasure", "NoModule", "NoNet", "NoPart", "NoPlace", "NoRoom", "NoState", "NoText", "NoTitle", "NoWait", "NoWay", "NoWord", "Over", "TooDeep", "TooLong", "Twice"] false = true)
    (xt_NoName : bltB K "NoName" = true)
    (xr_NoNet : relB K "NoNet" ["NoNet"] true = true)
    (xn_NoNet : relB K "NoNet" ["Dry", "NoBack", "NoBeat", "NoBook", "NoDeed", "NoDrive", "NoFace", "NoFlow", "NoLane", "NoLine", "NoLoop", "NoMeasure", "NoModule", "NoName", "NoPart", "NoPlace", "NoRoom", "NoState", "NoText", "NoTitle", "NoWait", "NoWay", "NoWord", "Over", "TooDeep", "TooLong", "Twice"] false = true)
    (xt_NoNet : bltB K "NoNet" = true)
    (xr_NoPart : relB K "NoPart" ["NoPart"] true = true)
    (xn_NoPart : relB K "NoPart" ["Dry", "NoBack", "NoBeat", "NoBook", "NoDeed", "NoDrive", "NoFace", "NoFlow", "NoLane", "NoLine", "NoLoop", "NoMeasure", "NoModule", "NoName", "NoNet", "NoPlace", "NoRoom", "NoState", "NoText", "NoTitle", "NoWait", "NoWay", "NoWord", "Over", "TooDeep", "TooLong", "Twice"] false = true)
    (xt_NoPart : bltB K "NoPart" = true)
    (xr_NoPlace : relB K "NoPlace" ["NoPlace"] true = true)
    (xn_NoPlace : relB K "NoPlace" ["Dry", "NoBack", "NoBeat", "NoBook", "NoDeed", "NoDrive", "NoFace", "NoFlow", "NoLane", "NoLine", "NoLoop", "NoMeasure", "NoModule", "NoName", "NoNet", "NoPart", "NoRoom", "NoState", "NoText", "NoTitle", "NoWait", "NoWay", "NoWord", "Over", "TooDeep", "TooLong", "Twice"] false = true)
    (xt_NoPlace : bltB K "NoPlace" = true)
    (xr_NoRoom : relB K "NoRoom" ["NoRoom"] true = true)
    (xn_NoRoom : relB K "NoRoom" ["Dry", "NoBack", "NoBeat", "NoBook", "NoDeed", "NoDrive", "NoFace", "NoFlow", "NoLane", "NoLine", "NoLoop", "NoMeasure", "NoModule", "NoName", "NoNet", "NoPart", "NoPlace", "NoState", "NoText", "NoTitle", "NoWait", "NoWay", "NoWord", "Over", "TooDeep", "TooLong", "Twice"] false = true)
    (xt_NoRoom : bltB K "NoRoom" = true)
    (xr_NoState : relB K "NoState" ["NoState"] true = true)
    (xn_NoState : relB K "NoState" ["Dry", "NoBack", "NoBeat", "NoBook", "NoDeed", "NoDrive", "NoFace", "NoFlow", "NoLane", "NoLine", "NoLoop", "NoMeasure", "NoModule", "NoName", "NoNet", "NoPart", "NoPlace", "NoRoom", "NoText", "NoTitle", "NoWait", "NoWay", "NoWord", "Over", "TooDeep", "TooLong", "Twice"] false = true)
    (xt_NoState : bltB K "NoState" = true)
    (xr_NoText : relB K "NoText" ["NoText"] true = true)
    (xn_NoText : relB K "NoText" ["Dry", "NoBack", "NoBeat", "NoBook", "NoDeed", "NoDrive", "NoFace", "NoFlow", "NoLane", "NoLine", "NoLoop", "NoMeasure", "NoModule", "NoName", "NoNet", "NoPart", "NoPlace", "NoRoom", "NoState", "NoTitle", "NoWait", "NoWay", "NoWord", "Over", "TooDeep", "TooLong", "Twice"] false = true)
    (xt_NoText : bltB K "NoText" = true)
    (xr_NoTitle : relB K "NoTitle" ["NoTitle"] true = true)
    (xn_NoTitle : relB K "NoTitle" ["Dry", "NoBack", "NoBeat", "NoBook", "NoDeed", "NoDrive", "NoFace", "NoFlow", "NoLane", "NoLine", "NoLoop", "NoMeasure", "NoModule", "NoName", "NoNet", "NoPart", "NoPlace", "NoRoom", "NoState", "NoText", "NoWait", "NoWay", "NoWord", "Over", "TooDeep", "TooLong", "Twice"] false = true)
    (xt_NoTitle : bltB K "NoTitle" = true)
    (xr_NoWait : relB K "NoWait" ["NoWait"] true = true)
    (xn_NoWait : relB K "NoWait" ["Dry", "NoBack", "NoBeat", "NoBook", "NoDeed", "NoDrive", "NoFace", "NoFlow", "NoLane", "NoLine", "NoLoop", "NoMeasure", "NoModule", "NoName", "NoNet", "NoPart", "NoPlace", "NoRoom", "NoState", "NoText", "NoTitle", "NoWay", "NoWord", "Over", "TooDeep", "TooLong", "Twice"] false = true)
    (xt_NoWait : bltB K "NoWait" = true)
    (xr_NoWay : relB K "NoWay" ["NoWay"] true = true)
    (xn_NoWay : relB K "NoWay" ["Dry", "NoBack", "NoBeat", "NoBook", "NoDeed", "NoDrive", "NoFace", "NoFlow", "NoLane", "NoLine", "NoLoop", "NoMeasure", "NoModule", "NoName", "NoNet", "NoPart", "NoPlace", "NoRoom", "NoState", "NoText", "NoTitle", "NoWait", "NoWord", "Over", "TooDeep", "TooLong", "Twice"] false = true)
    (xt_NoWay : bltB K "NoWay" = true)
    (xr_NoWord : relB K "NoWord" ["NoWord"] true = true)
    (xn_NoWord : relB K "NoWord" ["Dry", "NoBack", "NoBeat", "NoBook", "NoDeed", "NoDrive", "NoFace", "NoFlow", "NoLane", "NoLine", "NoLoop", "NoMeasure", "NoModule", "NoName", "NoNet", "NoPart", "NoPlace", "NoRoom", "NoState", "NoText", "NoTitle", "NoWait", "NoWay", "Over", "TooDeep", "TooLong", "Twice"] false = true)
    (xt_NoWord : bltB K "NoWord" = true)
    (xr_Over : relB K "Over" ["Over"] true = true)
    (xn_Over : relB K "Over" ["Dry", "NoBack", "NoBeat", "NoBook", "NoDeed", "NoDrive", "NoFace", "NoFlow", "NoLane", "NoLine", "NoLoop", "NoMeasure", "NoModule", "NoName", "NoNet", "NoPart", "NoPlace", "NoRoom", "NoState", "NoText", "NoTitle", "NoWait", "NoWay", "NoWord", "TooDeep", "TooLong", "Twice"] false = true)
    (xt_Over : bltB K "Over" = true)
    (xr_TooDeep : relB K "TooDeep" ["TooDeep"] true = true)
    (xn_TooDeep : relB K "TooDeep" ["Dry", "NoBack", "NoBeat", "NoBook", "NoDeed", "NoDrive", "NoFace", "NoFlow", "NoLane", "NoLine", "NoLoop", "NoMeasure", "NoModule", "NoName", "NoNet", "NoPart", "NoPlace", "NoRoom", "NoState", "NoText", "NoTitle", "NoWait", "NoWay", "NoWord", "Over", "TooLong", "Twice"] false = true)
    (xt_TooDeep : bltB K "TooDeep" = true)
    (xr_TooLong : relB K "TooLong" ["TooLong"] true = true)
    (xn_TooLong : relB K "TooLong" ["Dry", "NoBack", "NoBeat", "NoBook", "NoDeed", "NoDrive", "NoFace", "NoFlow", "NoLane", "NoLine", "NoLoop", "NoMeasure", "NoModule", "NoName", "NoNet", "NoPart", "NoPlace", "NoRoom", "NoState", "NoText", "NoTitle", "NoWait", "NoWay", "NoWord", "Over", "TooDeep", "Twice"] false = true)
    (xt_TooLong : bltB K "TooLong" = true)
    (xr_Twice : relB K "Twice" ["Twice"] true = true)
    (xn_Twice : relB K "Twice" ["Dry", "NoBack", "NoBeat", "NoBook", "NoDeed", "NoDrive", "NoFace", "NoFlow", "NoLane", "NoLine", "NoLoop", "NoMeasure", "NoModule", "NoName", "NoNet", "NoPart", "NoPlace", "NoRoom", "NoState", "NoText", "NoTitle", "NoWait", "NoWay", "NoWord", "Over", "TooDeep", "TooLong"] false = true)
    (xt_Twice : bltB K "Twice" = true)
    (xf_NoBack : rfB K "NoBack" = true)
    (xf_NoDrive : rfB K "NoDrive" = true)
    (xf_NoLane : rfB K "NoLane" = true)
    (xf_NoLine : rfB K "NoLine" = true)
    (xf_NoMeasure : rfB K "NoMeasure" = true)
    (xf_NoPart : rfB K "NoPart" = true)
    (xf_NoTitle : rfB K "NoTitle" = true)
    (xf_NoWait : rfB K "NoWait" = true)
    (xf_NoWay : rfB K "NoWay" = true)
    (xf_NoWord : rfB K "NoWord" = true)
    (xf_TooDeep : rfB K "TooDeep" = true)
    (xf_TooLong : rfB K "TooLong" = true)
    (xm_Dry : xmB K "LoomError" "Dry" ["lane"] = true)
    (xm_NoBeat : xmB K "LoomError" "NoBeat" ["name"] = true)
    (xm_NoBook : xmB K "LoomError" "NoBook" ["wrong"] = true)
    (xm_NoDeed : xmB K "LoomError" "NoDeed" ["at"] = true)
    (xm_NoFace : xmB K "LoomError" "NoFace" ["paper"] = true)
    (xm_NoFlow : xmB K "LoomError" "NoFlow" ["name"] = true)
    (xm_NoLoop : xmB K "LoomError" "NoLoop" ["wrong"] = true)
    (xm_NoModule : xmB K "LoomError" "NoModule" ["wrong"] = true)
    (xm_NoName : xmB K "LoomError" "NoName" ["name"] = true)
    (xm_NoNet : xmB K "LoomError" "NoNet" ["wrong"] = true)
    (xm_NoPlace : xmB K "LoomError" "NoPlace" ["place"] = true)
    (xm_NoRoom : xmB K "LoomError" "NoRoom" ["lane"] = true)
    (xm_NoState : xmB K "LoomError" "NoState" ["at"] = true)
    (xm_NoText : xmB K "LoomError" "NoText" ["row", "at"] = true)
    (xm_Over : xmB K "LoomError" "Over" ["lane"] = true)
    (xm_Twice : xmB K "LoomError" "Twice" ["name"] = true)
    (z0 : PySem.W.nsIn K mainGlobals "len" = some none)
    (z1 : PySem.W.nsIn K mainGlobals "isinstance" = some none)
    (z2 : PySem.W.nsIn K mainGlobals "max" = some none)
    (z3 : PySem.W.nsIn K mainGlobals "min" = some none)
    (z4 : PySem.W.nsIn K mainGlobals "int" = some none)
    (z5 : PySem.W.nsIn K mainGlobals "str" = some none)
    (z6 : PySem.W.nsIn K mainGlobals "list" = some none)
    (z7 : PySem.W.nsIn K mainGlobals "tuple" = some none)
    (z8 : PySem.W.nsIn K mainGlobals "all" = some none)
    (z9 : PySem.W.nsIn K mainGlobals "any" = some none)
    (z10 : PySem.W.nsIn K mainGlobals "abs" = some none)
    (z11 : PySem.W.nsIn K mainGlobals "sum" = some none)
    (z12 : PySem.W.nsIn K mainGlobals "bool" = some none)
    (z13 : PySem.W.nsIn K mainGlobals "range" = some none)
    (z14 : PySem.W.nsIn K mainGlobals "dict" = some none)
    (z15 : PySem.W.nsIn K mainGlobals "ValueError" = some none)
    (z16 : PySem.W.nsIn K mainGlobals "divmod" = some none)
    (z17 : PySem.W.nsIn K mainGlobals "enumerate" = some none)
    (z18 : PySem.W.nsIn K mainGlobals "zip" = some none)
    (z19 : PySem.W.nsIn K mainGlobals "repr" = some none)
    : Md K mg pr ∧ ∃ st fd, Dn K mg pr d_law st fa fd := by
  have e := hfa.symm.trans (PySem.W.mg_of X G a10)
  cases e
  have D0 : Dn K mg pr d__law_purse t__law_purse _ _ := ⟨funD_mk l0 c0 k0, PySem.W.mg_of X G a0, (fun _ us hl => (match us, hl with | [_], _ => rfl)), (fun _ _ h => nomatch h), c__law_purse, .inl o__law_purse⟩
  have D1 : Dn K mg pr d__law_draw t__law_draw _ _ := ⟨funD_mk l1 c1 k1, PySem.W.mg_of X G a1, (fun _ us hl => (match us, hl with | [_, _], _ => rfl)), (fun _ _ h => nomatch h), c__law_draw, .inl o__law_draw⟩
  have D2 : Dn K mg pr d__law_thing t__law_thing _ _ := ⟨funD_mk l2 c2 k2, PySem.W.mg_of X G a2, (fun _ us hl => (match us, hl with | [_, _], _ => rfl)), (fun _ _ h => nomatch h), c__law_thing, .inl o__law_thing⟩
  have D3 : Dn K mg pr d__law_marks t__law_marks _ _ := ⟨funD_mk l3 c3 k3, PySem.W.mg_of X G a3, (fun _ us hl => (match us, hl with | [_], _ => rfl)), (fun _ _ h => nomatch h), c__law_marks, .inl o__law_marks⟩
  have D4 : Dn K mg pr d__law_first t__law_first _ _ := ⟨funD_mk l4 c4 k4, PySem.W.mg_of X G a4, (fun _ us hl => (match us, hl with | [_, _, _], _ => rfl)), (fun _ _ h => nomatch h), c__law_first, .inl o__law_first⟩
  have D5 : Dn K mg pr d__law_second t__law_second _ _ := ⟨funD_mk l5 c5 k5, PySem.W.mg_of X G a5, (fun _ us hl => (match us, hl with | [_, _, _], _ => rfl)), (fun _ _ h => nomatch h), c__law_second, .inl o__law_second⟩
  have D6 : Dn K mg pr d__law_third t__law_third _ _ := ⟨funD_mk l6 c6 k6, PySem.W.mg_of X G a6, (fun _ us hl => (match us, hl with | [_], _ => rfl)), (fun _ _ h => nomatch h), c__law_third, .inl o__law_third⟩
  have D7 : Dn K mg pr d__law_fourth t__law_fourth _ _ := ⟨funD_mk l7 c7 k7, PySem.W.mg_of X G a7, (fun _ us hl => (match us, hl with | [_, _], _ => rfl)), (fun _ _ h => nomatch h), c__law_fourth, .inl o__law_fourth⟩
  have D8 : Dn K mg pr d__law_caught t__law_caught _ _ := ⟨funD_mk l8 c8 k8, PySem.W.mg_of X G a8, (fun _ us hl => (match us, hl with | [_, _, _, _], _ => rfl)), (fun _ _ h => nomatch h), c__law_caught, .inl o__law_caught⟩
  have D9 : Dn K mg pr d__law_borne t__law_borne _ _ := ⟨funD_mk l9 c9 k9, PySem.W.mg_of X G a9, (fun _ us hl => (match us, hl with | [_, _], _ => rfl)), (fun _ _ h => nomatch h), c__law_borne, .inl o__law_borne⟩
  have D10 : Dn K mg pr d_law t_law _ _ := ⟨funD_mk l10 c10 k10, PySem.W.mg_of X G a10, (fun _ us hl => (match us, hl with | [_], _ => rfl)), (fun _ _ h => nomatch h), c_law, .inl o_law⟩
  have E_Dry := exB_by xb_Dry
  have E_LoomError := exB_by xb_LoomError
  have E_NoBack := exB_by xb_NoBack
  have E_NoBeat := exB_by xb_NoBeat
  have E_NoBook := exB_by xb_NoBook
  have E_NoDeed := exB_by xb_NoDeed
  have E_NoDrive := exB_by xb_NoDrive
  have E_NoFace := exB_by xb_NoFace
  have E_NoFlow := exB_by xb_NoFlow
  have E_NoLane := exB_by xb_NoLane
  have E_NoLine := exB_by xb_NoLine
  have E_NoLoop := exB_by xb_NoLoop
  have E_NoMeasure := exB_by xb_NoMeasure
  have E_NoModule := exB_by xb_NoModule
  have E_NoName := exB_by xb_NoName
  have E_NoNet := exB_by xb_NoNet
  have E_NoPart := exB_by xb_NoPart
  have E_NoPlace := exB_by xb_NoPlace
  have E_NoRoom := exB_by xb_NoRoom
  have E_NoState := exB_by xb_NoState
  have E_NoText := exB_by xb_NoText
  have E_NoTitle := exB_by xb_NoTitle
  have E_NoWait := exB_by xb_NoWait
  have E_NoWay := exB_by xb_NoWay
  have E_NoWord := exB_by xb_NoWord
  have E_Over := exB_by xb_Over
  have E_TooDeep := exB_by xb_TooDeep
  have E_TooLong := exB_by xb_TooLong
  have E_Twice := exB_by xb_Twice
  have C_Dry := cf_by E_Dry xr_Dry xn_Dry xt_Dry
  have C_LoomError := cf_by E_LoomError xr_LoomError xn_LoomError xt_LoomError
  have C_NoBack := cf_by E_NoBack xr_NoBack xn_NoBack xt_NoBack
  have C_NoBeat := cf_by E_NoBeat xr_NoBeat xn_NoBeat xt_NoBeat
  have C_NoBook := cf_by E_NoBook xr_NoBook xn_NoBook xt_NoBook
  have C_NoDeed := cf_by E_NoDeed xr_NoDeed xn_NoDeed xt_NoDeed
  have C_NoDrive := cf_by E_NoDrive xr_NoDrive xn_NoDrive xt_NoDrive
  have C_NoFace := cf_by E_NoFace xr_NoFace xn_NoFace xt_NoFace
  have C_NoFlow := cf_by E_NoFlow xr_NoFlow xn_NoFlow xt_NoFlow
  have C_NoLane := cf_by E_NoLane xr_NoLane xn_NoLane xt_NoLane
  have C_NoLine := cf_by E_NoLine xr_NoLine xn_NoLine xt_NoLine
  have C_NoLoop := cf_by E_NoLoop xr_NoLoop xn_NoLoop xt_NoLoop
  have C_NoMeasure := cf_by E_NoMeasure xr_NoMeasure xn_NoMeasure xt_NoMeasure
  have C_NoModule := cf_by E_NoModule xr_NoModule xn_NoModule xt_NoModule
  have C_NoName := cf_by E_NoName xr_NoName xn_NoName xt_NoName
  have C_NoNet := cf_by E_NoNet xr_NoNet xn_NoNet xt_NoNet
  have C_NoPart := cf_by E_NoPart xr_NoPart xn_NoPart xt_NoPart
  have C_NoPlace := cf_by E_NoPlace xr_NoPlace xn_NoPlace xt_NoPlace
  have C_NoRoom := cf_by E_NoRoom xr_NoRoom xn_NoRoom xt_NoRoom
  have C_NoState := cf_by E_NoState xr_NoState xn_NoState xt_NoState
  have C_NoText := cf_by E_NoText xr_NoText xn_NoText xt_NoText
  have C_NoTitle := cf_by E_NoTitle xr_NoTitle xn_NoTitle xt_NoTitle
  have C_NoWait := cf_by E_NoWait xr_NoWait xn_NoWait xt_NoWait
  have C_NoWay := cf_by E_NoWay xr_NoWay xn_NoWay xt_NoWay
  have C_NoWord := cf_by E_NoWord xr_NoWord xn_NoWord xt_NoWord
  have C_Over := cf_by E_Over xr_Over xn_Over xt_Over
  have C_TooDeep := cf_by E_TooDeep xr_TooDeep xn_TooDeep xt_TooDeep
  have C_TooLong := cf_by E_TooLong xr_TooLong xn_TooLong xt_TooLong
  have C_Twice := cf_by E_Twice xr_Twice xn_Twice xt_Twice
  have hc0 : clA K "Dry" = e0 := clA_of ea0
  have X_Dry : XM K mg "Dry" ["lane"] [(["lane"], [0])] := xm_mk X G E_Dry E_LoomError xm_Dry (ql := "Dry.__init__") (by decide +kernel) (funD_mk2 el0 ec0 ek0) is_Dry ih_Dry (by decide) (by decide +kernel) (by rw [hc0]; exact ei0) et0 (.all fun us hl => (match us, hl with | [_, _], _ => rfl)) (fun q hq u ws hl => by
    simp only [List.mem_cons, List.not_mem_nil, or_false] at hq
    rcases hq with rfl
    · exact (match ws, hl with | [_], _ => rfl))
  have hc1 : clA K "NoBeat" = e1 := clA_of ea1
  have X_NoBeat : XM K mg "NoBeat" ["name"] [(["name"], [0])] := xm_mk X G E_NoBeat E_LoomError xm_NoBeat (ql := "NoBeat.__init__") (by decide +kernel) (funD_mk2 el1 ec1 ek1) is_NoBeat ih_NoBeat (by decide) (by decide +kernel) (by rw [hc1]; exact ei1) et1 (.all fun us hl => (match us, hl with | [_, _], _ => rfl)) (fun q hq u ws hl => by
    simp only [List.mem_cons, List.not_mem_nil, or_false] at hq
    rcases hq with rfl
    · exact (match ws, hl with | [_], _ => rfl))
  have hc2 : clA K "NoBook" = e2 := clA_of ea2
  have X_NoBook : XM K mg "NoBook" ["wrong"] [(["wrong"], [0])] := xm_mk X G E_NoBook E_LoomError xm_NoBook (ql := "NoBook.__init__") (by decide +kernel) (funD_mk2 el2 ec2 ek2) is_NoBook ih_NoBook (by decide) (by decide +kernel) (by rw [hc2]; exact ei2) et2 (.all fun us hl => (match us, hl with | [_, _], _ => rfl)) (fun q hq u ws hl => by
    simp only [List.mem_cons, List.not_mem_nil, or_false] at hq
    rcases hq with rfl
    · exact (match ws, hl with | [_], _ => rfl))
  have hc3 : clA K "NoDeed" = e3 := clA_of ea3
  have X_NoDeed : XM K mg "NoDeed" ["at"] [(["at"], [0])] := xm_mk X G E_NoDeed E_LoomError xm_NoDeed (ql := "NoDeed.__init__") (by decide +kernel) (funD_mk2 el3 ec3 ek3) is_NoDeed ih_NoDeed (by decide) (by decide +kernel) (by rw [hc3]; exact ei3) et3 (.all fun us hl => (match us, hl with | [_, _], _ => rfl)) (fun q hq u ws hl => by
    simp only [List.mem_cons, List.not_mem_nil, or_false] at hq
    rcases hq with rfl
    · exact (match ws, hl with | [_], _ => rfl))
  have hc4 : clA K "NoFace" = e4 := clA_of ea4
  have X_NoFace : XM K mg "NoFace" ["paper"] [(["paper"], [0])] := xm_mk X G E_NoFace E_LoomError xm_NoFace (ql := "NoFace.__init__") (by decide +kernel) (funD_mk2 el4 ec4 ek4) is_NoFace ih_NoFace (by decide) (by decide +kernel) (by rw [hc4]; exact ei4) et4 (.all fun us hl => (match us, hl with | [_, _], _ => rfl)) (fun q hq u ws hl => by
    simp only [List.mem_cons, List.not_mem_nil, or_false] at hq
    rcases hq with rfl
    · exact (match ws, hl with | [_], _ => rfl))
  have hc5 : clA K "NoFlow" = e5 := clA_of ea5
  have X_NoFlow : XM K mg "NoFlow" ["name"] [(["name"], [0])] := xm_mk X G E_NoFlow E_LoomError xm_NoFlow (ql := "NoFlow.__init__") (by decide +kernel) (funD_mk2 el5 ec5 ek5) is_NoFlow ih_NoFlow (by decide) (by decide +kernel) (by rw [hc5]; exact ei5) et5 (.all fun us hl => (match us, hl with | [_, _], _ => rfl)) (fun q hq u ws hl => by
    simp only [List.mem_cons, List.not_mem_nil, or_false] at hq
    rcases hq with rfl
    · exact (match ws, hl with | [_], _ => rfl))
  have hc6 : clA K "NoLoop" = e6 := clA_of ea6
  have X_NoLoop : XM K mg "NoLoop" ["wrong"] [(["wrong"], [0])] := xm_mk X G E_NoLoop E_LoomError xm_NoLoop (ql := "NoLoop.__init__") (by decide +kernel) (funD_mk2 el6 ec6 ek6) is_NoLoop ih_NoLoop (by decide) (by decide +kernel) (by rw [hc6]; exact ei6) et6 (.all fun us hl => (match us, hl with | [_, _], _ => rfl)) (fun q hq u ws hl => by
    simp only [List.mem_cons, List.not_mem_nil, or_false] at hq
    rcases hq with rfl
    · exact (match ws, hl with | [_], _ => rfl))
  have hc7 : clA K "NoModule" = e7 := clA_of ea7
  have X_NoModule : XM K mg "NoModule" ["wrong"] [(["wrong"], [0])] := xm_mk X G E_NoModule E_LoomError xm_NoModule (ql := "NoModule.__init__") (by decide +kernel) (funD_mk2 el7 ec7 ek7) is_NoModule ih_NoModule (by decide) (by decide +kernel) (by rw [hc7]; exact ei7) et7 (.all fun us hl => (match us, hl with | [_, _], _ => rfl)) (fun q hq u ws hl => by
    simp only [List.mem_cons, List.not_mem_nil, or_false] at hq
    rcases hq with rfl
    · exact (match ws, hl with | [_], _ => rfl))
  have hc8 : clA K "NoName" = e8 := clA_of ea8
  have X_NoName : XM K mg "NoName" ["name"] [(["name"], [0])] := xm_mk X G E_NoName E_LoomError xm_NoName (ql := "NoName.__init__") (by decide +kernel) (funD_mk2 el8 ec8 ek8) is_NoName ih_NoName (by decide) (by decide +kernel) (by rw [hc8]; exact ei8) et8 (.all fun us hl => (match us, hl with | [_, _], _ => rfl)) (fun q hq u ws hl => by
    simp only [List.mem_cons, List.not_mem_nil, or_false] at hq
    rcases hq with rfl
    · exact (match ws, hl with | [_], _ => rfl))
  have hc9 : clA K "NoNet" = e9 := clA_of ea9
  have X_NoNet : XM K mg "NoNet" ["wrong"] [(["wrong"], [0])] := xm_mk X G E_NoNet E_LoomError xm_NoNet (ql := "NoNet.__init__") (by decide +kernel) (funD_mk2 el9 ec9 ek9) is_NoNet ih_NoNet (by decide) (by decide +kernel) (by rw [hc9]; exact ei9) et9 (.all fun us hl => (match us, hl with | [_, _], _ => rfl)) (fun q hq u ws hl => by
    simp only [List.mem_cons, List.not_mem_nil, or_false] at hq
    rcases hq with rfl
    · exact (match ws, hl with | [_], _ => rfl))
  have hc10 : clA K "NoPlace" = e10 := clA_of ea10
  have X_NoPlace : XM K mg "NoPlace" ["place"] [(["place"], [0])] := xm_mk X G E_NoPlace E_LoomError xm_NoPlace (ql := "NoPlace.__init__") (by decide +kernel) (funD_mk2 el10 ec10 ek10) is_NoPlace ih_NoPlace (by decide) (by decide +kernel) (by rw [hc10]; exact ei10) et10 (.all fun us hl => (match us, hl with | [_, _], _ => rfl)) (fun q hq u ws hl => by
    simp only [List.mem_cons, List.not_mem_nil, or_false] at hq
    rcases hq with rfl
    · exact (match ws, hl with | [_], _ => rfl))
  have hc11 : clA K "NoRoom" = e11 := clA_of ea11
  have X_NoRoom : XM K mg "NoRoom" ["lane"] [(["lane"], [0])] := xm_mk X G E_NoRoom E_LoomError xm_NoRoom (ql := "NoRoom.__init__") (by decide +kernel) (funD_mk2 el11 ec11 ek11) is_NoRoom ih_NoRoom (by decide) (by decide +kernel) (by rw [hc11]; exact ei11) et11 (.all fun us hl => (match us, hl with | [_, _], _ => rfl)) (fun q hq u ws hl => by
    simp only [List.mem_cons, List.not_mem_nil, or_false] at hq
    rcases hq with rfl
    · exact (match ws, hl with | [_], _ => rfl))
  have hc12 : clA K "NoState" = e12 := clA_of ea12
  have X_NoState : XM K mg "NoState" ["at"] [(["at"], [0])] := xm_mk X G E_NoState E_LoomError xm_NoState (ql := "NoState.__init__") (by decide +kernel) (funD_mk2 el12 ec12 ek12) is_NoState ih_NoState (by decide) (by decide +kernel) (by rw [hc12]; exact ei12) et12 (.all fun us hl => (match us, hl with | [_, _], _ => rfl)) (fun q hq u ws hl => by
    simp only [List.mem_cons, List.not_mem_nil, or_false] at hq
    rcases hq with rfl
    · exact (match ws, hl with | [_], _ => rfl))
  have hc13 : clA K "NoText" = e13 := clA_of ea13
  have X_NoText : XM K mg "NoText" ["row", "at"] [(["at", "row"], [1, 0])] := xm_mk X G E_NoText E_LoomError xm_NoText (ql := "NoText.__init__") (by decide +kernel) (funD_mk2 el13 ec13 ek13) is_NoText ih_NoText (by decide) (by decide +kernel) (by rw [hc13]; exact ei13) et13 (.all fun us hl => (match us, hl with | [_, _, _], _ => rfl)) (fun q hq u ws hl => by
    simp only [List.mem_cons, List.not_mem_nil, or_false] at hq
    rcases hq with rfl
    · exact (match ws, hl with | [_, _], _ => rfl))
  have hc14 : clA K "Over" = e14 := clA_of ea14
  have X_Over : XM K mg "Over" ["lane"] [(["lane"], [0])] := xm_mk X G E_Over E_LoomError xm_Over (ql := "Over.__init__") (by decide +kernel) (funD_mk2 el14 ec14 ek14) is_Over ih_Over (by decide) (by decide +kernel) (by rw [hc14]; exact ei14) et14 (.all fun us hl => (match us, hl with | [_, _], _ => rfl)) (fun q hq u ws hl => by
    simp only [List.mem_cons, List.not_mem_nil, or_false] at hq
    rcases hq with rfl
    · exact (match ws, hl with | [_], _ => rfl))
  have hc15 : clA K "Twice" = e15 := clA_of ea15
  have X_Twice : XM K mg "Twice" ["name"] [(["name"], [0])] := xm_mk X G E_Twice E_LoomError xm_Twice (ql := "Twice.__init__") (by decide +kernel) (funD_mk2 el15 ec15 ek15) is_Twice ih_Twice (by decide) (by decide +kernel) (by rw [hc15]; exact ei15) et15 (.all fun us hl => (match us, hl with | [_, _], _ => rfl)) (fun q hq u ws hl => by
    simp only [List.mem_cons, List.not_mem_nil, or_false] at hq
    rcases hq with rfl
    · exact (match ws, hl with | [_], _ => rfl))
  refine ⟨⟨?_, ?_, ?_, ?_, ?_⟩, _, _, D10⟩
  · intro x hx
    simp only [List.mem_cons, List.not_mem_nil, or_false] at hx
    rcases hx with rfl | rfl | rfl | rfl | rfl | rfl | rfl | rfl | rfl | rfl | rfl | rfl | rfl | rfl | rfl | rfl | rfl | rfl | rfl | rfl
    · exact PySem.W.mg_none_of X G z0
    · exact PySem.W.mg_none_of X G z1
    · exact PySem.W.mg_none_of X G z2
    · exact PySem.W.mg_none_of X G z3
    · exact PySem.W.mg_none_of X G z4
    · exact PySem.W.mg_none_of X G z5
    · exact PySem.W.mg_none_of X G z6
    · exact PySem.W.mg_none_of X G z7
    · exact PySem.W.mg_none_of X G z8
    · exact PySem.W.mg_none_of X G z9
    · exact PySem.W.mg_none_of X G z10
    · exact PySem.W.mg_none_of X G z11
    · exact PySem.W.mg_none_of X G z12
    · exact PySem.W.mg_none_of X G z13
    · exact PySem.W.mg_none_of X G z14
    · exact PySem.W.mg_none_of X G z15
    · exact PySem.W.mg_none_of X G z16
    · exact PySem.W.mg_none_of X G z17
    · exact PySem.W.mg_none_of X G z18
    · exact PySem.W.mg_none_of X G z19
  · intro k x v h
    match k, h with
    | 0, h => cases h; exact ⟨_, V.ref _, E_Dry.mg X G, rfl, fun _ _ => ⟨rfl, C_Dry⟩⟩
    | 1, h => cases h; exact ⟨_, V.ref _, E_LoomError.mg X G, rfl, fun _ _ => ⟨rfl, C_LoomError⟩⟩
    | 2, h => cases h; exact ⟨_, V.ref _, E_NoBack.mg X G, rfl, fun _ _ => ⟨rfl, C_NoBack⟩⟩
    | 3, h => cases h; exact ⟨_, V.ref _, E_NoBeat.mg X G, rfl, fun _ _ => ⟨rfl, C_NoBeat⟩⟩
    | 4, h => cases h; exact ⟨_, V.ref _, E_NoBook.mg X G, rfl, fun _ _ => ⟨rfl, C_NoBook⟩⟩
    | 5, h => cases h; exact ⟨_, V.ref _, E_NoDeed.mg X G, rfl, fun _ _ => ⟨rfl, C_NoDeed⟩⟩
    | 6, h => cases h; exact ⟨_, V.ref _, E_NoDrive.mg X G, rfl, fun _ _ => ⟨rfl, C_NoDrive⟩⟩
    | 7, h => cases h; exact ⟨_, V.ref _, E_NoFace.mg X G, rfl, fun _ _ => ⟨rfl, C_NoFace⟩⟩
    | 8, h => cases h; exact ⟨_, V.ref _, E_NoFlow.mg X G, rfl, fun _ _ => ⟨rfl, C_NoFlow⟩⟩
    | 9, h => cases h; exact ⟨_, V.ref _, E_NoLane.mg X G, rfl, fun _ _ => ⟨rfl, C_NoLane⟩⟩
    | 10, h => cases h; exact ⟨_, V.ref _, E_NoLine.mg X G, rfl, fun _ _ => ⟨rfl, C_NoLine⟩⟩
    | 11, h => cases h; exact ⟨_, V.ref _, E_NoLoop.mg X G, rfl, fun _ _ => ⟨rfl, C_NoLoop⟩⟩
    | 12, h => cases h; exact ⟨_, V.ref _, E_NoMeasure.mg X G, rfl, fun _ _ => ⟨rfl, C_NoMeasure⟩⟩
    | 13, h => cases h; exact ⟨_, V.ref _, E_NoModule.mg X G, rfl, fun _ _ => ⟨rfl, C_NoModule⟩⟩
    | 14, h => cases h; exact ⟨_, V.ref _, E_NoName.mg X G, rfl, fun _ _ => ⟨rfl, C_NoName⟩⟩
    | 15, h => cases h; exact ⟨_, V.ref _, E_NoNet.mg X G, rfl, fun _ _ => ⟨rfl, C_NoNet⟩⟩
    | 16, h => cases h; exact ⟨_, V.ref _, E_NoPart.mg X G, rfl, fun _ _ => ⟨rfl, C_NoPart⟩⟩
    | 17, h => cases h; exact ⟨_, V.ref _, E_NoPlace.mg X G, rfl, fun _ _ => ⟨rfl, C_NoPlace⟩⟩
    | 18, h => cases h; exact ⟨_, V.ref _, E_NoRoom.mg X G, rfl, fun _ _ => ⟨rfl, C_NoRoom⟩⟩
    | 19, h => cases h; exact ⟨_, V.ref _, E_NoState.mg X G, rfl, fun _ _ => ⟨rfl, C_NoState⟩⟩
    | 20, h => cases h; exact ⟨_, V.ref _, E_NoText.mg X G, rfl, fun _ _ => ⟨rfl, C_NoText⟩⟩
    | 21, h => cases h; exact ⟨_, V.ref _, E_NoTitle.mg X G, rfl, fun _ _ => ⟨rfl, C_NoTitle⟩⟩
    | 22, h => cases h; exact ⟨_, V.ref _, E_NoWait.mg X G, rfl, fun _ _ => ⟨rfl, C_NoWait⟩⟩
    | 23, h => cases h; exact ⟨_, V.ref _, E_NoWay.mg X G, rfl, fun _ _ => ⟨rfl, C_NoWay⟩⟩
    | 24, h => cases h; exact ⟨_, V.ref _, E_NoWord.mg X G, rfl, fun _ _ => ⟨rfl, C_NoWord⟩⟩
    | 25, h => cases h; exact ⟨_, V.ref _, E_Over.mg X G, rfl, fun _ _ => ⟨rfl, C_Over⟩⟩
    | 26, h => cases h; exact ⟨_, V.ref _, E_TooDeep.mg X G, rfl, fun _ _ => ⟨rfl, C_TooDeep⟩⟩
    | 27, h => cases h; exact ⟨_, V.ref _, E_TooLong.mg X G, rfl, fun _ _ => ⟨rfl, C_TooLong⟩⟩
    | 28, h => cases h; exact ⟨_, V.ref _, E_Twice.mg X G, rfl, fun _ _ => ⟨rfl, C_Twice⟩⟩
    | _ + 29, h => simp at h
  · intro c h
    simp only [List.mem_cons, List.not_mem_nil, or_false] at h
    rcases h with rfl | rfl | rfl | rfl | rfl | rfl | rfl | rfl | rfl | rfl | rfl | rfl
    · exact rf_by X G E_NoBack xf_NoBack
    · exact rf_by X G E_NoDrive xf_NoDrive
    · exact rf_by X G E_NoLane xf_NoLane
    · exact rf_by X G E_NoLine xf_NoLine
    · exact rf_by X G E_NoMeasure xf_NoMeasure
    · exact rf_by X G E_NoPart xf_NoPart
    · exact rf_by X G E_NoTitle xf_NoTitle
    · exact rf_by X G E_NoWait xf_NoWait
    · exact rf_by X G E_NoWay xf_NoWay
    · exact rf_by X G E_NoWord xf_NoWord
    · exact rf_by X G E_TooDeep xf_TooDeep
    · exact rf_by X G E_TooLong xf_TooLong
  · intro c ns kws h
    simp only [List.mem_cons, List.not_mem_nil, or_false, Prod.mk.injEq] at h
    rcases h with ⟨rfl, rfl, rfl⟩ | ⟨rfl, rfl, rfl⟩ | ⟨rfl, rfl, rfl⟩ | ⟨rfl, rfl, rfl⟩ | ⟨rfl, rfl, rfl⟩ | ⟨rfl, rfl, rfl⟩ | ⟨rfl, rfl, rfl⟩ | ⟨rfl, rfl, rfl⟩ | ⟨rfl, rfl, rfl⟩ | ⟨rfl, rfl, rfl⟩ | ⟨rfl, rfl, rfl⟩ | ⟨rfl, rfl, rfl⟩ | ⟨rfl, rfl, rfl⟩ | ⟨rfl, rfl, rfl⟩ | ⟨rfl, rfl, rfl⟩ | ⟨rfl, rfl, rfl⟩
    · exact X_Dry
    · exact X_NoBeat
    · exact X_NoBook
    · exact X_NoDeed
    · exact X_NoFace
    · exact X_NoFlow
    · exact X_NoLoop
    · exact X_NoModule
    · exact X_NoName
    · exact X_NoNet
    · exact X_NoPlace
    · exact X_NoRoom
    · exact X_NoState
    · exact X_NoText
    · exact X_Over
    · exact X_Twice
  · intro i d h
    match i, h with
    | 0, h => cases h; exact ⟨_, _, _, D0⟩
    | 1, h => cases h; exact ⟨_, _, _, D1⟩
    | 2, h => cases h; exact ⟨_, _, _, D2⟩
    | 3, h => cases h; exact ⟨_, _, _, D3⟩
    | 4, h => cases h; exact ⟨_, _, _, D4⟩
    | 5, h => cases h; exact ⟨_, _, _, D5⟩
    | 6, h => cases h; exact ⟨_, _, _, D6⟩
    | 7, h => cases h; exact ⟨_, _, _, D7⟩
    | 8, h => cases h; exact ⟨_, _, _, D8⟩
    | 9, h => cases h; exact ⟨_, _, _, D9⟩
    | 10, h => cases h; exact ⟨_, _, _, D10⟩
    | _ + 11, h => simp at h
end K20
end F_K20a
section F_M6
set_option maxRecDepth 100000
namespace M
section
variable {G : List Val} {C : CallEnv} {s : MS}
@[simp] theorem ev_var {i : Nat} : ev G C (.var i) s = match s.sl[i]? with
    | some (.val v) => .ok v s
    | some (.own _) => .ok (.loc i) s
    | _ => .bad := rfl
@[simp] theorem ev_frz {i : Nat} : ev G C (.frz i) s = match s.sl[i]? with
    | some (.val v) => .ok v s
    | some (.own (.lst vs)) => .ok (.lst vs) { s with sl := s.sl.set i (.val (.lst vs)) }
    | _ => .bad := rfl
@[simp] theorem ev_cst {v : Val} : ev G C (.cst v) s = .ok v s := rfl
@[simp] theorem ev_glob {k : Nat} : ev G C (.glob k) s = lift G[k]? s := rfl
@[simp] theorem ev_tup {es : Es} : ev G C (.tup es) s = (evs G C es s).bind fun vs s => if vs.length ≤ line then .ok (.tup vs) s else .bad := rfl
@[simp] theorem ev_lst {es : Es} : ev G C (.lst es) s = (evs G C es s).bind fun vs s => if vs.length ≤ line then .ok (.lst vs) s else .bad := rfl
@[simp] theorem ev_bin {op : BOp} {a b : E} : ev G C (.bin op a b) s = (ev G C a s).bind fun x s => (ev G C b s).bind fun y s => lift ((s.rd x).bind fun x => (s.rd y).bind fun y => opB op x y) s := rfl
@[simp] theorem ev_neg {a : E} : ev G C (.neg a) s = (ev G C a s).bind fun x s => match x with
    | .int i => .ok (.int (-i)) s
    | _ => .bad := rfl
@[simp] theorem ev_cmp {op : COp} {a b : E} : ev G C (.cmp op a b) s = (ev G C a s).bind fun x s => (ev G C b s).bind fun y s => lift (((s.rd x).bind fun x => (s.rd y).bind fun y => opC op x y).map .bool) s := rfl
@[simp] theorem ev_cmp2 {op op2 : COp} {a b c : E} : ev G C (.cmp2 op op2 a b c) s = (ev G C a s).bind fun x s => (ev G C b s).bind fun y s => match (s.rd x).bind fun x => (s.rd y).bind fun y => opC op x y with
    | some true => (ev G C c s).bind fun z s => lift (((s.rd y).bind fun y => (s.rd z).bind fun z => opC op2 y z).map .bool) s
    | some false => .ok (.bool false) s
    | none => .bad := rfl
@[simp] theorem ev_not {a : E} : ev G C (.not_ a) s = (ev G C a s).bind fun x s => lift (((s.rd x).bind tru).map fun b => .bool (!b)) s := rfl
@[simp] theorem ev_and {a b : E} : ev G C (.and_ a b) s = (ev G C a s).bind fun x s => match (s.rd x).bind tru with
    | some true => ev G C b s
    | some false => .ok x s
    | none => .bad := rfl
@[simp] theorem ev_or {a b : E} : ev G C (.or_ a b) s = (ev G C a s).bind fun x s => match (s.rd x).bind tru with
    | some true => .ok x s
    | some false => ev G C b s
    | none => .bad := rfl
@[simp] theorem ev_ifeS {c a b : E} : ev G C (.ife c a b) s = (ev G C c s).bind fun x s => match (s.rd x).bind tru with
    | some true => ev G C a s
    | some false => ev G C b s
    | none => .bad := rfl
@[simp] theorem ev_ix {a i : E} : ev G C (.ix a i) s = (ev G C a s).bind fun x s => (ev G C i s).bind fun y s => lift ((s.rd x).bind fun x => opIx x y) s := rfl
@[simp] theorem ev_slice {a : E} {lo hi : Option E} : ev G C (.slice a lo hi) s = (ev G C a s).bind fun x s => (evO G C lo s).bind fun l s => (evO G C hi s).bind fun h s => lift ((s.rd x).bind fun x => opSl x l h) s := rfl
@[simp] theorem ev_call {f : Nat} {es : Es} : ev G C (.call f es) s = (evs G C es s).bind fun vs s => match C f vs s.mu with
    | .ok v mu => .ok v { s with mu := mu }
    | .exc e mu => .exc e { s with mu := mu }
    | .bad => .bad := rfl
@[simp] theorem ev_bcall {f : BF} {es : Es} : ev G C (.bcall f es) s = (evh G C es s).bind fun vs s => lift ((vs.mapM s.rd).bind (opF f)) s := rfl
@[simp] theorem ev_meth {m : MF} {o : E} {es : Es} : ev G C (.meth m o es) s = (ev G C o s).bind fun x s => match x with
    | .str t => (evh G C es s).bind fun vs s => lift ((vs.mapM s.rd).bind (opM m (.str t))) s
    | _ => .bad := rfl
@[simp] theorem ev_app {o : E} {es : Es} : ev G C (.app o es) s = (ev G C o s).bind fun x s => match s.get x with
    | some (.lst _) => (evs G C es s).bind fun vs s => match s.get x, vs with
      | some (.lst xs), [y] => if xs.length < line then (lift (s.put (.lst (xs ++ [y])) x) s).bind fun s' _ => .ok .none s' else .bad
      | _, _ => .bad
    | _ => .bad := rfl
@[simp] theorem evs_nil : evs G C .nil s = .ok [] s := rfl
@[simp] theorem evs_cons {e : E} {es : Es} : evs G C (.cons e es) s = (ev G C e s).bind fun x s => match keep x with
    | some x => (evs G C es s).bind fun xs s => .ok (x :: xs) s
    | none => .bad := rfl
@[simp] theorem evh_nil : evh G C .nil s = .ok [] s := rfl
@[simp] theorem evh_cons {e : E} {es : Es} : evh G C (.cons e es) s = (ev G C e s).bind fun x s => (evh G C es s).bind fun xs s => .ok (x :: xs) s := rfl
@[simp] theorem evt_nil : evt G C .nil s = .ok true s := rfl
@[simp] theorem evO_none : evO G C none s = .ok none s := rfl
@[simp] theorem evO_some {e : E} : evO G C (some e) s = (ev G C e s).bind fun x s => match x with
    | .int i => .ok (some i) s
    | _ => .bad := rfl
@[simp] theorem evI_e {x : E} : evI G C (.e x) s = (ev G C x s).bind fun v s => lift (srcOf s v) s := rfl
theorem evI_range {es : Es} : evI G C (.range es) s = (evs G C es s).bind fun vs s => lift (opRange vs) s := rfl
theorem evI_range_ok {es : Es} {vs : List Val} {s' : MS} {src : Src} (h : evs G C es s = .ok vs s') (hr : opRange vs = some src) : evI G C (.range es) s = .ok src s' := by
  rw [evI_range, h, Out.bind_ok, hr, lift_some]
@[simp] theorem exs_nil : exs G C .nil s = .next s := rfl
@[simp] theorem exs_cons {a : St} {b : Sts} : exs G C (.cons a b) s = (ex G C a s).seq (exs G C b) := rfl
@[simp] theorem ex_asg {t : T} {e : E} : ex G C (.asg t e) s = (ev G C e s).fl fun x s => match keep x with
    | some x => match store t x s with
      | some s => .next s
      | none => .bad
    | none => .bad := rfl
@[simp] theorem ex_own {i : Nat} {e : E} : ex G C (.own i e) s = (ev G C e s).fl fun x s => match x with
    | .lst vs => if i < s.sl.length then .next { s with sl := s.sl.set i (.own (.lst vs)) } else .bad
    | _ => .bad := rfl
@[simp] theorem ex_par {i j : Nat} {a b : E} : ex G C (.par i j a b) s = (evs G C (.cons a (.cons b .nil)) s).fl fun vs s => match vs with
    | [x, y] => if i < s.sl.length ∧ j < s.sl.length then .next { s with sl := (s.sl.set i (.val x)).set j (.val y) } else .bad
    | _ => .bad := rfl
@[simp] theorem ex_aug {i : Nat} {op : BOp} {e : E} : ex G C (.aug i op e) s = match s.sl[i]? with
    | some (.val x) => (ev G C e s).fl fun y s => match opA op x y with
      | some z => if i < s.sl.length then .next { s with sl := s.sl.set i (.val z) } else .bad
      | none => .bad
    | _ => .bad := rfl
@[simp] theorem ex_if {c : E} {a b : Sts} : ex G C (.if_ c a b) s = (test G C c s).fl fun x s => if x then exs G C a s else exs G C b s := rfl
@[simp] theorem ex_while {c : E} {b : Sts} : ex G C (.while_ c b) s = whileL (test G C c) (exs G C b) s := rfl
@[simp] theorem ex_for {t : T} {it : I} {b : Sts} : ex G C (.for_ t it b) s = (evI G C it s).fl fun src s => forL src t (exs G C b) src.items s := rfl
@[simp] theorem ex_ret {e : E} : ex G C (.ret e) s = (ev G C e s).fl fun x s => match keep x with
    | some x => .ret x s
    | none => .bad := rfl
@[simp] theorem ex_raise {c : PySem.Str} : ex G C (.raise_ c) s = .exc ⟨c, [], []⟩ s := rfl
theorem ex_try {b : Sts} {k i j : Nat} {c : PySem.Str} {subs nots : List PySem.Str} (h : G[k]? = some (.cls c subs nots)) : ex G C (.tryAs b k i j) s = tryAs subs nots i j (exs G C b s) := by
  show (match G[k]? with | some (.cls _ subs nots) => tryAs subs nots i j (exs G C b s) | _ => .bad) = _
  rw [h]
@[simp] theorem ex_expr {e : E} : ex G C (.expr e) s = (ev G C e s).fl fun _ s => .next s := rfl
@[simp] theorem test_eq {e : E} : test G C e s = (ev G C e s).bind fun x s => lift ((s.rd x).bind tru) s := rfl
@[simp] theorem keep_int {i : Int} : keep (.int i) = some (.int i) := rfl
@[simp] theorem keep_str {t : Tx} : keep (.str t) = some (.str t) := rfl
@[simp] theorem keep_bool {t : Bool} : keep (.bool t) = some (.bool t) := rfl
@[simp] theorem keep_tup {t : List Val} : keep (.tup t) = some (.tup t) := rfl
@[simp] theorem keep_lst {t : List Val} : keep (.lst t) = some (.lst t) := rfl
@[simp] theorem keep_rol {t : List Val} : keep (.rol t) = some (.rol t) := rfl
@[simp] theorem keep_none : keep .none = some .none := rfl
@[simp] theorem rd_int {i : Int} : s.rd (.int i) = some (.int i) := rfl
@[simp] theorem rd_str {t : Tx} : s.rd (.str t) = some (.str t) := rfl
@[simp] theorem rd_bool {t : Bool} : s.rd (.bool t) = some (.bool t) := rfl
@[simp] theorem rd_tup {t : List Val} : s.rd (.tup t) = some (.tup t) := rfl
@[simp] theorem rd_lst {t : List Val} : s.rd (.lst t) = some (.lst t) := rfl
@[simp] theorem rd_rol {t : List Val} : s.rd (.rol t) = some (.rol t) := rfl
@[simp] theorem rd_none : s.rd .none = some .none := rfl
@[simp] theorem rd_ty {t : Ty} : s.rd (.ty t) = some (.ty t) := rfl
@[simp] theorem rd_loc {i : Nat} : s.rd (.loc i) = match s.sl[i]? with
    | some (.own (.lst vs)) => some (.lst vs)
    | _ => none := rfl
@[simp] theorem store_nm {i : Nat} {v : Val} : store (.nm i) v s = if i < s.sl.length then some { s with sl := s.sl.set i (.val v) } else none := rfl
@[simp] theorem store_tup {ts : List T} {v : Val} : store (.tup ts) v s = match s.rd v with
    | some (.tup vs) => stores ts vs s
    | some (.lst vs) => stores ts vs s
    | _ => none := rfl
@[simp] theorem stores_nil : stores [] [] s = some s := rfl
@[simp] theorem stores_cons {t : T} {ts : List T} {v : Val} {vs : List Val} : stores (t :: ts) (v :: vs) s = (store t v s).bind (stores ts vs) := rfl
@[simp] theorem mapM_nil {f : Val → Option Val} : List.mapM f [] = some [] := rfl
theorem mapM_cons {f : Val → Option Val} {v : Val} {vs : List Val} : List.mapM f (v :: vs) = (f v).bind fun x => (List.mapM f vs).bind fun xs => some (x :: xs) := by
  rw [List.mapM_cons]; rfl
@[simp] theorem tru_bool {b : Bool} : tru (.bool b) = some b := rfl
theorem run_eq {F : List FDef} {n i : Nat} {d : FDef} {vs : List Val} {mu : List Obj} (hi : F[i]? = some d) (hl : vs.length = d.params.length) :
    run G F (n + 1) i vs mu = match exs G (run G F n) d.body ⟨vs.map .val ++ List.replicate (d.names.length - vs.length) .none, mu⟩ with
      | .ret v s => .ok v s.mu
      | .next s => .ok .none s.mu
      | .exc e s => .exc e s.mu
      | _ => .bad := by
  show (match F[i]? with | some d => _ | none => _) = _
  rw [hi]
  exact if_pos hl
theorem run_ret {F : List FDef} {n i : Nat} {d : FDef} {vs : List Val} {mu : List Obj} {P : Val → List Obj → Prop} (hi : F[i]? = some d) (hl : vs.length = d.params.length)
    (h : ∃ v s', exs G (run G F n) d.body ⟨vs.map .val ++ List.replicate (d.names.length - vs.length) .none, mu⟩ = .ret v s' ∧ P v s'.mu) : ∃ v mu', run G F (n + 1) i vs mu = .ok v mu' ∧ P v mu' := by
  obtain ⟨v, s', h1, h2⟩ := h
  exact ⟨v, s'.mu, by rw [run_eq hi hl, h1], h2⟩
end
section
variable {a b : Int} {x y : Val} {u v : Tx} {us vs : List Val}
@[simp] theorem opB_addI : opB .add (.int a) (.int b) = some (.int (a + b)) := rfl
@[simp] theorem opB_addS : opB .add (.str u) (.str v) = if u.length + v.length ≤ line then some (.str (u ++ v)) else none := rfl
@[simp] theorem opB_addL : opB .add (.lst us) (.lst vs) = if us.length + vs.length ≤ line then some (.lst (us ++ vs)) else none := rfl
@[simp] theorem opB_addT : opB .add (.tup us) (.tup vs) = if us.length + vs.length ≤ line then some (.tup (us ++ vs)) else none := rfl
@[simp] theorem opB_sub : opB .sub (.int a) (.int b) = some (.int (a - b)) := rfl
@[simp] theorem opB_mulI : opB .mul (.int a) (.int b) = if bits a + bits b < 1000000 then some (.int (a * b)) else none := rfl
@[simp] theorem opB_mulS : opB .mul (.str u) (.int b) = if u.length * b.toNat ≤ line ∧ -(2 ^ 62) ≤ b ∧ b < 2 ^ 62 then some (.str (List.replicate b.toNat u).flatten) else none := rfl
@[simp] theorem opB_mulL : opB .mul (.lst us) (.int b) = if us.length * b.toNat ≤ line ∧ -(2 ^ 62) ≤ b ∧ b < 2 ^ 62 then some (.lst (List.replicate b.toNat us).flatten) else none := rfl
@[simp] theorem opB_fdiv : opB .fdiv (.int a) (.int b) = if 0 < b ∧ bits b < 9000 then some (.int (a / b)) else none := rfl
@[simp] theorem opB_mod : opB .mod (.int a) (.int b) = if 0 < b then some (.int (a % b)) else none := rfl
@[simp] theorem opB_pow : opB .pow (.int a) (.int b) = if 0 ≤ b ∧ (bits a + 1) * b.toNat ≤ 1000000 then some (.int (a ^ b.toNat)) else none := rfl
@[simp] theorem opB_band : opB .band (.int a) (.int b) = some (.int (PySem.Builtin.bitAnd a b)) := rfl
@[simp] theorem opA_addI : opA .add (.int a) (.int b) = some (.int (a + b)) := rfl
@[simp] theorem opC_lt : opC .lt (.int a) (.int b) = some (decide (a < b)) := rfl
@[simp] theorem opC_le : opC .le (.int a) (.int b) = some (decide (a ≤ b)) := rfl
@[simp] theorem opC_gt : opC .gt (.int a) (.int b) = some (decide (b < a)) := rfl
@[simp] theorem opC_ge : opC .ge (.int a) (.int b) = some (decide (b ≤ a)) := rfl
@[simp] theorem opC_is : opC .is_ x y = sameV x y := rfl
@[simp] theorem opC_isNot : opC .isNot x y = (sameV x y).map (!·) := rfl
@[simp] theorem opC_eq : opC .eq x y = if isData 16 x && isData 16 y then some (veq x y) else none := rfl
@[simp] theorem opC_ne : opC .ne x y = if isData 16 x && isData 16 y then some (!veq x y) else none := rfl
@[simp] theorem same_bool {p q : Bool} : sameV (.bool p) (.bool q) = some (p == q) := rfl
@[simp] theorem data_int {n : Nat} : isData n (.int a) = true := by cases n <;> rfl
@[simp] theorem data_str {n : Nat} : isData n (.str u) = true := by cases n <;> rfl
@[simp] theorem data_bool {n : Nat} {p : Bool} : isData n (.bool p) = true := by cases n <;> rfl
@[simp] theorem data_none {n : Nat} : isData n .none = true := by cases n <;> rfl
@[simp] theorem data_tup {n : Nat} : isData (n + 1) (.tup us) = isDatas n us := rfl
@[simp] theorem data_lst {n : Nat} : isData (n + 1) (.lst us) = isDatas n us := rfl
@[simp] theorem datas_nil {n : Nat} : isDatas n [] = true := by cases n <;> rfl
@[simp] theorem datas_cons {n : Nat} : isDatas n (x :: us) = (isData n x && isDatas n us) := by cases n <;> rfl
@[simp] theorem veq_int : veq (.int a) (.int b) = (a == b) := rfl
@[simp] theorem veq_str : veq (.str u) (.str v) = (u == v) := rfl
@[simp] theorem veq_tup : veq (.tup us) (.tup vs) = veqs us vs := rfl
@[simp] theorem veq_lst : veq (.lst us) (.lst vs) = veqs us vs := rfl
@[simp] theorem veqs_nil : veqs [] [] = true := rfl
@[simp] theorem veqs_cons : veqs (x :: us) (y :: vs) = (veq x y && veqs us vs) := rfl
@[simp] theorem opF_lenS : opF .len [.str u] = if u.length ≤ line then some (.int u.length) else none := rfl
@[simp] theorem opF_lenL : opF .len [.lst us] = some (.int us.length) := rfl
@[simp] theorem opF_lenR : opF .len [.rol us] = some (.int us.length) := rfl
@[simp] theorem opF_lenT : opF .len [.tup us] = some (.int us.length) := rfl
@[simp] theorem opF_isinstC {c : PySem.Str} {subs nots : List PySem.Str} : opF .isinstance [x, .cls c subs nots] = (isInstC x subs nots).map .bool := rfl
@[simp] theorem rd_exc {s : MS} {c : PySem.Str} {ns : List PySem.Str} : s.rd (.exc c ns us) = some (.exc c ns us) := rfl
@[simp] theorem rd_cls {s : MS} {c : PySem.Str} {ns ms : List PySem.Str} : s.rd (.cls c ns ms) = some (.cls c ns ms) := rfl
@[simp] theorem opF_isinstance {t : Ty} : opF .isinstance [x, .ty t] = (isInst x t).map .bool := rfl
@[simp] theorem opF_max : opF .max2 [.int a, .int b] = some (.int (if b > a then b else a)) := rfl
@[simp] theorem opF_min : opF .min2 [.int a, .int b] = some (.int (if b < a then b else a)) := rfl
@[simp] theorem opM_strip {cs : Tx} : opM .strip (.str u) [.str cs] = if u.length ≤ line then some (.str (stripL cs u)) else none := rfl
@[simp] theorem opM_joinL : opM .join (.str u) [.lst us] = (strsOf us).bind fun xs => if (xs.map (·.length)).sum + xs.length * u.length ≤ line then some (.str (joinL u xs)) else none := rfl
@[simp] theorem inst_str {t : Ty} : isInst (.str u) t = some (t == .str) := rfl
@[simp] theorem inst_int {t : Ty} : isInst (.int a) t = some (t == .int) := rfl
@[simp] theorem inst_tup {t : Ty} : isInst (.tup us) t = some (t == .tuple) := rfl
@[simp] theorem inst_lst {t : Ty} : isInst (.lst us) t = some (t == .list) := rfl
@[simp] theorem inst_none {t : Ty} : isInst .none t = some false := rfl
@[simp] theorem inst_bool {t : Ty} {p : Bool} : isInst (.bool p) t = some (t == .bool || t == .int) := rfl
@[simp] theorem ix_lst : opIx (.lst us) (.int a) = atI us a := rfl
@[simp] theorem ix_rol : opIx (.rol us) (.int a) = atI us a := rfl
@[simp] theorem ix_tup : opIx (.tup us) (.int a) = atI us a := rfl
@[simp] theorem ix_str : opIx (.str u) (.int a) = if u.length ≤ line then (atI u a).map fun c => .str [c] else none := rfl
@[simp] theorem sl_lst {lo hi : Option Int} : opSl (.lst us) lo hi = some (.lst (cut us lo hi)) := rfl
@[simp] theorem sl_str {lo hi : Option Int} : opSl (.str u) lo hi = if u.length ≤ line then some (.str (cut u lo hi)) else none := rfl
theorem atI_nat {α : Type} {xs : List α} {i : Nat} (h : i < xs.length) : atI xs (i : Int) = xs[i]? := by
  unfold atI L2.atI L2.ixN
  first | (simp [h]; done) | (split <;> simp_all <;> omega)
theorem sIx_none {n d : Nat} : sIx n d none = d := rfl
theorem cut_take {α : Type} {xs : List α} {k : Nat} : cut xs none (some (k : Int)) = xs.take k := by
  unfold cut
  rw [show sIx xs.length xs.length (some (k : Int)) = min k xs.length from HT.sIx_nat _ _ _, show sIx xs.length 0 none = 0 from rfl, List.drop_zero, Nat.sub_zero]
  by_cases h : k ≤ xs.length
  · rw [Nat.min_eq_left h]
  · rw [Nat.min_eq_right (by omega), List.take_length, List.take_of_length_le (by omega)]
theorem cut_drop {α : Type} {xs : List α} {k : Nat} : cut xs (some (k : Int)) none = xs.drop k := by
  unfold cut
  rw [show sIx xs.length 0 (some (k : Int)) = min k xs.length from HT.sIx_nat _ _ _, show sIx xs.length xs.length none = xs.length from rfl]
  by_cases h : k ≤ xs.length
  · rw [Nat.min_eq_left h, List.take_of_length_le (by simp)]
  · rw [Nat.min_eq_right (by omega), Nat.sub_self, List.drop_of_length_le (by omega), List.drop_of_length_le (by omega)]; rfl
theorem cut_mid {α : Type} {xs : List α} {a b : Nat} (h : b ≤ xs.length) : cut xs (some (a : Int)) (some (b : Int)) = (xs.drop a).take (b - a) := by
  unfold cut
  rw [show sIx xs.length 0 (some (a : Int)) = min a xs.length from HT.sIx_nat _ _ _, show sIx xs.length xs.length (some (b : Int)) = min b xs.length from HT.sIx_nat _ _ _, Nat.min_eq_left h]
  by_cases ha : a ≤ xs.length
  · rw [Nat.min_eq_left ha]
  · rw [Nat.min_eq_right (by omega), show b - xs.length = 0 by omega, show b - a = 0 by omega]; simp
end
theorem ok_deps {src : Src} (hd : src.deps = []) (mu : List Obj) : srcOk src mu := fun d h => by rw [hd] at h; cases h
theorem srcOk_nil {items : List Val} {mu : List Obj} : srcOk ⟨items, []⟩ mu := fun d h => by cases h
theorem forL_post {src : Src} {t : T} {body : MS → Fl} (hd : src.deps = []) {Inv : Nat → MS → Prop} {Post : Fl → Prop} : ∀ (items : List Val) (n : Nat) (s : MS), Inv n s →
    (∀ i v s, items[i]? = some v → Inv (n + i) s → ∃ s1, store t v s = some s1 ∧ match body s1 with
      | .next s2 => Inv (n + i + 1) s2
      | .cont s2 => Inv (n + i + 1) s2
      | .brk s2 => Post (.next s2)
      | .ret v s2 => Post (.ret v s2)
      | .exc e s2 => Post (.exc e s2)
      | .bad => False) → (∀ s, Inv (n + items.length) s → Post (.next s)) → Post (forL src t body items s)
  | [], n, s, h0, _, he => by
    unfold forL
    rw [if_pos (ok_deps hd _)]
    exact he s h0
  | v :: vs, n, s, h0, st, he => by
    unfold forL
    rw [if_pos (ok_deps hd _)]
    obtain ⟨s1, e1, q⟩ := st 0 v s rfl h0
    rw [e1]
    have rest : ∀ s2, Inv (n + 0 + 1) s2 → Post (forL src t body vs s2) := fun s2 h2 =>
      forL_post hd vs (n + 1) s2 h2 (fun i v s hi h => by
        have := st (i + 1) v s (by simpa using hi) (by rw [show n + (i + 1) = n + 1 + i by omega]; exact h)
        rw [show n + (i + 1) + 1 = n + 1 + i + 1 by omega] at this
        exact this) fun s h => he s (by rw [List.length_cons, show n + (vs.length + 1) = n + 1 + vs.length by omega]; exact h)
    show Post ((body s1).loop _)
    cases hb : body s1 with
    | next s2 => rw [hb] at q; exact rest s2 q
    | cont s2 => rw [hb] at q; exact rest s2 q
    | brk s2 => rw [hb] at q; exact q
    | ret v s2 => rw [hb] at q; exact q
    | exc e s2 => rw [hb] at q; exact q
    | bad => rw [hb] at q; exact q.elim
theorem whileN_mono {c : MS → Out Bool} {body : MS → Fl} : ∀ (n : Nat) (s : MS), whileN c body n s ≠ .bad → ∀ k, whileN c body (n + k) s = whileN c body n s
  | 0, s, h, _ => absurd rfl h
  | n + 1, s, h, k => by
    rw [show n + 1 + k = (n + k) + 1 by omega]
    unfold whileN at h ⊢
    cases hc : c s with
    | bad => rw [hc] at h; exact absurd rfl h
    | exc e s' => rfl
    | ok b s' =>
      rw [hc] at h
      simp only [Out.fl_ok] at h ⊢
      cases b with
      | false => rfl
      | true =>
        simp only [if_true] at h ⊢
        cases hb : body s' with
        | next s2 => rw [hb] at h; exact whileN_mono n s2 h k
        | cont s2 => rw [hb] at h; exact whileN_mono n s2 h k
        | brk s2 => rfl
        | ret v s2 => rfl
        | exc e s2 => rfl
        | bad => rfl
theorem whileL_eq {c : MS → Out Bool} {body : MS → Fl} {s : MS} {n : Nat} (h : whileN c body n s ≠ .bad) : whileL c body s = whileN c body n s := by
  unfold whileL
  have he : ∃ n, whileN c body n s ≠ .bad := ⟨n, h⟩
  rw [dif_pos he]
  have hc := Classical.choose_spec he
  rw [← whileN_mono _ s h (Classical.choose he), ← whileN_mono _ s hc n, Nat.add_comm]
theorem whileN_post {c : MS → Out Bool} {body : MS → Fl} {Inv : Nat → MS → Prop} {Post : Fl → Prop} (hp : ¬ Post .bad)
    (st : ∀ n s, Inv n s → (∃ s1, c s = .ok false s1 ∧ Post (.next s1)) ∨ ∃ s1, c s = .ok true s1 ∧ match body s1 with
      | .next s2 => ∃ m, m < n ∧ Inv m s2
      | .cont s2 => ∃ m, m < n ∧ Inv m s2
      | .brk s2 => Post (.next s2)
      | .ret v s2 => Post (.ret v s2)
      | .exc e s2 => Post (.exc e s2)
      | .bad => False) : ∀ (n : Nat) (s : MS), Inv n s → ∃ k, Post (whileN c body k s) := by
  intro n
  induction n using Nat.strongRecOn with
  | ind n ih =>
    intro s h
    rcases st n s h with ⟨s1, e1, q⟩ | ⟨s1, e1, q⟩
    · refine ⟨1, ?_⟩
      unfold whileN
      rw [e1]
      exact q
    · cases hb : body s1 with
      | next s2 =>
        rw [hb] at q
        obtain ⟨m, hm, q⟩ := q
        obtain ⟨k, q⟩ := ih m hm s2 q
        refine ⟨k + 1, ?_⟩
        unfold whileN
        rw [e1]
        simp only [Out.fl_ok, if_true, hb]
        exact q
      | cont s2 =>
        rw [hb] at q
        obtain ⟨m, hm, q⟩ := q
        obtain ⟨k, q⟩ := ih m hm s2 q
        refine ⟨k + 1, ?_⟩
        unfold whileN
        rw [e1]
        simp only [Out.fl_ok, if_true, hb]
        exact q
      | brk s2 => rw [hb] at q; refine ⟨1, ?_⟩; unfold whileN; rw [e1]; simp only [Out.fl_ok, if_true, hb]; exact q
      | ret v s2 => rw [hb] at q; refine ⟨1, ?_⟩; unfold whileN; rw [e1]; simp only [Out.fl_ok, if_true, hb]; exact q
      | exc v s2 => rw [hb] at q; refine ⟨1, ?_⟩; unfold whileN; rw [e1]; simp only [Out.fl_ok, if_true, hb]; exact q
      | bad => rw [hb] at q; exact q.elim
theorem whileL_post {c : MS → Out Bool} {body : MS → Fl} {Inv : Nat → MS → Prop} {Post : Fl → Prop} (hp : ¬ Post .bad) {n : Nat} {s : MS} (h0 : Inv n s)
    (st : ∀ n s, Inv n s → (∃ s1, c s = .ok false s1 ∧ Post (.next s1)) ∨ ∃ s1, c s = .ok true s1 ∧ match body s1 with
      | .next s2 => ∃ m, m < n ∧ Inv m s2
      | .cont s2 => ∃ m, m < n ∧ Inv m s2
      | .brk s2 => Post (.next s2)
      | .ret v s2 => Post (.ret v s2)
      | .exc e s2 => Post (.exc e s2)
      | .bad => False) : Post (whileL c body s) := by
  obtain ⟨k, q⟩ := whileN_post hp st n s h0
  rw [whileL_eq (n := k) fun e => hp (e ▸ q)]
  exact q
theorem lcL_map {src : Src} (hd : src.deps = []) {own : List Nat} {f : Val → MS → Out (Option Val)} {P : MS → Prop} {g : Val → Val} (hw : ∀ s, P s → P (wipeS own s)) : ∀ (items : List Val) (acc : List Val) (s : MS), P s →
    acc.length + items.length ≤ line → (∀ v s, v ∈ items → P s → ∃ s', f v s = .ok (some (g v)) s' ∧ P s') → ∃ s', lcL src own f acc items s = .ok (acc ++ items.map g) s' ∧ P s'
  | [], acc, s, h, _, _ => ⟨s, by unfold lcL; rw [if_pos (ok_deps hd _)]; simp, h⟩
  | v :: vs, acc, s, h, hl, st => by
    obtain ⟨s1, e1, h1⟩ := st v (wipeS own s) (.head _) (hw s h)
    obtain ⟨s2, e2, h2⟩ := lcL_map hd hw vs (acc ++ [g v]) s1 h1 (by simp only [List.length_append, List.length_cons, List.length_nil] at hl ⊢; omega) fun v s hv h => st v s (.tail _ hv) h
    refine ⟨s2, ?_, h2⟩
    unfold lcL
    rw [if_pos ⟨ok_deps hd _, by simp only [List.length_cons] at hl; omega⟩, e1]
    show lcL src own f (acc ++ [g v]) vs s1 = _
    rw [e2]
    simp
theorem bits_lt {a : Int} {k : Nat} (h : a.natAbs < 2 ^ k) : bits a ≤ k := by
  unfold bits
  by_cases h0 : a.natAbs = 0
  · rw [h0]; exact Nat.zero_le _
  · exact Nat.le_of_lt ((Nat.log2_lt h0).mpr h)
end M
end F_M6
section F_W1
namespace Wd
abbrev Tx := List Nat
def at0 (a : Tx) (i : Nat) : Nat := a[i]?.getD 0
def W (h a : Tx) (i : Nat) : Nat := if i < h.length then at0 h i else at0 a ((i - h.length) % a.length)
def EP (x : Nat → Nat) (c q : Nat) : Prop := ∀ i, c ≤ i → x (i + q) = x i
def pref (x : Nat → Nat) (c : Nat) : Tx := (List.range c).map x
def seg (x : Nat → Nat) (c q : Nat) : Tx := (List.range q).map fun k => x (c + k)
def rep (k : Nat) (a : Tx) : Tx := (List.replicate k a).flatten
structure Canon (x : Nat → Nat) (c q : Nat) : Prop where
  pos : 1 ≤ q
  ep : EP x c q
  mn : ∀ c' q', 1 ≤ q' → EP x c' q' → q ≤ q'
  hd : c = 0 ∨ x (c - 1) ≠ x (c - 1 + q)
theorem EP.mono {x : Nat → Nat} {c c' q : Nat} (h : EP x c q) (hc : c ≤ c') : EP x c' q := fun i hi => h i (Nat.le_trans hc hi)
theorem EP.mul {x : Nat → Nat} {c q : Nat} (h : EP x c q) : ∀ k, EP x c (q * k)
  | 0 => fun i _ => by simp
  | k + 1 => fun i hi => by
    rw [Nat.mul_succ, ← Nat.add_assoc, h _ (by omega), EP.mul h k i hi]
theorem EP.mod {x : Nat → Nat} {c m n : Nat} (hm : EP x c m) (hn : EP x c n) : EP x c (n % m) := fun i hi => by
  rw [← EP.mul hm (n / m) (i + n % m) (by omega), Nat.add_assoc, Nat.mod_add_div, hn i hi]
theorem EP.gcd {x : Nat → Nat} {c : Nat} (m n : Nat) : EP x c m → EP x c n → EP x c (Nat.gcd m n) := by
  induction m, n using Nat.gcd.induction with
  | H0 n => intro _ h; rw [Nat.gcd_zero_left]; exact h
  | H1 m n hm ih => intro h1 h2; rw [Nat.gcd_rec]; exact ih (h1.mod h2) h1
section
variable {x : Nat → Nat} {c q c' s : Nat}
theorem Canon.dvd (h : Canon x c q) (hs : EP x c' s) (h1 : 1 ≤ s) : q ∣ s := by
  have e1 := h.ep.mono (Nat.le_max_left c c')
  have e2 := hs.mono (Nat.le_max_right c c')
  have e3 := EP.gcd q s e1 e2
  have hg : 1 ≤ Nat.gcd q s := Nat.gcd_pos_of_pos_left _ h.pos
  have h4 := h.mn _ _ hg e3
  have h5 := Nat.le_of_dvd h.pos (Nat.gcd_dvd_left q s)
  have h6 : Nat.gcd q s = q := Nat.le_antisymm h5 h4
  rw [← h6]
  exact Nat.gcd_dvd_right q s
theorem Canon.no (h : Canon x c q) (hs : EP x c' s) (h1 : 1 ≤ s) (hc : 1 ≤ c) (e : x (c - 1 + s) = x (c - 1)) : False := by
  obtain ⟨t, rfl⟩ := h.dvd hs h1
  have hq := h.pos
  rcases h.hd with z | z
  · omega
  · apply z
    cases t with
    | zero => omega
    | succ t =>
      rw [← e, Nat.mul_succ, Nat.add_comm (q * t) q, ← Nat.add_assoc]
      exact h.ep.mul t _ (by omega)
theorem Canon.le (h : Canon x c q) (hs : EP x c' s) (h1 : 1 ≤ s) : c ≤ c' ∧ q ≤ s := by
  refine ⟨?_, h.mn _ _ h1 hs⟩
  refine Nat.le_of_not_lt fun hc => ?_
  exact h.no hs h1 (by omega) (hs _ (by omega))
theorem Canon.uniq (h : Canon x c q) (h' : Canon x c' s) : c = c' ∧ q = s := by
  obtain ⟨a1, a2⟩ := h.le h'.ep h'.pos
  obtain ⟨b1, b2⟩ := h'.le h.ep h.pos
  omega
end
theorem at0_lt {a : Tx} {i : Nat} (h : i < a.length) : a[i]? = some (at0 a i) := by
  unfold at0; rw [List.getElem?_eq_getElem h]; rfl
theorem ext0 {a b : Tx} (hl : a.length = b.length) (h : ∀ i, i < a.length → at0 a i = at0 b i) : a = b := by
  refine List.ext_getElem? fun i => ?_
  by_cases hi : i < a.length
  · rw [at0_lt hi, at0_lt (hl ▸ hi), h i hi]
  · rw [List.getElem?_eq_none (by omega), List.getElem?_eq_none (by omega)]
@[simp] theorem pref_len {x : Nat → Nat} {c : Nat} : (pref x c).length = c := by simp [pref]
@[simp] theorem seg_len {x : Nat → Nat} {c q : Nat} : (seg x c q).length = q := by simp [seg]
theorem pref_at {x : Nat → Nat} {c i : Nat} (h : i < c) : at0 (pref x c) i = x i := by
  simp [at0, pref, h]
theorem seg_at {x : Nat → Nat} {c q i : Nat} (h : i < q) : at0 (seg x c q) i = x (c + i) := by
  simp [at0, seg, h]
theorem rep_len (k : Nat) (a : Tx) : (rep k a).length = k * a.length := by
  simp [rep, List.length_flatten]
theorem rep_get {a : Tx} : ∀ {k i : Nat}, i < k * a.length → at0 (rep k a) i = at0 a (i % a.length)
  | 0, i, h => by simp at h
  | k + 1, i, h => by
    have e : rep (k + 1) a = a ++ rep k a := by simp [rep, List.replicate_succ]
    unfold at0
    rw [e, List.getElem?_append]
    by_cases hi : i < a.length
    · rw [if_pos hi, Nat.mod_eq_of_lt hi]
    · rw [if_neg hi, Nat.mod_eq_sub_mod (by omega)]
      exact rep_get (k := k) (by rw [Nat.succ_mul] at h; omega)
theorem at0_app {a b : Tx} {i : Nat} : at0 (a ++ b) i = if i < a.length then at0 a i else at0 b (i - a.length) := by
  unfold at0; rw [List.getElem?_append]; split <;> rfl
theorem at0_take {a : Tx} {i n : Nat} (h : i < n) : at0 (a.take n) i = at0 a i := by
  unfold at0; rw [List.getElem?_take, if_pos h]
theorem at0_drop {a : Tx} {i n : Nat} : at0 (a.drop n) i = at0 a (n + i) := by
  unfold at0; rw [List.getElem?_drop]
theorem W_ep {h a : Tx} : EP (W h a) h.length a.length := fun i hi => by
  unfold W
  rw [if_neg (by omega), if_neg (by omega), show i + a.length - h.length = (i - h.length) + a.length by omega, Nat.add_mod_right]
theorem W_head {h a : Tx} {i : Nat} (hi : i < h.length) : W h a i = at0 h i := if_pos hi
theorem W_tail {h a : Tx} {i : Nat} : W h a (h.length + i) = at0 a (i % a.length) := by
  unfold W; rw [if_neg (by omega), Nat.add_sub_cancel_left]
theorem W_cut {x : Nat → Nat} {c q : Nat} (e : EP x c q) (hq : 1 ≤ q) : W (pref x c) (seg x c q) = x := by
  funext i
  by_cases hi : i < c
  · rw [W_head (by simpa using hi), pref_at hi]
  · obtain ⟨k, rfl⟩ : ∃ k, i = c + k := ⟨i - c, by omega⟩
    have := @W_tail (pref x c) (seg x c q) k
    rw [pref_len, seg_len] at this
    rw [this, seg_at (Nat.mod_lt _ hq), ← e.mul (k / q) _ (by omega), Nat.add_assoc, Nat.mod_add_div]
theorem W_pref {h a : Tx} : pref (W h a) h.length = h := ext0 (by simp) fun i hi => by
  have hi : i < h.length := by simpa using hi
  rw [pref_at hi, W_head hi]
theorem W_seg {h a : Tx} : seg (W h a) h.length a.length = a := ext0 (by simp) fun i hi => by
  have hi : i < a.length := by simpa using hi
  rw [seg_at hi, W_tail, Nat.mod_eq_of_lt hi]
theorem text_eq {h a : Tx} {n : Nat} (ha : 1 ≤ a.length) : (h ++ rep (n / a.length + 1) a).take n = pref (W h a) n := by
  have hl : n < (n / a.length + 1) * a.length := by
    have := Nat.div_add_mod n a.length
    have := Nat.mod_lt n ha
    rw [Nat.succ_mul, Nat.mul_comm]
    omega
  refine ext0 ?_ fun i hi => ?_
  · rw [List.length_take, List.length_append, rep_len, pref_len]; omega
  · rw [List.length_take, List.length_append, rep_len] at hi
    rw [at0_take (by omega), at0_app, pref_at (by omega)]
    unfold W
    split
    · rfl
    · rw [rep_get (by omega)]
theorem pref_take {x : Nat → Nat} {n k : Nat} (h : k ≤ n) : (pref x n).take k = pref x k := ext0 (by simp; omega) fun i hi => by
  have hi : i < k := by simp at hi; omega
  rw [at0_take hi, pref_at (by omega), pref_at hi]
theorem pref_seg {x : Nat → Nat} {n k m : Nat} (h : k + m ≤ n) : ((pref x n).drop k).take m = seg x k m := ext0 (by simp; omega) fun i hi => by
  have hi : i < m := by simp at hi; omega
  rw [at0_take hi, at0_drop, pref_at (by omega), seg_at hi]
def tells (x : Nat → Nat) (c q : Nat) : Prop := pref (W (pref x c) (seg x c q)) 200 = pref x 200
theorem tells_at {x : Nat → Nat} {c q : Nat} (h : tells x c q) {i : Nat} (hi : i < 200) : W (pref x c) (seg x c q) i = x i := by
  rw [← pref_at (x := W _ _) hi, h, pref_at hi]
theorem tells_ep {x : Nat → Nat} {c q : Nat} (h : tells x c q) {i : Nat} (hc : c ≤ i) (hi : i + q < 200) : x (i + q) = x i := by
  rw [← tells_at h hi, ← tells_at h (show i < 200 by omega)]
  have := @W_ep (pref x c) (seg x c q) i (by simpa using hc)
  rwa [seg_len] at this
theorem tells_of {x : Nat → Nat} {c q : Nat} (e : EP x c q) (hq : 1 ≤ q) : tells x c q := by
  unfold tells; rw [W_cut e hq]
theorem tells_full {x : Nat → Nat} {c q F A : Nat} (e : EP x F A) (hF : F ≤ 12) (hA : 1 ≤ A) (hA2 : A ≤ 26) (hc : c ≤ 12) (hq : q ≤ 26) (h : tells x c q) : EP x 12 q := fun i hi => by
  have e := e.mono hF
  have hm := Nat.mod_lt (i - 12) hA
  have hd := Nat.mod_add_div (i - 12) A
  have e1 : x i = x (12 + (i - 12) % A) := by
    rw [← e.mul ((i - 12) / A) (12 + (i - 12) % A) (by omega)]
    congr 1; omega
  have e2 : x (i + q) = x (12 + (i - 12) % A + q) := by
    rw [← e.mul ((i - 12) / A) (12 + (i - 12) % A + q) (by omega)]
    congr 1; omega
  rw [e1, e2]
  exact tells_ep h (by omega) (by omega)
theorem least_is {x : Nat → Nat} {c q c0 q0 F A : Nat} (e : EP x F A) (hF : F ≤ 12) (hA : 1 ≤ A) (hA2 : A ≤ 26) (hc : c ≤ 12) (hq1 : 1 ≤ q) (hq : q ≤ 26) (h : tells x c q) (cn : Canon x c0 q0) : c0 ≤ c ∧ q0 ≤ q := by
  have e12 := tells_full e hF hA hA2 hc hq h
  refine ⟨Nat.le_of_not_lt fun hlt => ?_, cn.mn _ _ hq1 e12⟩
  have := (cn.le e hA).1
  exact cn.no e12 hq1 (by omega) (tells_ep h (by omega) (by omega))
def shr (a : Tx) (g : Nat) : Prop := g ∣ a.length ∧ rep (a.length / g) (a.take g) = a
structure Short (a : Tx) (p : Nat) : Prop where
  pos : 1 ≤ p
  sh : shr a p
  mn : ∀ g, 1 ≤ g → g < p → ¬ shr a g
theorem Short.le {a : Tx} {p : Nat} (h : Short a p) (ha : 1 ≤ a.length) : p ≤ a.length := Nat.le_of_dvd ha h.sh.1
theorem Short.W {a h : Tx} {p : Nat} (s : Short a p) (ha : 1 ≤ a.length) : W h (a.take p) = W h a := by
  funext i
  unfold Wd.W
  split
  · rfl
  · have hp := s.le ha
    have hl : (a.take p).length = p := by simp; omega
    have h1 : a.length / p * p = a.length := Nat.div_mul_cancel s.sh.1
    have hm : (i - h.length) % a.length < a.length := Nat.mod_lt _ ha
    have h2 : (i - h.length) % a.length < a.length / p * (a.take p).length := by rw [hl, h1]; exact hm
    have h3 := rep_get h2
    rw [s.sh.2, hl] at h3
    rw [h3, hl, Nat.mod_mod_of_dvd _ s.sh.1]
theorem Short.mn2 {a h : Tx} {p : Nat} (s : Short a p) (ha : 1 ≤ a.length) : ∀ c' q', 1 ≤ q' → EP (Wd.W h a) c' q' → p ≤ q' := by
  intro c' q' h1 e
  have e2 : EP (Wd.W h a) (max h.length c') (Nat.gcd q' a.length) := EP.gcd _ _ (e.mono (by omega)) (W_ep.mono (by omega))
  have hg : 1 ≤ Nat.gcd q' a.length := Nat.gcd_pos_of_pos_left _ h1
  have hgq : Nat.gcd q' a.length ≤ q' := Nat.le_of_dvd h1 (Nat.gcd_dvd_left _ _)
  have hga := Nat.gcd_dvd_right q' a.length
  generalize Nat.gcd q' a.length = g at *
  refine Nat.le_trans (Nat.le_of_not_lt fun hlt => s.mn g hg hlt ⟨hga, ?_⟩) hgq
  have hgl : g ≤ a.length := Nat.le_of_dvd ha hga
  have hl : (a.take g).length = g := by simp; omega
  have h1 : a.length / g * g = a.length := Nat.div_mul_cancel hga
  refine ext0 (by rw [rep_len, hl, h1]) fun i hi => ?_
  rw [rep_len, hl, h1] at hi
  rw [rep_get (by rw [hl, h1]; exact hi), hl, at0_take (Nat.mod_lt _ hg)]
  have far : ∀ j, j < a.length → at0 a j = Wd.W h a (h.length + j + a.length * c') := fun j hj => by
    rw [W_ep.mul c' _ (by omega), W_tail, Nat.mod_eq_of_lt hj]
  have big : c' ≤ a.length * c' := Nat.le_mul_of_pos_left c' ha
  have hm := Nat.mod_lt i hg
  rw [far _ (by omega), far _ hi]
  have := e2.mul (i / g) (h.length + i % g + a.length * c') (by omega)
  rw [← this]
  congr 1
  have := Nat.mod_add_div i g
  omega
theorem made {h a : Tx} {p m : Nat} (s : Short a p) (ha : 1 ≤ a.length) (hm : m ≤ h.length) (hs : ∀ t, t < m → at0 h (h.length - 1 - t) = at0 a (p - 1 - t % p))
    (hn : m = h.length ∨ at0 h (h.length - 1 - m) ≠ at0 a (p - 1 - m % p)) :
    Canon (W h a) (h.length - m) p ∧ h.take (h.length - m) = pref (W h a) (h.length - m) ∧ ((a.take p).drop (p - m % p) ++ (a.take p).take (p - m % p)) = seg (W h a) (h.length - m) p := by
  have hp := s.pos
  have hpa := s.le ha
  have hl : (a.take p).length = p := by simp; omega
  have hW : W h a = W h (a.take p) := (s.W ha).symm
  have ep : EP (W h a) h.length p := by rw [hW]; have := @W_ep h (a.take p); rwa [hl] at this
  have back : ∀ t, t < h.length → W h a (h.length - 1 - t + p) = if t < p then at0 a (p - 1 - t) else at0 h (h.length - 1 - (t - p)) := fun t ht => by
    split
    · rename_i htp
      rw [show h.length - 1 - t + p = h.length + (p - 1 - t) by omega, W_tail, Nat.mod_eq_of_lt (by omega)]
    · rename_i htp
      rw [show h.length - 1 - t + p = h.length - 1 - (t - p) by omega, W_head (by omega)]
  have wrap : ∀ t, t < h.length → (∀ u, u < t → at0 h (h.length - 1 - u) = at0 a (p - 1 - u % p)) → W h a (h.length - 1 - t + p) = at0 a (p - 1 - t % p) := fun t ht hu => by
    rw [back t ht]
    split
    · rename_i htp
      rw [Nat.mod_eq_of_lt htp]
    · rename_i htp
      rw [hu _ (by omega), ← Nat.mod_eq_sub_mod (by omega)]
  have e : EP (W h a) (h.length - m) p := fun i hi => by
    by_cases hh : h.length ≤ i
    · exact ep i hh
    · obtain ⟨t, ht, rfl⟩ : ∃ t, t < m ∧ i = h.length - 1 - t := ⟨h.length - 1 - i, by omega, by omega⟩
      rw [wrap t (by omega) fun u hu => hs u (by omega), W_head (by omega), hs t ht]
  refine ⟨⟨hp, e, s.mn2 ha, ?_⟩, ?_, ?_⟩
  · rcases hn with rfl | hn
    · exact .inl (by omega)
    · by_cases hz : m = h.length
      · exact .inl (by omega)
      · right
        intro q
        apply hn
        rw [← wrap m (by omega) hs, ← W_head (a := a) (by omega), show h.length - 1 - m = h.length - m - 1 by omega]
        exact q
  · refine ext0 (by simp) fun i hi => ?_
    have hi : i < h.length - m := by simp at hi; omega
    rw [at0_take hi, pref_at hi, W_head (by omega)]
  · have hmp := Nat.mod_lt m hp
    refine ext0 (by simp; omega) fun i hi => ?_
    have hi : i < p := by simp at hi; omega
    rw [seg_at hi, at0_app]
    have hmul : m ≤ p * m := Nat.le_mul_of_pos_left m hp
    have far : W h a (h.length - m + i) = at0 a ((p * m - m + i) % p) := by
      rw [← e.mul m _ (by omega), show h.length - m + i + p * m = h.length + (p * m - m + i) by omega, hW, W_tail, hl, at0_take (Nat.mod_lt _ hp)]
    have hdm := Nat.mod_add_div m p
    have e3 : (p * m - m + i) % p = (p - m % p + i) % p := by
      have : p * m - m + i + p * (m / p + 1) = (p - m % p + i) + p * m := by
        rw [Nat.mul_succ]; omega
      rw [← Nat.add_mul_mod_self_left (p * m - m + i) p (m / p + 1), this, Nat.add_mul_mod_self_left]
    rw [far, e3]
    have hk1 : p - m % p ≤ p := Nat.sub_le _ _
    generalize p - m % p = k at *
    simp only [List.length_drop, hl]
    split
    · rename_i h1
      rw [at0_drop, at0_take (by omega), Nat.mod_eq_of_lt (by omega)]
    · rename_i h1
      rw [at0_take (by omega), at0_take (by omega)]
      have : k + i - p < p := by omega
      rw [Nat.mod_eq_sub_mod (a := k + i) (by omega), Nat.mod_eq_of_lt this]
      congr 1
      omega
def ok01 (a : Tx) : Prop := ∀ c ∈ a, c = 48 ∨ c = 49
theorem ok01_at {a : Tx} (h : ok01 a) {i : Nat} (hi : i < a.length) : at0 a i = 48 ∨ at0 a i = 49 := by
  have := at0_lt hi
  exact h _ (List.mem_of_getElem? this)
theorem W_01 {h a : Tx} (hh : ok01 h) (ha : ok01 a) (hl : 1 ≤ a.length) (i : Nat) : W h a i = 48 ∨ W h a i = 49 := by
  unfold W
  split
  · exact ok01_at hh (by assumption)
  · exact ok01_at ha (Nat.mod_lt _ hl)
theorem pref_01 {x : Nat → Nat} (h : ∀ i, x i = 48 ∨ x i = 49) (c : Nat) : ok01 (pref x c) := fun d hd => by
  obtain ⟨i, _, rfl⟩ := List.mem_map.mp hd
  exact h i
theorem seg_01 {x : Nat → Nat} (h : ∀ i, x i = 48 ∨ x i = 49) (c q : Nat) : ok01 (seg x c q) := fun d hd => by
  obtain ⟨i, _, rfl⟩ := List.mem_map.mp hd
  exact h (c + i)
theorem W_rep {h a : Tx} {k : Nat} (ha : 1 ≤ a.length) (hk : 1 ≤ k) : W h (rep k a) = W h a := by
  funext i
  unfold W
  split
  · rfl
  · rw [rep_len]
    have : 0 < k * a.length := Nat.mul_pos hk ha
    rw [rep_get (Nat.mod_lt _ this), Nat.mod_mul_left_mod]
end Wd
end F_W1
section F_W2
namespace Wd
def cnt (x : Nat → Nat) : Nat → Nat
  | 0 => 0
  | k + 1 => cnt x k + if x k = 49 then 1 else 0
def onS (x y : Nat → Nat) (i : Nat) : Nat := if x i = 49 then y (cnt x i) else 48
theorem cnt_add (x : Nat → Nat) (m : Nat) : ∀ k, cnt x (m + k) = cnt x m + cnt (fun i => x (m + i)) k
  | 0 => rfl
  | k + 1 => by
    rw [← Nat.add_assoc]
    show cnt x (m + k) + (if x (m + k) = 49 then 1 else 0) = cnt x m + (cnt (fun i => x (m + i)) k + if x (m + k) = 49 then 1 else 0)
    rw [cnt_add x m k]; omega
theorem cnt_congr {x y : Nat → Nat} : ∀ {k : Nat}, (∀ i, i < k → x i = y i) → cnt x k = cnt y k
  | 0, _ => rfl
  | k + 1, h => by
    show cnt x k + _ = cnt y k + _
    rw [cnt_congr fun i hi => h i (by omega), h k (by omega)]
theorem cnt_le (x : Nat → Nat) : ∀ k, cnt x k ≤ k
  | 0 => Nat.le_refl _
  | k + 1 => by
    have := cnt_le x k
    show cnt x k + _ ≤ _
    split <;> omega
theorem cnt_mono (x : Nat → Nat) {m n : Nat} (h : m ≤ n) : cnt x m ≤ cnt x n := by
  obtain ⟨k, rfl⟩ := Nat.le.dest h
  rw [cnt_add]; omega
theorem cnt_lt (x : Nat → Nat) {m n : Nat} (h : m < n) (h1 : x m = 49) : cnt x m < cnt x n := by
  have : cnt x (m + 1) ≤ cnt x n := cnt_mono x h
  have e : cnt x (m + 1) = cnt x m + 1 := by show cnt x m + _ = _; rw [if_pos h1]
  omega
theorem count_take (a : Tx) : ∀ k, k ≤ a.length → (a.take k).count 49 = cnt (at0 a) k
  | 0, _ => by simp [cnt]
  | k + 1, h => by
    have e : a.take (k + 1) = a.take k ++ [at0 a k] := by
      rw [List.take_succ, at0_lt (by omega)]; rfl
    rw [e, List.count_append, count_take a k (by omega)]
    show _ = cnt (at0 a) k + _
    congr 1
    by_cases h1 : at0 a k = 49
    · rw [if_pos h1, h1]; rfl
    · rw [if_neg h1, List.count_cons, if_neg (by simpa using h1)]; rfl
theorem count_all (a : Tx) : a.count 49 = cnt (at0 a) a.length := by
  rw [← count_take a a.length (Nat.le_refl _), List.take_length]
theorem cnt_pref (x : Nat → Nat) (k : Nat) : (pref x k).count 49 = cnt x k := by
  rw [count_all, pref_len]
  exact cnt_congr fun i hi => pref_at hi
theorem cnt_per {x : Nat → Nat} {q : Nat} (e : EP x 0 q) : ∀ (r t : Nat), cnt x (q * r + t) = r * cnt x q + cnt x t
  | 0, t => by simp
  | r + 1, t => by
    rw [Nat.mul_succ, show q * r + q + t = q * r + (q + t) by omega, cnt_per e r (q + t), cnt_add x q t, Nat.succ_mul,
      cnt_congr (x := fun i => x (q + i)) (y := x) fun i _ => by rw [Nat.add_comm]; exact e i (Nat.zero_le _)]
    omega
theorem W_cnt_head {h a : Tx} {k : Nat} (hk : k ≤ h.length) : cnt (W h a) k = (h.take k).count 49 := by
  rw [count_take h k hk]
  exact cnt_congr fun i hi => W_head (by omega)
theorem W0_at {a : Tx} (i : Nat) : W [] a i = at0 a (i % a.length) := by have := @W_tail [] a i; simpa using this
theorem W_cnt_tail {h a : Tx} {r t : Nat} (ht : t ≤ a.length) : cnt (W h a) (h.length + (a.length * r + t)) = h.count 49 + r * a.count 49 + (a.take t).count 49 := by
  have e0 : EP (W [] a) 0 a.length := W_ep
  have base : ∀ t, t ≤ a.length → cnt (W [] a) t = (a.take t).count 49 := fun t ht => by
    rw [count_take a t ht]
    exact cnt_congr fun i hi => by rw [W0_at, Nat.mod_eq_of_lt (by omega)]
  rw [cnt_add, W_cnt_head (Nat.le_refl _), List.take_length, cnt_congr (y := W [] a) fun i _ => by rw [W_tail, W0_at], cnt_per e0, base t ht, base a.length (Nat.le_refl _), List.take_length]
  omega
theorem W_cnt_ge {h a : Tx} (h1 : 49 ∈ a) (k : Nat) : k ≤ cnt (W h a) (h.length + a.length * k) := by
  have := W_cnt_tail (h := h) (a := a) (r := k) (t := 0) (Nat.zero_le _)
  rw [Nat.add_zero] at this
  rw [this]
  have h2 : 1 ≤ a.count 49 := List.count_pos_iff.mpr h1
  have := Nat.mul_le_mul_left k h2
  omega
def LH (x : Nat → Nat) (m w H : Nat) : Prop := m ≤ H ∧ w ≤ cnt x H ∧ (H = m ∨ cnt x (H - 1) < w)
theorem LH.uniq {x : Nat → Nat} {m w H H' : Nat} (h : LH x m w H) (h' : LH x m w H') : H = H' := by
  have aux : ∀ {A B : Nat}, LH x m w A → LH x m w B → A ≤ B := fun {A B} p q => by
    refine Nat.le_of_not_lt fun hlt => ?_
    rcases p.2.2 with e | e
    · have := q.1; omega
    · have := cnt_mono x (show B ≤ A - 1 by omega)
      have := q.2.1
      omega
  exact Nat.le_antisymm (aux h h') (aux h' h)
theorem LH.le {x : Nat → Nat} {m w H k : Nat} (h : LH x m w H) (hk : m ≤ k) (hc : w ≤ cnt x k) : H ≤ k := by
  refine Nat.le_of_not_lt fun hlt => ?_
  rcases h.2.2 with e | e
  · omega
  · have := cnt_mono x (show k ≤ H - 1 by omega)
    omega
theorem on_ep {x y : Nat → Nat} {H q1 q2 w t : Nat} (ex : EP x H q1) (ey : EP y w q2) (hw : w ≤ cnt x H ∨ ∀ i, H ≤ i → x i ≠ 49)
    (hd : ∀ p, H ≤ p → cnt x (p + q1 * t) = cnt x p + q2 * ((cnt x (p + q1 * t) - cnt x p) / q2)) : EP (onS x y) H (q1 * t) := fun p hp => by
  unfold onS
  have e1 := ex.mul t p hp
  rw [e1]
  split
  · rename_i h1
    rcases hw with hw | hw
    · rw [hd p hp]
      exact ey.mul _ _ (Nat.le_trans hw (cnt_mono x hp))
    · exact absurd h1 (hw p hp)
  · rfl
theorem cnt_shift {x : Nat → Nat} {H q1 : Nat} (ex : EP x H q1) : ∀ d, cnt x (H + d + q1) + cnt x H = cnt x (H + d) + cnt x (H + q1)
  | 0 => by rw [Nat.add_zero]; omega
  | d + 1 => by
    have ih := cnt_shift ex d
    have e1 : cnt x (H + (d + 1) + q1) = cnt x (H + d + q1) + if x (H + d + q1) = 49 then 1 else 0 := by
      rw [show H + (d + 1) + q1 = (H + d + q1) + 1 by omega]; rfl
    have e2 : cnt x (H + (d + 1)) = cnt x (H + d) + if x (H + d) = 49 then 1 else 0 := rfl
    rw [e1, e2, ex (H + d) (by omega)]
    omega
theorem cnt_step {x : Nat → Nat} {H q1 : Nat} (ex : EP x H q1) {p : Nat} (hp : H ≤ p) : cnt x (p + q1) = cnt x p + (cnt x (H + q1) - cnt x H) := by
  obtain ⟨d, rfl⟩ := Nat.le.dest hp
  have := cnt_shift ex d
  have := cnt_mono x (show H ≤ H + q1 by omega)
  omega
theorem cnt_steps {x : Nat → Nat} {H q1 : Nat} (ex : EP x H q1) {p : Nat} (hp : H ≤ p) : ∀ t, cnt x (p + q1 * t) = cnt x p + t * (cnt x (H + q1) - cnt x H)
  | 0 => by simp
  | t + 1 => by
    rw [Nat.mul_succ, ← Nat.add_assoc, cnt_step ex (by omega), cnt_steps ex hp t, Nat.succ_mul]; omega
theorem per_ones {h a : Tx} {H : Nat} (hH : h.length ≤ H) : cnt (W h a) (H + a.length) - cnt (W h a) H = a.count 49 := by
  have e := cnt_step (x := W h a) (H := h.length) W_ep hH
  have e2 := W_cnt_tail (h := h) (a := a) (r := 1) (t := 0) (Nat.zero_le _)
  have e3 := W_cnt_head (h := h) (a := a) (Nat.le_refl _)
  rw [List.take_length] at e3
  simp at e2
  omega
theorem on_EP {h a : Tx} {y : Nat → Nat} {H w q2 t : Nat} (hH : h.length ≤ H) (ey : EP y w q2) (hw : w ≤ cnt (W h a) H ∨ ∀ i, H ≤ i → W h a i ≠ 49) (ht : q2 ∣ t * a.count 49) : EP (onS (W h a) y) H (a.length * t) := by
  refine on_ep (W_ep.mono hH) ey hw fun p hp => ?_
  rw [cnt_steps (W_ep.mono hH) hp, per_ones hH, Nat.add_sub_cancel_left, Nat.mul_div_cancel' ht]
theorem no_ones {h a : Tx} (h1 : 49 ∉ a) (ha : 1 ≤ a.length) {i : Nat} (hi : h.length ≤ i) : W h a i ≠ 49 := fun e => by
  unfold W at e
  rw [if_neg (by omega)] at e
  have hm := Nat.mod_lt (i - h.length) ha
  have := at0_lt hm
  rw [e] at this
  exact h1 (List.mem_of_getElem? this)
theorem onS_01 {x y : Nat → Nat} (hy : ∀ i, y i = 48 ∨ y i = 49) (i : Nat) : onS x y i = 48 ∨ onS x y i = 49 := by
  unfold onS
  split
  · exact hy _
  · exact .inl rfl
theorem times_dvd {e q : Nat} (hq : 1 ≤ q) : q ∣ q / Nat.gcd e q * e := by
  have h1 := Nat.gcd_dvd_left e q
  have h2 := Nat.gcd_dvd_right e q
  obtain ⟨u, hu⟩ := h1
  have hg : 0 < Nat.gcd e q := Nat.gcd_pos_of_pos_right _ hq
  have : q / Nat.gcd e q * e = q * u := by
    conv => lhs; rhs; rw [hu]
    rw [← Nat.mul_assoc, Nat.div_mul_cancel h2]
  rw [this]
  exact Nat.dvd_mul_right _ _
theorem times_least {e q t : Nat} (hq : 1 ≤ q) (h : q ∣ t * e) : q / Nat.gcd e q ∣ t := by
  have hg : 0 < Nat.gcd e q := Nat.gcd_pos_of_pos_right _ hq
  have h2 := Nat.gcd_dvd_right e q
  have h1 := Nat.gcd_dvd_left e q
  have c : Nat.Coprime (q / Nat.gcd e q) (e / Nat.gcd e q) := by
    have := Nat.coprime_div_gcd_div_gcd (m := e) (n := q) hg
    exact this.symm
  refine c.dvd_of_dvd_mul_right ?_
  have e3 : t * (e / Nat.gcd e q) = t * e / Nat.gcd e q := by rw [Nat.mul_div_assoc _ h1]
  rw [e3]
  exact Nat.div_dvd_div h2 h
end Wd
end F_W2
section F_M8
set_option maxRecDepth 100000
namespace M
section
variable {G : List Val} {C : CallEnv} {s : MS}
@[simp] theorem ev_callD {f : Nat} {es : Es} {d : Int} : ev G C (.callD f es d) s = (evs G C es s).bind fun vs s => match C f (vs ++ [.int d]) s.mu with
    | .ok v mu => .ok v { s with mu := mu }
    | .exc e mu => .exc e { s with mu := mu }
    | .bad => .bad := rfl
@[simp] theorem ev_callK {f : Nat} {es ks : Es} {n : PySem.Str} : ev G C (.callK f es n ks) s = (evs G C es s).bind fun vs s => (evs G C ks s).bind fun ws s => match C f (vs ++ ws) s.mu with
    | .ok v mu => .ok v { s with mu := mu }
    | .exc e mu => .exc e { s with mu := mu }
    | .bad => .bad := rfl
@[simp] theorem opF_divmod {a b : Int} : opF .divmod [.int a, .int b] = if 0 < b ∧ b < 1073741824 then some (.tup [.int (a / b), .int (a % b)]) else none := rfl
@[simp] theorem opF_maxT {a b : Int} : opF .max2 [.tup [.int a, .int b]] = some (.int (if b > a then b else a)) := rfl
@[simp] theorem opF_all {vs : List Val} : opF .all_ [.lst vs] = (boolsOf vs).map fun bs => .bool (bs.all id) := rfl
@[simp] theorem opC_in1 {c : Nat} {b : Tx} : opC .in_ (.str [c]) (.str b) = some (b.contains c) := rfl
@[simp] theorem opC_notIn1 {c : Nat} {b : Tx} : opC .notIn (.str [c]) (.str b) = some (!b.contains c) := rfl
@[simp] theorem inst_exc {c : PySem.Str} {ns : List PySem.Str} {fs : List Val} {t : Ty} : isInst (.exc c ns fs) t = if t == .valueError then some true else none := rfl
@[simp] theorem keep_exc {c : PySem.Str} {ns : List PySem.Str} {fs : List Val} : keep (.exc c ns fs) = some (.exc c ns fs) := rfl
@[simp] theorem same_none0 : sameV .none .none = some true := rfl
@[simp] theorem same_none1 {i : Int} : sameV (.int i) .none = some false := rfl
@[simp] theorem same_none2 {vs : List Val} : sameV (.tup vs) .none = some false := rfl
def Fl.out : Fl → OutF
  | .ret v s => .ok v s.mu
  | .next s => .ok .none s.mu
  | .exc e s => .exc e s.mu
  | _ => .bad
@[simp] theorem out_ret {v : Val} : (Fl.ret v s).out = .ok v s.mu := rfl
@[simp] theorem out_next : (Fl.next s).out = .ok .none s.mu := rfl
@[simp] theorem out_exc {e : Exc} : (Fl.exc e s).out = .exc e s.mu := rfl
theorem run_fl (vs : List Val) {F : List FDef} {n i : Nat} {d : FDef} {mu : List Obj} {fl : Fl} (hi : F[i]? = some d) (hl : vs.length = d.params.length)
    (h : exs G (run G F n) d.body ⟨vs.map .val ++ List.replicate (d.names.length - vs.length) .none, mu⟩ = fl) : run G F (n + 1) i vs mu = fl.out := by
  rw [run_eq hi hl, h]; rfl
theorem count1 (s : Tx) : PySem.Txt.count ⟨s.toArray⟩ ⟨[49].toArray⟩ = ((s.count 49 : Nat) : Int) := by
  have := PyProof.Rows.count_is ⟨s.toArray⟩ 49
  rw [show ([49].toArray : Array Nat) = #[49] from rfl, this]
  show PySem.Spec.countIn (.str ⟨#[49]⟩) (s.map fun n => PySem.PyData.str ⟨#[n]⟩) = _
  induction s with
  | nil => rfl
  | cons x l ih =>
    rw [List.map_cons]
    show (if PySem.Spec.same (.str ⟨#[x]⟩) (.str ⟨#[49]⟩) then 1 else 0) + _ = _
    rw [ih (by have := PyProof.Rows.count_is ⟨l.toArray⟩ 49; exact this), PyProof.Rows.same_str', List.count_cons]
    by_cases hx : x = 49
    · subst hx; simp; omega
    · simp [hx]
@[simp] theorem opM_count1 {u : Tx} : opM .count (.str u) [.str [49]] = some (.int ((u.count 49 : Nat) : Int)) := by
  show some (Val.int (PySem.Txt.count ⟨u.toArray⟩ ⟨[49].toArray⟩)) = _
  rw [count1]
theorem getD_at0 (u : Tx) (i : Nat) : (⟨u.toArray⟩ : PySem.Str).cps.getD i 0 = Wd.at0 u i := by
  show u.toArray.getD i 0 = _
  unfold Wd.at0
  rw [Array.getD_eq_getD_getElem?]; simp
theorem opM_find3 {u : Tx} {p : Nat} (hp : p ≤ u.length) : (opM .find (.str u) [.str [49], .int (p : Int)] = some (.int (-1)) ∧ ∀ v, p ≤ v → v < u.length → Wd.at0 u v ≠ 49) ∨
    ∃ k : Nat, opM .find (.str u) [.str [49], .int (p : Int)] = some (.int (k : Int)) ∧ p ≤ k ∧ k < u.length ∧ Wd.at0 u k = 49 ∧ ∀ v, p ≤ v → v < k → Wd.at0 u v ≠ 49 := by
  have hl : (⟨u.toArray⟩ : PySem.Str).length = u.length := by show u.toArray.size = _; simp
  have hf : PySem.fromIndex u.length (p : Int) = p := by
    show (max 0 (if (p : Int) < 0 then (p : Int) + (u.length : Int) else (p : Int))).toNat = p
    rw [if_neg (by omega)]; omega
  have e : opM .find (.str u) [.str [49], .int (p : Int)] = some (.int (PySem.Txt.find3 ⟨u.toArray⟩ ⟨#[49]⟩ (p : Int))) := rfl
  rw [e]
  rcases PySem.StrLaws.find3_spec ⟨u.toArray⟩ 49 (p : Int) with ⟨h1, h2⟩ | ⟨k, h1, h2, h3, h4, h5⟩
  · refine .inl ⟨by rw [h1], fun v a b => ?_⟩
    rw [← getD_at0]
    exact h2 v (by rw [hl, hf]; exact a) (by rw [hl]; exact b)
  · rw [hl] at h3
    rw [hl, hf] at h2
    rw [getD_at0] at h4
    refine .inr ⟨k, by rw [h1], h2, h3, h4, fun v a b => ?_⟩
    rw [← getD_at0]
    exact h5 v (by rw [hl, hf]; exact a) b
theorem opM_find0 {u : Tx} : opM .find (.str u) [.str [49]] = opM .find (.str u) [.str [49], .int ((0 : Nat) : Int)] := by
  show some (Val.int (PySem.Txt.find _ _)) = some (Val.int (PySem.Txt.find3 _ _ _))
  rw [PyProof.Rows.find_is_find3]; rfl
end
end M
end F_M8
section F_M9
set_option maxRecDepth 100000
namespace M
open PySem PySem.StrLaws PySem.Builtin PySem.Builtin.Str
def sub1 (c d : Nat) (l : Tx) : Tx := l.map fun k => if k = c then d else k
theorem sub1_free (c d : Nat) {l : Tx} (h : c ∉ l) : sub1 c d l = l := by
  unfold sub1
  conv => rhs; rw [← List.map_id' l]
  refine List.map_congr_left fun k hk => ?_
  have : k ≠ c := fun e => h (by rw [← e]; exact hk)
  rw [if_neg this]
theorem sub1_join (c d : Nat) : ∀ parts : List PySem.Str, (∀ p ∈ parts, c ∉ p.cps.toList) → sub1 c d (Str.join ⟨#[c]⟩ parts).cps.toList = (Str.join ⟨#[d]⟩ parts).cps.toList
  | [], _ => rfl
  | [p], h => sub1_free c d (h p (List.mem_singleton.mpr rfl))
  | p :: q :: r, h => by
    have ih := sub1_join c d (q :: r) fun a ha => h a (List.mem_cons_of_mem _ ha)
    show sub1 c d (p ++ ⟨#[c]⟩ ++ Str.join ⟨#[c]⟩ (q :: r)).cps.toList = (p ++ ⟨#[d]⟩ ++ Str.join ⟨#[d]⟩ (q :: r)).cps.toList
    simp only [Str.cps_append, Array.toList_append]
    unfold sub1 at ih ⊢
    rw [List.map_append, List.map_append, ih]
    have := sub1_free c d (h p (List.mem_cons_self ..))
    unfold sub1 at this
    rw [this]
    simp
theorem replace_sub (x : PySem.Str) (c d : Nat) : (Txt.replace x ⟨#[c]⟩ ⟨#[d]⟩).cps.toList = sub1 c d x.cps.toList := by
  rw [replace_one, ← sub1_join c d _ (split_free x c), join_split]
theorem replV_sub {t : Tx} {c d : Nat} (hl : t.length ≤ 50000) (ht : ∀ k ∈ t, k < 1114112) (hd : d < 1114112) : replV t [c] [d] = some (.str (sub1 c d t)) := by
  have e : (Txt.replace ⟨t.toArray⟩ ⟨[c].toArray⟩ ⟨[d].toArray⟩).cps.toList = sub1 c d t := replace_sub ⟨t.toArray⟩ c d
  unfold replV
  have h1 : t.length + (t.length + 1) * [d].length ≤ 16777216 := by simp; omega
  have h2 : (sub1 c d t).all (· < 1114112) = true := by
    refine List.all_eq_true.mpr fun k hk => ?_
    unfold sub1 at hk
    obtain ⟨j, hj, rfl⟩ := List.mem_map.mp hk
    split
    · simpa using hd
    · simpa using ht j hj
  rw [e, if_pos ⟨h1, h2⟩]
section
variable {G : List Val} {C : CallEnv} {s : MS}
@[simp] theorem ev_repl {o : E} {y z : Tx} : ev G C (.repl o y z) s = (ev G C o s).bind fun x s => match x with
    | .str t => lift (replV t y z) s
    | _ => .bad := rfl
end
end M
end F_M9
section F_P1
set_option maxRecDepth 100000
namespace M
section
variable {G : List Val} {C : CallEnv} {s : MS}
theorem rd_ref {a : Nat} : s.rd (.ref a) = match s.mu[a]? with
    | some (.lst vs) => some (.lst vs)
    | _ => none := rfl
@[simp] theorem ev_shl {es : Es} : ev G C (.shl es) s = (evs G C es s).bind fun vs s => if vs.length ≤ line then .ok (.ref s.mu.length) { s with mu := s.mu ++ [.lst vs] } else .bad := rfl
theorem ev_shc {elt : E} {tg : T} {it : I} {ifs : Es} {own : List Nat} : ev G C (.shc elt tg it ifs own) s = (evI G C it s).bind fun src s1 => (noexc (lcL src own (lcTurn tg (evt G C ifs) (ev G C elt)) [] src.items s1)).bind fun acc s2 => .ok (.ref (restoreS s1.sl own s2).mu.length) { restoreS s1.sl own s2 with mu := (restoreS s1.sl own s2).mu ++ [.lst acc] } := rfl
theorem ev_lc {elt : E} {tg : T} {it : I} {ifs : Es} {own : List Nat} : ev G C (.lc elt tg it ifs own) s = (evI G C it s).bind fun src s1 => (noexc (lcL src own (lcTurn tg (evt G C ifs) (ev G C elt)) [] src.items s1)).bind fun acc s2 => .ok (.lst acc) (restoreS s1.sl own s2) := rfl
theorem lcTurn_nm {i : Nat} {ft : MS → Out Bool} {fe : MS → Out Val} {v : Val} (h : i < s.sl.length) : lcTurn (.nm i) ft fe v s = (ft { s with sl := s.sl.set i (.val v) }).bind fun b s => if b then (fe s).bind fun x s => lift ((keep x).map some) s else .ok none s := by
  show (match (if i < s.sl.length then some _ else none : Option MS) with | some s => _ | none => _) = _
  rw [if_pos h]
@[simp] theorem ev_fld {o : E} {n : PySem.Str} : ev G C (.fld o n) s = (ev G C o s).bind fun x s => lift (fldV x n) s := rfl
@[simp] theorem ex_rz {k : RK} : ex G C (.rz k) s = exR G C k s := rfl
@[simp] theorem exR_0 {c : PySem.Str} : exR G C (.r0 c) s = .exc ⟨c, [], []⟩ s := rfl
@[simp] theorem exR_E {c : PySem.Str} {e : E} : exR G C (.rE c e) s = (ev G C e s).fl fun _ s => .exc ⟨c, [], []⟩ s := rfl
@[simp] theorem exR_I {c : PySem.Str} {ns : List PySem.Str} {es : Es} : exR G C (.rI c ns es) s = (evs G C es s).fl fun vs s => if vs.length = ns.length then .exc ⟨c, ns, vs⟩ s else .bad := rfl
@[simp] theorem exR_K {c : PySem.Str} {ns ks : List PySem.Str} {is : List Nat} {es : Es} : exR G C (.rK c ns ks is es) s = (evs G C es s).fl fun vs s => if vs.length = ks.length ∧ (pick is vs).length = ns.length then .exc ⟨c, ns, pick is vs⟩ s else .bad := rfl
@[simp] theorem keep_ref {a : Nat} : keep (.ref a) = some (.ref a) := rfl
@[simp] theorem get_ref {a : Nat} : s.get (.ref a) = s.mu[a]? := rfl
@[simp] theorem put_ref {a : Nat} {o : Obj} : s.put o (.ref a) = if a < s.mu.length then some { s with mu := s.mu.set a o } else none := rfl
@[simp] theorem ex_setIx {o i e : E} : ex G C (.setIx o i e) s = (ev G C e s).fl fun z s => match keep z with
    | some z => (ev G C o s).fl fun x s => (ev G C i s).fl fun y s => match s.get x, y with
      | some (.lst xs), .int k => match ixN xs.length k with
        | some j => match s.put (.lst (xs.set j z)) x with
          | some s => .next s
          | none => .bad
        | none => .bad
      | _, _ => .bad
    | none => .bad := rfl
@[simp] theorem ex_retN : ex G C .retN s = .ret .none s := rfl
end
theorem range_nat {n : Nat} (h : n < 2 ^ 62) : opRange [.int (n : Int)] = some ⟨upTo 0 n, []⟩ := by
  have hl : lo62 (n : Int) = true := by
    unfold lo62
    refine decide_eq_true ⟨by omega, ?_⟩
    have : ((2 ^ 62 : Nat) : Int) = 2 ^ 62 := rfl
    omega
  show (if lo62 (n : Int) = true then some (⟨upTo 0 (n : Int).toNat, []⟩ : Src) else none) = _
  rw [if_pos hl, Int.toNat_natCast]
theorem upTo_mem : ∀ (n : Nat) (a : Int) (v : Val), v ∈ upTo a n → ∃ k : Nat, k < n ∧ v = .int (a + (k : Int))
  | 0, a, v, h => by cases h
  | n + 1, a, v, h => by
    rcases List.mem_cons.mp h with rfl | h
    · exact ⟨0, by omega, by simp⟩
    · obtain ⟨k, hk, rfl⟩ := upTo_mem n (a + 1) v h
      exact ⟨k + 1, by omega, by congr 1; omega⟩
theorem upTo_at : ∀ (n : Nat) (a : Int) (k : Nat), (upTo a n)[k]? = if k < n then some (.int (a + (k : Int))) else none
  | 0, a, k => by simp [upTo]
  | n + 1, a, 0 => by simp [upTo]
  | n + 1, a, k + 1 => by
    show (upTo (a + 1) n)[k]? = _
    rw [upTo_at n (a + 1) k]
    by_cases h : k < n
    · rw [if_pos h, if_pos (by omega)]; congr 2; omega
    · rw [if_neg h, if_neg (by omega)]
theorem atI_mem {α : Type} {xs : List α} {d : Int} (h0 : 0 ≤ d) (h1 : d < (xs.length : Int)) : ∃ v ∈ xs, atI xs d = some v := by
  obtain ⟨k, rfl⟩ := Int.eq_ofNat_of_zero_le h0
  have hk : k < xs.length := by omega
  exact ⟨xs[k], List.getElem_mem _, by rw [atI_nat hk, List.getElem?_eq_getElem hk]⟩
def Pu (p q N : Nat) (mu : List Obj) : Prop := ∃ (cs : List Int) (w : Nat), mu[p]? = some (.lst (cs.map .int)) ∧ mu[q]? = some (.lst [.ref p, .int (w : Int)]) ∧ p ≠ q ∧ cs ≠ [] ∧ cs.length ≤ 63 ∧ (∀ c ∈ cs, 0 ≤ c) ∧ w ≤ N
theorem Pu.mono {p q N N' : Nat} {mu : List Obj} (h : Pu p q N mu) (hN : N ≤ N') : Pu p q N' mu := by
  obtain ⟨cs, w, e1, e2, h0, h1, h2, h3, h4⟩ := h
  exact ⟨cs, w, e1, e2, h0, h1, h2, h3, by omega⟩
def Fr (p q : Nat) (mu mu' : List Obj) : Prop := mu'.length = mu.length ∧ ∀ a, a ≠ p → a ≠ q → mu'[a]? = mu[a]?
theorem Fr.refl {p q : Nat} {mu : List Obj} : Fr p q mu mu := ⟨rfl, fun _ _ _ => rfl⟩
theorem Fr.trans {p q : Nat} {mu mu1 mu2 : List Obj} (a : Fr p q mu mu1) (b : Fr p q mu1 mu2) : Fr p q mu mu2 := ⟨b.1.trans a.1, fun x h1 h2 => (b.2 x h1 h2).trans (a.2 x h1 h2)⟩
def dDraw : FDef := ⟨"_law_draw", ["purse", "out_of"], ["purse", "out_of", "cells", "went", "where", "cell", "number", "other"],
    (.cons (.asg (.tup [(.nm 2), (.nm 3)]) (.frz 0))
    (.cons (.asg (.nm 4) (.bin .mod (.var 3) (.bcall .len (.cons (.var 2) .nil))))
    (.cons (.asg (.nm 5) (.ix (.var 2) (.var 4)))
    (.cons (.setIx (.var 0) (.cst (.int 1)) (.bin .add (.var 3) (.cst (.int 1))))
    (.cons (.if_ (.cmp .ge (.var 5) (.bin .pow (.cst (.int 10)) (.cst (.int 18)))) (.cons (.setIx (.var 2) (.var 4) (.bin .fdiv (.var 5) (.var 1)))
    (.cons (.ret (.bin .mod (.var 5) (.var 1)))
    .nil)) .nil)
    (.cons (.asg (.nm 6) (.bin .mod (.bin .add (.bin .add (.bin .mul (.bin .mod (.var 5) (.cst (.int 2147483629))) (.cst (.int 48271))) (.bin .mul (.bin .mul (.var 3) (.var 3)) (.cst (.int 69621)))) (.cst (.int 11))) (.cst (.int 2147483647))))
    (.cons (.asg (.nm 6) (.bin .mod (.bin .mul (.var 6) (.var 6)) (.cst (.int 2147483629))))
    (.cons (.asg (.nm 6) (.bin .mod (.bin .mul (.var 6) (.var 6)) (.cst (.int 2147483587))))
    (.cons (.if_ (.cmp .gt (.var 1) (.bin .pow (.cst (.int 10)) (.cst (.int 9)))) (.cons (.asg (.nm 7) (.bin .mod (.bin .add (.bin .add (.bin .mul (.var 6) (.cst (.int 39373))) (.bin .mul (.var 3) (.cst (.int 7919)))) (.cst (.int 500))) (.cst (.int 2147483629))))
    (.cons (.asg (.nm 6) (.bin .mul (.var 6) (.bin .add (.bin .mul (.bin .mul (.var 7) (.var 7)) (.var 7)) (.cst (.int 1)))))
    .nil)) .nil)
    (.cons (.ret (.bin .mod (.var 6) (.var 1)))
    .nil)))))))))), none⟩
theorem bits_le {a : Int} {k : Nat} (h0 : 0 ≤ a) (h : a < 2 ^ k) : bits a ≤ k := bits_lt (by
  have : ((a.natAbs : Nat) : Int) < ((2 ^ k : Nat) : Int) := by rw [Int.natAbs_of_nonneg h0]; simpa using h
  exact Int.ofNat_lt.mp this)
theorem mod_lt' {a m : Int} (h : 0 < m) : 0 ≤ a % m ∧ a % m < m := ⟨Int.emod_nonneg _ (by omega), Int.emod_lt_of_pos _ h⟩
theorem bits_mod {a m : Int} (h : 0 < m) (h2 : m ≤ 2147483648) : bits (a % m) ≤ 31 := by
  obtain ⟨h3, h4⟩ := mod_lt' (a := a) h
  exact bits_le h3 (by have : (2 : Int) ^ 31 = 2147483648 := rfl; omega)
theorem log2_add (a b : Nat) : (a * b).log2 ≤ a.log2 + b.log2 + 1 := by
  by_cases ha : a = 0
  · subst ha; simp
  by_cases hb : b = 0
  · subst hb; simp
  have h1 : a < 2 ^ (a.log2 + 1) := Nat.lt_log2_self
  have h2 : b < 2 ^ (b.log2 + 1) := Nat.lt_log2_self
  have h3 : a * b < 2 ^ (a.log2 + 1 + (b.log2 + 1)) := by
    rw [Nat.pow_add]
    exact Nat.mul_lt_mul'' h1 h2
  have := (Nat.log2_lt (Nat.mul_ne_zero ha hb)).mpr h3
  omega
theorem bits_mul (a b : Int) : bits (a * b) ≤ bits a + bits b + 1 := by
  unfold bits
  rw [Int.natAbs_mul]
  exact log2_add _ _
theorem draw_body {G : List Val} (C : CallEnv) {cs : List Int} {w : Nat} {p q : Nat} {mu : List Obj} {m : Int} (hp : mu[p]? = some (.lst (cs.map .int))) (hq : mu[q]? = some (.lst [.ref p, .int (w : Int)])) (hpq : p ≠ q) (hc : cs ≠ []) (hl : cs.length ≤ 63) (h0 : ∀ c ∈ cs, 0 ≤ c) (hm : 0 < m) (hm2 : m < 2 ^ 8000) (hw : w < 1000000) :
    ∃ (d : Int) (cs' : List Int), (∃ sl : List Slot, exs G C dDraw.body ⟨[.val (.ref q), .val (.int m), .none, .none, .none, .none, .none, .none], mu⟩ =
      .ret (.int d) ⟨sl, (mu.set q (.lst [.ref p, .int ((w + 1 : Nat) : Int)])).set p (.lst (cs'.map .int))⟩) ∧ 0 ≤ d ∧ d < m ∧ cs' ≠ [] ∧ cs'.length ≤ 63 ∧ ∀ c ∈ cs', 0 ≤ c := by
  have hpl : p < mu.length := (List.getElem?_eq_some_iff.mp hp).1
  have hql : q < mu.length := (List.getElem?_eq_some_iff.mp hq).1
  have hp' : mu[p] = .lst (cs.map .int) := (List.getElem?_eq_some_iff.mp hp).2
  have hq' : mu[q] = .lst [.ref p, .int (w : Int)] := (List.getElem?_eq_some_iff.mp hq).2
  have hqp : q ≠ p := Ne.symm hpq
  have hp2 : ∀ o, (mu.set q o)[p]? = some (.lst (cs.map .int)) := fun o => by rw [List.getElem?_set_ne (Ne.symm hpq)]; exact hp
  have hid : ∀ o, (mu.set q o).set p (.lst (cs.map .int)) = mu.set q o := fun o => by
    refine List.ext_getElem? fun i => ?_
    by_cases hi : p = i
    · subst hi; rw [List.getElem?_set_self (by simpa using hpl), hp2]
    · rw [List.getElem?_set_ne hi]
  have hlp : 0 < cs.length := List.length_pos_iff.mpr hc
  have hlp' : (0 : Int) < (cs.length : Int) := by omega
  have hwm : (w : Int) % (cs.length : Int) = ((w % cs.length : Nat) : Int) := rfl
  have hwl : w % cs.length < cs.length := Nat.mod_lt _ hlp
  generalize hk : w % cs.length = k at hwm hwl
  have hcell : (cs.map Val.int)[k]? = some (.int cs[k]) := by rw [List.getElem?_map, List.getElem?_eq_getElem hwl]; rfl
  have hc0 : 0 ≤ cs[k] := h0 _ (List.getElem_mem _)
  generalize hcc : cs[k] = c at hcell hc0
  have hat : atI (cs.map Val.int) (k : Int) = some (.int c) := by rw [atI_nat (by simpa using hwl)]; exact hcell
  have hix : ixN (cs.map Val.int).length (k : Int) = some k := by
    unfold ixN L2.ixN
    first | (simp [hwl]; done) | (split <;> simp_all <;> omega)
  have hbm : bits m < 9000 := Nat.lt_of_le_of_lt (bits_le (by omega) hm2) (by decide)
  have p18 : (10 : Int) ^ 18 = 1000000000000000000 := rfl
  have p9 : (10 : Int) ^ 9 = 1000000000 := rfl
  have bp : (bits 10 + 1) * 18 ≤ 1000000 := by decide +kernel
  have bp9 : (bits 10 + 1) * 9 ≤ 1000000 := by decide +kernel
  have ix1 : ixN 2 1 = some 1 := rfl
  have hix' : ixN cs.length (k : Int) = some k := by rw [← List.length_map (f := Val.int)]; exact hix
  by_cases hbig : (1000000000000000000 : Int) ≤ c
  · refine ⟨c % m, cs.set k (c / m), ?_, (mod_lt' hm).1, (mod_lt' hm).2, by simpa using hc, by simpa using hl, fun x hx => ?_⟩
    · simp [dDraw, rd_ref, hp', hq', hpq, hqp, hid, hpl, hql, mapM_cons, hwm, hlp, hlp', hat, p18, bp, hbig, hm, hbm, hix', ix1, List.map_set]
    · rcases List.mem_or_eq_of_mem_set hx with h | h
      · exact h0 x h
      · rw [h]; exact Int.ediv_nonneg hc0 (by omega)
  · have b1 := bits_mod (a := c) (m := 2147483629) (by decide) (by decide)
    have bw : bits (w : Int) ≤ 20 := bits_le (by omega) (by have : (2 : Int) ^ 20 = 1048576 := rfl; omega)
    have bww := bits_mul (w : Int) (w : Int)
    have c1 : bits 48271 ≤ 20 := by decide +kernel
    have c2 : bits 69621 ≤ 20 := by decide +kernel
    have c3 : bits 39373 ≤ 20 := by decide +kernel
    have c4 : bits 7919 ≤ 20 := by decide +kernel
    have g1 : bits (c % 2147483629) + bits 48271 < 1000000 := by omega
    have g2 : bits (w : Int) + bits (w : Int) < 1000000 := by omega
    have g3 : bits ((w : Int) * (w : Int)) + bits 69621 < 1000000 := by omega
    have g4 : bits (w : Int) + bits 7919 < 1000000 := by omega
    have b2 := bits_mod (a := c % 2147483629 * 48271 + (w : Int) * (w : Int) * 69621 + 11) (m := 2147483647) (by decide) (by decide)
    generalize hn1 : (c % 2147483629 * 48271 + (w : Int) * (w : Int) * 69621 + 11) % 2147483647 = n1 at b2
    have g5 : bits n1 + bits n1 < 1000000 := by omega
    have b3 := bits_mod (a := n1 * n1) (m := 2147483629) (by decide) (by decide)
    generalize hn2 : n1 * n1 % 2147483629 = n2 at b3
    have g6 : bits n2 + bits n2 < 1000000 := by omega
    have b4 := bits_mod (a := n2 * n2) (m := 2147483587) (by decide) (by decide)
    generalize hn3 : n2 * n2 % 2147483587 = n3 at b4
    have g7 : bits n3 + bits 39373 < 1000000 := by omega
    have b5 := bits_mod (a := n3 * 39373 + (w : Int) * 7919 + 500) (m := 2147483629) (by decide) (by decide)
    generalize hn4 : (n3 * 39373 + (w : Int) * 7919 + 500) % 2147483629 = n4 at b5
    have g8 : bits n4 + bits n4 < 1000000 := by omega
    have b6 := bits_mul n4 n4
    have g9 : bits (n4 * n4) + bits n4 < 1000000 := by omega
    by_cases hmb : (1000000000 : Int) < m
    · have q0 : 0 ≤ n4 := by rw [← hn4]; exact (mod_lt' (by decide)).1
      have q1 : n4 < 2147483648 := by have := (mod_lt' (a := n3 * 39373 + (w : Int) * 7919 + 500) (m := 2147483629) (by decide)).2; omega
      have g10 : bits n3 + bits (n4 * n4 * n4 + 1) < 1000000 := by
        have : bits (n4 * n4 * n4 + 1) ≤ 200 := bits_le (Int.add_nonneg (Int.mul_nonneg (Int.mul_nonneg q0 q0) q0) (by decide)) (by
          have h1 : n4 * n4 ≤ 2147483648 * 2147483648 := Int.mul_le_mul (by omega) (by omega) q0 (by decide)
          have h2 : n4 * n4 * n4 ≤ 2147483648 * 2147483648 * 2147483648 := Int.mul_le_mul h1 (by omega) q0 (by decide)
          have h3 : (2147483648 : Int) * 2147483648 * 2147483648 + 1 < 2 ^ 200 := by decide +kernel
          omega)
        omega
      refine ⟨n3 * (n4 * n4 * n4 + 1) % m, cs, ?_, (mod_lt' hm).1, (mod_lt' hm).2, hc, hl, h0⟩
      simp [dDraw, rd_ref, hp', hq', hpq, hqp, hid, hpl, hql, mapM_cons, hwm, hlp, hlp', hat, p18, p9, bp, bp9, hbig, hm, ix1, g1, g2, g3, g4, hn1, g5, hn2, g6, hn3, g7, hn4, g8, g9, g10, hmb]
    · refine ⟨n3 % m, cs, ?_, (mod_lt' hm).1, (mod_lt' hm).2, hc, hl, h0⟩
      simp [dDraw, rd_ref, hp', hq', hpq, hqp, hid, hpl, hql, mapM_cons, hwm, hlp, hlp', hat, p18, p9, bp, bp9, hbig, hm, ix1, g1, g2, g3, g4, hn1, g5, hn2, g6, hn3, hmb]
theorem draw {G : List Val} {F : List FDef} {i n N p q : Nat} {mu : List Obj} {m : Int} (hi : F[i]? = some dDraw) (hp : Pu p q N mu) (hm : 0 < m) (hm2 : m < 2 ^ 8000) (hN : N < 1000000) :
    ∃ d mu', run G F (n + 1) i [.ref q, .int m] mu = .ok (.int d) mu' ∧ 0 ≤ d ∧ d < m ∧ Pu p q (N + 1) mu' ∧ Fr p q mu mu' := by
  obtain ⟨cs, w, e1, e2, h0, h1, h2, h3, h4⟩ := hp
  obtain ⟨d, cs', ⟨sl, e⟩, q1, q2, q3, q4, q5⟩ := draw_body (G := G) (run G F n) (m := m) e1 e2 h0 h1 h2 h3 hm hm2 (by omega)
  have hpl : p < mu.length := (List.getElem?_eq_some_iff.mp e1).1
  have hql : q < mu.length := (List.getElem?_eq_some_iff.mp e2).1
  refine ⟨d, _, run_fl [.ref q, .int m] (d := dDraw) hi rfl e, q1, q2, ⟨cs', w + 1, ?_, ?_, h0, q3, q4, q5, by omega⟩, by simp, fun a ha hb => ?_⟩
  · rw [List.getElem?_set_self (by simpa using hpl)]
  · rw [List.getElem?_set_ne h0, List.getElem?_set_self hql]
  · rw [List.getElem?_set_ne (Ne.symm ha), List.getElem?_set_ne (Ne.symm hb)]
def dPurse : FDef := ⟨"_law_purse", ["script"], ["script", "cells", "cell"],
    (.cons (.asg (.nm 1) (.shc (.bin .mod (.var 2) (.bin .pow (.bin .pow (.cst (.int 10)) (.cst (.int 60))) (.cst (.int 60)))) (.nm 2) (.e (.slice (.var 0) none (some (.cst (.int 63))))) .nil [2]))
    (.cons (.if_ (.cmp .eq (.var 1) (.lst .nil)) (.cons (.asg (.nm 1) (.shl (.cons (.cst (.int 0)) .nil)))
    .nil) .nil)
    (.cons (.ret (.shl (.cons (.var 1) (.cons (.cst (.int 0)) .nil))))
    .nil))), none⟩
theorem lc_purse {G : List Val} (C : CallEnv) {ns : List Int} (hns : ns.length ≤ 63) {v0 : Val} {mu : List Obj} : ∃ s' : Slot,
    lcL ⟨(ns.map Val.int), []⟩ [2] (lcTurn (.nm 2) (evt G C .nil) (ev G C (.bin .mod (.var 2) (.bin .pow (.bin .pow (.cst (.int 10)) (.cst (.int 60))) (.cst (.int 60)))))) [] (ns.map Val.int) ⟨[.val v0, .none, .none], mu⟩ = .ok ((ns.map fun c => c % (10 ^ 60) ^ 60).map Val.int) ⟨[.val v0, .none, s'], mu⟩ := by
  obtain ⟨s', e, s2, rfl⟩ := lcL_map (src := ⟨(ns.map Val.int), []⟩) rfl (own := [2]) (f := (lcTurn (.nm 2) (evt G C .nil) (ev G C (.bin .mod (.var 2) (.bin .pow (.bin .pow (.cst (.int 10)) (.cst (.int 60))) (.cst (.int 60))))))) (P := fun s => ∃ s2, s = ⟨[.val v0, .none, s2], mu⟩) (g := fun v => match v with | .int c => .int (c % (10 ^ 60) ^ 60) | v => v) (by
          rintro s ⟨s2, rfl⟩; exact ⟨.none, rfl⟩) (ns.map Val.int) [] ⟨[.val v0, .none, .none], mu⟩ ⟨_, rfl⟩ (by simp [line]; omega) (by
          rintro v s hv ⟨s2, rfl⟩
          obtain ⟨c, _, rfl⟩ := List.mem_map.mp hv
          have p1 : (bits 10 + 1) * 60 ≤ 1000000 := by decide +kernel
          have p2 : (bits (10 ^ 60) + 1) * 60 ≤ 1000000 := by decide +kernel
          have p3 : (0 : Int) < (10 ^ 60) ^ 60 := by decide +kernel
          refine ⟨⟨[.val v0, .none, .val (.int c)], mu⟩, ?_, _, rfl⟩
          rw [lcTurn_nm (by simp)]
          have t60 : Int.toNat 60 = 60 := rfl
          simp only [List.length_cons, List.length_nil, evt_nil, ev_bin, ev_var, ev_cst, Out.bind_ok, rd_int, Option.bind_some, opB_pow, List.set_cons_succ, List.set_cons_zero, List.getElem?_cons_succ, List.getElem?_cons_zero, if_true, t60]
          rw [if_pos ⟨by decide, p1⟩]
          simp only [lift_some, Out.bind_ok, rd_int, Option.bind_some, opB_pow, t60]
          rw [if_pos ⟨by decide, p2⟩]
          simp only [lift_some, Out.bind_ok, rd_int, Option.bind_some, opB_mod]
          rw [if_pos p3]
          rfl)
  refine ⟨s2, ?_⟩
  rw [e, List.nil_append, List.map_map, List.map_map]
  rfl
theorem purse {G : List Val} {F : List FDef} {i n : Nat} {ns : List Int} (hi : F[i]? = some dPurse) (hns : ns.length ≤ 63) (mu : List Obj) :
    ∃ p q more, run G F (n + 1) i [.rol (ns.map .int)] mu = .ok (.ref q) (mu ++ more) ∧ Pu p q 0 (mu ++ more) ∧ mu.length ≤ p ∧ mu.length ≤ q := by
  obtain ⟨s', e⟩ := lc_purse (G := G) (run G F n) hns (v0 := .rol (ns.map .int)) (mu := mu)
  have hsl : cut (ns.map Val.int) none (some 63) = ns.map Val.int := by
    have := cut_take (xs := ns.map Val.int) (k := 63)
    rw [show ((63 : Nat) : Int) = 63 from rfl] at this
    rw [this, List.take_of_length_le (by simpa using hns)]
  have hsrc : ∀ (s : MS) (vs : List Val), srcOf s (.lst vs) = some ⟨vs, []⟩ := fun _ _ => rfl
  generalize hcs : ns.map (fun c => c % (10 ^ 60) ^ 60) = cs at e
  have h0 : ∀ c ∈ cs, 0 ≤ c := fun c hc => by
    rw [← hcs] at hc
    obtain ⟨x, _, rfl⟩ := List.mem_map.mp hc
    exact Int.emod_nonneg _ (by decide +kernel)
  have hl : cs.length ≤ 63 := by rw [← hcs]; simpa using hns
  have x1 : ex G (run G F n) (.asg (.nm 1) (.shc (.bin .mod (.var 2) (.bin .pow (.bin .pow (.cst (.int 10)) (.cst (.int 60))) (.cst (.int 60)))) (.nm 2) (.e (.slice (.var 0) none (some (.cst (.int 63))))) .nil [2])) ⟨[.val (.rol (ns.map .int)), .none, .none], mu⟩ = .next ⟨[.val (.rol (ns.map .int)), .val (.ref mu.length), .none], mu ++ [.lst (cs.map .int)]⟩ := by
    rw [ex_asg, ev_shc]
    rw [show evI G (run G F n) (.e (.slice (.var 0) none (some (.cst (.int 63))))) ⟨[.val (.rol (ns.map .int)), .none, .none], mu⟩ = .ok ⟨ns.map Val.int, []⟩ ⟨[.val (.rol (ns.map .int)), .none, .none], mu⟩ from by
      simp [opSl, hsl, hsrc]]
    rw [Out.bind_ok]
    simp only
    rw [e]
    rfl
  by_cases hc : cs = []
  · subst hc
    refine ⟨mu.length + 1, mu.length + 2, [.lst [], .lst [.int 0], .lst [.ref (mu.length + 1), .int 0]], ?_, ⟨[0], 0, ?_, ?_, by omega, by simp, by simp, by simp, by omega⟩, by omega, by omega⟩
    · refine (run_fl [.rol (ns.map .int)] (d := dPurse) hi rfl (fl := .ret (.ref (mu.length + 2)) ⟨[.val (.rol (ns.map .int)), .val (.ref (mu.length + 1)), .none], mu ++ [.lst [], .lst [.int 0], .lst [.ref (mu.length + 1), .int 0]]⟩) ?_).trans rfl
      show exs G (run G F n) dPurse.body ⟨[.val (.rol (ns.map .int)), .none, .none], mu⟩ = _
      unfold dPurse
      simp only
      rw [exs_cons, x1, Fl.seq_next]
      simp [rd_ref, line]
    · simp
    · simp
  · refine ⟨mu.length, mu.length + 1, [.lst (cs.map .int), .lst [.ref mu.length, .int 0]], ?_, ⟨cs, 0, by simp, by simp, by omega, hc, hl, h0, by omega⟩, by omega, by omega⟩
    refine (run_fl [.rol (ns.map .int)] (d := dPurse) hi rfl (fl := .ret (.ref (mu.length + 1)) ⟨[.val (.rol (ns.map .int)), .val (.ref mu.length), .none], mu ++ [.lst (cs.map .int), .lst [.ref mu.length, .int 0]]⟩) ?_).trans rfl
    show exs G (run G F n) dPurse.body ⟨[.val (.rol (ns.map .int)), .none, .none], mu⟩ = _
    unfold dPurse
    simp only
    rw [exs_cons, x1, Fl.seq_next]
    cases cs with
    | nil => exact absurd rfl hc
    | cons c cs =>
      have hd : isDatas 15 (cs.map Val.int) = true := by
        clear e hc hl h0 x1 hcs
        induction cs with
        | nil => rfl
        | cons a l ih => simp [ih]
      simp [rd_ref, line, hd, veqs]
end M
end F_P1
section F_M10
set_option maxRecDepth 100000
namespace M
open PySem
def TOk (t : PySem.Str) (n : Nat) : Prop := t.length ≤ n ∧ t.cps.toList.all (· < 1114112) = true
theorem TOk.mono {t : PySem.Str} {m n : Nat} (h : TOk t m) (l : m ≤ n) : TOk t n := ⟨Nat.le_trans h.1 l, h.2⟩
theorem TOk.app {t u : PySem.Str} {m n : Nat} (h : TOk t m) (k : TOk u n) : TOk (t ++ u) (m + n) := by
  refine ⟨by rw [strLen_append]; exact Nat.add_le_add h.1 k.1, ?_⟩
  have : (t ++ u).cps.toList = t.cps.toList ++ u.cps.toList := by
    show (t.cps ++ u.cps).toList = _
    simp
  rw [this, List.all_append, h.2, k.2]; rfl
theorem char_ok (c : Char) : c.toNat < 1114112 := by
  have h := c.valid
  rcases h with h | ⟨_, h⟩
  · exact Nat.lt_trans h (by decide)
  · exact h
theorem TOk.of (s : String) : TOk (Str.ofString s) s.length := by
  refine ⟨Nat.le_of_eq (ofString_length s), ?_⟩
  have : (Str.ofString s).cps.toList = s.toList.map Char.toNat := by
    show ((cpsOfBytes 0 0 s.toByteArray.data.toList).toArray).toList = _
    rw [cpsOfBytes_string]
  rw [this, List.all_map, List.all_eq_true]
  intro c _
  simpa using char_ok c
theorem TOk.from {n : Nat} : ∀ (ts : List PySem.Str) (k : Nat) (acc : PySem.Str) (m : Nat), TOk acc m → (∀ t ∈ ts, TOk t n) → TOk (textFrom k acc ts) (m + ts.length * (n + 2))
  | [], k, acc, m, h, _ => h.mono (by simp)
  | t :: ts, k, acc, m, h, ht => by
    have hc : TOk ((if k > 0 then ", " else "" : String) : PySem.Str) 2 := by
      split
      · exact TOk.of ", "
      · exact (TOk.of "").mono (by decide)
    have := TOk.from ts (k + 1) (acc ++ (if k > 0 then ", " else "" : String) ++ t) (m + 2 + n) ((h.app hc).app (ht t (.head _))) fun u hu => ht u (.tail _ hu)
    refine TOk.mono this ?_
    simp only [List.length_cons, Nat.succ_mul]; omega
theorem TOk.list {n : Nat} {ts : List PySem.Str} (h : ∀ t ∈ ts, TOk t n) : TOk (listText ts) (ts.length * (n + 2) + 2) := by
  have a := TOk.from ts 0 "[" 1 (TOk.of "[") h
  have := a.app (TOk.of "]")
  exact TOk.mono this (by have : ("]" : String).length = 1 := rfl; omega)
theorem TOk.int {i : Int} {k : Nat} (hk : 0 < k) (h : i.natAbs < 10 ^ k) : TOk (PyData.shown (.int i)) (k + 1) := by
  simp only [PyData.shown]
  exact (TOk.of (toString i)).mono (int_text_length_le10 hk h)
theorem TOk.none : TOk (PyData.shown .none) 4 := by
  simp only [PyData.shown]
  exact TOk.of "None"
section
variable {G : List Val} {C : CallEnv}
@[simp] theorem evt_cons {e : E} {es : Es} {s : MS} : evt G C (.cons e es) s = (ev G C e s).bind fun x s => match (s.rd x).bind tru with
    | some true => evt G C es s
    | some false => .ok false s
    | none => .bad := rfl
theorem lc_loop {src : Src} (hd : src.deps = []) {i : Nat} {sl : List Slot} {mu : List Obj} {ifs : Es} {elt : E} {q : Val → Bool} {g : Val → Val} (hi : i < sl.length) : ∀ (items acc : List Val) (x : Slot), acc.length + items.length ≤ line →
    (∀ v ∈ items, evt G C ifs ⟨sl.set i (.val v), mu⟩ = .ok (q v) ⟨sl.set i (.val v), mu⟩) →
    (∀ v ∈ items, q v = true → ev G C elt ⟨sl.set i (.val v), mu⟩ = .ok (g v) ⟨sl.set i (.val v), mu⟩ ∧ keep (g v) = some (g v)) →
    ∃ y, lcL src [i] (fun v s => match store (.nm i) v s with
        | some s => (evt G C ifs s).bind fun b s => if b then (ev G C elt s).bind fun x s => lift ((keep x).map some) s else .ok none s
        | none => .bad) acc items ⟨sl.set i x, mu⟩ = .ok (acc ++ (items.filter q).map g) ⟨sl.set i y, mu⟩
  | [], acc, x, _, _, _ => ⟨x, by unfold lcL; rw [if_pos (ok_deps hd _)]; simp⟩
  | v :: vs, acc, x, hl, ht, he => by
    have t := ht v (.head _)
    have st : store (.nm i) v (wipeS [i] ⟨sl.set i x, mu⟩) = some ⟨sl.set i (.val v), mu⟩ := by
      show (if _ then _ else _) = _
      rw [if_pos (by simp [wipeS, hi])]
      simp [wipeS]
    simp only [List.length_cons] at hl
    unfold lcL
    rw [if_pos ⟨ok_deps hd _, by omega⟩, st]
    simp only [t, Out.bind_ok]
    by_cases hq : q v = true
    · obtain ⟨e1, e2⟩ := he v (.head _) hq
      obtain ⟨y, ih⟩ := lc_loop hd (q := q) (g := g) hi vs (acc ++ [g v]) (.val v) (by simp; omega) (fun w hw => ht w (.tail _ hw)) (fun w hw => he w (.tail _ hw))
      refine ⟨y, ?_⟩
      rw [if_pos hq, e1, Out.bind_ok, e2, Option.map_some, lift_some, Out.bind_ok]
      rw [List.filter_cons, if_pos hq, List.map_cons]
      simpa using ih
    · obtain ⟨y, ih⟩ := lc_loop hd (q := q) (g := g) hi vs acc (.val v) (by omega) (fun w hw => ht w (.tail _ hw)) (fun w hw => he w (.tail _ hw))
      refine ⟨y, ?_⟩
      rw [if_neg hq, Out.bind_ok, List.filter_cons, if_neg hq]
      exact ih
theorem lc_filter {i : Nat} {sl : List Slot} {mu : List Obj} {ifs : Es} {elt : E} {it : I} {items : List Val} {q : Val → Bool} {g : Val → Val} (hi : i < sl.length) (ei : evI G C it ⟨sl, mu⟩ = .ok ⟨items, []⟩ ⟨sl, mu⟩) (hl : items.length ≤ line)
    (ht : ∀ v ∈ items, evt G C ifs ⟨sl.set i (.val v), mu⟩ = .ok (q v) ⟨sl.set i (.val v), mu⟩)
    (he : ∀ v ∈ items, q v = true → ev G C elt ⟨sl.set i (.val v), mu⟩ = .ok (g v) ⟨sl.set i (.val v), mu⟩ ∧ keep (g v) = some (g v)) :
    ev G C (.lc elt (.nm i) it ifs [i]) ⟨sl, mu⟩ = .ok (.lst ((items.filter q).map g)) ⟨sl, mu⟩ := by
  obtain ⟨y, e⟩ := lc_loop (G := G) (C := C) (src := ⟨items, []⟩) rfl (mu := mu) hi items [] sl[i] (by simpa using hl) ht he
  rw [List.set_getElem_self] at e
  show (evI G C it _).bind _ = _
  rw [ei, Out.bind_ok]
  refine Eq.trans (congrArg (fun o => (noexc o).bind (fun acc s2 => Out.ok (Val.lst acc) (restoreS sl [i] s2))) e) ?_
  simp only [List.nil_append]
  show Out.ok _ (restoreS sl [i] _) = _
  unfold restoreS
  simp [restoreS, hi]
theorem lc_all {i : Nat} {sl : List Slot} {mu : List Obj} {elt : E} {it : I} {items : List Val} {g : Val → Val} (hi : i < sl.length) (ei : evI G C it ⟨sl, mu⟩ = .ok ⟨items, []⟩ ⟨sl, mu⟩) (hl : items.length ≤ line)
    (he : ∀ v ∈ items, ev G C elt ⟨sl.set i (.val v), mu⟩ = .ok (g v) ⟨sl.set i (.val v), mu⟩ ∧ keep (g v) = some (g v)) :
    ev G C (.lc elt (.nm i) it .nil [i]) ⟨sl, mu⟩ = .ok (.lst (items.map g)) ⟨sl, mu⟩ := by
  have := lc_filter (G := G) (C := C) (q := fun _ => true) (ifs := .nil) hi ei hl (fun v _ => rfl) (fun v hv _ => he v hv)
  rw [List.filter_eq_self.mpr (fun _ _ => rfl)] at this
  exact this
end
end M
end F_M10
section F_R1
set_option maxRecDepth 100000
namespace M
open PySem PySem.Builtin PySem.Builtin.Str
theorem hexd_ok (c : Nat) : ∀ d ∈ (Nat.toDigits 16 c).map Char.toNat, d < 1114112 := fun d hd => by
  obtain ⟨k, _, rfl⟩ := List.mem_map.mp hd
  exact char_ok k
theorem reprChar_ok {q c : Nat} (hq : q < 1114112) (hc : c < 1114112) : ∀ d ∈ reprChar q c, d < 1114112 := by
  intro d hd
  unfold reprChar at hd
  have hh := hexd_ok c
  simp only at hd
  split at hd
  · simp only [List.mem_cons, List.not_mem_nil, or_false] at hd
    rcases hd with rfl | rfl
    · decide
    · exact hc
  split at hd
  · simp only [List.mem_cons, List.not_mem_nil, or_false] at hd
    rcases hd with rfl | rfl <;> decide
  split at hd
  · simp only [List.mem_cons, List.not_mem_nil, or_false] at hd
    rcases hd with rfl | rfl <;> decide
  split at hd
  · simp only [List.mem_cons, List.not_mem_nil, or_false] at hd
    rcases hd with rfl | rfl <;> decide
  split at hd
  · simp only [List.mem_cons, List.not_mem_nil, or_false] at hd
    subst hd; exact hc
  have fin : ∀ (a b w : Nat), a < 1114112 → b < 1114112 → d ∈ [a, b] ++ (List.replicate w 48 ++ (Nat.toDigits 16 c).map Char.toNat) → d < 1114112 := fun a b w ha hb h => by
    rcases List.mem_append.mp h with h | h
    · simp only [List.mem_cons, List.not_mem_nil, or_false] at h
      rcases h with rfl | rfl <;> assumption
    · rcases List.mem_append.mp h with h | h
      · rw [List.eq_of_mem_replicate h]; decide
      · exact hh d h
  split at hd
  · exact fin _ _ _ (by decide) (by decide) hd
  split at hd
  · exact fin _ _ _ (by decide) (by decide) hd
  · exact fin _ _ _ (by decide) (by decide) hd
theorem fold_ok {q : Nat} (hq : q < 1114112) : ∀ (l : List Nat) (acc : Array Nat), (∀ d ∈ acc.toList, d < 1114112) → (∀ c ∈ l, c < 1114112) → ∀ d ∈ (l.foldl (fun out c => out ++ (reprChar q c).toArray) acc).toList, d < 1114112
  | [], acc, h, _ => h
  | c :: l, acc, h, hl => by
    rw [List.foldl_cons]
    refine fold_ok hq l _ (fun d hd => ?_) fun x hx => hl x (.tail _ hx)
    rw [Array.toList_append] at hd
    rcases List.mem_append.mp hd with hd | hd
    · exact h d hd
    · exact reprChar_ok hq (hl c (.head _)) d (by simpa using hd)
theorem TOk.repr {t : Tx} (h : ∀ c ∈ t, c < 1114112) : TOk (reprText ⟨t.toArray⟩) (10 * t.length + 2) := by
  have hq : reprQuote ⟨t.toArray⟩ < 1114112 := by
    unfold reprQuote
    split <;> decide
  refine ⟨?_, ?_⟩
  · have := PySem.StrLaws.reprText_len ⟨t.toArray⟩ (by intro c hc; exact Nat.lt_trans (h c (by simpa using hc)) (by decide))
    simpa [Str.length] using this
  · unfold reprText
    rw [List.all_eq_true]
    intro d hd
    rw [Array.toList_push, ← Array.foldl_toList] at hd
    rcases List.mem_append.mp hd with hd | hd
    · exact decide_eq_true (fold_ok hq t #[reprQuote ⟨t.toArray⟩] (fun d hd => by
        have e : d = reprQuote ⟨t.toArray⟩ := by simpa using hd
        rw [e]; exact hq) h d hd)
    · rw [List.mem_singleton.mp hd]; exact decide_eq_true hq
theorem TOk.join2 {n : Nat} : ∀ ts : List Str, (∀ t ∈ ts, TOk t n) → TOk (Str.join ", " ts) (ts.length * (n + 2))
  | [], _ => by
    refine ⟨Nat.zero_le _, rfl⟩
  | [t], h => (h t (.head _)).mono (by simp)
  | t :: u :: r, h => by
    have ih := TOk.join2 (u :: r) fun x hx => h x (.tail _ hx)
    have c2 : TOk ((", " : String) : Str) 2 := TOk.of ", "
    refine TOk.mono (((h t (.head _)).app c2).app ih) ?_
    simp only [List.length_cons, Nat.succ_mul]; omega
theorem TOk.tup {n : Nat} {ts : List Str} (h : ∀ t ∈ ts, TOk t n) : TOk (tupleText ts) (ts.length * (n + 2) + 3) := by
  have a := (TOk.of "(").app (TOk.join2 ts h)
  have b : TOk ((if ts.length == 1 then ",)" else ")" : String) : Str) 2 := by
    split
    · exact TOk.of ",)"
    · exact (TOk.of ")").mono (by decide)
  refine TOk.mono (a.app b) ?_
  have : ("(" : String).length = 1 := rfl
  omega
mutual
def okD (k m : Nat) : Val → Bool
  | .none => true
  | .bool _ => true
  | .int i => decide (i.natAbs < 10 ^ 300)
  | .str s => decide (s.length ≤ k) && s.all (· < 1114112)
  | .tup vs => decide (vs.length ≤ m) && okDs k m vs
  | .lst vs => decide (vs.length ≤ m) && okDs k m vs
  | _ => false
def okDs (k m : Nat) : List Val → Bool
  | [] => true
  | v :: vs => okD k m v && okDs k m vs
end
def bD (k m : Nat) : Nat → Nat
  | 0 => 10 * k + 310
  | n + 1 => m * (bD k m n + 2) + 10 * k + 313
theorem bD_ge (k m : Nat) : ∀ n, 10 * k + 310 ≤ bD k m n
  | 0 => Nat.le_refl _
  | n + 1 => by show _ ≤ _ + 10 * k + 313; omega
theorem log_lt {i : Int} (h : i.natAbs < 10 ^ 300) : i.natAbs.log2 < 1920 := by
  by_cases h0 : i.natAbs = 0
  · rw [h0]; decide +kernel
  · exact (Nat.log2_lt h0).mpr (Nat.lt_trans h (by decide +kernel))
mutual
theorem shown_ok {k m : Nat} : ∀ (n : Nat) (v : Val), isData n v = true → okD k m v = true → TOk (toPD v).shown (bD k m n) ∧ (toPD v).showable = true
  | n, .none, _, _ => ⟨TOk.mono TOk.none (by have := bD_ge k m n; omega), rfl⟩
  | n, .bool b, _, _ => by
    refine ⟨?_, rfl⟩
    simp only [toPD, PyData.shown]
    refine TOk.mono (n := bD k m n) (m := 5) ?_ (by have := bD_ge k m n; omega)
    cases b
    · exact TOk.of "False"
    · exact (TOk.of "True").mono (by decide)
  | n, .int i, _, h => by
    have h : i.natAbs < 10 ^ 300 := by simpa [okD] using h
    refine ⟨TOk.mono (TOk.int (k := 300) (by decide) h) (by have := bD_ge k m n; omega), ?_⟩
    simp only [toPD, PyData.showable]
    exact decide_eq_true (log_lt h)
  | n, .str s, _, h => by
    simp only [okD, Bool.and_eq_true, decide_eq_true_eq] at h
    refine ⟨?_, rfl⟩
    simp only [toPD, PyData.shown]
    exact TOk.mono (TOk.repr fun c hc => by simpa using List.all_eq_true.mp h.2 c hc) (by have := bD_ge k m n; omega)
  | n + 1, .tup vs, hd, h => by
    simp only [okD, Bool.and_eq_true, decide_eq_true_eq] at h
    obtain ⟨h1, h2⟩ := showns_ok n vs (by simpa using hd) h.2
    simp only [toPD, PyData.shown, PyData.showable]
    refine ⟨TOk.mono (TOk.tup h1.1) ?_, h2⟩
    rw [h1.2]
    have := Nat.mul_le_mul_right (bD k m n + 2) h.1
    show _ ≤ m * (bD k m n + 2) + 10 * k + 313
    omega
  | n + 1, .lst vs, hd, h => by
    simp only [okD, Bool.and_eq_true, decide_eq_true_eq] at h
    obtain ⟨h1, h2⟩ := showns_ok n vs (by simpa using hd) h.2
    simp only [toPD, PyData.shown, PyData.showable]
    refine ⟨TOk.mono (TOk.list h1.1) ?_, h2⟩
    rw [h1.2]
    have := Nat.mul_le_mul_right (bD k m n + 2) h.1
    show _ ≤ m * (bD k m n + 2) + 10 * k + 313
    omega
  | 0, .tup _, hd, _ => by simp [isData] at hd
  | 0, .lst _, hd, _ => by simp [isData] at hd
  | n, .ref _, hd, _ => by cases n <;> simp [isData] at hd
  | n, .loc _, hd, _ => by cases n <;> simp [isData] at hd
  | n, .ty _, hd, _ => by cases n <;> simp [isData] at hd
  | n, .rol _, hd, _ => by cases n <;> simp [isData] at hd
  | n, .exc _ _ _, hd, _ => by cases n <;> simp [isData] at hd
  | n, .cls _ _ _, hd, _ => by cases n <;> simp [isData] at hd
theorem showns_ok {k m : Nat} : ∀ (n : Nat) (vs : List Val), isDatas n vs = true → okDs k m vs = true → ((∀ t ∈ PyData.shownAll (toPDs vs), TOk t (bD k m n)) ∧ (PyData.shownAll (toPDs vs)).length = vs.length) ∧ PyData.showableAll (toPDs vs) = true
  | n, [], _, _ => by simp [toPDs, PyData.shownAll, PyData.showableAll]
  | n, v :: vs, hd, h => by
    simp only [datas_cons, Bool.and_eq_true] at hd
    simp only [okDs, Bool.and_eq_true] at h
    obtain ⟨a, b⟩ := shown_ok n v hd.1 h.1
    obtain ⟨⟨c, l⟩, e⟩ := showns_ok n vs hd.2 h.2
    simp only [toPDs, PyData.shownAll, PyData.showableAll, b, e, List.length_cons, l]
    refine ⟨⟨fun t ht => ?_, trivial⟩, rfl⟩
    rcases List.mem_cons.mp ht with rfl | ht
    · exact a
    · exact c t ht
end
theorem text_some {k m n : Nat} {v : Val} (hd : isData n v = true) (hd16 : isData 16 v = true) (h : okD k m v = true) (hb : bD k m n ≤ line) : ∃ t, textV v = some (.str t) := by
  obtain ⟨h1, h2⟩ := shown_ok n v hd h
  exact ⟨_, by unfold textV; rw [if_pos ⟨hd16, h2, Nat.le_trans h1.1 hb, h1.2⟩]⟩
end M
end F_R1
section F_K20b
set_option maxRecDepth 100000
set_option maxHeartbeats 4000000
namespace K20
open M
noncomputable abbrev R (n : Nat) : CallEnv := run pr.G prF n
def chain : List (Nat × St) → Sts
  | [] => .nil
  | (k, st) :: l => .cons (.if_ (.cmp .eq (.var 0) (.cst (.int (k : Int)))) (.cons st .nil) .nil) (chain l)
section
variable {G : List Val} {C : CallEnv} {w : Nat} {rest : List Slot} {mu : List Obj}
theorem chain_if {k : Nat} {st : St} : ex G C (.if_ (.cmp .eq (.var 0) (.cst (.int (k : Int)))) (.cons st .nil) .nil) ⟨.val (.int (w : Int)) :: rest, mu⟩ = if w = k then (ex G C st ⟨.val (.int (w : Int)) :: rest, mu⟩).seq (exs G C .nil) else .next ⟨.val (.int (w : Int)) :: rest, mu⟩ := by
  by_cases h : w = k
  · subst h
    simp
  · have : ((w : Int) == (k : Int)) = false := beq_eq_false_iff_ne.mpr (by omega)
    simp [h, this]
theorem chain_none : ∀ l : List (Nat × St), l.lookup w = none → exs G C (chain l) ⟨.val (.int (w : Int)) :: rest, mu⟩ = .next ⟨.val (.int (w : Int)) :: rest, mu⟩
  | [], _ => rfl
  | (k, st) :: l, h => by
    rw [List.lookup_cons] at h
    by_cases hk : w = k
    · subst hk; simp at h
    · have hb : (w == k) = false := beq_eq_false_iff_ne.mpr hk
      rw [hb] at h
      show (ex G C (.if_ _ _ _) _).seq (exs G C (chain l)) = _
      rw [chain_if, if_neg hk, Fl.seq_next]
      exact chain_none l h
theorem chain_hit {st : St} {e : Exc} {s' : MS} : ∀ l : List (Nat × St), l.lookup w = some st → ex G C st ⟨.val (.int (w : Int)) :: rest, mu⟩ = .exc e s' → exs G C (chain l) ⟨.val (.int (w : Int)) :: rest, mu⟩ = .exc e s'
  | [], h, _ => by simp at h
  | (k, st') :: l, h, he => by
    rw [List.lookup_cons] at h
    show (ex G C (.if_ _ _ _) _).seq (exs G C (chain l)) = _
    rw [chain_if]
    by_cases hk : w = k
    · subst hk
      simp at h
      subst h
      rw [if_pos rfl, he]; rfl
    · have hb : (w == k) = false := beq_eq_false_iff_ne.mpr hk
      rw [hb] at h
      rw [if_neg hk, Fl.seq_next]
      exact chain_hit l h he
end
def nms : List PySem.Str := ["NoBeat", "NoFlow", "NoName", "Twice", "NoBook", "NoLoop", "NoModule", "NoNet", "NoDeed", "NoState", "NoRoom", "Dry", "Over", "NoFace", "NoPlace", "NoText", "NoBack", "NoDrive", "NoLane", "NoLine", "NoMeasure", "NoPart", "NoTitle", "NoWait", "NoWay", "NoWord", "TooDeep", "TooLong"]
def nm (w : Nat) : PySem.Str := nms.getD w ""
def nsOf (w : Nat) : List PySem.Str := if w < 4 then ["name"] else if w < 8 then ["wrong"] else if w < 10 then ["at"] else if w < 13 then ["lane"] else if w = 13 then ["paper"] else if w = 14 then ["place"] else if w = 15 then ["row", "at"] else []
def fsOf (w : Nat) (one two : Val) : List Val := if w < 15 then [one] else if w = 15 then [one, two] else []
theorem cases28 {w : Nat} (h : w < 28) : w = 0 ∨ w = 1 ∨ w = 2 ∨ w = 3 ∨ w = 4 ∨ w = 5 ∨ w = 6 ∨ w = 7 ∨ w = 8 ∨ w = 9 ∨ w = 10 ∨ w = 11 ∨ w = 12 ∨ w = 13 ∨ w = 14 ∨ w = 15 ∨ w = 16 ∨ w = 17 ∨ w = 18 ∨ w = 19 ∨ w = 20 ∨ w = 21 ∨ w = 22 ∨ w = 23 ∨ w = 24 ∨ w = 25 ∨ w = 26 ∨ w = 27 := by omega
def es1 (w : Nat) : Es := if w = 15 then .cons (.var 1) (.cons (.var 2) .nil) else .cons (.var 1) .nil
def l1 : List (Nat × St) := (List.range 16).map fun w => (w, .rz (.rI (nm w) (nsOf w) (es1 w)))
def ks2 (w : Nat) : List PySem.Str := if w = 15 then ["at", "row"] else nsOf w
def is2 (w : Nat) : List Nat := if w = 15 then [1, 0] else [0]
def es2 (w : Nat) : Es := if w = 15 then .cons (.var 2) (.cons (.var 1) .nil) else .cons (.var 1) .nil
def l2 : List (Nat × St) := (List.range 16).map fun w => (w, .rz (.rK (nm w) (nsOf w) (ks2 w) (is2 w) (es2 w)))
def l3 : List (Nat × St) := (List.range 12).map fun w => (w + 16, .rz (.r0 (nm (w + 16))))
def l4 : List (Nat × St) := (List.range 12).map fun w => (w + 16, .rz (.rE (nm (w + 16)) (.var 1)))
theorem b4 : d__law_first.body = chain l1 := rfl
theorem b5 : d__law_second.body = chain l2 := rfl
theorem b6 : d__law_third.body = chain l3 := rfl
theorem b7 : d__law_fourth.body = chain l4 := rfl
theorem lk_map {f : Nat → St} {w : Nat} (k : Nat) : ∀ (n a : Nat), ((List.range' a n).map fun w => (w + k, f w)).lookup w = if a + k ≤ w ∧ w < a + k + n then some (f (w - k)) else none
  | 0, a => by simp <;> omega
  | n + 1, a => by
    rw [List.range'_succ, List.map_cons, List.lookup_cons]
    by_cases h : w = a + k
    · subst h
      simp
    · have : (w == a + k) = false := beq_eq_false_iff_ne.mpr h
      simp only [this]
      rw [lk_map k n (a + 1)]
      by_cases h2 : a + k ≤ w ∧ w < a + k + (n + 1)
      · rw [if_pos (by omega), if_pos h2]
      · rw [if_neg (by omega), if_neg h2]
theorem lk0 {f : Nat → St} {w n : Nat} : ((List.range n).map fun w => (w, f w)).lookup w = if w < n then some (f w) else none := by
  have := lk_map (f := f) (w := w) 0 n 0
  rw [← List.range_eq_range'] at this
  simpa using this
theorem lk16 {f : Nat → St} {w n : Nat} : ((List.range n).map fun w => (w + 16, f w)).lookup w = if 16 ≤ w ∧ w < 16 + n then some (f (w - 16)) else none := by
  have := lk_map (f := f) (w := w) 16 n 0
  rw [← List.range_eq_range'] at this
  simpa using this
theorem first (n : Nat) (mu : List Obj) {w : Nat} (hw : w < 16) {one two : Val} (h1 : keep one = some one) (h2 : keep two = some two) :
    R (n + 1) 4 [.int (w : Int), one, two] mu = .exc ⟨nm w, nsOf w, fsOf w one two⟩ mu := by
  refine (run_fl [.int (w : Int), one, two] (d := d__law_first) rfl rfl (fl := .exc ⟨nm w, nsOf w, fsOf w one two⟩ ⟨[.val (.int (w : Int)), .val one, .val two], mu⟩) ?_).trans rfl
  rw [b4]
  refine chain_hit (st := .rz (.rI (nm w) (nsOf w) (es1 w))) l1 (by unfold l1; rw [lk0, if_pos hw]) ?_
  show ex pr.G (R n) _ ⟨[.val (.int (w : Int)), .val one, .val two], mu⟩ = _
  rw [ex_rz, exR_I]
  by_cases h : w = 15
  · subst h
    simp [es1, h1, h2, nsOf, fsOf]
  · have : (nsOf w).length = 1 := by rcases cases28 (w := w) (by omega) with rfl | rfl | rfl | rfl | rfl | rfl | rfl | rfl | rfl | rfl | rfl | rfl | rfl | rfl | rfl | rfl | rfl | rfl | rfl | rfl | rfl | rfl | rfl | rfl | rfl | rfl | rfl | rfl <;> first | rfl | omega
    simp [es1, h, h1, this, fsOf, show w < 15 by omega]
theorem first_none (n : Nat) (mu : List Obj) {w : Nat} (hw : 16 ≤ w) {one two : Val} : R (n + 1) 4 [.int (w : Int), one, two] mu = .ok .none mu := by
  refine (run_fl [.int (w : Int), one, two] (d := d__law_first) rfl rfl (fl := .next ⟨[.val (.int (w : Int)), .val one, .val two], mu⟩) ?_).trans rfl
  rw [b4]
  exact chain_none l1 (by unfold l1; rw [lk0, if_neg (by omega)])
theorem second (n : Nat) (mu : List Obj) {w : Nat} (hw : w < 16) {one two : Val} (h1 : keep one = some one) (h2 : keep two = some two) :
    R (n + 1) 5 [.int (w : Int), one, two] mu = .exc ⟨nm w, nsOf w, fsOf w one two⟩ mu := by
  refine (run_fl [.int (w : Int), one, two] (d := d__law_second) rfl rfl (fl := .exc ⟨nm w, nsOf w, fsOf w one two⟩ ⟨[.val (.int (w : Int)), .val one, .val two], mu⟩) ?_).trans rfl
  rw [b5]
  refine chain_hit (st := .rz (.rK (nm w) (nsOf w) (ks2 w) (is2 w) (es2 w))) l2 (by unfold l2; rw [lk0, if_pos hw]) ?_
  show ex pr.G (R n) _ ⟨[.val (.int (w : Int)), .val one, .val two], mu⟩ = _
  rw [ex_rz, exR_K]
  by_cases h : w = 15
  · subst h
    simp [es2, ks2, is2, h1, h2, nsOf, fsOf, pick]
  · have : (nsOf w).length = 1 := by rcases cases28 (w := w) (by omega) with rfl | rfl | rfl | rfl | rfl | rfl | rfl | rfl | rfl | rfl | rfl | rfl | rfl | rfl | rfl | rfl | rfl | rfl | rfl | rfl | rfl | rfl | rfl | rfl | rfl | rfl | rfl | rfl <;> first | rfl | omega
    simp [es2, ks2, is2, h, h1, this, fsOf, pick, show w < 15 by omega]
theorem second_none (n : Nat) (mu : List Obj) {w : Nat} (hw : 16 ≤ w) {one two : Val} : R (n + 1) 5 [.int (w : Int), one, two] mu = .ok .none mu := by
  refine (run_fl [.int (w : Int), one, two] (d := d__law_second) rfl rfl (fl := .next ⟨[.val (.int (w : Int)), .val one, .val two], mu⟩) ?_).trans rfl
  rw [b5]
  exact chain_none l2 (by unfold l2; rw [lk0, if_neg (by omega)])
theorem no_f {w : Nat} (hw : 16 ≤ w) {one two : Val} : nsOf w = [] ∧ fsOf w one two = [] := by
  unfold nsOf fsOf
  constructor
  · (repeat' split) <;> first | rfl | omega
  · (repeat' split) <;> first | rfl | omega
theorem third (n : Nat) (mu : List Obj) {w : Nat} (hw : 16 ≤ w) (hw2 : w < 28) {one two : Val} : R (n + 1) 6 [.int (w : Int)] mu = .exc ⟨nm w, nsOf w, fsOf w one two⟩ mu := by
  obtain ⟨e1, e2⟩ := no_f hw (one := one) (two := two)
  rw [e1, e2]
  refine (run_fl [.int (w : Int)] (d := d__law_third) rfl rfl (fl := .exc ⟨nm w, [], []⟩ ⟨[.val (.int (w : Int))], mu⟩) ?_).trans rfl
  rw [b6]
  refine chain_hit (st := .rz (.r0 (nm (w - 16 + 16)))) l3 (by unfold l3; rw [lk16 (f := fun w => .rz (.r0 (nm (w + 16)))), if_pos (by omega)]) ?_
  rw [show w - 16 + 16 = w by omega]; rfl
theorem fourth (n : Nat) (mu : List Obj) {w : Nat} (hw : 16 ≤ w) (hw2 : w < 28) {one two t : Val} : R (n + 1) 7 [.int (w : Int), t] mu = .exc ⟨nm w, nsOf w, fsOf w one two⟩ mu := by
  obtain ⟨e1, e2⟩ := no_f hw (one := one) (two := two)
  rw [e1, e2]
  refine (run_fl [.int (w : Int), t] (d := d__law_fourth) rfl rfl (fl := .exc ⟨nm w, [], []⟩ ⟨[.val (.int (w : Int)), .val t], mu⟩) ?_).trans rfl
  rw [b7]
  refine chain_hit (st := .rz (.rE (nm (w - 16 + 16)) (.var 1))) l4 (by unfold l4; rw [lk16 (f := fun w => .rz (.rE (nm (w + 16)) (.var 1))), if_pos (by omega)]) ?_
  rw [show w - 16 + 16 = w by omega]; rfl
end K20
end F_K20b
section F_K20c
set_option maxRecDepth 100000
set_option maxHeartbeats 4000000
namespace K20
open M
def Lsubs : List PySem.Str := ["Dry", "NoBack", "NoBeat", "NoBook", "NoDeed", "NoDrive", "NoFace", "NoFlow", "NoLane", "NoLine", "NoLoop", "NoMeasure", "NoModule", "NoName", "NoNet", "NoPart", "NoPlace", "NoRoom", "NoState", "NoText", "NoTitle", "NoWait", "NoWay", "NoWord", "Over", "TooDeep", "TooLong", "Twice"]
theorem sub_ok : ∀ w, w < 28 → Lsubs.contains (nm w) = true := by decide +kernel
theorem g1 : pr.G[1]? = some (.cls "LoomError" Lsubs []) := rfl
def tryB : Sts := (.cons (.if_ (.cmp .eq (.var 1) (.cst (.int 0))) (.cons (.expr (.call 4 (.cons (.var 0) (.cons (.var 2) (.cons (.var 3) .nil)))))
    (.cons (.expr (.call 6 (.cons (.var 0) .nil)))
    .nil)) (.cons (.expr (.call 5 (.cons (.var 0) (.cons (.var 2) (.cons (.var 3) .nil)))))
    (.cons (.expr (.call 7 (.cons (.var 0) (.cons (.ix (.lst (.cons (.cst (.str [])) (.cons (.cst (.str [97, 97])) (.cons (.cst (.str [110, 111, 32, 115, 117, 99, 104, 32, 116, 104, 105, 110, 103])) .nil)))) (.bin .sub (.var 1) (.cst (.int 1)))) .nil))))
    .nil)))
    .nil)
theorem b8 : d__law_caught.body = .cons (.asg (.nm 4) (.cst .none)) (.cons (.tryAs tryB 1 5 4) (.cons (.ret (.var 4)) .nil)) := rfl
theorem try_run {G : List Val} {C : CallEnv} {mu : List Obj} {w way : Nat} (hway : way < 4) {one two : Val} {e : Exc} (h1 : keep one = some one) (h2 : keep two = some two)
    (c4 : C 4 [.int (w : Int), one, two] mu = if w < 16 then .exc e mu else .ok .none mu) (c5 : C 5 [.int (w : Int), one, two] mu = if w < 16 then .exc e mu else .ok .none mu)
    (c6 : ¬ w < 16 → C 6 [.int (w : Int)] mu = .exc e mu) (c7 : ¬ w < 16 → ∀ t, C 7 [.int (w : Int), t] mu = .exc e mu) :
    exs G C tryB ⟨[.val (.int (w : Int)), .val (.int (way : Int)), .val one, .val two, .val .none, .none], mu⟩ = .exc e ⟨[.val (.int (w : Int)), .val (.int (way : Int)), .val one, .val two, .val .none, .none], mu⟩ := by
  by_cases hw : w < 16
  · rw [if_pos hw] at c4 c5
    by_cases h0 : way = 0
    · subst h0
      simp [tryB, h1, h2, c4]
    · have hb : ((way : Int) == 0) = false := beq_eq_false_iff_ne.mpr (by omega)
      simp [tryB, h1, h2, c5, hb]
  · rw [if_neg hw] at c4 c5
    have c6 := c6 hw
    have c7 := c7 hw
    by_cases h0 : way = 0
    · subst h0
      simp [tryB, h1, h2, c4, c6]
    · have hb : ((way : Int) == 0) = false := beq_eq_false_iff_ne.mpr (by omega)
      have hat : ∀ a b c : Val, ∃ t, atI [a, b, c] ((way : Int) - 1) = some t ∧ (t = a ∨ t = b ∨ t = c) := fun a b c => by
        rcases (by omega : way = 1 ∨ way = 2 ∨ way = 3) with rfl | rfl | rfl
        · exact ⟨a, rfl, .inl rfl⟩
        · exact ⟨b, rfl, .inr (.inl rfl)⟩
        · exact ⟨c, rfl, .inr (.inr rfl)⟩
      obtain ⟨t, ht, hk⟩ := hat (.str []) (.str [97, 97]) (.str [110, 111, 32, 115, 117, 99, 104, 32, 116, 104, 105, 110, 103])
      have kt : keep t = some t := by rcases hk with rfl | rfl | rfl <;> rfl
      have l3 : (3 : Nat) ≤ line := by unfold line; omega
      simp [tryB, h1, h2, c5, hb, ht, kt, c7, l3]
theorem caught (n : Nat) (mu : List Obj) {w way : Nat} (hw : w < 28) (hway : way < 4) {one two : Val} (h1 : keep one = some one) (h2 : keep two = some two) :
    R (n + 2) 8 [.int (w : Int), .int (way : Int), one, two] mu = .ok (.exc (nm w) (nsOf w) (fsOf w one two)) mu := by
  refine (run_fl [.int (w : Int), .int (way : Int), one, two] (d := d__law_caught) rfl rfl (fl := .ret (.exc (nm w) (nsOf w) (fsOf w one two)) ⟨[.val (.int (w : Int)), .val (.int (way : Int)), .val one, .val two, .val (.exc (nm w) (nsOf w) (fsOf w one two)), .none], mu⟩) ?_).trans rfl
  rw [b8]
  show exs pr.G (R (n + 1)) _ ⟨[.val (.int (w : Int)), .val (.int (way : Int)), .val one, .val two, .none, .none], mu⟩ = _
  have t := try_run (G := pr.G) (C := R (n + 1)) (mu := mu) (e := ⟨nm w, nsOf w, fsOf w one two⟩) hway h1 h2
    (by by_cases h : w < 16
        · rw [if_pos h]; exact first n mu h h1 h2
        · rw [if_neg h]; exact first_none n mu (by omega))
    (by by_cases h : w < 16
        · rw [if_pos h]; exact second n mu h h1 h2
        · rw [if_neg h]; exact second_none n mu (by omega))
    (fun h => third n mu (by omega) hw) (fun h t => fourth n mu (by omega) hw)
  have sb := sub_ok w hw
  generalize nm w = c at *
  generalize nsOf w = ns at *
  generalize fsOf w one two = fs at *
  rw [exs_cons]
  have x1 : ex pr.G (R (n + 1)) (.asg (.nm 4) (.cst .none)) ⟨[.val (.int (w : Int)), .val (.int (way : Int)), .val one, .val two, .none, .none], mu⟩ = .next ⟨[.val (.int (w : Int)), .val (.int (way : Int)), .val one, .val two, .val .none, .none], mu⟩ := by simp
  rw [x1, Fl.seq_next, exs_cons, ex_try g1, t]
  unfold tryAs
  simp only [sb, if_true]
  simp
def dB : FDef := d__law_borne
theorem borne_body {G : List Val} {C : CallEnv} {mu : List Obj} {w : Nat} (hw : w < 28) {one two : Val} {c : PySem.Str} (h1 : keep one = some one) (h2 : keep two = some two) :
    exs G C d__law_borne.body ⟨[.val (.int (w : Int)), .val (.exc c (nsOf w) (fsOf w one two))], mu⟩ = .ret (.lst (fsOf w one two)) ⟨[.val (.int (w : Int)), .val (.exc c (nsOf w) (fsOf w one two))], mu⟩ := by
  have l1 : (1 : Nat) ≤ line := by unfold line; omega
  have l2 : (2 : Nat) ≤ line := by unfold line; omega
  have lk : ∀ (n : PySem.Str) (fs : List Val) (s : MS), fldV (.exc c [n] [one]) n = some one := fun n fs s => by simp [fldV]
  by_cases c1 : w < 4
  · have e1 : nsOf w = (["name"] : List PySem.Str) := by unfold nsOf; rw [if_pos c1]
    have e2 : fsOf w one two = [one] := by unfold fsOf; rw [if_pos (by omega)]
    rw [e1, e2]
    have : (w : Int) < 4 := by omega
    simp [d__law_borne, this, fldV, h1, l1]
  have n1 : ¬ (w : Int) < 4 := by omega
  by_cases c2 : w < 8
  · have e1 : nsOf w = (["wrong"] : List PySem.Str) := by unfold nsOf; rw [if_neg c1, if_pos c2]
    have e2 : fsOf w one two = [one] := by unfold fsOf; rw [if_pos (by omega)]
    rw [e1, e2]
    have : (w : Int) < 8 := by omega
    simp [d__law_borne, n1, this, fldV, h1, l1]
  have n2 : ¬ (w : Int) < 8 := by omega
  by_cases c3 : w < 10
  · have e1 : nsOf w = (["at"] : List PySem.Str) := by unfold nsOf; rw [if_neg c1, if_neg c2, if_pos c3]
    have e2 : fsOf w one two = [one] := by unfold fsOf; rw [if_pos (by omega)]
    rw [e1, e2]
    have : (w : Int) < 10 := by omega
    simp [d__law_borne, n1, n2, this, fldV, h1, l1]
  have n3 : ¬ (w : Int) < 10 := by omega
  by_cases c4 : w < 13
  · have e1 : nsOf w = (["lane"] : List PySem.Str) := by unfold nsOf; rw [if_neg c1, if_neg c2, if_neg c3, if_pos c4]
    have e2 : fsOf w one two = [one] := by unfold fsOf; rw [if_pos (by omega)]
    rw [e1, e2]
    have : (w : Int) < 13 := by omega
    simp [d__law_borne, n1, n2, n3, this, fldV, h1, l1]
  have n4 : ¬ (w : Int) < 13 := by omega
  by_cases c5 : w = 13
  · subst c5
    simp [d__law_borne, nsOf, fsOf, fldV, h1, l1]
  have n5 : ((w : Int) == 13) = false := beq_eq_false_iff_ne.mpr (by omega)
  by_cases c6 : w = 14
  · subst c6
    simp [d__law_borne, nsOf, fsOf, fldV, h1, l1]
  have n6 : ((w : Int) == 14) = false := beq_eq_false_iff_ne.mpr (by omega)
  by_cases c7 : w = 15
  · subst c7
    have q1 : (PySem.Str.ofString "at" == PySem.Str.ofString "row") = false := by decide +kernel
    simp [d__law_borne, nsOf, fsOf, fldV, h1, h2, l2, List.lookup_cons, q1]
  have n7 : ((w : Int) == 15) = false := beq_eq_false_iff_ne.mpr (by omega)
  have e2 : fsOf w one two = [] := by unfold fsOf; rw [if_neg (by omega), if_neg (by omega)]
  rw [e2]
  simp [d__law_borne, n1, n2, n3, n4, n5, n6, n7]
theorem borne (n : Nat) (mu : List Obj) {w : Nat} (hw : w < 28) {one two : Val} {c : PySem.Str} (h1 : keep one = some one) (h2 : keep two = some two) :
    R (n + 1) 9 [.int (w : Int), .exc c (nsOf w) (fsOf w one two)] mu = .ok (.lst (fsOf w one two)) mu :=
  run_fl [.int (w : Int), .exc c (nsOf w) (fsOf w one two)] (d := d__law_borne) rfl rfl (borne_body hw h1 h2)
end K20
end F_K20c
section F_K20d
set_option maxRecDepth 100000
set_option maxHeartbeats 4000000
namespace K20
open M
def gi (k : Nat) : Nat := [3, 8, 14, 28, 4, 11, 13, 15, 5, 19, 18, 0, 25, 7, 17, 20, 2, 6, 9, 10, 12, 16, 21, 22, 23, 24, 26, 27].getD k 0
def chk (k : Nat) : Bool := match pr.G[gi k]? with
  | some (.cls _ subs nots) => (List.range 28).all fun w => (subs.contains (nm w) == (w == k)) && (w == k || nots.contains (nm w))
  | _ => false
theorem chk_all : (List.range 28).all chk = true := by decide +kernel
theorem inst (k : Nat) (hk : k < 28) : ∃ c subs nots, pr.G[gi k]? = some (.cls c subs nots) ∧ ∀ w, w < 28 → ∀ ns fs, isInstC (.exc (nm w) ns fs) subs nots = some (w == k) := by
  have h := List.all_eq_true.mp chk_all k (List.mem_range.mpr hk)
  unfold chk at h
  split at h
  · rename_i c subs nots e
    refine ⟨c, subs, nots, e, fun w hw ns fs => ?_⟩
    have h := List.all_eq_true.mp h w (List.mem_range.mpr hw)
    rw [Bool.and_eq_true, beq_iff_eq] at h
    show (if subs.contains (nm w) then some true else if nots.contains (nm w) then some false else none) = _
    rw [h.1]
    cases hb : (w == k) with
    | true => rfl
    | false =>
      have h2 := h.2
      rw [hb, Bool.false_or] at h2
      rw [if_neg (by simp), if_pos h2]
  · cases h
def isE (k : Nat) : E := .bcall .isinstance (.cons (.var 0) (.cons (.glob (gi k)) .nil))
theorem ev_isE (C : CallEnv) {k w : Nat} (hk : k < 28) (hw : w < 28) {ns : List PySem.Str} {fs : List Val} {rest : List Slot} {mu : List Obj} :
    ev pr.G C (isE k) ⟨.val (.exc (nm w) ns fs) :: rest, mu⟩ = .ok (.bool (w == k)) ⟨.val (.exc (nm w) ns fs) :: rest, mu⟩ := by
  obtain ⟨c, subs, nots, e, h⟩ := inst k hk
  have h := h w hw ns fs
  unfold isE
  generalize gi k = g at *
  generalize pr.G = G at *
  simp [e, mapM_cons, h]
theorem mk1 (C : CallEnv) {a b c w : Nat} (ha : a < 28) (hb : b < 28) (hc : c < 28) (hw : w < 28) {ns : List PySem.Str} {fs : List Val} {s1 s2 : Slot} {mu : List Obj} :
    ex pr.G C (.asg (.nm 1) (.lst (.cons (isE a) (.cons (isE b) (.cons (isE c) .nil))))) ⟨[.val (.exc (nm w) ns fs), s1, s2], mu⟩ = .next ⟨[.val (.exc (nm w) ns fs), .val (.lst [.bool (w == a), .bool (w == b), .bool (w == c)]), s2], mu⟩ := by
  have e1 := ev_isE C ha hw (ns := ns) (fs := fs) (rest := [s1, s2]) (mu := mu)
  have e2 := ev_isE C hb hw (ns := ns) (fs := fs) (rest := [s1, s2]) (mu := mu)
  have e3 := ev_isE C hc hw (ns := ns) (fs := fs) (rest := [s1, s2]) (mu := mu)
  have l3 : (3 : Nat) ≤ line := by unfold line; omega
  generalize pr.G = G at *
  simp [e1, e2, e3, l3]
theorem mk2 (C : CallEnv) {es : Es} {bs vs : List Val} {w : Nat} {ns : List PySem.Str} {fs : List Val} {s2 : Slot} {mu : List Obj} (hl : bs.length + vs.length ≤ 100)
    (he : ∀ s1, evs pr.G C es ⟨[.val (.exc (nm w) ns fs), s1, s2], mu⟩ = .ok vs ⟨[.val (.exc (nm w) ns fs), s1, s2], mu⟩) :
    ex pr.G C (.asg (.nm 1) (.bin .add (.var 1) (.lst es))) ⟨[.val (.exc (nm w) ns fs), .val (.lst bs), s2], mu⟩ = .next ⟨[.val (.exc (nm w) ns fs), .val (.lst (bs ++ vs)), s2], mu⟩ := by
  have he := he (.val (.lst bs))
  have l3 : vs.length ≤ line := by unfold line; omega
  have l4 : bs.length + vs.length ≤ line := by unfold line; omega
  generalize pr.G = G at *
  simp [he, l3, l4]
theorem evs3 (C : CallEnv) {a b c w : Nat} (ha : a < 28) (hb : b < 28) (hc : c < 28) (hw : w < 28) {ns : List PySem.Str} {fs : List Val} {s2 : Slot} {mu : List Obj} (s1 : Slot) :
    evs pr.G C (.cons (isE a) (.cons (isE b) (.cons (isE c) .nil))) ⟨[.val (.exc (nm w) ns fs), s1, s2], mu⟩ = .ok [.bool (w == a), .bool (w == b), .bool (w == c)] ⟨[.val (.exc (nm w) ns fs), s1, s2], mu⟩ := by
  have e1 := ev_isE C ha hw (ns := ns) (fs := fs) (rest := [s1, s2]) (mu := mu)
  have e2 := ev_isE C hb hw (ns := ns) (fs := fs) (rest := [s1, s2]) (mu := mu)
  have e3 := ev_isE C hc hw (ns := ns) (fs := fs) (rest := [s1, s2]) (mu := mu)
  generalize pr.G = G at *
  simp [e1, e2, e3]
theorem evs1 (C : CallEnv) {a w : Nat} (ha : a < 28) (hw : w < 28) {ns : List PySem.Str} {fs : List Val} {s2 : Slot} {mu : List Obj} (s1 : Slot) :
    evs pr.G C (.cons (isE a) .nil) ⟨[.val (.exc (nm w) ns fs), s1, s2], mu⟩ = .ok [.bool (w == a)] ⟨[.val (.exc (nm w) ns fs), s1, s2], mu⟩ := by
  have e1 := ev_isE C ha hw (ns := ns) (fs := fs) (rest := [s1, s2]) (mu := mu)
  generalize pr.G = G at *
  simp [e1]
def A3 (a b c : Nat) : St := .asg (.nm 1) (.bin .add (.var 1) (.lst (.cons (isE a) (.cons (isE b) (.cons (isE c) .nil)))))
def lcM : E := .lc (.var 2) (.nm 2) (.range (.cons (.bcall .len (.cons (.var 1) .nil)) .nil)) (.cons (.ix (.var 1) (.var 2)) .nil) [2]
theorem b3 : d__law_marks.body = .cons (.asg (.nm 1) (.lst (.cons (isE 0) (.cons (isE 1) (.cons (isE 2) .nil))))) (.cons (A3 3 4 5) (.cons (A3 6 7 8) (.cons (A3 9 10 11) (.cons (A3 12 13 14) (.cons (A3 15 16 17) (.cons (A3 18 19 20) (.cons (A3 21 22 23) (.cons (A3 24 25 26)
  (.cons (.asg (.nm 1) (.bin .add (.var 1) (.lst (.cons (isE 27) .nil)))) (.cons (.ret lcM) .nil)))))))))) := rfl
def marks (w : Nat) : List Val := (List.range 28).map fun k => .bool (w == k)
theorem fil (w : Nat) (hw : w < 28) : (((upTo 0 28).filter fun v => match v with | .int i => i == (w : Int) | _ => false).map id) = [.int (w : Int)] := by
  rcases cases28 hw with rfl | rfl | rfl | rfl | rfl | rfl | rfl | rfl | rfl | rfl | rfl | rfl | rfl | rfl | rfl | rfl | rfl | rfl | rfl | rfl | rfl | rfl | rfl | rfl | rfl | rfl | rfl | rfl <;> rfl
theorem lc_marks {G : List Val} (C : CallEnv) {w : Nat} (hw : w < 28) {s0 : Slot} {mu : List Obj} : ev G C lcM ⟨[s0, .val (.lst (marks w)), .none], mu⟩ = .ok (.lst [.int (w : Int)]) ⟨[s0, .val (.lst (marks w)), .none], mu⟩ := by
  have hlen : (marks w).length = 28 := by unfold marks; simp
  have hi : evI G C (.range (.cons (.bcall .len (.cons (.var 1) .nil)) .nil)) ⟨[s0, .val (.lst (marks w)), .none], mu⟩ = .ok ⟨upTo 0 28, []⟩ ⟨[s0, .val (.lst (marks w)), .none], mu⟩ :=
    evI_range_ok (vs := [.int 28]) (by simp [mapM_cons, hlen]) (range_nat (n := 28) (by decide))
  have hg : ∀ k : Nat, k < 28 → atI (marks w) (0 + (k : Int)) = some (.bool (w == k)) := fun k hk => by
    rw [Int.zero_add, atI_nat (by rw [hlen]; exact hk)]
    unfold marks
    rw [List.getElem?_map, List.getElem?_range hk]; rfl
  have := lc_filter (G := G) (C := C) (i := 2) (sl := [s0, .val (.lst (marks w)), .none]) (mu := mu) (ifs := .cons (.ix (.var 1) (.var 2)) .nil) (elt := .var 2) (q := fun v => match v with | .int i => i == (w : Int) | _ => false) (g := id)
    (by simp) hi (by rw [upTo_len]; unfold line; omega) (fun v hv => by
      obtain ⟨k, hk, rfl⟩ := upTo_mem _ _ _ hv
      have h := hg k hk
      generalize marks w = ms at *
      have hb : ((0 + (k : Int)) == (w : Int)) = (w == k) := by
        by_cases e : w = k
        · subst e; simp
        · rw [beq_eq_false_iff_ne.mpr e]; exact beq_eq_false_iff_ne.mpr (by omega)
      simp only [hb]
      rw [evt_cons]
      simp only [ev_ix, ev_var, List.set_cons_succ, List.set_cons_zero, List.getElem?_cons_succ, List.getElem?_cons_zero, Out.bind_ok, rd_lst, Option.bind_some, ix_lst, h, lift_some, rd_bool, tru_bool]
      cases (w == k) <;> rfl) (fun v hv _ => by
      obtain ⟨k, hk, rfl⟩ := upTo_mem _ _ _ hv
      exact ⟨rfl, rfl⟩)
  rw [fil w hw] at this
  exact this
theorem marks_run (n : Nat) (mu : List Obj) {w : Nat} (hw : w < 28) {ns : List PySem.Str} {fs : List Val} : R (n + 1) 3 [.exc (nm w) ns fs] mu = .ok (.lst [.int (w : Int)]) mu := by
  refine (run_fl [.exc (nm w) ns fs] (d := d__law_marks) rfl rfl (fl := .ret (.lst [.int (w : Int)]) ⟨[.val (.exc (nm w) ns fs), .val (.lst (marks w)), .none], mu⟩) ?_).trans rfl
  rw [b3]
  show exs pr.G (R n) _ ⟨[.val (.exc (nm w) ns fs), .none, .none], mu⟩ = _
  generalize R n = C
  unfold A3
  rw [exs_cons, mk1 C (by decide) (by decide) (by decide) hw, Fl.seq_next, exs_cons, mk2 C (by simp) (evs3 C (by decide) (by decide) (by decide) hw), Fl.seq_next, exs_cons, mk2 C (by simp) (evs3 C (by decide) (by decide) (by decide) hw), Fl.seq_next,
    exs_cons, mk2 C (by simp) (evs3 C (by decide) (by decide) (by decide) hw), Fl.seq_next, exs_cons, mk2 C (by simp) (evs3 C (by decide) (by decide) (by decide) hw), Fl.seq_next, exs_cons, mk2 C (by simp) (evs3 C (by decide) (by decide) (by decide) hw), Fl.seq_next,
    exs_cons, mk2 C (by simp) (evs3 C (by decide) (by decide) (by decide) hw), Fl.seq_next, exs_cons, mk2 C (by simp) (evs3 C (by decide) (by decide) (by decide) hw), Fl.seq_next, exs_cons, mk2 C (by simp) (evs3 C (by decide) (by decide) (by decide) hw), Fl.seq_next,
    exs_cons, mk2 C (by simp) (evs1 C (by decide) hw), Fl.seq_next, exs_cons, ex_ret]
  have em : ([.bool (w == 0), .bool (w == 1), .bool (w == 2)] ++ [.bool (w == 3), .bool (w == 4), .bool (w == 5)] ++ [.bool (w == 6), .bool (w == 7), .bool (w == 8)] ++ [.bool (w == 9), .bool (w == 10), .bool (w == 11)] ++ [.bool (w == 12), .bool (w == 13), .bool (w == 14)] ++ [.bool (w == 15), .bool (w == 16), .bool (w == 17)] ++
    [.bool (w == 18), .bool (w == 19), .bool (w == 20)] ++ [.bool (w == 21), .bool (w == 22), .bool (w == 23)] ++ [.bool (w == 24), .bool (w == 25), .bool (w == 26)] ++ [.bool (w == 27)] : List Val) = marks w := rfl
  rw [em, lc_marks (G := pr.G) C hw (s0 := .val (.exc (nm w) ns fs)) (mu := mu)]
  rfl
end K20
end F_K20d
section F_K20e
set_option maxRecDepth 100000
set_option maxHeartbeats 4000000
namespace K20
open M
structure Gd (v : Val) : Prop where
  d3 : isData 3 v = true
  d15 : isData 15 v = true
  ok : okD 20 5 v = true
  kp : keep v = some v
theorem ge0 {i : Int} (h0 : 0 ≤ i) (h : i < 10 ^ 30) : i.natAbs < 10 ^ 300 := by
  have h1 : ((i.natAbs : Nat) : Int) < ((10 ^ 30 : Nat) : Int) := by rw [Int.natAbs_of_nonneg h0]; simpa using h
  have h2 : i.natAbs < 10 ^ 30 := Int.ofNat_lt.mp h1
  exact Nat.lt_trans h2 (Nat.pow_lt_pow_right (by decide) (by decide))
abbrev Drw (C : CallEnv) (p q : Nat) : Prop := ∀ (N : Nat) (mu : List Obj) (m : Int), Pu p q N mu → 0 < m → m < 2 ^ 8000 → N < 1000000 → ∃ d mu', C 1 [.ref q, .int m] mu = .ok (.int d) mu' ∧ 0 ≤ d ∧ d < m ∧ Pu p q (N + 1) mu'
theorem num_st {G : List Val} {C : CallEnv} {p q N : Nat} {mu : List Obj} (hd : Drw C p q) (hp : Pu p q N mu) (hN : N < 999990) {w : Nat} :
    ∃ num mu', ex G C (.asg (.nm 2) (.ix (.lst (.cons (.call 1 (.cons (.var 0) (.cons (.cst (.int 12)) .nil))) (.cons (.call 1 (.cons (.var 0) (.cons (.bin .pow (.cst (.int 10)) (.cst (.int 30))) .nil))) .nil))) (.call 1 (.cons (.var 0) (.cons (.cst (.int 2)) .nil))))) ⟨[.val (.ref q), .val (.int (w : Int)), .none], mu⟩ =
      .next ⟨[.val (.ref q), .val (.int (w : Int)), .val (.int num)], mu'⟩ ∧ 0 ≤ num ∧ num < 10 ^ 30 ∧ Pu p q (N + 3) mu' := by
  have hlt : (1000000000000000000000000000000 : Int) < 2 ^ 8000 := Int.lt_of_lt_of_le (by decide : (1000000000000000000000000000000 : Int) < 2 ^ 100) (by exact_mod_cast (Nat.pow_le_pow_right (by decide) (by decide) : 2 ^ 100 ≤ 2 ^ 8000))
  obtain ⟨d1, m1, e1, a1, b1, q1⟩ := hd N mu 12 hp (by decide) (Int.lt_trans (by decide) hlt) (by omega)
  obtain ⟨d2, m2, e2, a2, b2, q2⟩ := hd (N + 1) m1 1000000000000000000000000000000 q1 (by decide) hlt (by omega)
  obtain ⟨d3, m3, e3, a3, b3, q3⟩ := hd (N + 2) m2 2 q2 (by decide) (Int.lt_trans (by decide) hlt) (by omega)
  obtain ⟨v, hv, ea⟩ := atI_mem (xs := [Val.int d1, Val.int d2]) a3 (by simpa using b3)
  have p30 : (10 : Int) ^ 30 = 1000000000000000000000000000000 := by decide +kernel
  have bp : (bits 10 + 1) * 30 ≤ 1000000 := by decide +kernel
  have l2 : (2 : Nat) ≤ line := by unfold line; omega
  obtain ⟨num, rfl, hn⟩ : ∃ num : Int, v = .int num ∧ (0 ≤ num ∧ num < 10 ^ 30) := by
    simp only [List.mem_cons, List.not_mem_nil, or_false] at hv
    rw [p30]
    rcases hv with rfl | rfl
    · exact ⟨d1, rfl, a1, by omega⟩
    · exact ⟨d2, rfl, a2, b2⟩
  refine ⟨num, m3, ?_, hn.1, hn.2, q3⟩
  simp [e1, p30, bp, e2, e3, ea, l2]
theorem pick_st {G : List Val} {C : CallEnv} {p q N : Nat} {mu : List Obj} (hd : Drw C p q) (hp : Pu p q N mu) (hN : N < 999990) {sl : List Slot} {es : Es} {vs : List Val} {k : Nat} (hk : 0 < k) (hk2 : k < 100) (h0 : sl[0]? = some (.val (.ref q)))
    (he : evs G C es ⟨sl, mu⟩ = .ok vs ⟨sl, mu⟩) (hl : vs.length = k) (hg : ∀ v ∈ vs, Gd v) :
    ∃ v mu', ex G C (.ret (.ix (.lst es) (.call 1 (.cons (.var 0) (.cons (.cst (.int (k : Int))) .nil))))) ⟨sl, mu⟩ = .ret v ⟨sl, mu'⟩ ∧ Gd v ∧ Pu p q (N + 1) mu' := by
  obtain ⟨d, m1, e1, a1, b1, q1⟩ := hd N mu (k : Int) hp (by omega) (Int.lt_of_lt_of_le (b := 2 ^ 100) (Int.lt_of_lt_of_le (b := 100) (by omega) (by decide)) (by exact_mod_cast (Nat.pow_le_pow_right (by decide) (by decide) : 2 ^ 100 ≤ 2 ^ 8000))) (by omega)
  obtain ⟨v, hv, ea⟩ := atI_mem (xs := vs) a1 (by rw [hl]; exact b1)
  have l2 : vs.length ≤ line := by unfold line; omega
  refine ⟨v, m1, ?_, hg v hv, q1⟩
  simp [he, l2, h0, e1, ea, (hg v hv).kp]
theorem thing_body {G : List Val} {C : CallEnv} {p q N : Nat} {mu : List Obj} (hd : Drw C p q) (hp : Pu p q N mu) (hN : N < 999980) {w : Nat} (hw : w < 28) :
    ∃ v sl mu', exs G C d__law_thing.body ⟨[.val (.ref q), .val (.int (w : Int)), .none], mu⟩ = .ret v ⟨sl, mu'⟩ ∧ Gd v ∧ Pu p q (N + 4) mu' := by
  obtain ⟨num, m1, x1, n0, n1, q1⟩ := num_st (G := G) (w := w) hd hp (by omega)
  have hn := ge0 n0 n1
  have gn : Gd (.int num) := ⟨rfl, rfl, by simpa [okD] using hn, rfl⟩
  have z0 : 0 < 10 ^ 300 := Nat.pow_pos (by decide)
  have z1 : 1 < 10 ^ 300 := Nat.one_lt_pow (by decide) (by decide)
  have z3 : 3 < 10 ^ 300 := Nat.lt_of_lt_of_le (by decide : 3 < 10 ^ 1) (Nat.pow_le_pow_right (by decide) (by decide))
  have l1 : (1 : Nat) ≤ line := by unfold line; omega
  have l2 : (2 : Nat) ≤ line := by unfold line; omega
  have l3 : (3 : Nat) ≤ line := by unfold line; omega
  generalize hsl : [Slot.val (.ref q), .val (.int (w : Int)), .val (.int num)] = sl at x1
  have s0 : sl[0]? = some (.val (.ref q)) := by subst hsl; rfl
  have s1 : sl[1]? = some (.val (.int (w : Int))) := by subst hsl; rfl
  have s2 : sl[2]? = some (.val (.int num)) := by subst hsl; rfl
  obtain ⟨v1, k1, y1, g1, r1⟩ := pick_st (G := G) (es := .cons (.cst (.str [97])) (.cons (.cst (.str [97, 97])) (.cons (.cst (.str [101, 105, 103, 104, 116, 101, 101, 110])) (.cons (.cst (.str [122, 122])) (.cons (.cst (.str [98])) .nil)))))
    (vs := [.str [97], .str [97, 97], .str [101, 105, 103, 104, 116, 101, 101, 110], .str [122, 122], .str [98]]) (k := 5) hd q1 (by omega) (by omega) (by omega) s0 (by simp) rfl (by
      intro v hv
      simp only [List.mem_cons, List.not_mem_nil, or_false] at hv
      rcases hv with rfl | rfl | rfl | rfl | rfl <;> exact ⟨rfl, rfl, by decide, rfl⟩)
  obtain ⟨v2, k2, y2, g2, r2⟩ := pick_st (G := G) (es := .cons (.tup (.cons (.cst (.str [109, 111, 100, 117, 108, 101])) .nil)) (.cons (.tup (.cons (.cst (.str [110, 97, 109, 101])) .nil)) (.cons (.tup (.cons (.cst (.str [114, 111, 119])) (.cons (.var 2) .nil))) (.cons (.tup (.cons (.cst (.str [109, 111, 100, 117, 108, 101, 115])) .nil)) (.cons (.tup (.cons (.cst (.str [110, 97, 109, 101])) (.cons (.var 2) .nil))) .nil)))))
    (vs := [.tup [.str [109, 111, 100, 117, 108, 101]], .tup [.str [110, 97, 109, 101]], .tup [.str [114, 111, 119], .int num], .tup [.str [109, 111, 100, 117, 108, 101, 115]], .tup [.str [110, 97, 109, 101], .int num]]) (k := 5) hd q1 (by omega) (by omega) (by omega) s0 (by simp [s2, l1, l2]) rfl (by
      intro v hv
      simp only [List.mem_cons, List.not_mem_nil, or_false] at hv
      rcases hv with rfl | rfl | rfl | rfl | rfl <;> refine ⟨rfl, rfl, ?_, rfl⟩ <;> simp [okD, okDs, hn])
  obtain ⟨v3, k3, y3, g3, r3⟩ := pick_st (G := G) (es := .cons (.tup (.cons (.cst (.str [114, 105, 110, 103])) (.cons (.lst (.cons (.cst (.str [97])) (.cons (.cst (.str [98])) .nil))) .nil))) (.cons (.tup (.cons (.cst (.str [105, 110, 110, 101, 114])) (.cons (.cst (.str [97, 97])) .nil))) (.cons (.tup (.cons (.cst (.str [114, 105, 110, 103])) (.cons (.lst (.cons (.cst (.str [120])) .nil)) .nil))) (.cons (.tup (.cons (.cst (.str [112, 108, 97, 105, 110])) (.cons (.cst (.int 2)) (.cons (.cst (.int 0)) .nil)))) .nil))))
    (vs := [.tup [.str [114, 105, 110, 103], .lst [.str [97], .str [98]]], .tup [.str [105, 110, 110, 101, 114], .str [97, 97]], .tup [.str [114, 105, 110, 103], .lst [.str [120]]], .tup [.str [112, 108, 97, 105, 110], .int 2, .int 0]]) (k := 4) hd q1 (by omega) (by omega) (by omega) s0 (by simp [l1, l2, l3]) rfl (by
      intro v hv
      simp only [List.mem_cons, List.not_mem_nil, or_false] at hv
      rcases hv with rfl | rfl | rfl | rfl <;> refine ⟨rfl, rfl, ?_, rfl⟩ <;> decide +kernel)
  obtain ⟨v4, k4, y4, g4, r4⟩ := pick_st (G := G) (es := .cons (.tup (.cons (.var 2) (.cons (.tup .nil) .nil))) (.cons (.tup (.cons (.cst (.int 0)) (.cons (.tup (.cons (.cst (.int 1)) (.cons (.cst (.int 0)) .nil))) .nil))) (.cons (.tup (.cons (.cst (.int 3)) (.cons (.tup (.cons (.var 2) .nil)) .nil))) .nil)))
    (vs := [.tup [.int num, .tup []], .tup [.int 0, .tup [.int 1, .int 0]], .tup [.int 3, .tup [.int num]]]) (k := 3) hd q1 (by omega) (by omega) (by omega) s0 (by simp [s2, l1, l2, l3]) rfl (by
      intro v hv
      simp only [List.mem_cons, List.not_mem_nil, or_false] at hv
      rcases hv with rfl | rfl | rfl <;> refine ⟨rfl, rfl, ?_, rfl⟩ <;> simp [okD, okDs, hn, z0, z1, z3])
  have y1 := y1
  rw [show d__law_thing.body = .cons (.asg (.nm 2) (.ix (.lst (.cons (.call 1 (.cons (.var 0) (.cons (.cst (.int 12)) .nil))) (.cons (.call 1 (.cons (.var 0) (.cons (.bin .pow (.cst (.int 10)) (.cst (.int 30))) .nil))) .nil))) (.call 1 (.cons (.var 0) (.cons (.cst (.int 2)) .nil))))) _ from rfl, exs_cons, x1, Fl.seq_next]
  by_cases c1 : w < 4
  · refine ⟨v1, sl, k1, ?_, g1, r1⟩
    have : (w : Int) < 4 := by omega
    rw [exs_cons, ex_if]
    simp only [test_eq, ev_cmp, ev_var, s1, ev_cst, Out.bind_ok, rd_int, Option.bind_some, opC_lt, this, decide_true, Option.map_some, lift_some, rd_bool, tru_bool, Out.fl_ok, if_true, exs_cons]
    exact (congrArg (fun f => Fl.seq (Fl.seq f _) _) y1).trans rfl
  have n1 : ¬ (w : Int) < 4 := by omega
  rw [exs_cons, ex_if]
  simp only [test_eq, ev_cmp, ev_var, s1, ev_cst, Out.bind_ok, rd_int, Option.bind_some, opC_lt, n1, decide_false, Option.map_some, lift_some, rd_bool, tru_bool, Out.fl_ok, Bool.false_eq_true, if_false, exs_nil, Fl.seq_next]
  by_cases c2 : w < 8
  · refine ⟨v2, sl, k2, ?_, g2, r2⟩
    have : (w : Int) < 8 := by omega
    rw [exs_cons, ex_if]
    simp only [test_eq, ev_cmp, ev_var, s1, ev_cst, Out.bind_ok, rd_int, Option.bind_some, opC_lt, this, decide_true, Option.map_some, lift_some, rd_bool, tru_bool, Out.fl_ok, if_true, exs_cons]
    exact (congrArg (fun f => Fl.seq (Fl.seq f _) _) y2).trans rfl
  have n2 : ¬ (w : Int) < 8 := by omega
  rw [exs_cons, ex_if]
  simp only [test_eq, ev_cmp, ev_var, s1, ev_cst, Out.bind_ok, rd_int, Option.bind_some, opC_lt, n2, decide_false, Option.map_some, lift_some, rd_bool, tru_bool, Out.fl_ok, Bool.false_eq_true, if_false, exs_nil, Fl.seq_next]
  by_cases c3 : w = 13
  · refine ⟨v3, sl, k3, ?_, g3, r3⟩
    have : ((w : Int) == 13) = true := by subst c3; rfl
    rw [exs_cons, ex_if]
    simp only [test_eq, ev_cmp, ev_var, s1, ev_cst, Out.bind_ok, rd_int, Option.bind_some, opC_eq, data_int, Bool.and_self, if_true, veq_int, this, Option.map_some, lift_some, rd_bool, tru_bool, Out.fl_ok, exs_cons]
    exact (congrArg (fun f => Fl.seq (Fl.seq f _) _) y3).trans rfl
  have n3 : ((w : Int) == 13) = false := beq_eq_false_iff_ne.mpr (by omega)
  rw [exs_cons, ex_if]
  simp only [test_eq, ev_cmp, ev_var, s1, ev_cst, Out.bind_ok, rd_int, Option.bind_some, opC_eq, data_int, Bool.and_self, if_true, veq_int, n3, Option.map_some, lift_some, rd_bool, tru_bool, Out.fl_ok, Bool.false_eq_true, if_false, exs_nil, Fl.seq_next]
  by_cases c4 : w = 14
  · refine ⟨v4, sl, k4, ?_, g4, r4⟩
    have : ((w : Int) == 14) = true := by subst c4; rfl
    rw [exs_cons, ex_if]
    simp only [test_eq, ev_cmp, ev_var, s1, ev_cst, Out.bind_ok, rd_int, Option.bind_some, opC_eq, data_int, Bool.and_self, if_true, veq_int, this, Option.map_some, lift_some, rd_bool, tru_bool, Out.fl_ok, exs_cons]
    exact (congrArg (fun f => Fl.seq (Fl.seq f _) _) y4).trans rfl
  have n4 : ((w : Int) == 14) = false := beq_eq_false_iff_ne.mpr (by omega)
  rw [exs_cons, ex_if]
  simp only [test_eq, ev_cmp, ev_var, s1, ev_cst, Out.bind_ok, rd_int, Option.bind_some, opC_eq, data_int, Bool.and_self, if_true, veq_int, n4, Option.map_some, lift_some, rd_bool, tru_bool, Out.fl_ok, Bool.false_eq_true, if_false, exs_nil, Fl.seq_next]
  refine ⟨.int num, sl, m1, ?_, gn, q1.mono (by omega)⟩
  simp [s2]
theorem thing (n : Nat) {p q N : Nat} {mu : List Obj} (hp : Pu p q N mu) (hN : N < 999980) {w : Nat} (hw : w < 28) : ∃ v mu', R (n + 2) 2 [.ref q, .int (w : Int)] mu = .ok v mu' ∧ Gd v ∧ Pu p q (N + 4) mu' := by
  obtain ⟨v, sl, mu', e, g, r⟩ := thing_body (G := pr.G) (C := R (n + 1)) (fun N mu m h1 h2 h3 h4 => by
    obtain ⟨d, mu', e, a, b, c, _⟩ := draw (G := pr.G) (F := prF) (i := 1) (n := n) rfl h1 h2 h3 h4
    exact ⟨d, mu', e, a, b, c⟩) hp hN hw
  exact ⟨v, mu', run_fl [.ref q, .int (w : Int)] (d := d__law_thing) rfl rfl e, g, r⟩
end K20
end F_K20e
section F_K20f
set_option maxRecDepth 100000
set_option maxHeartbeats 4000000
namespace K20
open M
def It (v : Val) : Prop := ∃ (w : Nat) (one two : Val), w < 28 ∧ Gd one ∧ Gd two ∧ v = .lst [.int (w : Int), .exc (nm w) (nsOf w) (fsOf w one two), .lst (fsOf w one two)]
def T1 : St := .asg (.nm 5) (.call 2 (.cons (.var 1) (.cons (.var 4) .nil)))
def T2 : St := .asg (.nm 6) (.call 2 (.cons (.var 1) (.cons (.var 4) .nil)))
def T3 : St := .asg (.nm 7) (.call 8 (.cons (.var 4) (.cons (.var 3) (.cons (.var 5) (.cons (.var 6) .nil)))))
def T4 : St := .if_ (.or_ (.cmp .ne (.call 3 (.cons (.var 7) .nil)) (.lst (.cons (.var 4) .nil))) (.not_ (.bcall .isinstance (.cons (.var 7) (.cons (.cst (.ty .valueError)) .nil))))) (.cons (.ret (.cst (.bool false))) .nil) .nil
def T5 : St := .expr (.app (.var 2) (.cons (.lst (.cons (.var 4) (.cons (.var 7) (.cons (.slice (.lst (.cons (.var 5) (.cons (.var 6) .nil))) none (some (.bin .add (.bcall .int_ (.cons (.cmp .lt (.var 4) (.cst (.int 16))) .nil)) (.bcall .int_ (.cons (.cmp .eq (.var 4) (.cst (.int 15))) .nil))))) .nil)))) .nil))
def TB : Sts := .cons T1 (.cons T2 (.cons T3 (.cons T4 (.cons T5 .nil))))
def lcL' : E := .lc (.var 4) (.tup [(.nm 4), (.nm 7), (.nm 8)]) (.e (.frz 2)) (.cons (.cmp .ne (.bcall .str_ (.cons (.call 9 (.cons (.var 4) (.cons (.var 7) .nil))) .nil)) (.bcall .str_ (.cons (.var 8) .nil))) .nil) [4, 7, 8]
theorem bl : d_law.body = .cons (.asg (.nm 1) (.call 0 (.cons (.var 0) .nil))) (.cons (.own 2 (.lst .nil)) (.cons (.for_ (.nm 3) (.range (.cons (.cst (.int 4)) .nil)) (.cons (.for_ (.nm 4) (.range (.cons (.cst (.int 28)) .nil)) TB) .nil)) (.cons (.ret (.cmp .eq lcL' (.lst .nil))) .nil))) := rfl
section
variable {G : List Val} {C : CallEnv} {v0 vq : Val} {held : List Val} {way w : Nat} {s3 s4 s5 s6 s7 s8 : Slot} {mu mu' : List Obj} {one two v : Val} {N p q : Nat}
theorem t1 (hq : keep vq = some vq) (h : C 2 [vq, .int (w : Int)] mu = .ok one mu') (k : keep one = some one) : ex G C T1 ⟨[.val v0, .val vq, .own (.lst held), s3, .val (.int (w : Int)), s5, s6, s7, s8], mu⟩ = .next ⟨[.val v0, .val vq, .own (.lst held), s3, .val (.int (w : Int)), .val one, s6, s7, s8], mu'⟩ := by
  simp [T1, hq, h, k]
theorem t2 (hq : keep vq = some vq) (h : C 2 [vq, .int (w : Int)] mu = .ok one mu') (k : keep one = some one) : ex G C T2 ⟨[.val v0, .val vq, .own (.lst held), s3, .val (.int (w : Int)), s5, s6, s7, s8], mu⟩ = .next ⟨[.val v0, .val vq, .own (.lst held), s3, .val (.int (w : Int)), s5, .val one, s7, s8], mu'⟩ := by
  simp [T2, hq, h, k]
theorem t3 (h : C 8 [.int (w : Int), .int (way : Int), one, two] mu = .ok v mu) (k1 : keep one = some one) (k2 : keep two = some two) (k : keep v = some v) : ex G C T3 ⟨[.val v0, .val vq, .own (.lst held), .val (.int (way : Int)), .val (.int (w : Int)), .val one, .val two, s7, s8], mu⟩ = .next ⟨[.val v0, .val vq, .own (.lst held), .val (.int (way : Int)), .val (.int (w : Int)), .val one, .val two, .val v, s8], mu⟩ := by
  simp [T3, h, k1, k2, k]
theorem t4 {c : PySem.Str} {ns : List PySem.Str} {fs : List Val} (h : C 3 [.exc c ns fs] mu = .ok (.lst [.int (w : Int)]) mu) : ex G C T4 ⟨[.val v0, .val vq, .own (.lst held), s3, .val (.int (w : Int)), s5, s6, .val (.exc c ns fs), s8], mu⟩ = .next ⟨[.val v0, .val vq, .own (.lst held), s3, .val (.int (w : Int)), s5, s6, .val (.exc c ns fs), s8], mu⟩ := by
  have l1 : (1 : Nat) ≤ line := by unfold line; omega
  simp [T4, h, mapM_cons, l1]
theorem cut_fs : cut [one, two] none (some ((if (w : Int) < 16 then 1 else 0) + (if (w : Int) = 15 then 1 else 0))) = fsOf w one two := by
  unfold fsOf
  by_cases h1 : w < 15
  · rw [if_pos (by omega), if_neg (by omega), if_pos h1]; rfl
  · by_cases h2 : w = 15
    · subst h2; rfl
    · rw [if_neg (by omega), if_neg (by omega), if_neg h1, if_neg h2]; rfl
theorem t5 (k1 : keep one = some one) (k2 : keep two = some two) (k : keep v = some v) (hl : held.length < 10000) :
    ex G C T5 ⟨[.val v0, .val vq, .own (.lst held), s3, .val (.int (w : Int)), .val one, .val two, .val v, s8], mu⟩ = .next ⟨[.val v0, .val vq, .own (.lst (held ++ [.lst [.int (w : Int), v, .lst (fsOf w one two)]])), s3, .val (.int (w : Int)), .val one, .val two, .val v, s8], mu⟩ := by
  have l2 : (2 : Nat) ≤ line := by unfold line; omega
  have l3 : (3 : Nat) ≤ line := by unfold line; omega
  have ll : held.length < line := by unfold line; omega
  have i1 : ∀ b : Bool, opF .int_ [.bool b] = some (.int (if b then 1 else 0)) := fun _ => rfl
  have hc := cut_fs (one := one) (two := two) (w := w)
  have gl : ∀ s : MS, s.get (.loc 2) = match s.sl[2]? with | some (Slot.own o) => some o | _ => none := fun _ => rfl
  have pl : ∀ (s : MS) (o : Obj), s.put o (.loc 2) = match s.sl[2]? with | some (Slot.own _) => some { s with sl := s.sl.set 2 (Slot.own o) } | _ => none := fun _ _ => rfl
  by_cases h1 : (w : Int) < 16
  · by_cases h2 : w = 15
    · subst h2
      simp [T5, k1, k2, k, mapM_cons, l2, l3, ll, i1, gl, pl]
      rfl
    · have h2' : ((w : Int) == 15) = false := beq_eq_false_iff_ne.mpr (by omega)
      have h2'' : ¬ (w : Int) = 15 := by omega
      rw [if_pos h1, if_neg h2''] at hc
      have hc : cut [one, two] none (some 1) = fsOf w one two := hc
      simp [T5, k1, k2, k, mapM_cons, l2, l3, ll, i1, gl, pl, h1, h2', h2'', hc]
  · have h2' : ((w : Int) == 15) = false := beq_eq_false_iff_ne.mpr (by omega)
    have h2'' : ¬ (w : Int) = 15 := by omega
    rw [if_neg h1, if_neg h2''] at hc
    have hc : cut [one, two] none (some 0) = fsOf w one two := hc
    simp [T5, k1, k2, k, mapM_cons, l2, l3, ll, i1, gl, pl, h1, h2', h2'', hc]
end
theorem turn (n : Nat) {p q N way w : Nat} {mu : List Obj} (hp : Pu p q N mu) (hN : N < 900000) (hw : w < 28) (hway : way < 4) {v0 : Val} {held : List Val} (hl : held.length < 10000) {s5 s6 s7 s8 : Slot} :
    ∃ v s5' s6' s7' mu', exs pr.G (R (n + 2)) TB ⟨[.val v0, .val (.ref q), .own (.lst held), .val (.int (way : Int)), .val (.int (w : Int)), s5, s6, s7, s8], mu⟩ = .next ⟨[.val v0, .val (.ref q), .own (.lst (held ++ [v])), .val (.int (way : Int)), .val (.int (w : Int)), s5', s6', s7', s8], mu'⟩ ∧ It v ∧ Pu p q (N + 8) mu' := by
  obtain ⟨one, m1, e1, g1, q1⟩ := thing n hp (by omega) hw
  obtain ⟨two, m2, e2, g2, q2⟩ := thing n q1 (by omega) hw
  have e3 := caught n m2 hw hway g1.kp g2.kp
  have e4 := marks_run (n + 1) m2 hw (ns := nsOf w) (fs := fsOf w one two)
  refine ⟨_, .val one, .val two, .val (.exc (nm w) (nsOf w) (fsOf w one two)), m2, ?_, ⟨w, one, two, hw, g1, g2, rfl⟩, q2.mono (by omega)⟩
  unfold TB
  rw [exs_cons, t1 rfl e1 g1.kp, Fl.seq_next, exs_cons, t2 rfl e2 g2.kp, Fl.seq_next, exs_cons, t3 e3 g1.kp g2.kp rfl, Fl.seq_next, exs_cons, t4 e4, Fl.seq_next, exs_cons, t5 g1.kp g2.kp rfl hl, Fl.seq_next, exs_nil]
theorem last_turn (n : Nat) {v : Val} (hv : It v) {s0 s1 s2 s3 s4 s5 s6 s7 s8 : Slot} {mu : List Obj} : ∃ t4 t7 t8, lcTurn (.tup [(.nm 4), (.nm 7), (.nm 8)]) (evt pr.G (R (n + 1)) (.cons (.cmp .ne (.bcall .str_ (.cons (.call 9 (.cons (.var 4) (.cons (.var 7) .nil))) .nil)) (.bcall .str_ (.cons (.var 8) .nil))) .nil)) (ev pr.G (R (n + 1)) (.var 4)) v ⟨[s0, s1, s2, s3, s4, s5, s6, s7, s8], mu⟩ =
    .ok none ⟨[s0, s1, s2, s3, t4, s5, s6, t7, t8], mu⟩ := by
  obtain ⟨w, one, two, hw, g1, g2, rfl⟩ := hv
  have e := borne n mu hw (c := nm w) g1.kp g2.kp
  have hd : isDatas 3 (fsOf w one two) = true := by
    unfold fsOf
    split
    · simp [g1.d3]
    · split
      · simp [g1.d3, g2.d3]
      · rfl
  have hd15 : isDatas 15 (fsOf w one two) = true := by
    unfold fsOf
    split
    · simp [g1.d15]
    · split
      · simp [g1.d15, g2.d15]
      · rfl
  have ho : okD 20 5 (.lst (fsOf w one two)) = true := by
    unfold fsOf
    split
    · simp [okD, okDs, g1.ok]
    · split
      · simp [okD, okDs, g1.ok, g2.ok]
      · rfl
  obtain ⟨t, ht⟩ := text_some (k := 20) (m := 5) (n := 4) (v := .lst (fsOf w one two)) (by simpa using hd) (by simpa using hd15) ho (by decide +kernel)
  refine ⟨.val (.int (w : Int)), .val (.exc (nm w) (nsOf w) (fsOf w one two)), .val (.lst (fsOf w one two)), ?_⟩
  have st : ∀ v, opF .str_ [.lst v] = textV (.lst v) := fun _ => rfl
  generalize fsOf w one two = fs at *
  generalize nsOf w = ns at *
  generalize nm w = c at *
  generalize R (n + 1) = C at *
  generalize pr.G = G at *
  unfold lcTurn
  simp [e, mapM_cons, st, ht]
end K20
end F_K20f
section F_K20g
set_option maxRecDepth 100000
set_option maxHeartbeats 4000000
namespace M
theorem lcL_none {src : Src} (hd : src.deps = []) {own : List Nat} {f : Val → MS → Out (Option Val)} {P : MS → Prop} (hw : ∀ s, P s → P (wipeS own s)) : ∀ (items : List Val) (acc : List Val) (s : MS), P s →
    acc.length < line → (∀ v s, v ∈ items → P s → ∃ s', f v s = .ok none s' ∧ P s') → ∃ s', lcL src own f acc items s = .ok acc s' ∧ P s'
  | [], acc, s, h, _, _ => ⟨s, by unfold lcL; rw [if_pos (ok_deps hd _)], h⟩
  | v :: vs, acc, s, h, hl, st => by
    obtain ⟨s1, e1, h1⟩ := st v (wipeS own s) (.head _) (hw s h)
    obtain ⟨s2, e2, h2⟩ := lcL_none hd hw vs acc s1 h1 hl fun v s hv h => st v s (.tail _ hv) h
    refine ⟨s2, ?_, h2⟩
    unfold lcL
    rw [if_pos ⟨ok_deps hd _, hl⟩, e1]
    exact e2
end M
namespace K20
open M
theorem last (n : Nat) {held : List Val} (hh : ∀ v ∈ held, It v) {v0 vq : Val} {s3 s4 s5 s6 s7 s8 : Slot} {mu : List Obj} :
    ∃ s', ex pr.G (R (n + 1)) (.ret (.cmp .eq lcL' (.lst .nil))) ⟨[.val v0, .val vq, .own (.lst held), s3, s4, s5, s6, s7, s8], mu⟩ = .ret (.bool true) s' := by
  obtain ⟨s', e, _⟩ := lcL_none (src := ⟨held, []⟩) rfl (own := [4, 7, 8]) (f := lcTurn (.tup [(.nm 4), (.nm 7), (.nm 8)]) (evt pr.G (R (n + 1)) (.cons (.cmp .ne (.bcall .str_ (.cons (.call 9 (.cons (.var 4) (.cons (.var 7) .nil))) .nil)) (.bcall .str_ (.cons (.var 8) .nil))) .nil)) (ev pr.G (R (n + 1)) (.var 4)))
    (P := fun s => ∃ x4 x7 x8, s = ⟨[.val v0, .val vq, .val (.lst held), s3, x4, s5, s6, x7, x8], mu⟩) (by rintro s ⟨x4, x7, x8, rfl⟩; exact ⟨.none, .none, .none, rfl⟩) held [] ⟨[.val v0, .val vq, .val (.lst held), s3, s4, s5, s6, s7, s8], mu⟩ ⟨_, _, _, rfl⟩ (by unfold line; simp)
    (by rintro v s hv ⟨x4, x7, x8, rfl⟩
        obtain ⟨t4, t7, t8, e⟩ := last_turn n (hh v hv) (s0 := .val v0) (s1 := .val vq) (s2 := .val (.lst held)) (s3 := s3) (s4 := x4) (s5 := s5) (s6 := s6) (s7 := x7) (s8 := x8) (mu := mu)
        exact ⟨_, e, _, _, _, rfl⟩)
  have hi : evI pr.G (R (n + 1)) (.e (.frz 2)) ⟨[.val v0, .val vq, .own (.lst held), s3, s4, s5, s6, s7, s8], mu⟩ = .ok ⟨held, []⟩ ⟨[.val v0, .val vq, .val (.lst held), s3, s4, s5, s6, s7, s8], mu⟩ := rfl
  have hl : ev pr.G (R (n + 1)) lcL' ⟨[.val v0, .val vq, .own (.lst held), s3, s4, s5, s6, s7, s8], mu⟩ = .ok (.lst []) (restoreS [.val v0, .val vq, .val (.lst held), s3, s4, s5, s6, s7, s8] [4, 7, 8] s') := by
    unfold lcL'
    rw [ev_lc, hi, Out.bind_ok, e]; rfl
  generalize hs : restoreS [.val v0, .val vq, .val (.lst held), s3, s4, s5, s6, s7, s8] [4, 7, 8] s' = s2 at hl
  refine ⟨s2, ?_⟩
  generalize R (n + 1) = C at *
  generalize pr.G = G at *
  simp [hl, veqs]
theorem inner (n : Nat) {p q N way : Nat} (hN : N < 800000) (hway : way < 4) {v0 : Val} {held : List Val} (hh : ∀ v ∈ held, It v) (hl : held.length < 1000) {mu : List Obj} (hp : Pu p q N mu) {s4 s5 s6 s7 s8 : Slot} :
    ∃ held' s4' s5' s6' s7' mu', ex pr.G (R (n + 2)) (.for_ (.nm 4) (.range (.cons (.cst (.int 28)) .nil)) TB) ⟨[.val v0, .val (.ref q), .own (.lst held), .val (.int (way : Int)), s4, s5, s6, s7, s8], mu⟩ =
      .next ⟨[.val v0, .val (.ref q), .own (.lst held'), .val (.int (way : Int)), s4', s5', s6', s7', s8], mu'⟩ ∧ (∀ v ∈ held', It v) ∧ held'.length = held.length + 28 ∧ Pu p q (N + 8 * 28) mu' := by
  have hr : evI pr.G (R (n + 2)) (.range (.cons (.cst (.int 28)) .nil)) ⟨[.val v0, .val (.ref q), .own (.lst held), .val (.int (way : Int)), s4, s5, s6, s7, s8], mu⟩ = .ok ⟨upTo 0 28, []⟩ ⟨[.val v0, .val (.ref q), .own (.lst held), .val (.int (way : Int)), s4, s5, s6, s7, s8], mu⟩ :=
    evI_range_ok (vs := [.int 28]) (by simp) (range_nat (n := 28) (by decide))
  rw [ex_for, hr, Out.fl_ok]
  refine forL_post (src := ⟨upTo 0 28, []⟩) rfl (Inv := fun i s => ∃ held' s4' s5' s6' s7' mu', s = ⟨[.val v0, .val (.ref q), .own (.lst held'), .val (.int (way : Int)), s4', s5', s6', s7', s8], mu'⟩ ∧ (∀ v ∈ held', It v) ∧ held'.length = held.length + i ∧ Pu p q (N + 8 * i) mu')
    (Post := fun f => ∃ held' s4' s5' s6' s7' mu', f = .next ⟨[.val v0, .val (.ref q), .own (.lst held'), .val (.int (way : Int)), s4', s5', s6', s7', s8], mu'⟩ ∧ (∀ v ∈ held', It v) ∧ held'.length = held.length + 28 ∧ Pu p q (N + 8 * 28) mu')
    (upTo 0 28) 0 _ ⟨held, _, _, _, _, mu, rfl, hh, rfl, hp⟩ ?_ ?_
  · rintro i v s hi ⟨h', x4, x5, x6, x7, m', rfl, hh', hl', hp'⟩
    rw [Nat.zero_add] at *
    rw [upTo_at] at hi
    split at hi
    · rename_i hi28
      cases hi
      rw [Int.zero_add]
      refine ⟨⟨[.val v0, .val (.ref q), .own (.lst h'), .val (.int (way : Int)), .val (.int (i : Int)), x5, x6, x7, s8], m'⟩, by simp, ?_⟩
      obtain ⟨v, y5, y6, y7, m2, e, iv, q2⟩ := turn n hp' (by omega) hi28 hway (v0 := v0) (held := h') (by omega) (s5 := x5) (s6 := x6) (s7 := x7) (s8 := s8)
      rw [e]
      refine ⟨h' ++ [v], _, _, _, _, m2, rfl, fun u hu => ?_, by rw [List.length_append, hl']; rfl, q2.mono (by omega)⟩
      rcases List.mem_append.mp hu with hu | hu
      · exact hh' u hu
      · rw [List.mem_singleton.mp hu]; exact iv
    · cases hi
  · rintro s ⟨h', x4, x5, x6, x7, m', rfl, hh', hl', hp'⟩
    rw [upTo_len, Nat.zero_add] at *
    exact ⟨h', _, _, _, _, m', rfl, hh', hl', hp'⟩
theorem outer (n : Nat) {p q : Nat} {v0 : Val} {mu : List Obj} (hp : Pu p q 0 mu) {s3 s4 s5 s6 s7 s8 : Slot} :
    ∃ held' s3' s4' s5' s6' s7' mu', ex pr.G (R (n + 2)) (.for_ (.nm 3) (.range (.cons (.cst (.int 4)) .nil)) (.cons (.for_ (.nm 4) (.range (.cons (.cst (.int 28)) .nil)) TB) .nil)) ⟨[.val v0, .val (.ref q), .own (.lst []), s3, s4, s5, s6, s7, s8], mu⟩ =
      .next ⟨[.val v0, .val (.ref q), .own (.lst held'), s3', s4', s5', s6', s7', s8], mu'⟩ ∧ (∀ v ∈ held', It v) := by
  have hr : evI pr.G (R (n + 2)) (.range (.cons (.cst (.int 4)) .nil)) ⟨[.val v0, .val (.ref q), .own (.lst []), s3, s4, s5, s6, s7, s8], mu⟩ = .ok ⟨upTo 0 4, []⟩ ⟨[.val v0, .val (.ref q), .own (.lst []), s3, s4, s5, s6, s7, s8], mu⟩ :=
    evI_range_ok (vs := [.int 4]) (by simp) (range_nat (n := 4) (by decide))
  rw [ex_for, hr, Out.fl_ok]
  refine forL_post (src := ⟨upTo 0 4, []⟩) rfl (Inv := fun i s => ∃ held' s3' s4' s5' s6' s7' mu', s = ⟨[.val v0, .val (.ref q), .own (.lst held'), s3', s4', s5', s6', s7', s8], mu'⟩ ∧ (∀ v ∈ held', It v) ∧ held'.length = 28 * i ∧ Pu p q (8 * 28 * i) mu')
    (Post := fun f => ∃ held' s3' s4' s5' s6' s7' mu', f = .next ⟨[.val v0, .val (.ref q), .own (.lst held'), s3', s4', s5', s6', s7', s8], mu'⟩ ∧ (∀ v ∈ held', It v))
    (upTo 0 4) 0 _ ⟨[], _, _, _, _, _, mu, rfl, fun v hv => (by cases hv), rfl, hp⟩ ?_ ?_
  · rintro i v s hi ⟨h', x3, x4, x5, x6, x7, m', rfl, hh', hl', hp'⟩
    rw [Nat.zero_add] at *
    rw [upTo_at] at hi
    split at hi
    · rename_i hi4
      cases hi
      rw [Int.zero_add]
      refine ⟨⟨[.val v0, .val (.ref q), .own (.lst h'), .val (.int (i : Int)), x4, x5, x6, x7, s8], m'⟩, by simp, ?_⟩
      obtain ⟨h2, y4, y5, y6, y7, m2, e, iv, il, q2⟩ := inner n (by omega) hi4 hh' (by omega) hp' (v0 := v0) (s4 := x4) (s5 := x5) (s6 := x6) (s7 := x7) (s8 := s8)
      rw [exs_cons, e]
      exact ⟨h2, _, _, _, _, _, m2, rfl, iv, by omega, q2.mono (by omega)⟩
    · cases hi
  · rintro s ⟨h', x3, x4, x5, x6, x7, m', rfl, hh', hl', hp'⟩
    exact ⟨h', _, _, _, _, _, m', rfl, hh'⟩
theorem law_run (n : Nat) {ns : List Int} (hns : ns.length ≤ 63) : ∃ mu, R (n + 3) 10 [.rol (ns.map .int)] [] = .ok (.bool true) mu := by
  obtain ⟨p, q, more, e0, hp, _, _⟩ := purse (G := pr.G) (F := prF) (i := 0) (n := n + 1) rfl hns []
  rw [List.nil_append] at e0 hp
  obtain ⟨h', s3, s4, s5, s6, s7, mu', e1, hh⟩ := outer n (v0 := .rol (ns.map .int)) hp (s3 := .none) (s4 := .none) (s5 := .none) (s6 := .none) (s7 := .none) (s8 := .none)
  obtain ⟨s', e2⟩ := last (n + 1) hh (v0 := .rol (ns.map .int)) (vq := .ref q) (s3 := s3) (s4 := s4) (s5 := s5) (s6 := s6) (s7 := s7) (s8 := .none) (mu := mu')
  refine ⟨s'.mu, (run_fl [.rol (ns.map .int)] (d := d_law) rfl rfl (fl := .ret (.bool true) s') ?_).trans rfl⟩
  rw [bl]
  show exs pr.G (R (n + 2)) _ ⟨[.val (.rol (ns.map .int)), .none, .none, .none, .none, .none, .none, .none, .none], []⟩ = _
  have x1 : ex pr.G (R (n + 2)) (.asg (.nm 1) (.call 0 (.cons (.var 0) .nil))) ⟨[.val (.rol (ns.map .int)), .none, .none, .none, .none, .none, .none, .none, .none], []⟩ = .next ⟨[.val (.rol (ns.map .int)), .val (.ref q), .none, .none, .none, .none, .none, .none, .none], more⟩ := by
    have e9 : R (n + 2) 0 [.rol (ns.map .int)] [] = .ok (.ref q) more := e0
    clear e0
    generalize R (n + 2) = C at *
    generalize pr.G = G at *
    simp [e9]
  have x2 : ex pr.G (R (n + 2)) (.own 2 (.lst .nil)) ⟨[.val (.rol (ns.map .int)), .val (.ref q), .none, .none, .none, .none, .none, .none, .none], more⟩ = .next ⟨[.val (.rol (ns.map .int)), .val (.ref q), .own (.lst []), .none, .none, .none, .none, .none, .none], more⟩ := by
    generalize R (n + 2) = C at *
    generalize pr.G = G at *
    simp
  rw [exs_cons, x1, Fl.seq_next, exs_cons, x2, Fl.seq_next, exs_cons, e1, Fl.seq_next, exs_cons, e2]
  rfl
theorem law_true (ns : List Int) (h : ns.length ≤ 63) : ∃ mu, run pr.G pr.fns 9 10 [.rol (ns.map .int)] [] = .ok (.bool true) mu := law_run 6 h
end K20
end F_K20g
section F_K20z
set_option maxRecDepth 100000
open PySem PySem.W PyProof.Rows
set_option maxRecDepth 100000 in
set_option maxHeartbeats 0 in
theorem PySem.Challenge.cw_loomkeeps_k20_refusals_made_holds : PySem.Challenge.rw_loomkeeps_k20_refusals_made.Holds := by
  w_on; o_law; k_head; (case hw => w_witness2)
  k_fill
  refine M.walk (P := K20.pr) (l := PySem.Challenge.rw_loomkeeps_k20_refusals_made) (n := 63) (k := 9) (i := 10) (fdl := K20.d_law) (x := "script") rfl (by decide) rfl ⟨rfl, by decide, by decide⟩ (fun w h Y => PySem.W.kIn_of Y) rfl rfl rfl ?F K20.law_true
  case F =>
    intro w mg fa h KX G hmg
    refine' K20.all_mk KX G hmg ?a0 ?l0 ?c0 ?k0 ?a1 ?l1 ?c1 ?k1 ?a2 ?l2 ?c2 ?k2 ?a3 ?l3 ?c3 ?k3 ?a4 ?l4 ?c4 ?k4 ?a5 ?l5 ?c5 ?k5 ?a6 ?l6 ?c6 ?k6 ?a7 ?l7 ?c7 ?k7 ?a8 ?l8 ?c8 ?k8 ?a9 ?l9 ?c9 ?k9 ?a10 ?l10 ?c10 ?k10 ?ea0 ?ei0 ?el0 ?ec0 ?ek0 ?et0 ?ea1 ?ei1 ?el1 ?ec1 ?ek1 ?et1 ?ea2 ?ei2 ?el2 ?ec2 ?ek2 ?et2 ?ea3 ?ei3 ?el3 ?ec3 ?ek3 ?et3 ?ea4 ?ei4 ?el4 ?ec4 ?ek4 ?et4 ?ea5 ?ei5 ?el5 ?ec5 ?ek5 ?et5 ?ea6 ?ei6 ?el6 ?ec6 ?ek6 ?et6 ?ea7 ?ei7 ?el7 ?ec7 ?ek7 ?et7 ?ea8 ?ei8 ?el8 ?ec8 ?ek8 ?et8 ?ea9 ?ei9 ?el9 ?ec9 ?ek9 ?et9 ?ea10 ?ei10 ?el10 ?ec10 ?ek10 ?et10 ?ea11 ?ei11 ?el11 ?ec11 ?ek11 ?et11 ?ea12 ?ei12 ?el12 ?ec12 ?ek12 ?et12 ?ea13 ?ei13 ?el13 ?ec13 ?ek13 ?et13 ?ea14 ?ei14 ?el14 ?ec14 ?ek14 ?et14 ?ea15 ?ei15 ?el15 ?ec15 ?ek15 ?et15 ?xb_Dry ?xb_LoomError ?xb_NoBack ?xb_NoBeat ?xb_NoBook ?xb_NoDeed ?xb_NoDrive ?xb_NoFace ?xb_NoFlow ?xb_NoLane ?xb_NoLine ?xb_NoLoop ?xb_NoMeasure ?xb_NoModule ?xb_NoName ?xb_NoNet ?xb_NoPart ?xb_NoPlace ?xb_NoRoom ?xb_NoState ?xb_NoText ?xb_NoTitle ?xb_NoWait ?xb_NoWay ?xb_NoWord ?xb_Over ?xb_TooDeep ?xb_TooLong ?xb_Twice ?xr_Dry ?xn_Dry ?xt_Dry ?xr_LoomError ?xn_LoomError ?xt_LoomError ?xr_NoBack ?xn_NoBack ?xt_NoBack ?xr_NoBeat ?xn_NoBeat ?xt_NoBeat ?xr_NoBook ?xn_NoBook ?xt_NoBook ?xr_NoDeed ?xn_NoDeed ?xt_NoDeed ?xr_NoDrive ?xn_NoDrive ?xt_NoDrive ?xr_NoFace ?xn_NoFace ?xt_NoFace ?xr_NoFlow ?xn_NoFlow ?xt_NoFlow ?xr_NoLane ?xn_NoLane ?xt_NoLane ?xr_NoLine ?xn_NoLine ?xt_NoLine ?xr_NoLoop ?xn_NoLoop ?xt_NoLoop ?xr_NoMeasure ?xn_NoMeasure ?xt_NoMeasure ?xr_NoModule ?xn_NoModule ?xt_NoModule ?xr_NoName ?xn_NoName ?xt_NoName ?xr_NoNet ?xn_NoNet ?xt_NoNet ?xr_NoPart ?xn_NoPart ?xt_NoPart ?xr_NoPlace ?xn_NoPlace ?xt_NoPlace ?xr_NoRoom ?xn_NoRoom ?xt_NoRoom ?xr_NoState ?xn_NoState ?xt_NoState ?xr_NoText ?xn_NoText ?xt_NoText ?xr_NoTitle ?xn_NoTitle ?xt_NoTitle ?xr_NoWait ?xn_NoWait ?xt_NoWait ?xr_NoWay ?xn_NoWay ?xt_NoWay ?xr_NoWord ?xn_NoWord ?xt_NoWord ?xr_Over ?xn_Over ?xt_Over ?xr_TooDeep ?xn_TooDeep ?xt_TooDeep ?xr_TooLong ?xn_TooLong ?xt_TooLong ?xr_Twice ?xn_Twice ?xt_Twice ?xf_NoBack ?xf_NoDrive ?xf_NoLane ?xf_NoLine ?xf_NoMeasure ?xf_NoPart ?xf_NoTitle ?xf_NoWait ?xf_NoWay ?xf_NoWord ?xf_TooDeep ?xf_TooLong ?xm_Dry ?xm_NoBeat ?xm_NoBook ?xm_NoDeed ?xm_NoFace ?xm_NoFlow ?xm_NoLoop ?xm_NoModule ?xm_NoName ?xm_NoNet ?xm_NoPlace ?xm_NoRoom ?xm_NoState ?xm_NoText ?xm_Over ?xm_Twice ?z0 ?z1 ?z2 ?z3 ?z4 ?z5 ?z6 ?z7 ?z8 ?z9 ?z10 ?z11 ?z12 ?z13 ?z14 ?z15 ?z16 ?z17 ?z18 ?z19
    (case a0 => k_is); (case l0 => k_is); (case c0 => k_is); (case k0 => k_is); (case a1 => k_is); (case l1 => k_is)
    (case c1 => k_is); (case k1 => k_is); (case a2 => k_is); (case l2 => k_is); (case c2 => k_is); (case k2 => k_is)
    (case a3 => k_is); (case l3 => k_is); (case c3 => k_is); (case k3 => k_is); (case a4 => k_is); (case l4 => k_is)
    (case c4 => k_is); (case k4 => k_is); (case a5 => k_is); (case l5 => k_is); (case c5 => k_is); (case k5 => k_is)
    (case a6 => k_is); (case l6 => k_is); (case c6 => k_is); (case k6 => k_is); (case a7 => k_is); (case l7 => k_is)
    (case c7 => k_is); (case k7 => k_is); (case a8 => k_is); (case l8 => k_is); (case c8 => k_is); (case k8 => k_is)
    (case a9 => k_is); (case l9 => k_is); (case c9 => k_is); (case k9 => k_is); (case a10 => k_is); (case l10 => k_is)
    (case c10 => k_is); (case k10 => k_is); (case ea0 => k_is); (case ei0 => k_is); (case el0 => k_is); (case ec0 => k_is)
    (case ek0 => k_is); (case et0 => k_is); (case ea1 => k_is); (case ei1 => k_is); (case el1 => k_is); (case ec1 => k_is)
    (case ek1 => k_is); (case et1 => k_is); (case ea2 => k_is); (case ei2 => k_is); (case el2 => k_is); (case ec2 => k_is)
    (case ek2 => k_is); (case et2 => k_is); (case ea3 => k_is); (case ei3 => k_is); (case el3 => k_is); (case ec3 => k_is)
    (case ek3 => k_is); (case et3 => k_is); (case ea4 => k_is); (case ei4 => k_is); (case el4 => k_is); (case ec4 => k_is)
    (case ek4 => k_is); (case et4 => k_is); (case ea5 => k_is); (case ei5 => k_is); (case el5 => k_is); (case ec5 => k_is)
    (case ek5 => k_is); (case et5 => k_is); (case ea6 => k_is); (case ei6 => k_is); (case el6 => k_is); (case ec6 => k_is)
    (case ek6 => k_is); (case et6 => k_is); (case ea7 => k_is); (case ei7 => k_is); (case el7 => k_is); (case ec7 => k_is)
    (case ek7 => k_is); (case et7 => k_is); (case ea8 => k_is); (case ei8 => k_is); (case el8 => k_is); (case ec8 => k_is)
    (case ek8 => k_is); (case et8 => k_is); (case ea9 => k_is); (case ei9 => k_is); (case el9 => k_is); (case ec9 => k_is)
    (case ek9 => k_is); (case et9 => k_is); (case ea10 => k_is); (case ei10 => k_is); (case el10 => k_is); (case ec10 => k_is)
    (case ek10 => k_is); (case et10 => k_is); (case ea11 => k_is); (case ei11 => k_is); (case el11 => k_is); (case ec11 => k_is)
    (case ek11 => k_is); (case et11 => k_is); (case ea12 => k_is); (case ei12 => k_is); (case el12 => k_is); (case ec12 => k_is)
    (case ek12 => k_is); (case et12 => k_is); (case ea13 => k_is); (case ei13 => k_is); (case el13 => k_is); (case ec13 => k_is)
    (case ek13 => k_is); (case et13 => k_is); (case ea14 => k_is); (case ei14 => k_is); (case el14 => k_is); (case ec14 => k_is)
    (case ek14 => k_is); (case et14 => k_is); (case ea15 => k_is); (case ei15 => k_is); (case el15 => k_is); (case ec15 => k_is)
    (case ek15 => k_is); (case et15 => k_is); (case xb_Dry => kernel_rfl); (case xb_LoomError => kernel_rfl); (case xb_NoBack => kernel_rfl); (case xb_NoBeat => kernel_rfl)
    (case xb_NoBook => kernel_rfl); (case xb_NoDeed => kernel_rfl); (case xb_NoDrive => kernel_rfl); (case xb_NoFace => kernel_rfl); (case xb_NoFlow => kernel_rfl); (case xb_NoLane => kernel_rfl)
    (case xb_NoLine => kernel_rfl); (case xb_NoLoop => kernel_rfl); (case xb_NoMeasure => kernel_rfl); (case xb_NoModule => kernel_rfl); (case xb_NoName => kernel_rfl); (case xb_NoNet => kernel_rfl)
    (case xb_NoPart => kernel_rfl); (case xb_NoPlace => kernel_rfl); (case xb_NoRoom => kernel_rfl); (case xb_NoState => kernel_rfl); (case xb_NoText => kernel_rfl); (case xb_NoTitle => kernel_rfl)
    (case xb_NoWait => kernel_rfl); (case xb_NoWay => kernel_rfl); (case xb_NoWord => kernel_rfl); (case xb_Over => kernel_rfl); (case xb_TooDeep => kernel_rfl); (case xb_TooLong => kernel_rfl)
    (case xb_Twice => kernel_rfl); (case xr_Dry => kernel_rfl); (case xn_Dry => kernel_rfl); (case xt_Dry => kernel_rfl); (case xr_LoomError => kernel_rfl); (case xn_LoomError => kernel_rfl)
    (case xt_LoomError => kernel_rfl); (case xr_NoBack => kernel_rfl); (case xn_NoBack => kernel_rfl); (case xt_NoBack => kernel_rfl); (case xr_NoBeat => kernel_rfl); (case xn_NoBeat => kernel_rfl)
    (case xt_NoBeat => kernel_rfl); (case xr_NoBook => kernel_rfl); (case xn_NoBook => kernel_rfl); (case xt_NoBook => kernel_rfl); (case xr_NoDeed => kernel_rfl); (case xn_NoDeed => kernel_rfl)
    (case xt_NoDeed => kernel_rfl); (case xr_NoDrive => kernel_rfl); (case xn_NoDrive => kernel_rfl); (case xt_NoDrive => kernel_rfl); (case xr_NoFace => kernel_rfl); (case xn_NoFace => kernel_rfl)
    (case xt_NoFace => kernel_rfl); (case xr_NoFlow => kernel_rfl); (case xn_NoFlow => kernel_rfl); (case xt_NoFlow => kernel_rfl); (case xr_NoLane => kernel_rfl); (case xn_NoLane => kernel_rfl)
    (case xt_NoLane => kernel_rfl); (case xr_NoLine => kernel_rfl); (case xn_NoLine => kernel_rfl); (case xt_NoLine => kernel_rfl); (case xr_NoLoop => kernel_rfl); (case xn_NoLoop => kernel_rfl)
    (case xt_NoLoop => kernel_rfl); (case xr_NoMeasure => kernel_rfl); (case xn_NoMeasure => kernel_rfl); (case xt_NoMeasure => kernel_rfl); (case xr_NoModule => kernel_rfl); (case xn_NoModule => kernel_rfl)
    (case xt_NoModule => kernel_rfl); (case xr_NoName => kernel_rfl); (case xn_NoName => kernel_rfl); (case xt_NoName => kernel_rfl); (case xr_NoNet => kernel_rfl); (case xn_NoNet => kernel_rfl)
    (case xt_NoNet => kernel_rfl); (case xr_NoPart => kernel_rfl); (case xn_NoPart => kernel_rfl); (case xt_NoPart => kernel_rfl); (case xr_NoPlace => kernel_rfl); (case xn_NoPlace => kernel_rfl)
    (case xt_NoPlace => kernel_rfl); (case xr_NoRoom => kernel_rfl); (case xn_NoRoom => kernel_rfl); (case xt_NoRoom => kernel_rfl); (case xr_NoState => kernel_rfl); (case xn_NoState => kernel_rfl)
    (case xt_NoState => kernel_rfl); (case xr_NoText => kernel_rfl); (case xn_NoText => kernel_rfl); (case xt_NoText => kernel_rfl); (case xr_NoTitle => kernel_rfl); (case xn_NoTitle => kernel_rfl)
    (case xt_NoTitle => kernel_rfl); (case xr_NoWait => kernel_rfl); (case xn_NoWait => kernel_rfl); (case xt_NoWait => kernel_rfl); (case xr_NoWay => kernel_rfl); (case xn_NoWay => kernel_rfl)
    (case xt_NoWay => kernel_rfl); (case xr_NoWord => kernel_rfl); (case xn_NoWord => kernel_rfl); (case xt_NoWord => kernel_rfl); (case xr_Over => kernel_rfl); (case xn_Over => kernel_rfl)
    (case xt_Over => kernel_rfl); (case xr_TooDeep => kernel_rfl); (case xn_TooDeep => kernel_rfl); (case xt_TooDeep => kernel_rfl); (case xr_TooLong => kernel_rfl); (case xn_TooLong => kernel_rfl)
    (case xt_TooLong => kernel_rfl); (case xr_Twice => kernel_rfl); (case xn_Twice => kernel_rfl); (case xt_Twice => kernel_rfl); (case xf_NoBack => kernel_rfl); (case xf_NoDrive => kernel_rfl)
    (case xf_NoLane => kernel_rfl); (case xf_NoLine => kernel_rfl); (case xf_NoMeasure => kernel_rfl); (case xf_NoPart => kernel_rfl); (case xf_NoTitle => kernel_rfl); (case xf_NoWait => kernel_rfl)
    (case xf_NoWay => kernel_rfl); (case xf_NoWord => kernel_rfl); (case xf_TooDeep => kernel_rfl); (case xf_TooLong => kernel_rfl); (case xm_Dry => kernel_rfl); (case xm_NoBeat => kernel_rfl)
    (case xm_NoBook => kernel_rfl); (case xm_NoDeed => kernel_rfl); (case xm_NoFace => kernel_rfl); (case xm_NoFlow => kernel_rfl); (case xm_NoLoop => kernel_rfl); (case xm_NoModule => kernel_rfl)
    (case xm_NoName => kernel_rfl); (case xm_NoNet => kernel_rfl); (case xm_NoPlace => kernel_rfl); (case xm_NoRoom => kernel_rfl); (case xm_NoState => kernel_rfl); (case xm_NoText => kernel_rfl)
    (case xm_Over => kernel_rfl); (case xm_Twice => kernel_rfl); (case z0 => k_is); (case z1 => k_is); (case z2 => k_is); (case z3 => k_is)
    (case z4 => k_is); (case z5 => k_is); (case z6 => k_is); (case z7 => k_is); (case z8 => k_is); (case z9 => k_is)
    (case z10 => k_is); (case z11 => k_is); (case z12 => k_is); (case z13 => k_is); (case z14 => k_is); (case z15 => k_is)
    (case z16 => k_is); (case z17 => k_is); (case z18 => k_is); (case z19 => k_is)
end F_K20z
