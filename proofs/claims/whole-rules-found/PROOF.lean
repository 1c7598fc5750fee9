import PyProof.Rows.All
import Wide.All
import OpenK.AllK
import Wide.FinOn
import HandS.ForMost
import KE.SortData
import KE.KStateDown
import HandS.Ends
import HandS.More
import HandS.Words
import HandS.WordsExc
import HandS.Defaults
import HandS.Head0
import HandS.Head1
import HandS.Head2
import HandS.HeadEnd
import HandS.HeadHook1
import HandS.HeadHook2
import HandS.HeadHook3
import PySem.Challenge.RW_anypasses_k26_whole_rules_found_in_ops
import HandS.Wide
import HandS.WideBits
import HandS.StrMore
import HandS.SetKeys
import HandS.Conv
import HandS.NoneIn
import HandS.Style
import HandS.Zip
import HandS.Deep
import HandS.Walk
import HandS.DictComp
import HandS.TupAny
import HandS.RaiseMore
import PyProof.Rows.StrTemp
import KE.KDictPairs
import PyProof.ReprRoads
import PyProof.ReprLen
import KE.KDictZip
import KE.GoesEnum
import PyProof.EnumMake
import KE.GoesZip
import KE.GoesMore
set_option Elab.async false
set_option linter.all false
set_option maxRecDepth 100000
section
/-! Mi1: words, data, cells, the small language IR and what it computes (no machine in sight). -/
namespace Mi
open PySem

/-- the words of the two programs -/
inductive Wd where
  | add | sub | mul | udiv | sdiv | urem | srem | band | bor | bxor | shl | lshr | ashr
  | eq | ne | ult | ule | slt | sle
  | zext | sext | trunc
  | select | LOG | ADD | SUB | MUL | AND | OR | XOR
  | a | b | c | m | n | p | k0 | k1 | km1
  | bin | cmp | cast | call | alloca | att | load | store | input | print
  | v | g | ptr | main | ret | branch | jump | stop | trap | divide | index | wrong | value
  | e | s | u | div | rem | lt | le | eqs
  deriving DecidableEq

def Wd.cs : Wd → List Nat
  | add => [97, 100, 100] | sub => [115, 117, 98] | mul => [109, 117, 108] | udiv => [117, 100, 105, 118] | sdiv => [115, 100, 105, 118]
  | urem => [117, 114, 101, 109] | srem => [115, 114, 101, 109] | band => [97, 110, 100] | bor => [111, 114] | bxor => [120, 111, 114]
  | shl => [115, 104, 108] | lshr => [108, 115, 104, 114] | ashr => [97, 115, 104, 114]
  | eq => [101, 113] | ne => [110, 101] | ult => [117, 108, 116] | ule => [117, 108, 101] | slt => [115, 108, 116] | sle => [115, 108, 101]
  | zext => [122, 101, 120, 116] | sext => [115, 101, 120, 116] | trunc => [116, 114, 117, 110, 99]
  | select => [115, 101, 108, 101, 99, 116] | LOG => [76, 79, 71] | ADD => [65, 68, 68] | SUB => [83, 85, 66] | MUL => [77, 85, 76]
  | AND => [65, 78, 68] | OR => [79, 82] | XOR => [88, 79, 82]
  | a => [97] | b => [98] | c => [99] | m => [109] | n => [110] | p => [112] | k0 => [48] | k1 => [49] | km1 => [45, 49]
  | bin => [98, 105, 110] | cmp => [99, 109, 112] | cast => [99, 97, 115, 116] | call => [99, 97, 108, 108] | alloca => [97, 108, 108, 111, 99, 97]
  | att => [97, 116] | load => [108, 111, 97, 100] | store => [115, 116, 111, 114, 101] | input => [105, 110, 112, 117, 116] | print => [112, 114, 105, 110, 116]
  | v => [118] | g => [103] | ptr => [112, 116, 114] | main => [109, 97, 105, 110] | ret => [114, 101, 116, 117, 114, 110]
  | branch => [98, 114, 97, 110, 99, 104] | jump => [106, 117, 109, 112] | stop => [115, 116, 111, 112] | trap => [116, 114, 97, 112]
  | divide => [100, 105, 118, 105, 100, 101] | index => [105, 110, 100, 101, 120] | wrong => [119, 114, 111, 110, 103] | value => [118, 97, 108, 117, 101]
  | e => [101] | s => [115] | u => [117] | div => [100, 105, 118] | rem => [114, 101, 109] | lt => [108, 116] | le => [108, 101] | eqs => [61]

/-- a text: words with a blank between two -/
abbrev S := List Wd
def S.cs : List Wd → List Nat
  | [] => []
  | [w] => w.cs
  | w :: x :: r => w.cs ++ 32 :: S.cs (x :: r)
def S.str (x : List Wd) : Str := ⟨(S.cs x).toArray⟩

/-- a dict's key -/
inductive Ky where
  | i (k : Int) | s (x : List Wd)
  deriving DecidableEq
def Ky.key : Ky → L2.Key
  | .i k => .inl k
  | .s x => .inr (S.str x)

/-- what never changes: numbers, texts, tuples; lists and dicts that nobody changes any more -/
inductive D where
  | non | bl (b : Bool) | int (i : Int) | str (x : List Wd)
  | tup (xs : List D) | lst (xs : List D) | dct (kvs : List (Ky × D))
  /-- a tuple of pairs (key, value), made for dict() alone -/
  | prs (kvs : List (Ky × D))
/-- a thing: data, or a reference to the n-th cell -/
inductive W where
  | d (x : D) | r (n : Nat)
/-- a list of data, a list of things (of a fixed form), a dict; a dict that is being walked -/
inductive Cell where
  | lst (xs : List D) | obj (xs : List W) | dct (kvs : List (Ky × D)) | dctL (kvs : List (Ky × D))
abbrev Mem := List Cell
abbrev Env := List (Option W)

/-- one after another -/
def bnd {α β : Type} (x : Option (α × Mem)) (f : α → Mem → Option β) : Option β :=
  match x with
  | some (a, m) => f a m
  | none => none
@[simp] theorem bnd_some {α β : Type} (a : α) (m : Mem) (f : α → Mem → Option β) : bnd (some (a, m)) f = f a m := rfl
@[simp] theorem bnd_none {α β : Type} (f : α → Mem → Option β) : bnd none f = none := rfl
theorem bnd_inv {α β : Type} {x : Option (α × Mem)} {f : α → Mem → Option β} {r : β} (h : bnd x f = some r) : ∃ a m, x = some (a, m) ∧ f a m = some r := by
  cases x with
  | none => cases h
  | some y => obtain ⟨a, m⟩ := y; exact ⟨a, m, rfl, h⟩

/-! ### the language -/
inductive Bop where
  | add | sub | mul | fdiv | mod | pow | shl | band | bor | bxor
  deriving DecidableEq
inductive Cop where
  | eq | ne | lt | le | gt | ge | isn | notn | inn | nin
  deriving DecidableEq
/-- built-in functions of one argument -/
inductive Blt where
  | len | abs | int | str | tuple | tupleP | list | listM | sorted | dict | all | dictEnum
  deriving DecidableEq
inductive Mth where
  | append | pop | popAt | get | setdefault | split | splitq | lower | isupper | bitlen
  deriving DecidableEq
inductive ItK where
  | e | range | zip
  deriving DecidableEq
/-- a target of a for: a name, or names -/
inductive Tg where
  | nm (i : Nat) | tp (is : List Nat)
  deriving DecidableEq
inductive IR where
  | var (i : Nat) | con (d : D) | glob (k : Nat)
  | tup (es : List IR) | lstF (es : List IR) | lstM (es : List IR) | dctM
  | call (f : Nat) (es : List IR) | callK (f : Nat) (ks : List Nat) (es : List IR)
  | blt (b : Blt) (x : IR)
  | meth (m : Mth) (o : IR) (es : List IR)
  | bin (op : Bop) (x y : IR) | neg (x : IR)
  | cmp (op : Cop) (x y : IR) | repr (neq : Bool) (x y : IR) | inMade (x : IR) | made (x : IR)
  | andL (es : List IR) | orL (es : List IR) | not (x : IR) | ite (c x y : IR)
  | ix (x y : IR) | slc (x : IR) (lo hi : Option IR) | rev (x : IR) | revM (x : IR)
  | lc (own : List Nat) (tg : Tg) (k : ItK) (its : List IR) (cond : List IR) (elt : IR)
  | dc1 (own : List Nat) (i : Nat) (it : IR) (kx vx : IR)
  | dc2 (own : List Nat) (i j : Nat) (it it2 cond : IR) (kx vx : IR)
  | bad
/-- a target of an assignment -/
inductive Tgt where
  | nm (i : Nat) | sub (o i : IR)
inductive IS where
  | expr (x : IR) | asg (t : Tgt) (x : IR) | asgT (ts : List Tgt) (x : IR) | asgP (is : List Nat) (es : List IR) | asgD (ts : List Tgt) (es : List IR)
  | iff (c : IR) (t f : List IS) | forr (tg : Tg) (k : ItK) (its : List IR) (body : List IS) | whil (c : IR) (body : List IS)
  | ret (x : IR) | retT (es : List IR) | bad
inductive Out where
  | next | ret (w : W) | retT (ws : List W)

/-! ### data -/
mutual
def D.toP : D → PyData
  | .non => .none
  | .bl b => .bool b
  | .int i => .int i
  | .str x => .str (S.str x)
  | .tup xs => .tuple (D.toPs xs)
  | .lst xs => .list (D.toPs xs)
  | .dct _ => .dict []
  | .prs _ => .dict []
def D.toPs : List D → List PyData
  | [] => []
  | x :: r => D.toP x :: D.toPs r
end
mutual
/-- x == y -/
def eqD : D → D → Bool
  | .non, .non => true
  | .bl a, .bl b => a == b
  | .bl a, .int j => (if a then 1 else 0) == j
  | .int i, .bl b => i == (if b then 1 else 0)
  | .int i, .int j => i == j
  | .str x, .str y => decide (x = y)
  | .lst xs, .lst ys => eqDs xs ys
  | .tup xs, .tup ys => eqDs xs ys
  | _, _ => false
def eqDs : List D → List D → Bool
  | [], [] => true
  | x :: xs, y :: ys => eqD x y && eqDs xs ys
  | _, _ => false
end
mutual
/-- no dict within -/
def okD : D → Bool
  | .dct _ => false
  | .prs _ => false
  | .tup xs => okDs xs
  | .lst xs => okDs xs
  | _ => true
def okDs : List D → Bool
  | [] => true
  | x :: r => okD x && okDs r
end
mutual
def dep : D → Nat
  | .tup xs => deps xs + 1
  | .lst xs => deps xs + 1
  | _ => 0
def deps : List D → Nat
  | [] => 0
  | x :: r => max (dep x) (deps r)
end
/-- data that == is known of -/
def shp (x : D) : Bool := okD x && decide (dep x ≤ 60)
mutual
/-- the same data -/
def eqS : D → D → Bool
  | .non, .non => true
  | .bl a, .bl b => a == b
  | .int i, .int j => i == j
  | .str x, .str y => decide (x = y)
  | .lst xs, .lst ys => eqSs xs ys
  | .tup xs, .tup ys => eqSs xs ys
  | _, _ => false
def eqSs : List D → List D → Bool
  | [], [] => true
  | x :: xs, y :: ys => eqS x y && eqSs xs ys
  | _, _ => false
end
mutual
/-- the signs of its text, at most; its numbers are small -/
def szD : D → Nat
  | .int _ => 70
  | .str x => 7 * x.length
  | .tup xs => szDs xs
  | .lst xs => szDs xs
  | _ => 0
def szDs : List D → Nat
  | [] => 0
  | x :: r => szD x + 1 + szDs r
end
mutual
def smD : D → Bool
  | .int i => decide (-36893488147419103232 ≤ i ∧ i ≤ 36893488147419103232)
  | .tup xs => smDs xs
  | .lst xs => smDs xs
  | _ => true
def smDs : List D → Bool
  | [] => true
  | x :: r => smD x && smDs r
end
/-- data whose text is known -/
def rpD (x : D) : Bool := shp x && (smD x && decide (szD x ≤ 200000))
def flat : D → Bool
  | .non | .int _ | .str _ => true
  | _ => false
def lim : Nat := 1000000
def kyOf : D → Option Ky
  | .int i => some (.i i)
  | .str x => some (.s x)
  | _ => none
def Ky.d : Ky → D
  | .i k => .int k
  | .s x => .str x
def lkD (kvs : List (Ky × D)) (k : Ky) : Option D := (kvs.find? fun kv => decide (kv.1 = k)).map (·.2)
def putD (kvs : List (Ky × D)) (k : Ky) (x : D) : List (Ky × D) :=
  if (kvs.any fun kv => decide (kv.1 = k)) then kvs.map fun kv => if kv.1 = k then (kv.1, x) else kv else kvs ++ [(k, x)]

/-! ### texts -/
def firstW : Wd → Option Wd
  | .udiv => some .u | .sdiv => some .s | .urem => some .u | .srem => some .s
  | .eq => some .e | .ne => some .n | .ult => some .u | .ule => some .u | .slt => some .s | .sle => some .s
  | _ => none
def tailW : Wd → Option Wd
  | .udiv => some .div | .sdiv => some .div | .urem => some .rem | .srem => some .rem
  | .ult => some .lt | .ule => some .le | .slt => some .lt | .sle => some .le
  | _ => none
def lowerW : Wd → Option Wd
  | .ADD => some .add | .SUB => some .sub | .MUL => some .mul | .AND => some .band | .OR => some .bor | .XOR => some .bxor
  | _ => none
def upperW : Wd → Bool
  | .LOG | .ADD | .SUB | .MUL | .AND | .OR | .XOR => true
  | _ => false
def madeW : Wd → Option Wd
  | .ADD => some .add | .SUB => some .sub | .MUL => some .mul | .AND => some .band | .OR => some .bor | .XOR => some .bxor
  | _ => none

section
open Wd
/-- the rules: left side, right side -/
def rulesW : List (List Wd × List Wd) := [
  ([add, a, k0], [a]), ([sub, a, k0], [a]), ([sub, a, a], [k0]), ([mul, a, k0], [k0]), ([mul, a, k1], [a]), ([udiv, a, k1], [a]), ([urem, a, k1], [k0]),
  ([band, a, k0], [k0]), ([band, a, km1], [a]), ([band, a, a], [a]), ([bor, a, k0], [a]), ([bor, a, km1], [km1]), ([bor, a, a], [a]), ([bxor, a, k0], [a]), ([bxor, a, a], [k0]),
  ([shl, a, k0], [a]), ([lshr, a, k0], [a]), ([ashr, a, k0], [a]), ([eq, a, a], [k1]), ([ne, a, a], [k0]), ([ult, a, a], [k0]), ([ule, a, a], [k1]), ([slt, a, a], [k0]), ([sle, a, a], [k1]),
  ([select, k1, a, b], [a]), ([select, k0, a, b], [b]), ([select, c, a, a], [a]), ([select, c, k1, k0], [c]), ([ne, a, k0], [a]), ([eq, a, k1], [a]),
  ([add, m, a], [add, a, m]), ([mul, m, a], [mul, a, m]), ([band, m, a], [band, a, m]), ([bor, m, a], [bor, a, m]), ([bxor, m, a], [bxor, a, m]), ([eq, m, a], [eq, a, m]), ([ne, m, a], [ne, a, m]),
  ([sub, a, m], [add, a, SUB, k0, m]), ([mul, a, p], [shl, a, LOG, p]), ([udiv, a, p], [lshr, a, LOG, p]), ([urem, a, p], [band, a, SUB, p, k1]),
  ([add, add, a, m, n], [add, a, ADD, m, n]), ([mul, mul, a, m, n], [mul, a, MUL, m, n]), ([band, band, a, m, n], [band, a, AND, m, n]), ([bor, bor, a, m, n], [bor, a, OR, m, n]), ([bxor, bxor, a, m, n], [bxor, a, XOR, m, n]),
  ([sub, add, a, b, b], [a]), ([add, sub, a, b, b], [a]), ([bxor, bxor, a, b, b], [a]), ([band, a, bor, a, b], [a]), ([bor, a, band, a, b], [a]), ([eq, add, a, m, n], [eq, a, SUB, n, m]),
  ([bxor, eq, a, b, k1], [ne, a, b]), ([bxor, ne, a, b, k1], [eq, a, b]), ([bxor, ult, a, b, k1], [ule, b, a]), ([bxor, ule, a, b, k1], [ult, b, a]), ([bxor, slt, a, b, k1], [sle, b, a]), ([bxor, sle, a, b, k1], [slt, b, a]),
  ([trunc, zext, a], [a]), ([trunc, sext, a], [a]), ([trunc, trunc, a], [trunc, a]), ([zext, zext, a], [zext, a]), ([sext, sext, a], [sext, a])]
end
def sideTexts : List (List Wd) := rulesW.map (·.1) ++ rulesW.map (·.2)
def ruleText (r : List Wd × List Wd) : List Wd := r.1 ++ Wd.eqs :: r.2
def splitEq (x : List Wd) : Option (List (List Wd)) := (rulesW.find? fun r => decide (ruleText r = x)).map fun r => [r.1, r.2]

/-- the modules' constants -/
def strsD (l : List Wd) : D := .tup (l.map fun w => .str [w])
def globD : Nat → Option D
  | 0 => some (strsD [.add, .sub, .mul, .udiv, .sdiv, .urem, .srem, .band, .bor, .bxor, .shl, .lshr, .ashr])
  | 1 => some (strsD [.udiv, .sdiv, .urem, .srem])
  | 2 => some (strsD [.eq, .ne, .ult, .ule, .slt, .sle])
  | 3 => some (strsD [.zext, .sext, .trunc])
  | 4 => some (strsD [.udiv, .sdiv, .urem, .srem])
  | 5 => some (.tup (rulesW.map fun r => .tup [.str r.1, .str r.2]))
  | _ => none

/-! ### operations on things -/
def binW : Bop → W → W → Option W
  | .add, .d (.int i), .d (.int j) => some (.d (.int (i + j)))
  | .add, .d (.lst xs), .d (.lst ys) => if xs.length + ys.length < lim then some (.d (.lst (xs ++ ys))) else none
  | .add, .d (.tup xs), .d (.tup ys) => if xs.length + ys.length < lim then some (.d (.tup (xs ++ ys))) else none
  | .sub, .d (.int i), .d (.int j) => some (.d (.int (i - j)))
  | .mul, .d (.int i), .d (.int j) => if (-18446744073709551616 < i ∧ i < 18446744073709551616) ∨ (-18446744073709551616 < j ∧ j < 18446744073709551616) then some (.d (.int (i * j))) else none
  | .fdiv, .d (.int i), .d (.int j) => if 0 < j ∧ j ≤ 18446744073709551616 then some (.d (.int (i / j))) else none
  | .mod, .d (.int i), .d (.int j) => if 0 < j then some (.d (.int (i % j))) else none
  | .pow, .d (.int i), .d (.int j) => if 0 ≤ j ∧ j ≤ 100 ∧ 0 ≤ i ∧ i ≤ 1000 then some (.d (.int (i ^ j.toNat))) else none
  | .shl, .d (.int i), .d (.int j) => if 0 ≤ j ∧ j ≤ 1000 ∧ 0 ≤ i ∧ i ≤ 1000 then some (.d (.int (i * 2 ^ j.toNat))) else none
  | .band, .d (.int i), .d (.int j) => some (.d (.int (Builtin.bitAnd i j)))
  | .bor, .d (.int i), .d (.int j) => some (.d (.int (Builtin.bitOr i j)))
  | .bxor, .d (.int i), .d (.int j) => some (.d (.int (Builtin.bitXor i j)))
  | _, _, _ => none
def isNon : W → Bool
  | .d .non => true
  | _ => false
/-- x in y -/
def inW (x y : W) (mem : Mem) : Option Bool :=
  match x, y with
  | .d x, .d (.lst ys) => if shp x && shp (.lst ys) then some (ys.any fun z => eqD z x) else none
  | .d x, .d (.tup ys) => if flat x && ys.all flat then some (ys.any fun z => eqD z x) else none
  | .d x, .d (.dct kvs) => (kyOf x).map fun k => (lkD kvs k).isSome
  | .d x, .r n => match mem[n]? with
    | some (.dct kvs) => (kyOf x).map fun k => (lkD kvs k).isSome
    | _ => none
  | _, _ => none
/-- x == y -/
def eqW (x y : W) (mem : Mem) : Option Bool :=
  match x, y with
  | .d x, .d y => if shp x && shp y then some (eqD x y) else none
  | .r n, .d (.lst []) => match mem[n]? with
    | some (.lst xs) => some xs.isEmpty
    | some (.obj xs) => some xs.isEmpty
    | _ => none
  | _, _ => none
def cmpW (op : Cop) (x y : W) (mem : Mem) : Option Bool :=
  match op with
  | .eq => eqW x y mem
  | .ne => (eqW x y mem).map (!·)
  | .inn => inW x y mem
  | .nin => (inW x y mem).map (!·)
  | .isn => match y with | .d .non => some (isNon x) | _ => none
  | .notn => match y with | .d .non => some (!isNon x) | _ => none
  | .lt => match x, y with | .d (.int i), .d (.int j) => some (decide (i < j)) | _, _ => none
  | .le => match x, y with | .d (.int i), .d (.int j) => some (decide (i ≤ j)) | _, _ => none
  | .gt => match x, y with | .d (.int i), .d (.int j) => some (decide (j < i)) | _, _ => none
  | .ge => match x, y with | .d (.int i), .d (.int j) => some (decide (j ≤ i)) | _, _ => none
/-- x[y] -/
def ixW (x y : W) (mem : Mem) : Option W :=
  match x, y with
  | .d (.lst xs), .d (.int i) => (L2.atI xs i).map .d
  | .d (.tup xs), .d (.int i) => (L2.atI xs i).map .d
  | .d (.str [w]), .d (.int i) => if i = 0 then (firstW w).map fun u => .d (.str [u]) else none
  | .d (.dct kvs), .d k => (kyOf k).bind fun k => (lkD kvs k).map .d
  | .r n, .d k => match mem[n]? with
    | some (.lst xs) => match k with | .int i => (L2.atI xs i).map .d | _ => none
    | some (.obj xs) => match k with | .int i => L2.atI xs i | _ => none
    | some (.dct kvs) => (kyOf k).bind fun k => (lkD kvs k).map .d
    | some (.dctL kvs) => (kyOf k).bind fun k => (lkD kvs k).map .d
    | _ => none
  | _, _ => none
def cutD {α : Type} (xs : List α) (lo hi : Option Int) : List α := (xs.drop (HT.sIx xs.length 0 lo)).take (HT.sIx xs.length xs.length hi - HT.sIx xs.length 0 lo)
/-- x[lo:hi] -/
def slcW (x : W) (lo hi : Option Int) : Option W :=
  match x with
  | .d (.lst xs) => some (.d (.lst (cutD xs lo hi)))
  | .d (.str [w]) => if lo = some 1 ∧ hi = none then (tailW w).map fun u => .d (.str [u]) else none
  | _ => none
def bls : List D → Option (List Bool)
  | [] => some []
  | .bl i :: r => (bls r).map (i :: ·)
  | _ => none
def pairsD : List D → Option (List (Ky × D))
  | [] => some []
  | .tup [k, x] :: r => (kyOf k).bind fun k => (pairsD r).map ((k, x) :: ·)
  | _ => none
def isTup1 : D → Bool
  | .tup (_ :: _) => true
  | _ => false
def noTup : D → Bool
  | .tup _ | .non => false
  | _ => true
/-- sorted(xs), xs all alike -/
def sortD (xs : List D) : Option (List D) :=
  if xs.all (fun x => xs.all fun y => PySem.W.alike x.toP y.toP) && (xs.all shp && ((xs.all isTup1 || xs.all noTup) && decide (xs.length < lim))) then some (xs.mergeSort (PySem.W.dataLe false D.toP)) else none
/-- built-in functions of one argument -/
def bltW (b : Blt) (x : W) (mem : Mem) : Option (W × Mem) :=
  match b, x with
  | .len, .d (.lst xs) => some (.d (.int xs.length), mem)
  | .len, .d (.tup xs) => some (.d (.int xs.length), mem)
  | .abs, .d (.int i) => some (.d (.int (if i < 0 then -i else i)), mem)
  | .int, .d (.int i) => some (.d (.int i), mem)
  | .int, .d (.str [.k0]) => some (.d (.int 0), mem)
  | .int, .d (.str [.k1]) => some (.d (.int 1), mem)
  | .str, .d (.str x) => some (.d (.str x), mem)
  | .tuple, .d (.lst xs) => some (.d (.tup xs), mem)
  | .tuple, .r n => match mem[n]? with
    | some (.lst xs) => some (.d (.tup xs), mem)
    | _ => none
  | .tupleP, .d (.lst xs) => (pairsD xs).map fun kvs => (.d (.prs kvs), mem)
  | .list, .d (.dct kvs) => some (.d (.lst (kvs.map fun kv => kv.1.d)), mem)
  | .list, .d (.lst xs) => some (.d (.lst xs), mem)
  | .list, .r n => match mem[n]? with
    | some (.dct kvs) => some (.d (.lst (kvs.map fun kv => kv.1.d)), mem)
    | _ => none
  | .listM, .d (.lst xs) => some (.r mem.length, mem ++ [.lst xs])
  | .sorted, .d (.lst xs) => (sortD xs).map fun ys => (.d (.lst ys), mem)
  | .sorted, .d (.dct kvs) => (sortD (kvs.map fun kv => kv.1.d)).map fun ys => (.d (.lst ys), mem)
  | .dict, .d (.prs kvs) => if kvs.length < lim then some (.r mem.length, mem ++ [.dct (kvs.foldl (fun acc kv => putD acc kv.1 kv.2) [])]) else none
  | .all, .d (.lst xs) => (bls xs).map fun bs => (.d (.bl (bs.all id)), mem)
  | .dictEnum, .d (.tup []) => some (.r mem.length, mem ++ [.dct []])
  | .dictEnum, .d (.lst []) => some (.r mem.length, mem ++ [.dct []])
  | _, _ => none
/-- built-in methods -/
def methW (m : Mth) (o : W) (xs : List W) (mem : Mem) : Option (W × Mem) :=
  match m, o, xs with
  | .append, .r n, [.d x] => match mem[n]? with
    | some (.lst ys) => if ys.length < lim then some (.d .non, mem.set n (.lst (ys ++ [x]))) else none
    | _ => none
  | .pop, .r n, [] => match mem[n]? with
    | some (.lst ys) => match ys[ys.length - 1]? with
      | some y => some (.d y, mem.set n (.lst ys.dropLast))
      | none => none
    | some (.obj ys) => match ys[ys.length - 1]? with
      | some y => some (y, mem.set n (.obj ys.dropLast))
      | none => none
    | _ => none
  | .popAt, .r n, [.d (.int 0)] => match mem[n]? with
    | some (.lst (y :: ys)) => some (.d y, mem.set n (.lst ys))
    | _ => none
  | .get, .r n, [.d k] => match mem[n]? with
    | some (.dct kvs) => (kyOf k).map fun k => (.d ((lkD kvs k).getD .non), mem)
    | _ => none
  | .setdefault, .r n, [.d k, .d x] => match mem[n]? with
    | some (.dct kvs) => (kyOf k).bind fun k => if kvs.length < lim then match lkD kvs k with
      | some y => some (.d y, mem)
      | none => some (.d x, mem.set n (.dct (kvs ++ [(k, x)]))) else none
    | _ => none
  | .split, .d (.str x), [] => if x ∈ sideTexts then some (.d (.lst (x.map fun w => .str [w])), mem) else none
  | .splitq, .d (.str x), [] => (splitEq x).map fun ys => (.d (.lst (ys.map .str)), mem)
  | .lower, .d (.str [w]), [] => (lowerW w).map fun u => (.d (.str [u]), mem)
  | .isupper, .d (.str [w]), [] => some (.d (.bl (upperW w)), mem)
  | .bitlen, .d (.int i), [] => some (.d (.int (Builtin.Int.intBits i : Nat)), mem)
  | _, _, _ => none
/-- the receiver's type -/
def mthTy (m : Mth) (o : W) (mem : Mem) : Bool :=
  match m, o with
  | .append, .r n | .pop, .r n | .popAt, .r n => match mem[n]? with
    | some (.lst _) => true
    | some (.obj _) => true
    | _ => false
  | .get, .r n | .setdefault, .r n => match mem[n]? with
    | some (.dct _) => true
    | _ => false
  | .split, .d (.str _) | .splitq, .d (.str _) | .lower, .d (.str _) | .isupper, .d (.str _) => true
  | .bitlen, .d (.int _) => true
  | _, _ => false
/-- o[i] = x -/
def setW (o i x : W) (mem : Mem) : Option Mem :=
  match o, i with
  | .r n, .d k => match mem[n]? with
    | some (.obj ys) => match k with
      | .int i => (L2.ixN ys.length i).map fun j => mem.set n (.obj (ys.set j x))
      | _ => none
    | some (.dct kvs) => match x with
      | .d x => (kyOf k).bind fun k => if kvs.length < lim then some (mem.set n (.dct (putD kvs k x))) else none
      | .r _ => none
    | _ => none
  | _, _ => none

/-! ### what the language computes; cl: what a call of the k-th def computes -/
abbrev Cl := Nat → List W → Mem → Option (W × Mem)
def allD : List W → Option (List D)
  | [] => some []
  | .d x :: r => (allD r).map (x :: ·)
  | .r _ :: _ => none
/-- a target's slots -/
def setTg (tg : Tg) (x : D) (env : Env) : Option Env :=
  match tg with
  | .nm i => some (env.set i (some (.d x)))
  | .tp is => match x with
    | .tup xs => if xs.length = is.length then some ((is.zip xs).foldl (fun e p => e.set p.1 (some (.d p.2))) env) else none
    | _ => none
def wipeE (env : Env) : List Nat → Env
  | [] => env
  | v :: vs => (wipeE env vs).set v none
def zip2 : List D → List D → List D
  | x :: xs, y :: ys => .tup [x, y] :: zip2 xs ys
  | _, _ => []
def zip3 : List D → List D → List D → List D
  | x :: xs, y :: ys, z :: zs => .tup [x, y, z] :: zip3 xs ys zs
  | _, _, _ => []
def seqD : W → Option (List D)
  | .d (.lst xs) => some xs
  | .d (.tup xs) => some xs
  | _ => none
/-- what a for walks (data alone) -/
def itemsD (k : ItK) (ws : List W) : Option (List D) :=
  match k, ws with
  | .e, [.d (.lst xs)] => some xs
  | .e, [.d (.tup xs)] => some xs
  | .range, [.d (.int i)] => if -100000 ≤ i ∧ i ≤ 100000 then some ((List.range i.toNat).map fun (j : Nat) => .int (j : Int)) else none
  | .zip, [x, y] => (seqD x).bind fun xs => (seqD y).map fun ys => zip2 xs ys
  | .zip, [x, y, z] => (seqD x).bind fun xs => (seqD y).bind fun ys => (seqD z).map fun zs => zip3 xs ys zs
  | _, _ => none
/-- .. or a dict that a name holds -/
def itemsV (k : ItK) (its : List IR) (ws : List W) : Option (List D) :=
  match its, ws with
  | [.var _], [.d (.dct kvs)] => match k with
    | .e => some (kvs.map fun kv => kv.1.d)
    | _ => none
  | _, _ => itemsD k ws
/-- a comprehension's turns: what a turn adds to what is made so far -/
def turns {α : Type} (f : D → Mem → Option (Option α × Mem)) (add : α → List α → List α) : List D → List α → Mem → Option (List α × Mem)
  | [], acc, mem => some (acc, mem)
  | x :: xs, acc, mem => bnd (f x mem) fun o mem => turns f add xs (match o with | some y => add y acc | none => acc) mem
def snoc {α : Type} (y : α) (acc : List α) : List α := acc ++ [y]
mutual
def evE (cl : Cl) : IR → Env → Mem → Option (W × Mem)
  | .var i, env, mem => match env[i]? with
    | some (some w) => some (w, mem)
    | _ => none
  | .con x, _, mem => some (.d x, mem)
  | .glob k, _, mem => (globD k).map fun x => (.d x, mem)
  | .tup es, env, mem => bnd (evEs cl es env mem) fun ws mem => (allD ws).map fun xs => (.d (.tup xs), mem)
  | .lstF es, env, mem => bnd (evEs cl es env mem) fun ws mem => (allD ws).map fun xs => (.d (.lst xs), mem)
  | .lstM es, env, mem => bnd (evEs cl es env mem) fun ws mem => match allD ws with
    | some xs => some (.r mem.length, mem ++ [.lst xs])
    | none => some (.r mem.length, mem ++ [.obj ws])
  | .dctM, _, mem => some (.r mem.length, mem ++ [.dct []])
  | .call f es, env, mem => bnd (evEs cl es env mem) fun ws mem => cl f ws mem
  | .callK f ks es, env, mem => bnd (evEs cl es env mem) fun ws mem => (ks.mapM fun k => ws[k]?).bind fun us => cl f us mem
  | .blt b x, env, mem => bnd (evE cl x env mem) fun w mem => bltW b w mem
  | .meth m o es, env, mem => bnd (evE cl o env mem) fun w mem => if mthTy m w mem then bnd (evEs cl es env mem) fun ws mem => methW m w ws mem else none
  | .bin op x y, env, mem => bnd (evE cl x env mem) fun v mem => bnd (evE cl y env mem) fun w mem => (binW op v w).map fun u => (u, mem)
  | .neg x, env, mem => bnd (evE cl x env mem) fun v mem => match v with
    | .d (.int i) => some (.d (.int (-i)), mem)
    | _ => none
  | .cmp op x y, env, mem => bnd (evE cl x env mem) fun v mem => bnd (evE cl y env mem) fun w mem => (cmpW op v w mem).map fun b => (.d (.bl b), mem)
  | .repr neq x y, env, mem => bnd (evE cl x env mem) fun v mem => bnd (evE cl y env mem) fun w mem => match v, w with
    | .d x, .d y => if rpD x && eqS x y then some (.d (.bl (!neq)), mem) else none
    | _, _ => none
  | .inMade x, env, mem => bnd (evE cl x env mem) fun v mem => match v with
    | .d (.str [w]) => some (.d (.bl (madeW w).isSome), mem)
    | _ => none
  | .made x, env, mem => bnd (evE cl x env mem) fun v mem => match v with
    | .d (.str [w]) => (madeW w).map fun u => (.d (.str [u]), mem)
    | _ => none
  | .andL es, env, mem => evAnd cl es env mem
  | .orL es, env, mem => evOr cl es env mem
  | .not x, env, mem => bnd (evE cl x env mem) fun v mem => match v with
    | .d (.bl b) => some (.d (.bl (!b)), mem)
    | _ => none
  | .ite c x y, env, mem => bnd (evE cl c env mem) fun v mem => match v with
    | .d (.bl b) => if b then evE cl x env mem else evE cl y env mem
    | _ => none
  | .ix x y, env, mem => bnd (evE cl x env mem) fun v mem => bnd (evE cl y env mem) fun w mem => (ixW v w mem).map fun u => (u, mem)
  | .slc x lo hi, env, mem => bnd (evE cl x env mem) fun v mem => bnd (evO cl lo env mem) fun l mem => bnd (evO cl hi env mem) fun h mem => (slcW v l h).map fun u => (u, mem)
  | .rev x, env, mem => bnd (evE cl x env mem) fun v mem => match v with
    | .d (.lst xs) => some (.d (.lst xs.reverse), mem)
    | .d (.tup xs) => some (.d (.tup xs.reverse), mem)
    | _ => none
  | .revM x, env, mem => bnd (evE cl x env mem) fun v mem => match v with
    | .d (.lst xs) => some (.r mem.length, mem ++ [.lst xs.reverse])
    | _ => none
  | .lc own tg k its cond elt, env, mem => bnd (evEs cl its env mem) fun ws mem => (itemsV k its ws).bind fun xs =>
    bnd (turns (fun x mem => (setTg tg x (wipeE env own)).bind fun env => bnd (evC cl cond env mem) fun b mem => if b then bnd (evE cl elt env mem) fun w mem => match w with
      | .d y => some (some y, mem)
      | .r _ => none else some (none, mem)) snoc xs [] mem) fun ys mem => if ys.length < lim then some (.d (.lst ys), mem) else none
  | .dc1 own i it kx vx, env, mem => bnd (evE cl it env mem) fun w mem => (seqD w).bind fun xs =>
    bnd (turns (fun x mem => bnd (evE cl kx ((wipeE env own).set i (some (.d x))) mem) fun k mem => bnd (evE cl vx ((wipeE env own).set i (some (.d x))) mem) fun v mem => match k, v with
      | .d k, .d v => (kyOf k).map fun k => (some (k, v), mem)
      | _, _ => none) (fun p acc => putD acc p.1 p.2) xs [] mem) fun kvs mem => if xs.length < lim then some (.d (.dct kvs), mem) else none
  | .dc2 own i j it it2 cond kx vx, env, mem => bnd (evE cl it env mem) fun w mem => (seqD w).bind fun xs => match xs with
    | [y] => bnd (evE cl it2 ((wipeE env own).set i (some (.d y))) mem) fun w mem => (seqD w).bind fun xs =>
      bnd (turns (fun x mem => bnd (evE cl cond (((wipeE env own).set i (some (.d y))).set j (some (.d x))) mem) fun b mem => match b with
        | .d (.bl false) => some (none, mem)
        | .d (.bl true) => bnd (evE cl kx (((wipeE env own).set i (some (.d y))).set j (some (.d x))) mem) fun k mem => bnd (evE cl vx (((wipeE env own).set i (some (.d y))).set j (some (.d x))) mem) fun v mem => match k, v with
          | .d k, .d v => (kyOf k).map fun k => (some (k, v), mem)
          | _, _ => none
        | _ => none) (fun p acc => putD acc p.1 p.2) xs [] mem) fun kvs mem => if xs.length < lim then some (.d (.dct kvs), mem) else none
    | _ => none
  | .bad, _, _ => none
def evEs (cl : Cl) : List IR → Env → Mem → Option (List W × Mem)
  | [], _, mem => some ([], mem)
  | x :: r, env, mem => bnd (evE cl x env mem) fun w mem => bnd (evEs cl r env mem) fun ws mem => some (w :: ws, mem)
/-- a comprehension's tests: none or one -/
def evC (cl : Cl) : List IR → Env → Mem → Option (Bool × Mem)
  | [], _, mem => some (true, mem)
  | [x], env, mem => bnd (evE cl x env mem) fun v mem => match v with
    | .d (.bl b) => some (b, mem)
    | _ => none
  | _ :: _ :: _, _, _ => none
def evAnd (cl : Cl) : List IR → Env → Mem → Option (W × Mem)
  | [], _, _ => none
  | [x], env, mem => evE cl x env mem
  | x :: y :: r, env, mem => bnd (evE cl x env mem) fun v mem => match v with
    | .d (.bl b) => if b then evAnd cl (y :: r) env mem else some (.d (.bl false), mem)
    | _ => none
def evOr (cl : Cl) : List IR → Env → Mem → Option (W × Mem)
  | [], _, _ => none
  | [x], env, mem => evE cl x env mem
  | x :: y :: r, env, mem => bnd (evE cl x env mem) fun v mem => match v with
    | .d (.bl b) => if b then some (.d (.bl true), mem) else evOr cl (y :: r) env mem
    | _ => none
/-- a slice's bound -/
def evO (cl : Cl) : Option IR → Env → Mem → Option (Option Int × Mem)
  | none, _, mem => some (none, mem)
  | some x, env, mem => bnd (evE cl x env mem) fun v mem => match v with
    | .d (.int i) => some (some i, mem)
    | _ => none
end
/-- a store -/
def stT (cl : Cl) : Tgt → W → Env → Mem → Option (Env × Mem)
  | .nm i, w, env, mem => some (env.set i (some w), mem)
  | .sub o i, w, env, mem => bnd (evE cl o env mem) fun ov mem => bnd (evE cl i env mem) fun iv mem => (setW ov iv w mem).map fun mem => (env, mem)
def stTs (cl : Cl) : List Tgt → List W → Env → Mem → Option (Env × Mem)
  | [], [], env, mem => some (env, mem)
  | t :: ts, w :: ws, env, mem => bnd (stT cl t w env mem) fun env mem => stTs cl ts ws env mem
  | _, _, _, _ => none
/-- a for's turns -/
def loopF (f : Env → Mem → Option ((Out × Env) × Mem)) (tg : Tg) : List D → Env → Mem → Option ((Out × Env) × Mem)
  | [], env, mem => some ((.next, env), mem)
  | x :: xs, env, mem => (setTg tg x env).bind fun env => bnd (f env mem) fun r mem => match r.1 with
    | .next => loopF f tg xs r.2 mem
    | _ => some (r, mem)
def loopW (c : Env → Mem → Option (W × Mem)) (f : Env → Mem → Option ((Out × Env) × Mem)) : Nat → Env → Mem → Option ((Out × Env) × Mem)
  | 0, _, _ => none
  | n + 1, env, mem => bnd (c env mem) fun v mem => match v with
    | .d (.bl false) => some ((.next, env), mem)
    | .d (.bl true) => bnd (f env mem) fun r mem => match r.1 with
      | .next => loopW c f n r.2 mem
      | _ => some (r, mem)
    | _ => none
/-- a for over a dict of the cells: it is locked meanwhile -/
def lockM (mem : Mem) (n : Nat) : Option (List (Ky × D) × Mem) :=
  match mem[n]? with
  | some (.dct kvs) => some (kvs, mem.set n (.dctL kvs))
  | _ => none
def unlockM (n : Nat) (kvs : List (Ky × D)) (mem : Mem) : Mem := mem.set n (.dct kvs)
mutual
def evS (cl : Cl) : IS → Env → Mem → Option ((Out × Env) × Mem)
  | .expr x, env, mem => bnd (evE cl x env mem) fun _ mem => some ((.next, env), mem)
  | .asg t x, env, mem => bnd (evE cl x env mem) fun w mem => bnd (stT cl t w env mem) fun env mem => some ((.next, env), mem)
  | .asgT ts x, env, mem => bnd (evE cl x env mem) fun w mem => (seqD w).bind fun xs => bnd (stTs cl ts (xs.map .d) env mem) fun env mem => some ((.next, env), mem)
  | .asgP is es, env, mem => bnd (evEs cl es env mem) fun ws mem => if ws.length = is.length then some ((.next, (is.zip ws).foldl (fun e p => e.set p.1 (some p.2)) env), mem) else none
  | .asgD ts es, env, mem => bnd (evEs cl es env mem) fun ws mem => bnd (stTs cl ts ws env mem) fun env mem => some ((.next, env), mem)
  | .iff c t f, env, mem => bnd (evE cl c env mem) fun v mem => match v with
    | .d (.bl b) => if b then evSs cl t env mem else evSs cl f env mem
    | _ => none
  | .forr tg k its body, env, mem => bnd (evEs cl its env mem) fun ws mem => match itemsV k its ws with
    | some xs => loopF (fun env mem => evSs cl body env mem) tg xs env mem
    | none => match k, its, ws with
      | .e, [.var _], [.r n] => match mem[n]? with
        | some (.lst []) => some ((.next, env), mem)
        | _ => bnd (lockM mem n) fun kvs mem => bnd (loopF (fun env mem => evSs cl body env mem) tg (kvs.map fun kv => kv.1.d) env mem) fun r mem => some (r, unlockM n kvs mem)
      | _, _, _ => none
  | .whil c body, env, mem => loopW (fun env mem => evE cl c env mem) (fun env mem => evSs cl body env mem) 100 env mem
  | .ret x, env, mem => bnd (evE cl x env mem) fun w mem => some ((.ret w, env), mem)
  | .retT es, env, mem => bnd (evEs cl es env mem) fun ws mem => some ((.retT ws, env), mem)
  | .bad, _, _ => none
def evSs (cl : Cl) : List IS → Env → Mem → Option ((Out × Env) × Mem)
  | [], env, mem => some ((.next, env), mem)
  | s :: r, env, mem => bnd (evS cl s env mem) fun q mem => match q.1 with
    | .next => evSs cl r q.2 mem
    | _ => some (q, mem)
end
/-- what is handed back: nobody changes it any more -/
def frz (base : Nat) (mem : Mem) : W → Option D
  | .d x => some x
  | .r n => if n < base then none else match mem[n]? with
    | some (.lst xs) => some (.lst xs)
    | some (.dct kvs) => some (.dct kvs)
    | _ => none
/-- what a cell of the caller's holds is known by the caller's cells -/
def inC (n : Nat) : Cell → Bool
  | .obj ws => ws.all fun w => match w with
    | .r i => decide (i < n)
    | .d _ => true
  | _ => true
/-- a def: how many parameters, how many slots, its body, whether what it makes lives on -/
structure Fn where
  ar : Nat
  sl : Nat
  body : List IS
  keep : Bool := false
/-- what a def hands back: with all it made, or frozen -/
def keepR (out : Out) (m1 : Mem) : Option (W × Mem) := match out with
  | .ret w => some (w, m1)
  | _ => none
def cutR (n : Nat) (out : Out) (m1 : Mem) : Option (W × Mem) := match out with
  | .next => some (.d .non, m1.take n)
  | .ret w => (frz n m1 w).map fun x => (.d x, m1.take n)
  | .retT [] => none
  | .retT (w :: us) => (allD us).bind fun ds => (frz n m1 w).map fun x => (.d (.tup (x :: ds)), m1.take n)
def runF (cl : Cl) (f : Fn) (ws : List W) (mem : Mem) : Option (W × Mem) :=
  if ws.length = f.ar then bnd (evSs cl f.body (ws.map some ++ List.replicate (f.sl - f.ar) none) mem) fun q mem' =>
    if f.keep then keepR q.1 mem' else if (mem'.take mem.length).all (inC mem.length) then cutR mem.length q.1 mem' else none
  else none
def callF (tab : Nat → Option Fn) : Nat → Cl
  | 0, _, _, _ => none
  | k + 1, f, ws, mem => match tab f with
    | some fn => runF (callF tab k) fn ws mem
    | none => none
end Mi
end
section
/-! Mi2: the defs of the program and of the law in the small language; printed by gen.py. -/
namespace Mi
open PySem
def fn_wrapped : Fn := { ar := 2, sl := 2, keep := false, body :=
   [.ret (.bin .mod (.var 0) (.bin .shl (.con (.int 1)) (.var 1)))] }
def nm_wrapped : List String := ["number", "width"]
def fn_signed : Fn := { ar := 2, sl := 2, keep := false, body :=
   [.ret (.ite (.cmp .ge (.var 0) (.bin .shl (.con (.int 1)) (.bin .sub (.var 1) (.con (.int 1))))) (.bin .sub (.var 0) (.bin .shl (.con (.int 1)) (.var 1))) (.var 0))] }
def nm_signed : List String := ["number", "width"]
def fn_quotient : Fn := { ar := 2, sl := 3, keep := false, body :=
   [.asg (.nm 2) (.bin .fdiv (.blt .abs (.var 0)) (.blt .abs (.var 1))),
    .ret (.ite (.cmp .eq (.cmp .lt (.var 0) (.con (.int 0))) (.cmp .lt (.var 1) (.con (.int 0)))) (.var 2) (.neg (.var 2)))] }
def nm_quotient : List String := ["one", "other", "found"]
def fn_divided : Fn := { ar := 4, sl := 7, keep := false, body :=
   [.iff (.cmp .eq (.var 3) (.con (.int 0)))
     [.ret (.con .non)]
     [],
    .iff (.cmp .eq (.var 0) (.con (.str [.udiv])))
     [.ret (.bin .fdiv (.var 2) (.var 3))]
     [],
    .iff (.cmp .eq (.var 0) (.con (.str [.urem])))
     [.ret (.bin .mod (.var 2) (.var 3))]
     [],
    .asgP [5, 6] [.call 6 [.var 2, .var 1], .call 6 [.var 3, .var 1]],
    .asg (.nm 4) (.call 7 [.var 5, .var 6]),
    .ret (.call 5 [.ite (.cmp .eq (.var 0) (.con (.str [.sdiv]))) (.var 4) (.bin .sub (.var 5) (.bin .mul (.var 6) (.var 4))), .var 1])] }
def nm_divided : List String := ["op", "width", "one", "other", "whole", "first", "second"]
def fn_shifted : Fn := { ar := 4, sl := 5, keep := false, body :=
   [.asg (.nm 4) (.bin .mod (.var 3) (.var 1)),
    .iff (.cmp .eq (.var 0) (.con (.str [.shl])))
     [.ret (.call 5 [.bin .shl (.var 2) (.var 4), .var 1])]
     [],
    .iff (.cmp .eq (.var 0) (.con (.str [.lshr])))
     [.ret (.bad)]
     [],
    .ret (.call 5 [.bad, .var 1])] }
def nm_shifted : List String := ["op", "width", "one", "other", "by"]
def fn_bin_told : Fn := { ar := 4, sl := 4, keep := false, body :=
   [.iff (.cmp .inn (.var 0) (.glob 1))
     [.ret (.call 8 [.var 0, .var 1, .var 2, .var 3])]
     [],
    .iff (.cmp .inn (.var 0) (.tup [.con (.str [.shl]), .con (.str [.lshr]), .con (.str [.ashr])]))
     [.ret (.call 9 [.var 0, .var 1, .var 2, .var 3])]
     [],
    .iff (.cmp .eq (.var 0) (.con (.str [.band])))
     [.ret (.bin .band (.var 2) (.var 3))]
     [],
    .iff (.cmp .eq (.var 0) (.con (.str [.bor])))
     [.ret (.bin .bor (.var 2) (.var 3))]
     [],
    .iff (.cmp .eq (.var 0) (.con (.str [.bxor])))
     [.ret (.bin .bxor (.var 2) (.var 3))]
     [],
    .iff (.cmp .eq (.var 0) (.con (.str [.add])))
     [.ret (.call 5 [.bin .add (.var 2) (.var 3), .var 1])]
     [],
    .ret (.call 5 [.ite (.cmp .eq (.var 0) (.con (.str [.sub]))) (.bin .sub (.var 2) (.var 3)) (.bin .mul (.var 2) (.var 3)), .var 1])] }
def nm_bin_told : List String := ["op", "width", "one", "other"]
def fn_results_of : Fn := { ar := 1, sl := 2, keep := false, body :=
   [.ret (.dc1 [1] 1 (.ix (.var 0) (.con (.int 1))) (.ix (.var 1) (.con (.int 0))) (.ix (.var 1) (.con (.int 2))))] }
def nm_results_of : List String := ["module", "function"]
def fn_op_type : Fn := { ar := 2, sl := 4, keep := false, body :=
   [.asgP [2, 3] [.ix (.var 0) (.con (.int 1)), .ix (.var 0) (.con (.int 2))],
    .iff (.cmp .eq (.var 2) (.con (.str [.call])))
     [.ret (.meth .get (.var 1) [.ix (.var 3) (.con (.int 0))])]
     [],
    .iff (.cmp .eq (.var 2) (.con (.str [.cmp])))
     [.ret (.con (.int 1))]
     [],
    .iff (.cmp .inn (.var 2) (.tup [.con (.str [.select]), .con (.str [.cast])]))
     [.ret (.ix (.var 3) (.neg (.con (.int 1))))]
     [],
    .iff (.cmp .inn (.var 2) (.tup [.con (.str [.alloca]), .con (.str [.att])]))
     [.ret (.con (.str [.ptr]))]
     [],
    .ret (.ite (.cmp .eq (.var 2) (.con (.str [.bin]))) (.ix (.var 3) (.con (.int 1))) (.ix (.var 3) (.con (.int 0))))] }
def nm_op_type : List String := ["op", "results", "kind", "info"]
def fn_type_table : Fn := { ar := 2, sl := 7, keep := false, body :=
   [.asg (.nm 2) (.blt .dictEnum (.ix (.var 0) (.con (.int 1)))),
    .forr (.nm 3) .e [.ix (.var 0) (.con (.int 3))]
     [.forr (.tp [5, 6]) .e [.ix (.var 3) (.con (.int 1))]
       [.expr (.meth .setdefault (.var 2) [.var 5, .var 6])],
      .forr (.nm 4) .e [.ix (.var 3) (.con (.int 2))]
       [.iff (.cmp .notn (.ix (.var 4) (.con (.int 0))) (.con .non))
         [.expr (.meth .setdefault (.var 2) [.ix (.var 4) (.con (.int 0)), .call 13 [.var 4, .var 1]])]
         []]],
    .ret (.var 2)] }
def nm_type_table : List String := ["function", "results", "found", "block", "op", "value", "sort"]
def fn_value_types : Fn := { ar := 2, sl := 4, keep := false, body :=
   [.asg (.nm 2) (.call 14 [.var 1, .call 12 [.var 0]]),
    .ret (.blt .tupleP (.lc [3] (.nm 3) .e [.blt .sorted (.var 2)] [.cmp .notn (.ix (.var 2) (.var 3)) (.con .non)] (.tup [.var 3, .ix (.var 2) (.var 3)])))] }
def nm_value_types : List String := ["module", "function", "found", "value"]
def fn_is_pure : Fn := { ar := 1, sl := 1, keep := false, body :=
   [.iff (.andL [.cmp .eq (.ix (.var 0) (.con (.int 1))) (.con (.str [.bin])), .cmp .inn (.ix (.ix (.var 0) (.con (.int 2))) (.con (.int 0))) (.glob 4)])
     [.ret (.andL [.cmp .eq (.ix (.ix (.ix (.var 0) (.con (.int 3))) (.con (.int 1))) (.con (.int 0))) (.con (.str [.n])), .cmp .gt (.ix (.ix (.ix (.var 0) (.con (.int 3))) (.con (.int 1))) (.con (.int 1))) (.con (.int 0))])]
     [],
    .ret (.cmp .inn (.ix (.var 0) (.con (.int 1))) (.tup [.con (.str [.bin]), .con (.str [.cmp]), .con (.str [.select]), .con (.str [.cast]), .con (.str [.att])]))] }
def nm_is_pure : List String := ["op"]
def fn_pure_types : Fn := { ar := 1, sl := 2, keep := false, body :=
   [.asg (.nm 1) (.ix (.var 0) (.con (.int 2))),
    .iff (.cmp .eq (.ix (.var 0) (.con (.int 1))) (.con (.str [.bin])))
     [.ret (.tup [.tup [.ix (.var 1) (.con (.int 1)), .ix (.var 1) (.con (.int 1))], .ix (.var 1) (.con (.int 1))])]
     [],
    .iff (.cmp .eq (.ix (.var 0) (.con (.int 1))) (.con (.str [.cmp])))
     [.ret (.tup [.tup [.ix (.var 1) (.con (.int 1)), .ix (.var 1) (.con (.int 1))], .con (.int 1)])]
     [],
    .iff (.cmp .eq (.ix (.var 0) (.con (.int 1))) (.con (.str [.select])))
     [.ret (.tup [.tup [.con (.int 1), .ix (.var 1) (.con (.int 0)), .ix (.var 1) (.con (.int 0))], .ix (.var 1) (.con (.int 0))])]
     [],
    .iff (.cmp .eq (.ix (.var 0) (.con (.int 1))) (.con (.str [.cast])))
     [.ret (.tup [.tup [.ix (.var 1) (.con (.int 1))], .ix (.var 1) (.con (.int 2))])]
     [],
    .ret (.tup [.tup [.con (.str [.ptr]), .ix (.var 1) (.con (.int 0))], .con (.str [.ptr])])] }
def nm_pure_types : List String := ["op", "info"]
def fn_places_of : Fn := { ar := 1, sl := 1, keep := false, body :=
   [.iff (.orL [.cmp .inn (.var 0) (.glob 0), .cmp .inn (.var 0) (.glob 2), .inMade (.var 0)])
     [.ret (.con (.int 2))]
     [],
    .iff (.orL [.cmp .inn (.var 0) (.glob 3), .cmp .eq (.var 0) (.con (.str [.LOG]))])
     [.ret (.con (.int 1))]
     [],
    .ret (.ite (.cmp .eq (.var 0) (.con (.str [.select]))) (.con (.int 3)) (.con (.int 0)))] }
def nm_places_of : List String := ["word"]
def fn_read_side : Fn := { ar := 2, sl := 6, keep := false, body :=
   [.asgP [3, 4] [.lstM [], .bin .add (.var 1) (.con (.int 1))],
    .forr (.nm 2) .range [.call 23 [.ix (.var 0) (.var 1)]]
     [.asgT [.nm 5, .nm 4] (.call 24 [.var 0, .var 4]),
      .expr (.meth .append (.var 3) [.var 5])],
    .ret (.tup [.tup [.ix (.var 0) (.var 1), .blt .tuple (.var 3)], .var 4])] }
def nm_read_side : List String := ["words", "at", "turn", "args", "begin", "arg"]
def fn_side_form : Fn := { ar := 1, sl := 1, keep := false, body :=
   [.ret (.ix (.call 24 [.meth .split (.var 0) [], .con (.int 0)]) (.con (.int 0)))] }
def nm_side_form : List String := ["text"]
def fn_left_form : Fn := { ar := 1, sl := 1, keep := false, body :=
   [.ret (.call 25 [.ix (.ix (.glob 5) (.var 0)) (.con (.int 0))])] }
def nm_left_form : List String := ["k"]
def fn_right_form : Fn := { ar := 1, sl := 1, keep := false, body :=
   [.ret (.call 25 [.ix (.ix (.glob 5) (.var 0)) (.con (.int 1))])] }
def nm_right_form : List String := ["k"]
def fn_ops_by_value : Fn := { ar := 1, sl := 3, keep := false, body :=
   [.ret (.dc2 [1, 2] 1 2 (.ix (.var 0) (.con (.int 3))) (.ix (.var 1) (.con (.int 2))) (.cmp .notn (.ix (.var 2) (.con (.int 0))) (.con .non)) (.ix (.var 2) (.con (.int 0))) (.var 2))] }
def nm_ops_by_value : List String := ["function", "block", "op"]
def fn_word_of : Fn := { ar := 1, sl := 1, keep := false, body :=
   [.ret (.ite (.cmp .eq (.ix (.var 0) (.con (.int 1))) (.con (.str [.select]))) (.con (.str [.select])) (.blt .str (.ix (.ix (.var 0) (.con (.int 2))) (.con (.int 0)))))] }
def nm_word_of : List String := ["op"]
def fn_can_be : Fn := { ar := 2, sl := 2, keep := false, body :=
   [.ret (.andL [.cmp .inn (.ix (.var 0) (.con (.int 1))) (.tup [.con (.str [.bin]), .con (.str [.cmp]), .con (.str [.select]), .con (.str [.cast])]), .cmp .eq (.call 29 [.var 0]) (.var 1)])] }
def nm_can_be : List String := ["op", "word"]
def fn_number_of : Fn := { ar := 3, sl := 5, keep := false, body :=
   [.asgT [.nm 3, .nm 4] (.var 0),
    .iff (.cmp .inn (.var 3) (.tup [.con (.str [.k0]), .con (.str [.k1]), .con (.str [.km1])]))
     [.ret (.ite (.cmp .eq (.var 3) (.con (.str [.km1]))) (.bin .sub (.bin .shl (.con (.int 1)) (.var 1)) (.con (.int 1))) (.blt .int (.var 3)))]
     [],
    .iff (.cmp .eq (.var 3) (.con (.str [.LOG])))
     [.ret (.bin .sub (.meth .bitlen (.call 31 [.ix (.var 4) (.con (.int 0)), .var 1, .var 2]) []) (.con (.int 1)))]
     [],
    .iff (.inMade (.var 3))
     [.ret (.call 10 [.made (.var 3), .var 1, .call 31 [.ix (.var 4) (.con (.int 0)), .var 1, .var 2], .call 31 [.ix (.var 4) (.con (.int 1)), .var 1, .var 2]])]
     [],
    .ret (.ix (.ix (.ix (.var 2) (.var 3)) (.con (.int 0))) (.con (.int 1)))] }
def nm_number_of : List String := ["form", "width", "bound", "word", "args"]
def fn_is_letter : Fn := { ar := 1, sl := 1, keep := false, body :=
   [.ret (.cmp .inn (.var 0) (.tup [.con (.str [.a]), .con (.str [.b]), .con (.str [.c]), .con (.str [.m]), .con (.str [.n]), .con (.str [.p])]))] }
def nm_is_letter : List String := ["word"]
def fn_takes : Fn := { ar := 2, sl := 2, keep := false, body :=
   [.iff (.cmp .inn (.var 0) (.tup [.con (.str [.a]), .con (.str [.b]), .con (.str [.c])]))
     [.ret (.con (.bl true))]
     [],
    .iff (.cmp .ne (.ix (.var 1) (.con (.int 0))) (.con (.str [.n])))
     [.ret (.con (.bl false))]
     [],
    .ret (.orL [.cmp .ne (.var 0) (.con (.str [.p])), .andL [.cmp .gt (.ix (.var 1) (.con (.int 1))) (.con (.int 0)), .cmp .eq (.bin .band (.ix (.var 1) (.con (.int 1))) (.bin .sub (.ix (.var 1) (.con (.int 1))) (.con (.int 1)))) (.con (.int 0))]])] }
def nm_takes : List String := ["word", "operand"]
def fn_arg_is : Fn := { ar := 5, sl := 7, keep := false, body :=
   [.asgT [.nm 5, .nm 6] (.var 0),
    .iff (.call 32 [.var 5])
     [.ret (.andL [.call 33 [.var 5, .var 1], .cmp .eq (.meth .setdefault (.var 3) [.var 5, .tup [.var 1, .var 2]]) (.tup [.var 1, .var 2])])]
     [],
    .iff (.cmp .inn (.var 5) (.tup [.con (.str [.k0]), .con (.str [.k1]), .con (.str [.km1])]))
     [.ret (.andL [.cmp .ne (.var 2) (.con (.str [.ptr])), .cmp .eq (.var 1) (.tup [.con (.str [.n]), .call 31 [.var 0, .var 2, .var 3]])])]
     [],
    .ret (.andL [.cmp .eq (.ix (.var 1) (.con (.int 0))) (.con (.str [.v])), .cmp .inn (.ix (.var 1) (.con (.int 1))) (.var 4), .call 35 [.var 0, .ix (.var 4) (.ix (.var 1) (.con (.int 1))), .var 3, .var 4]])] }
def nm_arg_is : List String := ["form", "operand", "sort", "bound", "ops", "word", "args"]
def fn_op_is : Fn := { ar := 4, sl := 9, keep := false, body :=
   [.asgT [.nm 4, .nm 5] (.var 0),
    .iff (.not (.call 30 [.var 1, .var 4]))
     [.ret (.con (.bl false))]
     [],
    .ret (.blt .all (.lc [6, 7, 8] (.tp [6, 7, 8]) .zip [.var 5, .ix (.var 1) (.con (.int 3)), .ix (.call 19 [.var 1]) (.con (.int 0))] [] (.call 34 [.var 6, .var 7, .var 8, .var 2, .var 3])))] }
def nm_op_is : List String := ["form", "op", "bound", "ops", "word", "args", "arg", "operand", "sort"]
def fn_right_is : Fn := { ar := 5, sl := 13, keep := false, body :=
   [.asgT [.nm 6, .nm 7] (.var 0),
    .iff (.call 32 [.var 6])
     [.ret (.cmp .eq (.ix (.var 3) (.var 6)) (.tup [.var 1, .var 2]))]
     [],
    .iff (.orL [.cmp .eq (.call 23 [.var 6]) (.con (.int 0)), .cmp .eq (.var 6) (.con (.str [.LOG])), .inMade (.var 6)])
     [.ret (.andL [.cmp .ne (.var 2) (.con (.str [.ptr])), .cmp .eq (.var 1) (.tup [.con (.str [.n]), .call 31 [.var 0, .var 2, .var 3]])])]
     [],
    .iff (.orL [.cmp .ne (.ix (.var 1) (.con (.int 0))) (.con (.str [.v])), .cmp .nin (.ix (.var 1) (.con (.int 1))) (.var 4), .not (.call 30 [.ix (.var 4) (.ix (.var 1) (.con (.int 1))), .var 6])])
     [.ret (.con (.bl false))]
     [],
    .asg (.nm 5) (.ix (.var 4) (.ix (.var 1) (.con (.int 1)))),
    .asgT [.nm 8, .nm 9] (.call 19 [.var 5]),
    .ret (.andL [.cmp .eq (.var 9) (.var 2), .blt .all (.lc [10, 11, 12] (.tp [10, 11, 12]) .zip [.var 7, .ix (.var 5) (.con (.int 3)), .var 8] [] (.call 36 [.var 10, .var 11, .var 12, .var 3, .var 4]))])] }
def nm_right_is : List String := ["form", "operand", "sort", "bound", "ops", "op", "word", "args", "asked", "made", "arg", "one", "wish"]
def fn_bound_letters : Fn := { ar := 3, sl := 6, keep := false, body :=
   [.asgP [3, 4, 5] [.call 28 [.var 0], .dctM, .ix (.call 27 [.var 1]) (.con (.int 0))],
    .iff (.orL [.cmp .nin (.var 2) (.var 3), .not (.call 18 [.ix (.var 3) (.var 2)]), .not (.call 35 [.call 26 [.var 1], .ix (.var 3) (.var 2), .var 4, .var 3])])
     [.ret (.con .non)]
     [],
    .iff (.andL [.call 32 [.var 5], .cmp .ne (.ix (.ix (.var 4) (.var 5)) (.con (.int 1))) (.ix (.call 19 [.ix (.var 3) (.var 2)]) (.con (.int 1)))])
     [.ret (.con .non)]
     [],
    .ret (.var 4)] }
def nm_bound_letters : List String := ["function", "k", "value", "ops", "bound", "word"]
def fn_rule_letters : Fn := { ar := 4, sl := 6, keep := false, body :=
   [.asg (.nm 4) (.call 37 [.var 1, .var 2, .var 3]),
    .ret (.ite (.cmp .isn (.var 4) (.con .non)) (.con .non) (.blt .tuple (.blt .sorted (.lc [5] (.nm 5) .e [.var 4] [] (.tup [.var 5, .ix (.ix (.var 4) (.var 5)) (.con (.int 0))])))))] }
def nm_rule_letters : List String := ["module", "function", "k", "value", "bound", "letter"]
def fn_rule_fits : Fn := { ar := 5, sl := 7, keep := false, body :=
   [.asg (.nm 5) (.call 37 [.var 1, .var 2, .var 3]),
    .iff (.cmp .isn (.var 5) (.con .non))
     [.ret (.con (.bl false))]
     [],
    .asg (.nm 6) (.ix (.blt .dict (.call 15 [.var 0, .var 1])) (.var 3)),
    .ret (.call 36 [.call 27 [.var 2], .var 4, .var 6, .var 5, .call 28 [.var 1]])] }
def nm_rule_fits : List String := ["module", "function", "k", "value", "operand", "bound", "sort"]
def fn__law_draw : Fn := { ar := 2, sl := 5, keep := true, body :=
   [.asg (.nm 2) (.lc [4] (.nm 4) .e [.slc (.var 0) none (some (.con (.int 48)))] [] (.blt .abs (.blt .int (.var 4)))),
    .asg (.nm 3) (.bin .add (.con (.int 7919)) (.bin .mul (.con (.int 104729)) (.var 1))),
    .forr (.nm 4) .e [.var 2]
     [.asg (.nm 3) (.bin .mod (.blt .int (.bin .add (.bin .add (.bin .mul (.var 3) (.con (.int 48271))) (.bin .mod (.var 4) (.con (.int 2147483549)))) (.con (.int 11)))) (.con (.int 2147483647)))],
    .ret (.lstM [.revM (.lc [4] (.nm 4) .e [.var 2] [.cmp .ge (.var 4) (.bin .pow (.con (.int 10)) (.con (.int 18)))] (.var 4)), .var 3])] }
def nm__law_draw : List String := ["_law_script", "_law_salt", "_law_cells", "_law_blend", "_law_cell"]
def fn__law_any : Fn := { ar := 2, sl := 3, keep := false, body :=
   [.whil (.andL [.cmp .ne (.ix (.var 0) (.con (.int 0))) (.lstF []), .cmp .eq (.ix (.ix (.var 0) (.con (.int 0))) (.neg (.con (.int 1)))) (.con (.int 0))])
     [.expr (.meth .pop (.ix (.var 0) (.con (.int 0))) [])],
    .iff (.cmp .ne (.ix (.var 0) (.con (.int 0))) (.lstF []))
     [.asg (.nm 2) (.blt .int (.meth .pop (.ix (.var 0) (.con (.int 0))) [])),
      .expr (.meth .append (.ix (.var 0) (.con (.int 0))) [.bin .fdiv (.var 2) (.var 1)]),
      .ret (.bin .mod (.var 2) (.var 1))]
     [],
    .asg (.sub (.var 0) (.con (.int 1))) (.bin .mod (.blt .int (.bin .add (.bin .mul (.ix (.var 0) (.con (.int 1))) (.con (.int 40693))) (.con (.int 71)))) (.con (.int 2147483647))),
    .ret (.bin .mod (.blt .int (.bin .fdiv (.ix (.var 0) (.con (.int 1))) (.con (.int 64)))) (.var 1))] }
def nm__law_any : List String := ["_law_deal", "_law_bound", "_law_rest"]
def fn__law_of : Fn := { ar := 2, sl := 2, keep := false, body :=
   [.ret (.ix (.var 1) (.call 42 [.var 0, .blt .len (.var 1)]))] }
def nm__law_of : List String := ["_law_deal", "_law_some"]
def fn__law_power : Fn := { ar := 1, sl := 1, keep := false, body :=
   [.ret (.bin .shl (.con (.int 1)) (.var 0))] }
def nm__law_power : List String := ["_law_many"]
def fn__law_number : Fn := { ar := 2, sl := 4, keep := false, body :=
   [.asg (.nm 2) (.call 44 [.var 1]),
    .asg (.nm 3) (.call 42 [.var 0, .con (.int 4)]),
    .iff (.cmp .lt (.var 3) (.con (.int 2)))
     [.ret (.bin .mod (.blt .int (.call 42 [.var 0, .con (.int 5)])) (.var 2))]
     [],
    .ret (.ite (.cmp .eq (.var 3) (.con (.int 2))) (.call 43 [.var 0, .lstF [.con (.int 0), .con (.int 1), .bin .sub (.var 2) (.con (.int 1)), .bin .fdiv (.var 2) (.con (.int 2)), .bin .sub (.bin .fdiv (.var 2) (.con (.int 2))) (.con (.int 1))]]) (.call 42 [.var 0, .var 2]))] }
def nm__law_number : List String := ["_law_deal", "_law_width", "_law_top", "_law_form"]
def fn__law_signed : Fn := { ar := 2, sl := 2, keep := false, body :=
   [.ret (.ite (.cmp .ge (.bin .add (.var 0) (.var 0)) (.call 44 [.var 1])) (.bin .sub (.var 0) (.call 44 [.var 1])) (.var 0))] }
def nm__law_signed : List String := ["_law_number_here", "_law_width"]
def fn__law_shift : Fn := { ar := 4, sl := 4, keep := false, body :=
   [.iff (.cmp .eq (.var 0) (.con (.str [.shl])))
     [.ret (.bin .mul (.var 2) (.call 44 [.var 3]))]
     [],
    .ret (.bin .fdiv (.ite (.cmp .eq (.var 0) (.con (.str [.ashr]))) (.call 46 [.var 2, .var 1]) (.var 2)) (.call 44 [.var 3]))] }
def nm__law_shift : List String := ["_law_op_here", "_law_w", "_law_a", "_law_k"]
def fn__law_told : Fn := { ar := 4, sl := 8, keep := false, body :=
   [.asg (.nm 4) (.call 44 [.var 1]),
    .iff (.cmp .inn (.var 0) (.lstF [.con (.str [.add]), .con (.str [.sub]), .con (.str [.mul])]))
     [.ret (.bin .mod (.blt .int (.ite (.cmp .eq (.var 0) (.con (.str [.add]))) (.bin .add (.var 2) (.var 3)) (.ite (.cmp .eq (.var 0) (.con (.str [.sub]))) (.bin .sub (.var 2) (.var 3)) (.bin .mul (.var 2) (.var 3))))) (.var 4))]
     [],
    .iff (.cmp .inn (.var 0) (.lstF [.con (.str [.band]), .con (.str [.bor]), .con (.str [.bxor])]))
     [.ret (.ite (.cmp .eq (.var 0) (.con (.str [.band]))) (.bin .band (.var 2) (.var 3)) (.ite (.cmp .eq (.var 0) (.con (.str [.bor]))) (.bin .bor (.var 2) (.var 3)) (.bin .bxor (.var 2) (.var 3))))]
     [],
    .iff (.cmp .inn (.var 0) (.lstF [.con (.str [.shl]), .con (.str [.lshr]), .con (.str [.ashr])]))
     [.ret (.bin .mod (.blt .int (.call 47 [.var 0, .var 1, .var 2, .bin .mod (.blt .int (.var 3)) (.var 1)])) (.var 4))]
     [],
    .iff (.cmp .eq (.var 3) (.con (.int 0)))
     [.ret (.con .non)]
     [],
    .asgT [.nm 6, .nm 7] (.ite (.cmp .eq (.ix (.var 0) (.con (.int 0))) (.con (.str [.u]))) (.tup [.var 2, .var 3]) (.tup [.call 46 [.var 2, .var 1], .call 46 [.var 3, .var 1]])),
    .asg (.nm 5) (.ite (.cmp .eq (.cmp .lt (.var 6) (.con (.int 0))) (.cmp .lt (.var 7) (.con (.int 0)))) (.bin .fdiv (.blt .abs (.var 6)) (.blt .abs (.var 7))) (.bin .sub (.con (.int 0)) (.bin .fdiv (.blt .abs (.var 6)) (.blt .abs (.var 7))))),
    .ret (.bin .mod (.blt .int (.ite (.cmp .eq (.slc (.var 0) (some (.con (.int 1))) none) (.con (.str [.div]))) (.var 5) (.bin .sub (.var 6) (.bin .mul (.var 5) (.var 7))))) (.var 4))] }
def nm__law_told : List String := ["_law_op_here", "_law_w", "_law_a", "_law_b", "_law_top", "_law_ratio", "_law_x", "_law_y"]
def fn__law_compared : Fn := { ar := 4, sl := 7, keep := false, body :=
   [.asgT [.nm 5, .nm 6] (.ite (.cmp .eq (.ix (.var 0) (.con (.int 0))) (.con (.str [.s]))) (.tup [.call 46 [.var 2, .var 1], .call 46 [.var 3, .var 1]]) (.tup [.var 2, .var 3])),
    .asg (.nm 4) (.ite (.cmp .eq (.var 0) (.con (.str [.eq]))) (.cmp .eq (.var 5) (.var 6)) (.ite (.cmp .eq (.var 0) (.con (.str [.ne]))) (.cmp .ne (.var 5) (.var 6)) (.ite (.cmp .eq (.slc (.var 0) (some (.con (.int 1))) none) (.con (.str [.lt]))) (.cmp .lt (.var 5) (.var 6)) (.cmp .le (.var 5) (.var 6))))),
    .ret (.ite (.var 4) (.con (.int 1)) (.con (.int 0)))] }
def nm__law_compared : List String := ["_law_pred", "_law_w", "_law_a", "_law_b", "_law_right_here", "_law_x", "_law_y"]
def fn__law_cast : Fn := { ar := 4, sl := 4, keep := false, body :=
   [.ret (.bin .mod (.blt .int (.ite (.cmp .eq (.var 0) (.con (.str [.sext]))) (.call 46 [.var 3, .var 1]) (.var 3))) (.call 44 [.var 2]))] }
def nm__law_cast : List String := ["_law_kind", "_law_low", "_law_high", "_law_a"]
def fn__law_value : Fn := { ar := 4, sl := 5, keep := false, body :=
   [.iff (.cmp .eq (.ix (.var 0) (.con (.int 0))) (.con (.str [.n])))
     [.ret (.ite (.andL [.cmp .ne (.var 3) (.con (.str [.ptr])), .cmp .lt (.ix (.var 0) (.con (.int 1))) (.call 44 [.var 3])]) (.tup [.var 3, .ix (.var 0) (.con (.int 1))]) (.con .non))]
     [],
    .iff (.cmp .eq (.ix (.var 0) (.con (.int 0))) (.con (.str [.g])))
     [.ret (.ite (.andL [.cmp .eq (.var 3) (.con (.str [.ptr])), .cmp .inn (.ix (.var 0) (.con (.int 1))) (.var 2)]) (.tup [.con (.str [.ptr]), .tup [.bad, .con (.int 0)]]) (.con .non))]
     [],
    .asg (.nm 4) (.meth .get (.var 1) [.ix (.var 0) (.con (.int 1))]),
    .ret (.ite (.andL [.cmp .notn (.var 4) (.con .non), .cmp .eq (.ix (.var 4) (.con (.int 0))) (.var 3)]) (.var 4) (.con .non))] }
def nm__law_value : List String := ["_law_operand", "_law_env", "_law_globes", "_law_wanted", "_law_found"]
def fn__law_all : Fn := { ar := 4, sl := 7, keep := false, body :=
   [.iff (.cmp .ne (.blt .len (.var 0)) (.blt .len (.var 3)))
     [.ret (.con .non)]
     [],
    .asg (.nm 4) (.lc [5, 6] (.tp [5, 6]) .zip [.var 0, .var 3] [] (.call 51 [.var 5, .var 1, .var 2, .var 6])),
    .ret (.ite (.cmp .inn (.con .non) (.var 4)) (.con .non) (.var 4))] }
def nm__law_all : List String := ["_law_operands", "_law_env", "_law_globes", "_law_types_here", "_law_found", "_law_operand", "_law_wanted"]
def fn__law_wants : Fn := { ar := 2, sl := 4, keep := false, body :=
   [.asgP [2, 3] [.ix (.var 0) (.con (.int 1)), .ix (.var 0) (.con (.int 2))],
    .iff (.cmp .inn (.var 2) (.lstF [.con (.str [.bin]), .con (.str [.cmp])]))
     [.ret (.lstF [.ix (.var 3) (.con (.int 1)), .ix (.var 3) (.con (.int 1))])]
     [],
    .iff (.cmp .inn (.var 2) (.lstF [.con (.str [.select]), .con (.str [.call])]))
     [.ret (.ite (.cmp .eq (.var 2) (.con (.str [.select]))) (.lstF [.con (.int 1), .ix (.var 3) (.con (.int 0)), .ix (.var 3) (.con (.int 0))]) (.blt .list (.ix (.ix (.var 1) (.ix (.var 3) (.con (.int 0)))) (.con (.int 1)))))]
     [],
    .iff (.cmp .inn (.var 2) (.lstF [.con (.str [.store]), .con (.str [.att])]))
     [.ret (.ite (.cmp .eq (.var 2) (.con (.str [.store]))) (.lstF [.ix (.var 3) (.con (.int 0)), .con (.str [.ptr])]) (.lstF [.con (.str [.ptr]), .ix (.var 3) (.con (.int 0))]))]
     [],
    .ret (.ite (.cmp .eq (.var 2) (.con (.str [.load]))) (.lstF [.con (.str [.ptr])]) (.ite (.cmp .inn (.var 2) (.lstF [.con (.str [.alloca]), .con (.str [.input])])) (.lstF []) (.lstF [.ite (.cmp .eq (.var 2) (.con (.str [.cast]))) (.ix (.var 3) (.con (.int 1))) (.ix (.var 3) (.con (.int 0)))])))] }
def nm__law_wants : List String := ["_law_op_here", "_law_table_here", "_law_kind", "_law_info"]
def fn__law_plain : Fn := { ar := 2, sl := 5, keep := false, body :=
   [.asgP [3, 4] [.ix (.var 0) (.con (.int 1)), .ix (.var 0) (.con (.int 2))],
    .iff (.cmp .eq (.var 3) (.con (.str [.select])))
     [.ret (.ite (.cmp .eq (.ix (.ix (.var 1) (.con (.int 0))) (.con (.int 1))) (.con (.int 1))) (.ix (.var 1) (.con (.int 1))) (.ix (.var 1) (.con (.int 2))))]
     [],
    .iff (.cmp .eq (.var 3) (.con (.str [.att])))
     [.ret (.tup [.con (.str [.ptr]), .tup [.ix (.ix (.ix (.var 1) (.con (.int 0))) (.con (.int 1))) (.con (.int 0)), .bin .add (.ix (.ix (.ix (.var 1) (.con (.int 0))) (.con (.int 1))) (.con (.int 1))) (.call 46 [.ix (.ix (.var 1) (.con (.int 1))) (.con (.int 1)), .ix (.var 4) (.con (.int 0))])]])]
     [],
    .iff (.cmp .eq (.var 3) (.con (.str [.cmp])))
     [.ret (.tup [.con (.int 1), .call 49 [.ix (.var 4) (.con (.int 0)), .ix (.var 4) (.con (.int 1)), .ix (.ix (.var 1) (.con (.int 0))) (.con (.int 1)), .ix (.ix (.var 1) (.con (.int 1))) (.con (.int 1))]])]
     [],
    .iff (.cmp .eq (.var 3) (.con (.str [.cast])))
     [.ret (.tup [.ix (.var 4) (.con (.int 2)), .call 50 [.ix (.var 4) (.con (.int 0)), .ix (.var 4) (.con (.int 1)), .ix (.var 4) (.con (.int 2)), .ix (.ix (.var 1) (.con (.int 0))) (.con (.int 1))]])]
     [],
    .asg (.nm 2) (.call 48 [.ix (.var 4) (.con (.int 0)), .ix (.var 4) (.con (.int 1)), .ix (.ix (.var 1) (.con (.int 0))) (.con (.int 1)), .ix (.ix (.var 1) (.con (.int 1))) (.con (.int 1))]),
    .ret (.ite (.cmp .isn (.var 2) (.con .non)) (.con (.str [.divide])) (.tup [.ix (.var 4) (.con (.int 1)), .var 2]))] }
def nm__law_plain : List String := ["_law_op_here", "_law_args", "_law_found", "_law_kind", "_law_info"]
def fn__law_touch : Fn := { ar := 3, sl := 7, keep := false, body :=
   [.bad] }
def nm__law_touch : List String := ["_law_op_here", "_law_args", "_law_objects", "_law_told_here", "_law_cells", "_law_width", "_law_place"]
def fn__law_enter : Fn := { ar := 3, sl := 11, keep := false, body :=
   [.bad] }
def nm__law_enter : List String := ["_law_frame_here", "_law_target", "_law_globes", "_law_some", "_law_args", "_law_env", "_law_pair", "_law_told_here", "_law_block", "_law_value_here", "_law_sort"]
def fn__law_frame : Fn := { ar := 2, sl := 2, keep := true, body :=
   [.ret (.lstM [.var 0, .ix (.ix (.var 0) (.con (.int 3))) (.con (.int 0)), .con (.int 0), .blt .dictEnum (.var 1), .lstF []])] }
def nm__law_frame : List String := ["_law_function", "_law_args"]
def fn__law_leave : Fn := { ar := 3, sl := 7, keep := false, body :=
   [.forr (.nm 3) .e [.ix (.meth .pop (.var 0) []) (.con (.int 4))]
     [.asg (.sub (.ix (.var 1) (.var 3)) (.con (.int 2))) (.con (.bl false))],
    .iff (.cmp .ne (.var 0) (.lstF []))
     [.asg (.nm 4) (.ix (.var 0) (.neg (.con (.int 1)))),
      .asgP [5, 6] [.ix (.ix (.ix (.var 4) (.con (.int 1))) (.con (.int 2))) (.ix (.var 4) (.con (.int 2))), .ix (.var 4) (.con (.int 3))],
      .iff (.cmp .notn (.ix (.var 5) (.con (.int 0))) (.con .non))
       [.asg (.sub (.var 6) (.ix (.var 5) (.con (.int 0)))) (.var 2)]
       [],
      .asg (.sub (.var 4) (.con (.int 2))) (.bin .add (.ix (.var 4) (.con (.int 2))) (.con (.int 1)))]
     []] }
def nm__law_leave : List String := ["_law_frames", "_law_objects", "_law_told_here", "_law_number_here", "_law_frame_here", "_law_op_here", "_law_env"]
def fn__law_ending : Fn := { ar := 3, sl := 9, keep := false, body :=
   [.asg (.nm 3) (.ix (.var 0) (.neg (.con (.int 1)))),
    .asgP [5, 6] [.ix (.ix (.var 3) (.con (.int 1))) (.con (.int 3)), .ix (.var 3) (.con (.int 3))],
    .iff (.cmp .eq (.ix (.var 5) (.con (.int 0))) (.con (.str [.stop])))
     [.ret (.tup [.con (.str [.trap]), .con (.str [.stop])])]
     [],
    .iff (.cmp .eq (.ix (.var 5) (.con (.int 0))) (.con (.str [.ret])))
     [.asg (.nm 7) (.ix (.ix (.var 3) (.con (.int 0))) (.con (.int 2))),
      .iff (.cmp .ne (.cmp .isn (.ix (.var 5) (.con (.int 1))) (.con .non)) (.cmp .isn (.var 7) (.con .non)))
       [.ret (.con (.str [.wrong]))]
       [],
      .asg (.nm 8) (.ite (.cmp .isn (.var 7) (.con .non)) (.con .non) (.call 51 [.ix (.var 5) (.con (.int 1)), .var 6, .var 2, .var 7])),
      .iff (.andL [.cmp .isn (.var 8) (.con .non), .cmp .notn (.var 7) (.con .non)])
       [.ret (.con (.str [.wrong]))]
       [],
      .expr (.call 58 [.var 0, .var 1, .var 8]),
      .ret (.ite (.cmp .ne (.var 0) (.lstF [])) (.con .non) (.ite (.cmp .notn (.var 8) (.con .non)) (.tup [.con (.str [.value]), .ix (.var 8) (.con (.int 1))]) (.con (.str [.wrong]))))]
     [],
    .asg (.nm 4) (.ix (.var 5) (.con (.int 1))),
    .iff (.cmp .eq (.ix (.var 5) (.con (.int 0))) (.con (.str [.branch])))
     [.asg (.nm 8) (.call 51 [.ix (.var 5) (.con (.int 1)), .var 6, .var 2, .con (.int 1)]),
      .iff (.cmp .isn (.var 8) (.con .non))
       [.ret (.con (.str [.wrong]))]
       [],
      .asg (.nm 4) (.ite (.cmp .eq (.ix (.var 8) (.con (.int 1))) (.con (.int 1))) (.ix (.var 5) (.con (.int 2))) (.ix (.var 5) (.con (.int 3))))]
     [],
    .ret (.ite (.call 56 [.var 3, .var 4, .var 2]) (.con .non) (.con (.str [.wrong])))] }
def nm__law_ending : List String := ["_law_frames", "_law_objects", "_law_globes", "_law_frame_here", "_law_target", "_law_ending_here", "_law_env", "_law_result", "_law_told_here"]
def fn__law_op : Fn := { ar := 5, sl := 10, keep := false, body :=
   [.asg (.nm 5) (.ix (.var 0) (.neg (.con (.int 1)))),
    .asgP [8, 9] [.ix (.ix (.ix (.var 5) (.con (.int 1))) (.con (.int 2))) (.ix (.var 5) (.con (.int 2))), .ix (.var 5) (.con (.int 3))],
    .iff (.andL [.cmp .eq (.ix (.var 8) (.con (.int 1))) (.con (.str [.call])), .cmp .nin (.ix (.ix (.var 8) (.con (.int 2))) (.con (.int 0))) (.var 3)])
     [.ret (.con (.str [.wrong]))]
     [],
    .asg (.nm 6) (.call 52 [.ix (.var 8) (.con (.int 3)), .var 9, .var 2, .call 53 [.var 8, .var 3]]),
    .iff (.cmp .isn (.var 6) (.con .non))
     [.ret (.con (.str [.wrong]))]
     [],
    .asg (.nm 7) (.con .non),
    .iff (.cmp .eq (.ix (.var 8) (.con (.int 1))) (.con (.str [.call])))
     [.expr (.meth .append (.var 0) [.call 57 [.ix (.var 3) (.ix (.ix (.var 8) (.con (.int 2))) (.con (.int 0))), .var 6]]),
      .ret (.ite (.cmp .eq (.cmp .isn (.ix (.var 8) (.con (.int 0))) (.con .non)) (.cmp .isn (.ix (.ix (.var 3) (.ix (.ix (.var 8) (.con (.int 2))) (.con (.int 0)))) (.con (.int 2))) (.con .non))) (.con .non) (.con (.str [.wrong])))]
     [],
    .iff (.cmp .eq (.ix (.var 8) (.con (.int 1))) (.con (.str [.alloca])))
     [.expr (.meth .append (.var 1) [.lstF [.ix (.ix (.var 8) (.con (.int 2))) (.con (.int 0)), .bin .mul (.lstF [.con (.int 0)]) (.ix (.ix (.var 8) (.con (.int 2))) (.con (.int 1))), .con (.bl true)]]),
      .expr (.meth .append (.ix (.var 5) (.con (.int 4))) [.bin .sub (.blt .len (.var 1)) (.con (.int 1))]),
      .asg (.nm 7) (.tup [.con (.str [.ptr]), .tup [.bin .sub (.blt .len (.var 1)) (.con (.int 1)), .con (.int 0)]])]
     [.iff (.cmp .inn (.ix (.var 8) (.con (.int 1))) (.lstF [.con (.str [.load]), .con (.str [.store])]))
       [.asg (.nm 7) (.call 55 [.var 8, .var 6, .var 1])]
       [.iff (.cmp .eq (.ix (.var 8) (.con (.int 1))) (.con (.str [.print])))
         [.expr (.meth .append (.ix (.var 4) (.con (.int 1))) [.ix (.ix (.var 6) (.con (.int 0))) (.con (.int 1))])]
         [.iff (.cmp .eq (.ix (.var 8) (.con (.int 1))) (.con (.str [.input])))
           [.iff (.cmp .eq (.ix (.var 4) (.con (.int 0))) (.lstF []))
             [.ret (.tup [.con (.str [.trap]), .con (.str [.input])])]
             [],
            .asg (.nm 7) (.tup [.ix (.ix (.var 8) (.con (.int 2))) (.con (.int 0)), .bin .mod (.blt .int (.meth .popAt (.ix (.var 4) (.con (.int 0))) [.con (.int 0)])) (.call 44 [.ix (.ix (.var 8) (.con (.int 2))) (.con (.int 0))])])]
           [.asg (.nm 7) (.call 54 [.var 8, .var 6])]]]],
    .iff (.cmp .inn (.var 7) (.lstF [.con (.str [.divide]), .con (.str [.index])]))
     [.ret (.tup [.con (.str [.trap]), .var 7])]
     [],
    .iff (.cmp .notn (.ix (.var 8) (.con (.int 0))) (.con .non))
     [.asg (.sub (.var 9) (.ix (.var 8) (.con (.int 0)))) (.var 7)]
     [],
    .asg (.sub (.var 5) (.con (.int 2))) (.bin .add (.ix (.var 5) (.con (.int 2))) (.con (.int 1))),
    .ret (.con .non)] }
def nm__law_op : List String := ["_law_frames", "_law_objects", "_law_globes", "_law_table_here", "_law_world", "_law_frame_here", "_law_args", "_law_told_here", "_law_op_here", "_law_env"]
def fn__law_run : Fn := { ar := 3, sl := 13, keep := false, body :=
   [.asg (.nm 3) (.dctM),
    .forr (.nm 4) .e [.ix (.var 0) (.con (.int 1))]
     [.asg (.sub (.var 3) (.ix (.var 4) (.con (.int 0)))) (.var 4)],
    .asg (.nm 5) (.lc [11] (.nm 11) .e [.ix (.var 0) (.con (.int 0))] [] (.ix (.var 11) (.con (.int 0)))),
    .asg (.nm 6) (.lc [11] (.nm 11) .e [.ix (.var 0) (.con (.int 0))] [] (.lstF [.ix (.var 11) (.con (.int 1)), .blt .list (.ix (.var 11) (.con (.int 3))), .con (.bl true)])),
    .iff (.orL [.cmp .nin (.con (.str [.main])) (.var 3), .cmp .ne (.ix (.ix (.var 3) (.con (.str [.main]))) (.con (.int 1))) (.tup []), .cmp .isn (.ix (.ix (.var 3) (.con (.str [.main]))) (.con (.int 2))) (.con .non)])
     [.ret (.tup [.tup [], .con (.str [.wrong])])]
     [],
    .asgP [8, 9] [.lstM [.call 57 [.ix (.var 3) (.con (.str [.main])), .lstF []]], .lstM [.blt .listM (.var 1), .lstM []]],
    .forr (.nm 7) .range [.var 2]
     [.asg (.nm 10) (.ix (.var 8) (.neg (.con (.int 1)))),
      .iff (.cmp .lt (.ix (.var 10) (.con (.int 2))) (.blt .len (.ix (.ix (.var 10) (.con (.int 1))) (.con (.int 2)))))
       [.asg (.nm 12) (.call 60 [.var 8, .var 6, .var 5, .var 3, .var 9])]
       [.asg (.nm 12) (.call 59 [.var 8, .var 6, .var 5])],
      .iff (.cmp .notn (.var 12) (.con .non))
       [.ret (.tup [.blt .tuple (.ix (.var 9) (.con (.int 1))), .var 12])]
       []],
    .ret (.tup [.blt .tuple (.ix (.var 9) (.con (.int 1))), .con .non])] }
def nm__law_run : List String := ["_law_module", "_law_inputs", "_law_fuel", "_law_table_here", "_law_function", "_law_globes", "_law_objects", "_law_turn", "_law_frames", "_law_world", "_law_frame_here", "_law_told_here", "_law_end"]
def fn__law_made : Fn := { ar := 1, sl := 3, keep := false, body :=
   [.asgP [1, 2] [.ix (.var 0) (.con (.int 1)), .ix (.var 0) (.con (.int 2))],
    .iff (.cmp .inn (.var 1) (.lstF [.con (.str [.alloca]), .con (.str [.att])]))
     [.ret (.con (.str [.ptr]))]
     [],
    .iff (.cmp .eq (.var 1) (.con (.str [.cmp])))
     [.ret (.con (.int 1))]
     [],
    .ret (.ite (.cmp .eq (.var 1) (.con (.str [.bin]))) (.ix (.var 2) (.con (.int 1))) (.ite (.cmp .eq (.var 1) (.con (.str [.cast]))) (.ix (.var 2) (.con (.int 2))) (.ite (.cmp .ne (.var 1) (.con (.str [.call]))) (.ix (.var 2) (.con (.int 0))) (.con .non))))] }
def nm__law_made : List String := ["_law_op_here", "_law_kind", "_law_info"]
def fn__law_asked : Fn := { ar := 1, sl := 3, keep := false, body :=
   [.asgP [1, 2] [.ix (.var 0) (.con (.int 1)), .ix (.var 0) (.con (.int 2))],
    .iff (.cmp .inn (.var 1) (.lstF [.con (.str [.bin]), .con (.str [.cmp])]))
     [.ret (.lstF [.ix (.var 2) (.con (.int 1)), .ix (.var 2) (.con (.int 1))])]
     [],
    .iff (.cmp .eq (.var 1) (.con (.str [.select])))
     [.ret (.lstF [.con (.int 1), .ix (.var 2) (.con (.int 0)), .ix (.var 2) (.con (.int 0))])]
     [],
    .ret (.ite (.cmp .eq (.var 1) (.con (.str [.cast]))) (.lstF [.ix (.var 2) (.con (.int 1))]) (.lstF [.con (.str [.ptr]), .ix (.var 2) (.con (.int 0))]))] }
def nm__law_asked : List String := ["_law_op_here", "_law_kind", "_law_info"]
def fn__law_pure : Fn := { ar := 1, sl := 1, keep := false, body :=
   [.iff (.andL [.cmp .eq (.ix (.var 0) (.con (.int 1))) (.con (.str [.bin])), .cmp .inn (.ix (.ix (.var 0) (.con (.int 2))) (.con (.int 0))) (.lstF [.con (.str [.udiv]), .con (.str [.sdiv]), .con (.str [.urem]), .con (.str [.srem])])])
     [.ret (.andL [.cmp .eq (.ix (.ix (.ix (.var 0) (.con (.int 3))) (.con (.int 1))) (.con (.int 0))) (.con (.str [.n])), .cmp .gt (.ix (.ix (.ix (.var 0) (.con (.int 3))) (.con (.int 1))) (.con (.int 1))) (.con (.int 0))])]
     [],
    .ret (.cmp .inn (.ix (.var 0) (.con (.int 1))) (.lstF [.con (.str [.bin]), .con (.str [.cmp]), .con (.str [.select]), .con (.str [.cast]), .con (.str [.att])]))] }
def nm__law_pure : List String := ["_law_op_here"]
def fn__law_types : Fn := { ar := 1, sl := 9, keep := false, body :=
   [.asg (.nm 1) (.blt .dictEnum (.ix (.var 0) (.con (.int 1)))),
    .forr (.tp [2, 3, 4, 5]) .e [.ix (.var 0) (.con (.int 3))]
     [.forr (.tp [7, 8]) .e [.var 3]
       [.asg (.sub (.var 1) (.var 7)) (.var 8)],
      .forr (.nm 6) .e [.var 4]
       [.iff (.cmp .notn (.ix (.var 6) (.con (.int 0))) (.con .non))
         [.asg (.sub (.var 1) (.ix (.var 6) (.con (.int 0)))) (.call 62 [.var 6])]
         []]],
    .ret (.var 1)] }
def nm__law_types : List String := ["_law_function", "_law_found", "_law_label", "_law_params", "_law_ops_here", "_law_ending_here", "_law_op_here", "_law_value_here", "_law_sort"]
def fn__law_all_types : Fn := { ar := 2, sl := 7, keep := false, body :=
   [.asgP [4, 5] [.call 65 [.var 1], .dctM],
    .forr (.nm 2) .e [.ix (.var 0) (.con (.int 1))]
     [.asg (.sub (.var 5) (.ix (.var 2) (.con (.int 0)))) (.ix (.var 2) (.con (.int 2)))],
    .forr (.nm 3) .e [.ix (.var 1) (.con (.int 3))]
     [.forr (.nm 6) .e [.ix (.var 3) (.con (.int 2))]
       [.iff (.andL [.cmp .eq (.ix (.var 6) (.con (.int 1))) (.con (.str [.call])), .cmp .notn (.ix (.var 6) (.con (.int 0))) (.con .non)])
         [.asg (.sub (.var 4) (.ix (.var 6) (.con (.int 0)))) (.ix (.var 5) (.ix (.ix (.var 6) (.con (.int 2))) (.con (.int 0))))]
         []]],
    .ret (.var 4)] }
def nm__law_all_types : List String := ["_law_module", "_law_function", "_law_one", "_law_block", "_law_found", "_law_results", "_law_op_here"]
def fn__law_table : Fn := { ar := 0, sl := 2, keep := false, body :=
   [.asg (.nm 0) (.lstF [.con (.str [.add, .a, .k0, .eqs, .a]), .con (.str [.sub, .a, .k0, .eqs, .a]), .con (.str [.sub, .a, .a, .eqs, .k0]), .con (.str [.mul, .a, .k0, .eqs, .k0]), .con (.str [.mul, .a, .k1, .eqs, .a]), .con (.str [.udiv, .a, .k1, .eqs, .a]), .con (.str [.urem, .a, .k1, .eqs, .k0]), .con (.str [.band, .a, .k0, .eqs, .k0]), .con (.str [.band, .a, .km1, .eqs, .a]), .con (.str [.band, .a, .a, .eqs, .a]), .con (.str [.bor, .a, .k0, .eqs, .a]), .con (.str [.bor, .a, .km1, .eqs, .km1]), .con (.str [.bor, .a, .a, .eqs, .a]), .con (.str [.bxor, .a, .k0, .eqs, .a]), .con (.str [.bxor, .a, .a, .eqs, .k0]), .con (.str [.shl, .a, .k0, .eqs, .a]), .con (.str [.lshr, .a, .k0, .eqs, .a]), .con (.str [.ashr, .a, .k0, .eqs, .a]), .con (.str [.eq, .a, .a, .eqs, .k1]), .con (.str [.ne, .a, .a, .eqs, .k0]), .con (.str [.ult, .a, .a, .eqs, .k0]), .con (.str [.ule, .a, .a, .eqs, .k1]), .con (.str [.slt, .a, .a, .eqs, .k0]), .con (.str [.sle, .a, .a, .eqs, .k1]), .con (.str [.select, .k1, .a, .b, .eqs, .a]), .con (.str [.select, .k0, .a, .b, .eqs, .b]), .con (.str [.select, .c, .a, .a, .eqs, .a]), .con (.str [.select, .c, .k1, .k0, .eqs, .c]), .con (.str [.ne, .a, .k0, .eqs, .a]), .con (.str [.eq, .a, .k1, .eqs, .a]), .con (.str [.add, .m, .a, .eqs, .add, .a, .m]), .con (.str [.mul, .m, .a, .eqs, .mul, .a, .m]), .con (.str [.band, .m, .a, .eqs, .band, .a, .m]), .con (.str [.bor, .m, .a, .eqs, .bor, .a, .m]), .con (.str [.bxor, .m, .a, .eqs, .bxor, .a, .m]), .con (.str [.eq, .m, .a, .eqs, .eq, .a, .m]), .con (.str [.ne, .m, .a, .eqs, .ne, .a, .m]), .con (.str [.sub, .a, .m, .eqs, .add, .a, .SUB, .k0, .m]), .con (.str [.mul, .a, .p, .eqs, .shl, .a, .LOG, .p]), .con (.str [.udiv, .a, .p, .eqs, .lshr, .a, .LOG, .p]), .con (.str [.urem, .a, .p, .eqs, .band, .a, .SUB, .p, .k1]), .con (.str [.add, .add, .a, .m, .n, .eqs, .add, .a, .ADD, .m, .n]), .con (.str [.mul, .mul, .a, .m, .n, .eqs, .mul, .a, .MUL, .m, .n]), .con (.str [.band, .band, .a, .m, .n, .eqs, .band, .a, .AND, .m, .n]), .con (.str [.bor, .bor, .a, .m, .n, .eqs, .bor, .a, .OR, .m, .n]), .con (.str [.bxor, .bxor, .a, .m, .n, .eqs, .bxor, .a, .XOR, .m, .n]), .con (.str [.sub, .add, .a, .b, .b, .eqs, .a]), .con (.str [.add, .sub, .a, .b, .b, .eqs, .a]), .con (.str [.bxor, .bxor, .a, .b, .b, .eqs, .a]), .con (.str [.band, .a, .bor, .a, .b, .eqs, .a]), .con (.str [.bor, .a, .band, .a, .b, .eqs, .a]), .con (.str [.eq, .add, .a, .m, .n, .eqs, .eq, .a, .SUB, .n, .m]), .con (.str [.bxor, .eq, .a, .b, .k1, .eqs, .ne, .a, .b]), .con (.str [.bxor, .ne, .a, .b, .k1, .eqs, .eq, .a, .b]), .con (.str [.bxor, .ult, .a, .b, .k1, .eqs, .ule, .b, .a]), .con (.str [.bxor, .ule, .a, .b, .k1, .eqs, .ult, .b, .a]), .con (.str [.bxor, .slt, .a, .b, .k1, .eqs, .sle, .b, .a]), .con (.str [.bxor, .sle, .a, .b, .k1, .eqs, .slt, .b, .a]), .con (.str [.trunc, .zext, .a, .eqs, .a]), .con (.str [.trunc, .sext, .a, .eqs, .a]), .con (.str [.trunc, .trunc, .a, .eqs, .trunc, .a]), .con (.str [.zext, .zext, .a, .eqs, .zext, .a]), .con (.str [.sext, .sext, .a, .eqs, .sext, .a])]),
    .ret (.lc [1] (.nm 1) .e [.var 0] [] (.blt .tuple (.meth .splitq (.var 1) [])))] }
def nm__law_table : List String := ["_law_some", "_law_one"]
def fn__law_read : Fn := { ar := 1, sl := 6, keep := false, body :=
   [.asg (.nm 1) (.lstM []),
    .forr (.nm 2) .e [.rev (.var 0)]
     [.asg (.nm 3) (.ite (.cmp .inn (.var 2) (.lstF [.con (.str [.a]), .con (.str [.b]), .con (.str [.c]), .con (.str [.m]), .con (.str [.n]), .con (.str [.p]), .con (.str [.k0]), .con (.str [.k1]), .con (.str [.km1])])) (.con (.int 0)) (.ite (.cmp .inn (.var 2) (.lstF [.con (.str [.zext]), .con (.str [.sext]), .con (.str [.trunc]), .con (.str [.LOG])])) (.con (.int 1)) (.ite (.cmp .eq (.var 2) (.con (.str [.select]))) (.con (.int 3)) (.con (.int 2))))),
      .asg (.nm 4) (.lc [5] (.nm 5) .range [.var 3] [] (.meth .pop (.var 1) [])),
      .expr (.meth .append (.var 1) [.tup [.var 2, .var 4]])],
    .ret (.ix (.var 1) (.con (.int 0)))] }
def nm__law_read : List String := ["_law_words", "_law_held", "_law_word", "_law_many", "_law_args", "_law_turn"]
def fn__law_made_number : Fn := { ar := 3, sl := 8, keep := false, body :=
   [.asgT [.nm 4, .nm 5] (.var 0),
    .iff (.cmp .inn (.var 4) (.lstF [.con (.str [.k0]), .con (.str [.k1]), .con (.str [.km1])]))
     [.ret (.ite (.cmp .eq (.var 4) (.con (.str [.km1]))) (.bin .sub (.call 44 [.var 1]) (.con (.int 1))) (.blt .int (.var 4)))]
     [],
    .iff (.cmp .inn (.var 4) (.var 2))
     [.ret (.ix (.ix (.var 2) (.var 4)) (.con (.int 1)))]
     [],
    .asg (.nm 3) (.lc [6] (.nm 6) .e [.var 5] [] (.call 69 [.var 6, .var 1, .var 2])),
    .iff (.cmp .eq (.var 4) (.con (.str [.LOG])))
     [.ret (.ix (.lc [7] (.nm 7) .range [.con (.int 65)] [.cmp .eq (.call 44 [.var 7]) (.ix (.var 3) (.con (.int 0)))] (.var 7)) (.con (.int 0)))]
     [],
    .ret (.call 48 [.meth .lower (.var 4) [], .var 1, .ix (.var 3) (.con (.int 0)), .ix (.var 3) (.con (.int 1))])] }
def nm__law_made_number : List String := ["_law_form", "_law_width", "_law_letters", "_law_some", "_law_word", "_law_args", "_law_arg", "_law_k"]
def fn__law_letter_takes : Fn := { ar := 2, sl := 3, keep := false, body :=
   [.iff (.cmp .inn (.var 0) (.lstF [.con (.str [.a]), .con (.str [.b]), .con (.str [.c])]))
     [.ret (.con (.bl true))]
     [],
    .iff (.cmp .ne (.ix (.var 1) (.con (.int 0))) (.con (.str [.n])))
     [.ret (.con (.bl false))]
     [],
    .ret (.orL [.cmp .ne (.var 0) (.con (.str [.p])), .cmp .inn (.ix (.var 1) (.con (.int 1))) (.lc [2] (.nm 2) .range [.con (.int 64)] [] (.call 44 [.var 2]))])] }
def nm__law_letter_takes : List String := ["_law_word", "_law_operand", "_law_k"]
def fn__law_is_left : Fn := { ar := 5, sl := 7, keep := false, body :=
   [.asgT [.nm 5, .nm 6] (.var 0),
    .iff (.cmp .inn (.var 5) (.lstF [.con (.str [.a]), .con (.str [.b]), .con (.str [.c]), .con (.str [.m]), .con (.str [.n]), .con (.str [.p])]))
     [.iff (.cmp .nin (.var 5) (.var 3))
       [.asg (.sub (.var 3) (.var 5)) (.tup [.var 1, .var 2])]
       [],
      .ret (.andL [.call 70 [.var 5, .var 1], .cmp .eq (.ix (.var 3) (.var 5)) (.tup [.var 1, .var 2])])]
     [],
    .iff (.cmp .inn (.var 5) (.lstF [.con (.str [.k0]), .con (.str [.k1]), .con (.str [.km1])]))
     [.ret (.andL [.cmp .ne (.var 2) (.con (.str [.ptr])), .cmp .eq (.var 1) (.tup [.con (.str [.n]), .call 69 [.var 0, .var 2, .dctM]])])]
     [],
    .ret (.andL [.cmp .eq (.ix (.var 1) (.con (.int 0))) (.con (.str [.v])), .cmp .inn (.ix (.var 1) (.con (.int 1))) (.var 4), .call 72 [.var 0, .ix (.var 4) (.ix (.var 1) (.con (.int 1))), .var 3, .var 4]])] }
def nm__law_is_left : List String := ["_law_form", "_law_operand", "_law_sort", "_law_letters", "_law_ops_here", "_law_word", "_law_args"]
def fn__law_op_is_left : Fn := { ar := 4, sl := 9, keep := false, body :=
   [.asgT [.nm 4, .nm 5] (.var 0),
    .iff (.orL [.cmp .nin (.ix (.var 1) (.con (.int 1))) (.lstF [.con (.str [.bin]), .con (.str [.cmp]), .con (.str [.select]), .con (.str [.cast])]), .cmp .ne (.var 4) (.ite (.cmp .eq (.ix (.var 1) (.con (.int 1))) (.con (.str [.select]))) (.con (.str [.select])) (.ix (.ix (.var 1) (.con (.int 2))) (.con (.int 0))))])
     [.ret (.con (.bl false))]
     [],
    .forr (.tp [6, 7, 8]) .zip [.var 5, .ix (.var 1) (.con (.int 3)), .call 63 [.var 1]]
     [.iff (.not (.call 71 [.var 6, .var 7, .var 8, .var 2, .var 3]))
       [.ret (.con (.bl false))]
       []],
    .ret (.con (.bl true))] }
def nm__law_op_is_left : List String := ["_law_form", "_law_op_here", "_law_letters", "_law_ops_here", "_law_word", "_law_args", "_law_arg", "_law_operand", "_law_sort"]
def fn__law_is_right : Fn := { ar := 5, sl := 13, keep := false, body :=
   [.asgT [.nm 6, .nm 7] (.var 0),
    .iff (.cmp .inn (.var 6) (.var 3))
     [.ret (.cmp .eq (.ix (.var 3) (.var 6)) (.tup [.var 1, .var 2]))]
     [],
    .iff (.orL [.cmp .eq (.var 7) (.lstF []), .meth .isupper (.var 6) []])
     [.asg (.nm 8) (.dctM),
      .forr (.nm 9) .e [.var 3]
       [.asg (.sub (.var 8) (.var 9)) (.ix (.ix (.var 3) (.var 9)) (.con (.int 0)))],
      .ret (.andL [.cmp .ne (.var 2) (.con (.str [.ptr])), .cmp .eq (.var 1) (.tup [.con (.str [.n]), .call 69 [.var 0, .var 2, .var 8]])])]
     [],
    .asg (.nm 5) (.ite (.andL [.cmp .eq (.ix (.var 1) (.con (.int 0))) (.con (.str [.v])), .cmp .inn (.ix (.var 1) (.con (.int 1))) (.var 4)]) (.ix (.var 4) (.ix (.var 1) (.con (.int 1)))) (.con .non)),
    .iff (.orL [.cmp .isn (.var 5) (.con .non), .cmp .nin (.ix (.var 5) (.con (.int 1))) (.lstF [.con (.str [.bin]), .con (.str [.cmp]), .con (.str [.cast])]), .cmp .ne (.ix (.ix (.var 5) (.con (.int 2))) (.con (.int 0))) (.var 6), .cmp .ne (.call 62 [.var 5]) (.var 2)])
     [.ret (.con (.bl false))]
     [],
    .forr (.tp [10, 11, 12]) .zip [.var 7, .ix (.var 5) (.con (.int 3)), .call 63 [.var 5]]
     [.iff (.not (.call 73 [.var 10, .var 11, .var 12, .var 3, .var 4]))
       [.ret (.con (.bl false))]
       []],
    .ret (.con (.bl true))] }
def nm__law_is_right : List String := ["_law_form", "_law_operand", "_law_sort", "_law_letters", "_law_ops_here", "_law_op_here", "_law_word", "_law_args", "_law_plain_here", "_law_letter", "_law_arg", "_law_one", "_law_wanted"]
def fn__law_left : Fn := { ar := 3, sl := 5, keep := false, body :=
   [.asgP [3, 4] [.dctM, .meth .split (.ix (.var 0) (.con (.int 0))) []],
    .iff (.orL [.cmp .nin (.var 1) (.var 2), .not (.call 64 [.ix (.var 2) (.var 1)]), .cmp .nin (.ix (.var 4) (.con (.int 0))) (.lstF [.ix (.ix (.var 2) (.var 1)) (.con (.int 1)), .ix (.ix (.ix (.var 2) (.var 1)) (.con (.int 2))) (.con (.int 0))])])
     [.ret (.con .non)]
     [],
    .iff (.not (.call 72 [.call 68 [.var 4], .ix (.var 2) (.var 1), .var 3, .var 2]))
     [.ret (.con .non)]
     [],
    .ret (.ite (.andL [.cmp .inn (.ix (.var 0) (.con (.int 1))) (.var 3), .cmp .ne (.ix (.ix (.var 3) (.ix (.var 0) (.con (.int 1)))) (.con (.int 1))) (.call 62 [.ix (.var 2) (.var 1)])]) (.con .non) (.var 3))] }
def nm__law_left : List String := ["_law_rule", "_law_value_here", "_law_ops_here", "_law_letters", "_law_words"]
def fn__law_ops : Fn := { ar := 1, sl := 4, keep := false, body :=
   [.asg (.nm 1) (.dctM),
    .forr (.nm 2) .e [.ix (.var 0) (.con (.int 3))]
     [.forr (.nm 3) .e [.ix (.var 2) (.con (.int 2))]
       [.iff (.cmp .notn (.ix (.var 3) (.con (.int 0))) (.con .non))
         [.asg (.sub (.var 1) (.ix (.var 3) (.con (.int 0)))) (.var 3)]
         []]],
    .ret (.var 1)] }
def nm__law_ops : List String := ["_law_function", "_law_found", "_law_block", "_law_op_here"]
def fn__law_side_ops : Fn := { ar := 5, sl := 16, keep := false, body :=
   [.asgT [.nm 7, .nm 8] (.var 1),
    .iff (.cmp .inn (.var 7) (.var 3))
     [.ret (.ix (.ix (.var 3) (.var 7)) (.con (.int 0)))]
     [],
    .iff (.orL [.cmp .eq (.var 8) (.lstF []), .meth .isupper (.var 7) []])
     [.asg (.nm 9) (.dctM),
      .forr (.nm 10) .e [.var 3]
       [.asg (.sub (.var 9) (.var 10)) (.ix (.ix (.var 3) (.var 10)) (.con (.int 0)))],
      .ret (.tup [.con (.str [.n]), .call 69 [.var 1, .var 2, .var 9]])]
     [],
    .asg (.nm 5) (.bin .add (.lc [14] (.nm 14) .e [.var 8] [.cmp .inn (.ix (.var 14) (.con (.int 0))) (.var 3)] (.ix (.ix (.var 3) (.ix (.var 14) (.con (.int 0)))) (.con (.int 1)))) (.lstF [.ix (.var 4) (.con (.int 2))])),
    .iff (.cmp .inn (.var 7) (.lstF [.con (.str [.zext]), .con (.str [.sext]), .con (.str [.trunc])]))
     [.asgP [11, 12, 13] [.tup [.var 7, .ix (.var 5) (.con (.int 0)), .var 2], .lstF [.ix (.var 5) (.con (.int 0))], .con (.str [.cast])]]
     [.iff (.cmp .eq (.var 7) (.con (.str [.select])))
       [.asgP [11, 12, 13] [.tup [.var 2], .lstF [.con (.int 1), .var 2, .var 2], .con (.str [.select])]]
       [.iff (.cmp .inn (.var 7) (.lstF [.con (.str [.eq]), .con (.str [.ne]), .con (.str [.ult]), .con (.str [.ule]), .con (.str [.slt]), .con (.str [.sle])]))
         [.asgP [11, 12, 13] [.tup [.var 7, .ix (.var 5) (.con (.int 0))], .lstF [.ix (.var 5) (.con (.int 0)), .ix (.var 5) (.con (.int 0))], .con (.str [.cmp])]]
         [.asgP [11, 12, 13] [.tup [.var 7, .var 2], .lstF [.var 2, .var 2], .con (.str [.bin])]]]],
    .asg (.nm 6) (.blt .tuple (.lc [14, 15] (.tp [14, 15]) .zip [.var 8, .var 12] [] (.call 76 [.var 0, .var 14, .var 15, .var 3, .var 4]))),
    .expr (.meth .append (.ix (.var 4) (.con (.int 0))) [.tup [.ix (.var 4) (.con (.int 1)), .var 13, .var 11, .var 6]]),
    .asg (.sub (.var 4) (.con (.int 1))) (.bin .add (.ix (.var 4) (.con (.int 1))) (.con (.int 1))),
    .ret (.tup [.con (.str [.v]), .bin .sub (.ix (.var 4) (.con (.int 1))) (.con (.int 1))])] }
def nm__law_side_ops : List String := ["_law_deal", "_law_form", "_law_sort", "_law_letters", "_law_scene", "_law_wide", "_law_made_here", "_law_word", "_law_args", "_law_plain_here", "_law_letter", "_law_info", "_law_wanted", "_law_kind", "_law_arg", "_law_one"]
def fn__law_after_rule : Fn := { ar := 2, sl := 17, keep := false, body :=
   [.asgT [.nm 8, .nm 9] (.lc [12] (.nm 12) .e [.var 1] [] (.call 68 [.meth .split (.var 12) []])),
    .asgP [10, 2, 11] [.call 43 [.var 0, .lstF [.con (.int 1), .con (.int 8), .con (.int 8), .con (.int 32), .con (.int 64)]], .con .non, .lstM [.lstM [], .con (.int 0), .con (.int 8)]],
    .asg (.nm 2) (.var 10),
    .iff (.cmp .inn (.ix (.var 8) (.con (.int 0))) (.lstF [.con (.str [.zext]), .con (.str [.sext]), .con (.str [.trunc])]))
     [.asgT [.nm 10, .sub (.var 11) (.con (.int 2)), .nm 2] (.call 43 [.var 0, .lstF [.tup [.con (.int 8), .con (.int 16), .con (.int 32)], .tup [.con (.int 1), .con (.int 8), .con (.int 16)], .tup [.con (.int 8), .con (.int 32), .con (.int 64)], .tup [.con (.int 32), .con (.int 16), .con (.int 8)], .tup [.con (.int 8), .con (.int 16), .con (.int 8)], .tup [.con (.int 8), .con (.int 16), .con (.int 1)]]])]
     [],
    .iff (.cmp .inn (.ix (.var 8) (.con (.int 0))) (.lstF [.con (.str [.eq]), .con (.str [.ne]), .con (.str [.ult]), .con (.str [.ule]), .con (.str [.slt]), .con (.str [.sle])]))
     [.asg (.nm 2) (.con (.int 1))]
     [],
    .asg (.sub (.var 11) (.con (.int 2))) (.ite (.cmp .inn (.ix (.var 8) (.con (.int 0))) (.lstF [.con (.str [.zext]), .con (.str [.sext]), .con (.str [.trunc])])) (.ix (.var 11) (.con (.int 2))) (.var 10)),
    .asg (.nm 3) (.dctM),
    .forr (.nm 4) .e [.meth .split (.ix (.var 1) (.con (.int 0))) []]
     [.iff (.andL [.cmp .inn (.var 4) (.lstF [.con (.str [.a]), .con (.str [.b]), .con (.str [.c]), .con (.str [.m]), .con (.str [.n]), .con (.str [.p])]), .cmp .nin (.var 4) (.var 3)])
       [.asg (.nm 13) (.ite (.cmp .eq (.var 4) (.con (.str [.c]))) (.con (.int 1)) (.var 10)),
        .asg (.nm 14) (.tup [.con (.str [.n]), .ite (.andL [.cmp .eq (.var 4) (.con (.str [.p])), .cmp .gt (.call 42 [.var 0, .con (.int 5)]) (.con (.int 0))]) (.call 44 [.call 42 [.var 0, .var 13]]) (.call 45 [.var 0, .var 13])]),
        .iff (.andL [.cmp .inn (.var 4) (.lstF [.con (.str [.a]), .con (.str [.b]), .con (.str [.c])]), .cmp .gt (.call 42 [.var 0, .con (.int 4)]) (.con (.int 0))])
         [.expr (.meth .append (.ix (.var 11) (.con (.int 0))) [.tup [.ix (.var 11) (.con (.int 1)), .con (.str [.input]), .tup [.var 13], .tup []]]),
          .asgD [.nm 14, .sub (.var 11) (.con (.int 1))] [.tup [.con (.str [.v]), .ix (.var 11) (.con (.int 1))], .bin .add (.ix (.var 11) (.con (.int 1))) (.con (.int 1))]]
         [],
        .asg (.sub (.var 3) (.var 4)) (.tup [.var 14, .var 13])]
       []],
    .iff (.andL [.cmp .inn (.con (.str [.p])) (.var 3), .cmp .nin (.ix (.ix (.ix (.var 3) (.con (.str [.p]))) (.con (.int 0))) (.con (.int 1))) (.lc [16] (.nm 16) .range [.con (.int 64)] [] (.call 44 [.var 16]))])
     [.asg (.sub (.var 3) (.con (.str [.p]))) (.tup [.tup [.con (.str [.n]), .con (.int 1)], .var 10])]
     [],
    .asg (.nm 5) (.ite (.andL [.cmp .eq (.ix (.var 8) (.con (.int 0))) (.con (.str [.bxor])), .cmp .inn (.ix (.ix (.ix (.var 8) (.con (.int 1))) (.con (.int 0))) (.con (.int 0))) (.lstF [.con (.str [.eq]), .con (.str [.ne]), .con (.str [.ult]), .con (.str [.ule]), .con (.str [.slt]), .con (.str [.sle])])]) (.con (.int 1)) (.var 2)),
    .asg (.nm 6) (.call 76 [.var 0, .var 8, .var 5, .var 3, .var 11]),
    .iff (.cmp .eq (.call 42 [.var 0, .con (.int 3)]) (.con (.int 0)))
     [.forr (.nm 4) .e [.blt .list (.var 3)]
       [.iff (.andL [.cmp .eq (.call 42 [.var 0, .con (.int 2)]) (.con (.int 0)), .cmp .inn (.var 4) (.lstF [.con (.str [.a]), .con (.str [.b])])])
         [.asg (.sub (.var 3) (.var 4)) (.tup [.tup [.con (.str [.n]), .call 45 [.var 0, .con (.int 1)]], .ix (.ix (.var 3) (.var 4)) (.con (.int 1))])]
         []]]
     [],
    .iff (.cmp .eq (.call 42 [.var 0, .con (.int 5)]) (.con (.int 0)))
     [.forr (.nm 4) .e [.blt .list (.var 3)]
       [.asg (.nm 15) (.call 43 [.var 0, .lstF [.con (.int 1), .con (.int 8), .con (.int 16), .con (.int 32), .con (.int 64)]]),
        .iff (.andL [.cmp .eq (.ix (.ix (.ix (.var 3) (.var 4)) (.con (.int 0))) (.con (.int 0))) (.con (.str [.n])), .cmp .lt (.ix (.ix (.ix (.var 3) (.var 4)) (.con (.int 0))) (.con (.int 1))) (.call 44 [.var 15])])
         [.asg (.sub (.var 3) (.var 4)) (.tup [.ix (.ix (.var 3) (.var 4)) (.con (.int 0)), .var 15])]
         []]]
     [],
    .asg (.nm 7) (.call 76 [.var 0, .var 9, .var 5, .var 3, .var 11]),
    .retT [.ix (.var 11) (.con (.int 0)), .var 6, .var 7]] }
def nm__law_after_rule : List String := ["_law_deal", "_law_rule", "_law_width", "_law_letters", "_law_word", "_law_narrow", "_law_one", "_law_other", "_law_left_here", "_law_right_here", "_law_low", "_law_scene", "_law_side", "_law_sort", "_law_operand", "_law_wider", "_law_k"]
def fn__law_bent : Fn := { ar := 2, sl := 8, keep := false, body :=
   [.asg (.nm 2) (.call 42 [.var 0, .blt .len (.var 1)]),
    .asgT [.nm 4, .nm 5, .nm 6, .nm 7] (.ix (.var 1) (.var 2)),
    .asg (.nm 3) (.call 42 [.var 0, .con (.int 6)]),
    .iff (.andL [.cmp .eq (.var 3) (.con (.int 0)), .cmp .eq (.blt .len (.var 7)) (.con (.int 2)), .cmp .inn (.var 5) (.lstF [.con (.str [.bin]), .con (.str [.cmp])])])
     [.ret (.bin .add (.bin .add (.slc (.var 1) none (some (.var 2))) (.lstF [.tup [.var 4, .var 5, .var 6, .rev (.var 7)]])) (.slc (.var 1) (some (.bin .add (.var 2) (.con (.int 1)))) none))]
     [],
    .iff (.andL [.cmp .eq (.var 3) (.con (.int 1)), .cmp .eq (.var 5) (.con (.str [.bin]))])
     [.ret (.bin .add (.bin .add (.slc (.var 1) none (some (.var 2))) (.lstF [.tup [.var 4, .var 5, .tup [.call 43 [.var 0, .lstF [.con (.str [.add]), .con (.str [.sub]), .con (.str [.bxor]), .con (.str [.band]), .con (.str [.lshr]), .con (.str [.ashr])]], .ix (.var 6) (.con (.int 1))], .var 7]])) (.slc (.var 1) (some (.bin .add (.var 2) (.con (.int 1)))) none))]
     [],
    .iff (.andL [.cmp .eq (.var 3) (.con (.int 2)), .cmp .eq (.var 5) (.con (.str [.cmp]))])
     [.ret (.bin .add (.bin .add (.slc (.var 1) none (some (.var 2))) (.lstF [.tup [.var 4, .var 5, .tup [.call 43 [.var 0, .lstF [.con (.str [.eq]), .con (.str [.ule]), .con (.str [.sle]), .con (.str [.slt])]], .ix (.var 6) (.con (.int 1))], .var 7]])) (.slc (.var 1) (some (.bin .add (.var 2) (.con (.int 1)))) none))]
     [],
    .ret (.var 1)] }
def nm__law_bent : List String := ["_law_deal", "_law_ops_here", "_law_at", "_law_form", "_law_value_here", "_law_kind", "_law_info", "_law_args"]
def fn__law_fits_right : Fn := { ar := 6, sl := 7, keep := false, body :=
   [.asg (.nm 6) (.call 74 [.ix (.var 0) (.var 1), .var 2, .var 5]),
    .iff (.cmp .isn (.var 6) (.con .non))
     [.ret (.con (.bl false))]
     [],
    .ret (.call 73 [.call 68 [.meth .split (.ix (.ix (.var 0) (.var 1)) (.con (.int 1))) []], .var 3, .ix (.var 4) (.var 2), .var 6, .var 5])] }
def nm__law_fits_right : List String := ["_law_table_here", "_law_k", "_law_value_here", "_law_operand", "_law_types_here", "_law_ops_here", "_law_letters"]
def fn__law_right : Fn := { ar := 6, sl := 11, keep := false, body :=
   [.asgP [8, 9] [.call 75 [.var 2], .call 66 [.var 1, .var 2]],
    .asg (.nm 6) (.call 74 [.ix (.var 0) (.var 3), .var 4, .var 8]),
    .asg (.nm 7) (.ite (.cmp .isn (.var 6) (.con .non)) (.con .non) (.blt .tuple (.blt .sorted (.lc [10] (.nm 10) .e [.var 6] [] (.tup [.var 10, .ix (.ix (.var 6) (.var 10)) (.con (.int 0))]))))),
    .iff (.orL [.repr true (.call 38 [.var 1, .var 2, .var 3, .var 4]) (.var 7), .repr true (.callK 38 [3, 2, 1, 0] [.var 4, .var 3, .var 2, .var 1]) (.var 7)])
     [.ret (.con (.bl false))]
     [],
    .asg (.nm 7) (.call 79 [.var 0, .var 3, .var 4, .var 5, .var 9, .var 8]),
    .iff (.repr true (.call 39 [.var 1, .var 2, .var 3, .var 4, .var 5]) (.var 7))
     [.ret (.con (.bl false))]
     [],
    .ret (.repr false (.callK 39 [4, 3, 2, 1, 0] [.var 5, .var 4, .var 3, .var 2, .var 1]) (.var 7))] }
def nm__law_right : List String := ["_law_table_here", "_law_module", "_law_function", "_law_k", "_law_value_here", "_law_operand", "_law_letters", "_law_due", "_law_ops_here", "_law_types_here", "_law_letter"]
def fn__law_shows : Fn := { ar := 4, sl := 7, keep := false, body :=
   [.asgP [5, 6] [.ix (.ix (.var 0) (.con (.int 3))) (.con (.int 0)), .lstM []],
    .forr (.nm 4) .e [.lstF [.tup [.con (.str [.v]), .var 2], .var 3]]
     [.expr (.meth .append (.var 6) [.tup [.con .non, .con (.str [.print]), .tup [.ix (.var 1) (.var 2)], .tup [.var 4]]])],
    .ret (.tup [.ix (.var 0) (.con (.int 0)), .ix (.var 0) (.con (.int 1)), .ix (.var 0) (.con (.int 2)), .tup [.tup [.ix (.var 5) (.con (.int 0)), .ix (.var 5) (.con (.int 1)), .bin .add (.ix (.var 5) (.con (.int 2))) (.blt .tuple (.var 6)), .ix (.var 5) (.con (.int 3))]]])] }
def nm__law_shows : List String := ["_law_function", "_law_types_here", "_law_value_here", "_law_operand", "_law_one", "_law_block", "_law_some"]
def fn_law : Fn := { ar := 1, sl := 19, keep := false, body :=
   [.asg (.nm 1) (.call 41 [.var 0, .con (.int 26)]),
    .asg (.nm 2) (.call 67 []),
    .forr (.nm 3) .range [.con (.int 4)]
     [.asg (.nm 4) (.call 42 [.var 1, .blt .len (.var 2)]),
      .asgT [.nm 9, .nm 10, .nm 11] (.call 77 [.var 1, .ix (.var 2) (.var 4)]),
      .iff (.cmp .eq (.call 42 [.var 1, .con (.int 3)]) (.con (.int 0)))
       [.asg (.nm 9) (.call 78 [.var 1, .var 9])]
       [],
      .asg (.nm 5) (.tup [.con (.str [.main]), .tup [], .con (.int 8), .tup [.tup [.con (.int 0), .tup [], .blt .tuple (.var 9), .tup [.con (.str [.ret]), .tup [.con (.str [.n]), .con (.int 0)]]]]]),
      .asg (.nm 6) (.tup [.tup [], .tup [.var 5]]),
      .asg (.nm 7) (.call 66 [.var 6, .var 5]),
      .asg (.nm 8) (.blt .sorted (.blt .list (.var 7))),
      .forr (.tp [12, 13]) .e [.lstF [.tup [.ix (.var 10) (.con (.int 1)), .var 11], .tup [.call 43 [.var 1, .var 8], .call 43 [.var 1, .lstF [.var 11, .tup [.con (.str [.v]), .call 43 [.var 1, .var 8]], .tup [.con (.str [.n]), .con (.int 0)], .tup [.con (.str [.n]), .con (.int 1)]]]]]]
       [.asg (.nm 14) (.ite (.cmp .eq (.call 42 [.var 1, .con (.int 3)]) (.con (.int 0))) (.call 42 [.var 1, .blt .len (.var 2)]) (.var 4)),
        .iff (.not (.call 80 [.var 2, .var 6, .var 5, .var 14, .var 12, .var 13]))
         [.ret (.con (.bl false))]
         [],
        .iff (.andL [.cmp .ne (.ix (.var 7) (.var 12)) (.con (.str [.ptr])), .call 79 [.var 2, .var 14, .var 12, .var 13, .var 7, .call 75 [.var 5]]])
         [.asg (.nm 15) (.lc [18] (.nm 18) .range [.con (.int 4)] [] (.call 45 [.var 1, .con (.int 64)])),
          .asgT [.nm 16, .nm 17] (.call 61 [.tup [.tup [], .tup [.call 81 [.var 5, .var 7, .var 12, .var 13]]], .var 15, .con (.int 60)]),
          .iff (.andL [.cmp .eq (.blt .len (.var 16)) (.con (.int 2)), .cmp .ne (.ix (.var 16) (.con (.int 0))) (.ix (.var 16) (.con (.int 1)))])
           [.ret (.con (.bl false))]
           []]
         []]],
    .ret (.con (.bl true))] }
def nm_law : List String := ["_law_script", "_law_deal", "_law_table_here", "_law_turn", "_law_k", "_law_function", "_law_module", "_law_types_here", "_law_values", "_law_ops_here", "_law_one", "_law_other", "_law_value_here", "_law_operand", "_law_near", "_law_inputs", "_law_outputs", "_law_end", "_law_at"]
def tab : Nat → Option Fn
  | 5 => some fn_wrapped
  | 6 => some fn_signed
  | 7 => some fn_quotient
  | 8 => some fn_divided
  | 9 => some fn_shifted
  | 10 => some fn_bin_told
  | 12 => some fn_results_of
  | 13 => some fn_op_type
  | 14 => some fn_type_table
  | 15 => some fn_value_types
  | 18 => some fn_is_pure
  | 19 => some fn_pure_types
  | 23 => some fn_places_of
  | 24 => some fn_read_side
  | 25 => some fn_side_form
  | 26 => some fn_left_form
  | 27 => some fn_right_form
  | 28 => some fn_ops_by_value
  | 29 => some fn_word_of
  | 30 => some fn_can_be
  | 31 => some fn_number_of
  | 32 => some fn_is_letter
  | 33 => some fn_takes
  | 34 => some fn_arg_is
  | 35 => some fn_op_is
  | 36 => some fn_right_is
  | 37 => some fn_bound_letters
  | 38 => some fn_rule_letters
  | 39 => some fn_rule_fits
  | 41 => some fn__law_draw
  | 42 => some fn__law_any
  | 43 => some fn__law_of
  | 44 => some fn__law_power
  | 45 => some fn__law_number
  | 46 => some fn__law_signed
  | 47 => some fn__law_shift
  | 48 => some fn__law_told
  | 49 => some fn__law_compared
  | 50 => some fn__law_cast
  | 51 => some fn__law_value
  | 52 => some fn__law_all
  | 53 => some fn__law_wants
  | 54 => some fn__law_plain
  | 55 => some fn__law_touch
  | 56 => some fn__law_enter
  | 57 => some fn__law_frame
  | 58 => some fn__law_leave
  | 59 => some fn__law_ending
  | 60 => some fn__law_op
  | 61 => some fn__law_run
  | 62 => some fn__law_made
  | 63 => some fn__law_asked
  | 64 => some fn__law_pure
  | 65 => some fn__law_types
  | 66 => some fn__law_all_types
  | 67 => some fn__law_table
  | 68 => some fn__law_read
  | 69 => some fn__law_made_number
  | 70 => some fn__law_letter_takes
  | 71 => some fn__law_is_left
  | 72 => some fn__law_op_is_left
  | 73 => some fn__law_is_right
  | 74 => some fn__law_left
  | 75 => some fn__law_ops
  | 76 => some fn__law_side_ops
  | 77 => some fn__law_after_rule
  | 78 => some fn__law_bent
  | 79 => some fn__law_fits_right
  | 80 => some fn__law_right
  | 81 => some fn__law_shows
  | 82 => some fn_law
  | _ => none
/-- the names of the defs, of their slots -/
def fnm : Nat → Option Str
  | 5 => some "wrapped"
  | 6 => some "signed"
  | 7 => some "quotient"
  | 8 => some "divided"
  | 9 => some "shifted"
  | 10 => some "bin_told"
  | 12 => some "results_of"
  | 13 => some "op_type"
  | 14 => some "type_table"
  | 15 => some "value_types"
  | 18 => some "is_pure"
  | 19 => some "pure_types"
  | 23 => some "places_of"
  | 24 => some "read_side"
  | 25 => some "side_form"
  | 26 => some "left_form"
  | 27 => some "right_form"
  | 28 => some "ops_by_value"
  | 29 => some "word_of"
  | 30 => some "can_be"
  | 31 => some "number_of"
  | 32 => some "is_letter"
  | 33 => some "takes"
  | 34 => some "arg_is"
  | 35 => some "op_is"
  | 36 => some "right_is"
  | 37 => some "bound_letters"
  | 38 => some "rule_letters"
  | 39 => some "rule_fits"
  | 41 => some "_law_draw"
  | 42 => some "_law_any"
  | 43 => some "_law_of"
  | 44 => some "_law_power"
  | 45 => some "_law_number"
  | 46 => some "_law_signed"
  | 47 => some "_law_shift"
  | 48 => some "_law_told"
  | 49 => some "_law_compared"
  | 50 => some "_law_cast"
  | 51 => some "_law_value"
  | 52 => some "_law_all"
  | 53 => some "_law_wants"
  | 54 => some "_law_plain"
  | 55 => some "_law_touch"
  | 56 => some "_law_enter"
  | 57 => some "_law_frame"
  | 58 => some "_law_leave"
  | 59 => some "_law_ending"
  | 60 => some "_law_op"
  | 61 => some "_law_run"
  | 62 => some "_law_made"
  | 63 => some "_law_asked"
  | 64 => some "_law_pure"
  | 65 => some "_law_types"
  | 66 => some "_law_all_types"
  | 67 => some "_law_table"
  | 68 => some "_law_read"
  | 69 => some "_law_made_number"
  | 70 => some "_law_letter_takes"
  | 71 => some "_law_is_left"
  | 72 => some "_law_op_is_left"
  | 73 => some "_law_is_right"
  | 74 => some "_law_left"
  | 75 => some "_law_ops"
  | 76 => some "_law_side_ops"
  | 77 => some "_law_after_rule"
  | 78 => some "_law_bent"
  | 79 => some "_law_fits_right"
  | 80 => some "_law_right"
  | 81 => some "_law_shows"
  | 82 => some "law"
  | _ => none
def nmOf : Nat → List String
  | 5 => nm_wrapped
  | 6 => nm_signed
  | 7 => nm_quotient
  | 8 => nm_divided
  | 9 => nm_shifted
  | 10 => nm_bin_told
  | 12 => nm_results_of
  | 13 => nm_op_type
  | 14 => nm_type_table
  | 15 => nm_value_types
  | 18 => nm_is_pure
  | 19 => nm_pure_types
  | 23 => nm_places_of
  | 24 => nm_read_side
  | 25 => nm_side_form
  | 26 => nm_left_form
  | 27 => nm_right_form
  | 28 => nm_ops_by_value
  | 29 => nm_word_of
  | 30 => nm_can_be
  | 31 => nm_number_of
  | 32 => nm_is_letter
  | 33 => nm_takes
  | 34 => nm_arg_is
  | 35 => nm_op_is
  | 36 => nm_right_is
  | 37 => nm_bound_letters
  | 38 => nm_rule_letters
  | 39 => nm_rule_fits
  | 41 => nm__law_draw
  | 42 => nm__law_any
  | 43 => nm__law_of
  | 44 => nm__law_power
  | 45 => nm__law_number
  | 46 => nm__law_signed
  | 47 => nm__law_shift
  | 48 => nm__law_told
  | 49 => nm__law_compared
  | 50 => nm__law_cast
  | 51 => nm__law_value
  | 52 => nm__law_all
  | 53 => nm__law_wants
  | 54 => nm__law_plain
  | 55 => nm__law_touch
  | 56 => nm__law_enter
  | 57 => nm__law_frame
  | 58 => nm__law_leave
  | 59 => nm__law_ending
  | 60 => nm__law_op
  | 61 => nm__law_run
  | 62 => nm__law_made
  | 63 => nm__law_asked
  | 64 => nm__law_pure
  | 65 => nm__law_types
  | 66 => nm__law_all_types
  | 67 => nm__law_table
  | 68 => nm__law_read
  | 69 => nm__law_made_number
  | 70 => nm__law_letter_takes
  | 71 => nm__law_is_left
  | 72 => nm__law_op_is_left
  | 73 => nm__law_is_right
  | 74 => nm__law_left
  | 75 => nm__law_ops
  | 76 => nm__law_side_ops
  | 77 => nm__law_after_rule
  | 78 => nm__law_bent
  | 79 => nm__law_fits_right
  | 80 => nm__law_right
  | 81 => nm__law_shows
  | 82 => nm_law
  | _ => []
end Mi
end
section
set_option maxHeartbeats 0
/-! Mi0: the head: the modules run, what stands behind them (early: it asks the most memory). -/
namespace Mi
open PySem PySem.Spec PyProof.Rows L2
def allW : List Wd := [.add, .sub, .mul, .udiv, .sdiv, .urem, .srem, .band, .bor, .bxor, .shl, .lshr, .ashr, .eq, .ne, .ult, .ule, .slt, .sle, .zext, .sext, .trunc, .select, .LOG, .ADD, .SUB, .MUL, .AND, .OR, .XOR,
  .a, .b, .c, .m, .n, .p, .k0, .k1, .km1, .bin, .cmp, .cast, .call, .alloca, .att, .load, .store, .input, .print, .v, .g, .ptr, .main, .ret, .branch, .jump, .stop, .trap, .divide, .index, .wrong, .value, .s, .u, .e, .div, .rem, .lt, .le, .eqs]
def gnm : Nat → Str
  | 0 => "OPS" | 1 => "DIVISIONS_numbers" | 2 => "PREDS" | 3 => "CASTS" | 4 => "DIVISIONS_pureness" | _ => "RULES"
def bnms : List Str := ["len", "abs", "int", "str", "tuple", "list", "sorted", "dict", "all", "enumerate", "range", "zip", "repr"]
mutual
def datB (K : PySem.W.Frag) : Mi.D → Value → Bool
  | .int i, v => match v with
    | .int j _ => decide (i = j)
    | _ => false
  | .str x, v => match v with
    | .str y _ => decide (S.str x = y)
    | _ => false
  | .tup xs, v => match v with
    | .ref a => match K.lookup a with
      | some ⟨.type c, _, .seq its _, _⟩ => decide (c = "tuple") && (decide (its.size ≤ 1000) && datsB K xs its.toList)
      | _ => false
    | _ => false
  | _, _ => false
def datsB (K : PySem.W.Frag) : List Mi.D → List Value → Bool
  | [], vs => vs.isEmpty
  | x :: xs, vs => match vs with
    | v :: vs => datB K x v && datsB K xs vs
    | [] => false
end
def madeB (K : PySem.W.Frag) (d : Addr) (wd : Wd) : Bool := match PySem.W.nsIn K d (S.str [wd]), madeW wd with
  | some (some (.str y _)), some u => decide (y = S.str [u])
  | some none, none => true
  | _, _ => false
/-- the constants and the table MADE -/
def gloB (K : PySem.W.Frag) : Bool := ((List.range 6).all fun k => match globD k, PySem.W.nsIn K mainGlobals (gnm k) with
  | some d, some (some u) => datB K d u
  | _, _ => false) && (decide (PySem.W.nsIn K mainGlobals "MADE" = some (some (.ref (He.ga K "MADE")))) && allW.all (madeB K (He.ga K "MADE")))
def obsM (fa : List He.Fa) (fn : List He.DefD) (ts : List He.Tab) (K : PySem.W.Frag) : He.AlT × Bool := (He.obsT fa fn ts K, gloB K)
def valM (fn : List He.DefD) (ts : List He.Tab) (w : World) : He.AlT × Bool := (He.valT fn ts w, true)
def obsMG (n : Nat) (fa : List He.Fa) (fn : List He.DefD) (ts : List He.Tab) (g : Addr → Option Obj) : He.AlT × Bool := obsM fa fn ts (He.frG g (He.asD g n))
def SaysM (fa : List He.Fa) (fn : List He.DefD) (ts : List He.Tab) (w : World) (K : PySem.W.Frag) : Prop := obsM fa fn ts K = valM fn ts w
def hookM (n : Nat) (fa : List He.Fa) (fn : List He.DefD) (ts : List He.Tab) : PySem.W.Hook where
  α := He.AlT × Bool
  obs := fun s => obsMG n fa fn ts s.heap.get?
  val := fun w => valM fn ts w
  says := fun w h => ∃ K : PySem.W.Frag, K.In h ∧ SaysM fa fn ts w K
  of := fun _ _ e => ⟨_, He.frG_in, e⟩
  keeps := fun _ _ _ ⟨K, hK, c⟩ k => ⟨K, PySem.W.Frag.In.keeps hK k, c⟩
theorem obsMG_eq {n : Nat} {fa : List He.Fa} {fn : List He.DefD} {ts : List He.Tab} {g : Addr → Option Obj} {s : Shared} (h : ∀ a, g a = s.heap.get? a) : obsMG n fa fn ts g = (hookM n fa fn ts).obs s := by
  have e : g = s.heap.get? := funext h
  rw [e]
  rfl
def top (i : Nat) : Stmt := PySem.Challenge.pw_anypasses_k26_whole_rules_found_in_ops.main.body.getD i (.Pass ⟨0, 0, 0, 0⟩)
def fids : List Nat := (List.range 83).filter fun f => (fnm f).isSome
def nameF (f : Nat) : Str := (fnm f).getD ""
def dOf (f : Nat) : He.DefD := ⟨(nameF f, none), nameF f, nameF f, defArgs (top f), defBody (top f), defScope (top f), [], []⟩
def fnL : List He.DefD := fids.map dOf
def faL : List He.Fa := (fids.map fun f => .glo (nameF f)) ++ bnms.map .free
def tsL : List He.Tab := [(fun K => He.ga K "MADE", ["ADD", "SUB", "MUL", "AND", "OR", "XOR"])]
abbrev R : PySem.W.OpenRow := PySem.W.OpenLaw.row PySem.Challenge.rw_anypasses_k26_whole_rules_found_in_ops
abbrev hk : PySem.W.Hook := hookM 5 faL fnL tsL
def ob (s : PySem.W.SharedT) : He.AlT × Bool := obsMG 5 faL fnL tsL (HandSHeadRun.getT s)
theorem ob_eq (s : PySem.W.SharedT) : ob s = hk.obs s.abs := obsMG_eq (HandSHeadRun.getT_eq s)
def looseL : List Str := (["OPS", "DIVISIONS_numbers", "PREDS", "CASTS"] : List Str) ++ [5, 6, 7, 8, 9, 10].map nameF ++ [12, 13, 14, 15].map nameF ++ (["DIVISIONS_pureness"] : List Str) ++ [18, 19].map nameF ++ (["RULES", "MADE"] : List Str) ++ ((List.range 60).map (· + 23)).filterMap fun f => if f = 82 then none else fnm f
theorem runF_ (w : World) : HandSHeadRun.RunEq R (PySem.W.view R.prog [82]) hk ob 4000 looseL (w.withFollow "special-get-raises" false) := by
  intro os
  kernel_rfl
theorem runT_ (w : World) : HandSHeadRun.RunEq R (PySem.W.view R.prog [82]) hk ob 4000 looseL (w.withFollow "special-get-raises" true) := by
  intro os
  kernel_rfl
theorem run (w : World) : HandSHeadRun.RunEq R (PySem.W.view R.prog [82]) hk ob 4000 looseL w :=
  PySem.W.byRow2 "special-get-raises" (P := fun w => HandSHeadRun.RunEq R (PySem.W.view R.prog [82]) hk ob 4000 looseL w) runF_ runT_ w
end Mi
end
section
/-! Mi3: how the hand layer's heap bears data, cells, slots. -/
namespace Mi
open PySem PySem.Spec PyProof.Rows L2

/-- a plain tuple of these -/
def PlT (a : Addr) (its : List Value) (h : Heap) : Prop := h.get? a = some { cls := .type "tuple", data := .seq its.toArray }
/-- pairs (key, value) at these places -/
def PlTs (K : PySem.W.Frag) (G : Hp) (ps : List Addr) (vs : List (Key × V)) : Prop := Paired (fun p (kv : Key × V) => SqT K G p [kV kv.1, kv.2]) ps vs
mutual
/-- the value v stands for the data, by the part of the heap that nobody changes -/
inductive DR (K : PySem.W.Frag) (G : Hp) : D → V → Prop
  | non : DR K G .non .non
  | bl (b : Bool) : DR K G (.bl b) (.bl b)
  | int (i : Int) : DR K G (.int i) (.int i)
  | str (x : List Wd) : DR K G (.str x) (.str (S.str x))
  | tup {a : Addr} {vs : List V} {xs : List D} : SqT K G a vs → DRs K G xs vs → DR K G (.tup xs) (.ref a)
  | lst {a : Addr} {vs : List V} {xs : List D} : SqL K G a vs → DRs K G xs vs → DR K G (.lst xs) (.ref a)
  | dct {a : Addr} {vs : List (Key × V)} {kvs : List (Ky × D)} : G a = some (.dK vs) → DRk K G kvs vs → DR K G (.dct kvs) (.ref a)
  | prs {a : Addr} {ps : List Addr} {vs : List (Key × V)} {kvs : List (Ky × D)} : G a = some (.ext (PlT a (ps.map Value.ref))) → PlTs K G ps vs → DRk K G kvs vs → DR K G (.prs kvs) (.ref a)
inductive DRs (K : PySem.W.Frag) (G : Hp) : List D → List V → Prop
  | nil : DRs K G [] []
  | cons {x : D} {v : V} {xs : List D} {vs : List V} : DR K G x v → DRs K G xs vs → DRs K G (x :: xs) (v :: vs)
inductive DRk (K : PySem.W.Frag) (G : Hp) : List (Ky × D) → List (Key × V) → Prop
  | nil : DRk K G [] []
  | cons {k : Ky} {x : D} {v : V} {xs : List (Ky × D)} {vs : List (Key × V)} : DR K G x v → DRk K G xs vs → DRk K G ((k, x) :: xs) ((k.key, v) :: vs)
end

/-- the one heap within the other -/
def Inc (G G' : Hp) : Prop := ∀ a o, G a = some o → G' a = some o
theorem Inc.refl (G : Hp) : Inc G G := fun _ _ h => h
theorem Inc.trans {G G' G'' : Hp} (h : Inc G G') (h' : Inc G' G'') : Inc G G'' := fun a o q => h' a o (h a o q)
theorem Inc.seqL {K : PySem.W.Frag} {G G' : Hp} (h : Inc G G') {a : Addr} {vs : List V} (q : SqL K G a vs) : SqL K G' a vs := by
  rcases q with (q | ⟨o, q⟩) | q
  · exact .inl (.inl (h _ _ q))
  · exact .inl (.inr ⟨o, h _ _ q⟩)
  · exact .inr q
theorem Inc.seqT {K : PySem.W.Frag} {G G' : Hp} (h : Inc G G') {a : Addr} {vs : List V} (q : SqT K G a vs) : SqT K G' a vs := by
  rcases q with (q | ⟨o, q⟩) | q
  · exact .inl (.inl (h _ _ q))
  · exact .inl (.inr ⟨o, h _ _ q⟩)
  · exact .inr q
section
variable {K : PySem.W.Frag} {G G' : Hp} (h : Inc G G')
include h
mutual
theorem DR.mono : ∀ (x : D) (v : V), DR K G x v → DR K G' x v
  | .non, _, q => by cases q; exact .non
  | .bl b, _, q => by cases q; exact .bl b
  | .int i, _, q => by cases q; exact .int i
  | .str x, _, q => by cases q; exact .str x
  | .tup xs, _, q => by cases q with | tup q1 q2 => exact .tup (h.seqT q1) (DRs.mono xs _ q2)
  | .lst xs, _, q => by cases q with | lst q1 q2 => exact .lst (h.seqL q1) (DRs.mono xs _ q2)
  | .dct kvs, _, q => by cases q with | dct q1 q2 => exact .dct (h _ _ q1) (DRk.mono kvs _ q2)
  | .prs kvs, _, q => by cases q with | prs q1 q2 q3 => exact .prs (h _ _ q1) (Paired.mapP q2 fun p kv z => h.seqT z) (DRk.mono kvs _ q3)
theorem DRs.mono : ∀ (xs : List D) (vs : List V), DRs K G xs vs → DRs K G' xs vs
  | [], _, q => by cases q; exact .nil
  | x :: xs, _, q => by cases q with | cons q1 q2 => exact .cons (DR.mono x _ q1) (DRs.mono xs _ q2)
theorem DRk.mono : ∀ (xs : List (Ky × D)) (vs : List (Key × V)), DRk K G xs vs → DRk K G' xs vs
  | [], _, q => by cases q; exact .nil
  | (k, x) :: xs, _, q => by cases q with | cons q1 q2 => exact .cons (DR.mono x _ q1) (DRk.mono xs _ q2)
end
end

/-! ### lists of data -/
section
variable {K : PySem.W.Frag} {G : Hp}
theorem DRs.length : ∀ {xs : List D} {vs : List V}, DRs K G xs vs → xs.length = vs.length
  | _, _, .nil => rfl
  | _, _, .cons _ r => by rw [List.length_cons, List.length_cons, DRs.length r]
theorem DRs.get : ∀ {xs : List D} {vs : List V}, DRs K G xs vs → ∀ {i : Nat} {x : D}, xs[i]? = some x → ∃ v, vs[i]? = some v ∧ DR K G x v
  | _, _, .nil, i, x, e => by simp at e
  | _, _, .cons q r, 0, x, e => by
    rw [List.getElem?_cons_zero] at e
    cases e
    exact ⟨_, rfl, q⟩
  | _, _, .cons q r, i + 1, x, e => by
    obtain ⟨v, e1, e2⟩ := DRs.get r (i := i) (x := x) (by simpa using e)
    exact ⟨v, by simpa using e1, e2⟩
theorem DRs.getV : ∀ {xs : List D} {vs : List V}, DRs K G xs vs → ∀ {i : Nat} {v : V}, vs[i]? = some v → ∃ x, xs[i]? = some x ∧ DR K G x v
  | _, _, .nil, i, x, e => by simp at e
  | _, _, .cons q r, 0, x, e => by
    rw [List.getElem?_cons_zero] at e
    cases e
    exact ⟨_, rfl, q⟩
  | _, _, .cons q r, i + 1, x, e => by
    obtain ⟨v, e1, e2⟩ := DRs.getV r (i := i) (v := x) (by simpa using e)
    exact ⟨v, by simpa using e1, e2⟩
theorem DRs.append : ∀ {xs : List D} {vs : List V}, DRs K G xs vs → ∀ {ys : List D} {ws : List V}, DRs K G ys ws → DRs K G (xs ++ ys) (vs ++ ws)
  | _, _, .nil, _, _, s => s
  | _, _, .cons q r, _, _, s => .cons q (DRs.append r s)
theorem DRs.take : ∀ {xs : List D} {vs : List V}, DRs K G xs vs → ∀ n : Nat, DRs K G (xs.take n) (vs.take n)
  | _, _, _, 0 => by simp; exact .nil
  | _, _, .nil, n + 1 => by simp; exact .nil
  | _, _, .cons q r, n + 1 => .cons q (DRs.take r n)
theorem DRs.drop : ∀ {xs : List D} {vs : List V}, DRs K G xs vs → ∀ n : Nat, DRs K G (xs.drop n) (vs.drop n)
  | _, _, r, 0 => r
  | _, _, .nil, n + 1 => .nil
  | _, _, .cons _ r, n + 1 => DRs.drop r n
theorem DRs.reverse : ∀ {xs : List D} {vs : List V}, DRs K G xs vs → DRs K G xs.reverse vs.reverse
  | _, _, .nil => .nil
  | _, _, .cons q r => by
    rw [List.reverse_cons, List.reverse_cons]
    exact DRs.append (DRs.reverse r) (.cons q .nil)
theorem DRs.dropLast {xs : List D} {vs : List V} (r : DRs K G xs vs) : DRs K G xs.dropLast vs.dropLast := by
  rw [List.dropLast_eq_take, List.dropLast_eq_take, r.length]
  exact r.take _
theorem DRs.cut {xs : List D} {vs : List V} (r : DRs K G xs vs) (lo hi : Option Int) : DRs K G (cutD xs lo hi) (cutV vs lo hi) := by
  unfold cutD cutV
  rw [r.length]
  exact (r.drop _).take _
theorem DRs.at {xs : List D} {vs : List V} (r : DRs K G xs vs) {i : Int} {x : D} (e : atI xs i = some x) : ∃ v, atI vs i = some v ∧ DR K G x v := by
  unfold atI at e ⊢
  rw [← r.length]
  cases q : ixN xs.length i with
  | none => rw [q] at e; cases e
  | some j =>
    rw [q] at e
    exact r.get e
end

/-! ### dicts of data -/
theorem cs_ne (w : Wd) : w.cs ≠ [] := by cases w <;> simp [Wd.cs]
theorem cs_no32 (w : Wd) : 32 ∉ w.cs := by cases w <;> simp [Wd.cs]
def ofCs (l : List Nat) : Option Wd := allW.find? fun w => w.cs == l
theorem ofCs_cs (w : Wd) : ofCs w.cs = some w := by cases w <;> decide +kernel
theorem cs_inj {w u : Wd} (e : w.cs = u.cs) : w = u := by
  have h := ofCs_cs w
  rw [e, ofCs_cs] at h
  exact (Option.some.inj h).symm
/-- the signs ahead of the first blank, and what is behind it -/
theorem cut32 : ∀ {l m r s : List Nat}, 32 ∉ l → 32 ∉ m → l ++ 32 :: r = m ++ 32 :: s → l = m ∧ r = s
  | [], [], _, _, _, _, e => ⟨rfl, by simpa using e⟩
  | [], y :: m, _, _, _, hm, e => by
    have e1 : (32 : Nat) = y := by simpa using (List.cons.inj e).1
    exact absurd (by rw [e1]; exact List.mem_cons_self) hm
  | x :: l, [], _, _, hl, _, e => by
    have e1 : x = (32 : Nat) := by simpa using (List.cons.inj e).1
    exact absurd (by rw [e1]; exact List.mem_cons_self) hl
  | x :: l, y :: m, _, _, hl, hm, e => by
    have e1 := List.cons.inj e
    obtain ⟨e2, e3⟩ := cut32 (fun z => hl (List.mem_cons_of_mem _ z)) (fun z => hm (List.mem_cons_of_mem _ z)) e1.2
    exact ⟨by rw [e1.1, e2], e3⟩
theorem cut32' {l m r : List Nat} (hm : 32 ∉ m) (e : l ++ 32 :: r = m) : False := hm (by rw [← e]; simp)
theorem Scs_inj : ∀ {x y : List Wd}, S.cs x = S.cs y → x = y
  | [], [], _ => rfl
  | [], [w], e => absurd e.symm (cs_ne w)
  | [], w :: u :: r, e => by
    have e : [] = w.cs ++ 32 :: S.cs (u :: r) := e
    simp at e
  | [w], [], e => absurd e (cs_ne w)
  | w :: u :: r, [], e => by
    have e : w.cs ++ 32 :: S.cs (u :: r) = [] := e
    simp at e
  | [w], [u], e => by rw [cs_inj e]
  | [w], u :: u' :: r, e => (cut32' (cs_no32 w) (show u.cs ++ 32 :: S.cs (u' :: r) = w.cs from e.symm)).elim
  | w :: w' :: r, [u], e => (cut32' (cs_no32 u) (show w.cs ++ 32 :: S.cs (w' :: r) = u.cs from e)).elim
  | w :: w' :: r, u :: u' :: s, e => by
    have e : w.cs ++ 32 :: S.cs (w' :: r) = u.cs ++ 32 :: S.cs (u' :: s) := e
    obtain ⟨e1, e2⟩ := cut32 (cs_no32 w) (cs_no32 u) e
    rw [cs_inj e1, Scs_inj e2]
theorem Sstr_inj {x y : List Wd} (e : S.str x = S.str y) : x = y := by
  have e1 : (S.cs x).toArray = (S.cs y).toArray := congrArg Str.cps e
  exact Scs_inj (by simpa using e1)
theorem key_inj {k j : Ky} (e : k.key = j.key) : k = j := by
  cases k with
  | i k => cases j with
    | i j => have e1 : k = j := Sum.inl.inj e; rw [e1]
    | s y => cases e
  | s x => cases j with
    | i j => cases e
    | s y => rw [Sstr_inj (Sum.inr.inj e)]
theorem key_dec (k j : Ky) : decide (k.key = j.key) = decide (k = j) := by
  by_cases h : k = j
  · subst h; simp
  · rw [decide_eq_false h, decide_eq_false fun e => h (key_inj e)]
section
variable {K : PySem.W.Frag} {G : Hp}
theorem DRk.length : ∀ {xs : List (Ky × D)} {vs : List (Key × V)}, DRk K G xs vs → xs.length = vs.length
  | _, _, .nil => rfl
  | _, _, .cons _ r => by rw [List.length_cons, List.length_cons, DRk.length r]
/-- a look-up -/
theorem DRk.look : ∀ {xs : List (Ky × D)} {vs : List (Key × V)}, DRk K G xs vs → ∀ (k : Ky), (match lkD xs k with | some x => ∃ v, valV vs k.key = some v ∧ DR K G x v | none => valV vs k.key = none)
  | _, _, .nil, k => rfl
  | _, _, .cons (k := j) (x := x) (v := v) (xs := xs) (vs := vs) q r, k => by
    have ih := DRk.look r k
    unfold lkD at ih ⊢
    rw [List.find?_cons]
    by_cases h : j = k
    · subst h
      simp only [decide_true, Option.map_some]
      exact ⟨v, valV_pos rfl, q⟩
    · have h' : ¬ (j.key = k.key) := fun e => h (key_inj e)
      simp only [decide_eq_false h]
      rw [valV_neg (p := (j.key, v)) h']
      exact ih
theorem DRk.some {xs : List (Ky × D)} {vs : List (Key × V)} (r : DRk K G xs vs) {k : Ky} {x : D} (e : lkD xs k = some x) : ∃ v, valV vs k.key = some v ∧ DR K G x v := by
  have h := r.look k
  rw [e] at h
  exact h
theorem DRk.none {xs : List (Ky × D)} {vs : List (Key × V)} (r : DRk K G xs vs) {k : Ky} (e : lkD xs k = none) : valV vs k.key = none := by
  have h := r.look k
  rw [e] at h
  exact h
theorem DRk.isSome {xs : List (Ky × D)} {vs : List (Key × V)} (r : DRk K G xs vs) (k : Ky) : (valV vs k.key).isSome = (lkD xs k).isSome := by
  cases e : lkD xs k with
  | none => rw [r.none e]; rfl
  | some x =>
    obtain ⟨v, h, _⟩ := r.some e
    rw [h]; rfl
theorem DRk.any : ∀ {xs : List (Ky × D)} {vs : List (Key × V)}, DRk K G xs vs → ∀ (k : Ky), (vs.any fun kv => decide (kv.1 = k.key)) = xs.any fun kv => decide (kv.1 = k)
  | _, _, .nil, _ => rfl
  | _, _, .cons (k := j) q r, k => by
    rw [List.any_cons, List.any_cons, DRk.any r k, key_dec]
theorem DRk.append : ∀ {xs : List (Ky × D)} {vs : List (Key × V)}, DRk K G xs vs → ∀ {ys : List (Ky × D)} {ws : List (Key × V)}, DRk K G ys ws → DRk K G (xs ++ ys) (vs ++ ws)
  | _, _, .nil, _, _, s => s
  | _, _, .cons q r, _, _, s => .cons q (DRk.append r s)
theorem DRk.repl : ∀ {xs : List (Ky × D)} {vs : List (Key × V)}, DRk K G xs vs → ∀ (k : Ky) {x : D} {v : V}, DR K G x v →
    DRk K G (xs.map fun kv => if kv.1 = k then (kv.1, x) else kv) (vs.map fun kv => if kv.1 = k.key then (kv.1, v) else kv)
  | _, _, .nil, _, _, _, _ => .nil
  | _, _, .cons (k := j) (x := y) (v := u) q r, k, x, v, qx => by
    rw [List.map_cons, List.map_cons]
    by_cases h : j = k
    · subst h
      simp only [if_true]
      exact .cons qx (DRk.repl r j qx)
    · have h' : ¬ (j.key = k.key) := fun e => h (key_inj e)
      simp only [h, h', if_false]
      exact .cons q (DRk.repl r k qx)
theorem DRk.put {xs : List (Ky × D)} {vs : List (Key × V)} (r : DRk K G xs vs) (k : Ky) {x : D} {v : V} (q : DR K G x v) : DRk K G (putD xs k x) (putK vs k.key v) := by
  unfold putD putK
  rw [r.any k]
  split
  · exact r.repl k q
  · exact r.append (.cons q .nil)
theorem DRk.keys : ∀ {xs : List (Ky × D)} {vs : List (Key × V)}, DRk K G xs vs → DRs K G (xs.map fun kv => kv.1.d) (vs.map fun kv => kV kv.1)
  | _, _, .nil => .nil
  | _, _, .cons (k := k) q r => by
    rw [List.map_cons, List.map_cons]
    refine .cons ?_ (DRk.keys r)
    cases k with
    | i k => exact .int k
    | s x => exact .str x
end
theorem kyOf_rel {K : PySem.W.Frag} {G : Hp} {x : D} {v : V} {k : Ky} (e : kyOf x = some k) (q : DR K G x v) : v = kV k.key := by
  cases q with
  | int i => cases e; rfl
  | str x => cases e; rfl
  | _ => cases e

/-! ### worlds -/
/-- where the cells stand, how many there are, and what of the heap nobody changes -/
structure Wo where
  at_ : Nat → Addr
  n : Nat
  G : Hp
  /-- the dicts that are being walked, as they stand -/
  lk : Addr → Option HO
structure Wo.Le (o o' : Wo) : Prop where
  n : o.n ≤ o'.n
  at_ : ∀ i, i < o.n → o'.at_ i = o.at_ i
  inc : Inc o.G o'.G
  lk : o'.lk = o.lk
theorem Wo.Le.refl (o : Wo) : o.Le o := ⟨Nat.le_refl _, fun _ _ => rfl, Inc.refl _, rfl⟩
theorem Wo.Le.trans {o o' o'' : Wo} (h : o.Le o') (h' : o'.Le o'') : o.Le o'' :=
  ⟨Nat.le_trans h.n h'.n, fun i hi => (h'.at_ i (Nat.lt_of_lt_of_le hi h.n)).trans (h.at_ i hi), h.inc.trans h'.inc, h'.lk.trans h.lk⟩
/-- .. other things may be held -/
structure Wo.Lt (o o' : Wo) : Prop where
  n : o.n ≤ o'.n
  at_ : ∀ i, i < o.n → o'.at_ i = o.at_ i
  inc : Inc o.G o'.G
  lk : ∀ b ob u, o.lk b = some (.frz ob u) → o'.lk b = some (.frz ob u)
theorem Wo.Le.lt {o o' : Wo} (h : o.Le o') : o.Lt o' := ⟨h.n, h.at_, h.inc, fun b ob u e => by rw [h.lk]; exact e⟩
theorem Wo.Lt.refl (o : Wo) : o.Lt o := (Wo.Le.refl o).lt
theorem Wo.Lt.trans {o o' o'' : Wo} (h : o.Lt o') (h' : o'.Lt o'') : o.Lt o'' :=
  ⟨Nat.le_trans h.n h'.n, fun i hi => (h'.at_ i (Nat.lt_of_lt_of_le hi h.n)).trans (h.at_ i hi), h.inc.trans h'.inc, fun b ob u e => h'.lk b ob u (h.lk b ob u e)⟩
def WR (K : PySem.W.Frag) (o : Wo) : W → V → Prop
  | .d x, v => DR K o.G x v
  | .r i, v => i < o.n ∧ v = .ref (o.at_ i)
theorem WR.mono {K : PySem.W.Frag} {o o' : Wo} (h : o.Le o') {w : W} {v : V} (q : WR K o w v) : WR K o' w v := by
  cases w with
  | d x => exact DR.mono h.inc x v q
  | r i => exact ⟨Nat.lt_of_lt_of_le q.1 h.n, by rw [h.at_ i q.1]; exact q.2⟩
abbrev WRs (K : PySem.W.Frag) (o : Wo) : List W → List V → Prop := Paired (WR K o)
theorem WRs.mono {K : PySem.W.Frag} {o o' : Wo} (h : o.Le o') : ∀ {ws : List W} {vs : List V}, WRs K o ws vs → WRs K o' ws vs
  | _, _, .nil => .nil
  | _, _, .cons q r => .cons (q.mono h) (WRs.mono h r)
theorem WRs.length {K : PySem.W.Frag} {o : Wo} {ws : List W} {vs : List V} (r : WRs K o ws vs) : ws.length = vs.length := Paired.length r
theorem WRs.get {K : PySem.W.Frag} {o : Wo} : ∀ {ws : List W} {vs : List V}, WRs K o ws vs → ∀ {i : Nat} {w : W}, ws[i]? = some w → ∃ v, vs[i]? = some v ∧ WR K o w v
  | _, _, .nil, i, x, e => by simp at e
  | _, _, .cons q r, 0, x, e => by
    rw [List.getElem?_cons_zero] at e
    cases e
    exact ⟨_, rfl, q⟩
  | _, _, .cons q r, i + 1, x, e => by
    obtain ⟨v, e1, e2⟩ := WRs.get r (i := i) (w := x) (by simpa using e)
    exact ⟨v, by simpa using e1, e2⟩
theorem WRs.append {K : PySem.W.Frag} {o : Wo} : ∀ {ws : List W} {vs : List V}, WRs K o ws vs → ∀ {us : List W} {xs : List V}, WRs K o us xs → WRs K o (ws ++ us) (vs ++ xs)
  | _, _, .nil, _, _, s => s
  | _, _, .cons q r, _, _, s => .cons q (WRs.append r s)
theorem WRs.set {K : PySem.W.Frag} {o : Wo} {w : W} {v : V} (q : WR K o w v) : ∀ {ws : List W} {vs : List V} (j : Nat), WRs K o ws vs → WRs K o (ws.set j w) (vs.set j v)
  | _, _, _, .nil => .nil
  | _, _, 0, .cons _ r => .cons q r
  | _, _, j + 1, .cons q' r => .cons q' (WRs.set q j r)
theorem WRs.take {K : PySem.W.Frag} {o : Wo} : ∀ {ws : List W} {vs : List V} (n : Nat), WRs K o ws vs → WRs K o (ws.take n) (vs.take n)
  | _, _, 0, _ => by simp; exact .nil
  | _, _, n + 1, .nil => by simp; exact .nil
  | _, _, n + 1, .cons q r => .cons q (WRs.take n r)
theorem WRs.ofD {K : PySem.W.Frag} {o : Wo} : ∀ {xs : List D} {vs : List V}, DRs K o.G xs vs → WRs K o (xs.map .d) vs
  | _, _, .nil => .nil
  | _, _, .cons q r => .cons q (WRs.ofD r)
theorem WRs.allD {K : PySem.W.Frag} {o : Wo} : ∀ {ws : List W} {vs : List V} {xs : List D}, WRs K o ws vs → allD ws = some xs → DRs K o.G xs vs
  | [], _, xs, q, e => by cases q; cases e; exact .nil
  | .d x :: ws, _, xs, q, e => by
    cases q with
    | cons q r =>
      have e : (Mi.allD ws).map (x :: ·) = some xs := e
      cases h : Mi.allD ws with
      | none => rw [h] at e; cases e
      | some ys =>
        rw [h] at e; cases e
        exact .cons q (WRs.allD r h)
  | .r n :: ws, _, xs, q, e => by cases e
/-- what stands at a cell -/
def CR_ (K : PySem.W.Frag) (o : Wo) (H : Hp) (c : Cell) (a : Addr) : Prop :=
  match c with
  | .lst xs => ∃ vs, H a = some (.lst vs) ∧ DRs K o.G xs vs
  | .obj ws => ∃ vs, H a = some (.lst vs) ∧ WRs K o ws vs
  | .dct kvs => ∃ vs, H a = some (.dK vs) ∧ DRk K o.G kvs vs
  | .dctL kvs => ∃ vs ob, H a = some (.frz ob (.dK vs)) ∧ DRk K o.G kvs vs
theorem CR_.mono {K : PySem.W.Frag} {o o' : Wo} {H H' : Hp} {c : Cell} {a b : Addr} (h : o.Le o') (e : H' b = H a) (q : CR_ K o H c a) : CR_ K o' H' c b := by
  cases c with
  | lst xs => obtain ⟨vs, e1, r⟩ := q; exact ⟨vs, e.trans e1, DRs.mono h.inc _ _ r⟩
  | obj xs => obtain ⟨vs, e1, r⟩ := q; exact ⟨vs, e.trans e1, WRs.mono h r⟩
  | dct xs => obtain ⟨vs, e1, r⟩ := q; exact ⟨vs, e.trans e1, DRk.mono h.inc _ _ r⟩
  | dctL xs => obtain ⟨vs, ob, e1, r⟩ := q; exact ⟨vs, ob, e.trans e1, DRk.mono h.inc _ _ r⟩
theorem CR_.ne {K : PySem.W.Frag} {o : Wo} {H : Hp} {c : Cell} {a : Addr} (q : CR_ K o H c a) : H a ≠ none := by
  cases c with
  | lst xs => obtain ⟨vs, e1, r⟩ := q; rw [e1]; simp
  | obj xs => obtain ⟨vs, e1, r⟩ := q; rw [e1]; simp
  | dct xs => obtain ⟨vs, e1, r⟩ := q; rw [e1]; simp
  | dctL xs => obtain ⟨vs, ob, e1, r⟩ := q; rw [e1]; simp
/-- what nobody changes stands in the heap; a dict may be locked -/
def Sub (G H : Hp) : Prop := ∀ a o, G a = some o → H a = some o ∨ ∃ vs ob, o = .dK vs ∧ H a = some (.frz ob o)
structure Sim (K : PySem.W.Frag) (o : Wo) (mem : Mem) (H : Hp) : Prop where
  len : mem.length = o.n
  cell : ∀ (i : Nat) (c : Cell), mem[i]? = some c → CR_ K o H c (o.at_ i)
  inj : ∀ i j, i < o.n → j < o.n → o.at_ i = o.at_ j → i = j
  apart : ∀ i, i < o.n → o.G (o.at_ i) = none
  sub : Sub o.G H
  lock : ∀ a x, o.lk a = some x → H a = some x ∧ ((∃ ob u, x = .frz ob u) ∨ (o.G a = none ∧ ∀ i, i < o.n → o.at_ i ≠ a))
  free : ∀ a vs, o.G a = some (.dK vs) → o.lk a = none → H a = some (.dK vs)
section
variable {K : PySem.W.Frag} {o : Wo} {mem : Mem} {H : Hp}
theorem Sub.seqL {G H : Hp} (s : Sub G H) {a : Addr} {vs : List V} (q : SqL K G a vs) : SqL K H a vs := by
  rcases q with (q | ⟨ob, q⟩) | q
  · rcases s _ _ q with h | ⟨_, _, h, _⟩
    · exact .inl (.inl h)
    · cases h
  · rcases s _ _ q with h | ⟨_, _, h, _⟩
    · exact .inl (.inr ⟨ob, h⟩)
    · cases h
  · exact .inr q
theorem Sub.seqT {G H : Hp} (s : Sub G H) {a : Addr} {vs : List V} (q : SqT K G a vs) : SqT K H a vs := by
  rcases q with (q | ⟨ob, q⟩) | q
  · rcases s _ _ q with h | ⟨_, _, h, _⟩
    · exact .inl (.inl h)
    · cases h
  · rcases s _ _ q with h | ⟨_, _, h, _⟩
    · exact .inl (.inr ⟨ob, h⟩)
    · cases h
  · exact .inr q
theorem Sub.dK {G H : Hp} (s : Sub G H) {a : Addr} {vs : List (Key × V)} (q : G a = some (.dK vs)) : Rd H a (.dK vs) := by
  rcases s _ _ q with h | ⟨_, ob, _, h⟩
  · exact .inl h
  · exact .inr ⟨ob, h⟩
theorem Sub.free {G H : Hp} (s : Sub G H) {a : Addr} (q : H a = none) : G a = none := by
  cases e : G a with
  | none => rfl
  | some u =>
    rcases s _ _ e with h | ⟨_, _, _, h⟩
    · rw [q] at h; cases h
    · rw [q] at h; cases h
theorem Sim.lt (s : Sim K o mem H) {i : Nat} {c : Cell} (e : mem[i]? = some c) : i < o.n := by
  rw [← s.len]
  exact (List.getElem?_eq_some_iff.mp e).1
theorem Sim.ne (s : Sim K o mem H) {i : Nat} (h : i < o.n) : H (o.at_ i) ≠ none := by
  have h' : i < mem.length := by rw [s.len]; exact h
  exact (s.cell i _ (List.getElem?_eq_getElem h')).ne
/-- a new thing that nobody changes -/
def Wo.keep (o : Wo) (a : Addr) (ob : HO) : Wo := ⟨o.at_, o.n, upd o.G a ob, o.lk⟩
theorem Wo.keep_le {a : Addr} {ob : HO} (h : o.G a = none) : o.Le (o.keep a ob) :=
  ⟨Nat.le_refl _, fun _ _ => rfl, fun b u e => by show upd o.G a ob b = some u; rw [upd_ne (ne_of_none e h)]; exact e, rfl⟩
theorem Sim.lkFresh (s : Sim K o mem H) {a : Addr} (h : H a = none) : ∀ b x, o.lk b = some x → b ≠ a := fun b x e z => by
  have q := (s.lock b x e).1
  rw [z, h] at q
  cases q
theorem Sim.lkCell (s : Sim K o mem H) {i : Nat} (hi : i < o.n) (h : ∀ od u, H (o.at_ i) ≠ some (.frz od u)) : ∀ b x, o.lk b = some x → b ≠ o.at_ i := fun b x e z => by
  obtain ⟨e1, e2⟩ := s.lock b x e
  rcases e2 with ⟨od, u, e2⟩ | ⟨_, e2⟩
  · exact h od u (by rw [← z, e1, e2])
  · exact e2 i hi z.symm
theorem Sim.lockUpd (s : Sim K o mem H) {a : Addr} {ob : HO} (h : ∀ b x, o.lk b = some x → b ≠ a) : ∀ b x, o.lk b = some x → upd H a ob b = some x ∧ ((∃ ob u, x = .frz ob u) ∨ (o.G b = none ∧ ∀ i, i < o.n → o.at_ i ≠ b)) := fun b x e => by
  obtain ⟨e1, e2⟩ := s.lock b x e
  refine ⟨?_, e2⟩
  rw [upd_ne (h b x e)]
  exact e1
theorem Sim.keep (s : Sim K o mem H) {a : Addr} {ob : HO} (h : H a = none) : Sim K (o.keep a ob) mem (upd H a ob) := by
  have hg := s.sub.free h
  have le := Wo.keep_le (o := o) (ob := ob) hg
  have ne : ∀ i, i < o.n → o.at_ i ≠ a := fun i hi e => s.ne hi (by rw [e]; exact h)
  refine ⟨s.len, fun i c e => (s.cell i c e).mono le (upd_ne (ne i (s.lt e))), s.inj, fun i hi => ?_, fun b u e => ?_, fun b x e => ?_, fun b vs e hl => ?_⟩
  · show upd o.G a ob (o.at_ i) = none
    rw [upd_ne (ne i hi)]
    exact s.apart i hi
  · have e : upd o.G a ob b = some u := e
    by_cases hb : b = a
    · subst hb
      rw [upd_same] at e ⊢
      exact .inl e
    · rw [upd_ne hb] at e ⊢
      exact s.sub b u e
  · obtain ⟨e1, e2⟩ := s.lockUpd (ob := ob) (s.lkFresh h) b x e
    refine ⟨e1, e2.imp id fun q => ⟨?_, q.2⟩⟩
    show upd o.G a ob b = none
    rw [upd_ne (s.lkFresh h b x e)]
    exact q.1
  · have e : upd o.G a ob b = some (.dK vs) := e
    by_cases hb : b = a
    · subst hb
      rw [upd_same] at e ⊢
      exact e
    · rw [upd_ne hb] at e ⊢
      exact s.free b vs e hl
/-- a new cell -/
def Wo.more (o : Wo) (a : Addr) : Wo := ⟨fun i => if i = o.n then a else o.at_ i, o.n + 1, o.G, o.lk⟩
theorem Wo.more_le {a : Addr} : o.Le (o.more a) :=
  ⟨Nat.le_succ _, fun i hi => by show (if i = o.n then a else o.at_ i) = _; rw [if_neg (Nat.ne_of_lt hi)], Inc.refl _, rfl⟩
theorem Wo.more_at {a : Addr} : (o.more a).at_ o.n = a := by show (if o.n = o.n then a else _) = a; rw [if_pos rfl]
theorem Sim.more (s : Sim K o mem H) {a : Addr} {ob : HO} {c : Cell} (h : H a = none) (q : CR_ K o (upd H a ob) c a) : Sim K (o.more a) (mem ++ [c]) (upd H a ob) := by
  have ne : ∀ i, i < o.n → o.at_ i ≠ a := fun i hi e => s.ne hi (by rw [e]; exact h)
  have old : ∀ i, i < o.n → (o.more a).at_ i = o.at_ i := fun i hi => Wo.more_le.at_ i hi
  refine ⟨by rw [List.length_append, s.len]; rfl, fun i c' e => ?_, fun i j hi hj e => ?_, fun i hi => ?_, fun b u e => ?_, fun b x e => ?_, fun b vs e hl => ?_⟩
  · by_cases hi : i < o.n
    · have hl : i < mem.length := by rw [s.len]; exact hi
      rw [List.getElem?_append_left hl] at e
      refine (s.cell i c' e).mono Wo.more_le ?_
      rw [old i hi, upd_ne (ne i hi)]
    · have hl : mem.length ≤ i := by rw [s.len]; exact Nat.le_of_not_lt hi
      rw [List.getElem?_append_right hl] at e
      have hi' : i = o.n := by
        have h2 := (List.getElem?_eq_some_iff.mp e).1
        simp at h2
        rw [s.len] at h2
        omega
      subst hi'
      have e' : c = c' := by
        rw [s.len, Nat.sub_self] at e
        simpa using e
      subst e'
      rw [Wo.more_at]
      exact q.mono Wo.more_le rfl
  · have hi : i < o.n + 1 := hi
    have hj : j < o.n + 1 := hj
    by_cases h1 : i = o.n
    · subst h1
      by_cases h2 : j = o.n
      · exact h2.symm
      · rw [Wo.more_at, old j (by omega)] at e
        exact absurd e.symm (ne j (by omega))
    · by_cases h2 : j = o.n
      · subst h2
        rw [Wo.more_at, old i (by omega)] at e
        exact absurd e (ne i (by omega))
      · rw [old i (by omega), old j (by omega)] at e
        exact s.inj i j (by omega) (by omega) e
  · have hi : i < o.n + 1 := hi
    show o.G ((o.more a).at_ i) = none
    by_cases h1 : i = o.n
    · subst h1
      rw [Wo.more_at]
      exact s.sub.free h
    · rw [old i (by omega)]
      exact s.apart i (by omega)
  · have e : o.G b = some u := e
    have hb : b ≠ a := fun z => by rw [z, s.sub.free h] at e; cases e
    rw [upd_ne hb]
    exact s.sub b u e
  · obtain ⟨e1, e2⟩ := s.lockUpd (ob := ob) (s.lkFresh h) b x e
    refine ⟨e1, e2.imp id fun q => ⟨q.1, fun i hi => ?_⟩⟩
    have hi : i < o.n + 1 := hi
    by_cases h1 : i = o.n
    · subst h1
      rw [Wo.more_at]
      exact (s.lkFresh h b x e).symm
    · rw [old i (by omega)]
      exact q.2 i (by omega)
  · have e : o.G b = some (.dK vs) := e
    rw [upd_ne fun z => by rw [z, s.sub.free h] at e; cases e]
    exact s.free b vs e hl
/-- a cell is changed -/
theorem Sim.write (s : Sim K o mem H) {i : Nat} {ob : HO} {c : Cell} (hi : i < o.n) (hf : ∀ od u, H (o.at_ i) ≠ some (.frz od u)) (q : CR_ K o (upd H (o.at_ i) ob) c (o.at_ i)) : Sim K o (mem.set i c) (upd H (o.at_ i) ob) := by
  refine ⟨by rw [List.length_set]; exact s.len, fun j c' e => ?_, s.inj, s.apart, fun b u e => ?_, s.lockUpd (s.lkCell hi hf), fun b vs e hl => ?_⟩
  · by_cases h : i = j
    · subst h
      have hl : i < mem.length := by rw [s.len]; exact hi
      rw [List.getElem?_set_self hl] at e
      cases e
      exact q
    · rw [List.getElem?_set_ne h] at e
      have hj := s.lt e
      exact (s.cell j c' e).mono (Wo.Le.refl _) (upd_ne fun z => h (s.inj i j hi hj z.symm))
  · have hb : b ≠ o.at_ i := fun z => by rw [z, s.apart i hi] at e; cases e
    rw [upd_ne hb]
    exact s.sub b u e
  · rw [upd_ne fun z => by rw [z, s.apart i hi] at e; cases e]
    exact s.free b vs e hl
/-- a thing is laid that the language does not know of (an iterator's pair, a display that is taken apart at once) -/
theorem Sim.other (s : Sim K o mem H) {a : Addr} {ob : HO} (h : H a = none) : Sim K o mem (upd H a ob) := by
  refine ⟨s.len, fun i c e => (s.cell i c e).mono (Wo.Le.refl _) (upd_ne fun z => s.ne (s.lt e) (by rw [z]; exact h)), s.inj, s.apart, fun b u e => ?_, s.lockUpd (s.lkFresh h), fun b vs e hl => ?_⟩
  · have hb : b ≠ a := fun z => by rw [z, s.sub.free h] at e; cases e
    rw [upd_ne hb]
    exact s.sub b u e
  · rw [upd_ne fun z => by rw [z, s.sub.free h] at e; cases e]
    exact s.free b vs e hl
/-- a dict is locked -/
def Wo.shut (o : Wo) (a : Addr) (x : HO) : Wo := { o with lk := fun b => if b = a then some x else o.lk b }
theorem Wo.shut_same {a : Addr} {x : HO} : (o.shut a x).lk a = some x := by show (if a = a then some x else _) = _; rw [if_pos rfl]
theorem Wo.shut_ne {a b : Addr} {x : HO} (h : b ≠ a) : (o.shut a x).lk b = o.lk b := by show (if b = a then some x else _) = _; rw [if_neg h]
/-- .. a cell's -/
theorem Sim.shutC (s : Sim K o mem H) {i : Nat} {kvs : List (Ky × D)} {vs : List (Key × V)} (od : Obj) (e : mem[i]? = some (.dct kvs)) (h : H (o.at_ i) = some (.dK vs)) (r : DRk K o.G kvs vs) :
    Sim K (o.shut (o.at_ i) (.frz od (.dK vs))) (mem.set i (.dctL kvs)) (upd H (o.at_ i) (.frz od (.dK vs))) := by
  have hf : ∀ od u, H (o.at_ i) ≠ some (.frz od u) := fun od u z => by rw [h] at z; cases z
  have s1 := s.write (ob := .frz od (.dK vs)) (c := .dctL kvs) (s.lt e) hf ⟨vs, od, upd_same, r⟩
  refine ⟨s1.len, s1.cell, s1.inj, s1.apart, s1.sub, fun b x hb => ?_, fun b us e2 hl => ?_⟩
  · by_cases z : b = o.at_ i
    · subst z
      rw [Wo.shut_same] at hb
      cases hb
      exact ⟨upd_same, .inl ⟨_, _, rfl⟩⟩
    · rw [Wo.shut_ne z] at hb
      exact s1.lock b x hb
  · have e3 : o.G b = some (.dK us) := e2
    have z : b ≠ o.at_ i := fun z => by rw [z, s.apart i (s.lt e)] at e3; cases e3
    rw [Wo.shut_ne z] at hl
    exact s1.free b us e2 hl
/-- .. of what nobody changes -/
theorem Sim.shutD (s : Sim K o mem H) {a : Addr} {vs : List (Key × V)} (od : Obj) (e : o.G a = some (.dK vs)) (h : H a = some (.dK vs)) :
    Sim K (o.shut a (.frz od (.dK vs))) mem (upd H a (.frz od (.dK vs))) := by
  have hf : ∀ od u, H a ≠ some (.frz od u) := fun od u z => by rw [h] at z; cases z
  have ne : ∀ i, i < o.n → o.at_ i ≠ a := fun i hi z => by rw [← z, s.apart i hi] at e; cases e
  refine ⟨s.len, fun i c ec => (s.cell i c ec).mono (Wo.Le.refl _) (upd_ne (ne i (s.lt ec))), s.inj, s.apart, fun b u hb => ?_, fun b x hb => ?_, fun b us e2 hl => ?_⟩
  · have hb1 : o.G b = some u := hb
    by_cases z : b = a
    · rw [z] at hb1 ⊢
      rw [e] at hb1
      cases hb1
      exact .inr ⟨vs, od, rfl, upd_same⟩
    · rw [upd_ne z]
      exact s.sub b u hb1
  · by_cases z : b = a
    · subst z
      rw [Wo.shut_same] at hb
      cases hb
      exact ⟨upd_same, .inl ⟨_, _, rfl⟩⟩
    · rw [Wo.shut_ne z] at hb
      rw [upd_ne z]
      exact s.lock b x hb
  · by_cases z : b = a
    · subst z
      rw [Wo.shut_same] at hl
      cases hl
    · rw [Wo.shut_ne z] at hl
      rw [upd_ne z]
      exact s.free b us e2 hl
/-- .. and opened again: o1 lies behind (o.shut a _) -/
def Wo.open_ (o1 o : Wo) : Wo := { o1 with lk := o.lk }
theorem Wo.open_le {a : Addr} {x : HO} {o1 : Wo} (h : (o.shut a x).Le o1) : o.Le (o1.open_ o) := ⟨h.n, h.at_, h.inc, rfl⟩
theorem Wo.shut_pre {a : Addr} {x : HO} {w : W} {v : V} (h : WR K o w v) : WR K (o.shut a x) w v := by cases w <;> exact h
theorem Wo.open_pre {o1 : Wo} {w : W} {v : V} (h : WR K o1 w v) : WR K (o1.open_ o) w v := by cases w <;> exact h
theorem CR_.open_ {o1 : Wo} {c : Cell} {a : Addr} (q : CR_ K o1 H c a) : CR_ K (o1.open_ o) H c a := by
  cases c with
  | lst xs => exact q
  | obj ws =>
    obtain ⟨vs, e1, r⟩ := q
    refine ⟨vs, e1, ?_⟩
    clear e1
    induction r with
    | nil => exact .nil
    | cons h _ ih => exact .cons (Wo.open_pre h) ih
  | dct kvs => exact q
  | dctL kvs => exact q
theorem CR_.shut_ {c : Cell} {a b : Addr} {x : HO} (q : CR_ K o H c a) : CR_ K (o.shut b x) H c a := by
  cases c with
  | lst xs => exact q
  | obj ws =>
    obtain ⟨vs, e1, r⟩ := q
    refine ⟨vs, e1, ?_⟩
    clear e1
    induction r with
    | nil => exact .nil
    | cons h _ ih => exact .cons (Wo.shut_pre h) ih
  | dct kvs => exact q
  | dctL kvs => exact q
end
section
variable {K : PySem.W.Frag} {o o1 : Wo} {mem mem1 : Mem} {H H1 : Hp}
/-- .. a cell's dict opened -/
theorem Sim.openC (s0 : Sim K o mem H) (s : Sim K o1 mem1 H1) {i : Nat} {kvs : List (Ky × D)} {vs : List (Key × V)} {od : Obj} (hi : mem[i]? = some (.dct kvs)) (h0 : H (o.at_ i) = some (.dK vs)) (r : DRk K o.G kvs vs)
    (le : (o.shut (o.at_ i) (.frz od (.dK vs))).Le o1) : Sim K (o1.open_ o) (mem1.set i (.dct kvs)) (upd H1 (o.at_ i) (.dK vs)) ∧ H1 (o.at_ i) = some (.frz od (.dK vs)) := by
  have lk : o1.lk (o.at_ i) = some (.frz od (.dK vs)) := by rw [le.lk, Wo.shut_same]
  have hf := (s.lock _ _ lk).1
  have hin : i < o1.n := Nat.lt_of_lt_of_le (s0.lt hi) le.n
  have ea : o1.at_ i = o.at_ i := le.at_ i (s0.lt hi)
  refine ⟨⟨by rw [List.length_set]; exact s.len, fun j c e => ?_, s.inj, s.apart, fun b u e => ?_, fun b x e => ?_, fun b us e hl => ?_⟩, hf⟩
  · by_cases h : i = j
    · subst h
      have hl : i < mem1.length := by rw [s.len]; exact hin
      rw [List.getElem?_set_self hl] at e
      cases e
      refine ⟨vs, ?_, DRk.mono le.inc _ _ r⟩
      show upd H1 (o.at_ i) _ (o1.at_ i) = _
      rw [ea, upd_same]
    · rw [List.getElem?_set_ne h] at e
      have hj := s.lt e
      have q := (s.cell j c e).open_ (o := o)
      exact q.mono (Wo.Le.refl _) (upd_ne fun z => h (s.inj i j hin hj (ea.trans z.symm)))
  · have e' : o1.G b = some u := e
    have hb : b ≠ o.at_ i := fun z => by rw [z, ← ea, s.apart i hin] at e'; cases e'
    rw [upd_ne hb]
    exact s.sub b u e'
  · have e' : o.lk b = some x := e
    have hb : b ≠ o.at_ i := s0.lkCell (s0.lt hi) (fun od u z => by rw [h0] at z; cases z) b x e'
    rw [upd_ne hb]
    exact s.lock b x (by rw [le.lk, Wo.shut_ne hb]; exact e')
  · have e' : o1.G b = some (.dK us) := e
    have hl' : o.lk b = none := hl
    have hb : b ≠ o.at_ i := fun z => by rw [z, ← ea, s.apart i hin] at e'; cases e'
    rw [upd_ne hb]
    exact s.free b us e' (by rw [le.lk, Wo.shut_ne hb]; exact hl')
theorem Sim.openD (s0 : Sim K o mem H) (s : Sim K o1 mem1 H1) {a : Addr} {vs : List (Key × V)} {od : Obj} (e0 : o.G a = some (.dK vs)) (h0 : H a = some (.dK vs))
    (le : (o.shut a (.frz od (.dK vs))).Le o1) : Sim K (o1.open_ o) mem1 (upd H1 a (.dK vs)) ∧ H1 a = some (.frz od (.dK vs)) := by
  have lk : o1.lk a = some (.frz od (.dK vs)) := by rw [le.lk, Wo.shut_same]
  have hf := (s.lock _ _ lk).1
  have e1 : o1.G a = some (.dK vs) := le.inc a _ e0
  refine ⟨⟨s.len, fun j c e => ?_, s.inj, s.apart, fun b u e => ?_, fun b x e => ?_, fun b us e hl => ?_⟩, hf⟩
  · have q := (s.cell j c e).open_ (o := o)
    exact q.mono (Wo.Le.refl _) (upd_ne fun z => by
      have z : o1.at_ j = a := z
      rw [← z, s.apart j (s.lt e)] at e1
      cases e1)
  · have e' : o1.G b = some u := e
    by_cases hb : b = a
    · rw [hb, e1] at e'
      cases e'
      rw [hb, upd_same]
      exact .inl rfl
    · rw [upd_ne hb]
      exact s.sub b u e'
  · have e' : o.lk b = some x := e
    have hb : b ≠ a := fun z => by
      obtain ⟨e1, e2⟩ := s0.lock b x e'
      rcases e2 with ⟨_, _, e2⟩ | ⟨e2, _⟩
      · rw [z, h0, e2] at e1
        cases e1
      · rw [z, e0] at e2
        cases e2
    rw [upd_ne hb]
    exact s.lock b x (by rw [le.lk, Wo.shut_ne hb]; exact e')
  · have e' : o1.G b = some (.dK us) := e
    have hl' : o.lk b = none := hl
    by_cases hb : b = a
    · rw [hb, e1] at e'
      cases e'
      rw [hb, upd_same]
    · rw [upd_ne hb]
      exact s.free b us e' (by rw [le.lk, Wo.shut_ne hb]; exact hl')
/-- a thing that is being made is held: what stands there changes only with our knowledge -/
theorem Sim.hold (s : Sim K o mem H) {a : Addr} {x : HO} (h : H a = none) : Sim K (o.shut a x) mem (upd H a x) := by
  have s1 := s.other (ob := x) h
  refine ⟨s1.len, fun i c e => (s1.cell i c e).shut_, s1.inj, s1.apart, s1.sub, fun b y e => ?_, fun b vs e hl => ?_⟩
  · by_cases z : b = a
    · rw [z, Wo.shut_same] at e
      cases e
      rw [z]
      exact ⟨upd_same, .inr ⟨s.sub.free h, fun i hi z => s.ne hi (by
        have z : o.at_ i = a := z
        rw [z]
        exact h)⟩⟩
    · rw [Wo.shut_ne z] at e
      exact s1.lock b y e
  · have e' : o.G b = some (.dK vs) := e
    have z : b ≠ a := fun z => by rw [z, s.sub.free h] at e'; cases e'
    rw [Wo.shut_ne z] at hl
    exact s1.free b vs e hl
theorem Sim.rehold (s : Sim K o1 mem1 H1) {a : Addr} {x y : HO} (e : o1.lk a = some x) (hx : ∀ od u, x ≠ .frz od u) : Sim K (o1.shut a y) mem1 (upd H1 a y) := by
  obtain ⟨h1, h2⟩ := s.lock a x e
  obtain ⟨g0, ap⟩ : o1.G a = none ∧ ∀ i, i < o1.n → o1.at_ i ≠ a := by
    rcases h2 with ⟨od, u, z⟩ | h2
    · exact absurd z (hx od u)
    · exact h2
  refine ⟨s.len, fun i c ec => ((s.cell i c ec).mono (Wo.Le.refl _) (upd_ne (ap i (s.lt ec)))).shut_, s.inj, s.apart, fun b u eb => ?_, fun b z eb => ?_, fun b vs eb hl => ?_⟩
  · have eb' : o1.G b = some u := eb
    have z : b ≠ a := fun z => by rw [z, g0] at eb'; cases eb'
    rw [upd_ne z]
    exact s.sub b u eb'
  · by_cases q : b = a
    · rw [q, Wo.shut_same] at eb
      cases eb
      rw [q]
      exact ⟨upd_same, .inr ⟨g0, ap⟩⟩
    · rw [Wo.shut_ne q] at eb
      rw [upd_ne q]
      exact s.lock b z eb
  · have eb' : o1.G b = some (.dK vs) := eb
    have z : b ≠ a := fun z => by rw [z, g0] at eb'; cases eb'
    rw [Wo.shut_ne z] at hl
    rw [upd_ne z]
    exact s.free b vs eb' hl
/-- .. it is made: nobody changes it any more -/
theorem Sim.letGo (s : Sim K o1 mem1 H1) {a : Addr} {x y : HO} (h : H a = none) (s0 : Sim K o mem H) (le : (o.shut a y).Le o1) (e : o1.lk a = some x) (hx : ∀ od u, x ≠ .frz od u) : Sim K ((o1.open_ o).keep a x) mem1 H1 ∧ o.Le ((o1.open_ o).keep a x) := by
  obtain ⟨h1, h2⟩ := s.lock a x e
  obtain ⟨g0, ap⟩ : o1.G a = none ∧ ∀ i, i < o1.n → o1.at_ i ≠ a := by
    rcases h2 with ⟨od, u, z⟩ | h2
    · exact absurd z (hx od u)
    · exact h2
  have l1 : (o1.open_ o).Le ((o1.open_ o).keep a x) := Wo.keep_le g0
  have ne : ∀ b z, o.lk b = some z → b ≠ a := s0.lkFresh h
  have lk1 : ∀ b, b ≠ a → o1.lk b = o.lk b := fun b z => by rw [le.lk, Wo.shut_ne z]
  refine ⟨⟨s.len, fun i c ec => ((s.cell i c ec).open_ (o := o)).mono l1 rfl, s.inj, fun i hi => ?_, fun b u eb => ?_, fun b z eb => ?_, fun b vs eb hl => ?_⟩, (Wo.open_le le).trans l1⟩
  · show upd o1.G a x (o1.at_ i) = none
    rw [upd_ne (ap i hi)]
    exact s.apart i hi
  · have eb : upd o1.G a x b = some u := eb
    by_cases q : b = a
    · rw [q, upd_same] at eb
      cases eb
      rw [q]
      exact .inl h1
    · rw [upd_ne q] at eb
      exact s.sub b u eb
  · have eb' : o.lk b = some z := eb
    have q := ne b z eb'
    obtain ⟨e1, e2⟩ := s.lock b z (by rw [lk1 b q]; exact eb')
    refine ⟨e1, e2.imp id fun w => ⟨?_, w.2⟩⟩
    show upd o1.G a x b = none
    rw [upd_ne q]
    exact w.1
  · have eb : upd o1.G a x b = some (.dK vs) := eb
    have hl : o.lk b = none := hl
    by_cases q : b = a
    · rw [q, upd_same] at eb
      cases eb
      rw [q]
      exact h1
    · rw [upd_ne q] at eb
      exact s.free b vs eb (by rw [lk1 b q]; exact hl)
theorem Wo.reshut {a : Addr} {x y : HO} (le : (o.shut a x).Le o1) : (o.shut a y).Le (o1.shut a y) := by
  refine ⟨le.n, le.at_, le.inc, ?_⟩
  funext b
  show (if b = a then some y else o1.lk b) = if b = a then some y else o.lk b
  by_cases z : b = a
  · rw [if_pos z, if_pos z]
  · rw [if_neg z, if_neg z, le.lk, Wo.shut_ne z]
theorem Wo.shut_lt {a : Addr} {x : HO} (h : ∀ od u, o.lk a ≠ some (.frz od u)) : o.Lt (o.shut a x) := ⟨Nat.le_refl _, fun _ _ => rfl, Inc.refl _, fun b ob u e => by
  rw [Wo.shut_ne fun z => by rw [z] at e; exact h ob u e]
  exact e⟩
/-- a def has ended: its cells are forgotten -/
def Wo.cut (o1 o : Wo) : Wo := { o1 with n := o.n }
theorem Wo.cut_le (le : o.Le o1) : o.Le (o1.cut o) := ⟨Nat.le_refl _, le.at_, le.inc, le.lk⟩
theorem WRs.cut {n : Nat} : ∀ {ws : List W} {vs : List V}, WRs K o1 ws vs → o.n = n → (ws.all fun w => match w with | .r i => decide (i < n) | .d _ => true) = true → WRs K (o1.cut o) ws vs
  | _, _, .nil, _, _ => .nil
  | .d x :: _, _, .cons q r, e, h => .cons q (WRs.cut r e (by simpa using h))
  | .r i :: _, _, .cons q r, e, h => by
    rw [List.all_cons, Bool.and_eq_true] at h
    exact .cons ⟨by show i < o.n; rw [e]; simpa using h.1, q.2⟩ (WRs.cut r e h.2)
theorem Sim.cut (s : Sim K o1 mem1 H1) (le : o.Le o1) (hc : (mem1.take o.n).all (inC o.n) = true) : Sim K (o1.cut o) (mem1.take o.n) H1 := by
  have hn : o.n ≤ mem1.length := by rw [s.len]; exact le.n
  have lt : ∀ {i}, i < o.n → i < o1.n := fun h => Nat.lt_of_lt_of_le h le.n
  refine ⟨by rw [List.length_take, Nat.min_eq_left hn]; rfl, fun j c e => ?_, fun i j hi hj => s.inj i j (lt hi) (lt hj), fun i hi => s.apart i (lt hi), s.sub, fun b x e => ⟨(s.lock b x e).1, (s.lock b x e).2.imp id fun q => ⟨q.1, fun i hi => q.2 i (lt hi)⟩⟩, s.free⟩
  have hin : inC o.n c = true := List.all_eq_true.mp hc c (List.mem_of_getElem? e)
  have e' : mem1[j]? = some c := by
    by_cases hj : j < o.n
    · rw [List.getElem?_take_of_lt hj] at e; exact e
    · rw [List.getElem?_eq_none (by rw [List.length_take]; omega)] at e; cases e
  have q := s.cell j c e'
  cases c with
  | lst xs => exact q
  | dct xs => exact q
  | dctL xs => exact q
  | obj ws =>
    obtain ⟨vs, e1, r⟩ := q
    exact ⟨vs, e1, WRs.cut r rfl hin⟩
/-- a cell that nobody changes any more -/
theorem Sim.still (s : Sim K o1 mem1 H1) (le : o.Le o1) {i : Nat} {ob : HO} (hi : o.n ≤ i) (hi1 : i < o1.n) (hh : H1 (o1.at_ i) = some ob) (s2 : Sim K (o1.cut o) mem H1) : Sim K ((o1.cut o).keep (o1.at_ i) ob) mem H1 ∧ (o1.cut o).Le ((o1.cut o).keep (o1.at_ i) ob) := by
  have g : (o1.cut o).G (o1.at_ i) = none := s.apart i hi1
  refine ⟨⟨s2.len, fun j c e => (s2.cell j c e).mono (Wo.keep_le g) rfl, s2.inj, fun j hj => ?_, fun b u e => ?_, fun b x e => ⟨(s2.lock b x e).1, (s.lock b x e).2.imp id fun q => ⟨?_, fun j hj => q.2 j (Nat.lt_of_lt_of_le hj le.n)⟩⟩, fun b vs e hl => ?_⟩, Wo.keep_le g⟩
  · show upd o1.G (o1.at_ i) ob (o1.at_ j) = none
    have hj' : j < o.n := hj
    rw [upd_ne fun z => by have := s.inj j i (Nat.lt_of_lt_of_le hj' le.n) hi1 z; omega]
    exact s2.apart j hj
  · have e : upd o1.G (o1.at_ i) ob b = some u := e
    by_cases hb : b = o1.at_ i
    · rw [hb, upd_same] at e
      cases e
      rw [hb]
      exact .inl hh
    · rw [upd_ne hb] at e
      exact s2.sub b u e
  · show upd o1.G (o1.at_ i) ob b = none
    rw [upd_ne fun z => q.2 i hi1 z.symm]
    exact q.1
  · have e : upd o1.G (o1.at_ i) ob b = some (.dK vs) := e
    by_cases hb : b = o1.at_ i
    · rw [hb, upd_same] at e
      cases e
      rw [hb]
      exact hh
    · rw [upd_ne hb] at e
      exact s2.free b vs e hl
end
/-- the slots -/
structure EnvR (K : PySem.W.Frag) (o : Wo) (env : Env) (σ : L2.St) : Prop where
  len : env.length = σ.length
  get : ∀ (i : Nat) (w : W), env[i]? = some (some w) → ∃ v, σ[i]? = some (some v) ∧ WR K o w v
theorem EnvR.mono {K : PySem.W.Frag} {o o' : Wo} (h : o.Le o') {env : Env} {σ : L2.St} (q : EnvR K o env σ) : EnvR K o' env σ :=
  ⟨q.len, fun i w e => let ⟨v, e1, r⟩ := q.get i w e; ⟨v, e1, r.mono h⟩⟩
theorem EnvR.set {K : PySem.W.Frag} {o : Wo} {env : Env} {σ : L2.St} (q : EnvR K o env σ) (i : Nat) {w : W} {v : V} (r : WR K o w v) : EnvR K o (env.set i (some w)) (σ.set i (some v)) := by
  refine ⟨by rw [List.length_set, List.length_set]; exact q.len, fun j u e => ?_⟩
  by_cases h : i = j
  · subst h
    by_cases hl : i < env.length
    · rw [List.getElem?_set_self hl] at e
      cases e
      exact ⟨v, List.getElem?_set_self (by rw [← q.len]; exact hl), r⟩
    · rw [List.getElem?_eq_none (by rw [List.length_set]; omega)] at e
      cases e
  · rw [List.getElem?_set_ne h] at e
    obtain ⟨v', e1, r1⟩ := q.get j u e
    exact ⟨v', by rw [List.getElem?_set_ne h]; exact e1, r1⟩
theorem EnvR.wipe {K : PySem.W.Frag} {o : Wo} {env : Env} {σ : L2.St} (q : EnvR K o env σ) : ∀ vs : List Nat, EnvR K o (wipeE env vs) (wipe σ vs)
  | [] => q
  | v :: vs => by
    have ih := EnvR.wipe q vs
    unfold wipeE L2.wipe
    refine ⟨by rw [List.length_set, List.length_set]; exact ih.len, fun j u e => ?_⟩
    by_cases h : v = j
    · subst h
      by_cases hl : v < (wipeE env vs).length
      · rw [List.getElem?_set_self hl] at e; cases e
      · rw [List.getElem?_eq_none (by rw [List.length_set]; omega)] at e; cases e
    · rw [List.getElem?_set_ne h] at e ⊢
      exact ih.get j u e
theorem wipe_set {σ : L2.St} {i : Nat} {x : Option V} : ∀ {vs : List Nat}, i ∈ vs → wipe (σ.set i x) vs = wipe σ vs
  | v :: vs, h => by
    unfold wipe
    by_cases hv : i ∈ vs
    · rw [wipe_set hv]
    · have e : i = v := by rcases List.mem_cons.mp h with z | z; exact z; exact absurd z hv
      subst e
      have comm : ∀ us : List Nat, i ∉ us → wipe (σ.set i x) us = (wipe σ us).set i x := by
        intro us
        induction us with
        | nil => intro _; rfl
        | cons u us ih =>
          intro hn
          unfold wipe
          rw [ih fun z => hn (List.mem_cons_of_mem _ z)]
          exact List.set_comm _ _ fun z => hn (by rw [z]; exact List.mem_cons_self)
      rw [comm vs hv, List.set_set]
theorem wipe_wipe {σ : L2.St} : ∀ {vs us : List Nat}, (∀ i ∈ us, i ∈ vs) → wipe (wipe σ us) vs = wipe σ vs
  | vs, [], _ => rfl
  | vs, u :: us, h => by
    show wipe ((wipe σ us).set u none) vs = _
    rw [wipe_set (h u List.mem_cons_self)]
    exact wipe_wipe fun i hi => h i (List.mem_cons_of_mem _ hi)
end Mi
end
section
set_option maxHeartbeats 1000000
/-! Mi4: the operations on things, over the machine. -/
namespace Mi
open PySem PySem.Spec PyProof.Rows L2

/-- what an operation on one, two things asks and gives -/
def rOf2 (K : PySem.W.Frag) (F : W → W → Mem → Option (W × Mem)) : R2 := fun x y H Q => ∃ v w u mem mem' o, F v w mem = some (u, mem') ∧ Sim K o mem H ∧ WR K o v x ∧ WR K o w y ∧
  ∀ z H' o', o.Le o' → Sim K o' mem' H' → WR K o' u z → Q z H'
def rOf1 (K : PySem.W.Frag) (F : W → Mem → Option (W × Mem)) : V → Hp → VK → Prop := fun x H Q => ∃ v u mem mem' o, F v mem = some (u, mem') ∧ Sim K o mem H ∧ WR K o v x ∧
  ∀ z H' o', o.Le o' → Sim K o' mem' H' → WR K o' u z → Q z H'
/-- .. on a thing and some -/
def rOfN (K : PySem.W.Frag) (F : List W → Mem → Option (W × Mem)) : List V → Hp → VK → Prop := fun xs H Q => ∃ ws u mem mem' o, F ws mem = some (u, mem') ∧ Sim K o mem H ∧ WRs K o ws xs ∧
  ∀ z H' o', o.Le o' → Sim K o' mem' H' → WR K o' u z → Q z H'
def rOfM (K : PySem.W.Frag) (F : W → List W → Mem → Option (W × Mem)) : V → List V → Hp → VK → Prop := fun x xs H Q => ∃ v ws u mem mem' o, F v ws mem = some (u, mem') ∧ Sim K o mem H ∧ WR K o v x ∧ WRs K o ws xs ∧
  ∀ z H' o', o.Le o' → Sim K o' mem' H' → WR K o' u z → Q z H'
def pureF (F : W → W → Option W) : W → W → Mem → Option (W × Mem) := fun v w mem => (F v w).map fun u => (u, mem)
theorem map_some_inv {α β : Type} {x : Option α} {f : α → β} {r : β} (h : x.map f = some r) : ∃ a, x = some a ∧ f a = r := by
  cases x with
  | none => cases h
  | some a => exact ⟨a, rfl, Option.some.inj h⟩
theorem bind_some_inv {α β : Type} {x : Option α} {f : α → Option β} {r : β} (h : x.bind f = some r) : ∃ a, x = some a ∧ f a = some r := by
  cases x with
  | none => cases h
  | some a => exact ⟨a, rfl, h⟩
theorem lim_line {n : Nat} (h : n < lim) : n < sizeLine := by
  have h : n < 1000000 := h
  rw [sizeLine_eq]
  omega
theorem DR.intV {K : PySem.W.Frag} {G : Hp} {i : Int} {v : V} (q : DR K G (.int i) v) : v = .int i := by cases q; rfl
theorem DR.strV {K : PySem.W.Frag} {G : Hp} {i : List Wd} {v : V} (q : DR K G (.str i) v) : v = .str (S.str i) := by cases q; rfl
theorem DR.nonV {K : PySem.W.Frag} {G : Hp} {v : V} (q : DR K G .non v) : v = .non := by cases q; rfl
theorem DR.blV {K : PySem.W.Frag} {G : Hp} {b : Bool} {v : V} (q : DR K G (.bl b) v) : v = .bl b := by cases q; rfl
theorem DR.lstV {K : PySem.W.Frag} {G : Hp} {xs : List D} {v : V} (q : DR K G (.lst xs) v) : ∃ a vs, v = .ref a ∧ SqL K G a vs ∧ DRs K G xs vs := by cases q with | lst q1 q2 => exact ⟨_, _, rfl, q1, q2⟩
theorem DR.tupV {K : PySem.W.Frag} {G : Hp} {xs : List D} {v : V} (q : DR K G (.tup xs) v) : ∃ a vs, v = .ref a ∧ SqT K G a vs ∧ DRs K G xs vs := by cases q with | tup q1 q2 => exact ⟨_, _, rfl, q1, q2⟩
theorem DR.dctV {K : PySem.W.Frag} {G : Hp} {kvs : List (Ky × D)} {v : V} (q : DR K G (.dct kvs) v) : ∃ a vs, v = .ref a ∧ G a = some (.dK vs) ∧ DRk K G kvs vs := by cases q with | dct q1 q2 => exact ⟨_, _, rfl, q1, q2⟩
/-- a value that nothing is made for -/
theorem fin0 {K : PySem.W.Frag} {o : Wo} {mem : Mem} {H : Hp} {u : W} {z : V} {Q : VK} (s : Sim K o mem H) (r : WR K o u z) (hQ : ∀ z H' o', o.Le o' → Sim K o' mem H' → WR K o' u z → Q z H') : Q z H :=
  hQ z H o (Wo.Le.refl o) s r
/-- a new list, tuple, dict that nobody changes -/
theorem finL {K : PySem.W.Frag} {o : Wo} {mem : Mem} {H : Hp} {xs : List D} {vs : List V} {p : Addr} {Q : VK} (s : Sim K o mem H) (r : DRs K o.G xs vs) (hp : H p = none)
    (hQ : ∀ z H' o', o.Le o' → Sim K o' mem H' → WR K o' (.d (.lst xs)) z → Q z H') : Q (.ref p) (upd H p (.lst vs)) := by
  have le := Wo.keep_le (o := o) (a := p) (ob := .lst vs) (s.sub.free hp)
  exact hQ _ _ _ le (s.keep hp) (.lst (.inl (.inl upd_same)) (DRs.mono le.inc _ _ r))
theorem finT {K : PySem.W.Frag} {o : Wo} {mem : Mem} {H : Hp} {xs : List D} {vs : List V} {p : Addr} {Q : VK} (s : Sim K o mem H) (r : DRs K o.G xs vs) (hp : H p = none)
    (hQ : ∀ z H' o', o.Le o' → Sim K o' mem H' → WR K o' (.d (.tup xs)) z → Q z H') : Q (.ref p) (upd H p (.tup vs)) := by
  have le := Wo.keep_le (o := o) (a := p) (ob := .tup vs) (s.sub.free hp)
  exact hQ _ _ _ le (s.keep hp) (.tup (.inl (.inl upd_same)) (DRs.mono le.inc _ _ r))
theorem finK {K : PySem.W.Frag} {o : Wo} {mem : Mem} {H : Hp} {xs : List (Ky × D)} {vs : List (Key × V)} {p : Addr} {Q : VK} (s : Sim K o mem H) (r : DRk K o.G xs vs) (hp : H p = none)
    (hQ : ∀ z H' o', o.Le o' → Sim K o' mem H' → WR K o' (.d (.dct xs)) z → Q z H') : Q (.ref p) (upd H p (.dK vs)) := by
  have le := Wo.keep_le (o := o) (a := p) (ob := .dK vs) (s.sub.free hp)
  exact hQ _ _ _ le (s.keep hp) (.dct upd_same (DRk.mono le.inc _ _ r))
/-- a new cell -/
theorem finC {K : PySem.W.Frag} {o : Wo} {mem : Mem} {H : Hp} {c : Cell} {ob : HO} {p : Addr} {Q : VK} (s : Sim K o mem H) (r : CR_ K o (upd H p ob) c p) (hp : H p = none)
    (hQ : ∀ z H' o', o.Le o' → Sim K o' (mem ++ [c]) H' → WR K o' (.r mem.length) z → Q z H') : Q (.ref p) (upd H p ob) := by
  refine hQ _ _ _ Wo.more_le (s.more hp r) ⟨?_, ?_⟩
  · rw [s.len]; exact Nat.lt_succ_self _
  · rw [s.len, Wo.more_at]

/-! ### + - * // % ** << & | ^ -/
def bopO : Bop → Operator
  | .add => .Add | .sub => .Sub | .mul => .Mult | .fdiv => .FloorDiv | .mod => .Mod | .pow => .Pow | .shl => .LShift | .band => .BitAnd | .bor => .BitOr | .bxor => .BitXor
section
variable {X : Cx}
/-- list + list, whatever they are -/
theorem op_catS : OpR X (binaryOp .Add) (fun x y H Q => ∃ l b xs zs, x = .ref l ∧ y = .ref b ∧ SqL X.K H l xs ∧ SqL X.K H b zs ∧ xs.length + zs.length ≤ sizeLine ∧ ∀ p, H p = none → Q (.ref p) (upd H p (.lst (xs ++ zs)))) := by
  intro pins s σ H x y v u Q I rx ry h
  obtain ⟨l, b, xs, zs, rfl, rfl, hl, hb, hz, q⟩ := h
  cases rx
  cases ry
  obtain ⟨is1, r1, ⟨⟨cl1, dd1, da1, sl1⟩, n1, g1, c1, _, d1⟩, _⟩ := I.list hl
  obtain ⟨is2, r2, ⟨⟨cl2, dd2, da2, sl2⟩, n2, g2, c2, _, d2⟩, _⟩ := I.list hb
  simp only at c1 d1 c2 d2
  subst c1 d1 c2 d2
  have e1 := r1.length
  have e2 := r2.length
  have hw := list_addW l b is1.toArray is2.toArray n1 n2 dd1 dd2 sl1 sl2 (by simp; omega)
  refine concat_meets ⟨_, g1, rfl⟩ ⟨_, g2, rfl⟩ noFill_list_add seq_list_add PySem.F.slot_list_add
    PySem.F.entry_list_add (PySem.F.args_list_add_2 _ _) hw ⟨g1, g2, ?_⟩
  have ea : is1.toArray ++ is2.toArray = (is1 ++ is2).toArray := by simp
  rw [ea]
  exact ⟨.ref _, _, I.lnew (t' := s.toks) (r1.append r2) (by rw [List.length_append]; omega), rfl, q _ I.fresh⟩
theorem bin_ok (op : Bop) : OpR X (binaryOp (bopO op)) (rOf2 X.K (pureF (binW op))) := by
  intro pins s σ H x y v u Q I rx ry h
  obtain ⟨a, b, c, mem, mem', o, hF, sim, ra, rb, hQ⟩ := h
  obtain ⟨c', hc, e⟩ := map_some_inv (show (binW op a b).map (fun u => (u, mem)) = some (c, mem') from hF)
  obtain ⟨rfl, rfl⟩ := Prod.mk.inj e
  have two : ∀ {i j : Int}, a = .d (.int i) → b = .d (.int j) → x = .int i ∧ y = .int j := fun ea eb => by
    subst ea eb
    exact ⟨DR.intV ra, DR.intV rb⟩
  have fin : ∀ {k : Int}, c' = .d (.int k) → Q (.int k) H := fun ec => by
    subst ec
    exact fin0 sim (show WR X.K o (.d (.int _)) (.int _) from DR.int _) hQ
  unfold binW at hc
  split at hc
  · obtain ⟨ex, ey⟩ := two rfl rfl
    exact op_add pins s σ H x y v u Q I rx ry ⟨_, _, ex, ey, fin (Option.some.inj hc).symm⟩
  · split at hc
    · rename_i hl
      obtain ⟨p1, v1, e1, q1, d1⟩ := DR.lstV ra
      obtain ⟨p2, v2, e2, q2, d2⟩ := DR.lstV rb
      have ec := Option.some.inj hc
      subst ec
      refine op_catS pins s σ H x y v u Q I rx ry ⟨p1, p2, v1, v2, e1, e2, Sub.seqL sim.sub q1, Sub.seqL sim.sub q2, ?_, fun p hp => finL sim (d1.append d2) hp hQ⟩
      rw [← d1.length, ← d2.length]
      exact Nat.le_of_lt (lim_line hl)
    · cases hc
  · split at hc
    · rename_i xs ys hl
      obtain ⟨p1, v1, e1, q1, d1⟩ := DR.tupV ra
      obtain ⟨p2, v2, e2, q2, d2⟩ := DR.tupV rb
      have ec := Option.some.inj hc
      subst ec
      have l1 := d1.length
      have l2 := d2.length
      refine op_catA pins s σ H x y v u Q I rx ry ⟨p1, p2, v1, v2, e1, e2, Sub.seqT sim.sub q1, Sub.seqT sim.sub q2, ?_, fun h0 => ?_, fun _ h0 => ?_, fun _ _ p hp => finT sim (d1.append d2) hp hQ⟩
      · rw [← l1, ← l2]
        exact Nat.le_of_lt (lim_line hl)
      · have : xs = [] := List.length_eq_zero_iff.mp (by rw [l1, h0]; rfl)
        subst this
        exact fin0 sim (show WR X.K o (.d (.tup ([] ++ ys))) (.ref p2) from .tup q2 d2) hQ
      · have : ys = [] := List.length_eq_zero_iff.mp (by rw [l2, h0]; rfl)
        subst this
        exact fin0 sim (show WR X.K o (.d (.tup (xs ++ []))) (.ref p1) from by rw [List.append_nil]; exact .tup q1 d1) hQ
    · cases hc
  · obtain ⟨ex, ey⟩ := two rfl rfl
    exact op_sub pins s σ H x y v u Q I rx ry ⟨_, _, ex, ey, fin (Option.some.inj hc).symm⟩
  · split at hc
    · rename_i hb
      obtain ⟨ex, ey⟩ := two rfl rfl
      refine op_mul pins s σ H x y v u Q I rx ry ⟨_, _, ex, ey, ?_, fin (Option.some.inj hc).symm⟩
      rcases hb with hb | hb
      · exact .inl ⟨by omega, by omega⟩
      · exact .inr ⟨by omega, by omega⟩
    · cases hc
  · split at hc
    · rename_i hb
      obtain ⟨ex, ey⟩ := two rfl rfl
      refine op_fdivW pins s σ H x y v u Q I rx ry ⟨_, _, ex, ey, wide_div (b := 65) hb.1 (by omega) (by decide) (by decide), fin (Option.some.inj hc).symm⟩
    · cases hc
  · split at hc
    · rename_i hb
      obtain ⟨ex, ey⟩ := two rfl rfl
      exact op_mod pins s σ H x y v u Q I rx ry ⟨_, _, ex, ey, hb, fin (Option.some.inj hc).symm⟩
    · cases hc
  · split at hc
    · rename_i hb
      obtain ⟨ex, ey⟩ := two rfl rfl
      exact op_pow pins s σ H x y v u Q I rx ry ⟨_, _, ex, ey, ⟨hb.1, by omega, by omega⟩, fin (Option.some.inj hc).symm⟩
    · cases hc
  · split at hc
    · rename_i hb
      obtain ⟨ex, ey⟩ := two rfl rfl
      exact op_shl pins s σ H x y v u Q I rx ry ⟨_, _, ex, ey, ⟨hb.1, by omega, by omega⟩, fin (Option.some.inj hc).symm⟩
    · cases hc
  · obtain ⟨ex, ey⟩ := two rfl rfl
    exact op_and pins s σ H x y v u Q I rx ry ⟨_, _, ex, ey, fin (Option.some.inj hc).symm⟩
  · obtain ⟨ex, ey⟩ := two rfl rfl
    exact op_or pins s σ H x y v u Q I rx ry ⟨_, _, ex, ey, fin (Option.some.inj hc).symm⟩
  · obtain ⟨ex, ey⟩ := two rfl rfl
    exact op_xor pins s σ H x y v u Q I rx ry ⟨_, _, ex, ey, fin (Option.some.inj hc).symm⟩
  · cases hc
end

/-! ### == and in of data -/
theorem strOk_S (x : List Wd) : PyData.strOk (S.str x) = true := by
  have h : ∀ x : List Wd, ∀ c ∈ S.cs x, c < 0x110000 := by
    intro x
    induction x with
    | nil => intro c h; cases h
    | cons w r ih =>
      have hw : ∀ c ∈ w.cs, c < 0x110000 := by cases w <;> decide
      cases r with
      | nil => exact hw
      | cons u r =>
        intro c hc
        have hc : c ∈ w.cs ++ 32 :: S.cs (u :: r) := hc
        rcases List.mem_append.mp hc with z | z
        · exact hw c z
        · rcases List.mem_cons.mp z with z | z
          · subst z; decide
          · exact ih c z
  unfold PyData.strOk S.str
  simp only [Array.all_eq_true, decide_eq_true_eq]
  intro i hi
  exact h x _ (by simp)
mutual
theorem canLay_D : ∀ x : D, okD x = true → PyData.canLay0 x.toP = true
  | .non, _ => rfl
  | .bl _, _ => rfl
  | .int _, _ => rfl
  | .str x, _ => strOk_S x
  | .tup xs, h => by
    show PyData.canLayAll0 (D.toPs xs) = true
    exact canLay_Ds xs h
  | .lst xs, h => by
    show PyData.canLayAll0 (D.toPs xs) = true
    exact canLay_Ds xs h
  | .dct _, h => by cases h
  | .prs _, h => by cases h
theorem canLay_Ds : ∀ xs : List D, okDs xs = true → PyData.canLayAll0 (D.toPs xs) = true
  | [], _ => rfl
  | x :: xs, h => by
    have h : (okD x && okDs xs) = true := h
    obtain ⟨h1, h2⟩ := Bool.and_eq_true_iff.mp h
    show (PyData.canLay0 x.toP && PyData.canLayAll0 (D.toPs xs)) = true
    rw [canLay_D x h1, canLay_Ds xs h2]; rfl
end
mutual
theorem depth_D : ∀ x : D, PyData.depth x.toP = dep x ∨ okD x = false
  | .non => .inl rfl
  | .bl _ => .inl rfl
  | .int _ => .inl rfl
  | .str _ => .inl rfl
  | .tup xs => by
    rcases depth_Ds xs with h | h
    · exact .inl (by show PyData.depthAll (D.toPs xs) + 1 = deps xs + 1; rw [h])
    · exact .inr h
  | .lst xs => by
    rcases depth_Ds xs with h | h
    · exact .inl (by show PyData.depthAll (D.toPs xs) + 1 = deps xs + 1; rw [h])
    · exact .inr h
  | .dct _ => .inr rfl
  | .prs _ => .inr rfl
theorem depth_Ds : ∀ xs : List D, PyData.depthAll (D.toPs xs) = deps xs ∨ okDs xs = false
  | [] => .inl rfl
  | x :: xs => by
    rcases depth_D x with h | h
    · rcases depth_Ds xs with h2 | h2
      · exact .inl (by show max (PyData.depth x.toP) (PyData.depthAll (D.toPs xs)) = max (dep x) (deps xs); rw [h, h2])
      · exact .inr (by show (okD x && okDs xs) = false; rw [h2, Bool.and_false])
    · exact .inr (by show (okD x && okDs xs) = false; rw [h, Bool.false_and])
end
theorem shp_ok {x : D} (h : shp x = true) : okD x = true ∧ dep x ≤ 60 ∧ SeqAt.shaped x.toP = true := by
  unfold shp at h
  obtain ⟨h1, h2⟩ := Bool.and_eq_true_iff.mp h
  have h3 : dep x ≤ 60 := of_decide_eq_true h2
  refine ⟨h1, h3, ?_⟩
  unfold SeqAt.shaped
  rw [canLay_D x h1]
  rcases depth_D x with e | e
  · rw [e]
    simp
    omega
  · rw [h1] at e; cases e
theorem Sbeq (x y : List Wd) : (S.str x == S.str y) = decide (x = y) := by
  by_cases h : x = y
  · subst h; simp
  · rw [decide_eq_false h]
    exact beq_eq_false_iff_ne.mpr fun e => h (Sstr_inj e)
mutual
theorem eqv_D : ∀ x y : D, PyData.eqv x.toP y.toP = eqD x y
  | .non, y => by cases y <;> rfl
  | .bl b, y => by cases y <;> first | rfl | simp [D.toP, PyData.eqv, eqD]
  | .int i, y => by cases y <;> first | rfl | simp [D.toP, PyData.eqv, eqD]
  | .str x, y => by
    cases y with
    | str z => exact Sbeq x z
    | _ => rfl
  | .tup xs, y => by
    cases y with
    | tup ys => exact eqv_Ds xs ys
    | _ => rfl
  | .lst xs, y => by
    cases y with
    | lst ys => exact eqv_Ds xs ys
    | _ => rfl
  | .dct _, y => by cases y <;> rfl
  | .prs _, y => by cases y <;> rfl
theorem eqv_Ds : ∀ xs ys : List D, PyData.eqvAll (D.toPs xs) (D.toPs ys) = eqDs xs ys
  | [], [] => rfl
  | [], _ :: _ => rfl
  | _ :: _, [] => rfl
  | x :: xs, y :: ys => by
    show (PyData.eqv x.toP y.toP && PyData.eqvAll (D.toPs xs) (D.toPs ys)) = (eqD x y && eqDs xs ys)
    rw [eqv_D x y, eqv_Ds xs ys]
end
section
variable {K : PySem.W.Frag} {G H : Hp} (s : Sub G H)
include s
mutual
theorem DR.dp : ∀ (x : D) (v : V), okD x = true → DR K G x v → Dp K H v x.toP
  | .non, _, _, q => by cases q; exact .non
  | .bl b, _, _, q => by cases q; exact .bl b
  | .int i, _, _, q => by cases q; exact .int i
  | .str x, _, _, q => by cases q; exact .str _
  | .tup xs, _, h, q => by cases q with | tup q1 q2 => exact .tup (Sub.seqT s q1) (DRs.dp xs _ h q2)
  | .lst xs, _, h, q => by cases q with | lst q1 q2 => exact .lst (Sub.seqL s q1) (DRs.dp xs _ h q2)
  | .dct _, _, h, _ => by cases h
  | .prs _, _, h, _ => by cases h
theorem DRs.dp : ∀ (xs : List D) (vs : List V), okDs xs = true → DRs K G xs vs → DpAll K H vs (D.toPs xs)
  | [], _, _, q => by cases q; exact .nil
  | x :: xs, _, h, q => by
    cases q with
    | cons q1 q2 =>
      have h : (okD x && okDs xs) = true := h
      obtain ⟨h1, h2⟩ := Bool.and_eq_true_iff.mp h
      exact .cons (DR.dp x _ h1 q1) (DRs.dp xs _ h2 q2)
end
end
end Mi
end
section
set_option maxHeartbeats 1000000
/-! Mi5: comparisons, subscripts, built-in functions and methods, over the machine. -/
namespace Mi
open PySem PySem.Spec PyProof.Rows L2

def copO : Cop → CmpOp
  | .eq => .Eq | .ne => .NotEq | .lt => .Lt | .le => .LtE | .gt => .Gt | .ge => .GtE | .isn => .Is | .notn => .IsNot | .inn => .In | .nin => .NotIn
/-- a comparison's answer as a thing -/
def bF (F : W → W → Mem → Option Bool) : W → W → Mem → Option (W × Mem) := fun v w mem => (F v w mem).map fun b => (.d (.bl b), mem)

theorem CR_lstH {K : PySem.W.Frag} {o : Wo} {H : Hp} {xs : List D} {a : Addr} (q : CR_ K o H (.lst xs) a) : ∃ vs, H a = some (.lst vs) ∧ DRs K o.G xs vs := q
section
variable {X : Cx}
/-- is a list the empty one -/
theorem eqNil (hu : X.A.units < cLine) (neg : Bool) : OpR X (compareOp (if neg then .NotEq else .Eq)) (fun x y H Q => ∃ a b vs, x = .ref a ∧ y = .ref b ∧ SqL X.K H a vs ∧ SqL X.K H b [] ∧ Q (.bl (if neg then !vs.isEmpty else vs.isEmpty)) H) := by
  intro pins s σ H x y v u Q I rx ry h
  obtain ⟨a, b, vs, rfl, rfl, ha, hb, q⟩ := h
  cases rx
  cases ry
  obtain ⟨is1, r1, p1, _⟩ := I.list ha
  obtain ⟨is2, r2, p2, _⟩ := I.list hb
  cases r2
  cases vs with
  | nil =>
    cases r1
    cases neg with
    | false => exact SeqAt.eq_listAt (e := fun _ => true) p1.isList p2.isList rfl hu (fun j h1 _ => absurd h1 (by simp)) ⟨.bl true, H, I, rfl, q⟩
    | true => exact SeqAt.RcNeAt.lists (e := fun _ => true) p1.isList p2.isList rfl hu (fun j h1 _ => absurd h1 (by simp)) X.prog X.w X.xe _ ⟨.bl false, H, I, rfl, q⟩
  | cons z zs =>
    have hsz : (is1.toArray.size != ([] : List Value).toArray.size) = true := by
      have := r1.length
      cases is1 with
      | nil => simp at this
      | cons _ _ => simp
    cases neg with
    | false => exact SeqAt.eq_list_lengthsAt p1.isList p2.isList hsz hu ⟨.bl false, H, I, rfl, q⟩
    | true => exact SeqAt.RcNeAt.lists_lengths p1.isList p2.isList hsz hu X.prog X.w X.xe _ ⟨.bl true, H, I, rfl, q⟩
theorem isEmpty_len {α β : Type} {l : List α} {m : List β} (h : l.length = m.length) : l.isEmpty = m.isEmpty := by
  cases l <;> cases m <;> first | rfl | simp at h
theorem eq_ok (hu : X.A.units + 64 < cLine) : OpR X (compareOp .Eq) (rOf2 X.K (bF eqW)) := by
  intro pins s σ H x y v u Q I rx ry h
  obtain ⟨a, b, c, mem, mem', o, hF, sim, ra, rb, hQ⟩ := h
  obtain ⟨c', hc, e⟩ := map_some_inv (show (eqW a b mem).map (fun z => (W.d (.bl z), mem)) = some (c, mem') from hF)
  obtain ⟨rfl, rfl⟩ := Prod.mk.inj e
  unfold eqW at hc
  split at hc
  · rename_i x1 y1
    split at hc
    · rename_i hs
      obtain ⟨h1, h2⟩ := Bool.and_eq_true_iff.mp hs
      obtain ⟨k1, _, s1⟩ := shp_ok h1
      obtain ⟨k2, _, s2⟩ := shp_ok h2
      have ec := Option.some.inj hc
      subst ec
      refine op_eqD hu pins s σ H x y v u Q I rx ry ⟨_, _, DR.dp sim.sub x1 x k1 ra, DR.dp sim.sub y1 y k2 rb, s1, s2, ?_⟩
      rw [eqv_D]
      exact fin0 sim (show WR X.K o (.d (.bl _)) (.bl _) from DR.bl _) hQ
    · cases hc
  · rename_i n
    obtain ⟨p2, v2, e2, q2, d2⟩ := DR.lstV rb
    cases d2
    have q2' := Sub.seqL sim.sub q2
    split at hc
    · rename_i xs hm
      obtain ⟨vs, hv, dv⟩ := sim.cell n _ hm
      have ec := Option.some.inj hc
      subst ec
      refine eqNil (Nat.lt_of_le_of_lt (Nat.le_add_right _ _) hu) false pins s σ H x y v u Q I rx ry ⟨_, p2, vs, ra.2, e2, .inl (.inl hv), q2', ?_⟩
      have e3 : vs.isEmpty = xs.isEmpty := isEmpty_len dv.length.symm
      show Q (.bl vs.isEmpty) H
      rw [e3]
      exact fin0 sim (show WR X.K o (.d (.bl _)) (.bl _) from DR.bl _) hQ
    · rename_i xs hm
      obtain ⟨vs, hv, dv⟩ := sim.cell n _ hm
      have ec := Option.some.inj hc
      subst ec
      refine eqNil (Nat.lt_of_le_of_lt (Nat.le_add_right _ _) hu) false pins s σ H x y v u Q I rx ry ⟨_, p2, vs, ra.2, e2, .inl (.inl hv), q2', ?_⟩
      have e3 : vs.isEmpty = xs.isEmpty := isEmpty_len (WRs.length dv).symm
      show Q (.bl vs.isEmpty) H
      rw [e3]
      exact fin0 sim (show WR X.K o (.d (.bl _)) (.bl _) from DR.bl _) hQ
    · cases hc
  · cases hc
theorem ne_ok (hu : X.A.units + 64 < cLine) : OpR X (compareOp .NotEq) (rOf2 X.K (bF fun v w mem => (eqW v w mem).map (!·))) := by
  intro pins s σ H x y v u Q I rx ry h
  obtain ⟨a, b, c, mem, mem', o, hF, sim, ra, rb, hQ⟩ := h
  obtain ⟨c', hc0, e⟩ := map_some_inv (show ((eqW a b mem).map (!·)).map (fun z => (W.d (.bl z), mem)) = some (c, mem') from hF)
  obtain ⟨c1, hc, e'⟩ := map_some_inv hc0
  obtain ⟨rfl, rfl⟩ := Prod.mk.inj e
  subst e'
  unfold eqW at hc
  split at hc
  · rename_i x1 y1
    split at hc
    · rename_i hs
      obtain ⟨h1, h2⟩ := Bool.and_eq_true_iff.mp hs
      obtain ⟨k1, _, s1⟩ := shp_ok h1
      obtain ⟨k2, _, s2⟩ := shp_ok h2
      have ec := Option.some.inj hc
      subst ec
      refine op_neD hu pins s σ H x y v u Q I rx ry ⟨_, _, DR.dp sim.sub x1 x k1 ra, DR.dp sim.sub y1 y k2 rb, s1, s2, ?_⟩
      rw [eqv_D]
      exact fin0 sim (show WR X.K o (.d (.bl _)) (.bl _) from DR.bl _) hQ
    · cases hc
  · rename_i n
    obtain ⟨p2, v2, e2, q2, d2⟩ := DR.lstV rb
    cases d2
    have q2' := Sub.seqL sim.sub q2
    split at hc
    · rename_i xs hm
      obtain ⟨vs, hv, dv⟩ := sim.cell n _ hm
      have ec := Option.some.inj hc
      subst ec
      refine eqNil (Nat.lt_of_le_of_lt (Nat.le_add_right _ _) hu) true pins s σ H x y v u Q I rx ry ⟨_, p2, vs, ra.2, e2, .inl (.inl hv), q2', ?_⟩
      have e3 : vs.isEmpty = xs.isEmpty := isEmpty_len dv.length.symm
      show Q (.bl (!vs.isEmpty)) H
      rw [e3]
      exact fin0 sim (show WR X.K o (.d (.bl _)) (.bl _) from DR.bl _) hQ
    · rename_i xs hm
      obtain ⟨vs, hv, dv⟩ := sim.cell n _ hm
      have ec := Option.some.inj hc
      subst ec
      refine eqNil (Nat.lt_of_le_of_lt (Nat.le_add_right _ _) hu) true pins s σ H x y v u Q I rx ry ⟨_, p2, vs, ra.2, e2, .inl (.inl hv), q2', ?_⟩
      have e3 : vs.isEmpty = xs.isEmpty := isEmpty_len (WRs.length dv).symm
      show Q (.bl (!vs.isEmpty)) H
      rw [e3]
      exact fin0 sim (show WR X.K o (.d (.bl _)) (.bl _) from DR.bl _) hQ
    · cases hc
  · cases hc
theorem any_toPs (x : D) : ∀ ys : List D, ((D.toPs ys).any fun z => PyData.eqv z x.toP) = ys.any fun z => eqD z x
  | [] => rfl
  | y :: ys => by
    show (PyData.eqv y.toP x.toP || (D.toPs ys).any _) = (eqD y x || ys.any _)
    rw [eqv_D, any_toPs x ys]
theorem flat_V {K : PySem.W.Frag} {G : Hp} {x : D} {v : V} (f : flat x = true) (q : DR K G x v) : flatV v = true := by
  cases q with
  | non => rfl
  | int i => rfl
  | str x => rfl
  | _ => cases f
theorem flat_eq {K : PySem.W.Frag} {G : Hp} {x y : D} {v u : V} (fx : flat x = true) (fy : flat y = true) (qx : DR K G x v) (qy : DR K G y u) : eqV u v = eqD y x := by
  cases qx with
  | non => cases qy with
    | non => rfl
    | int i => rfl
    | str z => rfl
    | _ => cases fy
  | int i => cases qy with
    | non => rfl
    | int j => rfl
    | str z => rfl
    | _ => cases fy
  | str z => cases qy with
    | non => rfl
    | int j => rfl
    | str w =>
      show (S.str w == S.str z) = decide (w = z)
      exact Sbeq w z
    | _ => cases fy
  | _ => cases fx
theorem flat_all {K : PySem.W.Frag} {G : Hp} : ∀ {ys : List D} {vs : List V}, ys.all flat = true → DRs K G ys vs → vs.all flatV = true
  | _, _, _, .nil => rfl
  | y :: ys, _, h, .cons q r => by
    rw [List.all_cons] at h ⊢
    obtain ⟨h1, h2⟩ := Bool.and_eq_true_iff.mp h
    rw [flat_V h1 q, flat_all h2 r]; rfl
theorem flat_any {K : PySem.W.Frag} {G : Hp} {x : D} {v : V} (fx : flat x = true) (qx : DR K G x v) : ∀ {ys : List D} {vs : List V}, ys.all flat = true → DRs K G ys vs → inV v vs = ys.any fun z => eqD z x
  | _, _, _, .nil => rfl
  | y :: ys, _, h, .cons q r => by
    rw [List.all_cons] at h
    obtain ⟨h1, h2⟩ := Bool.and_eq_true_iff.mp h
    have ih := flat_any fx qx h2 r
    unfold inV at ih ⊢
    rw [List.any_cons, List.any_cons, ih, flat_eq fx h1 qx q]
theorem in_ok (hu : X.A.units + 65 < cLine) (neg : Bool) : OpR X (compareOp (if neg then .NotIn else .In)) (rOf2 X.K (bF fun v w mem => (inW v w mem).map fun b => if neg then !b else b)) := by
  intro pins s σ H x y v u Q I rx ry h
  obtain ⟨a, b, c, mem, mem', o, hF, sim, ra, rb, hQ⟩ := h
  obtain ⟨c', hc0, e⟩ := map_some_inv (show ((inW a b mem).map fun b => if neg then !b else b).map (fun z => (W.d (.bl z), mem)) = some (c, mem') from hF)
  obtain ⟨c1, hc, e'⟩ := map_some_inv hc0
  obtain ⟨rfl, rfl⟩ := Prod.mk.inj e
  have fin : Q (.bl (if neg then !c1 else c1)) H := by
    rw [e']
    exact fin0 sim (show WR X.K o (.d (.bl _)) (.bl _) from DR.bl _) hQ
  have hu1 : X.A.units + 1 < cLine := by omega
  -- a dict
  have dic : ∀ {p : Addr} {vs : List (Key × V)} {kvs : List (Ky × D)} {x1 : D}, y = .ref p → Rd H p (.dK vs) → DRk X.K o.G kvs vs → DR X.K o.G x1 x → ((kyOf x1).map fun k => (lkD kvs k).isSome) = some c1 →
      wpAny (model X.prog X.w) X.A (compareOp (if neg then .NotIn else .In) v u) (EP X pins σ Q) X.xe s := by
    intro p vs kvs x1 ey hr dk rx1 hk
    obtain ⟨k, hk1, hk2⟩ := map_some_inv hk
    have ex := kyOf_rel hk1 rx1
    subst ex ey
    cases ry
    have g : DGet H p (kV k.key) (valV vs k.key) := .inl ⟨vs, k.key, hr, rfl, rfl⟩
    have e3 := dk.isSome k
    rw [hk2] at e3
    cases neg with
    | false => exact d_in hu1 I g rx fun s' I' => ⟨.bl _, H, I', rfl, by rw [e3]; exact fin⟩
    | true => exact d_notIn hu1 I g rx fun s' I' => ⟨.bl _, H, I', rfl, by rw [e3]; exact fin⟩
  unfold inW at hc
  split at hc
  · rename_i x1 ys
    split at hc
    · rename_i hs
      obtain ⟨h1, h2⟩ := Bool.and_eq_true_iff.mp hs
      obtain ⟨k1, _, s1⟩ := shp_ok h1
      obtain ⟨k2, _, s2⟩ := shp_ok h2
      have ec := Option.some.inj hc
      subst ec
      have d2 := DR.dp sim.sub (.lst ys) y k2 rb
      cases neg with
      | false =>
        refine op_inD hu pins s σ H x y v u Q I rx ry ⟨_, D.toPs ys, DR.dp sim.sub x1 x k1 ra, d2, s1, s2, ?_⟩
        rw [any_toPs]
        exact fin
      | true =>
        refine op_notInD hu pins s σ H x y v u Q I rx ry ⟨_, D.toPs ys, DR.dp sim.sub x1 x k1 ra, d2, s1, s2, ?_⟩
        rw [any_toPs]
        exact fin
    · cases hc
  · rename_i x1 ys
    split at hc
    · rename_i hs
      obtain ⟨h1, h2⟩ := Bool.and_eq_true_iff.mp hs
      have ec := Option.some.inj hc
      subst ec
      obtain ⟨p, vs, ey, q2, dv⟩ := DR.tupV rb
      have e3 := flat_any h1 ra h2 dv
      cases neg with
      | false =>
        refine op_in_seq pins s σ H x y v u Q I rx ry ⟨p, vs, ey, .inr (Sub.seqT sim.sub q2), flat_V h1 ra, flat_all h2 dv, ?_⟩
        show Q (.bl (inV x vs)) H
        rw [e3]
        exact fin
      | true =>
        refine op_notIn_seq pins s σ H x y v u Q I rx ry ⟨p, vs, ey, .inr (Sub.seqT sim.sub q2), flat_V h1 ra, flat_all h2 dv, ?_⟩
        show Q (.bl (!inV x vs)) H
        rw [e3]
        exact fin
    · cases hc
  · obtain ⟨p, vs, ey, q2, dv⟩ := DR.dctV rb
    exact dic ey (Sub.dK sim.sub q2) dv ra hc
  · rename_i n
    split at hc
    · rename_i kvs hm
      obtain ⟨vs, hv, dv⟩ := sim.cell n _ hm
      exact dic rb.2 (.inl hv) dv ra hc
    · cases hc
  · cases hc
theorem isNon_ok {K : PySem.W.Frag} {o : Wo} {w : W} {v : V} (r : WR K o w v) : decide (v = .non) = isNon w := by
  cases w with
  | r n =>
    rw [r.2]; rfl
  | d x =>
    have r : DR K o.G x v := r
    cases r <;> rfl
theorem cmp_ok (hu : X.A.units + 65 < cLine) (op : Cop) : OpR X (compareOp (copO op)) (rOf2 X.K (bF (cmpW op))) := by
  cases op with
  | eq => exact eq_ok (by omega)
  | ne => exact ne_ok (by omega)
  | inn =>
    intro pins s σ H x y v u Q I rx ry h
    obtain ⟨a, b, c, mem, mem', o, hF, r⟩ := h
    refine in_ok hu false pins s σ H x y v u Q I rx ry ⟨a, b, c, mem, mem', o, ?_, r⟩
    rw [← hF]
    show ((inW a b mem).map fun b => b).map _ = _
    rw [Option.map_id']; rfl
  | nin => exact in_ok hu true
  | isn =>
    intro pins s σ H x y v u Q I rx ry h
    obtain ⟨a, b, c, mem, mem', o, hF, sim, ra, rb, hQ⟩ := h
    obtain ⟨c', hc, e⟩ := map_some_inv (show (cmpW .isn a b mem).map (fun z => (W.d (.bl z), mem)) = some (c, mem') from hF)
    obtain ⟨rfl, rfl⟩ := Prod.mk.inj e
    unfold cmpW at hc
    simp only at hc
    split at hc
    · have ec := Option.some.inj hc
      subst ec
      refine op_isN pins s σ H x y v u Q I rx ry ⟨DR.nonV rb, ?_⟩
      rw [isNon_ok ra]
      exact fin0 sim (show WR X.K o (.d (.bl _)) (.bl _) from DR.bl _) hQ
    · cases hc
  | notn =>
    intro pins s σ H x y v u Q I rx ry h
    obtain ⟨a, b, c, mem, mem', o, hF, sim, ra, rb, hQ⟩ := h
    obtain ⟨c', hc, e⟩ := map_some_inv (show (cmpW .notn a b mem).map (fun z => (W.d (.bl z), mem)) = some (c, mem') from hF)
    obtain ⟨rfl, rfl⟩ := Prod.mk.inj e
    unfold cmpW at hc
    simp only at hc
    split at hc
    · have ec := Option.some.inj hc
      subst ec
      refine op_notN pins s σ H x y v u Q I rx ry ⟨DR.nonV rb, ?_⟩
      rw [isNon_ok ra]
      exact fin0 sim (show WR X.K o (.d (.bl _)) (.bl _) from DR.bl _) hQ
    · cases hc
  | lt =>
    intro pins s σ H x y v u Q I rx ry h
    obtain ⟨a, b, c, mem, mem', o, hF, sim, ra, rb, hQ⟩ := h
    obtain ⟨c', hc, e⟩ := map_some_inv (show (cmpW .lt a b mem).map (fun z => (W.d (.bl z), mem)) = some (c, mem') from hF)
    obtain ⟨rfl, rfl⟩ := Prod.mk.inj e
    unfold cmpW at hc
    simp only at hc
    split at hc
    · have ec := Option.some.inj hc
      subst ec
      exact L2.op_lt pins s σ H x y v u Q I rx ry ⟨_, _, DR.intV ra, DR.intV rb, fin0 sim (show WR X.K o (.d (.bl _)) (.bl _) from DR.bl _) hQ⟩
    · cases hc
  | le =>
    intro pins s σ H x y v u Q I rx ry h
    obtain ⟨a, b, c, mem, mem', o, hF, sim, ra, rb, hQ⟩ := h
    obtain ⟨c', hc, e⟩ := map_some_inv (show (cmpW .le a b mem).map (fun z => (W.d (.bl z), mem)) = some (c, mem') from hF)
    obtain ⟨rfl, rfl⟩ := Prod.mk.inj e
    unfold cmpW at hc
    simp only at hc
    split at hc
    · have ec := Option.some.inj hc
      subst ec
      exact L2.op_le pins s σ H x y v u Q I rx ry ⟨_, _, DR.intV ra, DR.intV rb, fin0 sim (show WR X.K o (.d (.bl _)) (.bl _) from DR.bl _) hQ⟩
    · cases hc
  | gt =>
    intro pins s σ H x y v u Q I rx ry h
    obtain ⟨a, b, c, mem, mem', o, hF, sim, ra, rb, hQ⟩ := h
    obtain ⟨c', hc, e⟩ := map_some_inv (show (cmpW .gt a b mem).map (fun z => (W.d (.bl z), mem)) = some (c, mem') from hF)
    obtain ⟨rfl, rfl⟩ := Prod.mk.inj e
    unfold cmpW at hc
    simp only at hc
    split at hc
    · have ec := Option.some.inj hc
      subst ec
      exact L2.op_gt pins s σ H x y v u Q I rx ry ⟨_, _, DR.intV ra, DR.intV rb, fin0 sim (show WR X.K o (.d (.bl _)) (.bl _) from DR.bl _) hQ⟩
    · cases hc
  | ge =>
    intro pins s σ H x y v u Q I rx ry h
    obtain ⟨a, b, c, mem, mem', o, hF, sim, ra, rb, hQ⟩ := h
    obtain ⟨c', hc, e⟩ := map_some_inv (show (cmpW .ge a b mem).map (fun z => (W.d (.bl z), mem)) = some (c, mem') from hF)
    obtain ⟨rfl, rfl⟩ := Prod.mk.inj e
    unfold cmpW at hc
    simp only at hc
    split at hc
    · have ec := Option.some.inj hc
      subst ec
      exact L2.op_ge pins s σ H x y v u Q I rx ry ⟨_, _, DR.intV ra, DR.intV rb, fin0 sim (show WR X.K o (.d (.bl _)) (.bl _) from DR.bl _) hQ⟩
    · cases hc
end
end Mi
end
section
set_option maxHeartbeats 1000000
/-! Mi6: subscripts, stores, slices, built-in functions, built-in methods, over the machine. -/
namespace Mi
open PySem PySem.Spec PyProof.Rows L2

section
variable {X : Cx}
theorem firstW_ok : ∀ w u : Wd, firstW w = some u → ∃ c, (S.str [w]).cps.toList[0]? = some c ∧ S.str [u] = ⟨#[c]⟩ := by
  intro w u h
  cases w <;> first | (cases h; exact ⟨_, rfl, rfl⟩) | cases h
theorem ix_dict (hu : X.A.units + 1 < cLine) : IxR X (fun x y H Q => ∃ a v, x = .ref a ∧ DGet H a y (some v) ∧ Q v H) := by
  intro value slice pins s σ H x y v u Q I rx ry h hs
  obtain ⟨a, z, rfl, g, q⟩ := h
  cases rx
  exact tail_any (dict_typeIs I g) PySem.F.slot_dict_getitem.lookup (d_getItem hu I g ry fun w' s' I' r' => ⟨z, H, I', r', q⟩) hs
theorem ix_ok (hu : X.A.units + 1 < cLine) : IxR X (rOf2 X.K (fun v w mem => (ixW v w mem).map fun u => (u, mem))) := by
  intro value slice pins s σ H x y v u Q I rx ry h hs
  obtain ⟨a, b, c, mem, mem', o, hF, sim, ra, rb, hQ⟩ := h
  obtain ⟨c', hc, e⟩ := map_some_inv hF
  obtain ⟨rfl, rfl⟩ := Prod.mk.inj e
  have dic : ∀ {p : Addr} {vs : List (Key × V)} {kvs : List (Ky × D)} {k1 : D}, x = .ref p → Rd H p (.dK vs) → DRk X.K o.G kvs vs → DR X.K o.G k1 y → ((kyOf k1).bind fun k => (lkD kvs k).map W.d) = some c' →
      wpAny (model X.prog X.w) X.A (subscriptTail value slice v u) (EP X pins σ Q) X.xe s := by
    intro p vs kvs k1 ex hr dk rk hk
    obtain ⟨k, hk1, hk2⟩ := bind_some_inv hk
    obtain ⟨z, hz, ez⟩ := map_some_inv hk2
    subst ez
    have ey := kyOf_rel hk1 rk
    obtain ⟨zv, h1, h2⟩ := dk.some hz
    subst ey
    exact ix_dict hu value slice pins s σ H x _ v u Q I rx ry ⟨p, zv, ex, .inl ⟨vs, k.key, hr, rfl, h1.symm⟩, fin0 sim (show WR X.K o (.d z) zv from h2) hQ⟩ hs
  have lis : ∀ {p : Addr} {vs : List V} {xs : List D} {i : Int}, x = .ref p → SqL X.K H p vs → DRs X.K o.G xs vs → DR X.K o.G (.int i) y → (atI xs i).map W.d = some c' →
      wpAny (model X.prog X.w) X.A (subscriptTail value slice v u) (EP X pins σ Q) X.xe s := by
    intro p vs xs i ex hr dk rk hk
    obtain ⟨z, hz, ez⟩ := map_some_inv hk
    subst ez
    obtain ⟨zv, h1, h2⟩ := dk.at hz
    exact ix_list value slice pins s σ H x y v u Q I rx ry ⟨p, vs, i, zv, ex, DR.intV rk, hr, h1, fin0 sim (show WR X.K o (.d z) zv from h2) hQ⟩ hs
  unfold ixW at hc
  split at hc
  · obtain ⟨p, vs, ex, q2, dv⟩ := DR.lstV ra
    exact lis ex (Sub.seqL sim.sub q2) dv rb hc
  · obtain ⟨p, vs, ex, q2, dv⟩ := DR.tupV ra
    obtain ⟨z, hz, ez⟩ := map_some_inv hc
    subst ez
    obtain ⟨zv, h1, h2⟩ := dv.at hz
    exact ix_tup value slice pins s σ H x y v u Q I rx ry ⟨p, vs, _, zv, ex, DR.intV rb, Sub.seqT sim.sub q2, h1, fin0 sim (show WR X.K o (.d z) zv from h2) hQ⟩ hs
  · rename_i w i
    split at hc
    · rename_i hi
      subst hi
      obtain ⟨u', hu', eu⟩ := map_some_inv hc
      subst eu
      obtain ⟨ch, h1, h2⟩ := firstW_ok w u' hu'
      refine ix_str value slice pins s σ H x y v u Q I rx ry ⟨S.str [w], 0, ch, DR.strV ra, DR.intV rb, ?_, atI_nat (j := 0) h1, ?_⟩ hs
      · rw [sizeLine_eq]
        cases w <;> decide
      · rw [← h2]
        exact fin0 sim (show WR X.K o (.d (.str [u'])) (.str (S.str [u'])) from DR.str _) hQ
    · cases hc
  · obtain ⟨p, vs, ex, q2, dv⟩ := DR.dctV ra
    exact dic ex (Sub.dK sim.sub q2) dv rb hc
  · rename_i n k1
    split at hc
    · rename_i xs hm
      obtain ⟨vs, hv, dv⟩ := sim.cell n _ hm
      split at hc
      · exact lis ra.2 (.inl (.inl hv)) dv rb hc
      · cases hc
    · rename_i xs hm
      obtain ⟨vs, hv, dv⟩ := sim.cell n _ hm
      split at hc
      · rename_i i
        unfold atI at hc
        cases q : ixN xs.length i with
        | none => rw [q] at hc; cases hc
        | some j =>
          rw [q] at hc
          obtain ⟨zv, h1, h2⟩ := WRs.get dv (show xs[j]? = some c' from hc)
          refine ix_list value slice pins s σ H x y v u Q I rx ry ⟨_, vs, i, zv, ra.2, DR.intV rb, .inl (.inl hv), ?_, fin0 sim h2 hQ⟩ hs
          unfold atI
          rw [← WRs.length dv, q]
          exact h1
      · cases hc
    · rename_i kvs hm
      obtain ⟨vs, hv, dv⟩ := sim.cell n _ hm
      exact dic ra.2 (.inl hv) dv rb hc
    · rename_i kvs hm
      obtain ⟨vs, ob, hv, dv⟩ := sim.cell n _ hm
      exact dic ra.2 (.inr ⟨ob, hv⟩) dv rb hc
    · cases hc
  · cases hc

/-- o[i] = x -/
def rSet (K : PySem.W.Frag) : V → V → V → Hp → (Hp → Prop) → Prop := fun ov iv xv H Q => ∃ ow iw xw mem mem' o, setW ow iw xw mem = some mem' ∧ Sim K o mem H ∧ WR K o ow ov ∧ WR K o iw iv ∧ WR K o xw xv ∧
  ∀ H' o', o.Le o' → Sim K o' mem' H' → Q H'
theorem set_ok (hu : X.A.units + 1 < cLine) : PSet X (rSet X.K) := by
  intro pins s σ H ov iv xv ou iu xu Q I ro ri rx h
  obtain ⟨ow, iw, xw, mem, mem', o, hF, sim, wo, wi, wx, hQ⟩ := h
  unfold setW at hF
  split at hF
  · rename_i n k
    have hn := wo.1
    split at hF
    · rename_i ys hm
      obtain ⟨vs, hv, dv⟩ := sim.cell n _ hm
      split at hF
      · rename_i i
        obtain ⟨j, hj, ej⟩ := map_some_inv hF
        subst ej
        refine set_list pins s σ H ov iv xv ou iu xu Q I ro ri rx ⟨_, vs, i, j, wo.2, DR.intV wi, hv, by rw [← WRs.length dv]; exact hj, ?_⟩
        exact hQ _ o (Wo.Le.refl o) (sim.write hn (fun od u z => by simp_all) ⟨_, upd_same, WRs.set wx j dv⟩)
      · cases hF
    · rename_i kvs hm
      obtain ⟨vs, hv, dv⟩ := sim.cell n _ hm
      split at hF
      · rename_i x1
        obtain ⟨k', hk, hk2⟩ := bind_some_inv hF
        split at hk2
        · rename_i hl
          have em := Option.some.inj hk2
          subst em
          have ei := kyOf_rel hk wi
          have eo := wo.2
          subst ei eo
          obtain rfl : ou = Value.ref (o.at_ n) := ro
          refine d_setItem hu I (DPut.k hv ?_) ri rx fun s' I' => ⟨_, I', hQ _ o (Wo.Le.refl o) (sim.write hn (fun od u z => by simp_all) ⟨_, upd_same, dv.put k' wx⟩)⟩
          rw [← dv.length]
          exact lim_line hl
        · cases hk2
      · cases hF
    · cases hF
  · cases hF

/-! ### slices -/
theorem tailW_ok : ∀ w u : Wd, tailW w = some u → cutS (S.str [w]) (some 1) none = S.str [u] := by
  intro w u h
  cases w <;> first | (cases h; decide +kernel) | cases h
def rSlc (K : PySem.W.Frag) : V → Option Int → Option Int → Hp → VK → Prop := fun x lo hi H Q => ∃ v u mem o, slcW v lo hi = some u ∧ Sim K o mem H ∧ WR K o v x ∧
  ∀ z H' o', o.Le o' → Sim K o' mem H' → WR K o' u z → Q z H'
theorem slc_ok : SlR X (rSlc X.K) := by
  intro pins s σ H x v vl vu lo hi sl Q I rx hs pl pu h
  obtain ⟨a, u, mem, o, hF, sim, ra, hQ⟩ := h
  unfold slcW at hF
  split at hF
  · rename_i xs
    have ec := Option.some.inj hF
    subst ec
    obtain ⟨p, vs, ex, q2, dv⟩ := DR.lstV ra
    exact sl_list pins s σ H x v vl vu lo hi sl Q I rx hs pl pu ⟨p, vs, ex, Sub.seqL sim.sub q2, fun l hl => finL sim (dv.cut lo hi) hl hQ⟩
  · rename_i w
    split at hF
    · rename_i hh
      obtain ⟨rfl, rfl⟩ := hh
      obtain ⟨u', hu', eu⟩ := map_some_inv hF
      subst eu
      refine sl_str pins s σ H x v vl vu (some 1) none sl Q I rx hs pl pu ⟨S.str [w], DR.strV ra, ?_, ?_⟩
      · rw [sizeLine_eq]
        cases w <;> decide
      · rw [tailW_ok w u' hu']
        exact fin0 sim (show WR X.K o (.d (.str [u'])) (.str (S.str [u'])) from DR.str _) hQ
    · cases hF
  · cases hF

/-! ### built-in functions -/
def bltV : Blt → Value
  | .len => .builtin "len" | .abs => .builtin "abs" | .int => .type "int" | .str => .type "str" | .tuple => .type "tuple" | .tupleP => .type "tuple" | .list => .type "list" | .listM => .type "list"
  | .sorted => .builtin "sorted" | .dict => .type "dict" | .all => .builtin "all" | .dictEnum => .none
/-- one thing in a row -/
def one (F : W → Mem → Option (W × Mem)) : List W → Mem → Option (W × Mem)
  | [x], mem => F x mem
  | _, _ => none
theorem bls_ok {K : PySem.W.Frag} {G : Hp} : ∀ {xs : List D} {vs : List V} {bs : List Bool}, bls xs = some bs → DRs K G xs vs → vs = bs.map V.bl
  | [], _, _, e, q => by cases e; cases q; rfl
  | x :: xs, _, bs, e, q => by
    cases q with
    | cons q1 q2 =>
      cases q1 with
      | bl b =>
        obtain ⟨cs, h1, h2⟩ := map_some_inv (show (bls xs).map (b :: ·) = some bs from e)
        subst h2
        rw [bls_ok h1 q2]; rfl
      | _ => cases e
theorem each_D {K : PySem.W.Frag} {G H : Hp} (sub : Sub G H) {pins : List (Addr × Obj)} {σ : L2.St} {s : Shared} (hK : X.K = K) (I : Inv X pins σ H s) : ∀ {xs : List D} {vs : List V} {us : List Value}, xs.all shp = true → DRs K G xs vs → Vals vs us →
    PySem.W.EachIs (fun u x => ∃ v, RelV v u ∧ DR K G x v) us xs ∧ PySem.W.EachIs (fun u x => ∃ as, Reads s.heap u x.toP as) us xs
  | [], _, _, _, q, r => by cases q; cases r; exact ⟨.nil, .nil⟩
  | x :: xs, _, _, h, q, r => by
    cases q with
    | cons q1 q2 =>
      cases r with
      | cons r1 r2 =>
        rw [List.all_cons] at h
        obtain ⟨h1, h2⟩ := Bool.and_eq_true_iff.mp h
        obtain ⟨i1, i2⟩ := each_D sub hK I h2 q2 r2
        subst hK
        exact ⟨.cons ⟨_, r1, q1⟩ i1, .cons (Dp.reads I _ _ _ (DR.dp sub x _ (shp_ok h1).1 q1) r1) i2⟩
theorem of_each {K : PySem.W.Frag} {G : Hp} : ∀ {xs : List D} {us : List Value}, PySem.W.EachIs (fun u x => ∃ v, RelV v u ∧ DR K G x v) us xs → ∃ vs, Vals vs us ∧ DRs K G xs vs
  | _, _, .nil => ⟨[], .nil, .nil⟩
  | _, _, .cons ⟨v, r, q⟩ t => let ⟨vs, h1, h2⟩ := of_each t; ⟨v :: vs, .cons r h1, .cons q h2⟩
theorem sortD_inv {xs ys : List D} (h : sortD xs = some ys) : PySem.W.AllAlike (xs.map D.toP) ∧ xs.all shp = true ∧ PySem.W.Sortable (xs.map D.toP) ∧ xs.length < lim ∧ ys = xs.mergeSort (PySem.W.dataLe false D.toP) := by
  unfold sortD at h
  split at h
  · rename_i hc
    obtain ⟨h1, h2⟩ := Bool.and_eq_true_iff.mp hc
    obtain ⟨h3, h4⟩ := Bool.and_eq_true_iff.mp h2
    obtain ⟨h5, h6⟩ := Bool.and_eq_true_iff.mp h4
    refine ⟨fun d hd d' hd' => ?_, h3, ?_, of_decide_eq_true h6, (Option.some.inj h).symm⟩
    · obtain ⟨x, hx, rfl⟩ := List.mem_map.mp hd
      obtain ⟨y, hy, rfl⟩ := List.mem_map.mp hd'
      exact List.all_eq_true.mp (List.all_eq_true.mp h1 x hx) y hy
    · rcases Bool.or_eq_true_iff.mp h5 with h | h
      · refine .inl fun d hd => ?_
        obtain ⟨x, hx, rfl⟩ := List.mem_map.mp hd
        have := List.all_eq_true.mp h x hx
        unfold isTup1 at this
        split at this
        · rename_i y r
          exact ⟨_, _, rfl⟩
        · cases this
      · refine .inr fun d hd => ?_
        obtain ⟨x, hx, rfl⟩ := List.mem_map.mp hd
        have := List.all_eq_true.mp h x hx
        cases x with
        | tup _ => cases this
        | non => cases this
        | _ => exact ⟨(by intro e; cases e), (by intro xs e; cases e)⟩
  · cases h
/-- sorted: of a list's values, of a dict's keys, that are data alike -/
theorem sort_list (hu : X.A.units + 100 < cLine) {pins : List (Addr × Obj)} {s : Shared} {σ : L2.St} {H : Hp} {o : Wo} {mem : Mem} {p : Addr} {vs : List V} {xs ys : List D} {Q : VK} (I : Inv X pins σ H s) (sim : Sim X.K o mem H) (hp : SqL X.K H p vs) (dv : DRs X.K o.G xs vs)
    (hs : sortD xs = some ys) (hQ : ∀ z H' o', o.Le o' → Sim X.K o' mem H' → WR X.K o' (.d (.lst ys)) z → Q z H') : wpAny (model X.prog X.w) X.A (call (.builtin "sorted") [.ref p]) (EP X pins σ Q) X.xe s := by
  obtain ⟨hal, hsh, hso, hlen, rfl⟩ := sortD_inv hs
  obtain ⟨its, rv, pl, hz⟩ := I.list hp
  obtain ⟨e1, e2⟩ := each_D sim.sub rfl I hsh dv rv
  have hdp : ∀ b ∈ xs, X.A.units + 2 + (D.toP b).depth < cLine := fun b hb => by
    have h1 := shp_ok (List.all_eq_true.mp hsh b hb)
    have h2 := (Bool.and_eq_true_iff.mp h1.2.2).2
    have h3 := of_decide_eq_true h2
    omega
  refine PySem.W.sorted_data pl.isList e1 e2 hal hso (Nat.le_of_lt (lim_line hlen)) hdp fun out ho eo => ?_
  obtain ⟨ws, r1, d1⟩ := of_each eo
  have hsz := r1.length
  have hat : ∃ n, (sortedAll s.heap its out.toArray).get? (s.heap.objs.size + 1) = some { cls := .type "list", data := .seq out.toArray n } := by
    obtain ⟨n, e⟩ := sortedHeap_at (vs := its) (out := out.toArray) (PySem.W.copyHeap_at s.heap its)
    exact ⟨n, e⟩
  obtain ⟨n, hat⟩ := hat
  have hold : ∀ b u, s.heap.get? b = some u → (sortedAll s.heap its out.toArray).get? b = some u := fun b u e => by
    have hlt := Heap.lt_size e
    have h2 := PySem.W.copyHeap_old (vs := its) e
    show (sortedHeap (PySem.W.copyHeap s.heap its) (s.heap.objs.size + 1) its out.toArray).get? b = some u
    rw [sortedHeap_old (Nat.ne_of_lt (Nat.lt_succ_of_lt hlt)) (Heap.lt_size h2)]
    exact h2
  have hf : H (s.heap.objs.size + 1) = none := I.hok.fresh (Nat.le_succ _)
  refine ⟨.ref (s.heap.objs.size + 1), upd H (s.heap.objs.size + 1) (.lst ws), I.laid (t' := s.toks) hold (Nat.le_succ _) ⟨?_, out, n, r1, hat⟩, rfl, finL sim d1 hf hQ⟩
  rw [hsz, ho]
  exact Nat.le_of_lt (lim_line hlen)
theorem sort_dict (hc : X.calm = true) (hu : X.A.units + 100 < cLine) {pins : List (Addr × Obj)} {s : Shared} {σ : L2.St} {H : Hp} {o : Wo} {mem : Mem} {p : Addr} {vs : List (Key × V)} {kvs : List (Ky × D)} {ys : List D} {Q : VK} (I : Inv X pins σ H s) (sim : Sim X.K o mem H) (hp : Rd H p (.dK vs)) (dv : DRk X.K o.G kvs vs)
    (hs : sortD (kvs.map fun kv => kv.1.d) = some ys) (hQ : ∀ z H' o', o.Le o' → Sim X.K o' mem H' → WR X.K o' (.d (.lst ys)) z → Q z H') : wpAny (model X.prog X.w) X.A (call (.builtin "sorted") [.ref p]) (EP X pins σ Q) X.xe s := by
  obtain ⟨hal, hsh, hso, hlen, rfl⟩ := sortD_inv hs
  obtain ⟨z, lo, us, rel, dd⟩ := dk_rd I.hok hp
  obtain ⟨ep, hat⟩ := dd.dictAt
  have h16 : us.length ≤ sizeLine := by rw [← rel.length]; exact z
  refine Calls.call_function_entry kind_sorted plain_sorted
    entry_sorted (args_sorted1 _) ?_
  unfold Builtin.«sorted»
  refine wpAny_bind (m := checkCount "sorted" 1 1 _) (wpAny_pure ?_)
  refine wpAny_bind (PySem.W.kdu_collect (A := X.A.in1)
    (PySem.W.kdl_dict (knd := mixKind X.prog X.w) (kvs := us) (ep := ep) lo) (I.ok.hd hc) hat h16 fun h' tk acc hk hacc => ?_)
  have hv : Vals (us.map fun p => kV p.1) acc.toList := keys_at (by rw [Array.length_toList]; exact hacc.1) fun j v e => hacc.2 j v (by rw [← Array.getElem?_toList]; exact e)
  have ek : (vs.map fun kv => kV kv.1) = us.map fun p => kV p.1 := by
    have e := congrArg (List.map kV) rel.keys
    rw [List.map_map, List.map_map] at e
    exact e
  rw [← ek] at hv
  have I1 : Inv X pins σ H { s with heap := h', toks := tk } := I.kept hk
  have dk := dv.keys
  obtain ⟨e1, e2⟩ := each_D sim.sub rfl I1 hsh dk hv
  have hlen2 : acc.toList.length = (kvs.map fun kv => kv.1.d).length := by rw [← hv.length, ← dk.length]
  refine wpAny_bind (wpAny_newList ?_ (by rw [hlen2]; exact Nat.le_of_lt (lim_line hlen)))
  have hoL : (h'.push (seqObj "list" acc.toList.toArray 0)).get? h'.objs.size = some (seqObj "list" acc.toList.toArray 0) := Heap.get?_push_size _ rfl
  have hdp : ∀ b ∈ (kvs.map fun kv => kv.1.d), X.A.in1.units + 1 + (D.toP b).depth < cLine := fun b hb => by
    have h1 := shp_ok (List.all_eq_true.mp hsh b hb)
    have h2 := (Bool.and_eq_true_iff.mp h1.2.2).2
    have h3 := of_decide_eq_true h2
    show X.A.units + 1 + 1 + _ < _
    omega
  have e3 : PySem.W.EachIs (fun v b => ∃ as, Reads (h'.push (seqObj "list" acc.toList.toArray 0)) v (D.toP b) as ∧ h'.objs.size ∉ as) acc.toList (kvs.map fun kv => kv.1.d) := by
    have flatk : ∀ (l : List (Ky × D)) (us : List Value) (ws : List V), DRs X.K o.G (l.map fun kv => kv.1.d) ws → Vals ws us →
        PySem.W.EachIs (fun v b => ∃ as, Reads (h'.push (seqObj "list" acc.toList.toArray 0)) v (D.toP b) as ∧ h'.objs.size ∉ as) us (l.map fun kv => kv.1.d) := by
      intro l
      induction l with
      | nil => intro us ws q r; cases q; cases r; exact .nil
      | cons kv l ih =>
        intro us ws q r
        rw [List.map_cons] at q ⊢
        cases q with
        | cons q1 q2 =>
          cases r with
          | cons r1 r2 =>
            refine .cons ?_ (ih _ _ q2 r2)
            obtain ⟨k, x⟩ := kv
            cases k with
            | i k =>
              cases q1
              obtain ⟨t, rfl⟩ := r1
              exact ⟨[], Reads.int k t, by simp⟩
            | s k =>
              cases q1
              obtain ⟨t, rfl⟩ := r1
              exact ⟨[], Reads.str _ t, by simp⟩
    exact flatk kvs _ _ dk hv
  refine wpAny_bind (wpAny_holding (PySem.W.list_sort_data (A := X.A.in1) (s := { s with heap := h'.push (seqObj "list" acc.toList.toArray 0), toks := tk }) hoL e1 e3 hal hso (Nat.le_of_lt (lim_line hlen)) hdp fun out ho eo => ?_))
  obtain ⟨ws, r1, d1⟩ := of_each eo
  have hsz := r1.length
  obtain ⟨n, hat⟩ := sortedHeap_at (vs := acc.toList) (out := out.toArray) hoL
  have hf : H h'.objs.size = none := I1.hok.fresh (Nat.le_refl _)
  refine wpAny_pure ⟨_, rfl, .ref h'.objs.size, upd H h'.objs.size (.lst ws), I1.laid (t' := tk) (fun b u e => ?_) (Nat.le_refl _) ⟨?_, out, n, r1, hat⟩, rfl, finL sim d1 hf hQ⟩
  · have hb : b < h'.objs.size := Heap.lt_size e
    rw [sortedHeap_old (Nat.ne_of_lt hb) (by rw [size_push']; exact Nat.lt_succ_of_lt hb)]
    exact Heap.get?_push_of_some _ e
  · rw [hsz, ho]
    exact Nat.le_of_lt (lim_line hlen)
end
end Mi
end
section
set_option maxHeartbeats 1000000
/-! Mi7: built-in functions and methods by values, repr. -/
namespace Mi
open PySem PySem.Spec PyProof.Rows L2

section
variable {X : Cx}
/-! ### dict(a tuple of pairs) -/
theorem pairs_split {K : PySem.W.Frag} {G : Hp} : ∀ {xs : List D} {vs : List V} {kvs : List (Ky × D)}, pairsD xs = some kvs → DRs K G xs vs →
    ∃ (ps : List Addr) (ws : List (Key × V)), vs = ps.map V.ref ∧ Paired (fun p kv => SqT K G p [kV kv.1, kv.2]) ps ws ∧ DRk K G kvs ws
  | [], _, _, e, q => by cases e; cases q; exact ⟨[], [], rfl, .nil, .nil⟩
  | x :: xs, _, kvs, e, q => by
    cases q with
    | cons q1 q2 =>
      cases q1 with
      | tup t1 t2 =>
        rename_i a v2 ys
        match ys, t2, e with
        | [k, y], t2, e =>
          obtain ⟨k', hk, e2⟩ := bind_some_inv (show (kyOf k).bind (fun k => (pairsD xs).map ((k, y) :: ·)) = some kvs from e)
          obtain ⟨kvs', h1, h2⟩ := map_some_inv e2
          subst h2
          obtain ⟨ps, ws, i1, i2, i3⟩ := pairs_split h1 q2
          cases t2 with
          | cons u1 u2 =>
            cases u2 with
            | cons u3 u4 =>
              cases u4
              have ek := kyOf_rel hk u1
              subst ek
              exact ⟨a :: ps, (k'.key, _) :: ws, by rw [i1]; rfl, .cons t1 i2, .cons u3 i3⟩
        | [], _, e => cases e
        | [_], _, e => cases e
        | _ :: _ :: _ :: _, _, e => cases e
      | _ => cases e
theorem merge_ok {K : PySem.W.Frag} {G : Hp} : ∀ {kvs : List (Ky × D)} {ws : List (Key × V)}, DRk K G kvs ws → ∀ {acc : List (Ky × D)} {av : List (Key × V)}, DRk K G acc av →
    DRk K G (kvs.foldl (fun acc kv => putD acc kv.1 kv.2) acc) (mergeK av ws)
  | _, _, .nil, _, _, q => q
  | _, _, .cons q1 q2, _, _, q => by
    unfold mergeK
    rw [List.foldl_cons, List.foldl_cons]
    exact merge_ok q2 (q.put _ q1)
/-- one argument, one answer: the receiver of rOfN -/
theorem one_inv {F : W → Mem → Option (W × Mem)} {ws : List W} {mem : Mem} {r : W × Mem} (h : one F ws mem = some r) : ∃ w, ws = [w] ∧ F w mem = some r := by
  match ws, h with
  | [w], h => exact ⟨w, rfl, h⟩
theorem blt_ok (hc : X.calm = true) (hu : X.A.units + 100 < cLine) (b : Blt) (hb : b ≠ .dictEnum) (hd : b ≠ .dict) : CallR X (bltV b) (rOfN X.K (one (bltW b))) := by
  intro pins s σ H xs us Q I r h
  obtain ⟨ws, u, mem, mem', o, hF0, sim, rw_, hQ⟩ := h
  obtain ⟨w, rfl, hF⟩ := one_inv hF0
  clear hF0
  obtain ⟨x, rfl, rx⟩ : ∃ x, xs = [x] ∧ WR X.K o w x := by cases rw_ with | cons q1 q2 => cases q2; exact ⟨_, rfl, q1⟩
  unfold bltW at hF
  split at hF
  · -- len of a list
    obtain ⟨rfl, rfl⟩ := Prod.mk.inj (Option.some.inj hF)
    obtain ⟨p, vs, rfl, q2, dv⟩ := DR.lstV rx
    refine call_len_seq pins s σ H _ us Q I r ⟨p, vs, rfl, .inl (Sub.seqL sim.sub q2), ?_⟩
    rw [← dv.length]
    exact fin0 sim (show WR X.K o (.d (.int _)) (.int _) from DR.int _) hQ
  · obtain ⟨rfl, rfl⟩ := Prod.mk.inj (Option.some.inj hF)
    obtain ⟨p, vs, rfl, q2, dv⟩ := DR.tupV rx
    refine call_len_seq pins s σ H _ us Q I r ⟨p, vs, rfl, .inr (Sub.seqT sim.sub q2), ?_⟩
    rw [← dv.length]
    exact fin0 sim (show WR X.K o (.d (.int _)) (.int _) from DR.int _) hQ
  · obtain ⟨rfl, rfl⟩ := Prod.mk.inj (Option.some.inj hF)
    exact call_abs pins s σ H _ us Q I r ⟨_, by rw [DR.intV rx], fin0 sim (show WR X.K o (.d (.int _)) (.int _) from DR.int _) hQ⟩
  · obtain ⟨rfl, rfl⟩ := Prod.mk.inj (Option.some.inj hF)
    exact call_int1 pins s σ H _ us Q I r (.inl ⟨_, by rw [DR.intV rx], fin0 sim (show WR X.K o (.d (.int _)) (.int _) from DR.int _) hQ⟩)
  · obtain ⟨rfl, rfl⟩ := Prod.mk.inj (Option.some.inj hF)
    exact call_int_str pins s σ H _ us Q I r ⟨_, 0, by rw [DR.strV rx], by decide +kernel, by decide +kernel, fin0 sim (show WR X.K o (.d (.int _)) (.int _) from DR.int _) hQ⟩
  · obtain ⟨rfl, rfl⟩ := Prod.mk.inj (Option.some.inj hF)
    exact call_int_str pins s σ H _ us Q I r ⟨_, 1, by rw [DR.strV rx], by decide +kernel, by decide +kernel, fin0 sim (show WR X.K o (.d (.int _)) (.int _) from DR.int _) hQ⟩
  · obtain ⟨rfl, rfl⟩ := Prod.mk.inj (Option.some.inj hF)
    exact SkE.call_str_str pins s σ H _ us Q I r ⟨_, by rw [DR.strV rx], fin0 sim (show WR X.K o (.d (.str _)) (.str _) from DR.str _) hQ⟩
  · obtain ⟨rfl, rfl⟩ := Prod.mk.inj (Option.some.inj hF)
    obtain ⟨p, vs, rfl, q2, dv⟩ := DR.lstV rx
    exact call_tuple_of pins s σ H _ us Q I r ⟨p, vs, rfl, .inl ⟨Sub.seqL sim.sub q2, fun l hl => finT sim dv hl hQ⟩⟩
  · rename_i n
    split at hF
    · rename_i xs hm
      obtain ⟨rfl, rfl⟩ := Prod.mk.inj (Option.some.inj hF)
      obtain ⟨vs, hv, dv⟩ := sim.cell n _ hm
      obtain ⟨_, rfl⟩ := rx
      exact call_tuple_of pins s σ H _ us Q I r ⟨_, vs, rfl, .inl ⟨.inl (.inl hv), fun l hl => finT sim dv hl hQ⟩⟩
    · cases hF
  · -- a plain tuple of pairs
    obtain ⟨kvs, hk, e⟩ := map_some_inv hF
    obtain ⟨rfl, rfl⟩ := Prod.mk.inj e
    obtain ⟨p, vs, rfl, q2, dv⟩ := DR.lstV rx
    obtain ⟨ps, ws, rfl, hp, dk⟩ := pairs_split hk dv
    obtain ⟨z, rfl, rz⟩ := vals1 r
    cases rz
    obtain ⟨its, rv, pl, hz⟩ := I.list (Sub.seqL sim.sub q2)
    have ei := refs_at rv
    subst ei
    refine call_tuple_list pl.isList (fun h' kp => ?_) (by simpa using hz)
    have I1 : Inv X pins σ H { s with heap := h' } := I.kept (t' := s.toks) kp
    have nw : (h'.push { cls := .type "tuple", data := .seq (ps.map Value.ref).toArray }).get? h'.objs.size = some { cls := .type "tuple", data := .seq (ps.map Value.ref).toArray } := Heap.get?_push_size _ rfl
    have hf : H h'.objs.size = none := I1.hok.fresh (Nat.le_refl _)
    have I2 : Inv X pins σ (upd H h'.objs.size (.ext (PlT h'.objs.size (ps.map Value.ref)))) { s with heap := h'.push { cls := .type "tuple", data := .seq (ps.map Value.ref).toArray } } :=
      I1.laid (t' := s.toks) (fun b o e => Heap.get?_push_of_some _ e) (Nat.le_refl _) ⟨nw, ⟨_, nw⟩, fun h1 h2 k1 k2 => k2 _ k1⟩
    have le := Wo.keep_le (o := o) (a := h'.objs.size) (ob := .ext (PlT h'.objs.size (ps.map Value.ref))) (sim.sub.free hf)
    exact ⟨.ref h'.objs.size, _, I2, rfl, hQ _ _ _ le (sim.keep hf) (.prs upd_same (Paired.mapP hp fun p kv q => le.inc.seqT q) (DRk.mono le.inc _ _ dk))⟩
  · obtain ⟨rfl, rfl⟩ := Prod.mk.inj (Option.some.inj hF)
    obtain ⟨p, vs, rfl, q2, dv⟩ := DR.dctV rx
    exact call_listD hc pins s σ H _ us Q I r ⟨p, vs, rfl, Sub.dK sim.sub q2, fun l hl => finL sim dv.keys hl hQ⟩
  · obtain ⟨rfl, rfl⟩ := Prod.mk.inj (Option.some.inj hF)
    obtain ⟨p, vs, rfl, q2, dv⟩ := DR.lstV rx
    exact call_list_of pins s σ H _ us Q I r ⟨p, vs, rfl, .inl (Sub.seqL sim.sub q2), fun l hl => finL sim dv hl hQ⟩
  · rename_i n
    split at hF
    · rename_i kvs hm
      obtain ⟨rfl, rfl⟩ := Prod.mk.inj (Option.some.inj hF)
      obtain ⟨vs, hv, dv⟩ := sim.cell n _ hm
      obtain ⟨_, rfl⟩ := rx
      exact call_listD hc pins s σ H _ us Q I r ⟨_, vs, rfl, .inl hv, fun l hl => finL sim dv.keys hl hQ⟩
    · cases hF
  · obtain ⟨rfl, rfl⟩ := Prod.mk.inj (Option.some.inj hF)
    obtain ⟨p, vs, rfl, q2, dv⟩ := DR.lstV rx
    exact call_list_of pins s σ H _ us Q I r ⟨p, vs, rfl, .inl (Sub.seqL sim.sub q2), fun l hl => finC sim (c := .lst _) ⟨vs, upd_same, dv⟩ hl hQ⟩
  · obtain ⟨ys, hs, e⟩ := map_some_inv hF
    obtain ⟨rfl, rfl⟩ := Prod.mk.inj e
    obtain ⟨p, vs, rfl, q2, dv⟩ := DR.lstV rx
    obtain ⟨z, rfl, rz⟩ := vals1 r
    cases rz
    exact sort_list hu I sim (Sub.seqL sim.sub q2) dv hs hQ
  · obtain ⟨ys, hs, e⟩ := map_some_inv hF
    obtain ⟨rfl, rfl⟩ := Prod.mk.inj e
    obtain ⟨p, vs, rfl, q2, dv⟩ := DR.dctV rx
    obtain ⟨z, rfl, rz⟩ := vals1 r
    cases rz
    exact sort_dict hc hu I sim (Sub.dK sim.sub q2) dv hs hQ
  · exact absurd rfl hd
  · obtain ⟨bs, hs, e⟩ := map_some_inv hF
    obtain ⟨rfl, rfl⟩ := Prod.mk.inj e
    obtain ⟨p, vs, rfl, q2, dv⟩ := DR.lstV rx
    have ev := bls_ok hs dv
    subst ev
    exact cr_all hc pins s σ H _ us Q I r ⟨p, bs, rfl, Sub.seqL sim.sub q2, fin0 sim (show WR X.K o (.d (.bl _)) (.bl _) from DR.bl _) hQ⟩
  · exact absurd rfl hb
  · exact absurd rfl hb
  · cases hF

theorem dict_ok (hc : X.calm = true) : CallR X (.type "dict") (rOfN X.K (one (bltW .dict))) := by
  intro pins s σ H xs us Q I r h
  obtain ⟨ws, u, mem, mem', o, hF0, sim, rw_, hQ⟩ := h
  obtain ⟨w, rfl, hF⟩ := one_inv hF0
  clear hF0
  obtain ⟨x, rfl, rx⟩ : ∃ x, xs = [x] ∧ WR X.K o w x := by cases rw_ with | cons q1 q2 => cases q2; exact ⟨_, rfl, q1⟩
  obtain ⟨kvs, rfl, hG⟩ : ∃ kvs, w = .d (.prs kvs) ∧ (if kvs.length < lim then some (W.r mem.length, mem ++ [.dct (kvs.foldl (fun acc kv => putD acc kv.1 kv.2) [])]) else none) = some (u, mem') := by
    match w, hF with
    | .d (.prs kvs), hF => exact ⟨_, rfl, hF⟩
  by_cases hsz : kvs.length < lim
  case neg => rw [if_neg hsz] at hG; cases hG
  rw [if_pos hsz] at hG
  obtain ⟨rfl, rfl⟩ := Prod.mk.inj (Option.some.inj hG)
  obtain ⟨a, ps, zs, rfl, q1, q2, dk⟩ : ∃ a ps zs, x = .ref a ∧ o.G a = some (.ext (PlT a (ps.map Value.ref))) ∧ PlTs X.K o.G ps zs ∧ DRk X.K o.G kvs zs := by
    cases (show DR X.K o.G (.prs kvs) x from rx) with
    | prs q1 q2 q3 => exact ⟨_, _, _, rfl, q1, q2, q3⟩
  obtain ⟨z, rfl, rz⟩ := vals1 r
  cases rz
  have hH : H a = some (.ext (PlT a (ps.map Value.ref))) := by
    rcases sim.sub _ _ q1 with h | ⟨_, _, h, _⟩
    · exact h
    · cases h
  have hpt : s.heap.get? a = some { cls := .type "tuple", data := .seq (ps.map Value.ref).toArray } := (I.hok a _ hH).1
  have hp' : Paired (fun p (kv : Key × V) => SqT X.K H p [kV kv.1, kv.2]) ps zs := Paired.mapP q2 fun p kv q => Sub.seqT sim.sub q
  obtain ⟨prs, rel, hl, hpr⟩ := pairs_of I hp'
  -- the keys' values
  have hkey : ∀ j (q' : Key × Value), prs[j]? = some q' → ∃ (b : Addr) (u : Value), ps[j]? = some b ∧ IsTup s.heap b #[u, q'.2] ∧ keyIs q'.1 u = true := hpr
  have hex : ∃ kps : List (Value × Value), kps.length = prs.length ∧ ∀ (j : Nat) (q' : Key × Value), prs[j]? = some q' → ∃ (b : Addr) (u : Value), ps[j]? = some b ∧ IsTup s.heap b #[u, q'.2] ∧ keyIs q'.1 u = true ∧ kps[j]? = some (u, q'.2) := by
    have gen : ∀ (prs : List (Key × Value)) (ps : List Addr), (∀ (j : Nat) (q' : Key × Value), prs[j]? = some q' → ∃ (b : Addr) (u : Value), ps[j]? = some b ∧ IsTup s.heap b #[u, q'.2] ∧ keyIs q'.1 u = true) →
        ∃ kps : List (Value × Value), kps.length = prs.length ∧ ∀ (j : Nat) (q' : Key × Value), prs[j]? = some q' → ∃ (b : Addr) (u : Value), ps[j]? = some b ∧ IsTup s.heap b #[u, q'.2] ∧ keyIs q'.1 u = true ∧ kps[j]? = some (u, q'.2) := by
      intro prs
      induction prs with
      | nil => intro ps _; exact ⟨[], rfl, fun j q' e => by simp at e⟩
      | cons p prs ih =>
        intro ps h
        obtain ⟨b, u, e1, e2, e3⟩ := h 0 p rfl
        obtain ⟨kps, l, k⟩ := ih (ps.drop 1) fun j q' e => by
          obtain ⟨b, u, e1, e2, e3⟩ := h (j + 1) q' (by simpa using e)
          exact ⟨b, u, by rw [List.getElem?_drop, Nat.add_comm]; exact e1, e2, e3⟩
        refine ⟨(u, p.2) :: kps, by simp [l], fun j q' e => ?_⟩
        cases j with
        | zero =>
          have e' : p = q' := Option.some.inj e
          subst e'
          exact ⟨b, u, e1, e2, e3, rfl⟩
        | succ j =>
          obtain ⟨b, u, e1, e2, e3, e4⟩ := k j q' (by simpa using e)
          exact ⟨b, u, by rw [List.getElem?_drop, Nat.add_comm] at e1; exact e1, e2, e3, by simpa using e4⟩
    exact gen prs ps hkey
  obtain ⟨kps, hl2, hk2⟩ := hex
  have hlen : zs.length = prs.length := Paired.length rel
  obtain ⟨hz1, hz2⟩ : zs.length = ps.length ∧ True := ⟨by rw [hlen, hl], trivial⟩
  refine PySem.call_dict_pairs (knd := mixKind X.prog X.w) (kvs := prs) (PySem.PairArg.tuple a (ps.map Value.ref).toArray (fun j => ps.getD j 0) kps) (I.ok.hd hc) ⟨⟨_, _, hpt, rfl, rfl, rfl⟩, ?_, fun j k v hj => ?_⟩ ⟨hl2.symm, fun i key v hr => ?_⟩ ?_ fun h' tk hd' hk => ?_
  · rw [List.size_toArray, List.length_map, hl2, hl]
  · have hjl : j < prs.length := by rw [← hl2]; exact (List.getElem?_eq_some_iff.mp hj).1
    obtain ⟨b, u, e1, e2, e3, e4⟩ := hk2 j _ (List.getElem?_eq_getElem hjl)
    rw [hj] at e4
    have e5 := Option.some.inj e4
    have e6 : ps.getD j 0 = b := by rw [List.getD_eq_getElem?_getD, e1]; rfl
    have e7 : k = u := congrArg Prod.fst e5
    have e8 : v = prs[j].2 := congrArg Prod.snd e5
    refine ⟨by simp [e1, e6], ?_⟩
    rw [show (fun j => ps.getD j 0) j = b from e6, e7, e8]
    exact .inl e2
  · have hr : kps[i]? = some (key, v) := hr
    have hjl : i < prs.length := by rw [← hl2]; exact (List.getElem?_eq_some_iff.mp hr).1
    obtain ⟨b, u, e1, e2, e3, e4⟩ := hk2 i _ (List.getElem?_eq_getElem hjl)
    rw [hr] at e4
    have e5 := Option.some.inj e4
    have e7 : key = u := congrArg Prod.fst e5
    have e8 : v = prs[i].2 := congrArg Prod.snd e5
    rw [e7, e8]
    exact ⟨_, List.getElem?_eq_getElem hjl, e3⟩
  · rw [hl2, ← hlen, ← dk.length]
    exact Nat.le_of_lt (lim_line hsz)
  · have hm : (s.heap.objs.size == sysModules) = false := beq_eq_false_iff_ne.mpr (Nat.ne_of_gt I.big)
    have hle : (mergeK [] zs).length ≤ sizeLine := by
      refine Nat.le_trans (length_mergeK zs []) ?_
      rw [List.length_nil, Nat.zero_add, ← dk.length]
      exact Nat.le_of_lt (lim_line hsz)
    have hf : H s.heap.objs.size = none := I.hok.fresh (Nat.le_refl _)
    exact ⟨.ref s.heap.objs.size, upd H s.heap.objs.size (.dK (mergeK [] zs)), I.laid (t' := tk) (fun b o e => hk b o (by simp) e) (Nat.le_refl _) ⟨hle, hm, merged [] prs, KV.merge rel .nil, hd'⟩, rfl,
      finC sim (c := .dct _) ⟨_, upd_same, merge_ok dk .nil⟩ hf hQ⟩
end
end Mi
end
section
set_option maxHeartbeats 1000000
/-! Mi8: repr of data, built-in methods by values. -/
namespace Mi
open PySem PySem.Spec PyProof.Rows L2

/-! ### the text of data -/
theorem smInt {i : Int} (h : smD (.int i) = true) : i.natAbs.log2 < 66 := by
  have h1 : -36893488147419103232 ≤ i ∧ i ≤ 36893488147419103232 := of_decide_eq_true h
  by_cases h0 : i.natAbs = 0
  · rw [h0]; decide
  · exact (Nat.log2_lt h0).mpr (by omega)
mutual
theorem show_D : ∀ x : D, smD x = true → okD x = true → PyData.showable x.toP = true
  | .non, _, _ => rfl
  | .bl _, _, _ => rfl
  | .int i, h, _ => by
    have h1 := smInt h
    show decide (i.natAbs.log2 < 1920) = true
    exact decide_eq_true (by omega)
  | .str _, _, _ => rfl
  | .tup xs, h, k => show_Ds xs h k
  | .lst xs, h, k => show_Ds xs h k
  | .dct _, _, k => by cases k
  | .prs _, _, k => by cases k
theorem show_Ds : ∀ xs : List D, smDs xs = true → okDs xs = true → PyData.showableAll (D.toPs xs) = true
  | [], _, _ => rfl
  | x :: xs, h, k => by
    have h : (smD x && smDs xs) = true := h
    have k : (okD x && okDs xs) = true := k
    obtain ⟨h1, h2⟩ := Bool.and_eq_true_iff.mp h
    obtain ⟨k1, k2⟩ := Bool.and_eq_true_iff.mp k
    show (PyData.showable x.toP && PyData.showableAll (D.toPs xs)) = true
    rw [show_D x h1 k1, show_Ds xs h2 k2]; rfl
end
theorem shown_int70 {i : Int} (h : smD (.int i) = true) : (PyData.shown (.int i)).length ≤ 70 := by
  have e := int_text_length_le (k := 66) (by decide) (smInt h)
  show (Str.ofString (toString i)).length ≤ 70
  rw [PySem.ofString_length]
  omega
mutual
theorem short_D : ∀ x : D, smD x = true → PyData.intsShort 70 x.toP = true
  | .non, _ => rfl
  | .bl _, _ => rfl
  | .int i, h => decide_eq_true (shown_int70 h)
  | .str _, _ => rfl
  | .tup xs, h => short_Ds xs h
  | .lst xs, h => short_Ds xs h
  | .dct _, _ => rfl
  | .prs _, _ => rfl
theorem short_Ds : ∀ xs : List D, smDs xs = true → PyData.intsShortAll 70 (D.toPs xs) = true
  | [], _ => rfl
  | x :: xs, h => by
    have h : (smD x && smDs xs) = true := h
    obtain ⟨h1, h2⟩ := Bool.and_eq_true_iff.mp h
    show (PyData.intsShort 70 x.toP && PyData.intsShortAll 70 (D.toPs xs)) = true
    rw [short_D x h1, short_Ds xs h2]; rfl
end
theorem Scs_len : ∀ x : List Wd, (S.cs x).length ≤ 7 * x.length
  | [] => Nat.le_refl _
  | [w] => by
    show w.cs.length ≤ 7 * 1
    cases w <;> decide
  | w :: u :: r => by
    have ih := Scs_len (u :: r)
    have hw : w.cs.length ≤ 6 := by cases w <;> decide
    show (w.cs ++ 32 :: S.cs (u :: r)).length ≤ 7 * (u :: r).length + 7
    rw [List.length_append, List.length_cons]
    omega
mutual
theorem weight_D : ∀ x : D, smD x = true → okD x = true → PyData.weight x.toP ≤ szD x
  | .non, _, _ => Nat.le_refl _
  | .bl _, _, _ => Nat.le_refl _
  | .int i, h, _ => by
    have h1 := smInt h
    show (if i == 0 then 0 else i.natAbs.log2 + 1) ≤ 70
    split <;> omega
  | .str x, _, _ => by
    show (S.cs x).toArray.size ≤ 7 * x.length
    rw [List.size_toArray]
    exact Scs_len x
  | .tup xs, h, k => weight_Ds xs h k
  | .lst xs, h, k => weight_Ds xs h k
  | .dct _, _, k => by cases k
  | .prs _, _, k => by cases k
theorem weight_Ds : ∀ xs : List D, smDs xs = true → okDs xs = true → PyData.weightAll (D.toPs xs) ≤ szDs xs
  | [], _, _ => Nat.le_refl _
  | x :: xs, h, k => by
    have h : (smD x && smDs xs) = true := h
    have k : (okD x && okDs xs) = true := k
    obtain ⟨h1, h2⟩ := Bool.and_eq_true_iff.mp h
    obtain ⟨k1, k2⟩ := Bool.and_eq_true_iff.mp k
    have i1 := weight_D x h1 k1
    have i2 := weight_Ds xs h2 k2
    show PyData.weight x.toP + 1 + PyData.weightAll (D.toPs xs) ≤ szD x + 1 + szDs xs
    omega
end
mutual
theorem eqS_eq : ∀ x y : D, eqS x y = true → x = y
  | .non, y, h => by cases y <;> first | rfl | cases h
  | .bl a, y, h => by cases y <;> first | (rw [eq_of_beq (show (a == _) = true from h)]) | cases h
  | .int a, y, h => by cases y <;> first | (rw [eq_of_beq (show (a == _) = true from h)]) | cases h
  | .str a, y, h => by cases y <;> first | (rw [of_decide_eq_true (show decide (a = _) = true from h)]) | cases h
  | .lst xs, y, h => by cases y <;> first | (rw [eqSs_eq xs _ (show eqSs xs _ = true from h)]) | cases h
  | .tup xs, y, h => by cases y <;> first | (rw [eqSs_eq xs _ (show eqSs xs _ = true from h)]) | cases h
  | .dct _, y, h => by cases y <;> cases h
  | .prs _, y, h => by cases y <;> cases h
theorem eqSs_eq : ∀ xs ys : List D, eqSs xs ys = true → xs = ys
  | [], [], _ => rfl
  | [], _ :: _, h => by cases h
  | _ :: _, [], h => by cases h
  | x :: xs, y :: ys, h => by
    have h : (eqS x y && eqSs xs ys) = true := h
    obtain ⟨h1, h2⟩ := Bool.and_eq_true_iff.mp h
    rw [eqS_eq x y h1, eqSs_eq xs ys h2]
end
section
variable {X : Cx}
theorem repr_ok (hg : X.A.guards = some []) (hu : X.A.units + 100 < cLine) : CallR X (.builtin "repr") (fun xs H Q => ∃ (x : V) (d : D) (o : Wo) (mem : Mem), xs = [x] ∧ DR X.K o.G d x ∧ Sim X.K o mem H ∧ rpD d = true ∧ Q (.str (PyData.shown d.toP)) H) := by
  intro pins s σ H xs us Q I r h
  obtain ⟨x, d, o, mem, rfl, q, sim, hr, hQ⟩ := h
  obtain ⟨u, rfl, rx⟩ := vals1 r
  unfold rpD at hr
  obtain ⟨h1, h2⟩ := Bool.and_eq_true_iff.mp hr
  obtain ⟨h3, h4⟩ := Bool.and_eq_true_iff.mp h2
  obtain ⟨k1, k2, k3⟩ := shp_ok h1
  have hs := show_D d h3 k1
  have hcan := canLay_D d k1
  have hw := weight_D d h3 k1
  have hsz : szD d ≤ 200000 := of_decide_eq_true h4
  have hlen : (PyData.shown d.toP).length ≤ sizeLine := by
    have e := PyData.shown_le 70 (by decide) d.toP (PyData.leavesShort_of_canLay0 70 d.toP hcan (short_D d h3))
    rw [sizeLine_eq]
    omega
  have hdp := (Bool.and_eq_true_iff.mp k3).2
  have hdp := of_decide_eq_true hdp
  obtain ⟨as, rd⟩ := Dp.reads I d.toP x u (DR.dp sim.sub d x k1 q) rx
  have ref : ∀ a, u = .ref a → wpAny (model X.prog X.w) X.A (call (.builtin "repr") [u]) (EP X pins σ Q) X.xe s := fun a e => by
    subst e
    refine repr_of_reads' rd hs (PyData.noDict_hsm (PyData.hasDict_of_canLay _ hcan)) hg (by omega) (fun _ _ z => z) (fun h' t tk hk => ?_) hlen
    exact ⟨.str _, H, I.kept (t' := tk) hk, ⟨_, rfl⟩, hQ⟩
  cases q with
  | non =>
    cases rx
    exact PySem.P.repr_of_none ⟨.str _, H, I.tok _, ⟨_, rfl⟩, hQ⟩
  | bl b =>
    cases rx
    exact PySem.P.repr_of_bool ⟨.str _, H, I.tok _, ⟨_, rfl⟩, hQ⟩
  | int i =>
    obtain ⟨t, rfl⟩ := rx
    exact PySem.P.repr_of_int (by have := smInt h3; omega) ⟨.str _, H, I.tok _, ⟨_, rfl⟩, hQ⟩
  | str z =>
    obtain ⟨t, rfl⟩ := rx
    exact PySem.P.repr_of_str ⟨.str _, H, I.tok _, ⟨_, rfl⟩, hQ⟩ hlen
  | tup q1 q2 => exact ref _ rx
  | lst q1 q2 => exact ref _ rx
  | dct q1 q2 => cases k1
  | prs q1 q2 q3 => cases k1

/-! ### built-in methods -/
def mthId : Mth → String
  | .append => "list.append" | .pop => "list.pop" | .popAt => "list.pop" | .get => "dict.get" | .setdefault => "dict.setdefault" | .split => "str.split" | .splitq => "str.split"
  | .lower => "str.lower" | .isupper => "str.isupper" | .bitlen => "int.bit_length"
def mthT : Mth → String
  | .append => "list" | .pop => "list" | .popAt => "list" | .get => "dict" | .setdefault => "dict" | .split => "str" | .splitq => "str"
  | .lower => "str" | .isupper => "str" | .bitlen => "int"
theorem ty_ok {m : Mth} {w : W} {mem : Mem} {K : PySem.W.Frag} {o : Wo} {H : Hp} {x : V} (h : mthTy m w mem = true) (sim : Sim K o mem H) (r : WR K o w x) : tyV K (mthT m) x H := by
  have lst : ∀ {n : Nat}, w = .r n → (match mem[n]? with | some (.lst _) => true | some (.obj _) => true | _ => false) = true → tyV K "list" x H := fun {n} e hm => by
    subst e
    obtain ⟨_, rfl⟩ := r
    split at hm
    · rename_i xs hq
      obtain ⟨vs, hv, _⟩ := sim.cell n _ hq
      exact .inl ⟨rfl, vs, .inl (.inl hv)⟩
    · rename_i xs hq
      obtain ⟨vs, hv, _⟩ := sim.cell n _ hq
      exact .inl ⟨rfl, vs, .inl (.inl hv)⟩
    · cases hm
  have dic : ∀ {n : Nat}, w = .r n → (match mem[n]? with | some (.dct _) => true | _ => false) = true → tyV K "dict" x H := fun {n} e hm => by
    subst e
    obtain ⟨_, rfl⟩ := r
    split at hm
    · rename_i xs hq
      obtain ⟨vs, hv, _⟩ := sim.cell n _ hq
      exact .inr (.inr (.inl ⟨rfl, .inl ⟨vs, hv⟩⟩))
    · cases hm
  unfold mthTy at h
  split at h
  · exact lst rfl h
  · exact lst rfl h
  · exact lst rfl h
  · exact dic rfl h
  · exact dic rfl h
  · rw [DR.strV r]; rfl
  · rw [DR.strV r]; rfl
  · rw [DR.strV r]; rfl
  · rw [DR.strV r]; rfl
  · rw [DR.intV r]; rfl
  · cases h
theorem lower_ok : ∀ w u : Wd, lowerW w = some u → Txt.lower (S.str [w]) = S.str [u] := by
  intro w u h
  cases w <;> first | (cases h; decide +kernel) | cases h
theorem upper_ok : ∀ w : Wd, Txt.isupper (S.str [w]) = upperW w := by
  intro w
  cases w <;> decide +kernel
theorem one_len (w : Wd) : (S.str [w]).length ≤ 7 := by cases w <;> decide
theorem lastV {K : PySem.W.Frag} {G : Hp} {ys : List D} {vs : List V} {y : D} (dv : DRs K G ys vs) (e : ys[ys.length - 1]? = some y) : ∃ v, vs[vs.length - 1]? = some v ∧ DR K G y v := by
  obtain ⟨v, h1, h2⟩ := dv.get e
  exact ⟨v, by rw [← dv.length]; exact h1, h2⟩
theorem WRs.dropLast {K : PySem.W.Frag} {o : Wo} {ws : List W} {vs : List V} (r : WRs K o ws vs) : WRs K o ws.dropLast vs.dropLast := by
  rw [List.dropLast_eq_take, List.dropLast_eq_take, WRs.length r]
  exact WRs.take _ r
theorem meth_ok (hu : X.A.units + 1 < cLine) (m : Mth) (h1 : m ≠ .split) (h2 : m ≠ .splitq) : MtR X (mthId m) (rOfM X.K (methW m)) := by
  intro pins s σ H x xs v us Q I rx rs h
  obtain ⟨w, ws, u, mem, mem', o, hF, sim, rw_, rws, hQ⟩ := h
  unfold methW at hF
  split at hF
  · -- append
    rename_i n y
    have hn := rw_.1
    obtain ⟨vy, rfl, ry⟩ : ∃ vy, xs = [vy] ∧ DR X.K o.G y vy := by cases rws with | cons q1 q2 => cases q2; exact ⟨_, rfl, q1⟩
    split at hF
    · rename_i ys hm
      obtain ⟨vs, hv, dv⟩ := sim.cell n _ hm
      split at hF
      · rename_i hl
        obtain ⟨rfl, rfl⟩ := Prod.mk.inj (Option.some.inj hF)
        refine mt_append pins s σ H x _ v us Q I rx rs ⟨_, vs, vy, rw_.2, rfl, hv, by rw [← dv.length]; exact lim_line hl, ?_⟩
        exact hQ _ _ o (Wo.Le.refl o) (sim.write hn (fun od u z => by simp_all) ⟨_, upd_same, dv.append (.cons ry .nil)⟩) (show DR X.K o.G .non .non from .non)
      · cases hF
    · cases hF
  · -- pop
    rename_i n
    have hn := rw_.1
    obtain rfl : xs = [] := by cases rws; rfl
    split at hF
    · rename_i ys hm
      obtain ⟨vs, hv, dv⟩ := sim.cell n _ hm
      split at hF
      · rename_i y hy
        obtain ⟨rfl, rfl⟩ := Prod.mk.inj (Option.some.inj hF)
        obtain ⟨vy, e1, e2⟩ := lastV dv hy
        refine mt_pop pins s σ H x _ v us Q I rx rs ⟨_, vs, vy, rw_.2, rfl, hv, e1, ?_⟩
        exact hQ _ _ o (Wo.Le.refl o) (sim.write hn (fun od u z => by simp_all) ⟨_, upd_same, dv.dropLast⟩) e2
      · cases hF
    · rename_i ys hm
      obtain ⟨vs, hv, dv⟩ := sim.cell n _ hm
      split at hF
      · rename_i y hy
        obtain ⟨rfl, rfl⟩ := Prod.mk.inj (Option.some.inj hF)
        obtain ⟨vy, e1, e2⟩ := WRs.get dv hy
        refine mt_pop pins s σ H x _ v us Q I rx rs ⟨_, vs, vy, rw_.2, rfl, hv, by rw [← WRs.length dv]; exact e1, ?_⟩
        exact hQ _ _ o (Wo.Le.refl o) (sim.write hn (fun od u z => by simp_all) ⟨_, upd_same, WRs.dropLast dv⟩) e2
      · cases hF
    · cases hF
  · -- pop(0)
    rename_i n
    have hn := rw_.1
    obtain rfl : xs = [.int 0] := by
      cases rws with
      | cons q1 q2 =>
        cases q2
        rw [DR.intV q1]
    split at hF
    · rename_i y ys hm
      obtain ⟨vs, hv, dv⟩ := sim.cell n _ hm
      obtain ⟨rfl, rfl⟩ := Prod.mk.inj (Option.some.inj hF)
      cases dv with
      | cons q1 q2 =>
        refine mt_popAt pins s σ H x _ v us Q I rx rs ⟨_, _, 0, 0, _, rw_.2, rfl, hv, by decide, by decide, seqIndex_of (by decide) (by rw [List.length_cons]; omega), rfl, ?_⟩
        exact hQ _ _ o (Wo.Le.refl o) (sim.write hn (fun od u z => by simp_all) ⟨_, upd_same, q2⟩) q1
    · cases hF
  · -- get
    rename_i n k
    obtain ⟨vk, rfl, rk⟩ : ∃ vk, xs = [vk] ∧ DR X.K o.G k vk := by cases rws with | cons q1 q2 => cases q2; exact ⟨_, rfl, q1⟩
    split at hF
    · rename_i kvs hm
      obtain ⟨vs, hv, dv⟩ := sim.cell n _ hm
      obtain ⟨k', hk, e⟩ := map_some_inv hF
      obtain ⟨rfl, rfl⟩ := Prod.mk.inj e
      have ek := kyOf_rel hk rk
      have ex := rw_.2
      subst ek ex
      obtain rfl : v = Value.ref (o.at_ n) := rx
      obtain ⟨z, rfl, rz⟩ := vals1 rs
      refine d_get1 hu I (.inl ⟨vs, k'.key, .inl hv, rfl, rfl⟩ : DGet H (o.at_ n) (kV k'.key) (valV vs k'.key)) rz fun w' s' I' r' => ⟨_, H, I', r', ?_⟩
      refine fin0 sim ?_ hQ
      cases e3 : lkD kvs k' with
      | none =>
        rw [dv.none e3]
        exact (show DR X.K o.G .non .non from .non)
      | some y =>
        obtain ⟨vy, e4, e5⟩ := dv.some e3
        rw [e4]
        exact e5
    · cases hF
  · -- setdefault
    rename_i n k y
    have hn := rw_.1
    obtain ⟨vk, vy, rfl, rk, ry⟩ : ∃ vk vy, xs = [vk, vy] ∧ DR X.K o.G k vk ∧ DR X.K o.G y vy := by
      cases rws with
      | cons q1 q2 =>
        cases q2 with
        | cons q3 q4 => cases q4; exact ⟨_, _, rfl, q1, q3⟩
    split at hF
    · rename_i kvs hm
      obtain ⟨vs, hv, dv⟩ := sim.cell n _ hm
      obtain ⟨k', hk, hF⟩ := bind_some_inv hF
      split at hF
      · rename_i hl
        have ek := kyOf_rel hk rk
        have ex := rw_.2
        subst ek ex
        obtain rfl : v = Value.ref (o.at_ n) := rx
        obtain ⟨z1, z2, rfl, rz1, rz2⟩ := vals2 rs
        split at hF
        · rename_i y' hy
          obtain ⟨rfl, rfl⟩ := Prod.mk.inj (Option.some.inj hF)
          obtain ⟨v2, e4, e5⟩ := dv.some hy
          refine d_setd I hv rz1 rz2 (by rw [← dv.length]; exact lim_line hl) (fun v3 h3 w' s' I' r' => ?_) (fun h3 => by rw [e4] at h3; cases h3)
          rw [e4] at h3
          cases h3
          exact ⟨_, H, I', r', fin0 sim (show WR X.K o (.d y') v2 from e5) hQ⟩
        · rename_i hy
          obtain ⟨rfl, rfl⟩ := Prod.mk.inj (Option.some.inj hF)
          have e4 := dv.none hy
          refine d_setd I hv rz1 rz2 (by rw [← dv.length]; exact lim_line hl) (fun v3 h3 => by rw [e4] at h3; cases h3) (fun _ w' s' I' r' => ?_)
          refine ⟨vy, _, I', r', hQ _ _ o (Wo.Le.refl o) (sim.write hn (fun od u z => by simp_all) ⟨_, upd_same, ?_⟩) ry⟩
          rw [putK_new _ e4]
          exact dv.append (.cons ry .nil)
      · cases hF
    · cases hF
  · exact absurd rfl h1
  · exact absurd rfl h2
  · -- lower
    rename_i w1
    obtain ⟨u', hu', e⟩ := map_some_inv hF
    obtain ⟨rfl, rfl⟩ := Prod.mk.inj e
    obtain rfl : xs = [] := by cases rws; rfl
    refine mt_lower pins s σ H x _ v us Q I rx rs ⟨S.str [w1], DR.strV rw_, rfl, Nat.le_trans (one_len w1) (by decide), ?_⟩
    rw [lower_ok w1 u' hu']
    exact fin0 sim (show WR X.K o (.d (.str [u'])) (.str (S.str [u'])) from DR.str _) hQ
  · -- isupper
    rename_i w1
    obtain ⟨rfl, rfl⟩ := Prod.mk.inj (Option.some.inj hF)
    obtain rfl : xs = [] := by cases rws; rfl
    refine mt_isupper pins s σ H x _ v us Q I rx rs ⟨S.str [w1], DR.strV rw_, rfl, trivial, ?_⟩
    rw [upper_ok w1]
    exact fin0 sim (show WR X.K o (.d (.bl _)) (.bl _) from DR.bl _) hQ
  · -- bit_length
    rename_i i
    obtain ⟨rfl, rfl⟩ := Prod.mk.inj (Option.some.inj hF)
    obtain rfl : xs = [] := by cases rws; rfl
    have ex := DR.intV rw_
    subst ex
    obtain ⟨t, rfl⟩ := rx
    cases rs
    exact call_int_bit_length ⟨.int _, H, I.tok _, ⟨_, rfl⟩, fin0 sim (show WR X.K o (.d (.int _)) (.int _) from DR.int _) hQ⟩
  · cases hF
/-- the texts that are split -/
def blank : Str := ⟨#[32]⟩
def blankEq : Str := ⟨#[32, 61, 32]⟩
theorem split_all : (sideTexts.all fun t => decide (Txt.split (S.str t) blank = t.map fun w => S.str [w])) = true := by decide +kernel
theorem splitq_all : (rulesW.all fun r => decide (Txt.split (S.str (ruleText r)) blankEq = [S.str r.1, S.str r.2])) = true := by decide +kernel
theorem split_ok {t : List Wd} (h : t ∈ sideTexts) : Txt.split (S.str t) blank = t.map fun w => S.str [w] := of_decide_eq_true (List.all_eq_true.mp split_all t h)
theorem splitq_ok {t : List Wd} {ys : List (List Wd)} (h : splitEq t = some ys) : Txt.split (S.str t) blankEq = ys.map S.str := by
  obtain ⟨r, h1, h2⟩ := map_some_inv h
  subst h2
  have h3 := List.find?_some h1
  have h4 : ruleText r = t := of_decide_eq_true h3
  rw [← h4]
  exact of_decide_eq_true (List.all_eq_true.mp splitq_all r (List.mem_of_find?_eq_some h1))
end
end Mi
end
section
set_option maxHeartbeats 1000000
/-! Mi9: readings by the evaluator; expressions without calls, loops. -/
namespace Mi
open PySem PySem.Spec PyProof.Rows L2

abbrev FE := Env → Mem → Option (W × Mem)
abbrev FA := Env → Mem → Option (List W × Mem)
/-- a value, values, a test, a bound by the evaluator -/
def tE (K : PySem.W.Frag) (f : FE) : TE := fun σ H Q => ∃ env mem w mem' o, f env mem = some (w, mem') ∧ EnvR K o env σ ∧ Sim K o mem H ∧ ∀ v H' o', o.Le o' → Sim K o' mem' H' → WR K o' w v → Q v H'
def tAs (K : PySem.W.Frag) (f : FA) : TA := fun σ H Q => ∃ env mem w mem' o, f env mem = some (w, mem') ∧ EnvR K o env σ ∧ Sim K o mem H ∧ ∀ v H' o', o.Le o' → Sim K o' mem' H' → WRs K o' w v → Q v H'
def tTs (K : PySem.W.Frag) (f : FE) : TT := fun σ H Q => ∃ env mem b mem' o, f env mem = some (.d (.bl b), mem') ∧ EnvR K o env σ ∧ Sim K o mem H ∧ ∀ H' o', o.Le o' → Sim K o' mem' H' → Q b H'
def tOs (K : PySem.W.Frag) (f : Env → Mem → Option (Option Int × Mem)) : TO := fun σ H Q => ∃ env mem w mem' o, f env mem = some (w, mem') ∧ EnvR K o env σ ∧ Sim K o mem H ∧ ∀ H' o', o.Le o' → Sim K o' mem' H' → Q w H'
/-- an expression, as a value and as a test -/
structure Snd (X : Cx) (e : Expr) (f : FE) : Prop where
  v : PE X e (tE X.K f)
  t : PT X e (tTs X.K f)
theorem evEs_len {cl : Cl} {env : Env} : ∀ {xs : List IR} {mem : Mem} {ws : List W} {mem' : Mem}, evEs cl xs env mem = some (ws, mem') → ws.length = xs.length
  | [], _, _, _, e => by cases e; rfl
  | x :: xs, _, _, _, e => by
    obtain ⟨_, _, _, e⟩ := bnd_inv (show bnd _ _ = _ from e)
    obtain ⟨_, _, e1, e⟩ := bnd_inv e
    cases e
    simp [evEs_len e1]
section
variable {X : Cx} {e a b : Expr} {f g : FE} {pos : Pos}
theorem pe_imp {t t' : TE} (h : PE X e t) (i : ∀ σ H Q, t' σ H Q → t σ H Q) : PE X e t' := ⟨fun pins s σ H Q I q => h.run pins s σ H Q I (i σ H Q q)⟩
theorem pt_imp {t t' : TT} (h : PT X e t) (i : ∀ σ H Q, t' σ H Q → t σ H Q) : PT X e t' := ⟨fun pins s σ H Q I q => h.run pins s σ H Q I (i σ H Q q)⟩
theorem pa_imp {es : List Expr} {t t' : TA} (h : PA X es t) (i : ∀ σ H Q, t' σ H Q → t σ H Q) : PA X es t' := ⟨fun po pins s σ H Q I q => h.run po pins s σ H Q I (i σ H Q q)⟩
theorem ps_imp {st : Stmt} {t t' : TS} (h : PS X st t) (i : ∀ D σ H, t' D σ H → t D σ H) : PS X st t' := ⟨fun pins s σ H D I q => h.run pins s σ H D I (i D σ H q)⟩
theorem pss_imp {st : List Stmt} {t t' : TS} (h : PSs X st t) (i : ∀ D σ H, t' D σ H → t D σ H) : PSs X st t' := ⟨fun pins s σ H D I q => h.run pins s σ H D I (i D σ H q)⟩
/-- the rule may be chosen by what is known -/
theorem pe_by {t : TE} (h : ∀ σ H Q, t σ H Q → ∃ u, PE X e u ∧ u σ H Q) : PE X e t := ⟨fun pins s σ H Q I q => let ⟨_, p, r⟩ := h σ H Q q; p.run pins s σ H Q I r⟩
theorem ps_by {st : Stmt} {t : TS} (h : ∀ D σ H, t D σ H → ∃ u, PS X st u ∧ u D σ H) : PS X st t := ⟨fun pins s σ H D I q => let ⟨_, p, r⟩ := h D σ H q; p.run pins s σ H D I r⟩
theorem pi_by {tg : Expr} {t : TI} (h : ∀ σ H R, t σ H R → ∃ u, PI X tg e u ∧ u σ H R) : PI X tg e t := ⟨fun pins s σ H R I q => let ⟨_, p, r⟩ := h σ H R q; p.run pins s σ H R I r⟩
theorem tTs_tB {σ : L2.St} {H : Hp} {Q : Bool → Hp → Prop} {K : PySem.W.Frag} (h : tTs K f σ H Q) : tB (tE K f) σ H Q := by
  obtain ⟨env, mem, c, mem', o, hf, er, sm, hQ⟩ := h
  exact ⟨env, mem, _, mem', o, hf, er, sm, fun v H' o' le s' r => ⟨c, DR.blV r, hQ H' o' le s'⟩⟩
def notSet : Expr → Bool
  | .Set _ _ _ => false
  | _ => true
def notStar : Expr → Bool
  | .Starred _ _ => false
  | _ => true
/-- an expression whose test is its value's truth -/
def plainT : Expr → Bool
  | .UnaryOp .Not _ _ => false
  | .BoolOp _ _ _ => false
  | .IfExp _ _ _ _ => false
  | .Compare _ _ _ _ => false
  | _ => true
theorem isTrue_of (h : plainT e = true) (env : PySem.Env) : ∀ whole, isTrue e env whole = (do let v ← whole; standAt e.pos; holding [v] (truthy v)) := by
  intro whole
  cases e with
  | UnaryOp op x p => cases op <;> first | rfl | exact absurd h (by simp [plainT])
  | _ => first | rfl | exact absurd h (by simp [plainT])
theorem snd_of (h : PE X e (tE X.K f)) (hp : plainT e = true) : Snd X e f := ⟨h, pt_imp (t' := tTs X.K f) (pt_val h (isTrue_of hp X.env)) fun _ _ _ q => tTs_tB q⟩

/-! ### names, constants -/
theorem s_var {i : Nat} {x : Str} (hN : X.N[i]? = some x) (hv : Vis X.env.scope x) (hd : (x == ("__debug__" : Str)) = false) (hcd : (x == ("__classdict__" : Str)) = false) {cl : Cl} : Snd X (.Name x pos) (evE cl (.var i)) := by
  refine snd_of (pe_imp (pe_var hN hv hd hcd) fun σ H Q h => ?_) rfl
  obtain ⟨env, mem, w, mem', o, hf, er, sm, hQ⟩ := h
  unfold evE at hf
  split at hf
  · rename_i u he
    cases hf
    obtain ⟨v, e1, r⟩ := er.get i _ he
    exact ⟨v, e1, hQ v H o (Wo.Le.refl o) sm r⟩
  · cases hf
/-- a value that stands by itself -/
theorem tE_C {K : PySem.W.Frag} {x : D} {v : V} {σ : L2.St} {H : Hp} {Q : VK} (r : ∀ G, DR K G x v) (h : tE K (fun _ mem => some (.d x, mem)) σ H Q) : tC v σ H Q := by
  obtain ⟨env, mem, w, mem', o, hf, er, sm, hQ⟩ := h
  cases hf
  exact hQ v H o (Wo.Le.refl o) sm (r o.G)
theorem s_const {x : D} {v : V} (p : PE X e (tC v)) (r : ∀ G, DR X.K G x v) (hp : plainT e = true) {cl : Cl} : Snd X e (evE cl (.con x)) := snd_of (pe_imp p fun _ _ _ h => tE_C r h) hp

/-! ### operations -/
theorem tE2 {K : PySem.W.Frag} {F : W → W → Mem → Option (W × Mem)} {σ : L2.St} {H : Hp} {Q : VK} (h : tE K (fun env mem => bnd (f env mem) fun v mem => bnd (g env mem) fun w mem => F v w mem) σ H Q) : tOp (rOf2 K F) (tE K f) (tE K g) σ H Q := by
  obtain ⟨env, mem, w, mem', o, hf, er, sm, hQ⟩ := h
  obtain ⟨u, m1, e1, hf⟩ := bnd_inv hf
  obtain ⟨u', m2, e2, hf⟩ := bnd_inv hf
  refine ⟨env, mem, u, m1, o, e1, er, sm, fun x H1 o1 l1 s1 r1 => ⟨env, m1, u', m2, o1, e2, er.mono l1, s1, fun y H2 o2 l2 s2 r2 => ?_⟩⟩
  exact ⟨u, u', w, m2, mem', o2, hf, s2, r1.mono l2, r2, fun z H3 o3 l3 s3 r3 => hQ z H3 o3 ((l1.trans l2).trans l3) s3 r3⟩
theorem s_bin {op : Bop} {cl : Cl} {x y : IR} (ha : Snd X a (evE cl x)) (hb : Snd X b (evE cl y)) : Snd X (.BinOp a (bopO op) b pos) (evE cl (.bin op x y)) :=
  snd_of (pe_imp (pe_op (bin_ok op) ha.v hb.v) fun _ _ _ h => tE2 (F := pureF (binW op)) h) rfl
/-- a comparison by its rule, as a value and as a test -/
theorem s_cmpF {op : CmpOp} {F : W → W → Mem → Option Bool} (ho : OpR X (compareOp op) (rOf2 X.K (bF F))) (ha : PE X a (tE X.K f)) (hb : PE X b (tE X.K g)) (hm : behindInMarks op b = false) :
    Snd X (.Compare a [op] [b] pos) (fun env mem => bnd (f env mem) fun v mem => bnd (g env mem) fun w mem => bF F v w mem) := by
  refine ⟨pe_imp (pe_cmpR ho ha hb hm) fun _ _ _ h => tE2 h, pt_imp (pt_cmpR ho ha hb hm) fun σ H Q h => ?_⟩
  exact tE2 (tTs_tB h)
theorem noMark (op : CmpOp) (hb : notSet b = true) : behindInMarks op b = false := by
  cases b <;> first | rfl | exact nomatch hb
theorem s_cmp (hu : X.A.units + 65 < cLine) {op : Cop} {cl : Cl} {x y : IR} (ha : Snd X a (evE cl x)) (hb : Snd X b (evE cl y)) (hm : behindInMarks (copO op) b = false) : Snd X (.Compare a [copO op] [b] pos) (evE cl (.cmp op x y)) :=
  s_cmpF (F := cmpW op) (cmp_ok hu op) ha.v hb.v hm
theorem s_neg {cl : Cl} {x : IR} (ha : Snd X a (evE cl x)) : Snd X (.UnaryOp .USub a pos) (evE cl (.neg x)) := by
  refine snd_of (pe_imp (pe_un un_neg ha.v) fun σ H Q h => ?_) rfl
  obtain ⟨env, mem, w, mem', o, hf, er, sm, hQ⟩ := h
  obtain ⟨u, m1, e1, hf⟩ := bnd_inv (show bnd (evE cl x env mem) _ = _ from hf)
  refine ⟨env, mem, u, m1, o, e1, er, sm, fun v H1 o1 l1 s1 r1 => ?_⟩
  split at hf
  · cases hf
    cases DR.intV r1
    exact ⟨_, rfl, hQ _ H1 o1 l1 s1 (DR.int _)⟩
  · cases hf
/-! ### and, or, not, if -/
theorem s_not {cl : Cl} {x : IR} (ha : Snd X a (evE cl x)) : Snd X (.UnaryOp .Not a pos) (evE cl (.not x)) := by
  refine ⟨pe_imp (pe_not ha.v) fun σ H Q h => ?_, pt_imp (pt_not ha.t) fun σ H Q h => ?_⟩
  · obtain ⟨env, mem, w, mem', o, hf, er, sm, hQ⟩ := h
    obtain ⟨u, m1, e1, hf⟩ := bnd_inv (show bnd (evE cl x env mem) _ = _ from hf)
    refine ⟨env, mem, u, m1, o, e1, er, sm, fun v H1 o1 l1 s1 r1 => ?_⟩
    split at hf
    · cases hf
      exact ⟨_, DR.blV r1, hQ _ H1 o1 l1 s1 (DR.bl _)⟩
    · cases hf
  · obtain ⟨env, mem, w, mem', o, hf, er, sm, hQ⟩ := h
    obtain ⟨u, m1, e1, hf⟩ := bnd_inv (show bnd (evE cl x env mem) _ = _ from hf)
    split at hf
    · cases hf
      exact ⟨env, mem, _, _, o, e1, er, sm, fun H1 o1 l1 s1 => hQ H1 o1 l1 s1⟩
    · cases hf
def BoolK (isAnd : Bool) : BoolOp := if isAnd then .And else .Or
def evB (isAnd : Bool) (cl : Cl) : List IR → Env → Mem → Option (W × Mem) := if isAnd then evAnd cl else evOr cl
theorem s_bool1 {isAnd : Bool} {cl : Cl} {x : IR} (ha : Snd X a (evE cl x)) : PE X (.BoolOp (BoolK isAnd) [a] pos) (tE X.K (evB isAnd cl [x])) ∧ PW X (.BoolOp (BoolK isAnd) [a] pos) (tTs X.K (evB isAnd cl [x])) := by
  cases isAnd with
  | true => exact ⟨pe_one ha.v, pw_and1 ha.t⟩
  | false => exact ⟨pe_one ha.v, pw_or1 ha.t⟩
theorem s_bool2 {isAnd : Bool} {cl : Cl} {x y : IR} {r : List IR} {es : List Expr} (ha : Snd X a (evE cl x)) (hb : PE X (.BoolOp (BoolK isAnd) (b :: es) pos) (tE X.K (evB isAnd cl (y :: r))) ∧ PW X (.BoolOp (BoolK isAnd) (b :: es) pos) (tTs X.K (evB isAnd cl (y :: r)))) :
    PE X (.BoolOp (BoolK isAnd) (a :: b :: es) pos) (tE X.K (evB isAnd cl (x :: y :: r))) ∧ PW X (.BoolOp (BoolK isAnd) (a :: b :: es) pos) (tTs X.K (evB isAnd cl (x :: y :: r))) := by
  cases isAnd with
  | true =>
    refine ⟨pe_imp (pe_and ha.v hb.1) fun σ H Q h => ?_, ⟨fun wh pins s σ H Q I h => (pw_and ha.t hb.2).run wh pins s σ H Q I ?_⟩⟩
    · obtain ⟨env, mem, w, mem', o, hf, er, sm, hQ⟩ := h
      obtain ⟨u, m1, e1, hf⟩ := bnd_inv (show bnd (evE cl x env mem) _ = _ from hf)
      refine ⟨env, mem, u, m1, o, e1, er, sm, fun v H1 o1 l1 s1 r1 => ?_⟩
      split at hf
      · rename_i c
        refine ⟨c, DR.blV r1, ?_⟩
        cases c with
        | true => exact ⟨env, m1, w, mem', o1, hf, er.mono l1, s1, fun z H2 o2 l2 s2 r2 => hQ z H2 o2 (l1.trans l2) s2 r2⟩
        | false => cases hf; exact hQ _ H1 o1 l1 s1 (DR.bl _)
      · cases hf
    · obtain ⟨env, mem, w, mem', o, hf, er, sm, hQ⟩ := h
      obtain ⟨u, m1, e1, hf⟩ := bnd_inv (show bnd (evE cl x env mem) _ = _ from hf)
      split at hf
      · rename_i c
        refine ⟨env, mem, c, m1, o, e1, er, sm, fun H1 o1 l1 s1 => ?_⟩
        cases c with
        | true => exact ⟨env, m1, w, mem', o1, hf, er.mono l1, s1, fun H2 o2 l2 s2 => hQ H2 o2 (l1.trans l2) s2⟩
        | false => cases hf; exact hQ H1 o1 l1 s1
      · cases hf
  | false =>
    refine ⟨pe_imp (pe_or ha.v hb.1) fun σ H Q h => ?_, ⟨fun wh pins s σ H Q I h => (pw_or ha.t hb.2).run wh pins s σ H Q I ?_⟩⟩
    · obtain ⟨env, mem, w, mem', o, hf, er, sm, hQ⟩ := h
      obtain ⟨u, m1, e1, hf⟩ := bnd_inv (show bnd (evE cl x env mem) _ = _ from hf)
      refine ⟨env, mem, u, m1, o, e1, er, sm, fun v H1 o1 l1 s1 r1 => ?_⟩
      split at hf
      · rename_i c
        refine ⟨c, DR.blV r1, ?_⟩
        cases c with
        | false => exact ⟨env, m1, w, mem', o1, hf, er.mono l1, s1, fun z H2 o2 l2 s2 r2 => hQ z H2 o2 (l1.trans l2) s2 r2⟩
        | true => cases hf; exact hQ _ H1 o1 l1 s1 (DR.bl _)
      · cases hf
    · obtain ⟨env, mem, w, mem', o, hf, er, sm, hQ⟩ := h
      obtain ⟨u, m1, e1, hf⟩ := bnd_inv (show bnd (evE cl x env mem) _ = _ from hf)
      split at hf
      · rename_i c
        refine ⟨env, mem, c, m1, o, e1, er, sm, fun H1 o1 l1 s1 => ?_⟩
        cases c with
        | false => exact ⟨env, m1, w, mem', o1, hf, er.mono l1, s1, fun H2 o2 l2 s2 => hQ H2 o2 (l1.trans l2) s2⟩
        | true => cases hf; exact hQ H1 o1 l1 s1
      · cases hf
theorem s_ite {c : Expr} {cl : Cl} {x y z : IR} (hc : Snd X c (evE cl x)) (ha : Snd X a (evE cl y)) (hb : Snd X b (evE cl z)) : Snd X (.IfExp c a b pos) (evE cl (.ite x y z)) := by
  refine ⟨pe_imp (pe_ifExp hc.t ha.v hb.v) fun σ H Q h => ?_, ⟨fun pins s σ H Q I h => ?_⟩⟩
  · obtain ⟨env, mem, w, mem', o, hf, er, sm, hQ⟩ := h
    obtain ⟨u, m1, e1, hf⟩ := bnd_inv (show bnd (evE cl x env mem) _ = _ from hf)
    split at hf
    · rename_i c
      refine ⟨env, mem, c, m1, o, e1, er, sm, fun H1 o1 l1 s1 => ?_⟩
      cases c with
      | true => exact ⟨env, m1, w, mem', o1, hf, er.mono l1, s1, fun z H2 o2 l2 s2 r2 => hQ z H2 o2 (l1.trans l2) s2 r2⟩
      | false => exact ⟨env, m1, w, mem', o1, hf, er.mono l1, s1, fun z H2 o2 l2 s2 r2 => hQ z H2 o2 (l1.trans l2) s2 r2⟩
    · cases hf
  · obtain ⟨env, mem, w, mem', o, hf, er, sm, hQ⟩ := h
    obtain ⟨u, m1, e1, hf⟩ := bnd_inv (show bnd (evE cl x env mem) _ = _ from hf)
    show wpAny _ _ (do if ← isTrue c X.env (eval c X.env) then isTrue a X.env (eval a X.env) else isTrue b X.env (eval b X.env)) _ _ _
    split at hf
    · rename_i k
      refine wpAny_bind (thn (hc.t.run pins s σ H (fun k' H1 => k' = k ∧ ∃ o1, o.Le o1 ∧ Sim X.K o1 m1 H1) I ⟨env, mem, k, m1, o, e1, er, sm, fun H1 o1 l1 s1 => ⟨rfl, o1, l1, s1⟩⟩) fun k' s1 ⟨H1, I1, ek, o1, l1, sm1⟩ => ?_)
      subst ek
      cases k' with
      | true => exact ha.t.run pins s1 σ H1 Q I1 ⟨env, m1, w, mem', o1, hf, er.mono l1, sm1, fun H2 o2 l2 s2 => hQ H2 o2 (l1.trans l2) s2⟩
      | false => exact hb.t.run pins s1 σ H1 Q I1 ⟨env, m1, w, mem', o1, hf, er.mono l1, sm1, fun H2 o2 l2 s2 => hQ H2 o2 (l1.trans l2) s2⟩
    · cases hf

/-! ### rows of expressions, displays -/
theorem s_nil {cl : Cl} : PA X [] (tAs X.K (evEs cl [])) := pa_imp pa_nil fun σ H Q h => by
  obtain ⟨env, mem, w, mem', o, hf, er, sm, hQ⟩ := h
  cases (show some (([] : List W), mem) = some (w, mem') from hf)
  exact hQ [] H o (Wo.Le.refl o) sm .nil
theorem starOne (he : notStar e = true) (es : List Expr) (env : PySem.Env) : starEach (e :: es) env = (false, eval e env) :: starEach es env := by
  cases e <;> first | rfl | exact nomatch he
theorem s_cons {cl : Cl} {x : IR} {r : List IR} {es : List Expr} (ha : Snd X e (evE cl x)) (hr : PA X es (tAs X.K (evEs cl r))) (he : notStar e = true) : PA X (e :: es) (tAs X.K (evEs cl (x :: r))) :=
  pa_imp (pa_cons ha.v hr (starOne he es X.env)) fun σ H Q h => by
    obtain ⟨env, mem, w, mem', o, hf, er, sm, hQ⟩ := h
    obtain ⟨u, m1, e1, hf⟩ := bnd_inv (show bnd (evE cl x env mem) _ = _ from hf)
    obtain ⟨us, m2, e2, hf⟩ := bnd_inv hf
    cases hf
    exact ⟨env, mem, u, m1, o, e1, er, sm, fun v H1 o1 l1 s1 r1 => ⟨env, m1, us, _, o1, e2, er.mono l1, s1, fun vs H2 o2 l2 s2 r2 => hQ _ H2 o2 (l1.trans l2) s2 (.cons (r1.mono l2) r2)⟩⟩
theorem allD_len : ∀ {ws : List W} {xs : List D}, allD ws = some xs → xs.length = ws.length
  | [], _, e => by cases e; rfl
  | .d x :: ws, _, e => by
    obtain ⟨ys, e1, e2⟩ := map_some_inv (show (allD ws).map (x :: ·) = some _ from e)
    subst e2
    simp [allD_len e1]
theorem s_tup {cl : Cl} {es : List Expr} {xs : List IR} {j : Nat} (h : PA X es (tAs X.K (evEs cl xs))) (hl : xs.length ≤ 1000) : Snd X (.Tuple es j pos) (evE cl (.tup xs)) := by
  refine snd_of (pe_imp (pe_tup h) fun σ H Q h => ?_) rfl
  obtain ⟨env, mem, w, mem', o, hf, er, sm, hQ⟩ := h
  obtain ⟨us, m1, e1, hf⟩ := bnd_inv (show bnd (evEs cl xs env mem) _ = _ from hf)
  obtain ⟨ds, e2, hf⟩ := map_some_inv hf
  cases hf
  have hlen := evEs_len e1
  refine ⟨env, mem, us, _, o, e1, er, sm, fun vs H1 o1 l1 s1 r1 => ⟨?_, fun p hp => finT s1 (r1.allD e2) hp fun z H2 o2 l2 s2 r2 => hQ z H2 o2 (l1.trans l2) s2 r2⟩⟩
  rw [← r1.length, hlen, sizeLine_eq]
  omega
theorem s_lstF {cl : Cl} {es : List Expr} {xs : List IR} (h : PA X es (tAs X.K (evEs cl xs))) (hl : xs.length ≤ 1000) : Snd X (.List es pos) (evE cl (.lstF xs)) := by
  refine snd_of (pe_imp (pe_lst h) fun σ H Q h => ?_) rfl
  obtain ⟨env, mem, w, mem', o, hf, er, sm, hQ⟩ := h
  obtain ⟨us, m1, e1, hf⟩ := bnd_inv (show bnd (evEs cl xs env mem) _ = _ from hf)
  obtain ⟨ds, e2, hf⟩ := map_some_inv hf
  cases hf
  have hlen := evEs_len e1
  refine ⟨env, mem, us, _, o, e1, er, sm, fun vs H1 o1 l1 s1 r1 => ⟨?_, fun p hp => finL s1 (r1.allD e2) hp fun z H2 o2 l2 s2 r2 => hQ z H2 o2 (l1.trans l2) s2 r2⟩⟩
  rw [← r1.length, hlen, sizeLine_eq]
  omega
theorem s_lstM {cl : Cl} {es : List Expr} {xs : List IR} (h : PA X es (tAs X.K (evEs cl xs))) (hl : xs.length ≤ 1000) : Snd X (.List es pos) (evE cl (.lstM xs)) := by
  refine snd_of (pe_imp (pe_lst h) fun σ H Q h => ?_) rfl
  obtain ⟨env, mem, w, mem', o, hf, er, sm, hQ⟩ := h
  obtain ⟨us, m1, e1, hf⟩ := bnd_inv (show bnd (evEs cl xs env mem) _ = _ from hf)
  have hlen := evEs_len e1
  refine ⟨env, mem, us, m1, o, e1, er, sm, fun vs H1 o1 l1 s1 r1 => ⟨?_, fun p hp => ?_⟩⟩
  · rw [← r1.length, hlen, sizeLine_eq]
    omega
  · split at hf
    · rename_i ds e2
      cases hf
      exact finC (c := .lst ds) s1 ⟨vs, upd_same, r1.allD e2⟩ hp fun z H2 o2 l2 s2 r2 => hQ z H2 o2 (l1.trans l2) s2 r2
    · cases hf
      exact finC (c := .obj us) s1 ⟨vs, upd_same, r1⟩ hp fun z H2 o2 l2 s2 r2 => hQ z H2 o2 (l1.trans l2) s2 r2
theorem s_dctM {cl : Cl} : Snd X (.Dict [] [] pos) (evE cl .dctM) := by
  refine snd_of (pe_imp pe_dnewK fun σ H Q h => ?_) rfl
  obtain ⟨env, mem, w, mem', o, hf, er, sm, hQ⟩ := h
  cases (show some (W.r mem.length, mem ++ [Cell.dct []]) = some (w, mem') from hf)
  exact fun p hp => finC (c := .dct []) sm ⟨[], upd_same, .nil⟩ hp hQ
end
end Mi
end
section
set_option maxHeartbeats 1000000
/-! Mi10: subscripts, slices, built-in calls, methods. -/
namespace Mi
open PySem PySem.Spec PyProof.Rows L2
section
variable {prog : Program} {w : World} {A : Around} {E : Value → Shared → Prop} {s : Shared}
theorem down_adjust (n : Nat) : Builtin.Slice.sliceAdjust none none (-1) (n : Int) = ((n : Int) - 1, -1) := by
  unfold Builtin.Slice.sliceAdjust
  simp
theorem down_places (n : Nat) : Builtin.Slice.slicePlaces ((n : Int) - 1) (-1) (-1) = n := by
  unfold Builtin.Slice.slicePlaces
  by_cases h : n = 0
  · subst h; rfl
  · simp
    omega
theorem down_pick (xs : Array Value) : ((List.range xs.size).filterMap fun (m : Nat) => xs[(((xs.size : Int) - 1) + (m : Int) * (-1)).toNat]?).toArray = xs.toList.reverse.toArray := by
  have e1 : (fun (m : Nat) => xs[(((xs.size : Int) - 1) + (m : Int) * (-1)).toNat]?) = (fun k => xs[k]?) ∘ fun m => xs.size - 1 - m := by
    funext m
    have e : (((xs.size : Int) - 1) + (m : Int) * (-1)).toNat = xs.size - 1 - m := by omega
    simp only [Function.comp, e]
  rw [e1, ← List.filterMap_map, PySem.W.krv_range, List.filterMap_reverse, PySem.W.krv_all]
/-- a tuple turned round -/
theorem item_down {t sl : Addr} {items : Array Value} {vl vu vs : Value} {Q : Value → Shared → Prop} (hT : IsTup s.heap t items) (hS : s.heap.IsSliceOf sl vl vu vs) (pl : IsPart vl none) (pu : IsPart vu none) (ps : IsPart vs (some (-1)))
    (h : Q (.ref s.heap.objs.size) { s with heap := s.heap.push { cls := .type "tuple", data := .seq items.toList.reverse.toArray } }) (hsz : items.size ≤ sizeLine) :
    wpAny (model prog w) A (getItem (.ref t) (.ref sl)) Q E s := by
  have fits : sizeOk (.seq items.toList.reverse.toArray) := by
    show items.toList.reverse.toArray.size ≤ sizeLine
    simpa using hsz
  obtain ⟨ob, hob, hcl, hdt⟩ := id hS
  have isSl : s.TypeIs (.ref sl) "slice" := ⟨ob, hob, hcl⟩
  unfold getItem
  try with_reducible refine wpAny_holding ?_
  first
    | refine wpAny_bind (wpAny_pure ?_)
    | skip
  refine wpAny_bind (wpAny_sequenceKey hT.typeIs (by decide) ?_)
  refine wpAny_bind (wpAny_callSpecial?_slot (name := Str.ofString "__getitem__") hT.typeIs slot_tuple_getitem
    (wpAny_call_entry slot_tuple_getitem hT.typeIs entry_tuple_getitem ?_ (args_tuple_getitem _ _)))
  show wpAny _ _ (Builtin.Tuple.tupleItemsOf (.ref t) >>= _) _ _ s
  refine wpAny_bind (tupleItemsOf_ hT ?_)
  refine wpAny_bind (wpAny_typeOf isSl ?_)
  rw [if_pos (show _ = true by decide)]
  have app : ∀ {Q : Int × Int × Nat → Shared → Prop}, Q ((items.size : Int) - 1, -1, items.size) s → wpAny (model prog w) A.in1 (Builtin.Slice.sliceApplied (.ref sl) (pure (items.size : Int))) Q E s := fun {Q} hq => by
    unfold Builtin.Slice.sliceApplied Builtin.Slice.sliceFields
    refine wpAny_bind (wpAny_bind (wpAny_field hob hdt (x := vl) rfl ?_))
    refine wpAny_bind (wpAny_field hob hdt (x := vu) rfl ?_)
    refine wpAny_bind (wpAny_field hob hdt (x := vs) rfl (wpAny_pure ?_))
    refine wpAny_bind (HT.slicePart_ ps ?_)
    show wpAny _ _ (if ((-1 : Int) == 0) = true then _ else _) _ _ s
    rw [if_neg (show ¬ _ by decide)]
    refine wpAny_bind (HT.slicePart_ pl ?_)
    refine wpAny_bind (HT.slicePart_ pu (wpAny_bind (wpAny_pure ?_)))
    show wpAny _ _ (match Builtin.Slice.sliceAdjust none none (-1) (items.size : Int) with | (lo, hi) => pure (lo, (-1 : Int), Builtin.Slice.slicePlaces lo hi (-1))) _ _ s
    rw [down_adjust]
    show wpAny _ _ (pure ((items.size : Int) - 1, (-1 : Int), Builtin.Slice.slicePlaces ((items.size : Int) - 1) (-1) (-1))) _ _ s
    rw [down_places]
    exact wpAny_pure hq
  refine wpAny_bind (app ?_)
  show wpAny _ _ (if (((items.size : Int) - 1) == 0 && (-1 : Int) == 1 && items.size == items.size) = true then _ else _) _ _ s
  rw [if_neg (by simp), down_pick]
  first
    | exact wpAny_bind (m := Builtin.Tuple.tupleExact _) (wpAny_newObj_type (wpAny_pure ⟨_, rfl, wpAny_pure h⟩) fits)
    | exact wpAny_bind (m := Builtin.Tuple.tupleExact _) (wpAny_newObj_type (wpAny_bind (wpAny_pure (wpAny_pure ⟨_, rfl, wpAny_pure h⟩))) fits)
    | exact wpAny_bind (wpAny_bind (m := Builtin.Tuple.tupleExact _) (wpAny_newObj_type (wpAny_pure (wpAny_pure ⟨_, rfl, wpAny_pure h⟩)) fits))
    | exact wpAny_bind (wpAny_bind (m := Builtin.Tuple.tupleExact _) (wpAny_newObj_type (wpAny_pure ⟨_, rfl, wpAny_pure h⟩) fits))
end
end Mi
end
section
set_option maxHeartbeats 1000000
/-! Mi11: dict(enumerate(xs)), xs empty. -/
namespace Mi
open PySem PySem.Spec PyProof.Rows L2
set_option maxHeartbeats 2000000 in
theorem meets_en1 {v : Value} {o : Obj} {H : Heap → Prop} (B : Begins v o H) :
    Meets (Builtin.«enumerate.__new__» ⟨[.type "enumerate", v], []⟩) (fun _ R s => H s.heap ∧
      R (.ok (.ret (.ref (s.heap.push o).objs.size))) { s with heap := (s.heap.push o).push { cls := .type "enumerate", data := .fields #[.none, .bool false, .ref s.heap.objs.size, rawInt 0, .none, .none] } }) :=
  .of_wp fun prog w A R s h => by
    obtain ⟨hp, g, d, tk, os⟩ := s; obtain ⟨h1, h⟩ := h
    have kind := sub_enumerate
    have goes : ∀ {A' : Around} {E : Value → Shared → Prop} {Q : Value → Shared → Prop}, Q (.ref hp.objs.size) ⟨hp.push o, g, d, tk, os⟩ → wpAny (model prog w) A' (pyIter v) Q E ⟨hp, g, d, tk, os⟩ :=
      fun q => B.iter prog w _ _ ⟨hp, g, d, tk, os⟩ _ h1 q
    wp_walk using goes
    refine wpAny_stack_any fun st => wpAny_pure ?_
    split
    · rename_i c _ _ _ _ _
      cases (c == Value.type "enumerate")
      · wp_walk using goes
        exact ⟨_, rfl, h⟩
      · wp_walk using goes
        exact ⟨_, rfl, h⟩
    · wp_walk using goes
      exact ⟨_, rfl, h⟩
section
variable {prog : Program} {w : World} {A : Around} {E : Value → Shared → Prop} {s : Shared}
theorem enum1 {v : Value} {o : Obj} {H : Heap → Prop} {Q : Value → Shared → Prop} (B : Begins v o H) (h1 : H s.heap)
    (h : ∀ h', IsEnum h' (s.heap.objs.size + 1) s.heap.objs.size 0 .none → h'.get? s.heap.objs.size = some o → h'.objs.size = s.heap.objs.size + 2 →
      (∀ b o, s.heap.get? b = some o → h'.get? b = some o) → Q (.ref (s.heap.objs.size + 1)) { s with heap := h' }) :
    wpAny (model prog w) A (call (.type "enumerate") [v]) Q E s := by
  refine callType_new F.called_enumerate (show _ by decide) (F.typeCall_enumerate_1 _) (F.newCall_enumerate_1 _)
    (fun obj => F.args_object_init_2 obj _) F.entry_enumerate_new (meets_en1 B) ⟨h1, ?_⟩
  have big : (s.heap.push o).objs.size = s.heap.objs.size + 1 := by rw [Heap.size_push]
  show _ ∧ _
  rw [big]
  have made : IsEnum ((s.heap.push o).push { cls := .type "enumerate", data := .fields #[.none, .bool false, .ref s.heap.objs.size, rawInt 0, .none, .none] }) (s.heap.objs.size + 1) s.heap.objs.size 0 .none := by
    have q := Heap.get?_push_size (s.heap.push o) (o := { cls := .type "enumerate", data := .fields #[.none, .bool false, .ref s.heap.objs.size, rawInt 0, .none, .none] }) rfl
    rw [big] at q
    exact q
  refine ⟨⟨_, made, rfl⟩, h _ made (Heap.get?_push_of_some _ (Heap.get?_push_size _ B.free)) ?_ fun b o x => Heap.get?_push_of_some _ (Heap.get?_push_of_some _ x)⟩
  rw [Heap.size_push, big]
end
/-- an enumerate that gives nothing -/
theorem emptyArg {prog : Program} {w : World} {e it : Addr} {fp : List Addr} {P : Nat → Value → Prop} {St : Nat → Heap → Prop} (D : ∀ A : Around, A.handled = none → Draws prog w A.in1 it fp 0 P St) (hei : e ≠ it) (hef : e ∉ fp) (hif : it ∈ fp)
    (there : ∀ h, St 0 h → ∀ b ∈ fp, ∃ o, h.get? b = some o) (frame : ∀ h h', St 0 h → (∀ b o, h.get? b = some o → h'.get? b = some o) → St 0 h') :
    PairArg prog w "enumerate" e (e :: fp) [e, it] 0 (fun _ _ _ => False) (fun h => (∃ old, IsEnum h e it 0 old) ∧ St 0 h) where
  type := fun s ok => let ⟨⟨_, he⟩, _⟩ := ok; ⟨_, he, rfl⟩
  notDict := by decide
  keep := fun h h' ok hk => by
    obtain ⟨⟨old, he⟩, st⟩ := ok
    exact ⟨⟨old, hk _ _ he⟩, frame h h' st hk⟩
  there := fun h ok b hb => by
    obtain ⟨⟨old, he⟩, st⟩ := ok
    rcases List.mem_cons.mp hb with z | z
    · exact ⟨_, by rw [z]; exact he⟩
    · exact there h st b z
  sub := fun b hb => by
    rcases List.mem_cons.mp hb with z | z
    · rw [z]; exact List.mem_cons_self ..
    · rw [List.mem_singleton.mp z]; exact List.mem_cons_of_mem _ hif
  noKeys := fun A s Q E hA ok h => by
    obtain ⟨⟨_, he⟩, _⟩ := ok
    exact getAttrOr_miss_enumerate he rfl rfl rfl enumerate_no_keys (show _ by decide +kernel) hA h
  iter := fun A s d Q E hA ok hd hdf h => by
    obtain ⟨⟨old, he⟩, st⟩ := ok
    have W := WalksT.enumFrom (prog := prog) (w := w) (A := A) 0 (D A hA) e hei hef hif
    refine wpAny_pyIter_enum he (h e [e, it] (fun i h => (∃ old, IsEnum h e it (0 + (i : Int)) old) ∧ St i h) s.heap s.toks ?_ ⟨⟨old, by simpa using he⟩, st⟩ (fun _ _ x => x) fun b hb => .inl hb)
    exact {
      off := fun hm => by
        rcases List.mem_cons.mp hm with z | z
        · exact hdf (by rw [z]; exact List.mem_cons_self ..)
        · exact hdf (by rw [List.mem_singleton.mp z]; exact List.mem_cons_of_mem _ hif)
      frame := fun i h₁ h₂ st hk => W.frame i h₁ h₂ st fun b hb o x => hk b o (fun z => hdf (by rw [← z]; exact hb)) x
      item := fun i s₁ Q₁ E₁ hi st hds hQ => absurd hi (Nat.not_lt_zero _)
      done := fun s₁ Q₁ E₁ st hQ => W.done s₁ Q₁ E₁ st hQ }
section
variable {X : Cx}
/-- dict(enumerate(xs)) of an empty tuple or list -/
theorem dict_enum (hc : X.calm = true) {pins : List (Addr × Obj)} {σ : L2.St} {H : Hp} {s : Shared} {a : Addr} {Q : VK} (I : Inv X pins σ H s) (h : SqT X.K H a [] ∨ SqL X.K H a []) (hQ : ∀ p, H p = none → Q (.ref p) (upd H p (.dK []))) :
    wpAny (model X.prog X.w) X.A (call (.type "enumerate") [.ref a]) (fun v s' => wpAny (model X.prog X.w) X.A (call (.type "dict") [v]) (EP X pins σ Q) X.xe s') X.xe s := by
  have hh := I.ok.hd hc
  have fin : ∀ {o : Obj} {P : Addr → Heap → Prop} {fp : List Addr} {Pi : Nat → Value → Prop} {St : Nat → Heap → Prop}, Begins (.ref a) o (fun h => P a h) → P a s.heap → fp = [s.heap.objs.size, a] → a < s.heap.objs.size →
      (∀ A : Around, A.handled = none → Draws X.prog X.w A.in1 s.heap.objs.size fp 0 Pi St) → (∀ h', h'.get? s.heap.objs.size = some o → (∀ b o, s.heap.get? b = some o → h'.get? b = some o) → St 0 h') →
      (∀ h, St 0 h → ∀ b ∈ fp, ∃ o, h.get? b = some o) → (∀ h h', St 0 h → (∀ b o, h.get? b = some o → h'.get? b = some o) → St 0 h') →
      wpAny (model X.prog X.w) X.A (call (.type "enumerate") [.ref a]) (fun v s' => wpAny (model X.prog X.w) X.A (call (.type "dict") [v]) (EP X pins σ Q) X.xe s') X.xe s := by
    intro o P fp Pi St B hP efp ha D st there frame
    refine enum1 B hP fun h' he ho hz hk => ?_
    have ne : s.heap.objs.size + 1 ∉ fp := by
      rw [efp]
      intro hm
      rcases List.mem_cons.mp hm with z | z
      · exact absurd z (Nat.succ_ne_self _)
      · have z := List.mem_singleton.mp z
        rw [← z] at ha
        exact absurd ha (Nat.not_lt.mpr (Nat.le_succ _))
    have I1 : Inv X pins σ H { s with heap := h' } := I.kept (t' := s.toks) hk
    refine call_dict_pairs (knd := mixKind X.prog X.w) (kvs := []) (emptyArg D (Nat.succ_ne_self _) ne (by rw [efp]; exact List.mem_cons_self ..) there frame) hh ⟨⟨_, he⟩, st h' ho hk⟩ ⟨rfl, fun _ _ _ z => z.elim⟩ (Nat.zero_le _) fun h2 tk hd hk2 => ?_
    have hle : s.heap.objs.size ≤ h'.objs.size := by rw [hz]; exact Nat.le_add_right _ _
    have hf : H h'.objs.size = none := I.hok.fresh hle
    have hm : (h'.objs.size == sysModules) = false := beq_eq_false_iff_ne.mpr (Nat.ne_of_gt (Nat.lt_of_lt_of_le I.big hle))
    refine ⟨.ref h'.objs.size, upd H h'.objs.size (.dK []), I.laid (t' := tk) (fun b u e => hk2 b u (fun hb => ?_) (hk b u e)) hle ⟨Nat.zero_le _, hm, _, .nil, hd⟩, rfl, hQ _ hf⟩
    have hb' : b < s.heap.objs.size := Heap.lt_size e
    rcases List.mem_cons.mp hb with z | z
    · rw [z] at hb'
      exact absurd hb' (Nat.not_lt.mpr (Nat.le_succ _))
    · rw [List.mem_singleton.mp z] at hb'
      exact absurd hb' (Nat.lt_irrefl _)
  rcases h with h | h
  · obtain ⟨its, rv, ht, _⟩ := I.tuple h
    cases rv
    obtain ⟨o, ho, hr⟩ := id ht
    have ht' : s.heap.IsTuple a #[] := ht
    refine fin (P := fun a h => h.IsTuple a #[]) (Pi := fun i v => (#[] : Array Value)[i]? = some v) (St := fun i h => h.IsTupleIter s.heap.objs.size a i ∧ h.IsTuple a #[]) (begins_tuple a #[]) ht' rfl (Heap.lt_size ho) (fun A hA => Draws.tuple (A := A.in1) hA s.heap.objs.size a (Nat.ne_of_lt (Heap.lt_size ho)) #[]) (fun h' e k => ⟨⟨_, e, rfl, rfl⟩, ht'.at fun o e => k a o e⟩)
      (fun h st b hb => ?_) fun h h' st k => ⟨st.1.at fun o e => k _ o e, st.2.at fun o e => k _ o e⟩
    obtain ⟨⟨o1, e1, _⟩, ⟨o2, e2, _⟩⟩ := st
    rcases List.mem_cons.mp hb with z | z
    · exact ⟨o1, by rw [z]; exact e1⟩
    · exact ⟨o2, by rw [List.mem_singleton.mp z]; exact e2⟩
  · obtain ⟨its, rv, ht, _⟩ := I.list h
    cases rv
    obtain ⟨o, ho, hr⟩ := id ht.isList
    have ht' : s.heap.IsList a #[] := ht.isList
    refine fin (P := fun a h => h.IsList a #[]) (Pi := fun i v => (#[] : Array Value)[i]? = some v) (St := fun i h => h.IsListIter s.heap.objs.size a i ∧ h.IsList a #[]) (begins_list a #[]) ht' rfl (Heap.lt_size ho) (fun A hA => Draws.list (A := A.in1) hA s.heap.objs.size a (Nat.ne_of_lt (Heap.lt_size ho)) #[]) (fun h' e k => ⟨⟨_, e, rfl, rfl⟩, ht'.at fun o e => k a o e⟩)
      (fun h st b hb => ?_) fun h h' st k => ⟨st.1.at fun o e => k _ o e, st.2.at fun o e => k _ o e⟩
    obtain ⟨⟨o1, e1, _⟩, ⟨o2, e2, _⟩⟩ := st
    rcases List.mem_cons.mp hb with z | z
    · exact ⟨o1, by rw [z]; exact e1⟩
    · exact ⟨o2, by rw [List.mem_singleton.mp z]; exact e2⟩
end
end Mi
end
section
set_option maxHeartbeats 1000000
/-! Mi12: what is known of the modules; subscripts, calls, methods as readings. -/
namespace Mi
open PySem PySem.Spec PyProof.Rows L2

/-! ### the modules -/
def noX : CXT := fun _ _ _ _ _ _ => False
def noE : XK := fun _ _ _ => False
/-- a def's parameters -/
def parOf (f : Nat) : List Str := match tab f with
  | some fn => ((nmOf f).take fn.ar).map Str.ofString
  | none => []
/-- the f-th def may be called: k, the depth -/
structure CallG (P : Program) (w : World) (K : PySem.W.Frag) (mg : Str → Option Value) (base : Heap) (k : Nat) (cl : Cl) (f : Nat) (x : Str) (a : Addr) (fd : FuncData) (ps : List Str) : Prop where
  at_ : mg x = some (.ref a)
  kp : PySem.W.keepIn K (.ref a) = true
  nam : ps = parOf f
  len : ∀ ws mem r, cl f ws mem = some r → ws.length = ps.length
  bindP : ∀ (s : Shared) (us : List Value), us.length = ps.length → BindsTo s fd ⟨us, []⟩ (ps.zip us)
  bindR : f = 38 ∨ f = 39 → ∀ (s : Shared) (us : List Value), us.length = ps.length → BindsTo s fd ⟨[], ps.reverse.zip us.reverse⟩ (ps.zip us)
  run : ∀ (A : Around) (outer : List PySem.Env) (s : Shared) (H : Hp) (args : Args) (us : List Value) (vs : List V) (Q : VK), Room k A → A.guards = some [] → Env0 P w K mg base A outer s H → BindsTo s fd args (ps.zip us) → Vals vs us → rOfN K (cl f) vs H Q →
    codeAny (model P w) A (.call (.ref a) args) (CR noX outer P w H s Q noE) s
def CallsG (P : Program) (w : World) (K : PySem.W.Frag) (mg : Str → Option Value) (base : Heap) (k : Nat) (cl : Cl) : Prop := ∀ f x, fnm f = some x → ∃ a fd ps, CallG P w K mg base k cl f x a fd ps
/-- constants, built-in names, the table MADE -/
structure Glo (K : PySem.W.Frag) (w : World) (mg : Str → Option Value) : Prop where
  con : ∀ k d, globD k = some d → ∃ u v, mg (gnm k) = some u ∧ RelV v u ∧ ∀ G, DR K G d v
  bn : ∀ x ∈ bnms, mg x = none
  made : ∃ d es n, mg "MADE" = some (.ref d) ∧ KDict K w d es n ∧ ∀ wd : Wd, ∃ r, PySem.W.nsIn K d (S.str [wd]) = some r ∧ (match madeW wd with | some u => ∃ t, r = some (.str (S.str [u]) t) | none => r = none)
/-- a def's body (or a comprehension's block) runs -/
structure Ct (k : Nat) (N : List Str) (sc : Scope) (cl : Cl) (X : Cx) : Prop where
  n : X.N = N
  nd : N.Nodup
  scp : X.env.scope = sc
  calm : X.calm = true
  gd : X.A.guards = some []
  room : Room k X.A
  glo : Glo X.K X.w X.mg
  calls : CallsG X.prog X.w X.K X.mg X.base k cl
  xe : X.xe = fun _ _ => False
section
variable {X : Cx} {e a b : Expr} {f g : FE} {pos : Pos} {k : Nat} {N : List Str} {sc : Scope} {cl : Cl}
theorem Ct.un (c : Ct k N sc cl X) : X.A.units + 100 < cLine := by have := c.room.un; omega
def isGl (sc : Scope) (x : Str) : Bool := decide (sc.names.lookup x = some .globalImplicit)
theorem Ct.gl (c : Ct k N sc cl X) {x : Str} (h : isGl sc x = true) : Gl X x := by
  show X.env.scope.names.lookup x = some .globalImplicit
  rw [c.scp]
  exact of_decide_eq_true h
/-! ### subscripts -/
def notSlice : Expr → Bool
  | .Slice _ _ _ _ => false
  | _ => true
theorem plainIx (h : notSlice b = true) : PlainIx b := by
  intro o i
  cases b <;> first | rfl | exact absurd h (by simp [notSlice])
theorem s_ix (c : Ct k N sc cl X) {x y : IR} (ha : Snd X a (evE cl x)) (hb : Snd X b (evE cl y)) (hs : notSlice b = true) : Snd X (.Subscript a b pos) (evE cl (.ix x y)) :=
  snd_of (pe_imp (pe_ix (ix_ok (by have := c.un; omega)) ha.v hb.v (plainIx hs)) fun _ _ _ h => tE2 (F := fun v w mem => (ixW v w mem).map fun u => (u, mem)) h) rfl
theorem o_none : PO X none (tOs X.K (evO cl none)) := ⟨fun pins s σ H Q I h => by
  obtain ⟨env, mem, w, mem', o, hf, er, sm, hQ⟩ := h
  cases hf
  exact po_none.run pins s σ H Q I (hQ H o (Wo.Le.refl o) sm)⟩
theorem o_some {x : IR} (ha : Snd X a (evE cl x)) : PO X (some a) (tOs X.K (evO cl (some x))) := ⟨fun pins s σ H Q I h => by
  refine (po_some ha.v).run pins s σ H Q I ?_
  obtain ⟨env, mem, w, mem', o, hf, er, sm, hQ⟩ := h
  obtain ⟨u, m1, e1, hf⟩ := bnd_inv (show bnd (evE cl x env mem) _ = _ from hf)
  refine ⟨env, mem, u, m1, o, e1, er, sm, fun v H1 o1 l1 s1 r1 => ?_⟩
  split at hf
  · cases hf
    exact ⟨_, DR.intV r1, hQ H1 o1 l1 s1⟩
  · cases hf⟩
theorem s_slc {x : IR} {l h : Option IR} {lo hi : Option Expr} {p2 : Pos} (ha : Snd X a (evE cl x)) (hl : PO X lo (tOs X.K (evO cl l))) (hh : PO X hi (tOs X.K (evO cl h))) : Snd X (.Subscript a (.Slice lo hi none p2) pos) (evE cl (.slc x l h)) := by
  refine snd_of (pe_imp (pe_slice slc_ok ha.v hl hh) fun σ H Q q => ?_) rfl
  obtain ⟨env, mem, w, mem', o, hf, er, sm, hQ⟩ := q
  obtain ⟨u, m1, e1, hf⟩ := bnd_inv (show bnd (evE cl x env mem) _ = _ from hf)
  obtain ⟨u2, m2, e2, hf⟩ := bnd_inv hf
  obtain ⟨u3, m3, e3, hf⟩ := bnd_inv hf
  obtain ⟨z, e4, hf⟩ := map_some_inv hf
  cases hf
  exact ⟨env, mem, u, m1, o, e1, er, sm, fun v H1 o1 l1 s1 r1 => ⟨env, m1, u2, m2, o1, e2, er.mono l1, s1, fun H2 o2 l2 s2 => ⟨env, m2, u3, _, o2, e3, er.mono (l1.trans l2), s2, fun H3 o3 l3 s3 =>
    ⟨u, _, _, o3, e4, s3, r1.mono (l2.trans l3), fun v H4 o4 l4 s4 r4 => hQ v H4 o4 ((l1.trans (l2.trans l3)).trans l4) s4 r4⟩⟩⟩⟩
/-- xs[::-1] of a tuple -/
def tRevT (K : PySem.W.Frag) (te : TE) : TE := fun σ H Q => te σ H fun x H1 => ∃ a xs, x = .ref a ∧ SqT K H1 a xs ∧ ∀ p, H1 p = none → Q (.ref p) (upd H1 p (.tup xs.reverse))
theorem pe_revT {te : TE} {j : Nat} {p1 p2 p3 : Pos} (he : PE X e te) : PE X (.Subscript e (.Slice none none (some (.UnaryOp .USub (.Constant (.int 1) j p1) p2)) p3) pos) (tRevT X.K te) := by
  refine ⟨fun pins s σ H Q I h => Subscript_ (thn (he.run pins s σ H _ I h) fun v s1 ⟨x, H1, I1, r1, a, xs, ex, hx, q⟩ => ?_)⟩
  subst ex
  cases r1
  have step : PO X (some (.UnaryOp .USub (.Constant (.int 1) j p1) p2)) (tPart (tUn (rU fun i => .int (-i)) (tC (.int 1)))) := po_some (pe_un un_neg pe_int)
  refine wpAny_Slice (thn (po_none.run pins s1 σ H1 (fun o H2 => o = none ∧ H2 = H1) I1 ⟨rfl, rfl⟩) fun vl s2 ⟨l, H2, I2, pl, el, eH⟩ => ?_)
  subst el eH
  refine thn (po_none.run pins s2 σ H2 (fun o H3 => o = none ∧ H3 = H2) I2 ⟨rfl, rfl⟩) fun vu s3 ⟨u, H3, I3, pu, eu, eH⟩ => ?_
  subst eu eH
  refine thn (step.run pins s3 σ H3 (fun o H4 => o = some (-1) ∧ H4 = H3) I3 ⟨1, rfl, -1, rfl, rfl, rfl⟩) fun vs s4 ⟨o, H4, I4, ps, eo, eH⟩ => ?_
  subst eo eH
  have I5 : Inv X pins σ H4 { s4 with heap := s4.heap.push { cls := .type "slice", data := .fields #[vl, vu, vs] } } := I4.kept (t' := s4.toks) fun b ob z => Heap.get?_push_of_some _ z
  obtain ⟨its, r, ht, hz⟩ := I5.tuple hx
  have hlen := r.length
  show wpAny (model X.prog X.w) X.A (subscriptTail e _ (.ref a) (.ref s4.heap.objs.size)) (EP X pins σ Q) X.xe { s4 with heap := s4.heap.push { cls := .type "slice", data := .fields #[vl, vu, vs] } }
  refine tail_any (ops := [.ref a, .ref s4.heap.objs.size]) ht.typeIs (PyProof.Rows.slot_tuple_getitem.lookup) ?_ (show _ = _ by with_unfolding_all rfl)
  refine item_down ht (Heap.IsSliceOf.new _ vl vu vs) pl pu ps ?_ (by rw [List.size_toArray]; omega)
  refine ⟨.ref _, _, I5.laid (t' := s4.toks) (o := .tup xs.reverse) (fun b ob z => Heap.get?_push_of_some _ z) (Nat.le_refl _) ?_, rfl, q _ (I5.hok.fresh (Nat.le_refl _))⟩
  exact ⟨by rw [List.length_reverse]; exact hz, _, r.reverse, IsTup.new _ _⟩
theorem s_rev {x : IR} {j : Nat} {p1 p2 p3 : Pos} (ha : Snd X a (evE cl x)) : Snd X (.Subscript a (.Slice none none (some (.UnaryOp .USub (.Constant (.int 1) j p1) p2)) p3) pos) (evE cl (.rev x)) := by
  refine snd_of (pe_by fun σ H Q h => ?_) rfl
  obtain ⟨env, mem, w, mem', o, hf, er, sm, hQ⟩ := h
  obtain ⟨u, m1, e1, hf⟩ := bnd_inv (show bnd (evE cl x env mem) _ = _ from hf)
  split at hf
  · cases hf
    refine ⟨_, pe_revL ha.v, env, mem, _, _, o, e1, er, sm, fun v H1 o1 l1 s1 r1 => ?_⟩
    obtain ⟨p, vs, rfl, q1, q2⟩ := DR.lstV r1
    exact ⟨p, vs, rfl, Sub.seqL s1.sub q1, fun p' hp => finL s1 q2.reverse hp fun z H2 o2 l2 s2 r2 => hQ z H2 o2 (l1.trans l2) s2 r2⟩
  · cases hf
    refine ⟨_, pe_revT ha.v, env, mem, _, _, o, e1, er, sm, fun v H1 o1 l1 s1 r1 => ?_⟩
    obtain ⟨p, vs, rfl, q1, q2⟩ := DR.tupV r1
    exact ⟨p, vs, rfl, Sub.seqT s1.sub q1, fun p' hp => finT s1 q2.reverse hp fun z H2 o2 l2 s2 r2 => hQ z H2 o2 (l1.trans l2) s2 r2⟩
  · cases hf
theorem s_revM {x : IR} {j : Nat} {p1 p2 p3 : Pos} (ha : Snd X a (evE cl x)) : Snd X (.Subscript a (.Slice none none (some (.UnaryOp .USub (.Constant (.int 1) j p1) p2)) p3) pos) (evE cl (.revM x)) := by
  refine snd_of (pe_imp (pe_revL ha.v) fun σ H Q h => ?_) rfl
  obtain ⟨env, mem, w, mem', o, hf, er, sm, hQ⟩ := h
  obtain ⟨u, m1, e1, hf⟩ := bnd_inv (show bnd (evE cl x env mem) _ = _ from hf)
  refine ⟨env, mem, u, m1, o, e1, er, sm, fun v H1 o1 l1 s1 r1 => ?_⟩
  split at hf
  · cases hf
    obtain ⟨p, vs, rfl, q1, q2⟩ := DR.lstV r1
    exact ⟨p, vs, rfl, Sub.seqL s1.sub q1, fun p' hp => finC (c := .lst _) s1 ⟨_, upd_same, q2.reverse⟩ hp fun z H2 o2 l2 s2 r2 => hQ z H2 o2 (l1.trans l2) s2 r2⟩
  · cases hf
end
end Mi
end
section
set_option maxHeartbeats 1000000
/-! Mi13: calls as readings. -/
namespace Mi
open PySem PySem.Spec PyProof.Rows L2
section
variable {X : Cx} {e a b : Expr} {f g : FE} {pos p : Pos} {k : Nat} {N : List Str} {sc : Scope} {cl : Cl}
/-! ### own defs -/
theorem Inv.callG {pins : List (Addr × Obj)} {σ : L2.St} {H : Hp} {s : Shared} {fi : Nat} {x : Str} {q : Addr} {fd : FuncData} {ps : List Str} {args : Args} {us : List Value} {vs : List V} {Q : VK}
    (c : Ct k N sc cl X) (G : CallG X.prog X.w X.K X.mg X.base k cl fi x q fd ps) (I : Inv X pins σ H s) (hb : us.length = ps.length → BindsTo s fd args (ps.zip us)) (r : Vals vs us) (h : rOfN X.K (cl fi) vs H Q) :
    codeAny (model X.prog X.w) X.A (.call (.ref q) args) (fun r s' => match r with | .ok (.ret v) => EP X pins σ Q v s' | .ok _ => False | .error e => X.xe e s') s := by
  have hl : us.length = ps.length := by
    obtain ⟨ws, u, mem, mem', o, hF, _, rw_, _⟩ := h
    rw [← G.len ws mem _ hF, rw_.length, r.length]
  refine codeAny_mono (G.run X.A X.stack s H args us vs Q c.room c.gd I.env0 (hb hl) r h) fun r s' hq => ?_
  cases r with
  | error e => exact False.elim hq
  | ok fl =>
    cases fl with
    | ret u => exact I.after hq
    | next => exact False.elim hq
    | brk => exact False.elim hq
    | cont => exact False.elim hq
theorem tA_call {K : PySem.W.Frag} {fi : Nat} {xs : List IR} {σ : L2.St} {H : Hp} {Q : VK} (h : tE K (evE cl (.call fi xs)) σ H Q) : tCB (rOfN K (cl fi)) (tAs K (evEs cl xs)) σ H Q := by
  obtain ⟨env, mem, w, mem', o, hf, er, sm, hQ⟩ := h
  obtain ⟨us, m1, e1, hf⟩ := bnd_inv (show bnd (evEs cl xs env mem) _ = _ from hf)
  exact ⟨env, mem, us, m1, o, e1, er, sm, fun vs H1 o1 l1 s1 r1 => ⟨us, w, m1, mem', o1, hf, s1, r1, fun z H2 o2 l2 s2 r2 => hQ z H2 o2 (l1.trans l2) s2 r2⟩⟩
def noStar (es : List Expr) : Bool := es.all notStar
theorem noStar_any : ∀ {es : List Expr}, noStar es = true → ∀ (env : PySem.Env) (pos : Pos), (backTo pos (starEach es env)).any (·.1) = false
  | [], _, _, _ => rfl
  | e :: es, h, env, pos => by
    unfold noStar at h
    rw [List.all_cons, Bool.and_eq_true] at h
    rw [starOne h.1]
    show (false || (backTo pos (starEach es env)).any (·.1)) = false
    rw [Bool.false_or]
    exact noStar_any h.2 env pos
theorem s_call0 (c : Ct k N sc cl X) {fi : Nat} {x : Str} (hx : fnm fi = some x) (hg : isGl sc x = true) (hd : (x == ("__debug__" : Str)) = false) : Snd X (.Call (.Name x p) [] [] pos) (evE cl (.call fi [])) := by
  obtain ⟨q, fd, ps, G⟩ := c.calls fi x hx
  refine snd_of ⟨fun pins s σ H Q I h => ?_⟩ rfl
  refine wpAny_Call_Name_kw (ld_glob I (c.gl hg) G.at_ ?_ hd)
  refine PySem.W.callWith_K0 I.kIn G.kp (wpAny_call ?_)
  obtain ⟨env, mem, w, mem', o, hf, er, sm, hQ⟩ := tA_call h
  cases (show some (([] : List W), mem) = some (w, mem') from hf)
  exact Inv.callG c G I (fun hl => G.bindP s [] hl) .nil (hQ [] H o (Wo.Le.refl o) sm .nil)
theorem s_call (c : Ct k N sc cl X) {fi : Nat} {x : Str} {xs : List IR} {es : List Expr} (hx : fnm fi = some x) (hg : isGl sc x = true) (hd : (x == ("__debug__" : Str)) = false) (ha : PA X (e :: es) (tAs X.K (evEs cl xs))) (hs : noStar (e :: es) = true) :
    Snd X (.Call (.Name x p) (e :: es) [] pos) (evE cl (.call fi xs)) := by
  obtain ⟨q, fd, ps, G⟩ := c.calls fi x hx
  refine snd_of (pe_imp (t := tCB (rOfN X.K (cl fi)) (tAs X.K (evEs cl xs))) ⟨fun pins s σ H Q I h => ?_⟩ fun _ _ _ h => tA_call h) rfl
  refine wpAny_Call_Name_kw (ld_glob I (c.gl hg) G.at_ ?_ hd)
  unfold noStar at hs
  rw [List.all_cons, Bool.and_eq_true] at hs
  refine PySem.W.callWith_K (h₀ := X.base) I.ok.mod.kin G.kp (thn (ha.run pos pins s σ H _ I h) fun us s1 ⟨vs, H1, I1, r, q1⟩ => ⟨I1.kIn, ?_⟩) (starOne hs.1 es X.env) (noStar_any hs.2 X.env pos)
  exact wpAny_call (Inv.callG c G I1 (fun hl => G.bindP s1 us hl) r q1)
/-! keywords -/
theorem k_nil : PK X [] (tAs X.K (evEs cl [])) := ⟨fun po pins s σ H Q I h => (pk_nil (X := X)).run po pins s σ H Q I (by
  obtain ⟨env, mem, w, mem', o, hf, er, sm, hQ⟩ := h
  cases (show some (([] : List W), mem) = some (w, mem') from hf)
  exact hQ [] H o (Wo.Le.refl o) sm .nil)⟩
theorem tA_cons {K : PySem.W.Frag} {x : IR} {r : List IR} {σ : L2.St} {H : Hp} {Q : List V → Hp → Prop} (h : tAs K (evEs cl (x :: r)) σ H Q) : tCons (tE K (evE cl x)) (tAs K (evEs cl r)) σ H Q := by
  obtain ⟨env, mem, w, mem', o, hf, er, sm, hQ⟩ := h
  obtain ⟨u, m1, e1, hf⟩ := bnd_inv (show bnd (evE cl x env mem) _ = _ from hf)
  obtain ⟨us, m2, e2, hf⟩ := bnd_inv hf
  cases hf
  exact ⟨env, mem, u, m1, o, e1, er, sm, fun v H1 o1 l1 s1 r1 => ⟨env, m1, us, _, o1, e2, er.mono l1, s1, fun vs H2 o2 l2 s2 r2 => hQ _ H2 o2 (l1.trans l2) s2 (.cons (r1.mono l2) r2)⟩⟩
theorem k_cons {nm : Option Str} {x : IR} {r : List IR} {kws : List Keyword} {kpos : Pos} (ha : Snd X e (evE cl x)) (hr : PK X kws (tAs X.K (evEs cl r))) : PK X (⟨nm, e, kpos⟩ :: kws) (tAs X.K (evEs cl (x :: r))) :=
  ⟨fun po pins s σ H Q I h => (pk_cons ha.v hr).run po pins s σ H Q I (tA_cons h)⟩
theorem kwNames : ∀ (kws : List Keyword) (env : PySem.Env) (pos : Pos), (backToKw pos (keywordEach kws env)).map (·.1) = kws.map (·.arg)
  | [], _, _ => rfl
  | ⟨n, v, q⟩ :: r, env, pos => by
    show n :: (backToKw pos (keywordEach r env)).map (·.1) = n :: r.map (·.arg)
    rw [kwNames r env pos]
theorem WRs.rev {K : PySem.W.Frag} {o : Wo} : ∀ {ws : List W} {vs : List V}, WRs K o ws vs → WRs K o ws.reverse vs.reverse
  | _, _, .nil => .nil
  | w :: ws, v :: vs, .cons q r => by
    rw [List.reverse_cons, List.reverse_cons]
    exact WRs.append (WRs.rev r) (.cons q .nil)
theorem s_callK (c : Ct k N sc cl X) {fi : Nat} {x : Str} {xs : List IR} {kws : List Keyword} {ks : List Nat} (hx : fnm fi = some x) (hg : isGl sc x = true) (hd : (x == ("__debug__" : Str)) = false) (hkw : PK X kws (tAs X.K (evEs cl xs))) (hf : fi = 38 ∨ fi = 39)
    (hn : ∀ ps fd a, CallG X.prog X.w X.K X.mg X.base k cl fi x a fd ps → kws.map (·.arg) = (ps.reverse.map some)) (hks : ks = (List.range xs.length).reverse) (h45 : xs.length = 4 ∨ xs.length = 5) :
    Snd X (.Call (.Name x p) [] kws pos) (evE cl (.callK fi ks xs)) := by
  obtain ⟨q, fd, ps, G⟩ := c.calls fi x hx
  refine snd_of ⟨fun pins s σ H Q I h => ?_⟩ rfl
  refine wpAny_Call_Name_kw (ld_glob I (c.gl hg) G.at_ ?_ hd)
  have e1 := (kwNames kws X.env pos).trans (hn ps fd q G)
  have all : ∀ {l : List (Option Str × Sem Value)} {m : List Str}, l.map (·.1) = m.map some → l.all (·.1.isSome) = true ∧ l.filterMap (·.1) = m ∧ l.any (·.1.isNone) = false := fun {l} => by
    induction l with
    | nil => intro m h; cases m with | nil => exact ⟨rfl, rfl, rfl⟩ | cons _ _ => cases h
    | cons y l ih =>
      intro m h
      cases m with
      | nil => cases h
      | cons z m =>
        simp only [List.map_cons, List.cons.injEq] at h
        obtain ⟨i1, i2, i3⟩ := ih h.2
        refine ⟨?_, ?_, ?_⟩
        · rw [List.all_cons, h.1, i1]; rfl
        · rw [List.filterMap_cons, h.1, i2]
        · rw [List.any_cons, h.1, i3]; rfl
  obtain ⟨a1, a2, a3⟩ := all e1
  have hq : tCB (fun vs H Q => rOfN X.K (cl fi) vs.reverse H Q) (tAs X.K (evEs cl xs)) σ H Q := by
    obtain ⟨env, mem, w, mem', o, hF, er, sm, hQ⟩ := h
    obtain ⟨us, m1, e1, hF⟩ := bnd_inv (show bnd (evEs cl xs env mem) _ = _ from hF)
    have hl := evEs_len e1
    have hrev : (ks.mapM fun k => us[k]?) = some us.reverse := by
      subst hks
      rcases h45 with h4 | h4
      · rw [h4] at hl ⊢
        match us, hl with
        | [u0, u1, u2, u3], _ => rfl
      · rw [h4] at hl ⊢
        match us, hl with
        | [u0, u1, u2, u3, u4], _ => rfl
    rw [hrev] at hF
    exact ⟨env, mem, us, m1, o, e1, er, sm, fun vs H1 o1 l1 s1 r1 => ⟨us.reverse, w, m1, mem', o1, hF, s1, WRs.rev r1, fun z H2 o2 l2 s2 r2 => hQ z H2 o2 (l1.trans l2) s2 r2⟩⟩
  refine PySem.W.callWith_KW0 (h₀ := X.base) I.ok.mod.kin G.kp a1 (thn (hkw.run pos pins s σ H _ I hq) fun us s1 ⟨vs, H1, I1, r, q1⟩ => ⟨I1.kIn, ?_⟩) (by rw [a3]; rfl)
  rw [a2]
  refine wpAny_call (Inv.callG (us := us.reverse) c G I1 (fun hl => ?_) r.reverse q1)
  have := G.bindR hf s1 us.reverse hl
  rw [List.reverse_reverse] at this
  exact this
/-! ### built-in functions -/
def bnm : Blt → Str
  | .len => "len" | .abs => "abs" | .int => "int" | .str => "str" | .tuple => "tuple" | .tupleP => "tuple" | .list => "list" | .listM => "list" | .sorted => "sorted" | .dict => "dict" | .all => "all" | .dictEnum => "dict"
theorem bnm_in (b : Blt) : bnm b ∈ bnms := by cases b <;> decide
theorem tA_one {K : PySem.W.Frag} {x : IR} {F : W → Mem → Option (W × Mem)} {σ : L2.St} {H : Hp} {Q : VK} (h : tE K (fun env mem => bnd (evE cl x env mem) fun w mem => F w mem) σ H Q) : tCB (rOfN K (one F)) (tAs K (evEs cl [x])) σ H Q := by
  obtain ⟨env, mem, w, mem', o, hf, er, sm, hQ⟩ := h
  obtain ⟨u, m1, e1, hf⟩ := bnd_inv hf
  refine ⟨env, mem, [u], m1, o, ?_, er, sm, fun vs H1 o1 l1 s1 r1 => ⟨[u], w, m1, mem', o1, hf, s1, r1, fun z H2 o2 l2 s2 r2 => hQ z H2 o2 (l1.trans l2) s2 r2⟩⟩
  show bnd (evE cl x env mem) _ = _
  rw [e1]
  rfl
theorem s_blt (c : Ct k N sc cl X) {bl : Blt} {x : IR} (hb : bl ≠ .dictEnum) (hg : isGl sc (bnm bl) = true) (ha : PA X [e] (tAs X.K (evEs cl [x]))) (hs : notStar e = true) : Snd X (.Call (.Name (bnm bl) p) [e] [] pos) (evE cl (.blt bl x)) := by
  have ok : CallR X (bltV bl) (rOfN X.K (one (bltW bl))) := by
    by_cases hd : bl = .dict
    · subst hd
      exact dict_ok c.calm
    · exact blt_ok c.calm c.un bl hb hd
  have hm := c.glo.bn _ (bnm_in bl)
  have st := starOne hs [] X.env
  have im := fun (σ : L2.St) (H : Hp) (Q : VK) (h : tE X.K (evE cl (.blt bl x)) σ H Q) => tA_one (F := bltW bl) h
  cases bl with
  | len => exact snd_of (pe_imp (pe_callB ok (c.gl hg) hm boot_len ha (he := st)) im) rfl
  | abs => exact snd_of (pe_imp (pe_callB ok (c.gl hg) hm boot_abs ha (he := st)) im) rfl
  | int => exact snd_of (pe_imp (pe_callTy ok (c.gl hg) hm boot_int ha (he := st)) im) rfl
  | str => exact snd_of (pe_imp (pe_callTy ok (c.gl hg) hm boot_str ha (he := st)) im) rfl
  | tuple => exact snd_of (pe_imp (pe_callTy ok (c.gl hg) hm boot_tuple ha (he := st)) im) rfl
  | tupleP => exact snd_of (pe_imp (pe_callTy ok (c.gl hg) hm boot_tuple ha (he := st)) im) rfl
  | list => exact snd_of (pe_imp (pe_callTy ok (c.gl hg) hm boot_list ha (he := st)) im) rfl
  | listM => exact snd_of (pe_imp (pe_callTy ok (c.gl hg) hm boot_list ha (he := st)) im) rfl
  | sorted => exact snd_of (pe_imp (pe_callB ok (c.gl hg) hm boot_sorted ha (he := st)) im) rfl
  | dict => exact snd_of (pe_imp (pe_callTy ok (c.gl hg) hm boot_dict ha (he := st)) im) rfl
  | all => exact snd_of (pe_imp (pe_callB ok (c.gl hg) hm boot_all ha (he := st)) im) rfl
  | dictEnum => exact absurd rfl hb
theorem s_dictEnum (c : Ct k N sc cl X) {x : IR} {p2 pos2 : Pos} (hg : isGl sc "dict" = true) (hg2 : isGl sc "enumerate" = true) (ha : Snd X e (evE cl x)) (hs : notStar e = true) :
    Snd X (.Call (.Name "dict" p) [.Call (.Name "enumerate" p2) [e] [] pos2] [] pos) (evE cl (.blt .dictEnum x)) := by
  refine snd_of ⟨fun pins s σ H Q I h => ?_⟩ rfl
  obtain ⟨env, mem, w, mem', o, hf, er, sm, hQ⟩ := h
  obtain ⟨u, m1, e1, hf⟩ := bnd_inv (show bnd (evE cl x env mem) _ = _ from hf)
  refine wpAny_Call_Name_kw (ld_blt I (c.gl hg) (c.glo.bn _ (by decide)) boot_dict (callWith_type1 (Calls.spliced_cons ?_) (starOne rfl [] X.env)))
  refine wpAny_Call_Name_kw (ld_blt I (c.gl hg2) (c.glo.bn _ (by decide)) boot_enumerate (callWith_type1 ?_ (starOne hs [] X.env)))
  rw [starOne hs]
  refine Calls.spliced_cons (thn (ha.v.run pins s σ H (fun v H1 => ∃ o1, o.Le o1 ∧ Sim X.K o1 m1 H1 ∧ WR X.K o1 u v) I ⟨env, mem, u, m1, o, e1, er, sm, fun v H1 o1 l1 s1 r1 => ⟨o1, l1, s1, r1⟩⟩) fun uu s1 ⟨v, H1, I1, rv, o1, l1, sm1, r1⟩ => ?_)
  refine Calls.spliced_nil ?_
  have fin : ∀ {q : Addr}, v = .ref q → (SqT X.K H1 q [] ∨ SqL X.K H1 q []) → some (W.r m1.length, m1 ++ [Cell.dct []]) = some (w, mem') → wpAny (model X.prog X.w) X.A (call (.type "enumerate") [uu]) (fun v s' => wpAny (model X.prog X.w) X.A (spliced []) (fun vs s₂ => wpAny (model X.prog X.w) X.A (call (.type "dict") (v :: vs)) (EP X pins σ Q) X.xe s₂) X.xe s') X.xe s1 := by
    intro q ev hq hr
    subst ev
    cases rv
    cases hr
    refine thn (dict_enum c.calm I1 hq fun z hz => finC (c := .dct []) sm1 ⟨[], upd_same, .nil⟩ hz fun v H2 o2 l2 s2 r2 => hQ v H2 o2 (l1.trans l2) s2 r2) fun v s' h' => Calls.spliced_nil h'
  match u, hf, r1 with
  | .d (.tup []), hf, r1 =>
    obtain ⟨q, vs, ev, q1, q2⟩ := DR.tupV r1
    cases q2
    exact fin ev (.inl (Sub.seqT sm1.sub q1)) hf
  | .d (.lst []), hf, r1 =>
    obtain ⟨q, vs, ev, q1, q2⟩ := DR.lstV r1
    cases q2
    exact fin ev (.inr (Sub.seqL sm1.sub q1)) hf
end
end Mi
end
section
set_option maxHeartbeats 1000000
/-! Mi14: methods, repr, the table MADE as readings. -/
namespace Mi
open PySem PySem.Spec PyProof.Rows L2
section
variable {X : Cx} {e a b : Expr} {f g : FE} {pos p apos : Pos} {k : Nat} {N : List Str} {sc : Scope} {cl : Cl}
def mnm : Mth → Str
  | .append => "append" | .pop => "pop" | .popAt => "pop" | .get => "get" | .setdefault => "setdefault" | .split => "split" | .splitq => "split" | .lower => "lower" | .isupper => "isupper" | .bitlen => "bit_length"
def baseOk : Expr → Bool
  | .Call _ [] _ _ => false
  | _ => true
theorem base_ok (h : baseOk a = true) (x : Str) (env : PySem.Env) : attributeBase a x env (eval a env) = eval a env := by
  cases a with
  | Call f as kw q =>
    cases as with
    | nil => exact absurd h (by simp [baseOk])
    | cons y ys => cases f <;> rfl
  | _ => rfl
theorem mth_facts (m : Mth) (h1 : m ≠ .split) (h2 : m ≠ .splitq) : PlainAttrs (mthT m) ∧ Slot (mthT m) (mnm m) (mthId m) ∧ typeOf (.builtin (mthId m)) = pure (.type "method_descriptor") := by
  cases m with
  | append => exact ⟨PySem.F.plainAttrs_list, PySem.F.slot_list_append, PySem.F.type_list_append⟩
  | pop => exact ⟨PySem.F.plainAttrs_list, PySem.F.slot_list_pop, PySem.F.type_list_pop⟩
  | popAt => exact ⟨PySem.F.plainAttrs_list, PySem.F.slot_list_pop, PySem.F.type_list_pop⟩
  | get => exact ⟨PySem.F.plainAttrs_dict, PySem.F.slot_dict_get, PySem.F.type_dict_get⟩
  | setdefault => exact ⟨PySem.F.plainAttrs_dict, PySem.F.slot_dict_setdefault, PySem.F.type_dict_setdefault⟩
  | split => exact absurd rfl h1
  | splitq => exact absurd rfl h2
  | lower => exact ⟨PySem.F.plainAttrs_str, PySem.F.slot_str_lower, PySem.F.type_str_lower⟩
  | isupper => exact ⟨PySem.F.plainAttrs_str, PySem.F.slot_str_isupper, PySem.F.type_str_isupper⟩
  | bitlen => exact ⟨PySem.F.plainAttrs_int, slot_int_bit_length, type_int_bit_length⟩
theorem noStar_all : ∀ {es : List Expr}, noStar es = true → ∀ (env : PySem.Env) (pos : Pos), (backTo pos (starEach es env)).all (fun x => !x.1) = true
  | [], _, _, _ => rfl
  | e :: es, h, env, pos => by
    unfold noStar at h
    rw [List.all_cons, Bool.and_eq_true] at h
    rw [starOne h.1]
    show (true && (backTo pos (starEach es env)).all (fun x => !x.1)) = true
    rw [Bool.true_and]
    exact noStar_all h.2 env pos
theorem s_meth0 (c : Ct k N sc cl X) {m : Mth} {x : IR} (h1 : m ≠ .split) (h2 : m ≠ .splitq) (ha : Snd X a (evE cl x)) (hb : baseOk a = true) (hl : (apos.endLine == pos.line) = true) :
    Snd X (.Call (.Attribute a (mnm m) apos) [] [] pos) (evE cl (.meth m x [])) := by
  obtain ⟨pa, sl, ty⟩ := mth_facts m h1 h2
  refine snd_of (pe_imp (pe_bm0 pa sl ty (meth_ok (by have := c.un; omega) m h1 h2) ha.v (base_ok hb _ _) hl) fun σ H Q h => ?_) rfl
  obtain ⟨env, mem, w, mem', o, hf, er, sm, hQ⟩ := h
  obtain ⟨u, m1, e1, hf⟩ := bnd_inv (show bnd (evE cl x env mem) _ = _ from hf)
  split at hf
  · rename_i hty
    exact ⟨env, mem, u, m1, o, e1, er, sm, fun v H1 o1 l1 s1 r1 => ⟨ty_ok hty s1 r1, u, [], w, m1, mem', o1, hf, s1, r1, .nil, fun z H2 o2 l2 s2 r2 => hQ z H2 o2 (l1.trans l2) s2 r2⟩⟩
  · cases hf
theorem s_meth (c : Ct k N sc cl X) {m : Mth} {x : IR} {xs : List IR} {es : List Expr} (h1 : m ≠ .split) (h2 : m ≠ .splitq) (ha : Snd X a (evE cl x)) (hes : PA X (e :: es) (tAs X.K (evEs cl xs))) (hs : noStar (e :: es) = true) (hle : es.length ≤ 5)
    (hb : baseOk a = true) (hl : (apos.endLine == pos.line) = true) : Snd X (.Call (.Attribute a (mnm m) apos) (e :: es) [] pos) (evE cl (.meth m x xs)) := by
  obtain ⟨pa, sl, ty⟩ := mth_facts m h1 h2
  have hs' := hs
  unfold noStar at hs'
  rw [List.all_cons, Bool.and_eq_true] at hs'
  refine snd_of (pe_imp (pe_bm pa sl ty (meth_ok (by have := c.un; omega) m h1 h2) ha.v hes (base_ok hb _ _) ?_ hl (starOne hs'.1 es X.env) (noStar_any hs'.2 X.env pos)) fun σ H Q h => ?_) rfl
  · rw [noStar_all hs X.env pos]
    show (true && true && decide ((e :: es).length + 0 + 0 < 30)) = true
    simp
    omega
  · obtain ⟨env, mem, w, mem', o, hf, er, sm, hQ⟩ := h
    obtain ⟨u, m1, e1, hf⟩ := bnd_inv (show bnd (evE cl x env mem) _ = _ from hf)
    split at hf
    · rename_i hty
      obtain ⟨us, m2, e2, hf⟩ := bnd_inv hf
      exact ⟨env, mem, u, m1, o, e1, er, sm, fun v H1 o1 l1 s1 r1 => ⟨ty_ok hty s1 r1, env, m1, us, m2, o1, e2, er.mono l1, s1, fun vs H2 o2 l2 s2 r2 => ⟨u, us, w, m2, mem', o2, hf, s2, r1.mono l2, r2, fun z H3 o3 l3 s3 r3 => hQ z H3 o3 ((l1.trans l2).trans l3) s3 r3⟩⟩⟩
    · cases hf
theorem strsL {K : PySem.W.Frag} {G : Hp} : ∀ {xs : List (List Wd)}, DRs K G (xs.map .str) ((xs.map S.str).map V.str)
  | [] => .nil
  | _ :: _ => .cons (.str _) strsL
theorem strsW {K : PySem.W.Frag} {G : Hp} : ∀ {t : List Wd}, DRs K G (t.map fun w => .str [w]) ((t.map fun w => S.str [w]).map V.str)
  | [] => .nil
  | _ :: _ => .cons (.str _) strsW
theorem side_len {t : List Wd} (h : t ∈ sideTexts) : t.length ≤ 5 := by
  have : (sideTexts.all fun t => decide (t.length ≤ 5)) = true := by decide +kernel
  exact of_decide_eq_true (List.all_eq_true.mp this t h)
theorem rule_len {t : List Wd} {ys : List (List Wd)} (h : splitEq t = some ys) : t.length ≤ 11 := by
  have all : (rulesW.all fun r => decide ((ruleText r).length ≤ 11)) = true := by decide +kernel
  obtain ⟨r, e1, e2⟩ := map_some_inv h
  have hm := List.mem_of_find?_eq_some e1
  have hp := List.find?_some e1
  have he : ruleText r = t := of_decide_eq_true hp
  rw [← he]
  exact of_decide_eq_true (List.all_eq_true.mp all r hm)
theorem str_short {t : List Wd} (h : t.length ≤ 11) : (S.str t).length + 2 ≤ sizeLine := by
  have := Scs_len t
  show (S.cs t).toArray.size + 2 ≤ sizeLine
  rw [List.size_toArray, sizeLine_eq]
  omega
theorem s_split {x : IR} {j : Nat} {z : Str} (ha : Snd X a (evE cl x)) (hz : z = blank) (hb : baseOk a = true) (hl : (apos.endLine == pos.line) = true) : Snd X (.Call (.Attribute a "split" apos) [.Constant (.str z) j p] [] pos) (evE cl (.meth .split x [])) := by
  subst hz
  refine snd_of (pe_imp (pe_split ha.v pe_str rfl (base_ok hb _ _) hl) fun σ H Q h => ?_) rfl
  obtain ⟨env, mem, w, mem', o, hf, er, sm, hQ⟩ := h
  obtain ⟨u, m1, e1, hf⟩ := bnd_inv (show bnd (evE cl x env mem) _ = _ from hf)
  split at hf
  case isFalse => cases hf
  rename_i hty
  match u, hf, e1 with
  | .d (.str t), hf, e1 =>
    have hf : (if t ∈ sideTexts then some (W.d (.lst (t.map fun w => .str [w])), m1) else none) = some (w, mem') := hf
    by_cases ht : t ∈ sideTexts
    case neg => rw [if_neg ht] at hf; cases hf
    rw [if_pos ht] at hf
    cases hf
    refine ⟨env, mem, _, _, o, e1, er, sm, fun v H1 o1 l1 s1 r1 => ?_⟩
    cases DR.strV r1
    refine ⟨⟨_, rfl⟩, S.str t, blank, rfl, rfl, rfl, str_short (Nat.le_trans (side_len ht) (by decide)), fun q hq => ?_⟩
    rw [split_ok ht]
    exact finL s1 (xs := t.map fun w => .str [w]) strsW hq fun z H2 o2 l2 s2 r2 => hQ z H2 o2 (l1.trans l2) s2 r2
theorem s_splitq {x : IR} {j : Nat} {z : Str} (ha : Snd X a (evE cl x)) (hz : z = blankEq) (hb : baseOk a = true) (hl : (apos.endLine == pos.line) = true) : Snd X (.Call (.Attribute a "split" apos) [.Constant (.str z) j p] [] pos) (evE cl (.meth .splitq x [])) := by
  subst hz
  refine snd_of (pe_imp (pe_split ha.v pe_str rfl (base_ok hb _ _) hl) fun σ H Q h => ?_) rfl
  obtain ⟨env, mem, w, mem', o, hf, er, sm, hQ⟩ := h
  obtain ⟨u, m1, e1, hf⟩ := bnd_inv (show bnd (evE cl x env mem) _ = _ from hf)
  split at hf
  case isFalse => cases hf
  rename_i hty
  match u, hf, e1 with
  | .d (.str t), hf, e1 =>
    obtain ⟨ys, e2, hf⟩ := map_some_inv (show (splitEq t).map (fun ys => (W.d (.lst (ys.map .str)), m1)) = some (w, mem') from hf)
    cases hf
    refine ⟨env, mem, _, _, o, e1, er, sm, fun v H1 o1 l1 s1 r1 => ?_⟩
    cases DR.strV r1
    refine ⟨⟨_, rfl⟩, S.str t, blankEq, rfl, rfl, rfl, str_short (rule_len e2), fun q hq => ?_⟩
    rw [splitq_ok e2]
    exact finL s1 (xs := ys.map .str) strsL hq fun z H2 o2 l2 s2 r2 => hQ z H2 o2 (l1.trans l2) s2 r2

/-! ### repr(x) == repr(y) -/
theorem s_repr (c : Ct k N sc cl X) {neq : Bool} {x y : IR} {p1 p2 q1 q2 : Pos} (hg : isGl sc "repr" = true) (ha : Snd X a (evE cl x)) (hb : Snd X b (evE cl y)) (hsa : notStar a = true) (hsb : notStar b = true) :
    Snd X (.Compare (.Call (.Name "repr" p1) [a] [] q1) [if neq then .NotEq else .Eq] [.Call (.Name "repr" p2) [b] [] q2] pos) (evE cl (.repr neq x y)) := by
  have hm := c.glo.bn "repr" (by decide)
  have one : ∀ {u : Expr} {p q : Pos} {te : TE}, PE X u te → notStar u = true → PE X (.Call (.Name "repr" p) [u] [] q) (tCB (fun xs H Q => ∃ (x : V) (d : D) (o : Wo) (mem : Mem), xs = [x] ∧ DR X.K o.G d x ∧ Sim X.K o mem H ∧ rpD d = true ∧ Q (.str (PyData.shown d.toP)) H) (tCons te tNil)) := fun {u p q te} hu hs =>
    pe_callB (repr_ok c.gd c.un) (c.gl hg) hm boot_repr (pa_cons hu pa_nil (starOne hs [] X.env)) (he := starOne hs [] X.env)
  have op : OpR X (compareOp (if neq then .NotEq else .Eq)) (if neq then rNe else rEq) := by
    cases neq with
    | false => exact op_eq
    | true => exact op_ne
  have hmk : behindInMarks (if neq then .NotEq else .Eq) (.Call (.Name "repr" p2) [b] [] q2) = false := by cases neq <;> rfl
  have key : ∀ {σ : L2.St} {H : Hp} {Q : VK}, tE X.K (evE cl (.repr neq x y)) σ H Q → tOp (if neq then rNe else rEq) (tCB (fun xs H Q => ∃ (x : V) (d : D) (o : Wo) (mem : Mem), xs = [x] ∧ DR X.K o.G d x ∧ Sim X.K o mem H ∧ rpD d = true ∧ Q (.str (PyData.shown d.toP)) H) (tCons (tE X.K (evE cl x)) tNil))
      (tCB (fun xs H Q => ∃ (x : V) (d : D) (o : Wo) (mem : Mem), xs = [x] ∧ DR X.K o.G d x ∧ Sim X.K o mem H ∧ rpD d = true ∧ Q (.str (PyData.shown d.toP)) H) (tCons (tE X.K (evE cl y)) tNil)) σ H Q := by
    intro σ H Q h
    obtain ⟨env, mem, w, mem', o, hf, er, sm, hQ⟩ := h
    obtain ⟨u, m1, e1, hf⟩ := bnd_inv (show bnd (evE cl x env mem) _ = _ from hf)
    obtain ⟨u2, m2, e2, hf⟩ := bnd_inv hf
    match u, u2, hf, e1, e2 with
    | .d d, .d d2, hf, e1, e2 =>
      have hf2 : (if rpD d && eqS d d2 then some (W.d (.bl (!neq)), m2) else none) = some (w, mem') := hf
      clear hf
      by_cases hc : (rpD d && eqS d d2) = true
      case neg => rw [if_neg hc] at hf2; cases hf2
      rw [if_pos hc] at hf2
      rw [Bool.and_eq_true] at hc
      obtain ⟨h1, h2⟩ := hc
      have := eqS_eq d d2 h2
      subst this
      cases hf2
      refine ⟨env, mem, _, m1, o, e1, er, sm, fun v H1 o1 l1 s1 r1 => ⟨v, d, o1, m1, rfl, r1, s1, h1, env, m1, _, _, o1, e2, er.mono l1, s1, fun v2 H2 o2 l2 s2 r2 => ⟨v2, d, o2, _, rfl, r2, s2, h1, ?_⟩⟩⟩
      have fin := hQ (.bl (!neq)) H2 o2 (l1.trans l2) s2 (DR.bl _)
      cases neq with
      | false => exact ⟨rfl, by simpa using fin⟩
      | true => exact ⟨rfl, by simpa using fin⟩
  exact ⟨pe_imp (pe_cmpR op (one ha.v hsa) (one hb.v hsb) hmk) fun _ _ _ h => key h, pt_imp (pt_cmpR op (one ha.v hsa) (one hb.v hsb) hmk) fun _ _ _ h => key (tTs_tB h)⟩

/-! ### MADE -/
theorem s_inMade (c : Ct k N sc cl X) {x : IR} (hg : isGl sc "MADE" = true) (ha : Snd X a (evE cl x)) : Snd X (.Compare a [.In] [.Name "MADE" p] pos) (evE cl (.inMade x)) := by
  obtain ⟨d, es, n, hm, D, hw⟩ := c.glo.made
  have nm : PE X (.Name "MADE" p) (tC (.ref d)) := pe_glob (c.gl hg) hm rfl
  have key : ∀ {σ : L2.St} {H : Hp} {Q : VK}, tE X.K (evE cl (.inMade x)) σ H Q → tOp (fun x y H Q => ∃ (z : Str) (r : Option Value), x = .str z ∧ y = .ref d ∧ PySem.W.nsIn X.K d z = some r ∧ Q (.bl r.isSome) H) (tE X.K (evE cl x)) (tC (.ref d)) σ H Q := by
    intro σ H Q h
    obtain ⟨env, mem, w, mem', o, hf, er, sm, hQ⟩ := h
    obtain ⟨u, m1, e1, hf⟩ := bnd_inv (show bnd (evE cl x env mem) _ = _ from hf)
    match u, hf, e1 with
    | .d (.str [wd]), hf, e1 =>
      cases (show some (W.d (.bl (madeW wd).isSome), m1) = some (w, mem') from hf)
      refine ⟨env, mem, _, _, o, e1, er, sm, fun v H1 o1 l1 s1 r1 => ?_⟩
      obtain ⟨r, h1, h2⟩ := hw wd
      refine ⟨_, r, DR.strV r1, rfl, h1, ?_⟩
      have : r.isSome = (madeW wd).isSome := by
        cases hmw : madeW wd with
        | none => rw [hmw] at h2; have h2 : r = none := h2; rw [h2]; rfl
        | some u => rw [hmw] at h2; obtain ⟨t, h2⟩ := h2; rw [h2]; rfl
      rw [this]
      exact hQ _ H1 o1 l1 s1 (DR.bl _)
  exact ⟨pe_imp (pe_cmpR (op_in_kd D) ha.v nm rfl) fun _ _ _ h => key h, pt_imp (pt_cmpR (op_in_kd D) ha.v nm rfl) fun _ _ _ h => key (tTs_tB h)⟩
theorem s_made (c : Ct k N sc cl X) {x : IR} (hg : isGl sc "MADE" = true) (ha : Snd X a (evE cl x)) (hs : notSlice a = true) : Snd X (.Subscript (.Name "MADE" p) a pos) (evE cl (.made x)) := by
  obtain ⟨d, es, n, hm, D, hw⟩ := c.glo.made
  have nm : PE X (.Name "MADE" p) (tC (.ref d)) := pe_glob (c.gl hg) hm rfl
  have ix : IxR X (fun x y H Q => ∃ (z : Str) (u0 : Value) (v0 : V), x = .ref d ∧ y = .str z ∧ PySem.W.nsIn X.K d z = some (some u0) ∧ RelV v0 u0 ∧ Q v0 H) := by
    intro value slice pins s σ H x y v u Q I rx ry h hsl
    have h' := h
    obtain ⟨z, u0, v0, rfl, rfl, e1, e2, q⟩ := h'
    have rv : v = .ref d := rx
    subst rv
    exact tail_any (ops := [.ref d, u]) (kd_type D I) PySem.F.slot_dict_getitem.lookup (op_item_kd D pins s σ H (.ref d) (.str z) (.ref d) u Q I rfl ry h) hsl
  refine snd_of (pe_imp (pe_ix ix nm ha.v (plainIx hs)) fun σ H Q h => ?_) rfl
  obtain ⟨env, mem, w, mem', o, hf, er, sm, hQ⟩ := h
  obtain ⟨u, m1, e1, hf⟩ := bnd_inv (show bnd (evE cl x env mem) _ = _ from hf)
  match u, hf, e1 with
  | .d (.str [wd]), hf, e1 =>
    obtain ⟨u2, e2, hf⟩ := map_some_inv (show (madeW wd).map (fun u => (W.d (.str [u]), m1)) = some (w, mem') from hf)
    cases hf
    refine ⟨env, mem, _, _, o, e1, er, sm, fun v H1 o1 l1 s1 r1 => ?_⟩
    obtain ⟨r, h1, h2⟩ := hw wd
    rw [e2] at h2
    obtain ⟨t, h2⟩ := h2
    rw [h2] at h1
    exact ⟨_, _, .str (S.str [u2]), rfl, DR.strV r1, h1, ⟨t, rfl⟩, hQ _ H1 o1 l1 s1 (DR.str _)⟩
end
end Mi
end
section
set_option maxHeartbeats 1000000
/-! Mi15: what a for walks. -/
namespace Mi
open PySem PySem.Spec PyProof.Rows L2
/-! ### a list or a tuple -/
def SqB (b : Bool) (K : PySem.W.Frag) (H : Hp) (a : Addr) (xs : List V) : Prop := match b with
  | true => SqL K H a xs
  | false => SqT K H a xs
def ItB (b : Bool) (h : Heap) (it a : Addr) (i : Nat) : Prop := match b with
  | true => h.IsListIter it a i
  | false => h.IsTupleIter it a i
def HsB (b : Bool) (h : Heap) (a : Addr) (items : Array Value) : Prop := match b with
  | true => h.IsList a items
  | false => h.IsTuple a items
def obB (b : Bool) (a : Addr) : Obj := match b with
  | true => { cls := .type "list_iterator", data := .fields #[.ref a, .int 0 0] }
  | false => { cls := .type "tuple_iterator", data := .fields #[.ref a, .int 0 0] }
theorem sqB_its {X : Cx} {pins : List (Addr × Obj)} {σ : L2.St} {H : Hp} {s : Shared} {b : Bool} {a : Addr} {xs : List V} (I : Inv X pins σ H s) (h : SqB b X.K H a xs) : ∃ its : List Value, Vals xs its ∧ HsB b s.heap a its.toArray := by
  cases b with
  | true =>
    obtain ⟨its, r, p, _⟩ := I.list h
    exact ⟨its, r, p.isList⟩
  | false =>
    obtain ⟨its, r, p, _⟩ := I.tuple h
    exact ⟨its, r, p⟩
theorem sqB_inj {X : Cx} {pins : List (Addr × Obj)} {σ : L2.St} {H : Hp} {s : Shared} {b : Bool} {a : Addr} {xs ys : List V} (I : Inv X pins σ H s) (h : SqB b X.K H a xs) (h' : SqB b X.K H a ys) : xs = ys := by
  cases b with
  | true => exact I.list_inj h h'
  | false => exact I.tuple_inj h h'
theorem hsB_lt {b : Bool} {h : Heap} {a : Addr} {its : Array Value} (p : HsB b h a its) : a < h.objs.size := by
  cases b with
  | true => obtain ⟨o, e, _⟩ := p; exact Heap.lt_size e
  | false => obtain ⟨o, e, _⟩ := p; exact Heap.lt_size e
theorem itB_at {b : Bool} {h h' : Heap} {it a : Addr} {i : Nat} (p : ItB b h it a i) (k : ∀ o, h.get? it = some o → h'.get? it = some o) : ItB b h' it a i := by
  cases b with
  | true => exact Heap.IsListIter.at p k
  | false => exact Heap.IsTupleIter.at p k
theorem itB_ob {b : Bool} {h : Heap} {it a : Addr} {i : Nat} (p : ItB b h it a i) : ∃ o, h.get? it = some o ∧ ∀ v, o.data ≠ .cell v := by
  cases b with
  | true => obtain ⟨o, e, _, d⟩ := p; exact ⟨o, e, fun v q => by rw [d] at q; cases q⟩
  | false => obtain ⟨o, e, _, d⟩ := p; exact ⟨o, e, fun v q => by rw [d] at q; cases q⟩
theorem drawsB {prog : Program} {w : World} {A : Around} (b : Bool) (hh : A.handled = none) (it l : Addr) (hne : l ≠ it) (items : Array Value) :
    Draws prog w A it [it, l] items.size (fun i v => items[i]? = some v) (fun i h => ItB b h it l i ∧ HsB b h l items) := by
  cases b with
  | true => exact Draws.list hh it l hne items
  | false => exact Draws.tuple hh it l hne items
theorem beginsB (b : Bool) (a : Addr) (items : Array Value) : Begins (.ref a) (obB b a) (fun h => HsB b h a items) := by
  cases b with
  | true => exact begins_list a items
  | false => exact begins_tuple a items
theorem obB_it {b : Bool} {h : Heap} {it a : Addr} (e : h.get? it = some (obB b a)) : ItB b h it a 0 := by
  cases b with
  | true => exact ⟨_, e, rfl, rfl⟩
  | false => exact ⟨_, e, rfl, rfl⟩
theorem vals_at {xs : List V} {us : List Value} {i : Nat} {u : Value} (r : Vals xs us) (h : i < xs.length) (g : us.toArray[i]? = some u) : ∃ v, xs[i]? = some v ∧ RelV v u := by
  obtain ⟨u', e, q⟩ := r.get (List.getElem?_eq_getElem h)
  have g' : us[i]? = some u := by simpa using g
  rw [e] at g'
  cases g'
  exact ⟨_, List.getElem?_eq_getElem h, q⟩
/-! ### zip of three -/
def Itz3 (K : PySem.W.Frag) (b1 b2 b3 : Bool) (a1 a2 a3 : Addr) : It :=
  ⟨fun i H => ∃ xs ys zs, SqB b1 K H a1 xs ∧ SqB b2 K H a2 ys ∧ SqB b3 K H a3 zs ∧ i < xs.length ∧ i < ys.length ∧ i < zs.length,
    fun i H v H' => ∃ T x y z, v = .ref T ∧ H T = none ∧ H' = upd H T (.tup [x, y, z]) ∧ (∀ xs, SqB b1 K H a1 xs → xs[i]? = some x) ∧ (∀ xs, SqB b2 K H a2 xs → xs[i]? = some y) ∧ ∀ xs, SqB b3 K H a3 xs → xs[i]? = some z,
    fun i H => ∃ xs ys zs, SqB b1 K H a1 xs ∧ SqB b2 K H a2 ys ∧ SqB b3 K H a3 zs ∧ i = min (min xs.length ys.length) zs.length⟩
theorem turn_zip3 {P : Program} {w : World} {K : PySem.W.Frag} {elts : List Expr} {kk : Nat} {tpos : Pos} {b1 b2 b3 : Bool} {a1 a2 a3 n : Nat} (l1 : a1 < n) (l2 : a2 < n) (l3 : a3 < n) :
    Turn P w K (.Tuple elts kk tpos) (Itz3 K b1 b2 b3 a1 a2 a3) [n + 5, n + 3, n + 4, n, n + 1, n + 2] (n + 5) (fun i h => IsZip h (n + 5) (n + 3) (n + 4) .none ∧ IsTupOf3 h (n + 3) (.ref n) (.ref (n + 1)) (.ref (n + 2)) ∧ (∃ x y z, IsTupOf3 h (n + 4) x y z) ∧
      ItB b1 h n a1 i ∧ ItB b2 h (n + 1) a2 i ∧ ItB b3 h (n + 2) a3 i) := by
  have sep := zip_sep3 (N := n) (fp1 := [a1]) (fp2 := [a2]) (fp3 := [a3]) (fun b hb => by rw [List.mem_singleton.mp hb]; exact l1) (fun b hb => by rw [List.mem_singleton.mp hb]; exact l2) (fun b hb => by rw [List.mem_singleton.mp hb]; exact l3)
  refine { mem := by simp, obj := fun i h st c hc => ?_, keep := fun i h h' st k => ?_, item := ?_, done := ?_, self := fun A i s Q E st h => wpAny_pyIter_zip st.1 h }
  · obtain ⟨hz, hTI, ⟨x, y, z, hTO⟩, h1, h2, h3⟩ := st
    simp only [List.mem_cons, List.not_mem_nil, or_false] at hc
    rcases hc with q | q | q | q | q | q
    · rw [q]; exact ⟨_, hz, fun v q => nomatch q⟩
    · rw [q]; exact ⟨_, hTI, fun v q => nomatch q⟩
    · rw [q]; exact ⟨_, hTO, fun v q => nomatch q⟩
    · rw [q]; exact itB_ob h1
    · rw [q]; exact itB_ob h2
    · rw [q]; exact itB_ob h3
  · obtain ⟨hz, hTI, ⟨x, y, z, hTO⟩, h1, h2, h3⟩ := st
    exact ⟨k _ (by simp) _ hz, k _ (by simp) _ hTI, ⟨x, y, z, k _ (by simp) _ hTO⟩, itB_at h1 fun o e => k _ (by simp) o e, itB_at h2 fun o e => k _ (by simp) o e, itB_at h3 fun o e => k _ (by simp) o e⟩
  · intro X hP hw hK hc i pins s σ H E I hf st hg
    subst hP hw hK
    obtain ⟨hz, hTI, ⟨x0, y0, z0, hTO⟩, h1, h2, h3⟩ := st
    obtain ⟨xs, ys, zs, q1, q2, q3, i1, i2, i3⟩ := hg
    obtain ⟨it1, r1, p1⟩ := sqB_its I q1
    obtain ⟨it2, r2, p2⟩ := sqB_its I q2
    obtain ⟨it3, r3, p3⟩ := sqB_its I q3
    have hh : X.A.in1.handled = none := I.ok.hd hc
    have W := WalksT.zipD3 sep (drawsB (prog := X.prog) (w := X.w) b1 hh n a1 (Nat.ne_of_lt l1) it1.toArray) (drawsB b2 hh (n + 1) a2 (Nat.ne_of_lt (Nat.lt_succ_of_lt l2)) it2.toArray) (drawsB b3 hh (n + 2) a3 (Nat.ne_of_lt (Nat.lt_add_right 2 l3)) it3.toArray)
    have e1 := r1.length
    have e2 := r2.length
    have e3 := r3.length
    refine W.item i s _ _ (by simp only [List.size_toArray]; omega) ⟨hz, hTI, ⟨_, _, _, hTO⟩, ⟨h1, p1⟩, ⟨h2, p2⟩, ⟨h3, p3⟩⟩ fun T vals h' tk hP hT htup hm hk => ?_
    obtain ⟨u1, u2, u3, g1, g2, g3, ev⟩ := hP
    subst ev
    refine ⟨.ref T, rfl, W.go elts kk tpos i T { s with heap := h', toks := tk } _ _ hm fun h'' st'' hk'' => ?_⟩
    obtain ⟨v1, f1, w1⟩ := vals_at r1 i1 g1
    obtain ⟨v2, f2, w2⟩ := vals_at r2 i2 g2
    obtain ⟨v3, f3, w3⟩ := vals_at r3 i3 g3
    have hTw := W.apart i T h' hm
    have hT2 : h''.IsTuple T #[u1, u2, u3] := htup.at fun o e => hk'' T o hTw e
    have new : ObjOk X.prog X.w (upd H T (.tup [v1, v2, v3])) h'' T (.tup [v1, v2, v3]) := ⟨by show 3 ≤ sizeLine; rw [sizeLine_eq]; omega, [u1, u2, u3], .cons w1 (.cons w2 (.cons w3 .nil)), hT2⟩
    have I1 : Inv X pins σ (upd H T (.tup [v1, v2, v3])) { s with heap := h'', toks := tk } :=
      I.turnedNew (t' := tk) (ch := [n + 5, n + 4, n, n + 1, n + 2]) (fun b o hb e => hk'' b o hb (hk b o hb e)) (fun b hb => hf b (by simp only [List.mem_cons, List.not_mem_nil, or_false] at hb ⊢; rcases hb with z | z | z | z | z <;> simp [z])) hT new
    obtain ⟨hz', hTI', hTO', ⟨h1', _⟩, ⟨h2', _⟩, ⟨h3', _⟩⟩ := st''
    refine ⟨.ref T, _, I1, rfl, ⟨T, v1, v2, v3, rfl, I.hok.fresh hT, rfl, fun l hl => ?_, fun l hl => ?_, fun l hl => ?_⟩, ⟨hz', hTI', hTO', h1', h2', h3'⟩, fun c hcm => ?_⟩
    · rw [sqB_inj I hl q1]; exact f1
    · rw [sqB_inj I hl q2]; exact f2
    · rw [sqB_inj I hl q3]; exact f3
    · have hlt : c < s.heap.objs.size := by
        simp only [List.mem_cons, List.not_mem_nil, or_false] at hcm
        rcases hcm with q | q | q | q | q | q
        · rw [q]; exact Heap.lt_size hz
        · rw [q]; exact Heap.lt_size hTI
        · rw [q]; exact Heap.lt_size hTO
        · rw [q]; obtain ⟨_, e, _⟩ := itB_ob h1; exact Heap.lt_size e
        · rw [q]; obtain ⟨_, e, _⟩ := itB_ob h2; exact Heap.lt_size e
        · rw [q]; obtain ⟨_, e, _⟩ := itB_ob h3; exact Heap.lt_size e
      rw [upd_ne (Nat.ne_of_lt (Nat.lt_of_lt_of_le hlt hT))]
      exact (hf c hcm).1
  · intro X hP hw hK hc i pins s σ H E I hf st hg
    subst hP hw hK
    obtain ⟨hz, hTI, ⟨x0, y0, z0, hTO⟩, h1, h2, h3⟩ := st
    obtain ⟨xs, ys, zs, q1, q2, q3, ei⟩ := hg
    obtain ⟨it1, r1, p1⟩ := sqB_its I q1
    obtain ⟨it2, r2, p2⟩ := sqB_its I q2
    obtain ⟨it3, r3, p3⟩ := sqB_its I q3
    have hh : X.A.in1.handled = none := I.ok.hd hc
    have W := WalksT.zipD3 sep (drawsB (prog := X.prog) (w := X.w) b1 hh n a1 (Nat.ne_of_lt l1) it1.toArray) (drawsB b2 hh (n + 1) a2 (Nat.ne_of_lt (Nat.lt_succ_of_lt l2)) it2.toArray) (drawsB b3 hh (n + 2) a3 (Nat.ne_of_lt (Nat.lt_add_right 2 l3)) it3.toArray)
    have e1 := r1.length
    have e2 := r2.length
    have e3 := r3.length
    have z1 : it1.toArray.size = it1.length := List.size_toArray ..
    have z2 : it2.toArray.size = it2.length := List.size_toArray ..
    have z3 : it3.toArray.size = it3.length := List.size_toArray ..
    have en : i = min (min it1.toArray.size it2.toArray.size) it3.toArray.size := by
      rw [z1, z2, z3, ← e1, ← e2, ← e3]
      exact ei
    refine W.done s _ _ (by rw [← en]; exact ⟨hz, hTI, ⟨_, _, _, hTO⟩, ⟨h1, p1⟩, ⟨h2, p2⟩, ⟨h3, p3⟩⟩) fun h' tk hk => ⟨rfl, ?_⟩
    exact I.turnedL (t' := tk) (ch := [n + 5, n + 4, n, n + 1, n + 2]) (fun b o hb e => hk b o hb e) fun b hb => hf b (by simp only [List.mem_cons, List.not_mem_nil, or_false] at hb ⊢; rcases hb with z | z | z | z | z <;> simp [z])
/-! ### zip of two -/
def Itz2 (K : PySem.W.Frag) (b1 b2 : Bool) (a1 a2 : Addr) : It :=
  ⟨fun i H => ∃ xs ys, SqB b1 K H a1 xs ∧ SqB b2 K H a2 ys ∧ i < xs.length ∧ i < ys.length,
    fun i H v H' => ∃ T x y, v = .ref T ∧ H T = none ∧ H' = upd H T (.tup [x, y]) ∧ (∀ xs, SqB b1 K H a1 xs → xs[i]? = some x) ∧ ∀ xs, SqB b2 K H a2 xs → xs[i]? = some y,
    fun i H => ∃ xs ys, SqB b1 K H a1 xs ∧ SqB b2 K H a2 ys ∧ i = min xs.length ys.length⟩
theorem turn_zip2 {P : Program} {w : World} {K : PySem.W.Frag} {elts : List Expr} {kk : Nat} {tpos : Pos} {b1 b2 : Bool} {a1 a2 n : Nat} (l1 : a1 < n) (l2 : a2 < n) :
    Turn P w K (.Tuple elts kk tpos) (Itz2 K b1 b2 a1 a2) [n + 4, n + 2, n + 3, n, n + 1] (n + 4) (fun i h => IsZip h (n + 4) (n + 2) (n + 3) .none ∧ IsTupOf2 h (n + 2) (.ref n) (.ref (n + 1)) ∧ (∃ x y, IsTupOf2 h (n + 3) x y) ∧
      ItB b1 h n a1 i ∧ ItB b2 h (n + 1) a2 i) := by
  have sep := zip_sep2 (N := n) (fp1 := [a1]) (fp2 := [a2]) (fun b hb => by rw [List.mem_singleton.mp hb]; exact l1) (fun b hb => by rw [List.mem_singleton.mp hb]; exact l2)
  refine { mem := by simp, obj := fun i h st c hc => ?_, keep := fun i h h' st k => ?_, item := ?_, done := ?_, self := fun A i s Q E st h => wpAny_pyIter_zip st.1 h }
  · obtain ⟨hz, hTI, ⟨x, y, hTO⟩, h1, h2⟩ := st
    simp only [List.mem_cons, List.not_mem_nil, or_false] at hc
    rcases hc with q | q | q | q | q
    · rw [q]; exact ⟨_, hz, fun v q => nomatch q⟩
    · rw [q]; exact ⟨_, hTI, fun v q => nomatch q⟩
    · rw [q]; exact ⟨_, hTO, fun v q => nomatch q⟩
    · rw [q]; exact itB_ob h1
    · rw [q]; exact itB_ob h2
  · obtain ⟨hz, hTI, ⟨x, y, hTO⟩, h1, h2⟩ := st
    exact ⟨k _ (by simp) _ hz, k _ (by simp) _ hTI, ⟨x, y, k _ (by simp) _ hTO⟩, itB_at h1 fun o e => k _ (by simp) o e, itB_at h2 fun o e => k _ (by simp) o e⟩
  · intro X hP hw hK hc i pins s σ H E I hf st hg
    subst hP hw hK
    obtain ⟨hz, hTI, ⟨x0, y0, hTO⟩, h1, h2⟩ := st
    obtain ⟨xs, ys, q1, q2, i1, i2⟩ := hg
    obtain ⟨it1, r1, p1⟩ := sqB_its I q1
    obtain ⟨it2, r2, p2⟩ := sqB_its I q2
    have hh : X.A.in1.handled = none := I.ok.hd hc
    have W := WalksT.zipD2 sep (drawsB (prog := X.prog) (w := X.w) b1 hh n a1 (Nat.ne_of_lt l1) it1.toArray) (drawsB b2 hh (n + 1) a2 (Nat.ne_of_lt (Nat.lt_succ_of_lt l2)) it2.toArray)
    have e1 := r1.length
    have e2 := r2.length
    refine W.item i s _ _ (by simp only [List.size_toArray]; omega) ⟨hz, hTI, ⟨_, _, hTO⟩, ⟨h1, p1⟩, ⟨h2, p2⟩⟩ fun T vals h' tk hP hT htup hm hk => ?_
    obtain ⟨u1, u2, g1, g2, ev⟩ := hP
    subst ev
    refine ⟨.ref T, rfl, W.go elts kk tpos i T { s with heap := h', toks := tk } _ _ hm fun h'' st'' hk'' => ?_⟩
    obtain ⟨v1, f1, w1⟩ := vals_at r1 i1 g1
    obtain ⟨v2, f2, w2⟩ := vals_at r2 i2 g2
    have hTw := W.apart i T h' hm
    have hT2 : h''.IsTuple T #[u1, u2] := htup.at fun o e => hk'' T o hTw e
    have new : ObjOk X.prog X.w (upd H T (.tup [v1, v2])) h'' T (.tup [v1, v2]) := ⟨by show 2 ≤ sizeLine; rw [sizeLine_eq]; omega, [u1, u2], .cons w1 (.cons w2 .nil), hT2⟩
    have I1 : Inv X pins σ (upd H T (.tup [v1, v2])) { s with heap := h'', toks := tk } :=
      I.turnedNew (t' := tk) (ch := [n + 4, n + 3, n, n + 1]) (fun b o hb e => hk'' b o hb (hk b o hb e)) (fun b hb => hf b (by simp only [List.mem_cons, List.not_mem_nil, or_false] at hb ⊢; rcases hb with z | z | z | z <;> simp [z])) hT new
    obtain ⟨hz', hTI', hTO', ⟨h1', _⟩, ⟨h2', _⟩⟩ := st''
    refine ⟨.ref T, _, I1, rfl, ⟨T, v1, v2, rfl, I.hok.fresh hT, rfl, fun l hl => ?_, fun l hl => ?_⟩, ⟨hz', hTI', hTO', h1', h2'⟩, fun c hcm => ?_⟩
    · rw [sqB_inj I hl q1]; exact f1
    · rw [sqB_inj I hl q2]; exact f2
    · have hlt : c < s.heap.objs.size := by
        simp only [List.mem_cons, List.not_mem_nil, or_false] at hcm
        rcases hcm with q | q | q | q | q
        · rw [q]; exact Heap.lt_size hz
        · rw [q]; exact Heap.lt_size hTI
        · rw [q]; exact Heap.lt_size hTO
        · rw [q]; obtain ⟨_, e, _⟩ := itB_ob h1; exact Heap.lt_size e
        · rw [q]; obtain ⟨_, e, _⟩ := itB_ob h2; exact Heap.lt_size e
      rw [upd_ne (Nat.ne_of_lt (Nat.lt_of_lt_of_le hlt hT))]
      exact (hf c hcm).1
  · intro X hP hw hK hc i pins s σ H E I hf st hg
    subst hP hw hK
    obtain ⟨hz, hTI, ⟨x0, y0, hTO⟩, h1, h2⟩ := st
    obtain ⟨xs, ys, q1, q2, ei⟩ := hg
    obtain ⟨it1, r1, p1⟩ := sqB_its I q1
    obtain ⟨it2, r2, p2⟩ := sqB_its I q2
    have hh : X.A.in1.handled = none := I.ok.hd hc
    have W := WalksT.zipD2 sep (drawsB (prog := X.prog) (w := X.w) b1 hh n a1 (Nat.ne_of_lt l1) it1.toArray) (drawsB b2 hh (n + 1) a2 (Nat.ne_of_lt (Nat.lt_succ_of_lt l2)) it2.toArray)
    have e1 := r1.length
    have e2 := r2.length
    have z1 : it1.toArray.size = it1.length := List.size_toArray ..
    have z2 : it2.toArray.size = it2.length := List.size_toArray ..
    have en : i = min it1.toArray.size it2.toArray.size := by
      rw [z1, z2, ← e1, ← e2]
      exact ei
    refine W.done s _ _ (by rw [← en]; exact ⟨hz, hTI, ⟨_, _, hTO⟩, ⟨h1, p1⟩, ⟨h2, p2⟩⟩) fun h' tk hk => ⟨rfl, ?_⟩
    exact I.turnedL (t' := tk) (ch := [n + 4, n + 3, n, n + 1]) (fun b o hb e => hk b o hb e) fun b hb => hf b (by simp only [List.mem_cons, List.not_mem_nil, or_false] at hb ⊢; rcases hb with z | z | z | z <;> simp [z])
/-! ### readings -/
/-- a walk whose i-th thing is the i-th of xs, from o on -/
structure WalkD (K : PySem.W.Frag) (J : It) (xs : List D) (o : Wo) : Prop where
  go : ∀ i mem H o', o.Lt o' → Sim K o' mem H → i < xs.length → J.go i H
  stop : ∀ mem H o', o.Lt o' → Sim K o' mem H → J.stop xs.length H
  yld : ∀ i mem H o' x v H', o.Lt o' → Sim K o' mem H → xs[i]? = some x → J.yld i H v H' → ∃ o'', o'.Le o'' ∧ Sim K o'' mem H' ∧ DR K o''.G x v
def iD (K : PySem.W.Frag) (k : ItK) (f : FA) : TI := fun σ H R => ∃ env mem ws mem' o xs, f env mem = some (ws, mem') ∧ EnvR K o env σ ∧ Sim K o mem H ∧ itemsD k ws = some xs ∧ ∀ J H' o', o.Le o' → Sim K o' mem' H' → WalkD K J xs o' → R J H'
theorem seqD_rel {K : PySem.W.Frag} {o : Wo} {w : W} {xs : List D} {v : V} (h : seqD w = some xs) (r : WR K o w v) : ∃ b a vs, v = .ref a ∧ DRs K o.G xs vs ∧ ∀ o' mem H, o.Lt o' → Sim K o' mem H → SqB b K H a vs := by
  match w, h with
  | .d (.lst ys), h =>
    cases h
    obtain ⟨a, vs, e, q1, q2⟩ := DR.lstV r
    exact ⟨true, a, vs, e, q2, fun o' mem H le s => Sub.seqL s.sub (le.inc.seqL q1)⟩
  | .d (.tup ys), h =>
    cases h
    obtain ⟨a, vs, e, q1, q2⟩ := DR.tupV r
    exact ⟨false, a, vs, e, q2, fun o' mem H le s => Sub.seqT s.sub (le.inc.seqT q1)⟩
theorem zip2_len : ∀ (xs ys : List D), (zip2 xs ys).length = min xs.length ys.length
  | [], _ => by simp [zip2]
  | _ :: _, [] => by simp [zip2]
  | x :: xs, y :: ys => by
    show (zip2 xs ys).length + 1 = _
    rw [zip2_len xs ys]
    simp only [List.length_cons]
    omega
theorem zip2_get : ∀ {xs ys : List D} {i : Nat} {d : D}, (zip2 xs ys)[i]? = some d → ∃ x y, xs[i]? = some x ∧ ys[i]? = some y ∧ d = .tup [x, y]
  | [], _, _, _, h => by simp [zip2] at h
  | _ :: _, [], _, _, h => by simp [zip2] at h
  | x :: xs, y :: ys, 0, d, h => by
    have h : some (D.tup [x, y]) = some d := h
    cases h
    exact ⟨x, y, rfl, rfl, rfl⟩
  | x :: xs, y :: ys, i + 1, d, h => zip2_get (xs := xs) (ys := ys) (i := i) h
theorem zip3_len : ∀ (xs ys zs : List D), (zip3 xs ys zs).length = min (min xs.length ys.length) zs.length
  | [], _, _ => by simp [zip3]
  | _ :: _, [], _ => by simp [zip3]
  | _ :: _, _ :: _, [] => by simp [zip3]
  | x :: xs, y :: ys, z :: zs => by
    show (zip3 xs ys zs).length + 1 = _
    rw [zip3_len xs ys zs]
    simp only [List.length_cons]
    omega
theorem zip3_get : ∀ {xs ys zs : List D} {i : Nat} {d : D}, (zip3 xs ys zs)[i]? = some d → ∃ x y z, xs[i]? = some x ∧ ys[i]? = some y ∧ zs[i]? = some z ∧ d = .tup [x, y, z]
  | [], _, _, _, _, h => by simp [zip3] at h
  | _ :: _, [], _, _, _, h => by simp [zip3] at h
  | _ :: _, _ :: _, [], _, _, h => by simp [zip3] at h
  | x :: xs, y :: ys, z :: zs, 0, d, h => by
    have h : some (D.tup [x, y, z]) = some d := h
    cases h
    exact ⟨x, y, z, rfl, rfl, rfl, rfl⟩
  | x :: xs, y :: ys, z :: zs, i + 1, d, h => zip3_get (xs := xs) (ys := ys) (zs := zs) (i := i) h
/-- a new tuple that nobody changes -/
theorem newT {K : PySem.W.Frag} {o : Wo} {mem : Mem} {H : Hp} {xs : List D} {vs : List V} {p : Addr} (s : Sim K o mem H) (r : DRs K o.G xs vs) (hp : H p = none) : ∃ o', o.Le o' ∧ Sim K o' mem (upd H p (.tup vs)) ∧ DR K o'.G (.tup xs) (.ref p) := by
  have le := Wo.keep_le (o := o) (a := p) (ob := .tup vs) (s.sub.free hp)
  exact ⟨_, le, s.keep hp, .tup (.inl (.inl upd_same)) (DRs.mono le.inc _ _ r)⟩
theorem DRs.nth {K : PySem.W.Frag} {G : Hp} {xs : List D} {vs : List V} (r : DRs K G xs vs) {i : Nat} {x : D} {v : V} (hx : xs[i]? = some x) (hv : vs[i]? = some v) : DR K G x v := by
  obtain ⟨v', e, q⟩ := r.get hx
  rw [hv] at e
  cases e
  exact q
section
variable {X : Cx} {e a b e1 e2 e3 tg : Expr} {f g : FE} {pos p tpos : Pos} {k : Nat} {N : List Str} {sc : Scope} {cl : Cl}
theorem i_e {x : IR} (ha : Snd X e (evE cl x)) : PI X tg e (iD X.K .e (evEs cl [x])) := pi_by fun σ H R h => by
  obtain ⟨env, mem, ws, mem', o, xs, hf, er, sm, hi, hR⟩ := h
  obtain ⟨u, m1, g1, hf⟩ := bnd_inv (show bnd (evE cl x env mem) _ = _ from hf)
  cases hf
  match u, hi, g1 with
  | .d (.lst ys), hi, g1 =>
    cases hi
    refine ⟨_, pi_list ha.v, env, mem, _, _, o, g1, er, sm, fun v H1 o1 l1 s1 r1 => ?_⟩
    obtain ⟨q, vs, ev, q1, q2⟩ := DR.lstV r1
    have st : ∀ {o' : Wo} {mem : Mem} {H : Hp}, o1.Lt o' → Sim X.K o' mem H → SqL X.K H q vs := fun le s => Sub.seqL s.sub (le.inc.seqL q1)
    refine ⟨q, ev, ⟨vs, st (Wo.Lt.refl _) s1⟩, hR _ H1 o1 l1 s1 ⟨fun i m H' o' le s hi => ?_, fun m H' o' le s => ⟨vs, st le s, Nat.le_of_eq q2.length.symm⟩, fun i m H' o' y v H2 le s hy hyl => ?_⟩⟩
    · have hi' : i < vs.length := by rw [← q2.length]; exact hi
      exact ⟨vs, _, st le s, List.getElem?_eq_getElem hi'⟩
    · obtain ⟨eH, hv⟩ := hyl
      subst eH
      exact ⟨o', Wo.Le.refl _, s, (DRs.mono le.inc _ _ q2).nth hy (hv vs (st le s))⟩
  | .d (.tup ys), hi, g1 =>
    cases hi
    refine ⟨_, pi_tup ha.v, env, mem, _, _, o, g1, er, sm, fun v H1 o1 l1 s1 r1 => ?_⟩
    obtain ⟨q, vs, ev, q1, q2⟩ := DR.tupV r1
    have st : ∀ {o' : Wo} {mem : Mem} {H : Hp}, o1.Lt o' → Sim X.K o' mem H → SqT X.K H q vs := fun le s => Sub.seqT s.sub (le.inc.seqT q1)
    refine ⟨q, ev, ⟨vs, st (Wo.Lt.refl _) s1⟩, hR _ H1 o1 l1 s1 ⟨fun i m H' o' le s hi => ?_, fun m H' o' le s => ⟨vs, st le s, Nat.le_of_eq q2.length.symm⟩, fun i m H' o' y v H2 le s hy hyl => ?_⟩⟩
    · have hi' : i < vs.length := by rw [← q2.length]; exact hi
      exact ⟨vs, _, st le s, List.getElem?_eq_getElem hi'⟩
    · obtain ⟨eH, hv⟩ := hyl
      subst eH
      exact ⟨o', Wo.Le.refl _, s, (DRs.mono le.inc _ _ q2).nth hy (hv vs (st le s))⟩
theorem i_range (c : Ct k N sc cl X) {x : IR} (hg : isGl sc "range" = true) (ha : PA X [e] (tAs X.K (evEs cl [x]))) (hs : notStar e = true) : PI X tg (.Call (.Name "range" p) [e] [] pos) (iD X.K .range (evEs cl [x])) := by
  have base := pi_range1 (p := p) (pos := pos) (tg := tg) (c.gl hg) (c.glo.bn _ (by decide)) ha (starOne hs [] X.env)
  refine pi_by fun σ H R h => ⟨_, base, ?_⟩
  obtain ⟨env, mem, ws, mem', o, xs, hf, er, sm, hi, hR⟩ := h
  match ws, hi, hf with
  | [.d (.int i)], hi, hf =>
    have hi : (if -100000 ≤ i ∧ i ≤ 100000 then some ((List.range i.toNat).map fun (j : Nat) => D.int (j : Int)) else none) = some xs := hi
    by_cases hb : -100000 ≤ i ∧ i ≤ 100000
    case neg => rw [if_neg hb] at hi; cases hi
    rw [if_pos hb] at hi
    cases hi
    refine ⟨env, mem, _, mem', o, hf, er, sm, fun vs H1 o1 l1 s1 r1 => ?_⟩
    obtain ⟨v, rfl, rv⟩ : ∃ v, vs = [v] ∧ WR X.K o1 (.d (.int i)) v := by
      cases r1 with
      | cons q1 q2 => cases q2; exact ⟨_, rfl, q1⟩
    cases DR.intV rv
    refine ⟨i, rfl, by omega, by omega, hR _ H1 o1 l1 s1 ⟨fun j m H' o' le s hj => ?_, fun m H' o' le s => ?_, fun j m H' o' y v H2 le s hy hyl => ?_⟩⟩
    · show j < i.toNat
      simpa using hj
    · show i.toNat ≤ _
      simp
    · obtain ⟨eH, ev⟩ := hyl
      subst eH ev
      refine ⟨o', Wo.Le.refl _, s, ?_⟩
      rw [List.getElem?_map] at hy
      obtain ⟨m', e1, e2⟩ := map_some_inv hy
      have hl := (List.getElem?_eq_some_iff.mp e1).1
      rw [List.getElem?_range (by simpa using hl)] at e1
      cases e1
      subst e2
      rw [Int.zero_add]
      exact .int _
theorem fresh_of {pins : List (Addr × Obj)} {σ : L2.St} {H : Hp} {s : Shared} (I : Inv X pins σ H s) {l : List Addr} (h : ∀ b ∈ l, s.heap.objs.size ≤ b) : ∀ b ∈ l, FpOk X pins H b := fun b hb => I.fpOk (h b hb) (I.hok.fresh (h b hb))
theorem i_zip2 (c : Ct k N sc cl X) {xs : List IR} {elts : List Expr} {kk : Nat} (hg : isGl sc "zip" = true) (ha : PA X [e1, e2] (tAs X.K (evEs cl xs))) (h1 : notStar e1 = true) (h2 : notStar e2 = true) (hl : xs.length = 2) :
    PI X (.Tuple elts kk tpos) (.Call (.Name "zip" p) [e1, e2] [] pos) (iD X.K .zip (evEs cl xs)) := by
  refine ⟨fun pins s σ H R I h => ?_⟩
  obtain ⟨env, mem, ws, mem', o, ds, hf, er, sm, hi, hR⟩ := h
  have hlw := (evEs_len hf).trans hl
  match ws, hlw, hi, hf with
  | [w1, w2], _, hi, hf =>
    obtain ⟨d1, g1, hi⟩ := bind_some_inv (show (seqD w1).bind (fun xs => (seqD w2).map fun ys => zip2 xs ys) = some ds from hi)
    obtain ⟨d2, g2, hi⟩ := map_some_inv hi
    subst hi
    refine Call_ (ld_blt I (c.gl hg) (c.glo.bn _ (by decide)) PyProof.Rows.boot_zip (PyProof.Rows.callWith_type1 (thn (ha.run pos pins s σ H (fun vs H1 => ∃ o1, o.Le o1 ∧ Sim X.K o1 mem' H1 ∧ WRs X.K o1 [w1, w2] vs) I
      ⟨env, mem, _, mem', o, hf, er, sm, fun vs H1 o1 l1 s1 r1 => ⟨o1, l1, s1, r1⟩⟩) fun us s1 ⟨vs, H1, I1, r1, o1, l1, sm1, wr⟩ => ?_) (starOne h1 _ X.env) (noStar_any (by simp [noStar, h2]) X.env pos)))
    obtain ⟨v1, v2, ev, r1', r2'⟩ : ∃ v1 v2, vs = [v1, v2] ∧ WR X.K o1 w1 v1 ∧ WR X.K o1 w2 v2 := by
      cases wr with
      | cons q1 q2 =>
        cases q2 with
        | cons q2 q3 => cases q3; exact ⟨_, _, rfl, q1, q2⟩
    subst ev
    obtain ⟨b1, a1, x1, ev1, dr1, st1⟩ := seqD_rel g1 r1'
    obtain ⟨b2, a2, x2, ev2, dr2, st2⟩ := seqD_rel g2 r2'
    subst ev1 ev2
    cases r1 with
    | cons q1 rr =>
      cases rr with
      | cons q2 rr =>
        cases rr
        cases q1
        cases q2
        obtain ⟨it1, _, p1⟩ := sqB_its I1 (st1 o1 _ _ (Wo.Lt.refl _) sm1)
        obtain ⟨it2, _, p2⟩ := sqB_its I1 (st2 o1 _ _ (Wo.Lt.refl _) sm1)
        refine zip_begins2 (beginsB b1 a1 it1.toArray) (beginsB b2 a2 it2.toArray) p1 p2 fun h' hz hTI hTO gi1 gi2 hsz hk => wpAny_pyIter_zip hz ?_
        have I2 : Inv X pins σ H1 { s1 with heap := h' } := I1.kept (t' := s1.toks) hk
        refine ⟨s1.heap.objs.size + 4, _, _, Itz2 X.K b1 b2 a1 a2, H1, rfl, I2, turn_zip2 (n := s1.heap.objs.size) (hsB_lt p1) (hsB_lt p2), ⟨hz, hTI, ⟨_, _, hTO⟩, obB_it gi1, obB_it gi2⟩, fresh_of I1 fun c hcm => ?_, hR _ H1 o1 l1 sm1 ⟨fun i m H' o' le s hj => ?_, fun m H' o' le s => ?_, fun i m H' o' y v H2 le s hy hyl => ?_⟩⟩
        · simp only [List.mem_cons, List.not_mem_nil, or_false] at hcm
          rcases hcm with z | z | z | z | z <;> rw [z] <;> first | exact Nat.le_add_right _ _ | exact Nat.le_refl _
        · rw [zip2_len, dr1.length, dr2.length] at hj
          exact ⟨x1, x2, st1 _ _ _ le s, st2 _ _ _ le s, by omega, by omega⟩
        · rw [zip2_len, dr1.length, dr2.length]
          exact ⟨x1, x2, st1 _ _ _ le s, st2 _ _ _ le s, rfl⟩
        · obtain ⟨T, v1, v2, ev, hT, eH, f1, f2⟩ := hyl
          obtain ⟨y1, y2, k1, k2, ey⟩ := zip2_get hy
          subst ev eH ey
          exact newT s (.cons ((DRs.mono le.inc _ _ dr1).nth k1 (f1 _ (st1 _ _ _ le s))) (.cons ((DRs.mono le.inc _ _ dr2).nth k2 (f2 _ (st2 _ _ _ le s))) .nil)) hT
theorem i_zip3 (c : Ct k N sc cl X) {xs : List IR} {elts : List Expr} {kk : Nat} (hg : isGl sc "zip" = true) (ha : PA X [e1, e2, e3] (tAs X.K (evEs cl xs))) (h1 : notStar e1 = true) (h2 : notStar e2 = true) (h3 : notStar e3 = true) (hl : xs.length = 3) :
    PI X (.Tuple elts kk tpos) (.Call (.Name "zip" p) [e1, e2, e3] [] pos) (iD X.K .zip (evEs cl xs)) := by
  refine ⟨fun pins s σ H R I h => ?_⟩
  obtain ⟨env, mem, ws, mem', o, ds, hf, er, sm, hi, hR⟩ := h
  have hlw := (evEs_len hf).trans hl
  match ws, hlw, hi, hf with
  | [w1, w2, w3], _, hi, hf =>
    obtain ⟨d1, g1, hi⟩ := bind_some_inv (show (seqD w1).bind (fun xs => (seqD w2).bind fun ys => (seqD w3).map fun zs => zip3 xs ys zs) = some ds from hi)
    obtain ⟨d2, g2, hi⟩ := bind_some_inv hi
    obtain ⟨d3, g3, hi⟩ := map_some_inv hi
    subst hi
    refine Call_ (ld_blt I (c.gl hg) (c.glo.bn _ (by decide)) PyProof.Rows.boot_zip (PyProof.Rows.callWith_type1 (thn (ha.run pos pins s σ H (fun vs H1 => ∃ o1, o.Le o1 ∧ Sim X.K o1 mem' H1 ∧ WRs X.K o1 [w1, w2, w3] vs) I
      ⟨env, mem, _, mem', o, hf, er, sm, fun vs H1 o1 l1 s1 r1 => ⟨o1, l1, s1, r1⟩⟩) fun us s1 ⟨vs, H1, I1, r1, o1, l1, sm1, wr⟩ => ?_) (starOne h1 _ X.env) (noStar_any (by simp [noStar, h2, h3]) X.env pos)))
    obtain ⟨v1, v2, v3, ev, r1', r2', r3'⟩ : ∃ v1 v2 v3, vs = [v1, v2, v3] ∧ WR X.K o1 w1 v1 ∧ WR X.K o1 w2 v2 ∧ WR X.K o1 w3 v3 := by
      cases wr with
      | cons q1 q2 =>
        cases q2 with
        | cons q2 q3 =>
          cases q3 with
          | cons q3 q4 => cases q4; exact ⟨_, _, _, rfl, q1, q2, q3⟩
    subst ev
    obtain ⟨b1, a1, x1, ev1, dr1, st1⟩ := seqD_rel g1 r1'
    obtain ⟨b2, a2, x2, ev2, dr2, st2⟩ := seqD_rel g2 r2'
    obtain ⟨b3, a3, x3, ev3, dr3, st3⟩ := seqD_rel g3 r3'
    subst ev1 ev2 ev3
    cases r1 with
    | cons q1 rr =>
      cases rr with
      | cons q2 rr =>
        cases rr with
        | cons q3 rr =>
          cases rr
          cases q1
          cases q2
          cases q3
          obtain ⟨it1, _, p1⟩ := sqB_its I1 (st1 o1 _ _ (Wo.Lt.refl _) sm1)
          obtain ⟨it2, _, p2⟩ := sqB_its I1 (st2 o1 _ _ (Wo.Lt.refl _) sm1)
          obtain ⟨it3, _, p3⟩ := sqB_its I1 (st3 o1 _ _ (Wo.Lt.refl _) sm1)
          refine zip_begins3 (beginsB b1 a1 it1.toArray) (beginsB b2 a2 it2.toArray) (beginsB b3 a3 it3.toArray) p1 p2 p3 fun h' hz hTI hTO gi1 gi2 gi3 hsz hk => wpAny_pyIter_zip hz ?_
          have I2 : Inv X pins σ H1 { s1 with heap := h' } := I1.kept (t' := s1.toks) hk
          refine ⟨s1.heap.objs.size + 5, _, _, Itz3 X.K b1 b2 b3 a1 a2 a3, H1, rfl, I2, turn_zip3 (n := s1.heap.objs.size) (hsB_lt p1) (hsB_lt p2) (hsB_lt p3), ⟨hz, hTI, ⟨_, _, _, hTO⟩, obB_it gi1, obB_it gi2, obB_it gi3⟩, fresh_of I1 fun c hcm => ?_, hR _ H1 o1 l1 sm1 ⟨fun i m H' o' le s hj => ?_, fun m H' o' le s => ?_, fun i m H' o' y v H2 le s hy hyl => ?_⟩⟩
          · simp only [List.mem_cons, List.not_mem_nil, or_false] at hcm
            rcases hcm with z | z | z | z | z | z <;> rw [z] <;> first | exact Nat.le_add_right _ _ | exact Nat.le_refl _
          · rw [zip3_len, dr1.length, dr2.length, dr3.length] at hj
            exact ⟨x1, x2, x3, st1 _ _ _ le s, st2 _ _ _ le s, st3 _ _ _ le s, by omega, by omega, by omega⟩
          · rw [zip3_len, dr1.length, dr2.length, dr3.length]
            exact ⟨x1, x2, x3, st1 _ _ _ le s, st2 _ _ _ le s, st3 _ _ _ le s, rfl⟩
          · obtain ⟨T, v1, v2, v3, ev, hT, eH, f1, f2, f3⟩ := hyl
            obtain ⟨y1, y2, y3, k1, k2, k3, ey⟩ := zip3_get hy
            subst ev eH ey
            exact newT s (.cons ((DRs.mono le.inc _ _ dr1).nth k1 (f1 _ (st1 _ _ _ le s))) (.cons ((DRs.mono le.inc _ _ dr2).nth k2 (f2 _ (st2 _ _ _ le s))) (.cons ((DRs.mono le.inc _ _ dr3).nth k3 (f3 _ (st3 _ _ _ le s))) .nil))) hT
end
end Mi
end
section
set_option maxHeartbeats 1000000
/-! Mi16: targets, loops, statements. -/
namespace Mi
open PySem PySem.Spec PyProof.Rows L2
/-! ### statements -/
abbrev FS := Env → Mem → Option ((Out × Env) × Mem)
def ends (K : PySem.W.Frag) (o : Wo) (D : Ends) (out : Out) (env' : Env) (mem' : Mem) : Prop := match out with
  | .next => ∀ σ' H' o', o.Le o' → Sim K o' mem' H' → EnvR K o' env' σ' → D.nx σ' H'
  | .ret w => ∀ v H' o', o.Le o' → Sim K o' mem' H' → WR K o' w v → D.rt v H'
  | .retT ws => ∀ vs q H' o', o.Le o' → Sim K o' mem' H' → WRs K o' ws vs → H' q = none → D.rt (.ref q) (upd H' q (.tup vs))
def tS (K : PySem.W.Frag) (f : FS) : TS := fun D σ H => ∃ env mem out env' mem' o, f env mem = some ((out, env'), mem') ∧ EnvR K o env σ ∧ Sim K o mem H ∧ ends K o D out env' mem'
theorem ends_mono {K : PySem.W.Frag} {o o' : Wo} {D : Ends} {out : Out} {env' : Env} {mem' : Mem} (le : o.Le o') (h : ends K o D out env' mem') : ends K o' D out env' mem' := by
  cases out with
  | next => exact fun σ' H' o2 l => h σ' H' o2 (le.trans l)
  | ret w => exact fun v H' o2 l => h v H' o2 (le.trans l)
  | retT ws => exact fun vs q H' o2 l => h vs q H' o2 (le.trans l)
section
variable {X : Cx} {e a b : Expr} {f g : FE} {pos p : Pos} {k : Nat} {N : List Str} {sc : Scope} {cl : Cl}
/-! ### targets -/
def isLoc (sc : Scope) (x : Str) : Bool := decide (sc.names.lookup x = some NameKind.local) || decide (sc.names.lookup x = some NameKind.cell)
/-- a def's body runs -/
structure CtF (k : Nat) (N : List Str) (sc : Scope) (cl : Cl) (X : Cx) : Prop extends Ct k N sc cl X where
  cel : ∀ x, sc.names.lookup x = some NameKind.cell → X.fn x = true
/-- names that may be stored to -/
def Sto (X : Cx) (lo : Str → Bool) : Prop := ∀ x, lo x = true → Loc X.env.scope x ∧ (X.fn x = true ∨ X.env.scope.names.lookup x = some .local)
def isOwn (sc : Scope) (x : Str) : Bool := decide (sc.names.lookup x = some NameKind.local)
theorem Ct.sto (c : Ct k N sc cl X) : Sto X (isOwn sc) := fun x h => by
  rw [c.scp]
  have h := of_decide_eq_true h
  exact ⟨.inl h, .inr h⟩
theorem CtF.sto (c : CtF k N sc cl X) : Sto X (isLoc sc) := fun x h => by
  rw [c.scp]
  unfold isLoc at h
  rw [Bool.or_eq_true, decide_eq_true_eq, decide_eq_true_eq] at h
  rcases h with h | h
  · exact ⟨.inl h, .inr h⟩
  · exact ⟨.inr h, .inl (c.cel x h)⟩
theorem g_nm (c : Ct k N sc cl X) {lo : Str → Bool} (hlo : Sto X lo) {i : Nat} {x : Str} (hN : N[i]? = some x) (hx : lo x = true) : PG X (.Name x pos) (gName i) :=
  pg_name (by rw [c.n]; exact c.nd) (by rw [c.n]; exact hN) (hlo x hx).1 (hlo x hx).2
def gNames : List Nat → TGs
  | [] => gNil
  | i :: is => gCons (gName i) (gNames is)
def setAll (σ : L2.St) : List (Nat × V) → L2.St
  | [] => σ
  | q :: r => setAll (σ.set q.1 (some q.2)) r
theorem gNames_ok {H : Hp} {Q : L2.St → Hp → Prop} : ∀ {is : List Nat} {vs : List V} {σ : L2.St}, vs.length = is.length → Q (setAll σ (is.zip vs)) H → gNames is vs σ H Q
  | [], [], _, _, q => ⟨rfl, q⟩
  | i :: is, v :: vs, σ, hl, q => ⟨v, vs, rfl, gNames_ok (by simpa using hl) q⟩
/-- a row of local names at these slots -/
def chkNames (N : List Str) (lo : Str → Bool) : List Nat → List Expr → Bool
  | [], [] => true
  | i :: is, .Name x _ :: es => decide (N[i]? = some x) && (lo x && chkNames N lo is es)
  | _, _ => false
theorem gs_names (c : Ct k N sc cl X) {lo : Str → Bool} (hlo : Sto X lo) : ∀ {is : List Nat} {es : List Expr}, chkNames N lo is es = true → PGs X es (gNames is) ∧ (assignEach es X.env).length = is.length ∧ (assignEach es X.env).findIdx? (·.1) = none
  | [], [], _ => ⟨pgs_nil, rfl, rfl⟩
  | i :: is, .Name x q :: es, h => by
    unfold chkNames at h
    rw [Bool.and_eq_true, Bool.and_eq_true, decide_eq_true_eq] at h
    obtain ⟨h1, h2, h3⟩ := gs_names c hlo h.2.2
    refine ⟨pgs_cons (g_nm c hlo h.1 h.2.1) h1 rfl, ?_, ?_⟩
    · show (assignEach es X.env).length + 1 = is.length + 1
      rw [h2]
    · show ((false, assign (.Name x q) X.env) :: assignEach es X.env).findIdx? (·.1) = none
      rw [List.findIdx?_cons, h3]
      rfl
def gTg (K : PySem.W.Frag) : Tg → TG
  | .nm i => gName i
  | .tp is => gTup K is.length (gNames is)
def tgIx : Tg → List Nat
  | .nm i => [i]
  | .tp is => is
def chkTg (N : List Str) (lo : Str → Bool) : Tg → Expr → Bool
  | .nm i, .Name x _ => decide (N[i]? = some x) && lo x
  | .tp is, .Tuple es _ _ => chkNames N lo is es
  | _, _ => false
theorem g_tg (c : Ct k N sc cl X) {lo : Str → Bool} (hlo : Sto X lo) {tg : Tg} (h : chkTg N lo tg e = true) : PG X e (gTg X.K tg) := by
  match tg, e, h with
  | .nm i, .Name x q, h =>
    have h : (decide (N[i]? = some x) && lo x) = true := h
    rw [Bool.and_eq_true, decide_eq_true_eq] at h
    exact g_nm c hlo h.1 h.2
  | .tp is, .Tuple es j q, h =>
    obtain ⟨h1, h2, h3⟩ := gs_names c hlo (show chkNames N lo is es = true from h)
    exact pg_tup c.calm h1 h2 h3
theorem EnvR.setAll {K : PySem.W.Frag} {o : Wo} : ∀ {is : List Nat} {xs : List D} {vs : List V} {env : Env} {σ : L2.St}, EnvR K o env σ → DRs K o.G xs vs →
    EnvR K o ((is.zip xs).foldl (fun e p => e.set p.1 (some (.d p.2))) env) (Mi.setAll σ (is.zip vs))
  | [], _, _, _, _, q, _ => q
  | _ :: _, [], _, _, _, q, .nil => q
  | i :: is, x :: xs, v :: vs, env, σ, q, .cons r rs => by
    show EnvR K o ((is.zip xs).foldl (fun e p => e.set p.1 (some (.d p.2))) (env.set i (some (.d x)))) (Mi.setAll (σ.set i (some v)) (is.zip vs))
    exact EnvR.setAll (q.set i (w := .d x) r) rs
theorem wipe_setAll {us : List Nat} : ∀ {is : List Nat} {vs : List V} {σ : L2.St}, (∀ i ∈ is, i ∈ us) → wipe (Mi.setAll σ (is.zip vs)) us = wipe σ us
  | [], _, _, _ => rfl
  | _ :: _, [], _, _ => rfl
  | i :: is, v :: vs, σ, h => by
    show wipe (Mi.setAll (σ.set i (some v)) (is.zip vs)) us = wipe σ us
    rw [wipe_setAll fun j hj => h j (List.mem_cons_of_mem _ hj)]
    exact wipe_set (h i List.mem_cons_self)
theorem tg_ok {K : PySem.W.Frag} {o : Wo} {tg : Tg} {x : D} {v : V} {env env' : Env} {σ : L2.St} {mem : Mem} {H : Hp} {Q : L2.St → Hp → Prop} (he : setTg tg x env = some env') (er : EnvR K o env σ) (sm : Sim K o mem H) (r : DR K o.G x v)
    (h : ∀ σ', EnvR K o env' σ' → (∀ us, (∀ i ∈ tgIx tg, i ∈ us) → wipe σ' us = wipe σ us) → Q σ' H) : gTg K tg v σ H Q := by
  cases tg with
  | nm i =>
    cases he
    exact h _ (er.set i (w := .d x) r) fun us hu => wipe_set (hu i (by simp [tgIx]))
  | tp is =>
    match x, he, r with
    | .tup xs, he, r =>
      have he : (if xs.length = is.length then some ((is.zip xs).foldl (fun e p => e.set p.1 (some (.d p.2))) env) else none) = some env' := he
      by_cases hl : xs.length = is.length
      case neg => rw [if_neg hl] at he; cases he
      rw [if_pos hl] at he
      cases he
      obtain ⟨q, vs, rfl, q1, q2⟩ := DR.tupV r
      have hv : vs.length = is.length := q2.length.symm.trans hl
      exact ⟨q, vs, rfl, Sub.seqT sm.sub q1, hv, gNames_ok hv (h _ (EnvR.setAll er q2) fun us hu => wipe_setAll hu)⟩

/-! ### for -/
theorem never (c : Ct k N sc cl X) : PassesOwn (model X.prog X.w) X.A X.env X.xe := by rw [c.xe]; exact PassesOwn.never
theorem folded (h : notSet e = true) (env : PySem.Env) (x : Value) : foldedSetIterable e env x = pure x := by
  cases e <;> first | rfl | exact absurd h (by simp [notSet])
theorem loop_ok {K : PySem.W.Frag} {J : It} {xs : List D} {o1 : Wo} {F : FS} {tg : Tg} {D : Ends} {σ : L2.St} {H : Hp} {env env' : Env} {mem mem' : Mem} {out : Out} (w : WalkD K J xs o1) (hl : loopF F tg xs env mem = some ((out, env'), mem')) (er : EnvR K o1 env σ) (sm : Sim K o1 mem H)
    (hD : ends K o1 D out env' mem') :
    ∃ W : Nat → Nat → L2.St → Hp → Prop, (∃ m, W 0 m σ H) ∧ ∀ i m σ H, W i m σ H →
      (J.stop i H ∧ D.nx σ H) ∨ (J.go i H ∧ ∃ Nn : L2.St → Hp → Prop, (∀ σ' H', Nn σ' H' → ∃ m', m' < m ∧ W (i + 1) m' σ' H') ∧ ∀ x H', J.yld i H x H' → gTg K tg x σ H' fun σ2 H2 => tS K F { D with nx := Nn, ct := Nn, bk := D.nx } σ2 H2) := by
  let R : Nat → L2.St → Hp → Prop := fun i σ H => ∃ env mem o, o1.Le o ∧ EnvR K o env σ ∧ Sim K o mem H ∧ loopF F tg (xs.drop i) env mem = some ((out, env'), mem')
  refine ⟨fun i m σ H => m = xs.length - i ∧ i ≤ xs.length ∧ R i σ H, ⟨_, rfl, Nat.zero_le _, env, mem, o1, Wo.Le.refl _, er, sm, hl⟩, ?_⟩
  rintro i m σ H ⟨rfl, hi, env, mem, o, le, er, sm, hl⟩
  by_cases hlt : i < xs.length
  · refine .inr ⟨w.go i mem H o le.lt sm hlt, R (i + 1), fun σ' H' q => ⟨xs.length - (i + 1), by omega, rfl, hlt, q⟩, fun v H' hy => ?_⟩
    obtain ⟨o2, l2, s2, r2⟩ := w.yld i mem H o xs[i] v H' le.lt sm (List.getElem?_eq_getElem hlt) hy
    rw [List.drop_eq_getElem_cons hlt] at hl
    obtain ⟨env2, g1, hl⟩ := bind_some_inv (show (setTg tg xs[i] env).bind _ = _ from hl)
    obtain ⟨q, m3, g2, hl⟩ := bnd_inv hl
    refine tg_ok g1 (er.mono l2) s2 r2 fun σ2 er2 _ => ⟨env2, mem, q.1, q.2, m3, o2, g2, er2, s2, ?_⟩
    obtain ⟨qo, qe⟩ := q
    cases qo with
    | next => exact fun σ' H' o' l' s' e' => ⟨qe, m3, o', (le.trans l2).trans l', e', s', hl⟩
    | ret w' => cases hl; exact ends_mono (le.trans l2) hD
    | retT ws => cases hl; exact ends_mono (le.trans l2) hD
  · have ei : i = xs.length := by omega
    subst ei
    rw [List.drop_length] at hl
    cases (show some ((Out.next, env), mem) = some ((out, env'), mem') from hl)
    exact .inl ⟨w.stop _ H o le.lt sm, hD σ H o le sm er⟩
/-- the walked thing is a list, a tuple, a range, a zip -/
def tFd (K : PySem.W.Frag) (kd : ItK) (its : List IR) (cl : Cl) (tg : Tg) (F : FS) : TS := fun D σ H => ∃ env mem ws m1 xs out env' mem' o, evEs cl its env mem = some (ws, m1) ∧ itemsD kd ws = some xs ∧ loopF F tg xs env m1 = some ((out, env'), mem') ∧ EnvR K o env σ ∧ Sim K o mem H ∧ ends K o D out env' mem'
theorem s_forD (c : Ct k N sc cl X) {kd : ItK} {its : List IR} {tg : Tg} {F : FS} {te : Expr} {body : List Stmt} (hi : PI X te e (iD X.K kd (evEs cl its))) (hg : PG X te (gTg X.K tg)) (hb : PSs X body (tS X.K F)) (hs : notSet e = true) :
    PS X (.For te e body [] pos) (tFd X.K kd its cl tg F) :=
  ps_imp (ps_for (never c) c.calm hi hg hb (folded hs X.env)) fun D σ H h => by
    obtain ⟨env, mem, ws, m1, xs, out, env', mem', o, g1, g2, g3, er, sm, hD⟩ := h
    exact ⟨env, mem, ws, m1, o, xs, g1, er, sm, g2, fun J H1 o1 l1 s1 w => loop_ok w g3 (er.mono l1) s1 (ends_mono l1 hD)⟩
end
end Mi
end
section
set_option maxHeartbeats 1000000
/-! Mi17: a for over a dict that a name holds. -/
namespace Mi
open PySem PySem.Spec PyProof.Rows L2
theorem walk_dict {K : PySem.W.Frag} {o1 : Wo} {d : Addr} {od : Obj} {kvs : List (Ky × D)} {vs : List (Key × V)} (hl : o1.lk d = some (.frz od (.dK vs))) (r : DRk K o1.G kvs vs) : WalkD K (Itk d od vs) (kvs.map fun kv => kv.1.d) o1 := by
  have at_ : ∀ {o' : Wo} {mem : Mem} {H : Hp}, o1.Lt o' → Sim K o' mem H → H d = some (.frz od (.dK vs)) := fun le s => (s.lock d _ (le.lk d _ _ hl)).1
  refine ⟨fun i m H' o' le s hi => ⟨at_ le s, ?_⟩, fun m H' o' le s => ⟨at_ le s, ?_⟩, fun i m H' o' y v H2 le s hy hyl => ?_⟩
  · rw [List.length_map, r.length] at hi
    exact hi
  · rw [List.length_map, r.length]
    exact Nat.le_refl _
  · obtain ⟨eH, k, u, e1, e2⟩ := hyl
    subst eH e2
    refine ⟨o', Wo.Le.refl _, s, (DRs.mono le.inc _ _ r.keys).nth hy ?_⟩
    rw [List.getElem?_map, e1]
    rfl
theorem upd_comm {H : Hp} {a b : Addr} {x y : HO} (h : a ≠ b) : upd (upd H a x) b y = upd (upd H b y) a x := by
  funext c
  unfold upd
  by_cases h1 : c = a
  · have h2 : c ≠ b := fun z => h (h1.symm.trans z)
    simp [h1, h2, h]
  · simp [h1]
section
variable {X : Cx} {e a b : Expr} {f g : FE} {pos p : Pos} {k : Nat} {N : List Str} {sc : Scope} {cl : Cl}
theorem EnvR.shut {K : PySem.W.Frag} {o : Wo} {env : Env} {σ : L2.St} {d : Addr} {x : HO} (q : EnvR K o env σ) : EnvR K (o.shut d x) env σ := ⟨q.len, fun i w h => let ⟨v, e1, r⟩ := q.get i w h; ⟨v, e1, Wo.shut_pre r⟩⟩
theorem EnvR.open_ {K : PySem.W.Frag} {o o1 : Wo} {env : Env} {σ : L2.St} (q : EnvR K o1 env σ) : EnvR K (o1.open_ o) env σ := ⟨q.len, fun i w h => let ⟨v, e1, r⟩ := q.get i w h; ⟨v, e1, Wo.open_pre r⟩⟩
theorem WRs.open_ {K : PySem.W.Frag} {o o1 : Wo} : ∀ {ws : List W} {vs : List V}, WRs K o1 ws vs → WRs K (o1.open_ o) ws vs
  | _, _, .nil => .nil
  | _, _, .cons q r => .cons (Wo.open_pre q) (WRs.open_ r)
def lockE (D : Ends) (d : Addr) (od : Obj) (u : HO) : Ends := ⟨fun σ' H' => H' d = some (.frz od u) ∧ D.nx σ' (upd H' d u), fun v H' => H' d = some (.frz od u) ∧ D.rt v (upd H' d u), fun σ' H' => H' d = some (.frz od u) ∧ D.bk σ' (upd H' d u), fun σ' H' => H' d = some (.frz od u) ∧ D.ct σ' (upd H' d u)⟩
/-- the ends behind a lock: op opens it again -/
theorem lock_ends {K : PySem.W.Frag} {o : Wo} {D : Ends} {d : Addr} {od : Obj} {vs : List (Key × V)} {out : Out} {env' : Env} {mem1 mem' : Mem}
    (op : ∀ {o2 : Wo} {H2 : Hp}, (o.shut d (.frz od (.dK vs))).Le o2 → Sim K o2 mem1 H2 → Sim K (o2.open_ o) mem' (upd H2 d (.dK vs)) ∧ H2 d = some (.frz od (.dK vs))) (hD : ends K o D out env' mem') :
    ends K (o.shut d (.frz od (.dK vs))) (lockE D d od (.dK vs)) out env' mem1 := by
  cases out with
  | next =>
    intro σ' H' o' le s er
    obtain ⟨s', h⟩ := op le s
    exact ⟨h, hD σ' _ _ (Wo.open_le le) s' er.open_⟩
  | ret w =>
    intro v H' o' le s r
    obtain ⟨s', h⟩ := op le s
    exact ⟨h, hD v _ _ (Wo.open_le le) s' (Wo.open_pre r)⟩
  | retT ws =>
    intro us q H' o' le s r hq
    obtain ⟨s', h⟩ := op le s
    have ne : d ≠ q := fun z => by rw [← z, h] at hq; cases hq
    refine ⟨by rw [upd_ne ne]; exact h, ?_⟩
    rw [upd_comm (Ne.symm ne)]
    exact hD us q _ _ (Wo.open_le le) s' (WRs.open_ r) (by rw [upd_ne (Ne.symm ne)]; exact hq)
theorem s_forV (c : Ct k N sc cl X) {i : Nat} {tg : Tg} {F : FS} {te : Expr} {body : List Stmt} {x : Str} (hN : N[i]? = some x) (hv : Vis sc x) (hd : (x == ("__debug__" : Str)) = false) (hcd : (x == ("__classdict__" : Str)) = false) (hg : PG X te (gTg X.K tg)) (hb : PSs X body (tS X.K F)) :
    PS X (.For te (.Name x p) body [] pos) (tS X.K (fun env mem => bnd (evEs cl [.var i] env mem) fun ws mem => match itemsV .e [.var i] ws with
      | some xs => loopF F tg xs env mem
      | none => match ItK.e, [IR.var i], ws with
        | .e, [.var _], [.r n] => match mem[n]? with
          | some (.lst []) => some ((.next, env), mem)
          | _ => bnd (lockM mem n) fun kvs mem => bnd (loopF F tg (kvs.map fun kv => kv.1.d) env mem) fun r mem => some (r, unlockM n kvs mem)
        | _, _, _ => none)) := ps_by fun E0 σ H h => by
  obtain ⟨env, mem, out, env', mem', o, hf, er, sm, hD⟩ := h
  have hN' : X.N[i]? = some x := by rw [c.n]; exact hN
  have hv' : Vis X.env.scope x := by rw [c.scp]; exact hv
  have pv := pe_var (X := X) (pos := p) hN' hv' hd hcd
  obtain ⟨us, m1, g1, hf⟩ := bnd_inv hf
  obtain ⟨w, m2, g2, g3⟩ := bnd_inv (show bnd (evE cl (.var i) env mem) _ = _ from g1)
  cases (show some ([w], m2) = some (us, m1) from g3)
  have hw : env[i]? = some (some w) ∧ mem = m1 := by
    unfold evE at g2
    split at g2
    · cases g2; exact ⟨by assumption, rfl⟩
    · cases g2
  obtain ⟨hw, rfl⟩ := hw
  obtain ⟨v, ev, rv⟩ := er.get i w hw
  -- a walked dict
  have keys : ∀ {d : Addr} {od : Obj} {kvs : List (Ky × D)} {vs : List (Key × V)} {o1 : Wo} {D1 : Ends} {H1 : Hp} {mem1 mem2 : Mem}, v = .ref d → o1.lk d = some (.frz od (.dK vs)) → DRk X.K o1.G kvs vs → EnvR X.K o1 env σ → Sim X.K o1 mem1 H1 →
      loopF F tg (kvs.map fun kv => kv.1.d) env mem1 = some ((out, env'), mem2) → ends X.K o1 D1 out env' mem2 → tFor (iKeys (tVar i)) (gTg X.K tg) (tS X.K F) D1 σ H1 := by
    intro d od kvs vs o1 D1 H1 mem1 mem2 evd hl r er1 s1 hlp hD1
    exact ⟨v, ev, d, od, evd, .inl ⟨vs, (s1.lock d _ hl).1, loop_ok (walk_dict hl r) hlp er1 s1 hD1⟩⟩
  have pk : PS X (.For te (.Name x p) body [] pos) (tFor (iKeys (tVar i)) (gTg X.K tg) (tS X.K F)) := ps_for (never c) c.calm (pi_keys pv) hg hb (folded rfl X.env)
  match w, hw, rv, hf with
  | .d (.lst ys), hw, rv, hf =>
    exact ⟨_, s_forD c (i_e (s_var hN' hv' hd hcd (cl := cl))) hg hb rfl, env, mem, [.d (.lst ys)], mem, ys, out, env', mem', o, g1, rfl, hf, er, sm, hD⟩
  | .d (.tup ys), hw, rv, hf =>
    exact ⟨_, s_forD c (i_e (s_var hN' hv' hd hcd (cl := cl))) hg hb rfl, env, mem, [.d (.tup ys)], mem, ys, out, env', mem', o, g1, rfl, hf, er, sm, hD⟩
  | .d (.dct kvs), hw, rv, hf =>
    have hf : loopF F tg (kvs.map fun kv => kv.1.d) env mem = some ((out, env'), mem') := hf
    obtain ⟨d, vs, rfl, q1, q2⟩ := DR.dctV rv
    cases hk : o.lk d with
    | none =>
      have hH := sm.free d vs q1 hk
      refine ⟨_, ps_lock pk, d, .dK vs, hH, trivial, fun od => ?_⟩
      exact keys rfl Wo.shut_same q2 er.shut (sm.shutD od q1 hH) hf (lock_ends (fun {o2 H2} le s => sm.openD s q1 hH le) hD)
    | some y =>
      obtain ⟨h1, h2⟩ := sm.lock d y hk
      obtain ⟨ob, u, h2⟩ : ∃ ob u, y = .frz ob u := by
        rcases h2 with h2 | ⟨h2, _⟩
        · exact h2
        · rw [q1] at h2; cases h2
      have hy : y = .frz ob (.dK vs) := by
        rcases sm.sub d _ q1 with z | ⟨_, ob', _, z⟩
        · rw [h1, h2] at z; cases z
        · rw [h1] at z
          have z := Option.some.inj z
          rw [h2] at z
          cases z
          exact h2
      rw [hy] at hk
      exact ⟨_, pk, keys rfl hk q2 er sm hf hD⟩
  | .r n, hw, rv, hf =>
    obtain ⟨hn, rfl⟩ := rv
    have hf : (match mem[n]? with
          | some (.lst []) => some ((Out.next, env), mem)
          | _ => bnd (lockM mem n) fun kvs mem => bnd (loopF F tg (kvs.map fun kv => kv.1.d) env mem) fun r mem => some (r, unlockM n kvs mem)) = some ((out, env'), mem') := hf
    split at hf
    · rename_i hm
      cases hf
      obtain ⟨vs, h1, h2⟩ := sm.cell n _ hm
      cases h2
      refine ⟨_, ps_for (never c) c.calm (pi_list pv) hg hb (folded rfl X.env), _, ev, _, rfl, ⟨[], .inl (.inl h1)⟩, fun i m σ' H' => i = 0 ∧ σ' = σ ∧ H' = H, ⟨0, rfl, rfl, rfl⟩, ?_⟩
      rintro i m σ' H' ⟨rfl, rfl, rfl⟩
      exact .inl ⟨⟨[], .inl (.inl h1), Nat.le_refl _⟩, hD σ' H' o (Wo.Le.refl o) sm er⟩
    · obtain ⟨kvs, m1, g4, hf⟩ := bnd_inv hf
      obtain ⟨r, m3, g5, hf⟩ := bnd_inv hf
      have hr : r = (out, env') ∧ unlockM n kvs m3 = mem' := by cases hf; exact ⟨rfl, rfl⟩
      obtain ⟨rfl, rfl⟩ := hr
      unfold lockM at g4
      split at g4
      · rename_i kv' hm
        cases g4
        obtain ⟨vs, h1, h2⟩ := sm.cell n _ hm
        refine ⟨_, ps_lock pk, o.at_ n, .dK vs, h1, trivial, fun od => ?_⟩
        exact keys rfl Wo.shut_same h2 er.shut (sm.shutC od hm h1 h2) g5 (lock_ends (fun {o2 H2} le s => sm.openC s hm h1 h2 le) hD)
      · cases g4
end
end Mi
end
section
set_option maxHeartbeats 1000000
/-! Mi18: statements as readings. -/
namespace Mi
open PySem PySem.Spec PyProof.Rows L2
/-! ### stores -/
def gT (K : PySem.W.Frag) (f : W → Env → Mem → Option (Env × Mem)) : TG := fun v σ H Q => ∃ env mem w env' mem' o, f w env mem = some (env', mem') ∧ EnvR K o env σ ∧ Sim K o mem H ∧ WR K o w v ∧ ∀ σ' H' o', o.Le o' → Sim K o' mem' H' → EnvR K o' env' σ' → Q σ' H'
def gTs (K : PySem.W.Frag) (f : List W → Env → Mem → Option (Env × Mem)) : TGs := fun vs σ H Q => ∃ env mem ws env' mem' o, f ws env mem = some (env', mem') ∧ EnvR K o env σ ∧ Sim K o mem H ∧ WRs K o ws vs ∧ ∀ σ' H' o', o.Le o' → Sim K o' mem' H' → EnvR K o' env' σ' → Q σ' H'
section
variable {X : Cx} {e a b : Expr} {f g : FE} {pos p : Pos} {k : Nat} {N : List Str} {sc : Scope} {cl : Cl}
theorem pg_imp {t t' : TG} (h : PG X e t) (i : ∀ v σ H Q, t' v σ H Q → t v σ H Q) : PG X e t' := ⟨fun pins s σ H v u Q I r q => h.run pins s σ H v u Q I r (i v σ H Q q)⟩
theorem pgs_imp {es : List Expr} {t t' : TGs} (h : PGs X es t) (i : ∀ v σ H Q, t' v σ H Q → t v σ H Q) : PGs X es t' := ⟨fun pins s σ H v u Q I r q => h.run pins s σ H v u Q I r (i v σ H Q q)⟩
theorem pg_by {t : TG} (h : ∀ v σ H Q, t v σ H Q → ∃ u, PG X e u ∧ u v σ H Q) : PG X e t := ⟨fun pins s σ H v u Q I r q => let ⟨_, p, z⟩ := h v σ H Q q; p.run pins s σ H v u Q I r z⟩
theorem t_nm (c : CtF k N sc cl X) {i : Nat} {x : Str} (hN : N[i]? = some x) (hx : isLoc sc x = true) : PG X (.Name x pos) (gT X.K (stT cl (.nm i))) :=
  pg_imp (g_nm c.toCt c.sto hN hx) fun v σ H Q h => by
    obtain ⟨env, mem, w, env', mem', o, hf, er, sm, r, hQ⟩ := h
    cases hf
    exact hQ _ H o (Wo.Le.refl o) sm (er.set i r)
theorem t_sub (c : Ct k N sc cl X) {x y : IR} (ha : Snd X a (evE cl x)) (hb : Snd X b (evE cl y)) (hs : notSlice b = true) : PG X (.Subscript a b pos) (gT X.K (stT cl (.sub x y))) :=
  pg_imp (pg_sub ha.v hb.v (set_ok (by have := c.un; omega)) (fun _ => by cases b <;> first | rfl | exact absurd hs (by simp [notSlice]))) fun v σ H Q h => by
    obtain ⟨env, mem, w, env', mem', o, hf, er, sm, r, hQ⟩ := h
    obtain ⟨u, m1, e1, hf⟩ := bnd_inv (show bnd (evE cl x env mem) _ = _ from hf)
    obtain ⟨u2, m2, e2, hf⟩ := bnd_inv hf
    obtain ⟨m3, e3, hf⟩ := map_some_inv hf
    cases hf
    exact ⟨env, mem, u, m1, o, e1, er, sm, fun v1 H1 o1 l1 s1 r1 => ⟨env, m1, u2, m2, o1, e2, er.mono l1, s1, fun v2 H2 o2 l2 s2 r2 => ⟨u, u2, w, m2, _, o2, e3, s2, r1.mono l2, r2, r.mono (l1.trans l2), fun H3 o3 l3 s3 =>
      hQ σ H3 o3 ((l1.trans l2).trans l3) s3 (er.mono ((l1.trans l2).trans l3))⟩⟩⟩
theorem ts_nil : PGs X [] (gTs X.K (stTs cl [])) := pgs_imp pgs_nil fun vs σ H Q h => by
  obtain ⟨env, mem, ws, env', mem', o, hf, er, sm, r, hQ⟩ := h
  cases ws with
  | nil =>
    cases (show some (env, mem) = some (env', mem') from hf)
    cases r
    exact ⟨rfl, hQ _ H o (Wo.Le.refl o) sm er⟩
  | cons _ _ => cases hf
theorem starA (h : notStar e = true) (es : List Expr) (env : PySem.Env) : assignEach (e :: es) env = (false, assign e env) :: assignEach es env := by
  cases e <;> first | rfl | exact absurd h (by simp [notStar])
theorem ts_cons {t : Tgt} {ts : List Tgt} {es : List Expr} (h1 : PG X e (gT X.K (stT cl t))) (h2 : PGs X es (gTs X.K (stTs cl ts))) (hs : notStar e = true) : PGs X (e :: es) (gTs X.K (stTs cl (t :: ts))) :=
  pgs_imp (pgs_cons h1 h2 (by rw [starA hs]; rfl)) fun vs σ H Q h => by
    obtain ⟨env, mem, ws, env', mem', o, hf, er, sm, r, hQ⟩ := h
    cases r with
    | nil => cases hf
    | cons r rs =>
      obtain ⟨env1, m1, e1, hf⟩ := bnd_inv (show bnd (stT cl t _ env mem) _ = _ from hf)
      exact ⟨_, _, rfl, env, mem, _, env1, m1, o, e1, er, sm, r, fun σ1 H1 o1 l1 s1 er1 => ⟨env1, m1, _, env', mem', o1, hf, er1, s1, WRs.mono l1 rs, fun σ2 H2 o2 l2 s2 er2 => hQ σ2 H2 o2 (l1.trans l2) s2 er2⟩⟩
theorem stTs_len : ∀ {ts : List Tgt} {ws : List W} {env env' : Env} {mem mem' : Mem}, stTs cl ts ws env mem = some (env', mem') → ws.length = ts.length
  | [], [], _, _, _, _, _ => rfl
  | t :: ts, w :: ws, _, _, _, _, h => by
    obtain ⟨_, _, _, h⟩ := bnd_inv (show bnd _ _ = _ from h)
    simp [stTs_len h]
  | [], _ :: _, _, _, _, _, h => by cases h
  | _ :: _, [], _, _, _, _, h => by cases h
theorem starsA : ∀ {es : List Expr}, noStar es = true → ∀ (env : PySem.Env), (assignEach es env).length = es.length ∧ (assignEach es env).findIdx? (·.1) = none
  | [], _, _ => ⟨rfl, rfl⟩
  | e :: es, h, env => by
    unfold noStar at h
    rw [List.all_cons, Bool.and_eq_true] at h
    obtain ⟨h1, h2⟩ := starsA (es := es) h.2 env
    rw [starA h.1]
    refine ⟨by simp [h1], ?_⟩
    rw [List.findIdx?_cons, h2]
    rfl
/-- (t, ..) = a list or a tuple -/
theorem t_seq (c : Ct k N sc cl X) {ts : List Tgt} {es : List Expr} {j : Nat} (h : PGs X es (gTs X.K (stTs cl ts))) (hs : noStar es = true) (hl : es.length = ts.length) :
    PG X (.Tuple es j pos) (gT X.K (fun w env mem => (seqD w).bind fun xs => stTs cl ts (xs.map .d) env mem)) := pg_by fun v σ H Q h' => by
  obtain ⟨env, mem, w, env', mem', o, hf, er, sm, r, hQ⟩ := h'
  obtain ⟨xs, e1, hf⟩ := bind_some_inv hf
  obtain ⟨b, q, vs, rfl, q2, st⟩ := seqD_rel e1 r
  obtain ⟨h1, h2⟩ := starsA hs X.env
  have hlen : vs.length = es.length := by
    have := stTs_len hf
    rw [List.length_map, q2.length] at this
    rw [this, hl]
  have sq := st o mem H (Wo.Lt.refl o) sm
  have fin : gTs X.K (stTs cl ts) vs σ H Q := ⟨env, mem, _, env', mem', o, hf, er, sm, WRs.ofD q2, hQ⟩
  cases b with
  | true => exact ⟨_, pg_unl c.calm h h1 h2, q, vs, rfl, sq, hlen, fin⟩
  | false => exact ⟨_, pg_tup c.calm h h1 h2, q, vs, rfl, sq, hlen, fin⟩
/-! ### statements -/
def notComp : Expr → Bool
  | .ListComp _ _ _ _ => false
  | .SetComp _ _ _ _ => false
  | .DictComp _ _ _ _ _ => false
  | _ => true
theorem noSwap (h : notComp e = true) (t : Option Expr) (l : Nat) (env : PySem.Env) : swapsWith e t l env = pure false := by
  cases e <;> first | rfl | exact absurd h (by simp [notComp])
theorem tS_of {K : PySem.W.Frag} {D : Ends} {σ : L2.St} {H : Hp} {f : FS} (h : tS K f D σ H) : ∃ env mem q mem' o, f env mem = some (q, mem') ∧ EnvR K o env σ ∧ Sim K o mem H ∧ ends K o D q.1 q.2 mem' := by
  obtain ⟨env, mem, out, env', mem', o, hf, er, sm, hD⟩ := h
  exact ⟨env, mem, (out, env'), mem', o, hf, er, sm, hD⟩
theorem s_expr {x : IR} (ha : Snd X a (evE cl x)) (h : notComp a = true) : PS X (.Expr a pos) (tS X.K (evS cl (.expr x))) :=
  ps_imp (ps_expr ha.v (noSwap h _ _ _)) fun D σ H h => by
    obtain ⟨env, mem, q, mem', o, hf, er, sm, hD⟩ := tS_of h
    obtain ⟨u, m1, e1, hf⟩ := bnd_inv (show bnd (evE cl x env mem) _ = _ from hf)
    cases hf
    exact ⟨env, mem, u, _, o, e1, er, sm, fun v H1 o1 l1 s1 r1 => hD σ H1 o1 l1 s1 (er.mono l1)⟩
theorem s_ret {x : IR} (ha : Snd X a (evE cl x)) : PS X (.Return (some a) pos) (tS X.K (evS cl (.ret x))) :=
  ps_imp (ps_ret ha.v) fun D σ H h => by
    obtain ⟨env, mem, q, mem', o, hf, er, sm, hD⟩ := tS_of h
    obtain ⟨u, m1, e1, hf⟩ := bnd_inv (show bnd (evE cl x env mem) _ = _ from hf)
    cases hf
    exact ⟨env, mem, u, _, o, e1, er, sm, hD⟩
theorem s_retN : PS X (.Return none pos) (tS X.K (evS cl (.ret (.con .non)))) :=
  ps_imp ps_retN fun D σ H h => by
    obtain ⟨env, mem, q, mem', o, hf, er, sm, hD⟩ := tS_of h
    cases (show some ((Out.ret (W.d .non), env), mem) = some (q, mem') from hf)
    exact hD .non H o (Wo.Le.refl o) sm (show DR X.K o.G .non .non from .non)
theorem s_retT {xs : List IR} {es : List Expr} {j : Nat} {p2 : Pos} (h : PA X es (tAs X.K (evEs cl xs))) (hl : xs.length ≤ 1000) : PS X (.Return (some (.Tuple es j p2)) pos) (tS X.K (evS cl (.retT xs))) :=
  ps_imp (ps_ret (pe_tup h)) fun D σ H h => by
    obtain ⟨env, mem, q, mem', o, hf, er, sm, hD⟩ := tS_of h
    obtain ⟨us, m1, e1, hf⟩ := bnd_inv (show bnd (evEs cl xs env mem) _ = _ from hf)
    have hlen := evEs_len e1
    cases hf
    refine ⟨env, mem, us, _, o, e1, er, sm, fun vs H1 o1 l1 s1 r1 => ⟨?_, fun q hq => hD vs q H1 o1 l1 s1 r1 hq⟩⟩
    rw [← r1.length, hlen, sizeLine_eq]
    omega
theorem s_asgN (c : CtF k N sc cl X) {x : IR} {i : Nat} {y : Str} {p2 : Pos} (hN : N[i]? = some y) (hx : isLoc sc y = true) (ha : Snd X a (evE cl x)) (hs : swapsWith a (some (.Name y p2)) pos.line X.env = pure false) : PS X (.Assign [.Name y p2] a pos) (tS X.K (evS cl (.asg (.nm i) x))) :=
  ps_imp (ps_set (by rw [c.n]; exact c.nd) (by rw [c.n]; exact hN) (c.sto y hx).1 ha.v hs (c.sto y hx).2) fun D σ H h => by
    obtain ⟨env, mem, q, mem', o, hf, er, sm, hD⟩ := tS_of h
    obtain ⟨u, m1, e1, hf⟩ := bnd_inv (show bnd (evE cl x env mem) _ = _ from hf)
    cases (show some ((Out.next, env.set i (some u)), m1) = some (q, mem') from hf)
    exact ⟨env, mem, u, _, o, e1, er, sm, fun v H1 o1 l1 s1 r1 => hD _ H1 o1 l1 s1 ((er.mono l1).set i r1)⟩
/-- any target -/
theorem s_asgG {x : IR} {te : Expr} {F : W → Env → Mem → Option (Env × Mem)} (hg : PG X te (gT X.K F)) (ha : Snd X a (evE cl x)) (hs : swapsWithSole [te] a pos.line X.env = pure false) (hw : swappedStores [te] a X.env = pure none) (h1 : (assignEach [te] X.env).map (·.2) = [assign te X.env]) :
    PS X (.Assign [te] a pos) (tS X.K (fun env mem => bnd (evE cl x env mem) fun w mem => bnd (F w env mem) fun env mem => some ((.next, env), mem))) :=
  ps_imp (ps_asg ha.v hg hs hw h1) fun D σ H h => by
    obtain ⟨env, mem, q, mem', o, hf, er, sm, hD⟩ := tS_of h
    obtain ⟨u, m1, e1, hf⟩ := bnd_inv hf
    obtain ⟨env2, m2, e2, hf⟩ := bnd_inv hf
    cases hf
    exact ⟨env, mem, u, m1, o, e1, er, sm, fun v H1 o1 l1 s1 r1 => ⟨env, m1, u, env2, _, o1, e2, er.mono l1, s1, r1, fun σ2 H2 o2 l2 s2 er2 => hD σ2 H2 o2 (l1.trans l2) s2 er2⟩⟩
theorem s_asgS (c : Ct k N sc cl X) {x y z : IR} {o i : Expr} {p2 : Pos} (ho : Snd X o (evE cl y)) (hi : Snd X i (evE cl z)) (ha : Snd X a (evE cl x)) (hs : notSlice i = true) : PS X (.Assign [.Subscript o i p2] a pos) (tS X.K (evS cl (.asg (.sub y z) x))) :=
  s_asgG (F := stT cl (.sub y z)) (t_sub c ho hi hs) ha (by cases a <;> rfl) rfl rfl
def notTuple : Expr → Bool
  | .Tuple _ _ _ => false
  | _ => true
theorem s_asgT (c : Ct k N sc cl X) {x : IR} {ts : List Tgt} {es : List Expr} {j : Nat} {p2 : Pos} (h : PGs X es (gTs X.K (stTs cl ts))) (hs : noStar es = true) (hl : es.length = ts.length) (ha : Snd X a (evE cl x)) (hn : notTuple a = true) :
    PS X (.Assign [.Tuple es j p2] a pos) (tS X.K (evS cl (.asgT ts x))) := by
  have q := s_asgG (pos := pos) (t_seq c (pos := p2) (j := j) h hs hl) ha (by cases a <;> rfl) (by cases a <;> first | rfl | exact absurd hn (by simp [notTuple])) rfl
  refine ps_imp q fun D σ H h => ?_
  obtain ⟨env, mem, out, env', mem', o, hf, er, sm, hD⟩ := h
  refine ⟨env, mem, out, env', mem', o, ?_, er, sm, hD⟩
  rw [← hf]
  show bnd (evE cl x env mem) _ = bnd (evE cl x env mem) _
  congr 1
  funext w mem
  cases seqD w <;> rfl
/-- the stores of a display to a display -/
def swp (sc : Scope) (ts vs : List Expr) : Option (Option (List Str)) :=
  if !(ts.length == 2 || ts.length == 3) || vs.length != ts.length then some none
  else if !noStar vs then none
  else
    let line := (ts.head?.map (·.pos.line)).getD 0
    let names := ts.filterMap fun
      | .Name id pos => if sc.names.lookup id == some .local && pos.line == line then some id else none
      | _ => none
    if names.length != ts.length || names.eraseDups.length != names.length then some none
    else if vs.all (foldedForSure 8) || vs.all (constantsAlone 8) then none
    else some (some names)
theorem swp_ok {ts vs : List Expr} {j j2 : Nat} {p2 p3 : Pos} {r : Option (List Str)} {env : PySem.Env} (hk : env.scope.kind = .function) (he : env.scope = sc) (h : swp sc ts vs = some r) : swappedStores [.Tuple ts j p2] (.Tuple vs j2 p3) env = pure r := by
  have hb : env.blockKind = .function := by unfold Env.blockKind; rw [hk]; rfl
  have star : noStar vs = true → (vs.any fun | .Starred .. => true | _ => false) = false := fun h => by
    unfold noStar at h
    rw [List.any_eq_false]
    intro x hx
    have := List.all_eq_true.mp h x hx
    cases x with
    | Starred v q => exact absurd (show false = true from this) Bool.false_ne_true
    | _ => simp
  have ek : ∀ x, env.kindOf x = sc.names.lookup x := fun x => by rw [← he]; rfl
  unfold swp at h
  unfold swappedStores
  simp only [hb, ek] at h ⊢
  rw [show (ScopeKind.function != ScopeKind.function) = false from rfl, Bool.or_false]
  split at h
  · rename_i c1
    rw [if_pos c1]
    cases h
    rfl
  · rename_i c1
    rw [if_neg c1]
    split at h
    · cases h
    · rename_i c2
      have c2 : noStar vs = true := by simpa using c2
      refine Eq.trans (if_neg fun z => Bool.false_ne_true ((star c2).symm.trans z)) ?_
      split at h
      · rename_i c3
        refine Eq.trans (if_pos c3) ?_
        cases h
        rfl
      · rename_i c3
        refine Eq.trans (if_neg c3) ?_
        split at h
        · cases h
        · rename_i c4
          have c4 : (vs.all (foldedForSure 8) || vs.all (constantsAlone 8)) = false := by simpa using c4
          rw [Bool.or_eq_false_iff] at c4
          refine Eq.trans (if_neg fun z => Bool.false_ne_true (c4.1.symm.trans z)) (Eq.trans (if_neg fun z => Bool.false_ne_true (c4.2.symm.trans z)) ?_)
          cases h
          rfl
theorem tA_disp {K : PySem.W.Frag} {xs : List IR} {F : List W → Env → Mem → Option (Env × Mem)} {σ : L2.St} {H : Hp} {E0 : Ends} (h : tS K (fun env mem => bnd (evEs cl xs env mem) fun ws mem => bnd (F ws env mem) fun env mem => some ((.next, env), mem)) E0 σ H) :
    ∃ env mem ws m1 env' mem' o, evEs cl xs env mem = some (ws, m1) ∧ F ws env m1 = some (env', mem') ∧ EnvR K o env σ ∧ Sim K o mem H ∧ ∀ σ' H' o', o.Le o' → Sim K o' mem' H' → EnvR K o' env' σ' → E0.nx σ' H' := by
  obtain ⟨env, mem, q, mem', o, hf, er, sm, hD⟩ := tS_of h
  obtain ⟨us, m1, e1, hf⟩ := bnd_inv hf
  obtain ⟨env2, m2, e2, hf⟩ := bnd_inv hf
  cases hf
  exact ⟨env, mem, us, m1, env2, _, o, e1, e2, er, sm, hD⟩
/-- (t, ..) = (x, ..), stored from the left -/
theorem s_asgD (c : Ct k N sc cl X) {xs : List IR} {ts : List Tgt} {es vs : List Expr} {j j2 : Nat} {p2 p3 : Pos} (hk : sc.kind = .function) (h : PGs X es (gTs X.K (stTs cl ts))) (hs : noStar es = true) (hl : es.length = ts.length) (ha : PA X vs (tAs X.K (evEs cl xs))) (hx : xs.length ≤ 1000) (hw : swp sc es vs = some none) :
    PS X (.Assign [.Tuple es j p2] (.Tuple vs j2 p3) pos) (tS X.K (evS cl (.asgD ts xs))) := by
  obtain ⟨h1, h2⟩ := starsA hs X.env
  refine ps_imp (ps_asg (pe_tup ha) (pg_tup c.calm h h1 h2) rfl (swp_ok (by rw [c.scp]; exact hk) c.scp hw) rfl) fun E0 σ H hh => ?_
  obtain ⟨env, mem, ws, m1, env', mem', o, e1, e2, er, sm, hD⟩ := tA_disp (F := stTs cl ts) hh
  have hlen := evEs_len e1
  refine ⟨env, mem, ws, m1, o, e1, er, sm, fun us H1 o1 l1 s1 r1 => ⟨?_, fun q hq => ⟨q, us, rfl, .inl (.inl upd_same), ?_, env, m1, ws, env', mem', o1, e2, er.mono l1, s1.other hq, r1, fun σ2 H2 o2 l2 s2 er2 => hD σ2 H2 o2 (l1.trans l2) s2 er2⟩⟩⟩
  · rw [← r1.length, hlen, sizeLine_eq]
    omega
  · rw [← r1.length, stTs_len e2, hl]
/-- names = values, stored from the right -/
theorem par_inv {K : PySem.W.Frag} {is : List Nat} {xs : List IR} {σ : L2.St} {H : Hp} {E0 : Ends} (h : tS K (evS cl (.asgP is xs)) E0 σ H) :
    ∃ env mem ws m1 o, evEs cl xs env mem = some (ws, m1) ∧ ws.length = is.length ∧ EnvR K o env σ ∧ Sim K o mem H ∧ ∀ σ' H' o', o.Le o' → Sim K o' m1 H' → EnvR K o' ((is.zip ws).foldl (fun e p => e.set p.1 (some p.2)) env) σ' → E0.nx σ' H' := by
  obtain ⟨env, mem, q, mem', o, hf, er, sm, hD⟩ := tS_of h
  obtain ⟨us, m1, e1, hf⟩ := bnd_inv (show bnd (evEs cl xs env mem) _ = _ from hf)
  by_cases hl : us.length = is.length
  case neg => rw [if_neg hl] at hf; cases hf
  rw [if_pos hl] at hf
  cases hf
  exact ⟨env, mem, us, _, o, e1, hl, er, sm, hD⟩
theorem s_par2 (c : Ct k N sc cl X) {i j : Nat} {x y : Str} {xs : List IR} {e1 e2 : Expr} {px py pt pt2 : Pos} {kt k2 : Nat} (hk : sc.kind = .function) (hi : N[i]? = some x) (hj : N[j]? = some y) (hij : i ≠ j) (hx : sc.names.lookup x = some .local) (hy : sc.names.lookup y = some .local)
    (ha : PA X [e1, e2] (tAs X.K (evEs cl xs))) (hw : swp sc [.Name x px, .Name y py] [e1, e2] = some (some [x, y])) : PS X (.Assign [.Tuple [.Name x px, .Name y py] kt pt] (.Tuple [e1, e2] k2 pt2) pos) (tS X.K (evS cl (.asgP [i, j] xs))) := by
  refine ps_imp (ps_par c.calm (by rw [c.n]; exact c.nd) (by rw [c.n]; exact hi) (by rw [c.n]; exact hj) hij (by rw [c.scp]; exact hx) (by rw [c.scp]; exact hy) ha (swp_ok (by rw [c.scp]; exact hk) c.scp hw)) fun E0 σ H hh => ?_
  obtain ⟨env, mem, ws, m1, o, g1, g2, er, sm, hD⟩ := par_inv hh
  match ws, g2, g1, hD with
  | [w1, w2], _, g1, hD =>
    refine ⟨env, mem, _, m1, o, g1, er, sm, fun vs H1 o1 l1 s1 r1 => ?_⟩
    cases r1 with
    | cons q1 r1 =>
      cases r1 with
      | cons q2 r1 =>
        cases r1
        exact ⟨_, _, rfl, hD _ H1 o1 l1 s1 (((er.mono l1).set i q1).set j q2)⟩
theorem s_par3 (c : Ct k N sc cl X) {i j l : Nat} {x y z : Str} {xs : List IR} {e1 e2 e3 : Expr} {px py pz pt pt2 : Pos} {kt k2 : Nat} (hk : sc.kind = .function) (hi : N[i]? = some x) (hj : N[j]? = some y) (hl : N[l]? = some z) (hij : i ≠ j) (hil : i ≠ l) (hjl : j ≠ l)
    (hx : sc.names.lookup x = some .local) (hy : sc.names.lookup y = some .local) (hz : sc.names.lookup z = some .local)
    (ha : PA X [e1, e2, e3] (tAs X.K (evEs cl xs))) (hw : swp sc [.Name x px, .Name y py, .Name z pz] [e1, e2, e3] = some (some [x, y, z])) :
    PS X (.Assign [.Tuple [.Name x px, .Name y py, .Name z pz] kt pt] (.Tuple [e1, e2, e3] k2 pt2) pos) (tS X.K (evS cl (.asgP [i, j, l] xs))) := by
  refine ps_imp (ps_par3 c.calm (by rw [c.n]; exact c.nd) (by rw [c.n]; exact hi) (by rw [c.n]; exact hj) (by rw [c.n]; exact hl) hij hil hjl (by rw [c.scp]; exact hx) (by rw [c.scp]; exact hy) (by rw [c.scp]; exact hz) ha (swp_ok (by rw [c.scp]; exact hk) c.scp hw)) fun E0 σ H hh => ?_
  obtain ⟨env, mem, ws, m1, o, g1, g2, er, sm, hD⟩ := par_inv hh
  match ws, g2, g1, hD with
  | [w1, w2, w3], _, g1, hD =>
    refine ⟨env, mem, _, m1, o, g1, er, sm, fun vs H1 o1 l1 s1 r1 => ?_⟩
    cases r1 with
    | cons q1 r1 =>
      cases r1 with
      | cons q2 r1 =>
        cases r1 with
        | cons q3 r1 =>
          cases r1
          exact ⟨_, _, _, rfl, hD _ H1 o1 l1 s1 ((((er.mono l1).set i q1).set j q2).set l q3)⟩
/-! ### if, while, for -/
theorem ss_nil : PSs X [] (tS X.K (evSs cl [])) := pss_imp pss_nil fun D σ H h => by
  obtain ⟨env, mem, q, mem', o, hf, er, sm, hD⟩ := tS_of h
  cases (show some ((Out.next, env), mem) = some (q, mem') from hf)
  exact hD σ H o (Wo.Le.refl o) sm er
theorem ss_cons {s : IS} {r : List IS} {st : Stmt} {rest : List Stmt} (h1 : PS X st (tS X.K (evS cl s))) (h2 : PSs X rest (tS X.K (evSs cl r))) : PSs X (st :: rest) (tS X.K (evSs cl (s :: r))) :=
  pss_imp (pss_cons h1 h2) fun D σ H h => by
    obtain ⟨env, mem, q, mem', o, hf, er, sm, hD⟩ := tS_of h
    obtain ⟨q1, m1, e1, hf⟩ := bnd_inv (show bnd (evS cl s env mem) _ = _ from hf)
    obtain ⟨out1, env1⟩ := q1
    refine ⟨env, mem, out1, env1, m1, o, e1, er, sm, ?_⟩
    cases out1 with
    | next => exact fun σ1 H1 o1 l1 s1 er1 => ⟨env1, m1, q.1, q.2, mem', o1, hf, er1, s1, ends_mono l1 hD⟩
    | ret w => cases hf; exact hD
    | retT ws => cases hf; exact hD
theorem s_iff {x : IR} {t f : List IS} {st sf : List Stmt} (hc : Snd X a (evE cl x)) (ht : PSs X st (tS X.K (evSs cl t))) (hf : PSs X sf (tS X.K (evSs cl f))) : PS X (.If a st sf pos) (tS X.K (evS cl (.iff x t f))) :=
  ps_imp (ps_if hc.t ht hf) fun D σ H h => by
    obtain ⟨env, mem, q, mem', o, hf, er, sm, hD⟩ := tS_of h
    obtain ⟨u, m1, e1, hf⟩ := bnd_inv (show bnd (evE cl x env mem) _ = _ from hf)
    split at hf
    · rename_i c
      refine ⟨env, mem, c, m1, o, e1, er, sm, fun H1 o1 l1 s1 => ?_⟩
      cases c with
      | true => exact ⟨env, m1, q.1, q.2, mem', o1, hf, er.mono l1, s1, ends_mono l1 hD⟩
      | false => exact ⟨env, m1, q.1, q.2, mem', o1, hf, er.mono l1, s1, ends_mono l1 hD⟩
    · cases hf
theorem s_while (c : Ct k N sc cl X) {x : IR} {b : List IS} {sb : List Stmt} (hc : Snd X a (evE cl x)) (hb : PSs X sb (tS X.K (evSs cl b))) : PS X (.While a sb [] pos) (tS X.K (evS cl (.whil x b))) :=
  ps_imp (ps_while (never c) hc.t hb) fun D σ H h => by
    obtain ⟨env, mem, q, mem', o0, hf, er, sm, hD⟩ := tS_of h
    have hf : loopW (fun env mem => evE cl x env mem) (fun env mem => evSs cl b env mem) 100 env mem = some (q, mem') := hf
    refine ⟨fun n σ H => ∃ env mem o, o0.Le o ∧ EnvR X.K o env σ ∧ Sim X.K o mem H ∧ loopW (fun env mem => evE cl x env mem) (fun env mem => evSs cl b env mem) n env mem = some (q, mem'), ⟨100, env, mem, o0, Wo.Le.refl _, er, sm, hf⟩, ?_⟩
    rintro n σ H ⟨env, mem, o, le, er, sm, hf⟩
    cases n with
    | zero => cases hf
    | succ n =>
      obtain ⟨u, m1, e1, hf⟩ := bnd_inv (show bnd (evE cl x env mem) _ = _ from hf)
      split at hf
      · cases hf
        exact ⟨env, mem, false, _, o, e1, er, sm, fun H1 o1 l1 s1 => hD σ H1 o1 (le.trans l1) s1 (er.mono l1)⟩
      · obtain ⟨q1, m2, e2, hf⟩ := bnd_inv hf
        obtain ⟨out1, env1⟩ := q1
        refine ⟨env, mem, true, m1, o, e1, er, sm, fun H1 o1 l1 s1 => ⟨fun σ H => ∃ env mem o, o0.Le o ∧ EnvR X.K o env σ ∧ Sim X.K o mem H ∧ loopW (fun env mem => evE cl x env mem) (fun env mem => evSs cl b env mem) n env mem = some (q, mem'), fun σ' H' w => ⟨n, Nat.lt_succ_self n, w⟩, ?_⟩⟩
        refine ⟨env, m1, out1, env1, m2, o1, e2, er.mono l1, s1, ?_⟩
        cases out1 with
        | next => exact fun σ2 H2 o2 l2 s2 er2 => ⟨env1, m2, o2, (le.trans l1).trans l2, er2, s2, hf⟩
        | ret w => cases hf; exact ends_mono (le.trans l1) hD
        | retT ws => cases hf; exact ends_mono (le.trans l1) hD
      · cases hf
def varE : ItK → List IR → Bool
  | .e, [.var _] => true
  | _, _ => false
theorem itemsV_eq {kd : ItK} {its : List IR} {ws : List W} (h : varE kd its = false) : itemsV kd its ws = itemsD kd ws := by
  unfold itemsV
  split
  · cases kd with
    | e => exact absurd (show true = false from h) (by simp)
    | range => rfl
    | zip => rfl
  · rfl
theorem noVar {α : Type} {kd : ItK} {its : List IR} {ws : List W} (h : varE kd its = false) (A : Nat → Option α) : (match kd, its, ws with
      | .e, [.var _], [.r n] => A n
      | _, _, _ => none) = none := by
  cases kd with
  | range => rfl
  | zip => rfl
  | e =>
    match its, h with
    | [], _ => rfl
    | x :: y :: r, _ => cases x <;> rfl
    | [x], h =>
      cases x with
      | var i => exact absurd (show true = false from h) (by simp)
      | _ => rfl
theorem s_for (c : Ct k N sc cl X) {kd : ItK} {its : List IR} {tg : Tg} {b : List IS} {te : Expr} {body : List Stmt} (hi : PI X te e (iD X.K kd (evEs cl its))) (hg : PG X te (gTg X.K tg)) (hb : PSs X body (tS X.K (evSs cl b))) (hs : notSet e = true) (hv : varE kd its = false) :
    PS X (.For te e body [] pos) (tS X.K (evS cl (.forr tg kd its b))) :=
  ps_imp (s_forD (F := fun env mem => evSs cl b env mem) c hi hg hb hs) fun D σ H h => by
    obtain ⟨env, mem, q, mem', o, hf, er, sm, hD⟩ := tS_of h
    obtain ⟨us, m1, e1, hf⟩ := bnd_inv (show bnd (evEs cl its env mem) _ = _ from hf)
    rw [itemsV_eq hv] at hf
    cases hx : itemsD kd us with
    | some xs =>
      rw [hx] at hf
      exact ⟨env, mem, us, m1, xs, q.1, q.2, mem', o, e1, hx, hf, er, sm, hD⟩
    | none =>
      rw [hx] at hf
      have z := noVar (kd := kd) (ws := us) hv (fun n => match m1[n]? with
        | some (.lst []) => some ((Out.next, env), m1)
        | _ => bnd (lockM m1 n) fun kvs mem => bnd (loopF (fun env mem => evSs cl b env mem) tg (kvs.map fun kv => kv.1.d) env mem) fun r mem => some (r, unlockM n kvs mem))
      exact absurd (hf.symm.trans z) (by simp)
theorem s_forVar (c : Ct k N sc cl X) {i : Nat} {tg : Tg} {b : List IS} {te : Expr} {body : List Stmt} {x : Str} (hN : N[i]? = some x) (hv : Vis sc x) (hd : (x == ("__debug__" : Str)) = false) (hcd : (x == ("__classdict__" : Str)) = false) (hg : PG X te (gTg X.K tg)) (hb : PSs X body (tS X.K (evSs cl b))) :
    PS X (.For te (.Name x p) body [] pos) (tS X.K (evS cl (.forr tg .e [.var i] b))) :=
  s_forV (F := fun env mem => evSs cl b env mem) c hN hv hd hcd hg hb
end
end Mi
end
section
set_option maxHeartbeats 1000000
/-! Mi19: comprehensions. -/
namespace Mi
open PySem PySem.Spec PyProof.Rows L2
theorem turns_len {α : Type} {f : Mi.D → Mem → Option (Option α × Mem)} : ∀ {xs : List Mi.D} {acc ys : List α} {mem mem' : Mem}, turns f snoc xs acc mem = some (ys, mem') → acc.length ≤ ys.length
  | [], _, _, _, _, h => by cases h; exact Nat.le_refl _
  | x :: xs, acc, _, _, _, h => by
    obtain ⟨q, m, e, h⟩ := bnd_inv (show bnd _ _ = _ from h)
    have := turns_len h
    cases q with
    | none => exact this
    | some y =>
      have e : (snoc y acc).length = acc.length + 1 := by simp [snoc]
      have this : (snoc y acc).length ≤ _ := this
      omega
/-- a comprehension's tests -/
def tCs (K : PySem.W.Frag) (f : Env → Mem → Option (Bool × Mem)) : TT := fun σ H Q => ∃ env mem b mem' o, f env mem = some (b, mem') ∧ EnvR K o env σ ∧ Sim K o mem H ∧ ∀ H' o', o.Le o' → Sim K o' mem' H' → Q b H'
/-- a turn -/
def lcTurn (cl : Cl) (own : List Nat) (tg : Tg) (cond : List IR) (elt : IR) (env : Env) : Mi.D → Mem → Option (Option Mi.D × Mem) := fun x mem => (setTg tg x (wipeE env own)).bind fun env => bnd (evC cl cond env mem) fun b mem => if b then bnd (evE cl elt env mem) fun w mem => match w with
      | .d y => some (some y, mem)
      | .r _ => none else some (none, mem)
theorem lc_loop {K : PySem.W.Frag} {cl : Cl} {own : List Nat} {tg : Tg} {cond : List IR} {elt : IR} {J : It} {xs ys : List Mi.D} {o1 : Wo} {env : Env} {σ : L2.St} {m1 m2 : Mem} {H1 : Hp} {Dl : Addr} {Qd : Hp → Prop} (w : WalkD K J xs o1)
    (ht : turns (lcTurn cl own tg cond elt env) snoc xs [] m1 = some (ys, m2)) (hl : ys.length < lim) (hown : ∀ i ∈ tgIx tg, i ∈ own) (er : EnvR K o1 env σ) (s1 : Sim K o1 m1 H1) (hD : H1 Dl = none)
    (hQ : ∀ H' o', o1.Le o' → Sim K o' m2 H' → DR K o'.G (.lst ys) (.ref Dl) → Qd H') :
    ∃ W : Nat → Nat → Hp → Prop, (∃ m, W 0 m (upd H1 Dl (.lst []))) ∧ ∀ i m H, W i m H →
      (J.stop i H ∧ Qd H) ∨ (J.go i H ∧ ∃ Nx : Hp → Prop, (∀ H', Nx H' → ∃ m', m' < m ∧ W (i + 1) m' H') ∧ ∀ x H', J.yld i H x H' → gTg K tg x (wipe σ own) H' fun σ2 H2 => wipe σ2 own = wipe σ own ∧ tCs K (evC cl cond) σ2 H2 fun b H3 =>
        if b = true then tE K (evE cl elt) σ2 H3 fun y H4 => ∃ acc, H4 Dl = some (.lst acc) ∧ acc.length < sizeLine ∧ Nx (upd H4 Dl (.lst (acc ++ [y]))) else Nx H3) := by
  have free : o1.lk Dl = none := by
    cases e : o1.lk Dl with
    | none => rfl
    | some x => exact absurd rfl (s1.lkFresh hD Dl x e)
  let R : Nat → Hp → Prop := fun i H => ∃ mem acc vs o', (o1.shut Dl (.lst vs)).Le o' ∧ Sim K o' mem H ∧ DRs K o'.G acc vs ∧ turns (lcTurn cl own tg cond elt env) snoc (xs.drop i) acc mem = some (ys, m2)
  refine ⟨fun i m H => m = xs.length - i ∧ i ≤ xs.length ∧ R i H, ⟨_, rfl, Nat.zero_le _, m1, [], [], _, Wo.Le.refl _, s1.hold hD, .nil, ht⟩, ?_⟩
  rintro i m H ⟨rfl, hi, mem, acc, vs, o2, le, s2, dr, ht⟩
  have lt : o1.Lt o2 := (Wo.shut_lt (by simp [free])).trans le.lt
  have lk : o2.lk Dl = some (.lst vs) := by rw [le.lk, Wo.shut_same]
  have nf : ∀ {vs : List V} od u, HO.lst vs ≠ .frz od u := fun od u z => by cases z
  by_cases hlt : i < xs.length
  · refine .inr ⟨w.go i mem H o2 lt s2 hlt, R (i + 1), fun H' q => ⟨xs.length - (i + 1), by omega, rfl, hlt, q⟩, fun v H' hy => ?_⟩
    obtain ⟨o3, l3, s3, r3⟩ := w.yld i mem H o2 xs[i] v H' lt s2 (List.getElem?_eq_getElem hlt) hy
    rw [List.drop_eq_getElem_cons hlt] at ht
    obtain ⟨q, m3, g1, ht⟩ := bnd_inv (show bnd (lcTurn cl own tg cond elt env xs[i] mem) _ = _ from ht)
    obtain ⟨env2, g2, g1⟩ := bind_some_inv (show (setTg tg xs[i] (wipeE env own)).bind _ = _ from g1)
    obtain ⟨bb, m4, g3, g1⟩ := bnd_inv g1
    have er3 : EnvR K o3 (wipeE env own) (wipe σ own) := by
      refine ⟨?_, fun i w hw => ?_⟩
      · exact (er.wipe own).len
      · obtain ⟨v, e1, r⟩ := (er.wipe own).get i w hw
        refine ⟨v, e1, ?_⟩
        cases w with
        | d x => exact DR.mono ((lt.trans l3.lt).inc) x v r
        | r n => exact ⟨Nat.lt_of_lt_of_le r.1 (lt.trans l3.lt).n, by rw [(lt.trans l3.lt).at_ n r.1]; exact r.2⟩
    refine tg_ok g2 er3 s3 r3 fun σ2 er2 hw => ⟨(hw own hown).trans (wipe_wipe fun _ z => z), env2, mem, bb, m4, o3, g3, er2, s3, fun H5 o5 l5 s5 => ?_⟩
    have le5 := le.trans (l3.trans l5)
    cases bb with
    | false =>
      have g1 : some (none, m4) = some (q, m3) := g1
      cases g1
      exact ⟨_, acc, vs, o5, le5, s5, DRs.mono (l3.trans l5).inc _ _ dr, ht⟩
    | true =>
      obtain ⟨u, m5, g4, g1⟩ := bnd_inv (show bnd (evE cl elt env2 m4) _ = _ from g1)
      refine ⟨env2, m4, u, m5, o5, g4, er2.mono l5, s5, fun y H6 o6 l6 s6 r6 => ?_⟩
      have le6 := le5.trans l6
      have lk6 : o6.lk Dl = some (.lst vs) := by rw [le6.lk, Wo.shut_same]
      match u, g1, r6 with
      | .d yd, g1, r6 =>
        have g1 : some (some yd, m5) = some (q, m3) := g1
        cases g1
        have ht : turns (lcTurn cl own tg cond elt env) snoc (xs.drop (i + 1)) (snoc yd acc) m3 = some (ys, m2) := ht
        have hlen := turns_len ht
        have e1 : (snoc yd acc).length = acc.length + 1 := by simp [snoc]
        refine ⟨vs, (s6.lock Dl _ lk6).1, ?_, m3, snoc yd acc, vs ++ [y], _, Wo.reshut le6, s6.rehold lk6 nf, ?_, ht⟩
        · rw [← dr.length]
          exact lim_line (by omega)
        · exact DRs.append (DRs.mono ((l3.trans l5).trans l6).inc _ _ dr) (.cons r6 .nil)
  · have ei : i = xs.length := by omega
    subst ei
    rw [List.drop_length] at ht
    cases (show some (acc, mem) = some (ys, m2) from ht)
    obtain ⟨sl, ll⟩ := s2.letGo hD s1 le lk nf
    exact .inl ⟨w.stop _ H o2 lt s2, hQ H _ ll sl (.lst (.inl (.inl upd_same)) (DRs.mono (Wo.keep_le (o := o2.open_ o1) (a := Dl) (ob := .lst vs) (by
      rcases (s2.lock Dl _ lk).2 with ⟨od, u, z⟩ | z
      · cases z
      · exact z.1)).inc _ _ dr))⟩
section
variable {X : Cx} {e a b elt iter te : Expr} {f g : FE} {pos p : Pos} {k : Nat} {N : List Str} {sc scope : Scope} {cl : Cl}
theorem c_nil : L2.PTs X [] (tCs X.K (evC cl [])) := ⟨fun pins s σ H Q I h => pts_nil.run pins s σ H Q I (by
  obtain ⟨env, mem, b, mem', o, hf, er, sm, hQ⟩ := h
  cases (show some (true, mem) = some (b, mem') from hf)
  exact hQ H o (Wo.Le.refl o) sm)⟩
theorem c_one {x : IR} (h : Snd X a (evE cl x)) : L2.PTs X [a] (tCs X.K (evC cl [x])) := ⟨fun pins s σ H Q I h' => (pts_one h.t).run pins s σ H Q I (by
  obtain ⟨env, mem, b, mem', o, hf, er, sm, hQ⟩ := h'
  obtain ⟨u, m1, e1, hf⟩ := bnd_inv (show bnd (evE cl x env mem) _ = _ from hf)
  split at hf
  · cases hf
    exact ⟨env, mem, _, _, o, e1, er, sm, hQ⟩
  · cases hf)⟩
theorem Ct.blk (c : Ct k N sc cl X) (s : Shared) (H : Hp) (C : Addr) (cs : List (Str × Addr)) (fp : List Addr) : Ct k N (relS scope sc) cl (X.blk s H scope (compEnvC scope cs C X.env) fp) :=
  ⟨c.n, c.nd, by show relS scope X.env.scope = _; rw [c.scp], c.calm, c.gd, c.room, c.glo, c.calls, rfl⟩
/-- what the parts of a comprehension's block are -/
def InBlk (X : Cx) (scope : Scope) (P : Cx → Prop) : Prop := ∀ (s : Shared) (H : Hp) (C : Addr) (cs : List (Str × Addr)) (fp : List Addr), P (X.blk s H scope (compEnvC scope cs C X.env) fp)
theorem lc_inv {K : PySem.W.Frag} {own : List Nat} {tg : Tg} {kd : ItK} {its : List IR} {cond : List IR} {el : IR} {env : Env} {mem mem' : Mem} {w : W} (h : evE cl (.lc own tg kd its cond el) env mem = some (w, mem')) :
    ∃ ws m1 xs ys, evEs cl its env mem = some (ws, m1) ∧ itemsV kd its ws = some xs ∧ turns (lcTurn cl own tg cond el env) snoc xs [] m1 = some (ys, mem') ∧ ys.length < lim ∧ w = .d (.lst ys) := by
  obtain ⟨ws, m1, e1, h⟩ := bnd_inv (show bnd (evEs cl its env mem) _ = _ from h)
  obtain ⟨xs, e2, h⟩ := bind_some_inv h
  obtain ⟨ys, m2, e3, h⟩ := bnd_inv h
  by_cases hl : ys.length < lim
  case neg => rw [if_neg hl] at h; cases h
  rw [if_pos hl] at h
  cases h
  exact ⟨ws, m1, xs, ys, e1, e2, e3, hl, rfl⟩
/-- over no dict -/
theorem tE_lc {K : PySem.W.Frag} {own : List Nat} {tg : Tg} {kd : ItK} {its : List IR} {cond : List IR} {el : IR} {σ : L2.St} {H : Hp} {Q : VK} (hown : ∀ i ∈ tgIx tg, i ∈ own) {env : Env} {mem m1 mem' : Mem} {ws : List W} {xs ys : List Mi.D} {o : Wo}
    (e1 : evEs cl its env mem = some (ws, m1)) (e2 : itemsD kd ws = some xs) (e3 : turns (lcTurn cl own tg cond el env) snoc xs [] m1 = some (ys, mem')) (hl : ys.length < lim) (er : EnvR K o env σ) (sm : Sim K o mem H)
    (hQ : ∀ v H' o', o.Le o' → Sim K o' mem' H' → WR K o' (.d (.lst ys)) v → Q v H') : tLc (iD K kd (evEs cl its)) (gTg K tg) (tCs K (evC cl cond)) (tE K (evE cl el)) own σ H Q :=
  ⟨env, mem, ws, m1, o, xs, e1, er, sm, e2, fun J H1 o1 l1 s1 w D hD => lc_loop w e3 hl hown (er.mono l1) s1 hD fun H' o' l' s' r => hQ (.ref D) H' o' (l1.trans l') s' r⟩
theorem s_lc (c : Ct k N sc cl X) {own : List (Str × Nat)} {tg : Tg} {kd : ItK} {its : List IR} {cond : List IR} {el : IR} {ifs : List Expr} (hi : PI X te iter (iD X.K kd (evEs cl its))) (ok : BlkOk N sc scope own) (hown : ∀ i ∈ tgIx tg, i ∈ own.map (·.2)) (hv : varE kd its = false) (hs : notSet iter = true)
    (hg : InBlk X scope fun Y => PG Y te (gTg X.K tg)) (hc : InBlk X scope fun Y => L2.PTs Y ifs (tCs X.K (evC cl cond))) (he : InBlk X scope fun Y => PE Y elt (tE X.K (evE cl el))) : PE X (.ListComp elt [⟨te, iter, ifs, 0⟩] scope pos) (tE X.K (evE cl (.lc (own.map (·.2)) tg kd its cond el))) :=
  pe_imp (pe_lc c.calm (by rw [c.n]; exact c.nd) hi (by rw [c.n, c.scp]; exact ok) hg hc he (folded hs X.env)) fun σ H Q h => by
    obtain ⟨env, mem, w, mem', o, hf, er, sm, hQ⟩ := h
    obtain ⟨ws, m1, xs, ys, e1, e2, e3, hl, rfl⟩ := lc_inv (K := X.K) hf
    rw [itemsV_eq hv] at e2
    exact tE_lc hown e1 e2 e3 hl er sm hQ
theorem s_lcVar (c : Ct k N sc cl X) {i : Nat} {x : Str} {own : List (Str × Nat)} {tg : Tg} {cond : List IR} {el : IR} {ifs : List Expr} (hN : N[i]? = some x) (hv : Vis sc x) (hd : (x == ("__debug__" : Str)) = false) (hcd : (x == ("__classdict__" : Str)) = false) (ok : BlkOk N sc scope own) (hown : ∀ i ∈ tgIx tg, i ∈ own.map (·.2))
    (hg : InBlk X scope fun Y => PG Y te (gTg X.K tg)) (hc : InBlk X scope fun Y => L2.PTs Y ifs (tCs X.K (evC cl cond))) (he : InBlk X scope fun Y => PE Y elt (tE X.K (evE cl el))) : PE X (.ListComp elt [⟨te, .Name x p, ifs, 0⟩] scope pos) (tE X.K (evE cl (.lc (own.map (·.2)) tg .e [.var i] cond el))) := pe_by fun σ H Q h => by
  obtain ⟨env, mem, w, mem', o, hf, er, sm, hQ⟩ := h
  obtain ⟨ws, m1, xs, ys, e1, e2, e3, hl, rfl⟩ := lc_inv (K := X.K) hf
  have hN' : X.N[i]? = some x := by rw [c.n]; exact hN
  have hv' : Vis X.env.scope x := by rw [c.scp]; exact hv
  have pv := pe_var (X := X) (pos := p) hN' hv' hd hcd
  have sv := s_var (X := X) (pos := p) hN' hv' hd hcd (cl := cl)
  have ok' : BlkOk X.N X.env.scope scope own := by rw [c.n, c.scp]; exact ok
  have nd : X.N.Nodup := by rw [c.n]; exact c.nd
  obtain ⟨w, m2, g2, g3⟩ := bnd_inv (show bnd (evE cl (.var i) env mem) _ = _ from e1)
  cases (show some ([w], m2) = some (ws, m1) from g3)
  have hw : env[i]? = some (some w) ∧ mem = m1 := by
    unfold evE at g2
    split at g2
    · cases g2; exact ⟨by assumption, rfl⟩
    · cases g2
  obtain ⟨hw, rfl⟩ := hw
  obtain ⟨v, ev, rv⟩ := er.get i w hw
  have pk := pe_lc (pos := pos) c.calm nd (pi_keys (tg := te) pv) ok' hg hc he (folded rfl X.env)
  have keys : ∀ {d : Addr} {od : Obj} {kvs : List (Ky × Mi.D)} {vs : List (Key × V)} {o1 : Wo} {H1 : Hp} {Q1 : VK}, v = .ref d → o1.lk d = some (.frz od (.dK vs)) → DRk X.K o1.G kvs vs → EnvR X.K o1 env σ → Sim X.K o1 mem H1 → kvs.map (fun kv => kv.1.d) = xs →
      (∀ v H' o', o1.Le o' → Sim X.K o' mem' H' → WR X.K o' (.d (.lst ys)) v → Q1 v H') → tLc (iKeys (tVar i)) (gTg X.K tg) (tCs X.K (evC cl cond)) (tE X.K (evE cl el)) (own.map (·.2)) σ H1 Q1 := by
    intro d od kvs vs o1 H1 Q1 evd hlk r er1 s1 hx hQ1
    subst hx
    exact ⟨v, ev, d, od, evd, .inl ⟨vs, (s1.lock d _ hlk).1, fun D hD => lc_loop (walk_dict hlk r) e3 hl hown er1 s1 hD fun H' o' l' s' r' => hQ1 (.ref D) H' o' l' s' r'⟩⟩
  match w, hw, rv, e2 with
  | .d (.lst zs), hw, rv, e2 =>
    exact ⟨_, pe_lc c.calm nd (i_e sv) ok' hg hc he (folded rfl X.env), tE_lc hown e1 (show itemsD .e [.d (.lst zs)] = some xs from e2) e3 hl er sm hQ⟩
  | .d (.tup zs), hw, rv, e2 =>
    exact ⟨_, pe_lc c.calm nd (i_e sv) ok' hg hc he (folded rfl X.env), tE_lc hown e1 (show itemsD .e [.d (.tup zs)] = some xs from e2) e3 hl er sm hQ⟩
  | .d (.dct kvs), hw, rv, e2 =>
    have e2 : some (kvs.map fun kv => kv.1.d) = some xs := e2
    have e2 := Option.some.inj e2
    obtain ⟨d, vs, rfl, q1, q2⟩ := DR.dctV rv
    cases hk : o.lk d with
    | none =>
      have hH := sm.free d vs q1 hk
      refine ⟨_, pe_lock pk, d, .dK vs, hH, trivial, fun od => keys rfl Wo.shut_same q2 er.shut (sm.shutD od q1 hH) e2 fun v H' o' l' s' r' => ?_⟩
      obtain ⟨s2, h2⟩ := sm.openD s' q1 hH l'
      exact ⟨h2, hQ v _ _ (Wo.open_le l') s2 (Wo.open_pre r')⟩
    | some y =>
      obtain ⟨h1, h2⟩ := sm.lock d y hk
      obtain ⟨ob, u, h2⟩ : ∃ ob u, y = .frz ob u := by
        rcases h2 with h2 | ⟨h2, _⟩
        · exact h2
        · rw [q1] at h2; cases h2
      have hy : y = .frz ob (.dK vs) := by
        rcases sm.sub d _ q1 with z | ⟨_, ob', _, z⟩
        · rw [h1, h2] at z; cases z
        · rw [h1] at z
          have z := Option.some.inj z
          rw [h2] at z
          cases z
          exact h2
      rw [hy] at hk
      exact ⟨_, pk, keys rfl hk q2 er sm e2 hQ⟩
/-- name = [..] on the name's line -/
theorem s_setLc (c : CtF k N sc cl X) {i : Nat} {y : Str} {py spos : Pos} {own : List (Str × Nat)} {tg : Tg} {kd : ItK} {its : List IR} {cond : List IR} {el : IR} {ifs : List Expr} (hN : N[i]? = some y) (hy : sc.names.lookup y = some .local)
    (hsw : swapsWith (.ListComp elt [⟨te, iter, ifs, 0⟩] scope pos) (some (.Name y py)) spos.line X.env = pure true) (hi : PI X te iter (iD X.K kd (evEs cl its))) (ok : BlkOk N sc scope own) (hown : ∀ i ∈ tgIx tg, i ∈ own.map (·.2)) (hs : notSet iter = true)
    (hvar : ∀ ws xs, itemsV kd its ws = some xs → itemsD kd ws = some xs)
    (hg : InBlk X scope fun Y => PG Y te (gTg X.K tg)) (hc : InBlk X scope fun Y => L2.PTs Y ifs (tCs X.K (evC cl cond))) (he : InBlk X scope fun Y => PE Y elt (tE X.K (evE cl el))) :
    PS X (.Assign [.Name y py] (.ListComp elt [⟨te, iter, ifs, 0⟩] scope pos) spos) (tS X.K (evS cl (.asg (.nm i) (.lc (own.map (·.2)) tg kd its cond el)))) :=
  ps_imp (ps_setLc c.calm (by rw [c.n]; exact c.nd) (by rw [c.n]; exact hN) (by rw [c.scp]; exact hy) hsw hi (by rw [c.n, c.scp]; exact ok) hg hc he (folded hs X.env)) fun E0 σ H h => by
    obtain ⟨env, mem, q, mem', o, hf, er, sm, hD⟩ := tS_of h
    obtain ⟨u, m1, e0, hf⟩ := bnd_inv (show bnd (evE cl (.lc (own.map (·.2)) tg kd its cond el) env mem) _ = _ from hf)
    cases (show some ((Out.next, env.set i (some u)), m1) = some (q, mem') from hf)
    obtain ⟨ws, m1, xs, ys, e1, e2, e3, hl, rfl⟩ := lc_inv (K := X.K) e0
    exact tE_lc hown e1 (hvar ws xs e2) e3 hl er sm fun v H1 o1 l1 s1 r1 => hD _ H1 o1 l1 s1 ((er.mono l1).set i r1)
theorem s_setLcVar (c : CtF k N sc cl X) {i j : Nat} {x y : Str} {py spos : Pos} {own : List (Str × Nat)} {tg : Tg} {cond : List IR} {el : IR} {ifs : List Expr} (hNi : N[i]? = some y) (hy : sc.names.lookup y = some .local)
    (hsw : swapsWith (.ListComp elt [⟨te, .Name x p, ifs, 0⟩] scope pos) (some (.Name y py)) spos.line X.env = pure true) (hN : N[j]? = some x) (hv : Vis sc x) (hd : (x == ("__debug__" : Str)) = false) (hcd : (x == ("__classdict__" : Str)) = false) (ok : BlkOk N sc scope own) (hown : ∀ i ∈ tgIx tg, i ∈ own.map (·.2))
    (hg : InBlk X scope fun Y => PG Y te (gTg X.K tg)) (hc : InBlk X scope fun Y => L2.PTs Y ifs (tCs X.K (evC cl cond))) (he : InBlk X scope fun Y => PE Y elt (tE X.K (evE cl el))) :
    PS X (.Assign [.Name y py] (.ListComp elt [⟨te, .Name x p, ifs, 0⟩] scope pos) spos) (tS X.K (evS cl (.asg (.nm i) (.lc (own.map (·.2)) tg .e [.var j] cond el)))) := ps_by fun E0 σ H h => by
  obtain ⟨env, mem, q, mem', o, hf, er, sm, hD⟩ := tS_of h
  obtain ⟨u, m1, e0, hf⟩ := bnd_inv (show bnd (evE cl (.lc (own.map (·.2)) tg .e [.var j] cond el) env mem) _ = _ from hf)
  cases (show some ((Out.next, env.set i (some u)), m1) = some (q, mem') from hf)
  obtain ⟨ws, m1, xs, ys, e1, e2, e3, hl, rfl⟩ := lc_inv (K := X.K) e0
  have hN' : X.N[j]? = some x := by rw [c.n]; exact hN
  have hv' : Vis X.env.scope x := by rw [c.scp]; exact hv
  have pv := pe_var (X := X) (pos := p) hN' hv' hd hcd
  have sv := s_var (X := X) (pos := p) hN' hv' hd hcd (cl := cl)
  have ok' : BlkOk X.N X.env.scope scope own := by rw [c.n, c.scp]; exact ok
  have nd : X.N.Nodup := by rw [c.n]; exact c.nd
  have hi' : X.N[i]? = some y := by rw [c.n]; exact hNi
  have hy' : X.env.scope.names.lookup y = some .local := by rw [c.scp]; exact hy
  obtain ⟨w, m2, g2, g3⟩ := bnd_inv (show bnd (evE cl (.var j) env mem) _ = _ from e1)
  cases (show some ([w], m2) = some (ws, m1) from g3)
  have hw : env[j]? = some (some w) ∧ mem = m1 := by
    unfold evE at g2
    split at g2
    · cases g2; exact ⟨by assumption, rfl⟩
    · cases g2
  obtain ⟨hw, rfl⟩ := hw
  obtain ⟨v, ev, rv⟩ := er.get j w hw
  have pk := ps_setLc c.calm nd hi' hy' hsw (pi_keys (tg := te) pv) ok' hg hc he (folded rfl X.env)
  have keys : ∀ {d : Addr} {od : Obj} {kvs : List (Ky × Mi.D)} {vs : List (Key × V)} {o1 : Wo} {H1 : Hp} {Q1 : VK}, v = .ref d → o1.lk d = some (.frz od (.dK vs)) → DRk X.K o1.G kvs vs → EnvR X.K o1 env σ → Sim X.K o1 mem H1 → kvs.map (fun kv => kv.1.d) = xs →
      (∀ v H' o', o1.Le o' → Sim X.K o' mem' H' → WR X.K o' (.d (.lst ys)) v → Q1 v H') → tLc (iKeys (tVar j)) (gTg X.K tg) (tCs X.K (evC cl cond)) (tE X.K (evE cl el)) (own.map (·.2)) σ H1 Q1 := by
    intro d od kvs vs o1 H1 Q1 evd hlk r er1 s1 hx hQ1
    subst hx
    exact ⟨v, ev, d, od, evd, .inl ⟨vs, (s1.lock d _ hlk).1, fun D hD => lc_loop (walk_dict hlk r) e3 hl hown er1 s1 hD fun H' o' l' s' r' => hQ1 (.ref D) H' o' l' s' r'⟩⟩
  have fin : ∀ v H' o', o.Le o' → Sim X.K o' mem' H' → WR X.K o' (.d (.lst ys)) v → E0.nx (σ.set i (some v)) H' := fun v H1 o1 l1 s1 r1 => hD _ H1 o1 l1 s1 ((er.mono l1).set i r1)
  match w, hw, rv, e2 with
  | .d (.lst zs), hw, rv, e2 =>
    exact ⟨_, ps_setLc c.calm nd hi' hy' hsw (i_e sv) ok' hg hc he (folded rfl X.env), tE_lc hown e1 (show itemsD .e [.d (.lst zs)] = some xs from e2) e3 hl er sm fin⟩
  | .d (.tup zs), hw, rv, e2 =>
    exact ⟨_, ps_setLc c.calm nd hi' hy' hsw (i_e sv) ok' hg hc he (folded rfl X.env), tE_lc hown e1 (show itemsD .e [.d (.tup zs)] = some xs from e2) e3 hl er sm fin⟩
  | .d (.dct kvs), hw, rv, e2 =>
    have e2 : some (kvs.map fun kv => kv.1.d) = some xs := e2
    have e2 := Option.some.inj e2
    obtain ⟨d, vs, rfl, q1, q2⟩ := DR.dctV rv
    cases hk : o.lk d with
    | none =>
      have hH := sm.free d vs q1 hk
      refine ⟨_, ps_lock pk, d, .dK vs, hH, trivial, fun od => keys rfl Wo.shut_same q2 er.shut (sm.shutD od q1 hH) e2 fun v H' o' l' s' r' => ?_⟩
      obtain ⟨s2, h2⟩ := sm.openD s' q1 hH l'
      exact ⟨h2, fin v _ _ (Wo.open_le l') s2 (Wo.open_pre r')⟩
    | some y =>
      obtain ⟨h1, h2⟩ := sm.lock d y hk
      obtain ⟨ob, u, h2⟩ : ∃ ob u, y = .frz ob u := by
        rcases h2 with h2 | ⟨h2, _⟩
        · exact h2
        · rw [q1] at h2; cases h2
      have hy : y = .frz ob (.dK vs) := by
        rcases sm.sub d _ q1 with z | ⟨_, ob', _, z⟩
        · rw [h1, h2] at z; cases z
        · rw [h1] at z
          have z := Option.some.inj z
          rw [h2] at z
          cases z
          exact h2
      rw [hy] at hk
      exact ⟨_, pk, keys rfl hk q2 er sm e2 fin⟩
end
end Mi
end
section
set_option maxHeartbeats 2000000
/-! Mi20: a dict comprehension of two clauses (no rule of the library; after the list's). -/
namespace Mi
open PySem PySem.Spec PyProof.Rows L2
theorem compTurn2_out (kx vx t0 i0 t1 i1 : Expr) (ifs0 ifs1 : List Expr) (scope : Scope) (pos : Pos) (it acc : Value) (env : PySem.Env) :
    compTurn (.DictComp kx vx [⟨t0, i0, ifs0, 0⟩, ⟨t1, i1, ifs1, 0⟩] scope pos) 0 it acc env = (do
      standAt i0.pos
      match ← pyNext it with
      | none => pure (.done .next)
      | some v =>
        letOwnedTupleGo t0 it v
        assign t0 env v
        let mut ok := true
        for c in ifs0 do
          if ok then ok ← isTrue c env (eval c env)
        if ok then
          let x ← eval i1 env
          standAt i1.pos
          let x ← foldedSetIterable i1 env x
          let _ ← runOwn (.compStart (.DictComp kx vx [⟨t0, i0, ifs0, 0⟩, ⟨t1, i1, ifs1, 0⟩] scope pos) 1 (← holding [x] (pyIter x)) acc env) env
        again (.compLoop (.DictComp kx vx [⟨t0, i0, ifs0, 0⟩, ⟨t1, i1, ifs1, 0⟩] scope pos) 0 it acc env)) := by rfl
theorem compTurn2_in (kx vx t0 i0 t1 i1 : Expr) (ifs0 ifs1 : List Expr) (scope : Scope) (pos : Pos) (it : Value) (D : Addr) (env : PySem.Env) :
    compTurn (.DictComp kx vx [⟨t0, i0, ifs0, 0⟩, ⟨t1, i1, ifs1, 0⟩] scope pos) 1 it (.ref D) env = (do
      standAt i1.pos
      match ← pyNext it with
      | none => pure (.done .next)
      | some v =>
        letOwnedTupleGo t1 it v
        assign t1 env v
        let mut ok := true
        for c in ifs1 do
          if ok then ok ← isTrue c env (eval c env)
        if ok then
          (do
            let kv ← eval kx env
            let vv ← holding [kv] (eval vx env)
            standAt { kx.pos with endLine := vx.pos.endLine, endCol := vx.pos.endCol }
            holding [kv, vv] (dictSet D kv vv))
        again (.compLoop (.DictComp kx vx [⟨t0, i0, ifs0, 0⟩, ⟨t1, i1, ifs1, 0⟩] scope pos) 1 it (.ref D) env)) := by rfl

section
variable {prog : Program} {w : World} {A : Around} {R : Result → Shared → Prop} {s : Shared} {kx vx t0 i0 t1 i1 : Expr} {ifs0 ifs1 : List Expr} {scope : Scope} {pos : Pos} {it acc : Value} {env : PySem.Env}
/-- the loop of the first clause -/
theorem compLoop2_out (hs : ∀ x, foldedSetIterable i1 env x = pure x) (I : Nat → Shared → Prop)
    (turn : ∀ n s, I n s → wpAny (model prog w) A (pyNext it) (fun r s₁ => match r with
      | none => R (.ok .next) s₁
      | some v => wpAny (model prog w) A (letOwnedTupleGo t0 it v) (fun _ s₁' => wpAny (model prog w) A (assign t0 env v) (fun _ s₂ =>
          wpAny (model prog w) A (forIn ifs0 true fun c r => if r = true then do let ok ← isTrue c env (eval c env); pure (ForInStep.yield ok) else pure (ForInStep.yield r)) (fun ok s₃ =>
            if ok = true then wpAny (model prog w) A (eval i1 env) (fun x s₄ => wpAny (model prog w) A (pyIter x) (fun it1 s₅ =>
              codeAny (model prog w) A (.compStart (.DictComp kx vx [⟨t0, i0, ifs0, 0⟩, ⟨t1, i1, ifs1, 0⟩] scope pos) 1 it1 acc env) (fun r s' => match r with
                | .ok _ => ∃ m, m < n ∧ I m s'
                | .error _ => False) s₅) (notedBy (model prog w) A env fun e s' => R (.error e) s') s₄) (notedBy (model prog w) A env fun e s' => R (.error e) s') s₃
            else ∃ m, m < n ∧ I m s₃) (notedBy (model prog w) A env fun e s' => R (.error e) s') s₂) (notedBy (model prog w) A env fun e s' => R (.error e) s') s₁') (notedBy (model prog w) A env fun e s' => R (.error e) s') s₁) (notedBy (model prog w) A env fun e s' => R (.error e) s') s)
    (n : Nat) (h : I n s) :
    codeAny (model prog w) A (.compLoop (.DictComp kx vx [⟨t0, i0, ifs0, 0⟩, ⟨t1, i1, ifs1, 0⟩] scope pos) 0 it acc env) R s := by
  refine codeAny_loop rfl I (fun n s hI => ?_) n h
  show wpAny _ A ((compTurn (.DictComp kx vx [⟨t0, i0, ifs0, 0⟩, ⟨t1, i1, ifs1, 0⟩] scope pos) 0 it acc env).onRaise (fun x => do noteFrame x env; theTreesLotGoes x)) _ _ s
  refine wpAny_noted ?_
  rw [compTurn2_out]
  refine wpAny_bind (wpAny_standAt (wpAny_bind (wpAny_mono (turn n s hI) (fun r s₁ h₁ => ?_) fun _ _ h' => h')))
  cases r with
  | none => exact wpAny_pure h₁
  | some v =>
    refine wpAny_bind (wpAny_mono h₁ (fun _ s₁' h₁' => ?_) fun _ _ h' => h')
    refine wpAny_bind (wpAny_mono h₁' (fun _ s₂ h₂ => wpAny_bind (wpAny_mono h₂ (fun ok s₃ h₃ => ?_) fun _ _ h' => h')) fun _ _ h' => h')
    cases ok with
    | false => exact wpAny_pure ⟨rfl, h₃⟩
    | true =>
      refine wpAny_bind (wpAny_mono h₃ (fun x s₄ h₄ => ?_) fun _ _ h' => h')
      refine wpAny_bind (wpAny_standAt (wpAny_bind (wpAny_of_eq (hs x) (wpAny_bind (wpAny_holding (wpAny_mono h₄ (fun it1 s₅ h₅ => ?_) fun _ _ h' => h'))))))
      refine wpAny_bind (wpAny_runOwn ?_)
      rw [Around.mark_none]
      refine codeAny_mono h₅ fun r s' hr => ?_
      cases r with
      | ok f =>
        first
          | exact wpAny_pure ⟨rfl, hr⟩
          | exact wpAny_bind (wpAny_pure (wpAny_pure ⟨rfl, hr⟩))
      | error e => exact hr.elim
/-- the loop of the second -/
theorem compLoop2_in {D : Addr} (I : Nat → Shared → Prop)
    (turn : ∀ n s, I n s → wpAny (model prog w) A (pyNext it) (fun r s₁ => match r with
      | none => R (.ok .next) s₁
      | some v => wpAny (model prog w) A (letOwnedTupleGo t1 it v) (fun _ s₁' => wpAny (model prog w) A (assign t1 env v) (fun _ s₂ =>
          wpAny (model prog w) A (forIn ifs1 true fun c r => if r = true then do let ok ← isTrue c env (eval c env); pure (ForInStep.yield ok) else pure (ForInStep.yield r)) (fun ok s₃ =>
            if ok = true then wpAny (model prog w) A (eval kx env) (fun kv s₄ => wpAny (model prog w) A (eval vx env) (fun vv s₅ =>
              wpAny (model prog w) A (dictSet D kv vv) (fun _ s₆ => ∃ m, m < n ∧ I m s₆) (notedBy (model prog w) A env fun e s' => R (.error e) s') s₅) (notedBy (model prog w) A env fun e s' => R (.error e) s') s₄) (notedBy (model prog w) A env fun e s' => R (.error e) s') s₃
            else ∃ m, m < n ∧ I m s₃) (notedBy (model prog w) A env fun e s' => R (.error e) s') s₂) (notedBy (model prog w) A env fun e s' => R (.error e) s') s₁') (notedBy (model prog w) A env fun e s' => R (.error e) s') s₁) (notedBy (model prog w) A env fun e s' => R (.error e) s') s)
    (n : Nat) (h : I n s) :
    codeAny (model prog w) A (.compLoop (.DictComp kx vx [⟨t0, i0, ifs0, 0⟩, ⟨t1, i1, ifs1, 0⟩] scope pos) 1 it (.ref D) env) R s := by
  refine codeAny_loop rfl I (fun n s hI => ?_) n h
  show wpAny _ A ((compTurn (.DictComp kx vx [⟨t0, i0, ifs0, 0⟩, ⟨t1, i1, ifs1, 0⟩] scope pos) 1 it (.ref D) env).onRaise (fun x => do noteFrame x env; theTreesLotGoes x)) _ _ s
  refine wpAny_noted ?_
  rw [compTurn2_in]
  refine wpAny_bind (wpAny_standAt (wpAny_bind (wpAny_mono (turn n s hI) (fun r s₁ h₁ => ?_) fun _ _ h' => h')))
  cases r with
  | none => exact wpAny_pure h₁
  | some v =>
    refine wpAny_bind (wpAny_mono h₁ (fun _ s₁' h₁' => ?_) fun _ _ h' => h')
    refine wpAny_bind (wpAny_mono h₁' (fun _ s₂ h₂ => wpAny_bind (wpAny_mono h₂ (fun ok s₃ h₃ => ?_) fun _ _ h' => h')) fun _ _ h' => h')
    cases ok with
    | false => exact wpAny_pure ⟨rfl, h₃⟩
    | true =>
      exact wpAny_bind (wpAny_bind (wpAny_mono h₃ (fun kv s₄ h₄ => wpAny_bind (wpAny_holding (wpAny_mono h₄ (fun vv s₅ h₅ => wpAny_bind (wpAny_standAt (wpAny_holding (wpAny_mono h₅ (fun _ s₆ h₆ => wpAny_pure ⟨rfl, h₆⟩) fun _ _ h' => h')))) fun _ _ h' => h'))) fun _ _ h' => h'))
theorem compStart1_ok (h0 : codeAny (model prog w) A (.compLoop (.DictComp kx vx [⟨t0, i0, ifs0, 0⟩, ⟨t1, i1, ifs1, 0⟩] scope pos) 1 it acc env) R s)
    (h : wpAny (model prog w) A (pyIter it) (fun it' s' => codeAny (model prog w) A (.compLoop (.DictComp kx vx [⟨t0, i0, ifs0, 0⟩, ⟨t1, i1, ifs1, 0⟩] scope pos) 1 it' acc env) R s')
      (notedBy (model prog w) A env fun x s' => R (.error x) s') s) :
    codeAny (model prog w) A (.compStart (.DictComp kx vx [⟨t0, i0, ifs0, 0⟩, ⟨t1, i1, ifs1, 0⟩] scope pos) 1 it acc env) R s := by
  refine codeAny_of_tree ?_
  show wpAny _ _ ((compStart (.DictComp kx vx [⟨t0, i0, ifs0, 0⟩, ⟨t1, i1, ifs1, 0⟩] scope pos) 1 it acc env).onRaise (fun x => do noteFrame x env; standAt theWindowsPlace)) _ _ s
  refine wpAny_notedAt ?_
  unfold compStart
  show wpAny _ _ (ask >>= _) _ _ s
  refine wpAny_bind (wpAny_askSetting (wpAny_ite ?_))
  split
  · first
      | exact wpAny_bind (wpAny_pure (wpAny_pure (And.intro rfl h0)))
      | exact wpAny_pure (And.intro rfl h0)
  · first
      | exact wpAny_bind (wpAny_rule (wpAny_bind (wpAny_standAt (wpAny_bind (wpAny_mono h (fun it' s' h' => wpAny_pure (And.intro rfl h')) fun _ _ x => x)))))
      | (refine wpAny_bind (wpAny_rule ?_); show wpAny _ _ (standAt i1.pos >>= _) _ _ s; exact wpAny_bind (wpAny_standAt (wpAny_bind (wpAny_mono h (fun it' s' h' => wpAny_pure (And.intro rfl h')) fun _ _ x => x))))
end
section
variable {X : Cx}
def tDc2 (wi : TI) (g : TG) (tt : TT) (wi1 : TI) (g1 : TG) (tt1 : TT) (tk tv : TE) (vs vs1 : List Nat) : TE := fun σ H Q => wi σ H fun J H1 => ∀ D, H1 D = none → ∃ W : Nat → Nat → Hp → Prop, (∃ m, W 0 m (upd H1 D (.dK []))) ∧ ∀ i m H, W i m H →
  (J.stop i H ∧ Q (.ref D) H) ∨ (J.go i H ∧ ∃ Nx : Hp → Prop, (∀ H', Nx H' → ∃ m', m' < m ∧ W (i + 1) m' H') ∧ ∀ x H', J.yld i H x H' → g x (wipe σ vs) H' fun σ2 H2 => wipe σ2 vs = wipe σ vs ∧ tt σ2 H2 fun b H3 =>
    if b = true then wi1 σ2 H3 fun J1 H4 => ∃ W1 : Nat → Nat → Hp → Prop, (∃ m, W1 0 m H4) ∧ ∀ j k H, W1 j k H →
      (J1.stop j H ∧ Nx H) ∨ (J1.go j H ∧ ∃ Nx1 : Hp → Prop, (∀ H', Nx1 H' → ∃ k', k' < k ∧ W1 (j + 1) k' H') ∧ ∀ x H', J1.yld j H x H' → g1 x (wipe σ2 vs1) H' fun σ3 H5 => wipe σ3 vs1 = wipe σ2 vs1 ∧ tt1 σ3 H5 fun b H6 =>
        if b = true then tk σ3 H6 fun y H7 => tv σ3 H7 fun z H8 => ∃ kvs kk, y = kV kk ∧ H8 D = some (.dK kvs) ∧ kvs.length < sizeLine ∧ Nx1 (upd H8 D (.dK (putK kvs kk z))) else Nx1 H6)
    else Nx H3)
theorem dc2_core {pins : List (Addr × Obj)} {s : Shared} {σ : L2.St} {H : Hp} {Q : VK} {kx vx tg iter tg1 iter1 : Expr} {ifs ifs1 : List Expr} {scope : Scope} {own : List (Str × Nat)} {vs1 : List Nat} {pos pos' : Pos} {wi wi1 : TI} {g g1 : TG} {tt tt1 : TT} {tk tv : TE} {use : Option (Value → Sem Unit)} {Qf : Value → Shared → Prop}
    (hc : X.calm = true) (hN : X.N.Nodup) (I : Inv X pins σ H s) (hi : PI X tg iter wi) (ok : BlkOk X.N X.env.scope scope own) (hv : ∀ i ∈ vs1, i ∈ own.map (·.2))
    (hg : ∀ (s : Shared) (H : Hp) (C : Addr) (cl : List (Str × Addr)) (ft : List Addr), PG (X.blk s H scope (compEnvC scope cl C X.env) ft) tg g) (ht : ∀ (s : Shared) (H : Hp) (C : Addr) (cl : List (Str × Addr)) (ft : List Addr), L2.PTs (X.blk s H scope (compEnvC scope cl C X.env) ft) ifs tt)
    (he : ∀ (s : Shared) (H : Hp) (C : Addr) (cl : List (Str × Addr)) (ft : List Addr), PE (X.blk s H scope (compEnvC scope cl C X.env) ft) kx tk) (he2 : ∀ (s : Shared) (H : Hp) (C : Addr) (cl : List (Str × Addr)) (ft : List Addr), PE (X.blk s H scope (compEnvC scope cl C X.env) ft) vx tv) (hs : ∀ x, foldedSetIterable iter X.env x = pure x)
    (hi1 : ∀ (s : Shared) (H : Hp) (C : Addr) (cl : List (Str × Addr)) (ft : List Addr), PI (X.blk s H scope (compEnvC scope cl C X.env) ft) tg1 iter1 wi1)
    (hg1 : ∀ (s : Shared) (H : Hp) (C : Addr) (cl : List (Str × Addr)) (ft : List Addr), PG (X.blk s H scope (compEnvC scope cl C X.env) ft) tg1 g1)
    (ht1 : ∀ (s : Shared) (H : Hp) (C : Addr) (cl : List (Str × Addr)) (ft : List Addr), L2.PTs (X.blk s H scope (compEnvC scope cl C X.env) ft) ifs1 tt1)
    (hs1 : ∀ env x, foldedSetIterable iter1 env x = pure x)
    (h : tDc2 wi g tt wi1 g1 tt1 tk tv (own.map (·.2)) vs1 σ H Q)
    (hRR : ∀ D C s' m H', Inv X pins σ H' s' → Q (.ref D) H' → s'.heap.Ns C m → FpOk X pins H' C → compPost (model X.prog X.w) X.A X.xe use Qf (.ref D) C (.ok .next) s') :
    wpAny (model X.prog X.w) X.A (comprehension (.DictComp kx vx [⟨tg, iter, ifs, 0⟩, ⟨tg1, iter1, ifs1, 0⟩] scope pos) scope X.env pos' newDict false (eval iter X.env) use) Qf X.xe s := by
  have hfr : ∀ y ∈ scope.names, y.2 = .free → ∃ c, X.env.cells.lookup y.1 = some c := fun y hy e => by
    rcases ok.free y hy e with k | k
    · exact I.ok.has _ (.inl k)
    · exact I.ok.has _ (.inr k)
  refine wpAny_comprehension_free (use := use) rfl hs (closure_ok hfr) ok.kind (fun y hy e => by rw [ok.uniq y hy, e])
    (thn (hi.run pins s σ H _ I h) fun xv z1 hx => thn hx fun itv z2 h2 => ?_)
  obtain ⟨it, ft, tn, J, H2, e, nv2, T, st2, f2, q⟩ := h2
  subst e
  refine wpAny_newObj_type (newEnv_comp ?_)
  generalize hD : z2.heap.objs.size = D
  have hDn : H2 D = none := nv2.hok.fresh (Nat.le_of_eq hD)
  obtain ⟨W, ⟨m0, w0⟩, turn⟩ := q D hDn
  -- the new list
  generalize hs3 : ({ z2 with heap := z2.heap.push { cls := .type "dict", data := .dict #[] } } : Shared) = z3
  have nv3 : Inv X pins σ (upd H2 D (.dK [])) z3 := by
    rw [← hs3]
    refine nv2.laid (t' := z2.toks) (fun b o e => Heap.get?_push_of_some _ e) (Nat.le_of_eq hD) ?_
    rw [← hD]
    exact dk_empty z2.heap nv2.big
  have h3 : z3.heap = z2.heap.push { cls := .type "dict", data := .dict #[] } := by rw [← hs3]
  have sz : ∀ b ∈ ft, b < z2.heap.objs.size := fun b hb => by
    obtain ⟨o, e, _⟩ := T.obj _ _ st2 b hb
    exact Heap.lt_size e
  have f3 : ∀ b ∈ ft, FpOk X pins (upd H2 D (.dK [])) b ∧ b < z3.heap.objs.size := fun b hb => by
    have hlt := sz b hb
    refine ⟨⟨?_, (f2 b hb).2⟩, by rw [h3, Heap.size_push]; exact Nat.lt_succ_of_lt hlt⟩
    rw [upd_ne (by rw [← hD]; exact Nat.ne_of_lt hlt)]
    exact (f2 b hb).1
  have st3 : tn 0 z3.heap := T.keep _ _ _ st2 fun b _ o e => by rw [h3]; exact Heap.get?_push_of_some _ e
  have nv4 := block_start nv3 ok hN f3
  have pg := hg z3 (upd H2 D (.dK [])) z3.heap.objs.size (cellsFrom (z3.heap.objs.size + 1) scope.names (cloFrom X.env.cells scope.names [])) ft
  have pt := ht z3 (upd H2 D (.dK [])) z3.heap.objs.size (cellsFrom (z3.heap.objs.size + 1) scope.names (cloFrom X.env.cells scope.names [])) ft
  have pe := he z3 (upd H2 D (.dK [])) z3.heap.objs.size (cellsFrom (z3.heap.objs.size + 1) scope.names (cloFrom X.env.cells scope.names [])) ft
  have pe2 := he2 z3 (upd H2 D (.dK [])) z3.heap.objs.size (cellsFrom (z3.heap.objs.size + 1) scope.names (cloFrom X.env.cells scope.names [])) ft
  have pi1 := hi1 z3 (upd H2 D (.dK [])) z3.heap.objs.size (cellsFrom (z3.heap.objs.size + 1) scope.names (cloFrom X.env.cells scope.names [])) ft
  have pg1 := hg1 z3 (upd H2 D (.dK [])) z3.heap.objs.size (cellsFrom (z3.heap.objs.size + 1) scope.names (cloFrom X.env.cells scope.names [])) ft
  have pt1 := ht1 z3 (upd H2 D (.dK [])) z3.heap.objs.size (cellsFrom (z3.heap.objs.size + 1) scope.names (cloFrom X.env.cells scope.names [])) ft
  show codeAny _ _ (.compStart (.DictComp kx vx [⟨tg, iter, ifs, 0⟩, ⟨tg1, iter1, ifs1, 0⟩] scope pos) 0 (.ref it) (.ref D) (compEnvC scope (cellsFrom (z3.heap.objs.size + 1) scope.names (cloFrom X.env.cells scope.names [])) z3.heap.objs.size X.env)) (compPost (model X.prog X.w) X.A X.xe use Qf (.ref D) z3.heap.objs.size) { z3 with heap := pushCells (z3.heap.push { cls := .type "dict", data := .dict #[] }) scope.names }
  have nfp : ∀ b ∈ ft, (upd H2 D (.dK [])) b = none := fun b hb => (f3 b hb).1.1
  generalize hce : compEnvC scope (cellsFrom (z3.heap.objs.size + 1) scope.names (cloFrom X.env.cells scope.names [])) z3.heap.objs.size X.env = ce at nv4 pg pt pe pe2 pi1 pg1 pt1 ⊢
  have cL : ce.locals = z3.heap.objs.size := by subst hce; rfl
  generalize hH3 : upd H2 D (.dK []) = H3 at nv3 nv4 pg pt pe pe2 pi1 pg1 pt1 w0 nfp f3
  generalize hs4 : ({ z3 with heap := pushCells (z3.heap.push { cls := .type "dict", data := .dict #[] }) scope.names } : Shared) = z4 at nv4 ⊢
  have st4 : tn 0 z4.heap := T.keep _ _ _ st3 fun b _ o e => by rw [← hs4]; exact pushCells_keeps _ _ _ _ (Heap.get?_push_of_some _ e)
  have stt : ∀ {σ' : L2.St} {H' : Hp} {s' : Shared}, Inv (X.blk z3 H3 scope ce ft) [] σ' H' s' → (∀ b ∈ ft, H' b = none) → ∀ b ∈ ft, FpOk (X.blk z3 H3 scope ce ft) [] H' b := fun {σ' H' s'} I' hn b hb =>
    ⟨hn b hb, (I'.ok.exf b hb).1, I'.ok.exfs b hb, .inl hb, fun x c e => (I'.ok.exf b hb).2 x c e, fun p hp => absurd (show p ∈ ([] : List (Addr × Obj)) ++ [] from hp) (by simp)⟩
  have loop : codeAny (model X.prog X.w) X.A (.compLoop (.DictComp kx vx [⟨tg, iter, ifs, 0⟩, ⟨tg1, iter1, ifs1, 0⟩] scope pos) 0 (.ref it) (.ref D) ce) (compPost (model X.prog X.w) X.A X.xe use Qf (.ref D) z3.heap.objs.size) z4 := by
    refine compLoop2_out (hs1 ce) (fun n s' => ∃ i H', Inv (X.blk z3 H3 scope ce ft) [] (wipe σ (own.map (·.2))) H' s' ∧ tn i s'.heap ∧ (∀ b ∈ ft, H' b = none) ∧ W i n H') ?_ m0 ⟨0, H3, nv4, st4, nfp, w0⟩
    rintro n z5 ⟨i, H5, nv5, st5, n5, w5⟩
    rcases turn i n H5 w5 with ⟨stop, qq⟩ | ⟨go, Nx, hNx, step⟩
    · have td := T.done (X.blk z3 H3 scope ce ft) rfl rfl rfl hc i [] z5 _ H5 (fun _ _ => False) nv5 (stt nv5 n5) st5 stop
      refine thnF td fun r z6 ⟨hr, nv6⟩ => ?_
      subst hr
      -- back in the def's context
      have nv7 : Inv X pins σ H5 z6 := nv3.call' (ch := ft) nv6.os nv6.base nv6.hok nv6.bare fun b hb => ⟨(f3 b hb).1.2.2.2.1, (f3 b hb).1.2.1, (f3 b hb).1.2.2.2.2.1, (f3 b hb).1.2.2.2.2.2⟩
      have nC : H5 z3.heap.objs.size = none := by
        have z : H5 ce.locals = none := nv6.free
        rw [cL] at z
        exact z
      obtain ⟨m, hn, _⟩ := nv6.loc
      have hn : z6.heap.Ns ce.locals m := hn
      rw [cL] at hn
      exact hRR D z3.heap.objs.size z6 m H5 nv7 qq hn (nv3.fpOk (Nat.le_refl _) nC)
    · have ti := T.item (X.blk z3 H3 scope ce ft) rfl rfl rfl hc i [] z5 _ H5 (fun _ _ => False) nv5 (stt nv5 n5) st5 go
      refine thnF ti fun r z6 ⟨u, hr, h6⟩ => ?_
      subst hr
      refine thnF h6 fun _ z7 ⟨x, H7, nv7, r7, y7, st7, n7⟩ => ?_
      have nv7' := nv7.pinned (stt nv7 n7) (T.obj _ _ st7)
      refine thnF (pg.run _ z7 _ H7 x u _ nv7' r7 (step x H7 y7)) fun _ z8 ⟨σ8, H8, nv8, hw8, q8⟩ => ?_
      refine thnF (pt.run _ z8 σ8 H8 _ nv8 q8) fun b z9 ⟨H9, nv9, q9⟩ => ?_
      -- the turn's end, from any slots that know what the block knew at its start
      have fen : ∀ {σ9 : L2.St} {s' : Shared} {H' : Hp}, Inv (X.blk z3 H3 scope ce ft) ([] ++ pinsAt ft z7.heap) σ9 H' s' → (wipe σ (own.map (·.2))).length = σ9.length → (∀ (j : Nat) v, (wipe σ (own.map (·.2)))[j]? = some (some v) → σ9[j]? = some (some v)) → Nx H' →
          ∃ m, m < n ∧ ∃ i H', Inv (X.blk z3 H3 scope ce ft) [] (wipe σ (own.map (·.2))) H' s' ∧ tn i s'.heap ∧ (∀ b ∈ ft, H' b = none) ∧ W i m H' := fun {σ9 s' H'} I' hl hk nx => by
        obtain ⟨m', hm, w'⟩ := hNx H' nx
        have pin' : ∀ b ∈ ft, ∀ o, z7.heap.get? b = some o → s'.heap.get? b = some o ∧ H' b = none := fun b hb o e =>
          let z := I'.pin (b, o) (List.mem_append_right _ (List.mem_append_right _ (mem_pinsAt hb e)))
          ⟨z.1, z.2.1⟩
        refine ⟨m', hm, i + 1, H', (I'.unpinned (pins := [])).weak hl hk, T.keep _ _ _ st7 fun b hb o e => (pin' b hb o e).1, fun b hb => ?_, w'⟩
        obtain ⟨o, e, _⟩ := T.obj _ _ st7 b hb
        exact (pin' b hb o e).2
      have hl8 : (wipe σ (own.map (·.2))).length = σ8.length := by rw [← hw8, wipe_length]
      have hk8 : ∀ (j : Nat) v, (wipe σ (own.map (·.2)))[j]? = some (some v) → σ8[j]? = some (some v) := fun j v e => by
        rw [← hw8] at e
        exact (wipe_some e).1
      have hk9 : ∀ (j : Nat) v, (wipe σ (own.map (·.2)))[j]? = some (some v) → (wipe σ8 vs1)[j]? = some (some v) := fun j v e => by
        rw [← hw8] at e
        obtain ⟨e1, e2⟩ := wipe_some e
        rw [wipe_out fun z => e2 (hv j z)]
        exact e1
      cases b with
      | false =>
        simp only [Bool.false_eq_true, if_false] at q9 ⊢
        exact fen nv9 hl8 hk8 q9
      | true =>
        simp only [if_true] at q9 ⊢
        refine thnF (pi1.run _ z9 σ8 H9 _ nv9 q9) fun xv z10 hx => thnF hx fun itv z11 h11 => ?_
        obtain ⟨it1, ft1, tn1, J1, H11, e1, nv11, T1, st11, f11, W1, ⟨m1, w1⟩, turn1⟩ := h11
        subst e1
        -- the inner loop
        have stt1 : ∀ {H' : Hp}, (∀ b ∈ ft1, H' b = none) → ∀ b ∈ ft1, FpOk (X.blk z3 H3 scope ce ft) ([] ++ pinsAt ft z7.heap) H' b := fun hn b hb => ⟨hn b hb, (f11 b hb).2⟩
        have loop1 : codeAny (model X.prog X.w) X.A (.compLoop (.DictComp kx vx [⟨tg, iter, ifs, 0⟩, ⟨tg1, iter1, ifs1, 0⟩] scope pos) 1 (.ref it1) (.ref D) ce)
            (fun r s' => match r with
              | .ok _ => ∃ m, m < n ∧ ∃ i H', Inv (X.blk z3 H3 scope ce ft) [] (wipe σ (own.map (·.2))) H' s' ∧ tn i s'.heap ∧ (∀ b ∈ ft, H' b = none) ∧ W i m H'
              | .error _ => False) z11 := by
          refine compLoop2_in (fun k s' => ∃ j H', Inv (X.blk z3 H3 scope ce ft) ([] ++ pinsAt ft z7.heap) (wipe σ8 vs1) H' s' ∧ tn1 j s'.heap ∧ (∀ b ∈ ft1, H' b = none) ∧ W1 j k H') ?_ m1 ⟨0, H11, nv11.weak (wipe_length _ _) (fun j v e => (wipe_some e).1), st11, fun b hb => (f11 b hb).1, w1⟩
          rintro k z12 ⟨j, H12, nv12, st12, n12, w12⟩
          rcases turn1 j k H12 w12 with ⟨stop1, nx1⟩ | ⟨go1, Nx1, hNx1, step1⟩
          · refine thnF (T1.done (X.blk z3 H3 scope ce ft) rfl rfl rfl hc j _ z12 (wipe σ8 vs1) H12 (fun _ _ => False) nv12 (stt1 n12) st12 stop1) fun r z13 ⟨hr, nv13⟩ => ?_
            subst hr
            exact fen nv13 (hl8.trans (wipe_length σ8 vs1).symm) hk9 nx1
          · refine thnF (T1.item (X.blk z3 H3 scope ce ft) rfl rfl rfl hc j _ z12 (wipe σ8 vs1) H12 (fun _ _ => False) nv12 (stt1 n12) st12 go1) fun r z13 ⟨u1, hr, h13⟩ => ?_
            subst hr
            refine thnF h13 fun _ z14 ⟨x1, H14, nv14, r14, y14, st14, n14⟩ => ?_
            have nv14' := nv14.pinned (stt1 n14) (T1.obj _ _ st14)
            refine thnF (pg1.run _ z14 (wipe σ8 vs1) H14 x1 u1 _ nv14' r14 (step1 x1 H14 y14)) fun _ z15 ⟨σ15, H15, nv15, hw15, q15⟩ => ?_
            refine thnF (pt1.run _ z15 σ15 H15 _ nv15 q15) fun b1 z16 ⟨H16, nv16, q16⟩ => ?_
            have fen1 : ∀ {s' : Shared} {H' : Hp}, Inv (X.blk z3 H3 scope ce ft) (([] ++ pinsAt ft z7.heap) ++ pinsAt ft1 z14.heap) σ15 H' s' → Nx1 H' → ∃ m, m < k ∧ ∃ j H', Inv (X.blk z3 H3 scope ce ft) ([] ++ pinsAt ft z7.heap) (wipe σ8 vs1) H' s' ∧ tn1 j s'.heap ∧ (∀ b ∈ ft1, H' b = none) ∧ W1 j m H' := fun {s' H'} I' nx => by
              obtain ⟨m', hm, w'⟩ := hNx1 H' nx
              have pin' : ∀ b ∈ ft1, ∀ o, z14.heap.get? b = some o → s'.heap.get? b = some o ∧ H' b = none := fun b hb o e =>
                let z := I'.pin (b, o) (List.mem_append_right _ (List.mem_append_right _ (mem_pinsAt hb e)))
                ⟨z.1, z.2.1⟩
              refine ⟨m', hm, j + 1, H', I'.unpinned.weak (by rw [← hw15, wipe_length]) (fun j v e => by rw [← hw15] at e; exact (wipe_some e).1), T1.keep _ _ _ st14 fun b hb o e => (pin' b hb o e).1, fun b hb => ?_, w'⟩
              obtain ⟨o, e, _⟩ := T1.obj _ _ st14 b hb
              exact (pin' b hb o e).2
            cases b1 with
            | false =>
              simp only [Bool.false_eq_true, if_false] at q16 ⊢
              exact fen1 nv16 q16
            | true =>
              simp only [if_true] at q16 ⊢
              refine thnF (pe.run _ z16 σ15 H16 _ nv16 q16) fun z z17 ⟨yk, H17, nv17, r17, q17⟩ => ?_
              refine thnF (pe2.run _ z17 σ15 H17 _ nv17 q17) fun z2 z18 ⟨yv, H18, nv18, r18, kvs, kk, ek, hD18, hz18, nx⟩ => ?_
              subst ek
              exact d_dictSet (X := X.blk z3 H3 scope ce ft) nv18 hD18 hz18 r17 r18 fun z19 nv19 => fen1 nv19 nx
        exact compStart1_ok loop1 (T1.self X.A 0 _ _ _ st11 loop1)
  exact codeAny_compStart_dict loop (T.self X.A 0 _ _ _ st4 loop)
/-- as a value -/
theorem pe_dc2 {kx vx tg iter tg1 iter1 : Expr} {ifs ifs1 : List Expr} {scope : Scope} {own : List (Str × Nat)} {vs1 : List Nat} {pos : Pos} {wi wi1 : TI} {g g1 : TG} {tt tt1 : TT} {tk tv : TE} (hc : X.calm = true) (hN : X.N.Nodup) (hi : PI X tg iter wi) (ok : BlkOk X.N X.env.scope scope own) (hv : ∀ i ∈ vs1, i ∈ own.map (·.2))
    (hg : InBlk X scope fun Y => PG Y tg g) (ht : InBlk X scope fun Y => L2.PTs Y ifs tt) (hk : InBlk X scope fun Y => PE Y kx tk) (he : InBlk X scope fun Y => PE Y vx tv) (hs : ∀ x, foldedSetIterable iter X.env x = pure x)
    (hi1 : InBlk X scope fun Y => PI Y tg1 iter1 wi1) (hg1 : InBlk X scope fun Y => PG Y tg1 g1) (ht1 : InBlk X scope fun Y => L2.PTs Y ifs1 tt1) (hs1 : ∀ env x, foldedSetIterable iter1 env x = pure x) :
    PE X (.DictComp kx vx [⟨tg, iter, ifs, 0⟩, ⟨tg1, iter1, ifs1, 0⟩] scope pos) (tDc2 wi g tt wi1 g1 tt1 tk tv (own.map (·.2)) vs1) := by
  refine ⟨fun pins s σ H Q I h => ?_⟩
  rw [arm_eval_DictComp]
  refine dc2_core hc hN I hi ok hv hg ht hk he hs hi1 hg1 ht1 hs1 h fun D C s' m H' I' q hn f => ⟨m, hn, fun h'' sb => ?_⟩
  obtain ⟨f0, f1, f2, f3, f4, f5⟩ := f
  exact ⟨.ref D, H', I'.turned (t' := s'.toks) (fun b o hb e => (sb.2 b hb).trans e) f0 f1 f3 f4 f5, rfl, q⟩
end
end Mi
end
section
set_option maxHeartbeats 1000000
/-! Mi21: dict comprehensions as readings. -/
namespace Mi
open PySem PySem.Spec PyProof.Rows L2
theorem putD_len (acc : List (Ky × Mi.D)) (k : Ky) (x : Mi.D) : (putD acc k x).length ≤ acc.length + 1 := by
  unfold putD
  split
  · simp
  · simp
def dAdd (p : Ky × Mi.D) (acc : List (Ky × Mi.D)) : List (Ky × Mi.D) := putD acc p.1 p.2
/-- key and value of a turn -/
def kvTurn (cl : Cl) (kx vx : IR) (env : Env) (mem : Mem) : Option (Option (Ky × Mi.D) × Mem) := bnd (evE cl kx env mem) fun k mem => bnd (evE cl vx env mem) fun v mem => match k, v with
  | .d k, .d v => (kyOf k).map fun k => (some (k, v), mem)
  | _, _ => none
def cTurn (cl : Cl) (cond kx vx : IR) (env : Env) (mem : Mem) : Option (Option (Ky × Mi.D) × Mem) := bnd (evE cl cond env mem) fun b mem => match b with
  | .d (.bl false) => some (none, mem)
  | .d (.bl true) => kvTurn cl kx vx env mem
  | _ => none
/-- one entry is put: from held vs on -/
theorem kv_ok {K : PySem.W.Frag} {cl : Cl} {kx vx : IR} {o1 o : Wo} {env : Env} {mem mem' : Mem} {σ : L2.St} {H : Hp} {Dl : Addr} {acc : List (Ky × Mi.D)} {vs : List (Key × V)} {q : Option (Ky × Mi.D)} {n : Nat} {Nx : Hp → Prop} (h : kvTurn cl kx vx env mem = some (q, mem')) (er : EnvR K o env σ) (sm : Sim K o mem H)
    (le : (o1.shut Dl (.dK vs)).Le o) (dr : DRk K o.G acc vs) (hn : acc.length ≤ n) (hl : n < lim)
    (hQ : ∀ H' o' vs' y, o.Lt o' → q = some y → (o1.shut Dl (.dK vs')).Le o' → Sim K o' mem' H' → DRk K o'.G (dAdd y acc) vs' → EnvR K o' env σ → Nx H') :
    tE K (evE cl kx) σ H fun y H4 => tE K (evE cl vx) σ H4 fun z H5 => ∃ kvs k, y = kV k ∧ H5 Dl = some (.dK kvs) ∧ kvs.length < sizeLine ∧ Nx (upd H5 Dl (.dK (putK kvs k z))) := by
  obtain ⟨kw, m1, e1, h⟩ := bnd_inv (show bnd (evE cl kx env mem) _ = _ from h)
  obtain ⟨vw, m2, e2, h⟩ := bnd_inv h
  refine ⟨env, mem, kw, m1, o, e1, er, sm, fun y H4 o4 l4 s4 r4 => ⟨env, m1, vw, m2, o4, e2, er.mono l4, s4, fun z H5 o5 l5 s5 r5 => ?_⟩⟩
  match kw, vw, h, r4, r5 with
  | .d kd, .d vd, h, r4, r5 =>
    obtain ⟨ky, e3, h⟩ := map_some_inv (show (kyOf kd).map (fun k => (some (k, vd), m2)) = some (q, mem') from h)
    obtain ⟨rfl, rfl⟩ := Prod.mk.inj h
    have le5 := le.trans (l4.trans l5)
    have lk : o5.lk Dl = some (.dK vs) := by rw [le5.lk, Wo.shut_same]
    have dr5 := DRk.mono (l4.trans l5).inc _ _ dr
    refine ⟨vs, ky.key, kyOf_rel e3 r4, (s5.lock Dl _ lk).1, ?_, hQ _ _ _ (ky, vd) ((l4.trans l5).lt.trans (Wo.shut_lt (by simp [lk]))) rfl (Wo.reshut (y := .dK (putK vs ky.key z)) le5) (s5.rehold lk fun od u w => by cases w) ?_ (EnvR.shut (er.mono (l4.trans l5)))⟩
    · rw [← dr.length]
      exact lim_line (by omega)
    · exact DRk.put dr5 ky r5
theorem free_lk {K : PySem.W.Frag} {o1 : Wo} {m1 : Mem} {H1 : Hp} {Dl : Addr} (s1 : Sim K o1 m1 H1) (hD : H1 Dl = none) : o1.lk Dl = none := by
  cases e : o1.lk Dl with
  | none => rfl
  | some x => exact absurd rfl (s1.lkFresh hD Dl x e)
theorem wipe_er {K : PySem.W.Frag} {o o' : Wo} {env : Env} {σ : L2.St} (lt : o.Lt o') (er : EnvR K o env σ) (own : List Nat) : EnvR K o' (wipeE env own) (wipe σ own) := by
  refine ⟨(er.wipe own).len, fun i w hw => ?_⟩
  obtain ⟨v, e1, r⟩ := (er.wipe own).get i w hw
  refine ⟨v, e1, ?_⟩
  cases w with
  | d x => exact DR.mono lt.inc x v r
  | r n => exact ⟨Nat.lt_of_lt_of_le r.1 lt.n, by rw [lt.at_ n r.1]; exact r.2⟩
theorem made_dct {K : PySem.W.Frag} {o1 o2 : Wo} {m1 mem : Mem} {H1 H : Hp} {Dl : Addr} {acc : List (Ky × Mi.D)} {vs : List (Key × V)} (s1 : Sim K o1 m1 H1) (hD : H1 Dl = none) (s2 : Sim K o2 mem H) (le : (o1.shut Dl (.dK vs)).Le o2) (dr : DRk K o2.G acc vs) :
    ∃ o', o1.Le o' ∧ Sim K o' mem H ∧ DR K o'.G (.dct acc) (.ref Dl) := by
  have lk : o2.lk Dl = some (.dK vs) := by rw [le.lk, Wo.shut_same]
  have nf : ∀ od u, HO.dK vs ≠ .frz od u := fun od u z => by cases z
  obtain ⟨sl, ll⟩ := s2.letGo hD s1 le lk nf
  have g0 : (o2.open_ o1).G Dl = none := by
    rcases (s2.lock Dl _ lk).2 with ⟨od, u, z⟩ | z
    · cases z
    · exact z.1
  exact ⟨_, ll, sl, .dct upd_same (DRk.mono (Wo.keep_le (ob := .dK vs) g0).inc _ _ dr)⟩
/-- one clause -/
theorem dc_loop {K : PySem.W.Frag} {cl : Cl} {own : List Nat} {i0 : Nat} {kx vx : IR} {J : It} {xs : List Mi.D} {ys : List (Ky × Mi.D)} {o1 : Wo} {env : Env} {σ : L2.St} {m1 m2 : Mem} {H1 : Hp} {Dl : Addr} {Qd : Hp → Prop} (w : WalkD K J xs o1)
    (ht : turns (fun x mem => kvTurn cl kx vx ((wipeE env own).set i0 (some (.d x))) mem) dAdd xs [] m1 = some (ys, m2)) (hl : xs.length < lim) (hown : i0 ∈ own) (er : EnvR K o1 env σ) (s1 : Sim K o1 m1 H1) (hD : H1 Dl = none)
    (hQ : ∀ H' o', o1.Le o' → Sim K o' m2 H' → DR K o'.G (.dct ys) (.ref Dl) → Qd H') :
    ∃ W : Nat → Nat → Hp → Prop, (∃ m, W 0 m (upd H1 Dl (.dK []))) ∧ ∀ i m H, W i m H →
      (J.stop i H ∧ Qd H) ∨ (J.go i H ∧ ∃ Nx : Hp → Prop, (∀ H', Nx H' → ∃ m', m' < m ∧ W (i + 1) m' H') ∧ ∀ x H', J.yld i H x H' → gTg K (.nm i0) x (wipe σ own) H' fun σ2 H2 => wipe σ2 own = wipe σ own ∧ tYes σ2 H2 fun b H3 =>
        if b = true then tE K (evE cl kx) σ2 H3 fun y H4 => tE K (evE cl vx) σ2 H4 fun z H5 => ∃ kvs k, y = kV k ∧ H5 Dl = some (.dK kvs) ∧ kvs.length < sizeLine ∧ Nx (upd H5 Dl (.dK (putK kvs k z))) else Nx H3) := by
  have free := free_lk s1 hD
  let R : Nat → Hp → Prop := fun i H => ∃ mem acc vs o', (o1.shut Dl (.dK vs)).Le o' ∧ Sim K o' mem H ∧ DRk K o'.G acc vs ∧ acc.length ≤ i ∧ turns (fun x mem => kvTurn cl kx vx ((wipeE env own).set i0 (some (.d x))) mem) dAdd (xs.drop i) acc mem = some (ys, m2)
  refine ⟨fun i m H => m = xs.length - i ∧ i ≤ xs.length ∧ R i H, ⟨_, rfl, Nat.zero_le _, m1, [], [], _, Wo.Le.refl _, s1.hold hD, .nil, Nat.zero_le _, ht⟩, ?_⟩
  rintro i m H ⟨rfl, hi, mem, acc, vs, o2, le, s2, dr, hal, ht⟩
  have lt : o1.Lt o2 := (Wo.shut_lt (by simp [free])).trans le.lt
  by_cases hlt : i < xs.length
  · refine .inr ⟨w.go i mem H o2 lt s2 hlt, R (i + 1), fun H' q => ⟨xs.length - (i + 1), by omega, rfl, hlt, q⟩, fun v H' hy => ?_⟩
    obtain ⟨o3, l3, s3, r3⟩ := w.yld i mem H o2 xs[i] v H' lt s2 (List.getElem?_eq_getElem hlt) hy
    rw [List.drop_eq_getElem_cons hlt] at ht
    obtain ⟨q, m3, g1, ht⟩ := bnd_inv (show bnd (kvTurn cl kx vx ((wipeE env own).set i0 (some (.d xs[i]))) mem) _ = _ from ht)
    have er3 := wipe_er (lt.trans l3.lt) er own
    refine tg_ok (tg := .nm i0) rfl er3 s3 r3 fun σ2 er2 hw => ⟨(hw own fun j hj => by simp [tgIx] at hj; rw [hj]; exact hown).trans (wipe_wipe fun _ z => z), ?_⟩
    refine kv_ok (o1 := o1) g1 er2 s3 (le.trans l3) (DRk.mono l3.inc _ _ dr) hal (by omega) fun H6 o6 vs6 y _ eq le6 s6 dr6 _ => ?_
    subst eq
    refine ⟨m3, dAdd y acc, vs6, o6, le6, s6, dr6, ?_, ht⟩
    have := putD_len acc y.1 y.2
    show (putD acc y.1 y.2).length ≤ i + 1
    omega
  · have ei : i = xs.length := by omega
    subst ei
    rw [List.drop_length] at ht
    cases (show some (acc, mem) = some (ys, m2) from ht)
    obtain ⟨o', l', s', r'⟩ := made_dct s1 hD s2 le dr
    exact .inl ⟨w.stop _ H o2 lt s2, hQ H o' l' s' r'⟩
section
variable {X : Cx} {e a b kxe vxe iter te te1 iter1 ce : Expr} {f g : FE} {pos p : Pos} {k : Nat} {N : List Str} {sc scope : Scope} {cl : Cl}
theorem s_dc1 (c : Ct k N sc cl X) {own : List (Str × Nat)} {i0 : Nat} {it kx vx : IR} (hi : Snd X iter (evE cl it)) (ok : BlkOk N sc scope own) (hown : i0 ∈ own.map (·.2)) (hs : notSet iter = true)
    (hg : InBlk X scope fun Y => PG Y te (gTg X.K (.nm i0))) (hk : InBlk X scope fun Y => PE Y kxe (tE X.K (evE cl kx))) (he : InBlk X scope fun Y => PE Y vxe (tE X.K (evE cl vx))) : PE X (.DictComp kxe vxe [⟨te, iter, [], 0⟩] scope pos) (tE X.K (evE cl (.dc1 (own.map (·.2)) i0 it kx vx))) :=
  pe_imp (pe_dc c.calm (by rw [c.n]; exact c.nd) (i_e hi) (by rw [c.n, c.scp]; exact ok) hg (fun _ _ _ _ _ => pts_nil) hk he (folded hs X.env)) fun σ H Q h => by
    obtain ⟨env, mem, w, mem', o, hf, er, sm, hQ⟩ := h
    obtain ⟨u, m1, e1, hf⟩ := bnd_inv (show bnd (evE cl it env mem) _ = _ from hf)
    obtain ⟨xs, e2, hf⟩ := bind_some_inv hf
    obtain ⟨ys, m2, e3, hf⟩ := bnd_inv hf
    by_cases hl : xs.length < lim
    case neg => rw [if_neg hl] at hf; cases hf
    rw [if_pos hl] at hf
    cases hf
    refine ⟨env, mem, [u], m1, o, xs, ?_, er, sm, ?_, fun J H1 o1 l1 s1 wk D hD => dc_loop wk e3 hl hown (er.mono l1) s1 hD fun H' o' l' s' r => hQ (.ref D) H' o' (l1.trans l') s' r⟩
    · show bnd (evE cl it env mem) _ = _
      rw [e1]
      rfl
    · match u, e2 with
      | .d (.lst zs), e2 => exact e2
      | .d (.tup zs), e2 => exact e2
/-- two clauses, one turn of the first -/
theorem s_dc2 (c : Ct k N sc cl X) {own : List (Str × Nat)} {i0 j0 : Nat} {it it2 cond kx vx : IR} (hi : Snd X iter (evE cl it)) (ok : BlkOk N sc scope own) (hi0 : i0 ∈ own.map (·.2)) (hj0 : j0 ∈ own.map (·.2)) (hs : notSet iter = true) (hs1 : notSet iter1 = true)
    (hg : InBlk X scope fun Y => PG Y te (gTg X.K (.nm i0))) (hi1 : InBlk X scope fun Y => Snd Y iter1 (evE cl it2)) (hg1 : InBlk X scope fun Y => PG Y te1 (gTg X.K (.nm j0))) (hc : InBlk X scope fun Y => Snd Y ce (evE cl cond))
    (hk : InBlk X scope fun Y => PE Y kxe (tE X.K (evE cl kx))) (he : InBlk X scope fun Y => PE Y vxe (tE X.K (evE cl vx))) :
    PE X (.DictComp kxe vxe [⟨te, iter, [], 0⟩, ⟨te1, iter1, [ce], 0⟩] scope pos) (tE X.K (evE cl (.dc2 (own.map (·.2)) i0 j0 it it2 cond kx vx))) := by
  refine pe_imp (pe_dc2 (vs1 := [j0]) c.calm (by rw [c.n]; exact c.nd) (i_e hi) (by rw [c.n, c.scp]; exact ok) (fun i hh => by rw [List.mem_singleton.mp hh]; exact hj0) hg (fun _ _ _ _ _ => pts_nil) hk he (folded hs X.env) (wi1 := iD X.K .e (evEs cl [it2])) (fun s H C cs fp => i_e (hi1 s H C cs fp)) hg1 (tt1 := tCs X.K (evC cl [cond])) (fun s H C cs fp => c_one (hc s H C cs fp)) (folded hs1)) fun σ H Q h => ?_
  obtain ⟨env, mem, w, mem', o, hf, er, sm, hQ⟩ := h
  obtain ⟨u, m1, e1, hf⟩ := bnd_inv (show bnd (evE cl it env mem) _ = _ from hf)
  obtain ⟨xs, e2, hf⟩ := bind_some_inv hf
  have hx : evEs cl [it] env mem = some ([u], m1) := by
    show bnd (evE cl it env mem) _ = _
    rw [e1]
    rfl
  have hsq : ∀ {u : W} {xs : List Mi.D}, seqD u = some xs → itemsD .e [u] = some xs := fun {u xs} e => by
    match u, e with
    | .d (.lst zs), e => exact e
    | .d (.tup zs), e => exact e
  match xs, hf, e2 with
  | [y0], hf, e2 =>
    obtain ⟨u2, m2, g1, hf⟩ := bnd_inv (show bnd (evE cl it2 ((wipeE env (own.map (·.2))).set i0 (some (.d y0))) m1) _ = _ from hf)
    obtain ⟨xs, g2, hf⟩ := bind_some_inv hf
    obtain ⟨ys, m3, g3, hf⟩ := bnd_inv hf
    have g3 : turns (fun x mem => cTurn cl cond kx vx (((wipeE env (own.map (·.2))).set i0 (some (.d y0))).set j0 (some (.d x))) mem) dAdd xs [] m2 = some (ys, m3) := g3
    by_cases hl : xs.length < lim
    case neg => rw [if_neg hl] at hf; cases hf
    rw [if_pos hl] at hf
    obtain ⟨rfl, rfl⟩ := Prod.mk.inj (Option.some.inj hf)
    refine ⟨env, mem, [u], m1, o, [y0], hx, er, sm, hsq e2, fun J H1 o1 l1 s1 wk Dl hD => ?_⟩
    have free := free_lk s1 hD
    have er1 := er.mono l1
    refine ⟨fun i m H => m = 1 - i ∧ i ≤ 1 ∧ (i = 0 → ∃ o', (o1.shut Dl (.dK [])).Le o' ∧ Sim X.K o' m1 H) ∧ (i = 1 → ∃ vs o', (o1.shut Dl (.dK vs)).Le o' ∧ Sim X.K o' m3 H ∧ DRk X.K o'.G ys vs),
      ⟨1, rfl, Nat.zero_le _, fun _ => ⟨_, Wo.Le.refl _, s1.hold hD⟩, fun z => by cases z⟩, ?_⟩
    rintro i m H ⟨rfl, hi, q0, q1⟩
    by_cases h0 : i = 1
    · subst h0
      obtain ⟨vs, o2, le, s2, dr⟩ := q1 rfl
      have lt : o1.Lt o2 := (Wo.shut_lt (by simp [free])).trans le.lt
      obtain ⟨o', l', s', r'⟩ := made_dct s1 hD s2 le dr
      exact .inl ⟨wk.stop _ H o2 lt s2, hQ _ H o' (l1.trans l') s' r'⟩
    · have h0 : i = 0 := by omega
      subst h0
      obtain ⟨o2, le, s2⟩ := q0 rfl
      have lt : o1.Lt o2 := (Wo.shut_lt (by simp [free])).trans le.lt
      refine .inr ⟨wk.go 0 m1 H o2 lt s2 Nat.zero_lt_one, fun H' => ∃ vs o', (o1.shut Dl (.dK vs)).Le o' ∧ Sim X.K o' m3 H' ∧ DRk X.K o'.G ys vs, fun H' z => ⟨0, Nat.zero_lt_one, rfl, Nat.le_refl _, fun z => (by cases z), fun _ => z⟩, fun v H' hy => ?_⟩
      obtain ⟨o3, l3, s3, r3⟩ := wk.yld 0 m1 H o2 y0 v H' lt s2 rfl hy
      have er3 := wipe_er (lt.trans l3.lt) er1 (own.map (·.2))
      refine tg_ok (tg := .nm i0) rfl er3 s3 r3 fun σ2 er2 hw => ⟨(hw _ fun j hj => by simp [tgIx] at hj; rw [hj]; exact hi0).trans (wipe_wipe fun _ z => z), ?_⟩
      have hx2 : evEs cl [it2] ((wipeE env (own.map (·.2))).set i0 (some (.d y0))) m1 = some ([u2], m2) := by
        show bnd (evE cl it2 _ m1) _ = _
        rw [g1]
        rfl
      refine ⟨_, m1, [u2], m2, o3, xs, hx2, er2, s3, hsq g2, fun J1 H4 o4 l4 s4 wk1 => ?_⟩
      let F := fun (x : Mi.D) (mem : Mem) => cTurn cl cond kx vx (((wipeE env (own.map (·.2))).set i0 (some (.d y0))).set j0 (some (.d x))) mem
      let R : Nat → Hp → Prop := fun i H => ∃ mem acc vs o', (o1.shut Dl (.dK vs)).Le o' ∧ o4.Lt o' ∧ Sim X.K o' mem H ∧ DRk X.K o'.G acc vs ∧ acc.length ≤ i ∧ turns F dAdd (xs.drop i) acc mem = some (ys, m3)
      refine ⟨fun i m H => m = xs.length - i ∧ i ≤ xs.length ∧ R i H, ⟨_, rfl, Nat.zero_le _, m2, [], [], o4, le.trans (l3.trans l4), Wo.Lt.refl _, s4, .nil, Nat.zero_le _, g3⟩, ?_⟩
      rintro i m H5 ⟨rfl, hi5, mem5, acc, vs, o5, le5, lt5, s5, dr, hal, ht⟩
      by_cases hlt : i < xs.length
      · refine .inr ⟨wk1.go i mem5 H5 o5 lt5 s5 hlt, R (i + 1), fun H' q => ⟨xs.length - (i + 1), by omega, rfl, hlt, q⟩, fun v1 H6 hy1 => ?_⟩
        obtain ⟨o6, l6, s6, r6⟩ := wk1.yld i mem5 H5 o5 xs[i] v1 H6 lt5 s5 (List.getElem?_eq_getElem hlt) hy1
        rw [List.drop_eq_getElem_cons hlt] at ht
        obtain ⟨q, m7, g4, ht⟩ := bnd_inv (show bnd (F xs[i] mem5) _ = _ from ht)
        have er6 : EnvR X.K o6 (((wipeE env (own.map (·.2))).set i0 (some (.d y0))).set j0 none) (wipe σ2 [j0]) := by
          have lt36 : o3.Lt o6 := l4.lt.trans (lt5.trans l6.lt)
          exact wipe_er lt36 er2 [j0]
        refine tg_ok (tg := .nm j0) rfl er6 s6 r6 fun σ3 er3' hw3 => ⟨(hw3 [j0] fun j hj => hj).trans (wipe_wipe fun _ z => z), ?_⟩
        rw [List.set_set] at er3'
        obtain ⟨bw, m8, g5, g4⟩ := bnd_inv (show bnd (evE cl cond _ mem5) _ = _ from g4)
        match bw, g4, g5 with
        | .d (.bl bb), g4, g5 =>
          refine ⟨_, mem5, bb, m8, o6, ?_, er3', s6, fun H7 o7 l7 s7 => ?_⟩
          · show bnd (evE cl cond _ mem5) _ = _
            rw [g5]
            rfl
          · have le7 := le5.trans (l6.trans l7)
            have dr7 := DRk.mono (l6.trans l7).inc _ _ dr
            have lt7 := lt5.trans (l6.trans l7).lt
            cases bb with
            | false =>
              cases (show some (none, m8) = some (q, m7) from g4)
              exact ⟨_, acc, vs, o7, le7, lt7, s7, dr7, by omega, ht⟩
            | true =>
              refine kv_ok (o1 := o1) (show kvTurn cl kx vx _ m8 = some (q, m7) from g4) (er3'.mono l7) s7 le7 dr7 hal (by omega) fun H8 o8 vs8 y l8 eq le8 s8 dr8 _ => ?_
              subst eq
              refine ⟨m7, dAdd y acc, vs8, o8, le8, lt7.trans l8, s8, dr8, ?_, ht⟩
              have := putD_len acc y.1 y.2
              show (putD acc y.1 y.2).length ≤ i + 1
              omega
      · have ei : i = xs.length := by omega
        subst ei
        rw [List.drop_length] at ht
        cases (show some (acc, mem5) = some (ys, m3) from ht)
        exact .inl ⟨wk1.stop _ H5 o5 lt5 s5, vs, o5, le5, s5, dr⟩
end
end Mi
end
section
set_option maxHeartbeats 1000000
/-! Mi22: that an expression's form is the one of the small language, by a check; what is checked may be read. -/
namespace Mi
open PySem PySem.Spec PyProof.Rows L2
def visB (sc : Scope) (x : Str) : Bool := decide (sc.names.lookup x = some NameKind.local) || (decide (sc.names.lookup x = some NameKind.cell) || decide (sc.names.lookup x = some NameKind.free))
theorem visB_ok {sc : Scope} {x : Str} (h : visB sc x = true) : Vis sc x := by
  unfold visB at h
  rw [Bool.or_eq_true, Bool.or_eq_true, decide_eq_true_eq, decide_eq_true_eq, decide_eq_true_eq] at h
  exact h
def ddB (x : Str) : Bool := !(x == ("__debug__" : Str)) && !(x == ("__classdict__" : Str))
def chkC : Mi.D → Expr → Bool
  | .int i, .Constant (.int j) _ _ => decide (i = j)
  | .bl b, .Constant (.bool c) _ _ => b == c
  | .non, .Constant .none _ _ => true
  | .str x, .Constant (.str y) _ _ => decide (S.str x = y)
  | _, _ => false
def ownOf (N : List Str) (own : List Nat) : List (Str × Nat) := own.filterMap fun i => N[i]?.map fun x => (x, i)
def blkB (N : List Str) (sc scope : Scope) (own : List Nat) (tgs : List Nat) : Bool := decide ((ownOf N own).map (·.2) = own) && (blkC N sc scope (ownOf N own) && tgs.all fun i => decide (i ∈ own))
def isTupE : Expr → Bool
  | .Tuple _ _ _ => true
  | _ => false
/-- what a for's source is made of -/
def itArgs (sc : Scope) (te : Expr) : ItK → Expr → Option (List Expr)
  | .e, it => if notSet it then some [it] else none
  | .range, .Call (.Name n _) [e] [] _ => if decide (n = "range") && isGl sc "range" then some [e] else none
  | .zip, .Call (.Name n _) es [] _ => if decide (n = "zip") && (isGl sc "zip" && (isTupE te && (es.length == 2 || es.length == 3))) then some es else none
  | _, _ => none
mutual
def chkE (N : List Str) (sc : Scope) : IR → Expr → Bool
  | .bad, _ => true
  | .var i, e => match e with
    | .Name x _ => decide (N[i]? = some x) && (visB sc x && ddB x)
    | _ => false
  | .con d, e => chkC d e
  | .glob k, e => match e with
    | .Name x _ => decide (x = gnm k) && (isGl sc x && ((globD k).isSome && ddB x))
    | _ => false
  | .tup es, e => match e with
    | .Tuple as _ _ => chkEs N sc es as && decide (es.length ≤ 1000)
    | _ => false
  | .lstF es, e => match e with
    | .List as _ => chkEs N sc es as && decide (es.length ≤ 1000)
    | _ => false
  | .lstM es, e => match e with
    | .List as _ => chkEs N sc es as && decide (es.length ≤ 1000)
    | _ => false
  | .dctM, e => match e with
    | .Dict [] [] _ => true
    | _ => false
  | .call f es, e => match e with
    | .Call (.Name x _) as [] _ => decide (fnm f = some x) && (isGl sc x && (ddB x && chkEs N sc es as))
    | _ => false
  | .callK f ks es, e => match e with
    | .Call (.Name x _) [] kws _ => decide (fnm f = some x) && (isGl sc x && (ddB x && (chkEs N sc es (kws.map (·.value)) && ((f == 38 || f == 39) && (decide (ks = (List.range es.length).reverse) && ((es.length == 4 || es.length == 5) &&
        decide (kws.map (·.arg) = (parOf f).reverse.map some)))))))
    | _ => false
  | .blt b x, e => match b, e with
    | .dictEnum, .Call (.Name n _) [.Call (.Name m _) [a] [] _] [] _ => decide (n = "dict") && (decide (m = "enumerate") && (isGl sc "dict" && (isGl sc "enumerate" && (notStar a && chkE N sc x a))))
    | b, .Call (.Name n _) [a] [] _ => decide (b ≠ .dictEnum) && (decide (n = bnm b) && (isGl sc (bnm b) && (notStar a && chkE N sc x a)))
    | _, _ => false
  | .meth m o es, e => match m, e with
    | .split, .Call (.Attribute a n q) [.Constant (.str z) _ _] [] p => decide (n = "split") && (decide (z = blank) && (es.isEmpty && (baseOk a && ((q.endLine == p.line) && chkE N sc o a))))
    | .splitq, .Call (.Attribute a n q) [.Constant (.str z) _ _] [] p => decide (n = "split") && (decide (z = blankEq) && (es.isEmpty && (baseOk a && ((q.endLine == p.line) && chkE N sc o a))))
    | m, .Call (.Attribute a n q) as [] p => decide (m ≠ .split ∧ m ≠ .splitq) && (decide (n = mnm m) && (decide (as.length ≤ 5) && (baseOk a && ((q.endLine == p.line) && (chkE N sc o a && chkEs N sc es as)))))
    | _, _ => false
  | .bin op x y, e => match e with
    | .BinOp a o b _ => decide (o = bopO op) && (chkE N sc x a && chkE N sc y b)
    | _ => false
  | .neg x, e => match e with
    | .UnaryOp .USub a _ => chkE N sc x a
    | _ => false
  | .cmp op x y, e => match e with
    | .Compare a [o] [b] _ => decide (o = copO op) && (notSet b && (chkE N sc x a && chkE N sc y b))
    | _ => false
  | .repr neq x y, e => match e with
    | .Compare (.Call (.Name n _) [a] [] _) [o] [.Call (.Name m _) [b] [] _] _ => decide (n = "repr") && (decide (m = "repr") && (decide (o = if neq then .NotEq else .Eq) && (isGl sc "repr" && (notStar a && (notStar b && (chkE N sc x a && chkE N sc y b))))))
    | _ => false
  | .inMade x, e => match e with
    | .Compare a [.In] [.Name n _] _ => decide (n = "MADE") && (isGl sc "MADE" && chkE N sc x a)
    | _ => false
  | .made x, e => match e with
    | .Subscript (.Name n _) a _ => decide (n = "MADE") && (isGl sc "MADE" && (notSlice a && chkE N sc x a))
    | _ => false
  | .andL es, e => match e with
    | .BoolOp .And as _ => chkEs N sc es as && !es.isEmpty
    | _ => false
  | .orL es, e => match e with
    | .BoolOp .Or as _ => chkEs N sc es as && !es.isEmpty
    | _ => false
  | .not x, e => match e with
    | .UnaryOp .Not a _ => chkE N sc x a
    | _ => false
  | .ite x y z, e => match e with
    | .IfExp c a b _ => chkE N sc x c && (chkE N sc y a && chkE N sc z b)
    | _ => false
  | .ix x y, e => match e with
    | .Subscript a b _ => notSlice b && (chkE N sc x a && chkE N sc y b)
    | _ => false
  | .slc x lo hi, e => match e with
    | .Subscript a (.Slice l h none _) _ => chkE N sc x a && (chkO N sc lo l && chkO N sc hi h)
    | _ => false
  | .rev x, e => match e with
    | .Subscript a (.Slice none none (some (.UnaryOp .USub (.Constant (.int 1) _ _) _)) _) _ => chkE N sc x a
    | _ => false
  | .revM x, e => match e with
    | .Subscript a (.Slice none none (some (.UnaryOp .USub (.Constant (.int 1) _ _) _)) _) _ => chkE N sc x a
    | _ => false
  | .lc own tg kd its cond elt, e => match e with
    | .ListComp el [⟨te, it, ifs, 0⟩] scope _ => (match itArgs sc te kd it with
        | some as => chkEs N sc its as
        | none => false) && (blkB N sc scope own (tgIx tg) && (chkTg N (isOwn (relS scope sc)) tg te && (chkEs N (relS scope sc) cond ifs && (decide (cond.length ≤ 1) && chkE N (relS scope sc) elt el))))
    | _ => false
  | .dc1 own i it kx vx, e => match e with
    | .DictComp k v [⟨te, ie, [], 0⟩] scope _ => notSet ie && (chkE N sc it ie && (blkB N sc scope own [i] && (chkTg N (isOwn (relS scope sc)) (.nm i) te && (chkE N (relS scope sc) kx k && chkE N (relS scope sc) vx v))))
    | _ => false
  | .dc2 own i j it it2 cond kx vx, e => match e with
    | .DictComp k v [⟨te, ie, [], 0⟩, ⟨te1, ie1, [c], 0⟩] scope _ => notSet ie && (notSet ie1 && (chkE N sc it ie && (blkB N sc scope own [i, j] && (chkTg N (isOwn (relS scope sc)) (.nm i) te && (chkTg N (isOwn (relS scope sc)) (.nm j) te1 &&
        (chkE N (relS scope sc) it2 ie1 && (chkE N (relS scope sc) cond c && (chkE N (relS scope sc) kx k && chkE N (relS scope sc) vx v))))))))
    | _ => false
def chkEs (N : List Str) (sc : Scope) : List IR → List Expr → Bool
  | [], as => as.isEmpty
  | x :: r, as => match as with
    | e :: es => notStar e && (chkE N sc x e && chkEs N sc r es)
    | [] => false
def chkO (N : List Str) (sc : Scope) : Option IR → Option Expr → Bool
  | none, a => a.isNone
  | some x, a => match a with
    | some e => chkE N sc x e
    | none => false
end

/-! ### what is checked may be read -/
def Snds (X : Cx) (cl : Cl) : List IR → List Expr → Prop
  | [], [] => True
  | x :: r, e :: es => notStar e = true ∧ Snd X e (evE cl x) ∧ Snds X cl r es
  | _, _ => False
section
variable {X : Cx} {e a b elt iter te : Expr} {f g : FE} {pos p : Pos} {k : Nat} {N : List Str} {sc scope : Scope} {cl : Cl}
theorem snds_pa : ∀ {xs : List IR} {es : List Expr}, Snds X cl xs es → PA X es (tAs X.K (evEs cl xs)) ∧ noStar es = true ∧ xs.length = es.length
  | [], [], _ => ⟨s_nil, rfl, rfl⟩
  | x :: r, e :: es, h => by
    obtain ⟨h1, h2, h3⟩ := h
    obtain ⟨q1, q2, q3⟩ := snds_pa h3
    refine ⟨s_cons h2 q1 h1, ?_, by simp [q3]⟩
    unfold noStar
    rw [List.all_cons, h1]
    exact q2
  | [], _ :: _, h => h.elim
  | _ :: _, [], h => h.elim
theorem snds_bool {isAnd : Bool} : ∀ {xs : List IR} {es : List Expr}, Snds X cl xs es → xs ≠ [] → PE X (.BoolOp (BoolK isAnd) es pos) (tE X.K (evB isAnd cl xs)) ∧ PW X (.BoolOp (BoolK isAnd) es pos) (tTs X.K (evB isAnd cl xs))
  | [], _, _, h => absurd rfl h
  | [x], [e], h, _ => s_bool1 h.2.1
  | x :: y :: r, e :: e2 :: es, h, _ => s_bool2 h.2.1 (snds_bool (xs := y :: r) (es := e2 :: es) h.2.2 (by simp))
  | [x], [], h, _ => h.elim
  | [x], _ :: _ :: _, h, _ => h.2.2.elim
  | _ :: _ :: _, [], h, _ => h.elim
  | _ :: _ :: _, [_], h, _ => h.2.2.elim
theorem snds_kw : ∀ {xs : List IR} {kws : List Keyword}, Snds X cl xs (kws.map (·.value)) → PK X kws (tAs X.K (evEs cl xs))
  | [], [], _ => k_nil
  | x :: r, ⟨n, v, q⟩ :: kws, h => k_cons h.2.1 (snds_kw h.2.2)
  | [], _ :: _, h => h.elim
  | _ :: _, [], h => h.elim
theorem own_ok {own tgs : List Nat} (h : blkB N sc scope own tgs = true) : (ownOf N own).map (·.2) = own ∧ BlkOk N sc scope (ownOf N own) ∧ ∀ i ∈ tgs, i ∈ own := by
  unfold blkB at h
  rw [Bool.and_eq_true, Bool.and_eq_true, decide_eq_true_eq] at h
  exact ⟨h.1, blkOk_by h.2.1, fun i hi => of_decide_eq_true (List.all_eq_true.mp h.2.2 i hi)⟩
theorem chkC_ok {d : Mi.D} (h : chkC d e = true) : Snd X e (evE cl (.con d)) := by
  match d, e, h with
  | .int i, .Constant (.int j) q r, h =>
    cases of_decide_eq_true (show decide (i = j) = true from h)
    exact s_const pe_int (fun _ => .int _) rfl
  | .bl b, .Constant (.bool c) q r, h =>
    cases eq_of_beq (show (b == c) = true from h)
    exact s_const pe_bl (fun _ => .bl _) rfl
  | .non, .Constant .none q r, h => exact s_const pe_non (fun _ => .non) rfl
  | .str x, .Constant (.str y) q r, h =>
    cases of_decide_eq_true (show decide (S.str x = y) = true from h)
    exact s_const pe_str (fun _ => .str _) rfl
/-- what a for walks -/
theorem it_ok (c : Ct k N sc cl X) {kd : ItK} {its : List IR} {as : List Expr} (h : itArgs sc te kd iter = some as) (hs : Snds X cl its as) : PI X te iter (iD X.K kd (evEs cl its)) := by
  obtain ⟨pa, ns, hl⟩ := snds_pa hs
  cases kd with
  | e =>
    have h : (if notSet iter then some [iter] else none) = some as := by
      cases iter <;> exact h
    split at h
    · cases h
      match its, hs with
      | [x], hs => exact i_e hs.2.1
      | x :: y :: r, hs => exact hs.2.2.elim
    · cases h
  | range =>
    unfold itArgs at h
    split at h
    case h_1 hh => exact absurd hh (by simp)
    case h_2 n q e' r hh =>
      split at h
      · rename_i hc
        cases h
        rw [Bool.and_eq_true, decide_eq_true_eq] at hc
        cases hc.1
        match its, hs with
        | [x], hs => exact i_range c hc.2 pa hs.1
        | x :: y :: r, hs => exact hs.2.2.elim
      · cases h
    case h_3 hh => exact absurd hh (by simp)
    case h_4 => cases h
  | zip =>
    unfold itArgs at h
    split at h
    case h_1 hh => exact absurd hh (by simp)
    case h_2 hh => exact absurd hh (by simp)
    case h_3 n q es r hh =>
      split at h
      · rename_i hc
        cases h
        simp only [Bool.and_eq_true, decide_eq_true_eq, Bool.or_eq_true, beq_iff_eq] at hc
        obtain ⟨rfl, hg, ht, hlen⟩ := hc
        cases te with
        | Tuple elts kk tp =>
          rcases hlen with h2 | h3
          · match as, its, hs, h2 with
            | [e1, e2], [x, y], hs, _ => exact i_zip2 c hg pa hs.1 hs.2.2.1 rfl
            | [e1, e2], [], hs, _ => exact hs.elim
            | [e1, e2], [x], hs, _ => exact hs.2.2.elim
            | [e1, e2], x :: y :: z :: r, hs, _ => exact hs.2.2.2.2.elim
          · match as, its, hs, h3 with
            | [e1, e2, e3], [x, y, z], hs, _ => exact i_zip3 c hg pa hs.1 hs.2.2.1 hs.2.2.2.2.1 rfl
            | [e1, e2, e3], [], hs, _ => exact hs.elim
            | [e1, e2, e3], [x], hs, _ => exact hs.2.2.elim
            | [e1, e2, e3], [x, y], hs, _ => exact hs.2.2.2.2.elim
            | [e1, e2, e3], x :: y :: z :: w :: r, hs, _ => exact hs.2.2.2.2.2.2.elim
        | _ => exact absurd ht (by simp [isTupE])
      · cases h
    case h_4 => cases h
theorem it_notSet {kd : ItK} {as : List Expr} (h : itArgs sc te kd iter = some as) : notSet iter = true := by
  unfold itArgs at h
  split at h
  · split at h
    · assumption
    · cases h
  · rfl
  · rfl
  · cases h
end
end Mi
end
section
set_option maxHeartbeats 4000000
/-! Mi23: every checked expression may be read. -/
namespace Mi
open PySem PySem.Spec PyProof.Rows L2
theorem and2 {a b : Bool} (h : (a && b) = true) : a = true ∧ b = true := by simpa using h
section
variable {k : Nat} {N : List Str} {cl : Cl}
theorem dd (x : Str) (h : ddB x = true) : (x == ("__debug__" : Str)) = false ∧ (x == ("__classdict__" : Str)) = false := by
  unfold ddB at h
  obtain ⟨h1, h2⟩ := and2 h
  exact ⟨by simpa using h1, by simpa using h2⟩
theorem s_callL {X : Cx} {sc : Scope} {p pos : Pos} (c : Ct k N sc cl X) {fi : Nat} {x : Str} {xs : List IR} {es : List Expr} (hx : fnm fi = some x) (hg : isGl sc x = true) (hd : (x == ("__debug__" : Str)) = false) (q : Snds X cl xs es) : Snd X (.Call (.Name x p) es [] pos) (evE cl (.call fi xs)) := by
  obtain ⟨q1, q2, q3⟩ := snds_pa q
  cases es with
  | nil =>
    cases xs with
    | nil => exact s_call0 c hx hg hd
    | cons _ _ => exact q.elim
  | cons a as => exact s_call c hx hg hd q1 q2
theorem s_methL {X : Cx} {sc : Scope} {a : Expr} {apos pos : Pos} (c : Ct k N sc cl X) {m : Mth} {x : IR} {xs : List IR} {es : List Expr} (h1 : m ≠ .split) (h2 : m ≠ .splitq) (ha : Snd X a (evE cl x)) (q : Snds X cl xs es) (hle : es.length ≤ 5) (hb : baseOk a = true) (hl : (apos.endLine == pos.line) = true) :
    Snd X (.Call (.Attribute a (mnm m) apos) es [] pos) (evE cl (.meth m x xs)) := by
  obtain ⟨q1, q2, q3⟩ := snds_pa q
  cases es with
  | nil =>
    cases xs with
    | nil => exact s_meth0 c h1 h2 ha hb hl
    | cons _ _ => exact q.elim
  | cons a as => exact s_meth c h1 h2 ha q1 q2 (by simp at hle; omega) hb hl
mutual
theorem sndE : ∀ (ir : IR) {X : Cx} {sc : Scope} {e : Expr}, Ct k N sc cl X → chkE N sc ir e = true → Snd X e (evE cl ir)
  | .bad, X, sc, e, c, h => ⟨⟨fun _ _ _ _ _ _ q => by obtain ⟨_, _, _, _, _, hf, _⟩ := q; cases hf⟩, ⟨fun _ _ _ _ _ _ q => by obtain ⟨_, _, _, _, _, hf, _⟩ := q; cases hf⟩⟩
  | .var i, X, sc, e, c, h => by
    unfold chkE at h
    split at h
    · obtain ⟨h1, h2⟩ := and2 h
      obtain ⟨h2, h3⟩ := and2 h2
      exact s_var (by rw [c.n]; exact of_decide_eq_true h1) (by rw [c.scp]; exact visB_ok h2) (dd _ h3).1 (dd _ h3).2
    · cases h
  | .con d, X, sc, e, c, h => chkC_ok (by unfold chkE at h; exact h)
  | .glob j, X, sc, e, c, h => by
    unfold chkE at h
    split at h
    · rename_i xq pq
      obtain ⟨h1, h2⟩ := and2 h
      obtain ⟨h2, h3⟩ := and2 h2
      obtain ⟨h3, h4⟩ := and2 h3
      cases of_decide_eq_true h1
      cases hg : globD j with
      | none => rw [hg] at h3; cases h3
      | some d =>
        obtain ⟨u, v, e1, e2, e3⟩ := c.glo.con j d hg
        have base : Snd X (.Name (gnm j) pq) (evE cl (.con d)) := s_const (pe_glob (c.gl h2) e1 e2 (dd _ h4).1) e3 rfl
        have : evE cl (.glob j) = evE cl (.con d) := by
          funext env mem
          show (globD j).map _ = _
          rw [hg]
          rfl
        rw [this]
        exact base
    · cases h
  | .tup es, X, sc, e, c, h => by
    unfold chkE at h
    split at h
    · obtain ⟨h1, h2⟩ := and2 h
      exact s_tup (snds_pa (sndEs es c h1)).1 (of_decide_eq_true h2)
    · cases h
  | .lstF es, X, sc, e, c, h => by
    unfold chkE at h
    split at h
    · obtain ⟨h1, h2⟩ := and2 h
      exact s_lstF (snds_pa (sndEs es c h1)).1 (of_decide_eq_true h2)
    · cases h
  | .lstM es, X, sc, e, c, h => by
    unfold chkE at h
    split at h
    · obtain ⟨h1, h2⟩ := and2 h
      exact s_lstM (snds_pa (sndEs es c h1)).1 (of_decide_eq_true h2)
    · cases h
  | .dctM, X, sc, e, c, h => by
    unfold chkE at h
    split at h
    · exact s_dctM
    · cases h
  | .call f es, X, sc, e, c, h => by
    unfold chkE at h
    split at h
    · obtain ⟨h1, ha⟩ := and2 h
      obtain ⟨h2, hb⟩ := and2 ha
      obtain ⟨h3, h4⟩ := and2 hb
      exact s_callL c (of_decide_eq_true h1) h2 (dd _ h3).1 (sndEs es c h4)
    · cases h
  | .callK f ks es, X, sc, e, c, h => by
    unfold chkE at h
    split at h
    · obtain ⟨h1, hz1⟩ := and2 h
      obtain ⟨h2, hz2⟩ := and2 hz1
      obtain ⟨h3, hz3⟩ := and2 hz2
      obtain ⟨h4, hz4⟩ := and2 hz3
      obtain ⟨h5, hz5⟩ := and2 hz4
      obtain ⟨h6, hz6⟩ := and2 hz5
      obtain ⟨h7, hz7⟩ := and2 hz6
      have hf : f = 38 ∨ f = 39 := by simpa using h5
      have hn : es.length = 4 ∨ es.length = 5 := by simpa using h7
      refine s_callK c (of_decide_eq_true h1) h2 (dd _ h3).1 (snds_kw (sndEs es c h4)) hf (fun ps fd a G => ?_) (of_decide_eq_true h6) hn
      rw [of_decide_eq_true hz7, G.nam]
    · cases h
  | .blt b x, X, sc, e, c, h => by
    unfold chkE at h
    split at h
    · obtain ⟨h1, hz1⟩ := and2 h
      obtain ⟨h2, hz2⟩ := and2 hz1
      obtain ⟨h3, hz3⟩ := and2 hz2
      obtain ⟨h4, hz4⟩ := and2 hz3
      obtain ⟨h5, hz5⟩ := and2 hz4
      cases of_decide_eq_true h1
      cases of_decide_eq_true h2
      exact s_dictEnum c h3 h4 (sndE x c hz5) h5
    · obtain ⟨h1, hz1⟩ := and2 h
      obtain ⟨h2, hz2⟩ := and2 hz1
      obtain ⟨h3, hz3⟩ := and2 hz2
      obtain ⟨h4, hz4⟩ := and2 hz3
      cases of_decide_eq_true h2
      exact s_blt c (of_decide_eq_true h1) h3 (s_cons (sndE x c hz4) s_nil h4) h4
    · cases h
  | .meth m o es, X, sc, e, c, h => by
    unfold chkE at h
    split at h
    · obtain ⟨h1, hz1⟩ := and2 h
      obtain ⟨h2, hz2⟩ := and2 hz1
      obtain ⟨h3, hz3⟩ := and2 hz2
      obtain ⟨h4, hz4⟩ := and2 hz3
      obtain ⟨h5, hz5⟩ := and2 hz4
      cases of_decide_eq_true h1
      cases es with
      | nil => exact s_split (sndE o c hz5) (of_decide_eq_true h2) h4 h5
      | cons _ _ => cases h3
    · obtain ⟨h1, hz1⟩ := and2 h
      obtain ⟨h2, hz2⟩ := and2 hz1
      obtain ⟨h3, hz3⟩ := and2 hz2
      obtain ⟨h4, hz4⟩ := and2 hz3
      obtain ⟨h5, hz5⟩ := and2 hz4
      cases of_decide_eq_true h1
      cases es with
      | nil => exact s_splitq (sndE o c hz5) (of_decide_eq_true h2) h4 h5
      | cons _ _ => cases h3
    · obtain ⟨h1, hz1⟩ := and2 h
      obtain ⟨h2, hz2⟩ := and2 hz1
      obtain ⟨h3, hz3⟩ := and2 hz2
      obtain ⟨h4, hz4⟩ := and2 hz3
      obtain ⟨h5, hz5⟩ := and2 hz4
      obtain ⟨h6, hz6⟩ := and2 hz5
      have hm := of_decide_eq_true h1
      cases of_decide_eq_true h2
      exact s_methL c hm.1 hm.2 (sndE o c h6) (sndEs es c hz6) (of_decide_eq_true h3) h4 h5
    · cases h
  | .bin op x y, X, sc, e, c, h => by
    unfold chkE at h
    split at h
    · obtain ⟨h1, hz1⟩ := and2 h
      obtain ⟨h2, hz2⟩ := and2 hz1
      cases of_decide_eq_true h1
      exact s_bin (sndE x c h2) (sndE y c hz2)
    · cases h
  | .neg x, X, sc, e, c, h => by
    unfold chkE at h
    split at h
    · exact s_neg (sndE x c h)
    · cases h
  | .cmp op x y, X, sc, e, c, h => by
    unfold chkE at h
    split at h
    · obtain ⟨h1, hz1⟩ := and2 h
      obtain ⟨h2, hz2⟩ := and2 hz1
      obtain ⟨h3, hz3⟩ := and2 hz2
      cases of_decide_eq_true h1
      exact s_cmp (by have := c.un; omega) (sndE x c h3) (sndE y c hz3) (noMark _ h2)
    · cases h
  | .repr neq x y, X, sc, e, c, h => by
    unfold chkE at h
    split at h
    · obtain ⟨h1, hz1⟩ := and2 h
      obtain ⟨h2, hz2⟩ := and2 hz1
      obtain ⟨h3, hz3⟩ := and2 hz2
      obtain ⟨h4, hz4⟩ := and2 hz3
      obtain ⟨h5, hz5⟩ := and2 hz4
      obtain ⟨h6, hz6⟩ := and2 hz5
      obtain ⟨h7, hz7⟩ := and2 hz6
      cases of_decide_eq_true h1
      cases of_decide_eq_true h2
      cases of_decide_eq_true h3
      exact s_repr c h4 (sndE x c h7) (sndE y c hz7) h5 h6
    · cases h
  | .inMade x, X, sc, e, c, h => by
    unfold chkE at h
    split at h
    · obtain ⟨h1, hz1⟩ := and2 h
      obtain ⟨h2, hz2⟩ := and2 hz1
      cases of_decide_eq_true h1
      exact s_inMade c h2 (sndE x c hz2)
    · cases h
  | .made x, X, sc, e, c, h => by
    unfold chkE at h
    split at h
    · obtain ⟨h1, hz1⟩ := and2 h
      obtain ⟨h2, hz2⟩ := and2 hz1
      obtain ⟨h3, hz3⟩ := and2 hz2
      cases of_decide_eq_true h1
      exact s_made c h2 (sndE x c hz3) h3
    · cases h
  | .andL es, X, sc, e, c, h => by
    unfold chkE at h
    split at h
    · obtain ⟨h1, hz1⟩ := and2 h
      have ne : es ≠ [] := by intro z; subst z; cases hz1
      exact ⟨(snds_bool (isAnd := true) (sndEs es c h1) ne).1, (snds_bool (isAnd := true) (sndEs es c h1) ne).2.pt⟩
    · cases h
  | .orL es, X, sc, e, c, h => by
    unfold chkE at h
    split at h
    · obtain ⟨h1, hz1⟩ := and2 h
      have ne : es ≠ [] := by intro z; subst z; cases hz1
      exact ⟨(snds_bool (isAnd := false) (sndEs es c h1) ne).1, (snds_bool (isAnd := false) (sndEs es c h1) ne).2.pt⟩
    · cases h
  | .not x, X, sc, e, c, h => by
    unfold chkE at h
    split at h
    · exact s_not (sndE x c h)
    · cases h
  | .ite x y z, X, sc, e, c, h => by
    unfold chkE at h
    split at h
    · obtain ⟨h1, hz1⟩ := and2 h
      obtain ⟨h2, hz2⟩ := and2 hz1
      exact s_ite (sndE x c h1) (sndE y c h2) (sndE z c hz2)
    · cases h
  | .ix x y, X, sc, e, c, h => by
    unfold chkE at h
    split at h
    · obtain ⟨h1, hz1⟩ := and2 h
      obtain ⟨h2, hz2⟩ := and2 hz1
      exact s_ix c (sndE x c h2) (sndE y c hz2) h1
    · cases h
  | .slc x lo hi, X, sc, e, c, h => by
    unfold chkE at h
    split at h
    · obtain ⟨h1, hz1⟩ := and2 h
      obtain ⟨h2, hz2⟩ := and2 hz1
      exact s_slc (sndE x c h1) (sndO lo c h2) (sndO hi c hz2)
    · cases h
  | .rev x, X, sc, e, c, h => by
    unfold chkE at h
    split at h
    · exact s_rev (sndE x c h)
    · cases h
  | .revM x, X, sc, e, c, h => by
    unfold chkE at h
    split at h
    · exact s_revM (sndE x c h)
    · cases h
  | .lc own tg kd its cond elt, X, sc, e, c, h => by
    unfold chkE at h
    split at h
    · rename_i el te it ifs scope ps
      obtain ⟨h1, hz1⟩ := and2 h
      obtain ⟨h2, hz2⟩ := and2 hz1
      obtain ⟨h3, hz3⟩ := and2 hz2
      obtain ⟨h4, hz4⟩ := and2 hz3
      obtain ⟨h5, hz5⟩ := and2 hz4
      obtain ⟨g1, g2, g3⟩ := own_ok h2
      have hin : InBlk X scope fun Y => Ct k N (relS scope sc) cl Y := fun s H C cs fp => c.blk s H C cs fp
      split at h1
      · rename_i as ha
        have hs := sndEs its c h1
        have hg : InBlk X scope fun Y => PG Y te (gTg X.K tg) := fun s H C cs fp => g_tg (hin s H C cs fp) (hin s H C cs fp).sto h3
        have hc : InBlk X scope fun Y => L2.PTs Y ifs (tCs X.K (evC cl cond)) := fun s H C cs fp => by
          have q := sndEs cond (hin s H C cs fp) h4
          match cond, ifs, q, h5 with
          | [], [], _, _ => exact c_nil
          | [x], [a], q, _ => exact c_one q.2.1
          | [], _ :: _, q, _ => exact q.elim
          | [x], [], q, _ => exact q.elim
          | [x], _ :: _ :: _, q, _ => exact q.2.2.elim
          | _ :: _ :: _, _, _, h5 => exact absurd (of_decide_eq_true h5) (by simp)
        have he : InBlk X scope fun Y => PE Y el (tE X.K (evE cl elt)) := fun s H C cs fp => (sndE elt (hin s H C cs fp) hz5).v
        have hsub : ∀ i ∈ tgIx tg, i ∈ (ownOf N own).map (·.2) := fun i hi => by rw [g1]; exact g3 i hi
        refine snd_of ?_ rfl
        cases hv : varE kd its with
        | false =>
          have q := s_lc (pos := ps) c (it_ok c ha hs) g2 hsub hv (it_notSet ha) hg hc he
          rw [g1] at q
          exact q
        | true =>
          match kd, its, hv, hs, ha, h1 with
          | .e, [.var i], _, hs, ha, h1 =>
            have ha : (if notSet it then some [it] else none) = some as := by cases it <;> exact ha
            split at ha
            · cases ha
              have h1 : (notStar it && (chkE N sc (.var i) it && chkEs N sc [] [])) = true := by
                unfold chkEs at h1
                exact h1
              have h1 := (and2 (and2 h1).2).1
              cases it with
              | Name xv pv =>
                have h1 : (decide (N[i]? = some xv) && (visB sc xv && ddB xv)) = true := by
                  unfold chkE at h1
                  exact h1
                obtain ⟨k1, k2⟩ := and2 h1
                obtain ⟨k3, k4⟩ := and2 k2
                have q := s_lcVar (pos := ps) (p := pv) c (of_decide_eq_true k1) (visB_ok k3) (dd _ k4).1 (dd _ k4).2 g2 hsub hg hc he
                rw [g1] at q
                exact q
              | _ =>
                unfold chkE at h1
                cases h1
            · cases ha
      · cases h1
    · cases h
  | .dc1 own i it kx vx, X, sc, e, c, h => by
    unfold chkE at h
    split at h
    · rename_i ke ve te ie scope ps
      obtain ⟨h1, hz1⟩ := and2 h
      obtain ⟨h2, hz2⟩ := and2 hz1
      obtain ⟨h3, hz3⟩ := and2 hz2
      obtain ⟨h4, hz4⟩ := and2 hz3
      obtain ⟨h5, hz5⟩ := and2 hz4
      obtain ⟨g1, g2, g3⟩ := own_ok h3
      have hin : InBlk X scope fun Y => Ct k N (relS scope sc) cl Y := fun s H C cs fp => c.blk s H C cs fp
      have q := s_dc1 (pos := ps) c (sndE it c h2) g2 (i0 := i) (by rw [g1]; exact g3 i (by simp)) h1 (fun s H C cs fp => g_tg (hin s H C cs fp) (hin s H C cs fp).sto h4) (fun s H C cs fp => (sndE kx (hin s H C cs fp) h5).v) (fun s H C cs fp => (sndE vx (hin s H C cs fp) hz5).v)
      rw [g1] at q
      exact snd_of q rfl
    · cases h
  | .dc2 own i j it it2 cond kx vx, X, sc, e, c, h => by
    unfold chkE at h
    split at h
    · rename_i ke ve te ie te1 ie1 ce scope ps
      obtain ⟨h1, hz1⟩ := and2 h
      obtain ⟨h2, hz2⟩ := and2 hz1
      obtain ⟨h3, hz3⟩ := and2 hz2
      obtain ⟨h4, hz4⟩ := and2 hz3
      obtain ⟨h5, hz5⟩ := and2 hz4
      obtain ⟨h6, hz6⟩ := and2 hz5
      obtain ⟨h7, hz7⟩ := and2 hz6
      obtain ⟨h8, hz8⟩ := and2 hz7
      obtain ⟨h9, hz9⟩ := and2 hz8
      obtain ⟨g1, g2, g3⟩ := own_ok h4
      have hin : InBlk X scope fun Y => Ct k N (relS scope sc) cl Y := fun s H C cs fp => c.blk s H C cs fp
      have q := s_dc2 (pos := ps) c (sndE it c h3) g2 (i0 := i) (j0 := j) (by rw [g1]; exact g3 i (by simp)) (by rw [g1]; exact g3 j (by simp)) h1 h2 (fun s H C cs fp => g_tg (hin s H C cs fp) (hin s H C cs fp).sto h5) (fun s H C cs fp => sndE it2 (hin s H C cs fp) h7)
        (fun s H C cs fp => g_tg (hin s H C cs fp) (hin s H C cs fp).sto h6) (fun s H C cs fp => sndE cond (hin s H C cs fp) h8) (fun s H C cs fp => (sndE kx (hin s H C cs fp) h9).v) (fun s H C cs fp => (sndE vx (hin s H C cs fp) hz9).v)
      rw [g1] at q
      exact snd_of q rfl
    · cases h
theorem sndEs : ∀ (irs : List IR) {X : Cx} {sc : Scope} {es : List Expr}, Ct k N sc cl X → chkEs N sc irs es = true → Snds X cl irs es
  | [], X, sc, es, c, h => by
    unfold chkEs at h
    cases es with
    | nil => trivial
    | cons _ _ => cases h
  | x :: r, X, sc, es, c, h => by
    unfold chkEs at h
    split at h
    · obtain ⟨h1, hz1⟩ := and2 h
      obtain ⟨h2, hz2⟩ := and2 hz1
      exact ⟨h1, sndE x c h2, sndEs r c hz2⟩
    · cases h
theorem sndO : ∀ (o : Option IR) {X : Cx} {sc : Scope} {e : Option Expr}, Ct k N sc cl X → chkO N sc o e = true → PO X e (tOs X.K (evO cl o))
  | none, X, sc, e, c, h => by
    unfold chkO at h
    cases e with
    | none => exact o_none
    | some _ => cases h
  | some x, X, sc, e, c, h => by
    unfold chkO at h
    split at h
    · exact o_some (sndE x c h)
    · cases h
end
end
end Mi
end
section
set_option maxHeartbeats 4000000
/-! Mi24: every checked statement may be read. -/
namespace Mi
open PySem PySem.Spec PyProof.Rows L2
def swLc (sc : Scope) (y : Str) (py : Pos) (scope : Scope) (lpos : Pos) : Bool :=
  (sc.names.lookup y == some .local) && (py.line == lpos.line) && !(scope.names.any fun (n, k) => n == y && (k == .local || k == .cell))
theorem swLc_ok {sc : Scope} {y : Str} {py lpos : Pos} {scope : Scope} {elt : Expr} {gs : List Comprehension} {l : Nat} {env : PySem.Env} (hk : env.scope.kind = .function) (he : env.scope = sc) : swapsWith (.ListComp elt gs scope lpos) (some (.Name y py)) l env = pure (swLc sc y py scope lpos) := by
  have hb : env.blockKind = .function := by unfold Env.blockKind; rw [hk]; rfl
  have ky : env.kindOf y = sc.names.lookup y := by rw [← he]; rfl
  unfold swapsWith swLc
  simp only [hb, ky, Expr.pos]
  rfl
/-- the target of an assignment -/
def chkT (N : List Str) (sc : Scope) : Tgt → Expr → Bool
  | .nm i, e => match e with
    | .Name x _ => decide (N[i]? = some x) && isLoc sc x
    | _ => false
  | .sub o i, e => match e with
    | .Subscript a b _ => notSlice b && (chkE N sc o a && chkE N sc i b)
    | _ => false
def chkTs (N : List Str) (sc : Scope) : List Tgt → List Expr → Bool
  | [], as => as.isEmpty
  | t :: ts, as => match as with
    | e :: es => notStar e && (chkT N sc t e && chkTs N sc ts es)
    | [] => false
def chkLast (N : List Str) (sc : Scope) (kd : ItK) (its : List IR) : Bool := true
mutual
def chkS (N : List Str) (sc : Scope) : IS → Stmt → Bool
  | .bad, _ => true
  | .expr x, s => match s with
    | .Expr e _ => notComp e && chkE N sc x e
    | _ => false
  | .asg t x, s => match t, s with
    | .nm i, .Assign [.Name y py] e _ => decide (N[i]? = some y) && (isLoc sc y && (chkE N sc x e && (match e with
        | .ListComp el gs scope lpos => !(swLc sc y py scope lpos) || isOwn sc y
        | e => notComp e)))
    | .sub o i, .Assign [.Subscript a b _] e _ => notSlice b && (chkE N sc o a && (chkE N sc i b && chkE N sc x e))
    | _, _ => false
  | .asgT ts x, s => match s with
    | .Assign [.Tuple es _ _] e _ => chkTs N sc ts es && (notTuple e && chkE N sc x e)
    | _ => false
  | .asgP is xs, s => match is, s with
    | [i, j], .Assign [.Tuple [.Name x px, .Name y py] _ _] (.Tuple [e1, e2] _ _) _ => decide (N[i]? = some x) && (decide (N[j]? = some y) && (decide (i ≠ j) && (isOwn sc x && (isOwn sc y && (chkEs N sc xs [e1, e2] && decide (swp sc [.Name x px, .Name y py] [e1, e2] = some (some [x, y])))))))
    | [i, j, l], .Assign [.Tuple [.Name x px, .Name y py, .Name z pz] _ _] (.Tuple [e1, e2, e3] _ _) _ => decide (N[i]? = some x) && (decide (N[j]? = some y) && (decide (N[l]? = some z) && (decide (i ≠ j ∧ i ≠ l ∧ j ≠ l) && (isOwn sc x && (isOwn sc y && (isOwn sc z && (chkEs N sc xs [e1, e2, e3] &&
        decide (swp sc [.Name x px, .Name y py, .Name z pz] [e1, e2, e3] = some (some [x, y, z])))))))))
    | _, _ => false
  | .asgD ts xs, s => match s with
    | .Assign [.Tuple es _ _] (.Tuple vs _ _) _ => chkTs N sc ts es && (decide (xs.length ≤ 1000) && (chkEs N sc xs vs && decide (swp sc es vs = some none)))
    | _ => false
  | .iff c t f, s => match s with
    | .If e st sf _ => chkE N sc c e && (chkSs N sc t st && chkSs N sc f sf)
    | _ => false
  | .forr tg kd its b, s => match s with
    | .For te it body [] _ => (match itArgs sc te kd it with
        | some as => chkEs N sc its as
        | none => false) && (chkTg N (isLoc sc) tg te && chkSs N sc b body)
    | _ => false
  | .whil c b, s => match s with
    | .While e body [] _ => chkE N sc c e && chkSs N sc b body
    | _ => false
  | .ret x, s => match s with
    | .Return (some e) _ => chkE N sc x e
    | .Return none _ => match x with
      | .con .non => true
      | _ => false
    | _ => false
  | .retT es, s => match s with
    | .Return (some (.Tuple as _ _)) _ => chkEs N sc es as && decide (es.length ≤ 1000)
    | _ => false
def chkSs (N : List Str) (sc : Scope) : List IS → List Stmt → Bool
  | [], as => as.isEmpty
  | s :: r, as => match as with
    | st :: rest => chkS N sc s st && chkSs N sc r rest
    | [] => false
end
section
variable {k : Nat} {N : List Str} {cl : Cl} {X : Cx} {sc : Scope}
theorem tgtT : ∀ {t : Tgt} {e : Expr}, CtF k N sc cl X → chkT N sc t e = true → PG X e (gT X.K (stT cl t))
  | .nm i, e, c, h => by
    cases e with
    | Name x q =>
      obtain ⟨h1, h2⟩ := and2 (show (decide (N[i]? = some x) && isLoc sc x) = true from h)
      exact t_nm c (of_decide_eq_true h1) h2
    | _ => exact absurd (show false = true from h) Bool.false_ne_true
  | .sub o i, e, c, h => by
    cases e with
    | Subscript a b q =>
      obtain ⟨h1, h2⟩ := and2 (show (notSlice b && (chkE N sc o a && chkE N sc i b)) = true from h)
      obtain ⟨h3, h4⟩ := and2 h2
      exact t_sub c.toCt (sndE o c.toCt h3) (sndE i c.toCt h4) h1
    | _ => exact absurd (show false = true from h) Bool.false_ne_true
theorem tgtTs : ∀ {ts : List Tgt} {es : List Expr}, CtF k N sc cl X → chkTs N sc ts es = true → PGs X es (gTs X.K (stTs cl ts)) ∧ noStar es = true ∧ es.length = ts.length
  | [], [], _, _ => ⟨ts_nil, rfl, rfl⟩
  | t :: ts, e :: es, c, h => by
    unfold chkTs at h
    obtain ⟨h1, h2⟩ := and2 h
    obtain ⟨h3, h4⟩ := and2 h2
    obtain ⟨q1, q2, q3⟩ := tgtTs c h4
    refine ⟨ts_cons (tgtT c h3) q1 h1, ?_, by simp [q3]⟩
    unfold noStar
    rw [List.all_cons, h1]
    exact q2
  | [], _ :: _, _, h => by unfold chkTs at h; cases h
  | _ :: _, [], _, h => by unfold chkTs at h; cases h
/-- name = [..], swapped -/
theorem lc_swap (c : CtF k N sc cl X) (hk : sc.kind = .function) {x : IR} {i : Nat} {y : Str} {py spos lpos : Pos} {el : Expr} {gs : List Comprehension} {scope : Scope} (hN : N[i]? = some y) (hy : sc.names.lookup y = some .local) (h : chkE N sc x (.ListComp el gs scope lpos) = true) (hsw : swLc sc y py scope lpos = true) :
    PS X (.Assign [.Name y py] (.ListComp el gs scope lpos) spos) (tS X.K (evS cl (.asg (.nm i) x))) := by
  have sw : swapsWith (.ListComp el gs scope lpos) (some (.Name y py)) spos.line X.env = pure true := by
    rw [swLc_ok (by rw [c.scp]; exact hk) c.scp, hsw]
  cases x with
  | lc own tg kd its cond elt =>
    unfold chkE at h
    split at h
    · rename_i el' te it ifs scope' ps he
      cases he
      obtain ⟨h1, hz1⟩ := and2 h
      obtain ⟨h2, hz2⟩ := and2 hz1
      obtain ⟨h3, hz3⟩ := and2 hz2
      obtain ⟨h4, hz4⟩ := and2 hz3
      obtain ⟨h5, hz5⟩ := and2 hz4
      obtain ⟨g1, g2, g3⟩ := own_ok h2
      have hin : InBlk X scope fun Y => Ct k N (relS scope sc) cl Y := fun s H C cs fp => c.toCt.blk s H C cs fp
      split at h1
      · rename_i as ha
        have hs := sndEs its c.toCt h1
        have hg : InBlk X scope fun Y => PG Y te (gTg X.K tg) := fun s H C cs fp => g_tg (hin s H C cs fp) (hin s H C cs fp).sto h3
        have hc : InBlk X scope fun Y => L2.PTs Y ifs (tCs X.K (evC cl cond)) := fun s H C cs fp => by
          have q := sndEs cond (hin s H C cs fp) h4
          match cond, ifs, q, h5 with
          | [], [], _, _ => exact c_nil
          | [x], [a], q, _ => exact c_one q.2.1
          | [], _ :: _, q, _ => exact q.elim
          | [x], [], q, _ => exact q.elim
          | [x], _ :: _ :: _, q, _ => exact q.2.2.elim
          | _ :: _ :: _, _, _, h5 => exact absurd (of_decide_eq_true h5) (by simp)
        have he : InBlk X scope fun Y => PE Y el (tE X.K (evE cl elt)) := fun s H C cs fp => (sndE elt (hin s H C cs fp) hz5).v
        have hsub : ∀ i ∈ tgIx tg, i ∈ (ownOf N own).map (·.2) := fun i hi => by rw [g1]; exact g3 i hi
        cases hv : varE kd its with
        | false =>
          have q := s_setLc (pos := lpos) (spos := spos) (py := py) c hN hy sw (it_ok c.toCt ha hs) g2 hsub (it_notSet ha) (fun ws xs e => by rw [itemsV_eq hv] at e; exact e) hg hc he
          rw [g1] at q
          exact q
        | true =>
          match kd, its, hv, hs, ha, h1 with
          | .e, [.var j], _, hs, ha, h1 =>
            have ha : (if notSet it then some [it] else none) = some as := by cases it <;> exact ha
            split at ha
            · cases ha
              have h1 : (notStar it && (chkE N sc (.var j) it && chkEs N sc [] [])) = true := by
                unfold chkEs at h1
                exact h1
              have h1 := (and2 (and2 h1).2).1
              cases it with
              | Name xv pv =>
                have h1 : (decide (N[j]? = some xv) && (visB sc xv && ddB xv)) = true := by
                  unfold chkE at h1
                  exact h1
                obtain ⟨k1, k2⟩ := and2 h1
                obtain ⟨k3, k4⟩ := and2 k2
                have q := s_setLcVar (pos := lpos) (p := pv) (spos := spos) (py := py) c hN hy sw (of_decide_eq_true k1) (visB_ok k3) (dd _ k4).1 (dd _ k4).2 g2 hsub hg hc he
                rw [g1] at q
                exact q
              | _ =>
                unfold chkE at h1
                cases h1
            · cases ha
      · cases h1
    · cases h
  | bad => exact ⟨fun pins s σ H D I q => by
      obtain ⟨env, mem, out, env', mem', o, hf, _⟩ := q
      cases hf⟩
  | con d => unfold chkE at h; cases d <;> cases h
  | _ => exact absurd h (by unfold chkE; simp)
mutual
theorem sndS (hk : sc.kind = .function) (c : CtF k N sc cl X) : ∀ (s : IS) {st : Stmt}, chkS N sc s st = true → PS X st (tS X.K (evS cl s))
  | .bad, st, h => ⟨fun pins s σ H D I q => by
      obtain ⟨env, mem, out, env', mem', o, hf, _⟩ := q
      cases hf⟩
  | .expr x, st, h => by
    unfold chkS at h
    split at h
    · obtain ⟨h1, h2⟩ := and2 h
      exact s_expr (sndE x c.toCt h2) h1
    · cases h
  | .asg t x, st, h => by
    unfold chkS at h
    split at h
    · obtain ⟨h1, hz1⟩ := and2 h
      obtain ⟨h2, hz2⟩ := and2 hz1
      obtain ⟨h3, hz3⟩ := and2 hz2
      split at hz3
      · rename_i y py spos e0 el gs scope lpos
        cases hsw : swLc sc y py scope lpos with
        | true =>
          rw [hsw] at hz3
          exact lc_swap c hk (of_decide_eq_true h1) (of_decide_eq_true (show isOwn sc y = true from hz3)) h3 hsw
        | false => exact s_asgN c (of_decide_eq_true h1) h2 (sndE x c.toCt h3) (by rw [swLc_ok (by rw [c.scp]; exact hk) c.scp, hsw])
      · exact s_asgN c (of_decide_eq_true h1) h2 (sndE x c.toCt h3) (noSwap hz3 _ _ _)
    · obtain ⟨h1, hz1⟩ := and2 h
      obtain ⟨h2, hz2⟩ := and2 hz1
      obtain ⟨h3, hz3⟩ := and2 hz2
      exact s_asgS c.toCt (sndE _ c.toCt h2) (sndE _ c.toCt h3) (sndE x c.toCt hz3) h1
    · cases h
  | .asgT ts x, st, h => by
    unfold chkS at h
    split at h
    · obtain ⟨h1, hz1⟩ := and2 h
      obtain ⟨h2, hz2⟩ := and2 hz1
      obtain ⟨q1, q2, q3⟩ := tgtTs c h1
      exact s_asgT c.toCt q1 q2 q3 (sndE x c.toCt hz2) h2
    · cases h
  | .asgP is xs, st, h => by
    unfold chkS at h
    split at h
    · obtain ⟨h1, hz1⟩ := and2 h
      obtain ⟨h2, hz2⟩ := and2 hz1
      obtain ⟨h3, hz3⟩ := and2 hz2
      obtain ⟨h4, hz4⟩ := and2 hz3
      obtain ⟨h5, hz5⟩ := and2 hz4
      obtain ⟨h6, hz6⟩ := and2 hz5
      exact s_par2 c.toCt hk (of_decide_eq_true h1) (of_decide_eq_true h2) (of_decide_eq_true h3) (of_decide_eq_true h4) (of_decide_eq_true h5) (snds_pa (sndEs xs c.toCt h6)).1 (of_decide_eq_true hz6)
    · obtain ⟨h1, hz1⟩ := and2 h
      obtain ⟨h2, hz2⟩ := and2 hz1
      obtain ⟨h3, hz3⟩ := and2 hz2
      obtain ⟨h4, hz4⟩ := and2 hz3
      obtain ⟨h5, hz5⟩ := and2 hz4
      obtain ⟨h6, hz6⟩ := and2 hz5
      obtain ⟨h7, hz7⟩ := and2 hz6
      obtain ⟨h8, hz8⟩ := and2 hz7
      have ne := of_decide_eq_true h4
      exact s_par3 c.toCt hk (of_decide_eq_true h1) (of_decide_eq_true h2) (of_decide_eq_true h3) ne.1 ne.2.1 ne.2.2 (of_decide_eq_true h5) (of_decide_eq_true h6) (of_decide_eq_true h7) (snds_pa (sndEs xs c.toCt h8)).1 (of_decide_eq_true hz8)
    · cases h
  | .asgD ts xs, st, h => by
    unfold chkS at h
    split at h
    · obtain ⟨h1, hz1⟩ := and2 h
      obtain ⟨h2, hz2⟩ := and2 hz1
      obtain ⟨h3, hz3⟩ := and2 hz2
      obtain ⟨q1, q2, q3⟩ := tgtTs c h1
      exact s_asgD c.toCt hk q1 q2 q3 (snds_pa (sndEs xs c.toCt h3)).1 (of_decide_eq_true h2) (of_decide_eq_true hz3)
    · cases h
  | .iff x t f, st, h => by
    unfold chkS at h
    split at h
    · obtain ⟨h1, hz1⟩ := and2 h
      obtain ⟨h2, hz2⟩ := and2 hz1
      exact s_iff (sndE x c.toCt h1) (sndSs hk c t h2) (sndSs hk c f hz2)
    · cases h
  | .forr tg kd its b, st, h => by
    unfold chkS at h
    split at h
    · rename_i te it body ps
      obtain ⟨h1, hz1⟩ := and2 h
      obtain ⟨h2, hz2⟩ := and2 hz1
      have hg : PG X te (gTg X.K tg) := g_tg c.toCt c.sto h2
      have hb := sndSs hk c b hz2
      split at h1
      · rename_i as ha
        have hs := sndEs its c.toCt h1
        cases hv : varE kd its with
        | false => exact s_for c.toCt (it_ok c.toCt ha hs) hg hb (it_notSet ha) hv
        | true =>
          match kd, its, hv, hs, ha, h1 with
          | .e, [.var j], _, hs, ha, h1 =>
            have ha : (if notSet it then some [it] else none) = some as := by cases it <;> exact ha
            split at ha
            · cases ha
              have h1 : (notStar it && (chkE N sc (.var j) it && chkEs N sc [] [])) = true := by
                unfold chkEs at h1
                exact h1
              have h1 := (and2 (and2 h1).2).1
              cases it with
              | Name xv pv =>
                have h1 : (decide (N[j]? = some xv) && (visB sc xv && ddB xv)) = true := by
                  unfold chkE at h1
                  exact h1
                obtain ⟨k1, k2⟩ := and2 h1
                obtain ⟨k3, k4⟩ := and2 k2
                exact s_forVar c.toCt (of_decide_eq_true k1) (visB_ok k3) (dd _ k4).1 (dd _ k4).2 hg hb
              | _ =>
                unfold chkE at h1
                cases h1
            · cases ha
      · cases h1
    · cases h
  | .whil x b, st, h => by
    unfold chkS at h
    split at h
    · obtain ⟨h1, hz1⟩ := and2 h
      exact s_while c.toCt (sndE x c.toCt h1) (sndSs hk c b hz1)
    · cases h
  | .ret x, st, h => by
    unfold chkS at h
    split at h
    · exact s_ret (sndE x c.toCt h)
    · split at h
      · exact s_retN
      · cases h
    · cases h
  | .retT es, st, h => by
    unfold chkS at h
    split at h
    · obtain ⟨h1, hz1⟩ := and2 h
      exact s_retT (snds_pa (sndEs es c.toCt h1)).1 (of_decide_eq_true hz1)
    · cases h
theorem sndSs (hk : sc.kind = .function) (c : CtF k N sc cl X) : ∀ (ss : List IS) {sts : List Stmt}, chkSs N sc ss sts = true → PSs X sts (tS X.K (evSs cl ss))
  | [], sts, h => by
    unfold chkSs at h
    cases sts with
    | nil => exact ss_nil
    | cons _ _ => cases h
  | s :: r, sts, h => by
    unfold chkSs at h
    split at h
    · obtain ⟨h1, hz1⟩ := and2 h
      exact ss_cons (sndS hk c s h1) (sndSs hk c r hz1)
    · cases h
end
end
end Mi
end
section
set_option maxHeartbeats 4000000
/-! Mi25: binding. -/
namespace Mi
open PySem PySem.Spec PyProof.Rows L2
/-- plain parameters of these names -/
def simpleA (a : Arguments) (ps : List Str) : Bool := a.posonlyargs.isEmpty && (a.vararg.isNone && (a.kwonlyargs.isEmpty && (a.kwarg.isNone && decide (a.args.map (·.arg) = ps))))
theorem simpleA_ok {a : Arguments} {ps : List Str} (h : simpleA a ps = true) : a.posonlyargs = [] ∧ a.vararg = none ∧ a.kwonlyargs = [] ∧ a.kwarg = none ∧ a.args.map (·.arg) = ps := by
  unfold simpleA at h
  obtain ⟨h1, h2⟩ := and2 h
  obtain ⟨h2, h3⟩ := and2 h2
  obtain ⟨h3, h4⟩ := and2 h3
  obtain ⟨h4, h5⟩ := and2 h4
  exact ⟨by simpa using h1, by simpa using h2, by simpa using h3, by simpa using h4, of_decide_eq_true h5⟩
theorem lookup_zip {α : Type} : ∀ {ps : List Str} {us : List α} {i : Nat} {x : Str} {u : α}, ps.Nodup → ps[i]? = some x → us[i]? = some u → (ps.zip us).lookup x = some u
  | [], _, _, _, _, _, h, _ => by simp at h
  | _ :: _, [], _, _, _, _, _, h => by simp at h
  | p :: ps, v :: us, 0, x, u, nd, h1, h2 => by
    simp at h1 h2
    subst h1 h2
    simp [List.zip_cons_cons, List.lookup_cons]
  | p :: ps, v :: us, i + 1, x, u, nd, h1, h2 => by
    have nd' := List.nodup_cons.mp nd
    have hx : ps[i]? = some x := by simpa using h1
    have ne : (x == p) = false := by
      have : x ≠ p := fun z => nd'.1 (by rw [← z]; exact List.mem_of_getElem? hx)
      simpa using this
    rw [List.zip_cons_cons, List.lookup_cons, ne]
    exact lookup_zip nd'.2 hx (by simpa using h2)
/-- what lookups find in any listing of the pairs -/
theorem bindsL {slots : List (Str × Value)} : ∀ {ps : List Str} {us : List Value}, us.length = ps.length → (∀ (i : Nat) (x : Str) (u : Value), ps[i]? = some x → us[i]? = some u → slots.lookup x = some u) → (ps.filterMap fun n => (slots.lookup n).map (n, ·)) = ps.zip us
  | [], _, _, _ => by simp
  | p :: ps, [], h, _ => by simp at h
  | p :: ps, u :: us, h, hl => by
    rw [List.filterMap_cons, hl 0 p u rfl rfl]
    show (p, u) :: _ = _
    rw [bindsL (ps := ps) (us := us) (by simpa using h) fun i x v h1 h2 => hl (i + 1) x v (by simpa using h1) (by simpa using h2)]
    rfl
theorem pb {α β : Type} (a : α) (f : α → Sem β) : (pure a >>= f) = f a := rfl
theorem noSeq : seqItems? .none = pure none := rfl
theorem loopL {β : Type} (g : Str × Value → β → Sem (ForInStep β)) (h : List (Str × Value) → β) (ok : Str × Value → Prop) (hg : ∀ (p : Str × Value) (l : List (Str × Value)), ok p → l.lookup p.1 = none → g p (h l) = pure (.yield (h (l ++ [p])))) :
    ∀ (r l : List (Str × Value)), (∀ p ∈ r, ok p) → (∀ p ∈ r, l.lookup p.1 = none) → (r.map (·.1)).Nodup → forIn r (h l) g = (pure (h (l ++ r)) : Sem β)
  | [], l, _, _, _ => by rw [List.forIn_nil, List.append_nil]
  | p :: r, l, h1, h2, h3 => by
    rw [List.forIn_cons, hg p l (h1 p List.mem_cons_self) (h2 p List.mem_cons_self), pb]
    show forIn r (h (l ++ [p])) g = _
    have nd := List.nodup_cons.mp h3
    rw [loopL g h ok hg r (l ++ [p]) (fun q hq => h1 q (List.mem_cons_of_mem _ hq)) (fun q hq => ?_) nd.2, List.append_assoc]
    · rfl
    · rw [List.lookup_append, h2 q (List.mem_cons_of_mem _ hq)]
      have ne : (q.1 == p.1) = false := by
        have : q.1 ≠ p.1 := fun z => nd.1 (by
          show p.1 ∈ r.map (·.1)
          rw [← z]
          exact List.mem_map_of_mem hq)
        exact beq_eq_false_iff_ne.mpr this
      show (none : Option Value).or ([p].lookup q.1) = none
      rw [Option.none_or]
      show (match q.1 == p.1 with | true => some p.2 | false => [].lookup q.1) = none
      rw [ne]
      rfl
/-- the end of it: all names are given -/
theorem bind_pos {fd : FuncData} {ps : List Str} (hp : simpleA fd.params ps = true) (hd : fd.defaults = .none) (nd : ps.Nodup) {us : List Value} (hl : us.length = ps.length) : bindArgs fd ⟨us, []⟩ = pure (ps.zip us) := by
  obtain ⟨h1, h2, h3, h4, h5⟩ := simpleA_ok hp
  have lk : ∀ i x u, ps[i]? = some x → us[i]? = some u → (ps.zip us).lookup x = some u := fun i x u e1 e2 => lookup_zip nd e1 e2
  have miss : (ps.filter fun n => ((ps.zip us).lookup n).isNone) = [] := by
    rw [List.filter_eq_nil_iff]
    intro x hx
    obtain ⟨i, e⟩ := List.getElem?_of_mem hx
    have hi := (List.getElem?_eq_some_iff.mp e).1
    rw [lk i x us[i] e (List.getElem?_eq_getElem (by omega))]
    simp
  have np : ¬ (us.length > ps.length) := by omega
  unfold bindArgs
  simp only [h1, h2, h3, h4, h5, hd, List.map_nil, List.nil_append, List.append_nil, Option.isNone_none, Option.isSome_none, List.forIn_nil, pb, noSeq, Option.getD_none, List.length_nil, Nat.zero_sub, List.drop_nil, Nat.sub_zero, List.take_length, miss, List.drop_length, List.zip_nil_right, List.isEmpty_nil, Bool.not_true, Bool.false_eq_true, if_false, np, decide_false, Bool.false_and, Bool.and_true]
  rw [bindsL hl lk]
theorem rev_get {α : Type} {l : List α} {i : Nat} {x : α} (h : l[i]? = some x) : l.reverse[l.length - 1 - i]? = some x := by
  have hi := (List.getElem?_eq_some_iff.mp h).1
  rw [List.getElem?_reverse (by omega)]
  rw [show l.length - 1 - (l.length - 1 - i) = i by omega]
  exact h
theorem bind_rev {fd : FuncData} {ps : List Str} (hp : simpleA fd.params ps = true) (hd : fd.defaults = .none) (nd : ps.Nodup) {us : List Value} (hl : us.length = ps.length) : bindArgs fd ⟨[], ps.reverse.zip us.reverse⟩ = pure (ps.zip us) := by
  obtain ⟨h1, h2, h3, h4, h5⟩ := simpleA_ok hp
  have ndr : ps.reverse.Nodup := (List.reverse_perm ps).nodup_iff.mpr nd
  have lk : ∀ (i : Nat) (x : Str) (u : Value), ps[i]? = some x → us[i]? = some u → (ps.reverse.zip us.reverse).lookup x = some u := fun i x u e1 e2 => by
    have q := rev_get e2
    rw [hl] at q
    exact lookup_zip ndr (rev_get e1) q
  have miss : (ps.filter fun n => ((ps.reverse.zip us.reverse).lookup n).isNone) = [] := by
    rw [List.filter_eq_nil_iff]
    intro x hx
    obtain ⟨i, e⟩ := List.getElem?_of_mem hx
    have hi := (List.getElem?_eq_some_iff.mp e).1
    rw [lk i x us[i] e (List.getElem?_eq_getElem (by omega))]
    simp
  have np : decide (0 > ps.length) = false := by simp
  have keys : ((ps.reverse.zip us.reverse).map (·.1)).Nodup := by
    rw [List.map_fst_zip (by simp [hl])]
    exact ndr
  unfold bindArgs
  simp only [h1, h2, h3, h4, h5, hd, List.map_nil, List.nil_append, List.append_nil, Option.isNone_none, Option.isSome_none, List.zip_nil_right]
  rw [loopL _ (fun l => (l, [])) (fun p => p.1 ∈ ps) ?hg _ [] ?h1 (fun _ _ => rfl) keys]
  case h1 => exact fun p hp => List.mem_reverse.mp (List.of_mem_zip hp).1
  case hg =>
    intro p l hm hn
    have hc : ps.contains p.1 = true := by simpa using hm
    simp only [hc, Bool.true_or, if_true, hn, Option.isSome_none, Bool.false_eq_true, if_false]
  simp only [List.nil_append, List.forIn_nil, pb, noSeq, Option.getD_none, List.length_nil, Nat.zero_sub, List.drop_nil, Nat.sub_zero, List.take_length, miss, List.drop_length, List.zip_nil_right, List.isEmpty_nil, Bool.not_true, np, Bool.false_eq_true, if_false, decide_false, Bool.false_and, Bool.and_true]
  rw [bindsL hl lk]
end Mi
end
section
set_option maxHeartbeats 4000000
/-! Mi26: a checked def does what the evaluator says. -/
namespace Mi
open PySem PySem.Spec PyProof.Rows L2
def isBad : List IS → Bool
  | [.bad] => true
  | _ => false
def namesOf (f : Nat) : List Str := (nmOf f).map Str.ofString
def chkDef (f : Nat) (fn : Fn) (st : Stmt) : Bool :=
  simpleA (defArgs st) (parOf f) && (decide (namesOf f).Nodup && (decide ((namesOf f).take (parOf f).length = parOf f) && (decide ((namesOf f).length = fn.sl) && (decide ((parOf f).length = fn.ar) && (decide ((defScope st).kind = .function) &&
    (!(defScope st).isCoroutine && (!(defScope st).isGenerator && ((parOf f).all (isLoc (defScope st)) && ((defScope st).names.all (fun y => decide (y.2 ≠ .free)) && (isBad fn.body || chkSs (namesOf f) (defScope st) fn.body (defBody st)))))))))))
section
variable {P : Program} {w : World} {K : PySem.W.Frag} {mg : Str → Option Value} {base : Heap} {k : Nat}
theorem still1 {o o1 : Wo} {mem1 : Mem} {H1 : Hp} {u : W} {x : Mi.D} {v : V} (s : Sim K o1 mem1 H1) (le : o.Le o1) (hc : (mem1.take o.n).all (inC o.n) = true) (hf : frz o.n mem1 u = some x) (r : WR K o1 u v) : ∃ o', o.Le o' ∧ o1.n = o1.n ∧ Inc o1.G o'.G ∧ Sim K o' (mem1.take o.n) H1 ∧ DR K o'.G x v := by
  have s2 := s.cut le hc
  cases u with
  | d y =>
    cases (show some y = some x from hf)
    exact ⟨_, Wo.cut_le le, rfl, Inc.refl _, s2, r⟩
  | r n =>
    have hf : (if n < o.n then none else match mem1[n]? with
      | some (.lst xs) => some (Mi.D.lst xs)
      | some (.dct kvs) => some (.dct kvs)
      | _ => none) = some x := hf
    by_cases hn : n < o.n
    · rw [if_pos hn] at hf; cases hf
    rw [if_neg hn] at hf
    obtain ⟨h1, rfl⟩ := r
    split at hf
    · rename_i xs hm
      cases hf
      obtain ⟨vs, e1, e2⟩ := s.cell n _ hm
      obtain ⟨s3, l3⟩ := Sim.still s le (by omega) h1 e1 s2
      exact ⟨_, (Wo.cut_le le).trans l3, rfl, l3.inc, s3, .lst (.inl (.inl upd_same)) (DRs.mono l3.inc _ _ e2)⟩
    · rename_i kvs hm
      cases hf
      obtain ⟨vs, e1, e2⟩ := s.cell n _ hm
      obtain ⟨s3, l3⟩ := Sim.still s le (by omega) h1 e1 s2
      exact ⟨_, (Wo.cut_le le).trans l3, rfl, l3.inc, s3, .dct upd_same (DRk.mono l3.inc _ _ e2)⟩
    · cases hf
/-- the body's reading at the entry -/
theorem body_ok {cl : Cl} {fn : Fn} {ws : List W} {vs : List V} {u : W} {mem mem' : Mem} {o : Wo} {H : Hp} {Q : VK} {N : List Str} (hN : N.length = fn.sl) (ha : fn.ar ≤ fn.sl) (hr : runF cl fn ws mem = some (u, mem')) (sm : Sim K o mem H) (rw_ : WRs K o ws vs) (hQ : ∀ z H' o', o.Le o' → Sim K o' mem' H' → WR K o' u z → Q z H') :
    tS K (evSs cl fn.body) { nx := fun _ H' => Q .non H', rt := Q } (start N vs) H := by
  unfold runF at hr
  by_cases hl : ws.length = fn.ar
  case neg => rw [if_neg hl] at hr; cases hr
  rw [if_pos hl] at hr
  obtain ⟨q, m1, e1, hr⟩ := bnd_inv hr
  obtain ⟨out, env1⟩ := q
  have er : EnvR K o (ws.map some ++ List.replicate (fn.sl - fn.ar) none) (start N vs) := by
    have hv := rw_.length
    refine ⟨?_, fun i w' hw => ?_⟩
    · unfold L2.start
      simp only [List.length_append, List.length_map, List.length_replicate]
      omega
    · have hi : i < ws.length := by
        by_cases hi : i < ws.length
        · exact hi
        · rw [List.getElem?_append_right (by simpa using hi), List.getElem?_replicate] at hw
          split at hw <;> cases hw
      rw [List.getElem?_append_left (by simpa using hi), List.getElem?_map] at hw
      obtain ⟨w2, g1, g2⟩ := map_some_inv hw
      cases g2
      obtain ⟨v, g3, r⟩ := rw_.get g1
      refine ⟨v, ?_, r⟩
      unfold L2.start
      rw [List.getElem?_append_left (by simp; omega), List.getElem?_map, g3]
      rfl
  refine ⟨_, mem, out, env1, m1, o, e1, er, sm, ?_⟩
  have hn : mem.length = o.n := sm.len
  cases hk : fn.keep with
  | true =>
    have hr : keepR out m1 = some (u, mem') := by
      rw [hk] at hr
      exact hr
    cases out with
    | next => cases hr
    | ret w' =>
      cases hr
      exact hQ
    | retT _ => cases hr
  | false =>
    have hr : (if (m1.take mem.length).all (inC mem.length) then cutR mem.length out m1 else none) = some (u, mem') := by
      rw [hk] at hr
      exact hr
    by_cases hc : (m1.take mem.length).all (inC mem.length) = true
    case neg => rw [if_neg hc] at hr; cases hr
    rw [if_pos hc] at hr
    rw [hn] at hr hc
    cases out with
    | next =>
      cases hr
      exact fun σ' H' o' le s' er' => hQ .non H' _ (Wo.cut_le le) (s'.cut le hc) (show DR K _ .non .non from .non)
    | ret w' =>
      obtain ⟨x, g1, g2⟩ := map_some_inv (show (frz o.n m1 w').map (fun x => (W.d x, m1.take o.n)) = some (u, mem') from hr)
      cases g2
      intro v H' o' le s' r
      obtain ⟨o2, l2, _, _, s2, r2⟩ := still1 s' le hc g1 r
      exact hQ v H' o2 l2 s2 r2
    | retT us =>
      cases us with
      | nil => cases hr
      | cons w' us =>
        obtain ⟨ds, g0, hr⟩ := bind_some_inv (show (allD us).bind (fun ds => (frz o.n m1 w').map fun x => (W.d (.tup (x :: ds)), m1.take o.n)) = some (u, mem') from hr)
        obtain ⟨x, g1, g2⟩ := map_some_inv hr
        cases g2
        intro vs' q H' o' le s' r hq
        cases r with
        | cons r rs =>
          obtain ⟨o2, l2, _, inc2, s2, r2⟩ := still1 s' le hc g1 r
          exact finT s2 (.cons r2 (DRs.mono inc2 _ _ (WRs.allD rs g0))) hq fun z H2 o3 l3 s3 r3 => hQ z H2 o3 (l2.trans l3) s3 r3
theorem callG_succ {f : Nat} {fn : Fn} {x : Str} {st : Stmt} {a : Addr} {fd : FuncData} (ht : tab f = some fn) (hx : fnm f = some x) (F : FunD K x x (defArgs st) (defBody st) (defScope st) [] [] a fd) (hm : mg x = some (.ref a)) (hch : chkDef f fn st = true)
    (hg : Glo K w mg) (hc : CallsG P w K mg base k (callF tab k)) : CallG P w K mg base (k + 1) (callF tab (k + 1)) f x a fd (parOf f) := by
  unfold chkDef at hch
  obtain ⟨h1, z1⟩ := and2 hch
  obtain ⟨h2, z2⟩ := and2 z1
  obtain ⟨h3, z3⟩ := and2 z2
  obtain ⟨h4, z4⟩ := and2 z3
  obtain ⟨h5, z5⟩ := and2 z4
  obtain ⟨h6, z6⟩ := and2 z5
  obtain ⟨h7, z7⟩ := and2 z6
  obtain ⟨h8, z8⟩ := and2 z7
  obtain ⟨h9, z9⟩ := and2 z8
  obtain ⟨h10, z10⟩ := and2 z9
  have hnd := of_decide_eq_true h2
  have hpre := of_decide_eq_true h3
  have hsl := of_decide_eq_true h4
  have har := of_decide_eq_true h5
  have hkd := of_decide_eq_true h6
  have hpd : (parOf f).Nodup := by rw [← hpre]; exact hnd.sublist (List.take_sublist _ _)
  have S : FnScope (namesOf f) (parOf f) (defScope st) := by
    refine ⟨hkd, by simpa using h7, by simpa using h8, hnd, hpre, fun y hy => ?_, fun y hy => of_decide_eq_true (List.all_eq_true.mp h10 y hy)⟩
    have q := List.all_eq_true.mp h9 y hy
    unfold isLoc at q
    rw [Bool.or_eq_true, decide_eq_true_eq, decide_eq_true_eq] at q
    exact q
  have hle : fn.ar ≤ fn.sl := by
    rw [← har, ← hsl, ← hpre, List.length_take]
    omega
  have ecl : ∀ ws mem, callF tab (k + 1) f ws mem = runF (callF tab k) fn ws mem := fun ws mem => by
    show (match tab f with | some fn => runF (callF tab k) fn ws mem | none => none) = _
    rw [ht]
  have kp := F.kp
  obtain ⟨oc, od, dV, kV, doc, pm, an, cdv, ct, osl, rfl, lk, hcd, hD, hK⟩ := F.ex
  have hdv : dV = .none := by
    rcases hD with ⟨_, e⟩ | ⟨e, _⟩
    · exact e
    · exact absurd rfl e
  subst hdv
  refine ⟨hm, kp, rfl, fun ws mem r h => ?_, fun s us hl => .of_eq (bind_pos h1 rfl hpd hl), fun _ s us hl => .of_eq (bind_rev h1 rfl hpd hl), ?_⟩
  · rw [ecl] at h
    unfold runF at h
    by_cases hl : ws.length = fn.ar
    · rw [hl, har]
    · rw [if_neg hl] at h; cases h
  · intro A outer s H args us vs Q hr hgd e0 hb rv hsp
    obtain ⟨ws, u, mem, mem', o, hrun, sm, rws, hQ⟩ := hsp
    rw [ecl] at hrun
    have hlen : vs.length = (parOf f).length := by
      have q : ws.length = fn.ar := by
        unfold runF at hrun
        by_cases hl : ws.length = fn.ar
        · exact hl
        · rw [if_neg hl] at hrun; cases hrun
      rw [← rws.length, q, har]
    have KX : K.In s.heap := e0.mod.kin.keeps fun b ob e => (e0.bs b ob e).1
    have lim : s.heap.NoLimit := e0.mod.nolimit.keeps fun b ob e => (e0.bs b ob e).1
    have kinds : ∀ y ∈ (parOf f).zip us, (defScope st).names.lookup y.1 = some .local ∨ ((defScope st).names.lookup y.1 = some .cell ∧ ((cellsFrom (s.heap.objs.size + 1) (defScope st).names []).lookup y.1).isSome = true) := fun y hy => by
      rcases S.par y.1 (List.of_mem_zip (show (y.1, y.2) ∈ _ from hy)).1 with q | q
      · exact .inl q
      · exact .inr ⟨q, PySem.W.cellsFrom_some _ _ _ (.inl q)⟩
    refine codeAny_call_function hr.depth (KX _ _ lk) rfl S.co S.gen rfl (PySem.W.codeRec_of KX hcd) (hb _ _ _ _ ?_)
    refine wpAny_newFunctionEnv_cells S.kind kinds fun env he s1 z => ?_
    subst he
    refine ⟨lim.keeps z.toInCall.keep, codeAny_func ?_⟩
    have I0 : Inv (cxOf noX P w K mg base (namesOf f) x (defScope st) a cdv A outer s H noE) [] (start (namesOf f) vs) H s1 := inv_start S hr.hd e0 hlen rv z
    generalize hX : cxOf noX P w K mg base (namesOf f) x (defScope st) a cdv A outer s H noE = X0 at I0
    have body : PSs X0.nox (defBody st) (tS K (evSs (callF tab k) fn.body)) := by
      cases hbad : isBad fn.body with
      | true =>
        refine ⟨fun pins s' σ' H' D' I' q => ?_⟩
        obtain ⟨env, mem, out, env', mem', o, hf, _⟩ := q
        have eb : fn.body = [.bad] := by
          unfold isBad at hbad
          split at hbad
          · assumption
          · cases hbad
        rw [eb] at hf
        cases hf
      | false =>
        rw [hbad] at z10
        have cF : CtF k (namesOf f) (defScope st) (callF tab k) X0.nox := by
          subst hX
          exact { n := rfl, nd := hnd, scp := rfl, calm := rfl, gd := hgd, room := hr.deeper _, glo := hg, calls := hc, xe := rfl, cel := fun _ _ => rfl }
        have eK : X0.nox.K = K := by subst hX; rfl
        have q := sndSs hkd cF fn.body (sts := defBody st) (by simpa using z10)
        rw [eK] at q
        exact q
    have t0 := body_ok (N := namesOf f) hsl hle hrun sm rws hQ
    have fin : ∀ {σ' : L2.St} {H' : Hp} {v : V} {u : Value} {s' : Shared}, Inv X0 [] σ' H' s' → RelV v u → Q v H' → CE outer P w H s Q u s' := fun {σ' H' v u s'} J r q => by
      subst hX
      exact ⟨v, H', J.os, J.bare, J.base, J.hok, r, q⟩
    have run := (PSs.nox body).run [] s1 (start (namesOf f) vs) H _ I0 t0
    subst hX
    refine wpAny_mono run (fun fl s' hs => ?_) fun e s' hs => hs
    cases fl with
    | ret u => obtain ⟨v, σ', H', J, r, q⟩ := hs; exact fin J r q
    | next => obtain ⟨σ', H', J, q⟩ := hs; exact fin (v := V.non) (u := Value.none) J rfl q
    | brk => obtain ⟨_, _, _, q⟩ := hs; exact q.elim
    | cont => obtain ⟨_, _, _, q⟩ := hs; exact q.elim
end
end Mi
end
section
set_option maxHeartbeats 4000000
/-! Mi27: from what is seen of the modules to what the law's call answers. -/
namespace Mi
open PySem PySem.Spec PyProof.Rows L2
section
variable {P : Program} {w : World} {K : PySem.W.Frag} {mg : Str → Option Value} {base : Heap} {k : Nat}
/-- nothing is known of a call at depth none -/
theorem callG_zero {f : Nat} {fn : Fn} {x : Str} {st : Stmt} {a : Addr} {fd : FuncData} (F : FunD K x x (defArgs st) (defBody st) (defScope st) [] [] a fd) (hm : mg x = some (.ref a)) (hch : chkDef f fn st = true) : CallG P w K mg base 0 (callF tab 0) f x a fd (parOf f) := by
  unfold chkDef at hch
  obtain ⟨h1, z1⟩ := and2 hch
  obtain ⟨h2, z2⟩ := and2 z1
  obtain ⟨h3, z3⟩ := and2 z2
  have hpre := of_decide_eq_true h3
  have hpd : (parOf f).Nodup := by rw [← hpre]; exact (of_decide_eq_true h2).sublist (List.take_sublist _ _)
  have kp := F.kp
  obtain ⟨oc, od, dV, kV, doc, pm, an, cdv, ct, osl, rfl, lk, hcd, hD, hK⟩ := F.ex
  have hdv : dV = .none := by
    rcases hD with ⟨_, e⟩ | ⟨e, _⟩
    · exact e
    · exact absurd rfl e
  subst hdv
  refine ⟨hm, kp, rfl, fun ws mem r h => ?_, fun s us hl => BindsTo.of_eq (bind_pos h1 rfl hpd hl), fun _ s us hl => BindsTo.of_eq (bind_rev h1 rfl hpd hl), fun A outer s H args us vs Q hr hgd e0 hb rv hsp => ?_⟩
  · exact absurd (show (none : Option (W × Mem)) = some r from h) (by simp)
  · obtain ⟨ws, u, mem, mem', o, h, _⟩ := hsp
    exact absurd (show (none : Option (W × Mem)) = some (u, mem') from h) (by simp)
/-- all defs -/
structure DefsOk (K : PySem.W.Frag) (mg : Str → Option Value) (top : Nat → Stmt) : Prop where
  fn : ∀ f x, fnm f = some x → ∃ fn a fd, tab f = some fn ∧ FunD K x x (defArgs (top f)) (defBody (top f)) (defScope (top f)) [] [] a fd ∧ mg x = some (.ref a) ∧ chkDef f fn (top f) = true
theorem calls_ok {top : Nat → Stmt} (d : DefsOk K mg top) (hg : Glo K w mg) : ∀ k, CallsG P w K mg base k (callF tab k)
  | 0 => fun f x hx => by
    obtain ⟨fn, a, fd, ht, F, hm, hc⟩ := d.fn f x hx
    exact ⟨a, fd, _, callG_zero F hm hc⟩
  | k + 1 => fun f x hx => by
    obtain ⟨fn, a, fd, ht, F, hm, hc⟩ := d.fn f x hx
    exact ⟨a, fd, _, callG_succ ht hx F hm hc hg (calls_ok d hg k)⟩
end
/-! ### constants -/
mutual
theorem datB_ok {K : PySem.W.Frag} : ∀ (x : Mi.D) {u : Value}, datB K x u = true → ∃ v, RelV v u ∧ ∀ G, DR K G x v
  | .int i, u, h => by
    unfold datB at h
    split at h
    · cases of_decide_eq_true h
      exact ⟨.int i, ⟨_, rfl⟩, fun _ => .int i⟩
    · cases h
  | .str x, u, h => by
    unfold datB at h
    split at h
    · cases of_decide_eq_true h
      exact ⟨.str (S.str x), ⟨_, rfl⟩, fun _ => .str x⟩
    · cases h
  | .tup xs, u, h => by
    unfold datB at h
    split at h
    · rename_i a
      split at h
      · rename_i c od its n sl hk
        obtain ⟨h1, h2⟩ := and2 h
        obtain ⟨h3, h4⟩ := and2 h2
        cases of_decide_eq_true h1
        obtain ⟨vs, r, q⟩ := datsB_ok xs h4
        have hz := of_decide_eq_true h3
        exact ⟨.ref a, rfl, fun G => .tup (.inr ⟨_, its, n, hk, rfl, rfl, by rw [sizeLine_eq]; omega, r⟩) (q G)⟩
      · cases h
    · cases h
  | .non, u, h => by unfold datB at h; cases h
  | .bl _, u, h => by unfold datB at h; cases h
  | .lst _, u, h => by unfold datB at h; cases h
  | .dct _, u, h => by unfold datB at h; cases h
  | .prs _, u, h => by unfold datB at h; cases h
theorem datsB_ok {K : PySem.W.Frag} : ∀ (xs : List Mi.D) {us : List Value}, datsB K xs us = true → ∃ vs, Vals vs us ∧ ∀ G, DRs K G xs vs
  | [], us, h => by
    unfold datsB at h
    cases us with
    | nil => exact ⟨[], .nil, fun _ => .nil⟩
    | cons _ _ => cases h
  | x :: xs, us, h => by
    unfold datsB at h
    split at h
    · obtain ⟨h1, h2⟩ := and2 h
      obtain ⟨v, r1, q1⟩ := datB_ok x h1
      obtain ⟨vs, r2, q2⟩ := datsB_ok xs h2
      exact ⟨v :: vs, .cons r1 r2, fun G => .cons (q1 G) (q2 G)⟩
    · cases h
end
theorem allW_in (wd : Wd) : wd ∈ allW := by cases wd <;> decide
theorem glo_of {K : PySem.W.Frag} {w : World} {mg : Str → Option Value} {h : Heap} (X : K.In h) (G : h.Ns mainGlobals mg) (hb : gloB K = true) (hm : ∃ es n, KDict K w (He.ga K "MADE") es n) (hn : ∀ x ∈ bnms, mg x = none) : Glo K w mg := by
  unfold gloB at hb
  obtain ⟨h1, h2⟩ := and2 hb
  obtain ⟨h2, h3⟩ := and2 h2
  refine ⟨fun k d hk => ?_, hn, ?_⟩
  · have hlt : k < 6 := by
      by_cases hk6 : k < 6
      · exact hk6
      · match k, hk6, hk with
        | k + 6, _, hk => cases hk
    have q := List.all_eq_true.mp h1 k (List.mem_range.mpr hlt)
    rw [hk] at q
    split at q
    · rename_i d' u e1 e2
      cases e1
      obtain ⟨v, r, q'⟩ := datB_ok _ q
      exact ⟨u, v, PySem.W.mg_of X G e2, r, q'⟩
    · cases q
  · obtain ⟨es, n, D⟩ := hm
    refine ⟨_, es, n, PySem.W.mg_of X G (of_decide_eq_true h2), D, fun wd => ?_⟩
    have q := List.all_eq_true.mp h3 wd (allW_in wd)
    unfold madeB at q
    split at q
    · rename_i y t u e1 e2
      refine ⟨_, e1, ?_⟩
      rw [e2]
      exact ⟨t, by rw [of_decide_eq_true q]⟩
    · rename_i e1 e2
      refine ⟨_, e1, ?_⟩
      rw [e2]
    · cases q
/-! ### the Hook -/
theorem SaysM.t {fa : List He.Fa} {fn : List He.DefD} {ts : List He.Tab} {w : World} {K : PySem.W.Frag} (c : SaysM fa fn ts w K) : He.SaysT fa fn ts w K := congrArg (fun z : He.AlT × Bool => z.1) c
theorem SaysM.b {fa : List He.Fa} {fn : List He.DefD} {ts : List He.Tab} {w : World} {K : PySem.W.Frag} (c : SaysM fa fn ts w K) : gloB K = true := congrArg (fun z : He.AlT × Bool => z.2) c
/-! ### the law's call -/
/-- from a heap in which nothing but locked lists may be known -/
theorem law_promise {K : PySem.W.Frag} {k : Nat} {H : Hp} {a : Addr} {ns : List Int} (hO : Only H) (hS : SqL K H a (ns.map V.int)) (hf : callF tab k 82 [.d (.lst (ns.map .int))] [] = some (.d (.bl true), [])) : rOfN K (callF tab k 82) [.ref a] H (fun v _ => v = .bl true) := by
  refine ⟨[.d (.lst (ns.map .int))], .d (.bl true), [], [], ⟨fun _ => 0, 0, H, fun _ => none⟩, hf, ⟨rfl, fun i c e => (by simp at e), fun i j hi => absurd hi (Nat.not_lt_zero _), fun i hi => absurd hi (Nat.not_lt_zero _), fun b u e => .inl e, fun b x e => (by cases e), fun b vs e _ => e⟩, .cons (.lst hS ?_) .nil, fun z H' o' le s r => DR.blV r⟩
  clear hf hS
  induction ns with
  | nil => exact .nil
  | cons i ns ih => exact .cons (.int i) ih
theorem law_callG {P : Program} {w : World} {K : PySem.W.Frag} {mg mb : Str → Option Value} {k : Nat} {fa a : Addr} {fd : FuncData} {x : Str} {ps : List Str} {s₁ : Shared} {vs : List Value} {ns : List Int}
    (KX : K.In s₁.heap) (hns : s₁.heap.Ns mainGlobals mg) (hb : s₁.heap.Ns builtinsNs mb) (hbb : ∀ x : Str, x ≠ "__name__" → mb x = bootBuiltins x) (hlim : s₁.heap.NoLimit) (hg : s₁.gens = #[])
    (ha : s₁.heap.get? a = some { cls := .type "list", data := .seq vs.toArray }) (hi : IntsAre vs ns) (hl : ns.length ≤ sizeLine) (hr : Room k callerA)
    (F : ∀ base : Heap, K.In base → base.Ns mainGlobals mg → CallG P w K mg base k (callF tab k) 82 x fa fd ps) (hps : ps.length = 1)
    (hsp : callF tab k 82 [.d (.lst (ns.map .int))] [] = some (.d (.bl true), [])) :
    codeAny (model P w) callerA (.call (.ref fa) ⟨[.ref a], []⟩) (fun r s' => r = .ok (.ret (.bool true)) ∧ OldK s₁.heap s'.heap ∧ s'.os = s₁.os ∧ AllBare s'.gens) s₁ := by
  have rel := vals_ints hi
  have len := hi.length
  have main : ∀ H : Hp, Only H → SqL K H a (ns.map V.int) → HOk P w H s₁.heap → (∀ b, H b ≠ none → b = a) → (H a ≠ none → K.lookup a = none) →
      codeAny (model P w) callerA (.call (.ref fa) ⟨[.ref a], []⟩) (fun r s' => r = .ok (.ret (.bool true)) ∧ OldK s₁.heap s'.heap ∧ s'.os = s₁.os ∧ AllBare s'.gens) s₁ := by
    intro H hO hS hok hA hK
    have plain : ∀ {b : Addr} {o : Obj} {es : Array DictEntry} {ep : Nat}, s₁.heap.get? b = some o → o.data = .dict es ep → H b = none := fun {b o es ep} e d => by
      cases q : H b with
      | none => rfl
      | some u =>
        have e' : b = a := hA b (by rw [q]; simp)
        rw [e', ha] at e
        cases e
        have d' : Data.seq vs.toArray _ = Data.dict es ep := d
        cases d'
    have nsB : ∀ {b : Addr} {m : Str → Option Value}, s₁.heap.Ns b m → (hidT s₁.heap H).Ns b m := fun {b m} ⟨o, es, ep, e, d, r⟩ => ⟨o, es, ep, hidT_get e (plain e d), d, r⟩
    have inB : K.In (hidT s₁.heap H) := fun b o e => hidT_get (KX b o e) (by
      cases q : H b with
      | none => rfl
      | some u =>
        have e' : b = a := hA b (by rw [q]; simp)
        rw [e', hK (by rw [← e', q]; simp)] at e
        cases e)
    obtain ⟨mc, lim1, lim2⟩ := hlim
    have md : Mod K mg (hidT s₁.heap H) := ⟨inB, nsB hns, ⟨mb, nsB hb, hbb⟩, mc, nsB lim1, lim2⟩
    have env0 : Env0 P w K mg (hidT s₁.heap H) callerA [] s₁ H := ⟨rfl, md, fun b o e => of_hidT e, Nat.le_of_eq (hidT_size _ _), trivial, fun b hb => absurd (show b ∈ ([] : List Addr) from hb) (by simp), hok, .of_eq hg⟩
    have G := F _ inB (nsB hns)
    refine codeAny_mono (G.run callerA [] s₁ H ⟨[.ref a], []⟩ [.ref a] [.ref a] _ hr rfl env0 (G.bindP s₁ [.ref a] hps.symm) (.cons rfl .nil) (law_promise hO hS hsp)) fun r s' h => ?_
    cases r with
    | error e => exact False.elim h
    | ok fl =>
      cases fl with
      | next => exact False.elim h
      | brk => exact False.elim h
      | cont => exact False.elim h
      | ret u =>
        obtain ⟨v, H', os, bare, un, hok', r', q⟩ := h
        obtain rfl : v = .bl true := q
        obtain rfl : u = Value.bool true := r'
        refine ⟨rfl, OldK.of_keep fun b o e => ?_, os, bare⟩
        cases q : H b with
        | none => exact un.keep b o e q (fun z => absurd (show b ∈ ([] : List Addr) from z) (by simp)) (by simp)
        | some u =>
          rcases hO b with z | ⟨ob, xs, z⟩
          · rw [q] at z; cases z
          · have there := hok' b _ (un.frzs b ob _ z)
            have here := hok b _ z
            have e1 : some o = some ob := e.symm.trans here.1
            cases e1
            exact there.1
  cases hk : K.lookup a with
  | some o =>
    have e := KX a o hk
    rw [ha] at e
    cases e
    exact main (fun _ => none) (fun _ => .inl rfl) (.inr ⟨_, vs.toArray, _, hk, rfl, rfl, rfl, by rw [List.size_toArray, len]; exact hl, by simpa using rel⟩) (fun b u z => absurd (show (none : Option HO) = some u from z) (by simp)) (fun b z => absurd rfl z) fun z => absurd rfl z
  | none =>
    let obj : Obj := { cls := .type "list", data := .seq vs.toArray }
    refine main (fun b => if b = a then some (.frz obj (.lst (ns.map V.int))) else none) (fun b => ?_) (.inl (.inr ⟨obj, if_pos rfl⟩)) (fun b u z => ?_) (fun b z => ?_) fun _ => hk
    · by_cases hba : b = a
      · exact .inr ⟨_, _, if_pos hba⟩
      · exact .inl (if_neg hba)
    · by_cases hba : b = a
      · cases (if_pos hba).symm.trans z
        rw [hba]
        exact ⟨ha, by rw [List.length_map]; exact hl, vs, _, rel, ha⟩
      · cases (if_neg hba).symm.trans z
    · by_cases hba : b = a
      · exact hba
      · exact absurd (if_neg hba) z
end Mi
end
section
set_option maxHeartbeats 0
/-! Mi28: the defs of the row are those of the small language. -/
namespace Mi
open PySem PySem.Spec PyProof.Rows L2
def chkF (f : Nat) : Bool := match tab f with
  | some fn => chkDef f fn (top f)
  | none => true
end Mi
end
section
/-! Mi29: the head lies in Mi0. -/
end
section
set_option maxHeartbeats 0
/-! Mi30: the row holds if the evaluator answers True at every script. -/
namespace Mi
open PySem PySem.Spec PyProof.Rows L2
theorem fnm_in : ∀ f x, fnm f = some x → f ∈ fids := by
  intro f x h
  have hlt : f < 83 := by
    by_cases hf : f < 83
    · exact hf
    · exfalso
      unfold fnm at h
      split at h <;> first | omega | cases h
  unfold fids
  rw [List.mem_filter]
  exact ⟨List.mem_range.mpr hlt, by rw [h]; rfl⟩
theorem tab_all : (fids.all fun f => (tab f).isSome) = true := by decide +kernel
theorem chk_all : (fids.all fun f => match tab f with | some fn => chkDef f fn (top f) | none => false) = true := by decide +kernel
theorem defs_ok {w : World} {K : PySem.W.Frag} {mg : Str → Option Value} {h : Heap} (X : K.In h) (G : h.Ns mainGlobals mg) (c : SaysM faL fnL tsL w K) : DefsOk K mg top := by
  refine ⟨fun f x hx => ?_⟩
  have hf := fnm_in f x hx
  have ht := List.all_eq_true.mp tab_all f hf
  have hc := List.all_eq_true.mp chk_all f hf
  cases e : tab f with
  | none => rw [e] at ht; cases ht
  | some fn =>
    rw [e] at hc
    have hn : nameF f = x := by unfold nameF; rw [hx]; rfl
    have hm : dOf f ∈ fnL := List.mem_map_of_mem hf
    obtain ⟨i, hi⟩ := List.getElem?_of_mem hm
    obtain ⟨fd, F⟩ := c.t.d.def_ i hi
    have hg : He.Fa.glo (nameF f) ∈ faL := List.mem_append_left _ (List.mem_map.mpr ⟨f, hf, rfl⟩)
    obtain ⟨j, hj⟩ := List.getElem?_of_mem hg
    have m := He.glo_ok X G (c.t.d.fact j hj)
    refine ⟨fn, He.ga K (nameF f), fd, rfl, ?_, by rw [← hn]; exact m, hc⟩
    rw [← hn]
    exact F
theorem glo_ok' {w : World} {K : PySem.W.Frag} {mg : Str → Option Value} {h : Heap} (X : K.In h) (G : h.Ns mainGlobals mg) (c : SaysM faL fnL tsL w K) : Glo K w mg := by
  refine glo_of X G c.b (c.t.tab 0 (t := (fun K => He.ga K "MADE", ["ADD", "SUB", "MUL", "AND", "OR", "XOR"])) rfl) fun x hx => ?_
  have hg : He.Fa.free x ∈ faL := List.mem_append_right _ (List.mem_map_of_mem hx)
  obtain ⟨j, hj⟩ := List.getElem?_of_mem hg
  exact He.free_ok X G (c.t.d.fact j hj)
/-- the depth of calls -/
def deep : Nat := 24
theorem room_deep : Room deep callerA := ⟨rfl, by decide, by decide⟩
end Mi
open PySem PySem.W PySem.Calls PyProof.Rows
theorem Mi.holds_of (math : ∀ ns : List Int, ns.length ≤ 63 → Mi.callF Mi.tab Mi.deep 82 [.d (.lst (ns.map .int))] [] = some (.d (.bl true), [])) : PySem.Challenge.rw_anypasses_k26_whole_rules_found_in_ops.Holds := by
  w_on; o_law
  refine HandSHeadRun.head_any (r := OpenLaw.row PySem.Challenge.rw_anypasses_k26_whole_rules_found_in_ops) (q := view (OpenLaw.row PySem.Challenge.rw_anypasses_k26_whole_rules_found_in_ops).prog [82]) (H := Mi.hk) (ob := Mi.ob) (M := 4000) (loose := Mi.looseL)
    (d := HandSHeadRun.topDef (OpenLaw.row PySem.Challenge.rw_anypasses_k26_whole_rules_found_in_ops).prog 82) (kwd := []) Mi.ob_eq
    (by kernel_rfl) (fun s => by kernel_rfl) Mi.run (by kernel_rfl) (by kernel_rfl) (by kernel_rfl) (by rfl) (by first | assumption | decide +kernel) (by decide +kernel) ⟨rfl, rfl, rfl, rfl, rfl, by decide +kernel⟩ ?hw ?hc
  case hw => w_witness2
  case hc =>
    refine _root_.Att.attach_call (l := PySem.Challenge.rw_anypasses_k26_whole_rules_found_in_ops) (n := 63) rfl (by kernel_rfl) fun w s₀ s₁ mg mb fa o pm cd doc a vs ns G Y ho hd hcd hmg hobj hints hlen hg => ?_
    obtain ⟨K, KX, c⟩ := Y
    have e : (HandSHeadRun.topDef (OpenLaw.row PySem.Challenge.rw_anypasses_k26_whole_rules_found_in_ops).prog 82).name = ("law" : PySem.Str) := by kernel_rfl
    rw [e] at hmg
    have D := Mi.defs_ok KX G.T.g c
    have Gl := Mi.glo_ok' KX G.T.g c
    obtain ⟨fn, fa', fd, ht, F, hm, hch⟩ := D.fn 82 "law" rfl
    have ea : fa = fa' := by
      rw [hmg] at hm
      cases hm
      rfl
    subst ea
    refine Mi.law_callG (k := Mi.deep) (x := "law") (fd := fd) (ps := Mi.parOf 82) KX G.T.g G.T.b G.T.builtins G.T.nolimit hg hobj hints (Nat.le_trans hlen (by decide)) Mi.room_deep (fun base hK hN => ?_) rfl (math ns hlen)
    exact Mi.callG_succ (k := 23) ht rfl F hm hch Gl (Mi.calls_ok D Gl 23)
end
section
/-! Ma1: how a def is read: one lemma for each form of the small language, for simp. -/
namespace Mi
open PySem
/-! ### what is done with a part's value -/
def kVar (x : Option (Option W)) (m : Mem) : Option (W × Mem) := match x with | some (some w) => some (w, m) | _ => none
@[simp] theorem kVar_s {w : W} {m : Mem} : kVar (some (some w)) m = some (w, m) := rfl
def kTup (x : Option (List D)) (m : Mem) : Option (W × Mem) := x.map fun xs => (.d (.tup xs), m)
@[simp] theorem kTup_s {xs : List D} {m : Mem} : kTup (some xs) m = some (.d (.tup xs), m) := rfl
def kTup1 (x : Option (List W × Mem)) : Option (W × Mem) := bnd x fun ws m => kTup (allD ws) m
@[simp] theorem kTup1_s {ws : List W} {m : Mem} : kTup1 (some (ws, m)) = kTup (allD ws) m := rfl
def kLst (x : Option (List D)) (m : Mem) : Option (W × Mem) := x.map fun xs => (.d (.lst xs), m)
@[simp] theorem kLst_s {xs : List D} {m : Mem} : kLst (some xs) m = some (.d (.lst xs), m) := rfl
def kLst1 (x : Option (List W × Mem)) : Option (W × Mem) := bnd x fun ws m => kLst (allD ws) m
@[simp] theorem kLst1_s {ws : List W} {m : Mem} : kLst1 (some (ws, m)) = kLst (allD ws) m := rfl
def kLstM (x : Option (List D)) (ws : List W) (m : Mem) : Option (W × Mem) := match x with
    | some xs => some (.r m.length, m ++ [.lst xs])
    | none => some (.r m.length, m ++ [.obj ws])
@[simp] theorem kLstM_s {xs : List D} {ws : List W} {m : Mem} : kLstM (some xs) ws m = some (.r m.length, m ++ [.lst xs]) := rfl
@[simp] theorem kLstM_n {ws : List W} {m : Mem} : kLstM none ws m = some (.r m.length, m ++ [.obj ws]) := rfl
def kLstM1 (x : Option (List W × Mem)) : Option (W × Mem) := bnd x fun ws m => kLstM (allD ws) ws m
@[simp] theorem kLstM1_s {ws : List W} {m : Mem} : kLstM1 (some (ws, m)) = kLstM (allD ws) ws m := rfl
def kCall (cl : Cl) (f : Nat) (x : Option (List W × Mem)) : Option (W × Mem) := bnd x fun ws m => cl f ws m
@[simp] theorem kCall_s {cl : Cl} {f : Nat} {ws : List W} {m : Mem} : kCall cl f (some (ws, m)) = cl f ws m := rfl
def kCallK2 (cl : Cl) (f : Nat) (x : Option (List W)) (m : Mem) : Option (W × Mem) := x.bind fun us => cl f us m
@[simp] theorem kCallK2_s {cl : Cl} {f : Nat} {ws : List W} {m : Mem} : kCallK2 cl f (some ws) m = cl f ws m := rfl
def kCallK (cl : Cl) (f : Nat) (ks : List Nat) (x : Option (List W × Mem)) : Option (W × Mem) := bnd x fun ws m => kCallK2 cl f (ks.mapM fun k => ws[k]?) m
@[simp] theorem kCallK_s {cl : Cl} {f : Nat} {ks : List Nat} {ws : List W} {m : Mem} : kCallK cl f ks (some (ws, m)) = kCallK2 cl f (ks.mapM fun k => ws[k]?) m := rfl
def kBlt (b : Blt) (x : Option (W × Mem)) : Option (W × Mem) := bnd x fun w m => bltW b w m
@[simp] theorem kBlt_s {b : Blt} {w : W} {m : Mem} : kBlt b (some (w, m)) = bltW b w m := rfl
def kMeth2 (m : Mth) (w : W) (x : Option (List W × Mem)) : Option (W × Mem) := bnd x fun ws mm => methW m w ws mm
@[simp] theorem kMeth2_s {m : Mth} {w : W} {ws : List W} {mm : Mem} : kMeth2 m w (some (ws, mm)) = methW m w ws mm := rfl
def kMeth (m : Mth) (es : List IR) (cl : Cl) (env : Env) (x : Option (W × Mem)) : Option (W × Mem) := bnd x fun w mm => if mthTy m w mm then kMeth2 m w (evEs cl es env mm) else none
@[simp] theorem kMeth_s {m : Mth} {es : List IR} {cl : Cl} {env : Env} {w : W} {mm : Mem} : kMeth m es cl env (some (w, mm)) = if mthTy m w mm then kMeth2 m w (evEs cl es env mm) else none := rfl
def kU (u : Option W) (m : Mem) : Option (W × Mem) := u.map fun u => (u, m)
@[simp] theorem kU_s {u : W} {m : Mem} : kU (some u) m = some (u, m) := rfl
def kB (u : Option Bool) (m : Mem) : Option (W × Mem) := u.map fun u => (.d (.bl u), m)
@[simp] theorem kB_s {u : Bool} {m : Mem} : kB (some u) m = some (.d (.bl u), m) := rfl
def kBin2 (op : Bop) (v : W) (x : Option (W × Mem)) : Option (W × Mem) := bnd x fun w m => kU (binW op v w) m
@[simp] theorem kBin2_s {op : Bop} {v w : W} {m : Mem} : kBin2 op v (some (w, m)) = kU (binW op v w) m := rfl
def kBin (op : Bop) (y : IR) (cl : Cl) (env : Env) (x : Option (W × Mem)) : Option (W × Mem) := bnd x fun v m => kBin2 op v (evE cl y env m)
@[simp] theorem kBin_s {op : Bop} {y : IR} {cl : Cl} {env : Env} {v : W} {m : Mem} : kBin op y cl env (some (v, m)) = kBin2 op v (evE cl y env m) := rfl
def kCmp2 (op : Cop) (v : W) (x : Option (W × Mem)) : Option (W × Mem) := bnd x fun w m => kB (cmpW op v w m) m
@[simp] theorem kCmp2_s {op : Cop} {v w : W} {m : Mem} : kCmp2 op v (some (w, m)) = kB (cmpW op v w m) m := rfl
def kCmp (op : Cop) (y : IR) (cl : Cl) (env : Env) (x : Option (W × Mem)) : Option (W × Mem) := bnd x fun v m => kCmp2 op v (evE cl y env m)
@[simp] theorem kCmp_s {op : Cop} {y : IR} {cl : Cl} {env : Env} {v : W} {m : Mem} : kCmp op y cl env (some (v, m)) = kCmp2 op v (evE cl y env m) := rfl
def kIx2 (v : W) (x : Option (W × Mem)) : Option (W × Mem) := bnd x fun w m => kU (ixW v w m) m
@[simp] theorem kIx2_s {v w : W} {m : Mem} : kIx2 v (some (w, m)) = kU (ixW v w m) m := rfl
def kIx (y : IR) (cl : Cl) (env : Env) (x : Option (W × Mem)) : Option (W × Mem) := bnd x fun v m => kIx2 v (evE cl y env m)
@[simp] theorem kIx_s {y : IR} {cl : Cl} {env : Env} {v : W} {m : Mem} : kIx y cl env (some (v, m)) = kIx2 v (evE cl y env m) := rfl
def kNeg (x : Option (W × Mem)) : Option (W × Mem) := bnd x fun v m => match v with
    | .d (.int i) => some (.d (.int (-i)), m)
    | _ => none
@[simp] theorem kNeg_s {i : Int} {m : Mem} : kNeg (some (.d (.int i), m)) = some (.d (.int (-i)), m) := rfl
def kRepr2 (neq : Bool) (v : W) (x : Option (W × Mem)) : Option (W × Mem) := bnd x fun w m => match v, w with
    | .d x, .d y => if rpD x && eqS x y then some (.d (.bl (!neq)), m) else none
    | _, _ => none
@[simp] theorem kRepr2_s {neq : Bool} {x y : D} {m : Mem} : kRepr2 neq (.d x) (some (.d y, m)) = if rpD x && eqS x y then some (.d (.bl (!neq)), m) else none := rfl
def kRepr (neq : Bool) (y : IR) (cl : Cl) (env : Env) (x : Option (W × Mem)) : Option (W × Mem) := bnd x fun v m => kRepr2 neq v (evE cl y env m)
@[simp] theorem kRepr_s {neq : Bool} {y : IR} {cl : Cl} {env : Env} {v : W} {m : Mem} : kRepr neq y cl env (some (v, m)) = kRepr2 neq v (evE cl y env m) := rfl
def kInMade (x : Option (W × Mem)) : Option (W × Mem) := bnd x fun v m => match v with
    | .d (.str [w]) => some (.d (.bl (madeW w).isSome), m)
    | _ => none
@[simp] theorem kInMade_s {w : Wd} {m : Mem} : kInMade (some (.d (.str [w]), m)) = some (.d (.bl (madeW w).isSome), m) := rfl
def kMadeU (x : Option Wd) (m : Mem) : Option (W × Mem) := x.map fun u => (.d (.str [u]), m)
@[simp] theorem kMadeU_s {w : Wd} {m : Mem} : kMadeU (some w) m = some (.d (.str [w]), m) := rfl
def kMade (x : Option (W × Mem)) : Option (W × Mem) := bnd x fun v m => match v with
    | .d (.str [w]) => kMadeU (madeW w) m
    | _ => none
@[simp] theorem kMade_s {w : Wd} {m : Mem} : kMade (some (.d (.str [w]), m)) = kMadeU (madeW w) m := rfl
def kNot (x : Option (W × Mem)) : Option (W × Mem) := bnd x fun v m => match v with
    | .d (.bl b) => some (.d (.bl (!b)), m)
    | _ => none
@[simp] theorem kNot_s {b : Bool} {m : Mem} : kNot (some (.d (.bl b), m)) = some (.d (.bl (!b)), m) := rfl
def kIte (x y : IR) (cl : Cl) (env : Env) (c : Option (W × Mem)) : Option (W × Mem) := bnd c fun v m => match v with
    | .d (.bl b) => if b then evE cl x env m else evE cl y env m
    | _ => none
@[simp] theorem kIte_s {x y : IR} {cl : Cl} {env : Env} {b : Bool} {m : Mem} : kIte x y cl env (some (.d (.bl b), m)) = if b then evE cl x env m else evE cl y env m := rfl
def kAnd (es : List IR) (cl : Cl) (env : Env) (c : Option (W × Mem)) : Option (W × Mem) := bnd c fun v m => match v with
    | .d (.bl b) => if b then evAnd cl es env m else some (.d (.bl false), m)
    | _ => none
@[simp] theorem kAnd_s {es : List IR} {cl : Cl} {env : Env} {b : Bool} {m : Mem} : kAnd es cl env (some (.d (.bl b), m)) = if b then evAnd cl es env m else some (.d (.bl false), m) := rfl
def kOr (es : List IR) (cl : Cl) (env : Env) (c : Option (W × Mem)) : Option (W × Mem) := bnd c fun v m => match v with
    | .d (.bl b) => if b then some (.d (.bl true), m) else evOr cl es env m
    | _ => none
@[simp] theorem kOr_s {es : List IR} {cl : Cl} {env : Env} {b : Bool} {m : Mem} : kOr es cl env (some (.d (.bl b), m)) = if b then some (.d (.bl true), m) else evOr cl es env m := rfl
def kSlc3 (v : W) (l : Option Int) (x : Option (Option Int × Mem)) : Option (W × Mem) := bnd x fun h m => kU (slcW v l h) m
@[simp] theorem kSlc3_s {v : W} {l h : Option Int} {m : Mem} : kSlc3 v l (some (h, m)) = kU (slcW v l h) m := rfl
def kSlc2 (v : W) (hi : Option IR) (cl : Cl) (env : Env) (x : Option (Option Int × Mem)) : Option (W × Mem) := bnd x fun l m => kSlc3 v l (evO cl hi env m)
@[simp] theorem kSlc2_s {v : W} {hi : Option IR} {cl : Cl} {env : Env} {l : Option Int} {m : Mem} : kSlc2 v hi cl env (some (l, m)) = kSlc3 v l (evO cl hi env m) := rfl
def kSlc (lo hi : Option IR) (cl : Cl) (env : Env) (x : Option (W × Mem)) : Option (W × Mem) := bnd x fun v m => kSlc2 v hi cl env (evO cl lo env m)
@[simp] theorem kSlc_s {lo hi : Option IR} {cl : Cl} {env : Env} {v : W} {m : Mem} : kSlc lo hi cl env (some (v, m)) = kSlc2 v hi cl env (evO cl lo env m) := rfl
def kRev (x : Option (W × Mem)) : Option (W × Mem) := bnd x fun v m => match v with
    | .d (.lst xs) => some (.d (.lst xs.reverse), m)
    | .d (.tup xs) => some (.d (.tup xs.reverse), m)
    | _ => none
@[simp] theorem kRev_l {xs : List D} {m : Mem} : kRev (some (.d (.lst xs), m)) = some (.d (.lst xs.reverse), m) := rfl
@[simp] theorem kRev_t {xs : List D} {m : Mem} : kRev (some (.d (.tup xs), m)) = some (.d (.tup xs.reverse), m) := rfl
def kRevM (x : Option (W × Mem)) : Option (W × Mem) := bnd x fun v m => match v with
    | .d (.lst xs) => some (.r m.length, m ++ [.lst xs.reverse])
    | _ => none
@[simp] theorem kRevM_l {xs : List D} {m : Mem} : kRevM (some (.d (.lst xs), m)) = some (.r m.length, m ++ [.lst xs.reverse]) := rfl
def kEs2 (w : W) (x : Option (List W × Mem)) : Option (List W × Mem) := bnd x fun ws m => some (w :: ws, m)
@[simp] theorem kEs2_s {w : W} {ws : List W} {m : Mem} : kEs2 w (some (ws, m)) = some (w :: ws, m) := rfl
def kEs (r : List IR) (cl : Cl) (env : Env) (x : Option (W × Mem)) : Option (List W × Mem) := bnd x fun w m => kEs2 w (evEs cl r env m)
@[simp] theorem kEs_s {r : List IR} {cl : Cl} {env : Env} {w : W} {m : Mem} : kEs r cl env (some (w, m)) = kEs2 w (evEs cl r env m) := rfl
def kC (x : Option (W × Mem)) : Option (Bool × Mem) := bnd x fun v m => match v with
    | .d (.bl b) => some (b, m)
    | _ => none
@[simp] theorem kC_s {b : Bool} {m : Mem} : kC (some (.d (.bl b), m)) = some (b, m) := rfl
def kO (x : Option (W × Mem)) : Option (Option Int × Mem) := bnd x fun v m => match v with
    | .d (.int i) => some (some i, m)
    | _ => none
@[simp] theorem kO_s {i : Int} {m : Mem} : kO (some (.d (.int i), m)) = some (some i, m) := rfl
/-! comprehensions -/
def kElt (x : Option (W × Mem)) : Option (Option D × Mem) := bnd x fun w m => match w with
    | .d y => some (some y, m)
    | .r _ => none
@[simp] theorem kElt_s {y : D} {m : Mem} : kElt (some (.d y, m)) = some (some y, m) := rfl
def kCond (elt : IR) (cl : Cl) (env : Env) (x : Option (Bool × Mem)) : Option (Option D × Mem) := bnd x fun b m => if b then kElt (evE cl elt env m) else some (none, m)
@[simp] theorem kCond_s {elt : IR} {cl : Cl} {env : Env} {b : Bool} {m : Mem} : kCond elt cl env (some (b, m)) = if b then kElt (evE cl elt env m) else some (none, m) := rfl
def kTurn (cond : List IR) (elt : IR) (cl : Cl) (m : Mem) (x : Option Env) : Option (Option D × Mem) := x.bind fun env => kCond elt cl env (evC cl cond env m)
@[simp] theorem kTurn_s {cond : List IR} {elt : IR} {cl : Cl} {m : Mem} {env : Env} : kTurn cond elt cl m (some env) = kCond elt cl env (evC cl cond env m) := rfl
def lcT1 (own : List Nat) (tg : Tg) (cond : List IR) (elt : IR) (cl : Cl) (env : Env) (x : D) (m : Mem) : Option (Option D × Mem) := kTurn cond elt cl m (setTg tg x (wipeE env own))
def kLim (x : Option (List D × Mem)) : Option (W × Mem) := bnd x fun ys m => if ys.length < lim then some (.d (.lst ys), m) else none
@[simp] theorem kLim_s {ys : List D} {m : Mem} : kLim (some (ys, m)) = if ys.length < lim then some (.d (.lst ys), m) else none := rfl
def kLc2 (own : List Nat) (tg : Tg) (cond : List IR) (elt : IR) (cl : Cl) (env : Env) (m : Mem) (x : Option (List D)) : Option (W × Mem) := x.bind fun xs => kLim (turns (lcT1 own tg cond elt cl env) snoc xs [] m)
@[simp] theorem kLc2_s {own : List Nat} {tg : Tg} {cond : List IR} {elt : IR} {cl : Cl} {env : Env} {m : Mem} {xs : List D} : kLc2 own tg cond elt cl env m (some xs) = kLim (turns (lcT1 own tg cond elt cl env) snoc xs [] m) := rfl
def kLc (own : List Nat) (tg : Tg) (k : ItK) (its cond : List IR) (elt : IR) (cl : Cl) (env : Env) (x : Option (List W × Mem)) : Option (W × Mem) := bnd x fun ws m => kLc2 own tg cond elt cl env m (itemsV k its ws)
@[simp] theorem kLc_s {own : List Nat} {tg : Tg} {k : ItK} {its cond : List IR} {elt : IR} {cl : Cl} {env : Env} {ws : List W} {m : Mem} : kLc own tg k its cond elt cl env (some (ws, m)) = kLc2 own tg cond elt cl env m (itemsV k its ws) := rfl
def kKy (v : D) (m : Mem) (x : Option Ky) : Option (Option (Ky × D) × Mem) := x.map fun k => (some (k, v), m)
@[simp] theorem kKy_s {v : D} {m : Mem} {k : Ky} : kKy v m (some k) = some (some (k, v), m) := rfl
def kKv2 (k : W) (x : Option (W × Mem)) : Option (Option (Ky × D) × Mem) := bnd x fun v m => match k, v with
      | .d k, .d v => kKy v m (kyOf k)
      | _, _ => none
@[simp] theorem kKv2_s {k v : D} {m : Mem} : kKv2 (.d k) (some (.d v, m)) = kKy v m (kyOf k) := rfl
def kKv (vx : IR) (cl : Cl) (env : Env) (x : Option (W × Mem)) : Option (Option (Ky × D) × Mem) := bnd x fun k m => kKv2 k (evE cl vx env m)
@[simp] theorem kKv_s {vx : IR} {cl : Cl} {env : Env} {k : W} {m : Mem} : kKv vx cl env (some (k, m)) = kKv2 k (evE cl vx env m) := rfl
def addKv (p : Ky × D) (acc : List (Ky × D)) : List (Ky × D) := putD acc p.1 p.2
def dcTurn (own : List Nat) (i : Nat) (kx vx : IR) (cl : Cl) (env : Env) (x : D) (m : Mem) : Option (Option (Ky × D) × Mem) := kKv vx cl ((wipeE env own).set i (some (.d x))) (evE cl kx ((wipeE env own).set i (some (.d x))) m)
def kDLim (n : Nat) (x : Option (List (Ky × D) × Mem)) : Option (W × Mem) := bnd x fun kvs m => if n < lim then some (.d (.dct kvs), m) else none
@[simp] theorem kDLim_s {n : Nat} {kvs : List (Ky × D)} {m : Mem} : kDLim n (some (kvs, m)) = if n < lim then some (.d (.dct kvs), m) else none := rfl
def kDc2 (own : List Nat) (i : Nat) (kx vx : IR) (cl : Cl) (env : Env) (m : Mem) (x : Option (List D)) : Option (W × Mem) := x.bind fun xs => kDLim xs.length (turns (dcTurn own i kx vx cl env) addKv xs [] m)
@[simp] theorem kDc2_s {own : List Nat} {i : Nat} {kx vx : IR} {cl : Cl} {env : Env} {m : Mem} {xs : List D} : kDc2 own i kx vx cl env m (some xs) = kDLim xs.length (turns (dcTurn own i kx vx cl env) addKv xs [] m) := rfl
def kDc (own : List Nat) (i : Nat) (kx vx : IR) (cl : Cl) (env : Env) (x : Option (W × Mem)) : Option (W × Mem) := bnd x fun w m => kDc2 own i kx vx cl env m (seqD w)
@[simp] theorem kDc_s {own : List Nat} {i : Nat} {kx vx : IR} {cl : Cl} {env : Env} {w : W} {m : Mem} : kDc own i kx vx cl env (some (w, m)) = kDc2 own i kx vx cl env m (seqD w) := rfl
/-! statements -/
def kNext (x : Option (Env × Mem)) : Option ((Out × Env) × Mem) := bnd x fun env m => some ((.next, env), m)
@[simp] theorem kNext_s {env : Env} {m : Mem} : kNext (some (env, m)) = some ((.next, env), m) := rfl
def kSub3 (env : Env) (x : Option Mem) : Option (Env × Mem) := x.map fun m => (env, m)
@[simp] theorem kSub3_s {env : Env} {m : Mem} : kSub3 env (some m) = some (env, m) := rfl
def kSub2 (ov w : W) (env : Env) (x : Option (W × Mem)) : Option (Env × Mem) := bnd x fun iv m => kSub3 env (setW ov iv w m)
@[simp] theorem kSub2_s {ov w iv : W} {env : Env} {m : Mem} : kSub2 ov w env (some (iv, m)) = kSub3 env (setW ov iv w m) := rfl
def kSub (i : IR) (w : W) (cl : Cl) (env : Env) (x : Option (W × Mem)) : Option (Env × Mem) := bnd x fun ov m => kSub2 ov w env (evE cl i env m)
@[simp] theorem kSub_s {i : IR} {w ov : W} {cl : Cl} {env : Env} {m : Mem} : kSub i w cl env (some (ov, m)) = kSub2 ov w env (evE cl i env m) := rfl
def kSts (ts : List Tgt) (ws : List W) (cl : Cl) (x : Option (Env × Mem)) : Option (Env × Mem) := bnd x fun env m => stTs cl ts ws env m
@[simp] theorem kSts_s {ts : List Tgt} {ws : List W} {cl : Cl} {env : Env} {m : Mem} : kSts ts ws cl (some (env, m)) = stTs cl ts ws env m := rfl
def kExpr (env : Env) (x : Option (W × Mem)) : Option ((Out × Env) × Mem) := bnd x fun _ m => some ((.next, env), m)
@[simp] theorem kExpr_s {env : Env} {w : W} {m : Mem} : kExpr env (some (w, m)) = some ((.next, env), m) := rfl
def kAsg (t : Tgt) (cl : Cl) (env : Env) (x : Option (W × Mem)) : Option ((Out × Env) × Mem) := bnd x fun w m => kNext (stT cl t w env m)
@[simp] theorem kAsg_s {t : Tgt} {cl : Cl} {env : Env} {w : W} {m : Mem} : kAsg t cl env (some (w, m)) = kNext (stT cl t w env m) := rfl
def kAsgT2 (ts : List Tgt) (cl : Cl) (env : Env) (m : Mem) (x : Option (List D)) : Option ((Out × Env) × Mem) := x.bind fun xs => kNext (stTs cl ts (xs.map .d) env m)
@[simp] theorem kAsgT2_s {ts : List Tgt} {cl : Cl} {env : Env} {m : Mem} {xs : List D} : kAsgT2 ts cl env m (some xs) = kNext (stTs cl ts (xs.map .d) env m) := rfl
def kAsgT (ts : List Tgt) (cl : Cl) (env : Env) (x : Option (W × Mem)) : Option ((Out × Env) × Mem) := bnd x fun w m => kAsgT2 ts cl env m (seqD w)
@[simp] theorem kAsgT_s {ts : List Tgt} {cl : Cl} {env : Env} {w : W} {m : Mem} : kAsgT ts cl env (some (w, m)) = kAsgT2 ts cl env m (seqD w) := rfl
def setP (env : Env) : List Nat → List W → Env
  | i :: is, w :: ws => setP (env.set i (some w)) is ws
  | _, _ => env
@[simp] theorem setP_c {env : Env} {i : Nat} {is : List Nat} {w : W} {ws : List W} : setP env (i :: is) (w :: ws) = setP (env.set i (some w)) is ws := rfl
@[simp] theorem setP_n {env : Env} {ws : List W} : setP env [] ws = env := rfl
theorem setP_fold (is : List Nat) : ∀ (ws : List W) (env : Env), (is.zip ws).foldl (fun e p => e.set p.1 (some p.2)) env = setP env is ws := by
  induction is with
  | nil => intro ws env; rfl
  | cons i is ih =>
    intro ws env
    cases ws with
    | nil => rfl
    | cons w ws => exact ih ws _
def kAsgP (is : List Nat) (env : Env) (x : Option (List W × Mem)) : Option ((Out × Env) × Mem) := bnd x fun ws m => if ws.length = is.length then some ((.next, setP env is ws), m) else none
@[simp] theorem kAsgP_s {is : List Nat} {env : Env} {ws : List W} {m : Mem} : kAsgP is env (some (ws, m)) = if ws.length = is.length then some ((.next, setP env is ws), m) else none := rfl
def kAsgD (ts : List Tgt) (cl : Cl) (env : Env) (x : Option (List W × Mem)) : Option ((Out × Env) × Mem) := bnd x fun ws m => kNext (stTs cl ts ws env m)
@[simp] theorem kAsgD_s {ts : List Tgt} {cl : Cl} {env : Env} {ws : List W} {m : Mem} : kAsgD ts cl env (some (ws, m)) = kNext (stTs cl ts ws env m) := rfl
def kIff (t f : List IS) (cl : Cl) (env : Env) (c : Option (W × Mem)) : Option ((Out × Env) × Mem) := bnd c fun v m => match v with
    | .d (.bl b) => if b then evSs cl t env m else evSs cl f env m
    | _ => none
@[simp] theorem kIff_s {t f : List IS} {cl : Cl} {env : Env} {b : Bool} {m : Mem} : kIff t f cl env (some (.d (.bl b), m)) = if b then evSs cl t env m else evSs cl f env m := rfl
def kSs (r : List IS) (cl : Cl) (x : Option ((Out × Env) × Mem)) : Option ((Out × Env) × Mem) := bnd x fun q m => match q.1 with
    | .next => evSs cl r q.2 m
    | _ => some (q, m)
@[simp] theorem kSs_n {r : List IS} {cl : Cl} {env : Env} {m : Mem} : kSs r cl (some ((.next, env), m)) = evSs cl r env m := rfl
@[simp] theorem kSs_r {r : List IS} {cl : Cl} {env : Env} {w : W} {m : Mem} : kSs r cl (some ((.ret w, env), m)) = some ((.ret w, env), m) := rfl
@[simp] theorem kSs_t {r : List IS} {cl : Cl} {env : Env} {w : List W} {m : Mem} : kSs r cl (some ((.retT w, env), m)) = some ((.retT w, env), m) := rfl
def fBody (cl : Cl) (b : List IS) (env : Env) (m : Mem) : Option ((Out × Env) × Mem) := evSs cl b env m
def kFor (tg : Tg) (k : ItK) (its : List IR) (b : List IS) (cl : Cl) (env : Env) (ws : List W) (m : Mem) (x : Option (List D)) : Option ((Out × Env) × Mem) := match x with
    | some xs => loopF (fBody cl b) tg xs env m
    | none => match k, its, ws with
      | .e, [.var _], [.r n] => match m[n]? with
        | some (.lst []) => some ((.next, env), m)
        | _ => bnd (lockM m n) fun kvs mem => bnd (loopF (fBody cl b) tg (kvs.map fun kv => kv.1.d) env mem) fun r mem => some (r, unlockM n kvs mem)
      | _, _, _ => none
@[simp] theorem kFor_s {tg : Tg} {k : ItK} {its : List IR} {b : List IS} {cl : Cl} {env : Env} {ws : List W} {m : Mem} {xs : List D} : kFor tg k its b cl env ws m (some xs) = loopF (fBody cl b) tg xs env m := rfl
def kFor1 (tg : Tg) (k : ItK) (its : List IR) (b : List IS) (cl : Cl) (env : Env) (x : Option (List W × Mem)) : Option ((Out × Env) × Mem) := bnd x fun ws m => kFor tg k its b cl env ws m (itemsV k its ws)
@[simp] theorem kFor1_s {tg : Tg} {k : ItK} {its : List IR} {b : List IS} {cl : Cl} {env : Env} {ws : List W} {m : Mem} : kFor1 tg k its b cl env (some (ws, m)) = kFor tg k its b cl env ws m (itemsV k its ws) := rfl
def kLoop2 (cl : Cl) (b : List IS) (tg : Tg) (xs : List D) (x : Option ((Out × Env) × Mem)) : Option ((Out × Env) × Mem) := bnd x fun r m => match r.1 with
    | .next => loopF (fBody cl b) tg xs r.2 m
    | _ => some (r, m)
@[simp] theorem kLoop2_n {cl : Cl} {b : List IS} {tg : Tg} {xs : List D} {env : Env} {m : Mem} : kLoop2 cl b tg xs (some ((.next, env), m)) = loopF (fBody cl b) tg xs env m := rfl
@[simp] theorem kLoop2_r {cl : Cl} {b : List IS} {tg : Tg} {xs : List D} {env : Env} {w : W} {m : Mem} : kLoop2 cl b tg xs (some ((.ret w, env), m)) = some ((.ret w, env), m) := rfl
@[simp] theorem kLoop2_t {cl : Cl} {b : List IS} {tg : Tg} {xs : List D} {env : Env} {w : List W} {m : Mem} : kLoop2 cl b tg xs (some ((.retT w, env), m)) = some ((.retT w, env), m) := rfl
def kLoop (cl : Cl) (b : List IS) (tg : Tg) (xs : List D) (m : Mem) (x : Option Env) : Option ((Out × Env) × Mem) := x.bind fun env => kLoop2 cl b tg xs (evSs cl b env m)
@[simp] theorem kLoop_s {cl : Cl} {b : List IS} {tg : Tg} {xs : List D} {m : Mem} {env : Env} : kLoop cl b tg xs m (some env) = kLoop2 cl b tg xs (evSs cl b env m) := rfl
def kRet (env : Env) (x : Option (W × Mem)) : Option ((Out × Env) × Mem) := bnd x fun w m => some ((.ret w, env), m)
@[simp] theorem kRet_s {env : Env} {w : W} {m : Mem} : kRet env (some (w, m)) = some ((.ret w, env), m) := rfl
def kRetT (env : Env) (x : Option (List W × Mem)) : Option ((Out × Env) × Mem) := bnd x fun ws m => some ((.retT ws, env), m)
@[simp] theorem kRetT_s {env : Env} {ws : List W} {m : Mem} : kRetT env (some (ws, m)) = some ((.retT ws, env), m) := rfl
section
variable {cl : Cl} {env : Env} {mem : Mem}
@[simp] theorem ev_var {i : Nat} : evE cl (.var i) env mem = kVar env[i]? mem := rfl
@[simp] theorem ev_con {x : D} : evE cl (.con x) env mem = some (.d x, mem) := rfl
@[simp] theorem ev_glob {k : Nat} : evE cl (.glob k) env mem = (globD k).map fun x => (.d x, mem) := rfl
@[simp] theorem ev_tup {es : List IR} : evE cl (.tup es) env mem = kTup1 (evEs cl es env mem) := rfl
@[simp] theorem ev_lstF {es : List IR} : evE cl (.lstF es) env mem = kLst1 (evEs cl es env mem) := rfl
@[simp] theorem ev_lstM {es : List IR} : evE cl (.lstM es) env mem = kLstM1 (evEs cl es env mem) := rfl
@[simp] theorem ev_dctM : evE cl .dctM env mem = some (.r mem.length, mem ++ [.dct []]) := rfl
@[simp] theorem ev_call {f : Nat} {es : List IR} : evE cl (.call f es) env mem = kCall cl f (evEs cl es env mem) := rfl
@[simp] theorem ev_callK {f : Nat} {ks : List Nat} {es : List IR} : evE cl (.callK f ks es) env mem = kCallK cl f ks (evEs cl es env mem) := rfl
@[simp] theorem ev_blt {b : Blt} {x : IR} : evE cl (.blt b x) env mem = kBlt b (evE cl x env mem) := rfl
@[simp] theorem ev_meth {m : Mth} {o : IR} {es : List IR} : evE cl (.meth m o es) env mem = kMeth m es cl env (evE cl o env mem) := rfl
@[simp] theorem ev_bin {op : Bop} {x y : IR} : evE cl (.bin op x y) env mem = kBin op y cl env (evE cl x env mem) := rfl
@[simp] theorem ev_neg {x : IR} : evE cl (.neg x) env mem = kNeg (evE cl x env mem) := rfl
@[simp] theorem ev_cmp {op : Cop} {x y : IR} : evE cl (.cmp op x y) env mem = kCmp op y cl env (evE cl x env mem) := rfl
@[simp] theorem ev_repr {neq : Bool} {x y : IR} : evE cl (.repr neq x y) env mem = kRepr neq y cl env (evE cl x env mem) := rfl
@[simp] theorem ev_inMade {x : IR} : evE cl (.inMade x) env mem = kInMade (evE cl x env mem) := rfl
@[simp] theorem ev_made {x : IR} : evE cl (.made x) env mem = kMade (evE cl x env mem) := rfl
@[simp] theorem ev_and {es : List IR} : evE cl (.andL es) env mem = evAnd cl es env mem := rfl
@[simp] theorem ev_or {es : List IR} : evE cl (.orL es) env mem = evOr cl es env mem := rfl
@[simp] theorem ev_not {x : IR} : evE cl (.not x) env mem = kNot (evE cl x env mem) := rfl
@[simp] theorem ev_ite {c x y : IR} : evE cl (.ite c x y) env mem = kIte x y cl env (evE cl c env mem) := rfl
@[simp] theorem ev_ix {x y : IR} : evE cl (.ix x y) env mem = kIx y cl env (evE cl x env mem) := rfl
@[simp] theorem ev_slc {x : IR} {lo hi : Option IR} : evE cl (.slc x lo hi) env mem = kSlc lo hi cl env (evE cl x env mem) := rfl
@[simp] theorem ev_rev {x : IR} : evE cl (.rev x) env mem = kRev (evE cl x env mem) := rfl
@[simp] theorem ev_revM {x : IR} : evE cl (.revM x) env mem = kRevM (evE cl x env mem) := rfl
@[simp] theorem ev_lc {own : List Nat} {tg : Tg} {k : ItK} {its cond : List IR} {elt : IR} : evE cl (.lc own tg k its cond elt) env mem = kLc own tg k its cond elt cl env (evEs cl its env mem) := rfl
@[simp] theorem ev_dc1 {own : List Nat} {i : Nat} {it kx vx : IR} : evE cl (.dc1 own i it kx vx) env mem = kDc own i kx vx cl env (evE cl it env mem) := rfl
theorem ev_dc2 {own : List Nat} {i j : Nat} {it it2 cond kx vx : IR} : evE cl (.dc2 own i j it it2 cond kx vx) env mem = bnd (evE cl it env mem) fun w mem => (seqD w).bind fun xs => match xs with
    | [y] => bnd (evE cl it2 ((wipeE env own).set i (some (.d y))) mem) fun w mem => (seqD w).bind fun xs =>
      bnd (turns (fun x mem => bnd (evE cl cond (((wipeE env own).set i (some (.d y))).set j (some (.d x))) mem) fun b mem => match b with
        | .d (.bl false) => some (none, mem)
        | .d (.bl true) => bnd (evE cl kx (((wipeE env own).set i (some (.d y))).set j (some (.d x))) mem) fun k mem => bnd (evE cl vx (((wipeE env own).set i (some (.d y))).set j (some (.d x))) mem) fun v mem => match k, v with
          | .d k, .d v => (kyOf k).map fun k => (some (k, v), mem)
          | _, _ => none
        | _ => none) (fun p acc => putD acc p.1 p.2) xs [] mem) fun kvs mem => if xs.length < lim then some (.d (.dct kvs), mem) else none
    | _ => none := rfl
@[simp] theorem evs_nil : evEs cl [] env mem = some ([], mem) := rfl
@[simp] theorem evs_cons {x : IR} {r : List IR} : evEs cl (x :: r) env mem = kEs r cl env (evE cl x env mem) := rfl
@[simp] theorem evc_nil : evC cl [] env mem = some (true, mem) := rfl
@[simp] theorem evc_one {x : IR} : evC cl [x] env mem = kC (evE cl x env mem) := rfl
@[simp] theorem evand_one {x : IR} : evAnd cl [x] env mem = evE cl x env mem := rfl
@[simp] theorem evand_cons {x y : IR} {r : List IR} : evAnd cl (x :: y :: r) env mem = kAnd (y :: r) cl env (evE cl x env mem) := rfl
@[simp] theorem evor_one {x : IR} : evOr cl [x] env mem = evE cl x env mem := rfl
@[simp] theorem evor_cons {x y : IR} {r : List IR} : evOr cl (x :: y :: r) env mem = kOr (y :: r) cl env (evE cl x env mem) := rfl
@[simp] theorem evo_none : evO cl none env mem = some (none, mem) := rfl
@[simp] theorem evo_some {x : IR} : evO cl (some x) env mem = kO (evE cl x env mem) := rfl
@[simp] theorem st_nm {i : Nat} {w : W} : stT cl (.nm i) w env mem = some (env.set i (some w), mem) := rfl
@[simp] theorem st_sub {o i : IR} {w : W} : stT cl (.sub o i) w env mem = kSub i w cl env (evE cl o env mem) := rfl
@[simp] theorem sts_nil : stTs cl [] [] env mem = some (env, mem) := rfl
@[simp] theorem sts_cons {t : Tgt} {ts : List Tgt} {w : W} {ws : List W} : stTs cl (t :: ts) (w :: ws) env mem = kSts ts ws cl (stT cl t w env mem) := rfl
@[simp] theorem es_expr {x : IR} : evS cl (.expr x) env mem = kExpr env (evE cl x env mem) := rfl
@[simp] theorem es_asg {t : Tgt} {x : IR} : evS cl (.asg t x) env mem = kAsg t cl env (evE cl x env mem) := rfl
@[simp] theorem es_asgT {ts : List Tgt} {x : IR} : evS cl (.asgT ts x) env mem = kAsgT ts cl env (evE cl x env mem) := rfl
@[simp] theorem es_asgP {is : List Nat} {es : List IR} : evS cl (.asgP is es) env mem = kAsgP is env (evEs cl es env mem) := by
  show (bnd (evEs cl es env mem) fun ws mem => if ws.length = is.length then some ((Out.next, (is.zip ws).foldl (fun e p => e.set p.1 (some p.2)) env), mem) else none) = _
  simp only [setP_fold]
  rfl
@[simp] theorem es_asgD {ts : List Tgt} {es : List IR} : evS cl (.asgD ts es) env mem = kAsgD ts cl env (evEs cl es env mem) := rfl
@[simp] theorem es_iff {c : IR} {t f : List IS} : evS cl (.iff c t f) env mem = kIff t f cl env (evE cl c env mem) := rfl
@[simp] theorem es_for {tg : Tg} {k : ItK} {its : List IR} {b : List IS} : evS cl (.forr tg k its b) env mem = kFor1 tg k its b cl env (evEs cl its env mem) := rfl
@[simp] theorem loop_nil {b : List IS} {tg : Tg} : loopF (fBody cl b) tg [] env mem = some ((.next, env), mem) := rfl
@[simp] theorem loop_cons {b : List IS} {tg : Tg} {x : D} {xs : List D} : loopF (fBody cl b) tg (x :: xs) env mem = kLoop cl b tg xs mem (setTg tg x env) := rfl
theorem es_whil {c : IR} {b : List IS} : evS cl (.whil c b) env mem = loopW (fun env mem => evE cl c env mem) (fun env mem => evSs cl b env mem) 100 env mem := rfl
@[simp] theorem es_ret {x : IR} : evS cl (.ret x) env mem = kRet env (evE cl x env mem) := rfl
@[simp] theorem es_retT {es : List IR} : evS cl (.retT es) env mem = kRetT env (evEs cl es env mem) := rfl
@[simp] theorem ess_nil : evSs cl [] env mem = some ((.next, env), mem) := rfl
@[simp] theorem ess_cons {s : IS} {r : List IS} : evSs cl (s :: r) env mem = kSs r cl (evS cl s env mem) := rfl
end

/-! ### operations -/
@[simp] theorem allD_nil : allD [] = some [] := rfl
@[simp] theorem allD_d {x : D} {r : List W} : allD (.d x :: r) = (allD r).map (x :: ·) := rfl
@[simp] theorem allD_r {n : Nat} {r : List W} : allD (.r n :: r) = none := rfl
@[simp] theorem atI_0 {α : Type} {x : α} {r : List α} : L2.atI (x :: r) 0 = some x := by
  unfold L2.atI L2.ixN
  rw [if_pos (by decide), if_pos (by simp)]
  rfl
@[simp] theorem atI_1 {α : Type} {x y : α} {r : List α} : L2.atI (x :: y :: r) 1 = some y := by
  unfold L2.atI L2.ixN
  rw [if_pos (by decide), if_pos (by simp; omega)]
  rfl
@[simp] theorem atI_2 {α : Type} {x y z : α} {r : List α} : L2.atI (x :: y :: z :: r) 2 = some z := by
  unfold L2.atI L2.ixN
  rw [if_pos (by decide), if_pos (by simp; omega)]
  rfl
@[simp] theorem atI_3 {α : Type} {x y z u : α} {r : List α} : L2.atI (x :: y :: z :: u :: r) 3 = some u := by
  unfold L2.atI L2.ixN
  rw [if_pos (by decide), if_pos (by simp; omega)]
  rfl
@[simp] theorem atI_4 {α : Type} {x y z u v : α} {r : List α} : L2.atI (x :: y :: z :: u :: v :: r) 4 = some v := by
  unfold L2.atI L2.ixN
  rw [if_pos (by decide), if_pos (by simp; omega)]
  rfl
theorem atI_nat {α : Type} {xs : List α} {i : Nat} {x : α} (h : xs[i]? = some x) : L2.atI xs (i : Int) = some x := by
  obtain ⟨hi, e⟩ := List.getElem?_eq_some_iff.mp h
  unfold L2.atI L2.ixN
  rw [if_pos (by omega), if_pos (by omega)]
  exact h
@[simp] theorem atI_m1 {α : Type} {x : α} : L2.atI [x] (-1) = some x := rfl
theorem atI_last {α : Type} {xs : List α} {x : α} : L2.atI (xs ++ [x]) (-1) = some x := by
  unfold L2.atI L2.ixN
  rw [if_neg (by decide), if_pos (by simp; omega)]
  have e : ((-1 : Int) + ((xs ++ [x]).length : Nat)).toNat = xs.length := by simp; omega
  show (xs ++ [x])[((-1 : Int) + ((xs ++ [x]).length : Nat)).toNat]? = some x
  rw [e]
  simp
@[simp] theorem ix_lst {xs : List D} {i : Int} {mem : Mem} : ixW (.d (.lst xs)) (.d (.int i)) mem = (L2.atI xs i).map .d := by
  unfold ixW; rfl
@[simp] theorem ix_tup {xs : List D} {i : Int} {mem : Mem} : ixW (.d (.tup xs)) (.d (.int i)) mem = (L2.atI xs i).map .d := by
  unfold ixW; rfl
@[simp] theorem ix_dct {kvs : List (Ky × D)} {k : D} {mem : Mem} : ixW (.d (.dct kvs)) (.d k) mem = (kyOf k).bind fun k => (lkD kvs k).map .d := by
  unfold ixW; rfl
@[simp] theorem ix_r {n : Nat} {k : D} {mem : Mem} : ixW (.r n) (.d k) mem = match mem[n]? with
    | some (.lst xs) => match k with | .int i => (L2.atI xs i).map .d | _ => none
    | some (.obj xs) => match k with | .int i => L2.atI xs i | _ => none
    | some (.dct kvs) => (kyOf k).bind fun k => (lkD kvs k).map .d
    | some (.dctL kvs) => (kyOf k).bind fun k => (lkD kvs k).map .d
    | _ => none := by
  unfold ixW; rfl
@[simp] theorem ky_int {i : Int} : kyOf (.int i) = some (.i i) := rfl
@[simp] theorem ky_str {x : List Wd} : kyOf (.str x) = some (.s x) := rfl
@[simp] theorem b_add {i j : Int} : binW .add (.d (.int i)) (.d (.int j)) = some (.d (.int (i + j))) := rfl
@[simp] theorem b_sub {i j : Int} : binW .sub (.d (.int i)) (.d (.int j)) = some (.d (.int (i - j))) := rfl
@[simp] theorem b_band {i j : Int} : binW .band (.d (.int i)) (.d (.int j)) = some (.d (.int (Builtin.bitAnd i j))) := rfl
@[simp] theorem b_bor {i j : Int} : binW .bor (.d (.int i)) (.d (.int j)) = some (.d (.int (Builtin.bitOr i j))) := rfl
@[simp] theorem b_bxor {i j : Int} : binW .bxor (.d (.int i)) (.d (.int j)) = some (.d (.int (Builtin.bitXor i j))) := rfl
theorem b_mul {i j : Int} (h : (-18446744073709551616 < i ∧ i < 18446744073709551616) ∨ (-18446744073709551616 < j ∧ j < 18446744073709551616)) : binW .mul (.d (.int i)) (.d (.int j)) = some (.d (.int (i * j))) := by
  unfold binW; exact if_pos h
theorem b_fdiv {i j : Int} (h : 0 < j) (h' : j ≤ 18446744073709551616) : binW .fdiv (.d (.int i)) (.d (.int j)) = some (.d (.int (i / j))) := by
  unfold binW; exact if_pos ⟨h, h'⟩
theorem b_mod {i j : Int} (h : 0 < j) : binW .mod (.d (.int i)) (.d (.int j)) = some (.d (.int (i % j))) := by
  unfold binW; exact if_pos h
theorem b_shl {w : Nat} (h : w ≤ 1000) : binW .shl (.d (.int 1)) (.d (.int (w : Int))) = some (.d (.int (2 ^ w))) := by
  have e : binW .shl (.d (.int 1)) (.d (.int (w : Int))) = some (.d (.int (1 * 2 ^ (w : Int).toNat))) := if_pos ⟨by omega, by omega, by omega, by omega⟩
  rw [e]
  simp
@[simp] theorem c_eq {x y : W} {mem : Mem} : cmpW .eq x y mem = eqW x y mem := rfl
@[simp] theorem c_ne {x y : W} {mem : Mem} : cmpW .ne x y mem = (eqW x y mem).map (!·) := rfl
@[simp] theorem c_in {x y : W} {mem : Mem} : cmpW .inn x y mem = inW x y mem := rfl
@[simp] theorem c_nin {x y : W} {mem : Mem} : cmpW .nin x y mem = (inW x y mem).map (!·) := rfl
@[simp] theorem c_is {x : W} {mem : Mem} : cmpW .isn x (.d .non) mem = some (isNon x) := rfl
@[simp] theorem c_isnot {x : W} {mem : Mem} : cmpW .notn x (.d .non) mem = some (!isNon x) := rfl
@[simp] theorem c_lt {i j : Int} {mem : Mem} : cmpW .lt (.d (.int i)) (.d (.int j)) mem = some (decide (i < j)) := rfl
@[simp] theorem c_le {i j : Int} {mem : Mem} : cmpW .le (.d (.int i)) (.d (.int j)) mem = some (decide (i ≤ j)) := rfl
@[simp] theorem c_gt {i j : Int} {mem : Mem} : cmpW .gt (.d (.int i)) (.d (.int j)) mem = some (decide (j < i)) := rfl
@[simp] theorem c_ge {i j : Int} {mem : Mem} : cmpW .ge (.d (.int i)) (.d (.int j)) mem = some (decide (j ≤ i)) := rfl
@[simp] theorem eq_dd {x y : D} {mem : Mem} : eqW (.d x) (.d y) mem = if shp x && shp y then some (eqD x y) else none := by
  unfold eqW; rfl
@[simp] theorem eq_ii {i j : Int} : eqD (.int i) (.int j) = decide (i = j) := rfl
@[simp] theorem eq_bb {i j : Bool} : eqD (.bl i) (.bl j) = (i == j) := rfl
@[simp] theorem eq_ss {x y : List Wd} : eqD (.str x) (.str y) = decide (x = y) := rfl
@[simp] theorem eq_is {i : Int} {y : List Wd} : eqD (.int i) (.str y) = false := rfl
@[simp] theorem eq_si {i : Int} {y : List Wd} : eqD (.str y) (.int i) = false := rfl
@[simp] theorem eq_tt {x y : List D} : eqD (.tup x) (.tup y) = eqDs x y := rfl
@[simp] theorem eq_ll {x y : List D} : eqD (.lst x) (.lst y) = eqDs x y := rfl
@[simp] theorem eqs_nn : eqDs [] [] = true := rfl
@[simp] theorem eqs_cn {x : D} {xs : List D} : eqDs (x :: xs) [] = false := rfl
@[simp] theorem eqs_nc {x : D} {xs : List D} : eqDs [] (x :: xs) = false := rfl
@[simp] theorem eqs_cc {x y : D} {xs ys : List D} : eqDs (x :: xs) (y :: ys) = (eqD x y && eqDs xs ys) := rfl
@[simp] theorem shp_int {i : Int} : shp (.int i) = true := rfl
@[simp] theorem shp_str {x : List Wd} : shp (.str x) = true := rfl
@[simp] theorem shp_non : shp .non = true := rfl
@[simp] theorem shp_bl {b : Bool} : shp (.bl b) = true := rfl
@[simp] theorem seq_l {xs : List D} : seqD (.d (.lst xs)) = some xs := rfl
@[simp] theorem seq_t {xs : List D} : seqD (.d (.tup xs)) = some xs := rfl
@[simp] theorem it_t {its : List IR} {xs : List D} : itemsV .e its [.d (.tup xs)] = some xs := by
  unfold itemsV
  split
  · next h => cases h
  · rfl
@[simp] theorem it_l {its : List IR} {xs : List D} : itemsV .e its [.d (.lst xs)] = some xs := by
  unfold itemsV
  split
  · next h => cases h
  · rfl
@[simp] theorem it_d {i : Nat} {kvs : List (Ky × D)} : itemsV .e [.var i] [.d (.dct kvs)] = some (kvs.map fun kv => kv.1.d) := rfl
@[simp] theorem it_r {its : List IR} {n : Nat} : itemsV .e its [.r n] = none := by
  unfold itemsV
  split
  · next h => cases h
  · rfl
@[simp] theorem it_rng {its : List IR} {i : Nat} (h : i ≤ 100000) : itemsV .range its [.d (.int i)] = some ((List.range i).map fun (j : Nat) => .int (j : Int)) := by
  have e : itemsV .range its [.d (.int i)] = if -100000 ≤ (i : Int) ∧ (i : Int) ≤ 100000 then some ((List.range (i : Int).toNat).map fun (j : Nat) => .int (j : Int)) else none := by
    unfold itemsV
    split
    · next h => cases h
    · rfl
  rw [e, if_pos ⟨by omega, by omega⟩]
  rfl
@[simp] theorem it_zip2 {its : List IR} {x y : W} : itemsV .zip its [x, y] = (seqD x).bind fun xs => (seqD y).map fun ys => zip2 xs ys := by
  unfold itemsV
  split
  · next h => cases h
  · rfl
@[simp] theorem it_zip3 {its : List IR} {x y z : W} : itemsV .zip its [x, y, z] = (seqD x).bind fun xs => (seqD y).bind fun ys => (seqD z).map fun zs => zip3 xs ys zs := by
  unfold itemsV
  split
  · next h => cases h
  · rfl
@[simp] theorem tg_nm {i : Nat} {x : D} {env : Env} : setTg (.nm i) x env = some (env.set i (some (.d x))) := rfl
def setT (env : Env) : List Nat → List D → Env
  | i :: is, x :: xs => setT (env.set i (some (.d x))) is xs
  | _, _ => env
@[simp] theorem setT_c {env : Env} {i : Nat} {is : List Nat} {x : D} {xs : List D} : setT env (i :: is) (x :: xs) = setT (env.set i (some (.d x))) is xs := rfl
@[simp] theorem setT_n {env : Env} {xs : List D} : setT env [] xs = env := rfl
theorem setT_fold (is : List Nat) : ∀ (xs : List D) (env : Env), (is.zip xs).foldl (fun e p => e.set p.1 (some (.d p.2))) env = setT env is xs := by
  induction is with
  | nil => intro xs env; rfl
  | cons i is ih =>
    intro xs env
    cases xs with
    | nil => rfl
    | cons w xs => exact ih xs _
@[simp] theorem tg_tp {is : List Nat} {xs : List D} {env : Env} : setTg (.tp is) (.tup xs) env = if xs.length = is.length then some (setT env is xs) else none := by
  show (if xs.length = is.length then some ((is.zip xs).foldl (fun e p => e.set p.1 (some (.d p.2))) env) else none) = _
  rw [setT_fold]
@[simp] theorem turns_nil {α : Type} {f : D → Mem → Option (Option α × Mem)} {add : α → List α → List α} {acc : List α} {mem : Mem} : turns f add [] acc mem = some (acc, mem) := rfl
def kTn {α : Type} (f : D → Mem → Option (Option α × Mem)) (add : α → List α → List α) (xs : List D) (acc : List α) (x : Option (Option α × Mem)) : Option (List α × Mem) := bnd x fun o mem => turns f add xs (match o with | some y => add y acc | none => acc) mem
@[simp] theorem kTn_s {α : Type} {f : D → Mem → Option (Option α × Mem)} {add : α → List α → List α} {xs : List D} {acc : List α} {y : α} {mem : Mem} : kTn f add xs acc (some (some y, mem)) = turns f add xs (add y acc) mem := rfl
@[simp] theorem kTn_n {α : Type} {f : D → Mem → Option (Option α × Mem)} {add : α → List α → List α} {xs : List D} {acc : List α} {mem : Mem} : kTn f add xs acc (some (none, mem)) = turns f add xs acc mem := rfl
theorem turns_cons {α : Type} {f : D → Mem → Option (Option α × Mem)} {add : α → List α → List α} {x : D} {xs : List D} {acc : List α} {mem : Mem} : turns f add (x :: xs) acc mem = kTn f add xs acc (f x mem) := rfl
@[simp] theorem in_l {x : D} {ys : List D} {mem : Mem} : inW (.d x) (.d (.lst ys)) mem = if shp x && shp (.lst ys) then some (ys.any fun z => eqD z x) else none := by
  unfold inW; rfl
@[simp] theorem in_t {x : D} {ys : List D} {mem : Mem} : inW (.d x) (.d (.tup ys)) mem = if flat x && ys.all flat then some (ys.any fun z => eqD z x) else none := by
  unfold inW; rfl
@[simp] theorem in_d {x : D} {kvs : List (Ky × D)} {mem : Mem} : inW (.d x) (.d (.dct kvs)) mem = (kyOf x).map fun k => (lkD kvs k).isSome := by
  unfold inW; rfl
@[simp] theorem in_r {x : D} {n : Nat} {mem : Mem} : inW (.d x) (.r n) mem = match mem[n]? with
    | some (.dct kvs) => (kyOf x).map fun k => (lkD kvs k).isSome
    | _ => none := by
  unfold inW; rfl
@[simp] theorem flat_i {i : Int} : flat (.int i) = true := rfl
@[simp] theorem flat_s {x : List Wd} : flat (.str x) = true := rfl
@[simp] theorem flat_n : flat .non = true := rfl
@[simp] theorem isNon_n : isNon (.d .non) = true := rfl
@[simp] theorem isNon_i {i : Int} : isNon (.d (.int i)) = false := rfl
@[simp] theorem isNon_s {x : List Wd} : isNon (.d (.str x)) = false := rfl
@[simp] theorem isNon_t {x : List D} : isNon (.d (.tup x)) = false := rfl
@[simp] theorem isNon_l {x : List D} : isNon (.d (.lst x)) = false := rfl
@[simp] theorem isNon_d {x : List (Ky × D)} : isNon (.d (.dct x)) = false := rfl
@[simp] theorem isNon_r {n : Nat} : isNon (.r n) = false := rfl

/-! ### cells -/
section
variable {mem r : Mem} {a b c d e x : Cell}
@[simp] theorem get0 : (mem ++ a :: r)[mem.length]? = some a := by simp
@[simp] theorem get1 : (mem ++ a :: b :: r)[mem.length + 1]? = some b := by simp [List.getElem?_append]
@[simp] theorem get2 : (mem ++ a :: b :: c :: r)[mem.length + 2]? = some c := by simp [List.getElem?_append]
@[simp] theorem get3 : (mem ++ a :: b :: c :: d :: r)[mem.length + 3]? = some d := by simp [List.getElem?_append]
@[simp] theorem set0 : (mem ++ a :: r).set mem.length x = mem ++ x :: r := by simp [List.set_append]
@[simp] theorem set1 : (mem ++ a :: b :: r).set (mem.length + 1) x = mem ++ a :: x :: r := by simp [List.set_append]
@[simp] theorem set2 : (mem ++ a :: b :: c :: r).set (mem.length + 2) x = mem ++ a :: b :: x :: r := by simp [List.set_append]
@[simp] theorem set3 : (mem ++ a :: b :: c :: d :: r).set (mem.length + 3) x = mem ++ a :: b :: c :: x :: r := by simp [List.set_append]
end

/-! ### a def -/
def okM (mem : Mem) : Prop := mem.all (inC mem.length) = true
theorem callF_succ {k f : Nat} {ws : List W} {mem : Mem} {fn : Fn} (h : tab f = some fn) : callF tab (k + 1) f ws mem = runF (callF tab k) fn ws mem := by
  show (match tab f with | some fn => runF (callF tab k) fn ws mem | none => none) = _
  rw [h]
def ret (x : Option ((Out × Env) × Mem)) : Option (Out × Mem) := x.map fun q => (q.1.1, q.2)
@[simp] theorem ret_some (o : Out) (env : Env) (mem : Mem) : ret (some ((o, env), mem)) = some (o, mem) := rfl
def body (cl : Cl) (f : Fn) (ws : List W) (mem : Mem) : Option (Out × Mem) := ret (evSs cl f.body (ws.map some ++ List.replicate (f.sl - f.ar) none) mem)
theorem run_of {cl : Cl} {f : Fn} {ws : List W} {mem m1 : Mem} {o : Out} (ha : ws.length = f.ar) (h : body cl f ws mem = some (o, m1)) :
    runF cl f ws mem = if f.keep then keepR o m1 else if (m1.take mem.length).all (inC mem.length) then cutR mem.length o m1 else none := by
  unfold body ret at h
  unfold runF
  rw [if_pos ha]
  cases e : evSs cl f.body (ws.map some ++ List.replicate (f.sl - f.ar) none) mem with
  | none => rw [e] at h; cases h
  | some q =>
    rw [e] at h
    obtain ⟨⟨o', env⟩, m1'⟩ := q
    cases h
    rfl
/-- a def that hands back data and leaves the cells as they are -/
theorem call_pure {k f : Nat} {ws : List W} {mem : Mem} {fn : Fn} {x : D} (ok : okM mem) (h : tab f = some fn) (ha : ws.length = fn.ar) (hk : fn.keep = false) (e : body (callF tab k) fn ws mem = some (.ret (.d x), mem)) : callF tab (k + 1) f ws mem = some (.d x, mem) := by
  rw [callF_succ h, run_of ha e, hk, if_neg (by decide), List.take_length]
  unfold okM at ok
  rw [if_pos ok]
  simp [cutR, frz]
/-- a def that leaves the caller's cells as `mem2`, hands back what `frz` knows -/
theorem call_cut {k f : Nat} {ws : List W} {mem mem2 new : Mem} {fn : Fn} {w : W} {x : D} (hl : mem2.length = mem.length) (ok : okM mem2) (h : tab f = some fn) (ha : ws.length = fn.ar) (hk : fn.keep = false) (e : body (callF tab k) fn ws mem = some (.ret w, mem2 ++ new)) (hf : frz mem.length (mem2 ++ new) w = some x) : callF tab (k + 1) f ws mem = some (.d x, mem2) := by
  rw [callF_succ h, run_of ha e, hk, if_neg (by decide)]
  have ht : (mem2 ++ new).take mem.length = mem2 := by rw [← hl]; simp
  unfold okM at ok
  rw [ht, ← hl, if_pos ok]
  show (frz mem2.length (mem2 ++ new) w).map (fun x => (W.d x, (mem2 ++ new).take mem2.length)) = _
  rw [hl, hf, ← hl]
  simp
theorem call_new {k f : Nat} {ws : List W} {mem new : Mem} {fn : Fn} {w : W} {x : D} (ok : okM mem) (h : tab f = some fn) (ha : ws.length = fn.ar) (hk : fn.keep = false) (e : body (callF tab k) fn ws mem = some (.ret w, mem ++ new)) (hf : frz mem.length (mem ++ new) w = some x) : callF tab (k + 1) f ws mem = some (.d x, mem) := call_cut rfl ok h ha hk e hf
@[simp] theorem frz_d {n : Nat} {mem : Mem} {x : D} : frz n mem (.d x) = some x := rfl
def noR : Cell → Bool
  | .obj ws => ws.all fun w => match w with
    | .r _ => false
    | .d _ => true
  | _ => true
theorem inC_noR {n : Nat} {c : Cell} (h : noR c = true) : inC n c = true := by
  cases c with
  | obj ws =>
    simp only [noR, inC, List.all_eq_true] at *
    intro w hw
    have := h w hw
    cases w with
    | d x => rfl
    | r i => simp at this
  | _ => rfl
theorem inC_mono {n m : Nat} {c : Cell} (hnm : n ≤ m) (h : inC n c = true) : inC m c = true := by
  cases c with
  | obj ws =>
    simp only [inC, List.all_eq_true] at *
    intro w hw
    have := h w hw
    cases w with
    | d x => rfl
    | r i => simp at this ⊢; omega
  | _ => rfl
theorem okM_app {mem new : Mem} (ok : okM mem) (h : new.all noR = true) : okM (mem ++ new) := by
  unfold okM at *
  rw [List.all_append, Bool.and_eq_true]
  rw [List.all_eq_true] at ok h
  refine ⟨List.all_eq_true.mpr fun c hc => inC_mono (by simp) (ok c hc), List.all_eq_true.mpr fun c hc => inC_noR (h c hc)⟩
end Mi
end
section
/-! Ma2: the arithmetic of the two programs. -/
namespace Mi
open PySem
inductive Bo where
  | add | sub | mul | udiv | sdiv | urem | srem | band | bor | bxor | shl | lshr | ashr
  deriving DecidableEq
inductive Co where
  | eq | ne | ult | ule | slt | sle
  deriving DecidableEq
inductive Ca where
  | zext | sext | trunc
  deriving DecidableEq
def Bo.w : Bo → Wd
  | add => .add | sub => .sub | mul => .mul | udiv => .udiv | sdiv => .sdiv | urem => .urem | srem => .srem
  | band => .band | bor => .bor | bxor => .bxor | shl => .shl | lshr => .lshr | ashr => .ashr
def Co.w : Co → Wd
  | eq => .eq | ne => .ne | ult => .ult | ule => .ule | slt => .slt | sle => .sle
def Ca.w : Ca → Wd
  | zext => .zext | sext => .sext | trunc => .trunc
/-- numbers of 64 bits -/
def n64 (a : Int) : Prop := 0 ≤ a ∧ a < 18446744073709551616
def wOk (w : Nat) : Prop := 1 ≤ w ∧ w ≤ 64
theorem pow_pos2 (w : Nat) : (0 : Int) < 2 ^ w := Int.pow_pos (by decide)
theorem pow_le64 {w : Nat} (h : w ≤ 64) : (2 : Int) ^ w ≤ 18446744073709551616 := by
  have : (2 : Int) ^ w ≤ 2 ^ 64 := by
    have := Nat.pow_le_pow_right (n := 2) (by decide) h
    exact_mod_cast this
  exact this
def sgn (w : Nat) (a : Int) : Int := if 2 ^ w ≤ a + a then a - 2 ^ w else a
theorem sgn_lt {w : Nat} {a : Int} (hw : w ≤ 64) (h : n64 a) : -18446744073709551616 < sgn w a ∧ sgn w a < 18446744073709551616 := by
  have := pow_le64 hw
  have := pow_pos2 w
  unfold n64 at h
  unfold sgn
  split <;> omega
theorem c_power {k w : Nat} {mem : Mem} (ok : okM mem) (hw : w ≤ 1000) : callF tab (k + 1) 44 [.d (.int w)] mem = some (.d (.int (2 ^ w)), mem) := by
  refine call_pure ok rfl rfl rfl ?_
  simp [body, fn__law_power, b_shl hw]
theorem c_signed {k w : Nat} {a : Int} {mem : Mem} (ok : okM mem) (hw : w ≤ 1000) : callF tab (k + 2) 46 [.d (.int a), .d (.int w)] mem = some (.d (.int (sgn w a)), mem) := by
  refine call_pure ok rfl rfl rfl ?_
  simp [body, fn__law_signed, c_power ok hw]
  unfold sgn
  split <;> simp
def shf (o : Bo) (w : Nat) (a : Int) (j : Nat) : Int := match o with
  | .shl => a * 2 ^ j
  | .ashr => sgn w a / 2 ^ j
  | _ => a / 2 ^ j
theorem c_shift {k w : Nat} {o : Bo} {a : Int} {j : Nat} {mem : Mem} (ok : okM mem) (hw : w ≤ 64) (hj : j ≤ 64) (ha : n64 a) (ho : o = .shl ∨ o = .lshr ∨ o = .ashr) : callF tab (k + 3) 47 [.d (.str [o.w]), .d (.int w), .d (.int a), .d (.int j)] mem = some (.d (.int (shf o w a j)), mem) := by
  refine call_pure ok rfl rfl rfl ?_
  have hw' : w ≤ 1000 := by omega
  have hj' : j ≤ 1000 := by omega
  have hp : ∀ i : Int, binW .fdiv (.d (.int i)) (.d (.int (2 ^ j))) = some (.d (.int (i / 2 ^ j))) := fun i => b_fdiv (pow_pos2 j) (pow_le64 hj)
  have hm : binW .mul (.d (.int a)) (.d (.int (2 ^ j))) = some (.d (.int (a * 2 ^ j))) := b_mul (.inl ⟨by unfold n64 at ha; omega, ha.2⟩)
  rcases ho with rfl | rfl | rfl <;> simp [body, fn__law_shift, c_power ok hj', c_signed ok hw', Bo.w, hp, hm, shf]
def quo (x y : Int) : Int := if (decide (x < 0)) = (decide (y < 0)) then (if x < 0 then -x else x) / (if y < 0 then -y else y) else 0 - (if x < 0 then -x else x) / (if y < 0 then -y else y)
def told (o : Bo) (w : Nat) (a b : Int) : Option Int := match o with
  | .add => some ((a + b) % 2 ^ w)
  | .sub => some ((a - b) % 2 ^ w)
  | .mul => some ((a * b) % 2 ^ w)
  | .band => some (Builtin.bitAnd a b)
  | .bor => some (Builtin.bitOr a b)
  | .bxor => some (Builtin.bitXor a b)
  | .shl => some (a * 2 ^ (b % w).toNat % 2 ^ w)
  | .lshr => some (a / 2 ^ (b % w).toNat % 2 ^ w)
  | .ashr => some (sgn w a / 2 ^ (b % w).toNat % 2 ^ w)
  | .udiv => if b = 0 then none else some (quo a b % 2 ^ w)
  | .urem => if b = 0 then none else some ((a - quo a b * b) % 2 ^ w)
  | .sdiv => if b = 0 then none else some (quo (sgn w a) (sgn w b) % 2 ^ w)
  | .srem => if b = 0 then none else some ((sgn w a - quo (sgn w a) (sgn w b) * sgn w b) % 2 ^ w)
def optD : Option Int → D
  | some i => .int i
  | none => .non
theorem blt_int {i : Int} {mem : Mem} : bltW .int (.d (.int i)) mem = some (.d (.int i), mem) := by unfold bltW; rfl
theorem blt_abs {i : Int} {mem : Mem} : bltW .abs (.d (.int i)) mem = some (.d (.int (if i < 0 then -i else i)), mem) := by unfold bltW; rfl
theorem c_told {k w : Nat} {o : Bo} {a b : Int} {mem : Mem} (ok : okM mem) (hw : wOk w) (ha : n64 a) (hb : n64 b) (hbw : b = 0 ∨ sgn w b ≠ 0) : callF tab (k + 4) 48 [.d (.str [o.w]), .d (.int w), .d (.int a), .d (.int b)] mem = some (.d (optD (told o w a b)), mem) := by
  refine call_pure ok rfl rfl rfl ?_
  have hw' : w ≤ 1000 := by unfold wOk at hw; omega
  have hmod : ∀ i : Int, binW .mod (.d (.int i)) (.d (.int (2 ^ w))) = some (.d (.int (i % 2 ^ w))) := fun i => b_mod (pow_pos2 w)
  have hmul : binW .mul (.d (.int a)) (.d (.int b)) = some (.d (.int (a * b))) := b_mul (.inl ⟨by unfold n64 at ha; omega, ha.2⟩)
  obtain ⟨j, ej⟩ : ∃ j : Nat, b % (w : Int) = j := ⟨(b % w).toNat, (Int.toNat_of_nonneg (Int.emod_nonneg _ (by unfold wOk at hw; omega))).symm⟩
  have hsh : binW .mod (.d (.int b)) (.d (.int w)) = some (.d (.int (j : Int))) := by
    rw [b_mod (by unfold wOk at hw; omega), ej]
  have hj : j ≤ 64 := by
    unfold wOk at hw
    have := Int.emod_lt_of_pos b (b := w) (by omega)
    omega
  have ej' : (b % (w : Int)).toNat = j := by rw [ej]; rfl
  have sa := sgn_lt hw.2 ha
  have sb := sgn_lt hw.2 hb
  have hq1 : ∀ {y : Int}, y ≠ 0 → -18446744073709551616 < y ∧ y < 18446744073709551616 → y < 0 → ∀ i : Int, binW .fdiv (.d (.int i)) (.d (.int (-y))) = some (.d (.int (i / -y))) := fun h0 h hy i => b_fdiv (by omega) (by omega)
  have hq2 : ∀ {y : Int}, y ≠ 0 → -18446744073709551616 < y ∧ y < 18446744073709551616 → ¬ y < 0 → ∀ i : Int, binW .fdiv (.d (.int i)) (.d (.int y)) = some (.d (.int (i / y))) := fun h0 h hy i => b_fdiv (by omega) (by omega)
  have hm2 : ∀ {x y : Int}, -18446744073709551616 < y ∧ y < 18446744073709551616 → binW .mul (.d (.int x)) (.d (.int y)) = some (.d (.int (x * y))) := fun h => b_mul (.inr h)
  have hb64 : -18446744073709551616 < b ∧ b < 18446744073709551616 := by unfold n64 at hb; omega
  cases o with
  | add => simp [body, fn__law_told, c_power ok hw', Bo.w, blt_int, hmod, told, optD, shp, okD, okDs, dep, deps]
  | sub => simp [body, fn__law_told, c_power ok hw', Bo.w, blt_int, hmod, told, optD, shp, okD, okDs, dep, deps]
  | band => simp [body, fn__law_told, c_power ok hw', Bo.w, blt_int, hmod, told, optD, shp, okD, okDs, dep, deps]
  | bor => simp [body, fn__law_told, c_power ok hw', Bo.w, blt_int, hmod, told, optD, shp, okD, okDs, dep, deps]
  | bxor => simp [body, fn__law_told, c_power ok hw', Bo.w, blt_int, hmod, told, optD, shp, okD, okDs, dep, deps]
  | mul => simp [body, fn__law_told, c_power ok hw', Bo.w, blt_int, hmod, told, optD, shp, okD, okDs, dep, deps, hmul]
  | shl =>
    have := c_shift (k := k) (o := .shl) ok hw.2 hj ha (by simp)
    simp only [Bo.w] at this
    simp [body, fn__law_told, c_power ok hw', Bo.w, blt_int, hmod, told, optD, shp, okD, okDs, dep, deps, hsh, this, shf, ej']
  | lshr =>
    have := c_shift (k := k) (o := .lshr) ok hw.2 hj ha (by simp)
    simp only [Bo.w] at this
    simp [body, fn__law_told, c_power ok hw', Bo.w, blt_int, hmod, told, optD, shp, okD, okDs, dep, deps, hsh, this, shf, ej']
  | ashr =>
    have := c_shift (k := k) (o := .ashr) ok hw.2 hj ha (by simp)
    simp only [Bo.w] at this
    simp [body, fn__law_told, c_power ok hw', Bo.w, blt_int, hmod, told, optD, shp, okD, okDs, dep, deps, hsh, this, shf, ej']
  | udiv =>
    by_cases h0 : b = 0
    · simp [body, fn__law_told, c_power ok hw', Bo.w, blt_int, hmod, told, optD, shp, okD, okDs, dep, deps, h0]
    · have hs0 : sgn w b ≠ 0 := hbw.resolve_left h0
      by_cases hx : a < 0 <;> by_cases hy : b < 0 <;> simp [body, fn__law_told, c_power ok hw', Bo.w, blt_int, hmod, told, optD, shp, okD, okDs, dep, deps, h0, firstW, ixW, slcW, tailW, blt_abs, hq1 h0 hb64, hq2 h0 hb64, hm2 hb64, quo, hx, hy]
  | urem =>
    by_cases h0 : b = 0
    · simp [body, fn__law_told, c_power ok hw', Bo.w, blt_int, hmod, told, optD, shp, okD, okDs, dep, deps, h0]
    · have hs0 : sgn w b ≠ 0 := hbw.resolve_left h0
      by_cases hx : a < 0 <;> by_cases hy : b < 0 <;> simp [body, fn__law_told, c_power ok hw', Bo.w, blt_int, hmod, told, optD, shp, okD, okDs, dep, deps, h0, firstW, ixW, slcW, tailW, blt_abs, hq1 h0 hb64, hq2 h0 hb64, hm2 hb64, quo, hx, hy]
  | sdiv =>
    by_cases h0 : b = 0
    · simp [body, fn__law_told, c_power ok hw', Bo.w, blt_int, hmod, told, optD, shp, okD, okDs, dep, deps, h0]
    · have hs0 : sgn w b ≠ 0 := hbw.resolve_left h0
      by_cases hx : sgn w a < 0 <;> by_cases hy : sgn w b < 0 <;> simp [body, fn__law_told, c_power ok hw', Bo.w, blt_int, hmod, told, optD, shp, okD, okDs, dep, deps, h0, firstW, ixW, slcW, tailW, blt_abs, c_signed ok hw', hq1 hs0 sb, hq2 hs0 sb, hm2 sb, quo, hx, hy]
  | srem =>
    by_cases h0 : b = 0
    · simp [body, fn__law_told, c_power ok hw', Bo.w, blt_int, hmod, told, optD, shp, okD, okDs, dep, deps, h0]
    · have hs0 : sgn w b ≠ 0 := hbw.resolve_left h0
      by_cases hx : sgn w a < 0 <;> by_cases hy : sgn w b < 0 <;> simp [body, fn__law_told, c_power ok hw', Bo.w, blt_int, hmod, told, optD, shp, okD, okDs, dep, deps, h0, firstW, ixW, slcW, tailW, blt_abs, c_signed ok hw', hq1 hs0 sb, hq2 hs0 sb, hm2 sb, quo, hx, hy]
end Mi
end
section
/-! Ma3: comparisons, casts; the program's own arithmetic. -/
namespace Mi
open PySem
def cmpB (o : Co) (w : Nat) (a b : Int) : Bool := match o with
  | .eq => decide (a = b)
  | .ne => !decide (a = b)
  | .ult => decide (a < b)
  | .ule => decide (a ≤ b)
  | .slt => decide (sgn w a < sgn w b)
  | .sle => decide (sgn w a ≤ sgn w b)
def cmpI (o : Co) (w : Nat) (a b : Int) : Int := if cmpB o w a b then 1 else 0
theorem c_compared {k w : Nat} {o : Co} {a b : Int} {mem : Mem} (ok : okM mem) (hw : wOk w) : callF tab (k + 3) 49 [.d (.str [o.w]), .d (.int w), .d (.int a), .d (.int b)] mem = some (.d (.int (cmpI o w a b)), mem) := by
  refine call_pure ok rfl rfl rfl ?_
  have hw' : w ≤ 1000 := by unfold wOk at hw; omega
  cases o with
  | eq => by_cases h : a = b <;> simp [body, fn__law_compared, Co.w, firstW, ixW, cmpI, cmpB, h]
  | ne => by_cases h : a = b <;> simp [body, fn__law_compared, Co.w, firstW, ixW, cmpI, cmpB, h]
  | ult => by_cases h : a < b <;> simp [body, fn__law_compared, Co.w, firstW, ixW, cmpI, cmpB, slcW, tailW, h]
  | ule => by_cases h : a ≤ b <;> simp [body, fn__law_compared, Co.w, firstW, ixW, cmpI, cmpB, slcW, tailW, h]
  | slt => by_cases h : sgn w a < sgn w b <;> simp [body, fn__law_compared, Co.w, firstW, ixW, cmpI, cmpB, slcW, tailW, h, c_signed ok hw']
  | sle => by_cases h : sgn w a ≤ sgn w b <;> simp [body, fn__law_compared, Co.w, firstW, ixW, cmpI, cmpB, slcW, tailW, h, c_signed ok hw']
def castI (o : Ca) (lo hi : Nat) (a : Int) : Int := match o with
  | .sext => sgn lo a % 2 ^ hi
  | _ => a % 2 ^ hi
theorem c_cast {k lo hi : Nat} {o : Ca} {a : Int} {mem : Mem} (ok : okM mem) (hl : wOk lo) (hh : wOk hi) : callF tab (k + 3) 50 [.d (.str [o.w]), .d (.int lo), .d (.int hi), .d (.int a)] mem = some (.d (.int (castI o lo hi a)), mem) := by
  refine call_pure ok rfl rfl rfl ?_
  have hl' : lo ≤ 1000 := by unfold wOk at hl; omega
  have hh' : hi ≤ 1000 := by unfold wOk at hh; omega
  have hmod : ∀ i : Int, binW .mod (.d (.int i)) (.d (.int (2 ^ hi))) = some (.d (.int (i % 2 ^ hi))) := fun i => b_mod (pow_pos2 hi)
  cases o <;> simp [body, fn__law_cast, Ca.w, castI, blt_int, c_signed ok hl', c_power ok hh', hmod]
theorem c_wrapped {k w : Nat} {a : Int} {mem : Mem} (ok : okM mem) (hw : w ≤ 1000) : callF tab (k + 1) 5 [.d (.int a), .d (.int w)] mem = some (.d (.int (a % 2 ^ w)), mem) := by
  refine call_pure ok rfl rfl rfl ?_
  simp [body, fn_wrapped, b_shl hw, b_mod (pow_pos2 w)]
/-- the operations that a right side's number may ask for -/
def mk (o : Bo) : Prop := o = .add ∨ o = .sub ∨ o = .mul ∨ o = .band ∨ o = .bor ∨ o = .bxor
theorem c_binTold {k w : Nat} {o : Bo} {a b : Int} {mem : Mem} (ok : okM mem) (hw : wOk w) (ha : n64 a) (ho : mk o) : callF tab (k + 2) 10 [.d (.str [o.w]), .d (.int w), .d (.int a), .d (.int b)] mem = some (.d (optD (told o w a b)), mem) := by
  refine call_pure ok rfl rfl rfl ?_
  have hw' : w ≤ 1000 := by unfold wOk at hw; omega
  have hmul : binW .mul (.d (.int a)) (.d (.int b)) = some (.d (.int (a * b))) := b_mul (.inl ⟨by unfold n64 at ha; omega, ha.2⟩)
  rcases ho with rfl | rfl | rfl | rfl | rfl | rfl <;> simp [body, fn_bin_told, Bo.w, globD, strsD, told, optD, c_wrapped ok hw', hmul]
end Mi
end
section
/-! Ma4: operands and operations; what both programs read of an operation. -/
namespace Mi
open PySem
@[simp] theorem atI_m3 {α : Type} {x y z : α} : L2.atI [x, y, z] (-1) = some z := rfl
inductive Opr where
  | n (i : Nat) | v (j : Nat)
  deriving DecidableEq
def Opr.D : Opr → D
  | .n i => .tup [.str [.n], .int i]
  | .v j => .tup [.str [.v], .int j]
inductive Op where
  | inp (s : Nat) | bin (o : Bo) (s : Nat) (x y : Opr) | cmp (o : Co) (s : Nat) (x y : Opr) | sel (s : Nat) (c x y : Opr) | cast (o : Ca) (lo hi : Nat) (x : Opr)
def Op.kind : Op → Wd
  | .inp _ => .input | .bin .. => .bin | .cmp .. => .cmp | .sel .. => .select | .cast .. => .cast
def Op.info : Op → List D
  | .inp s => [.int s] | .bin o s _ _ => [.str [o.w], .int s] | .cmp o s _ _ => [.str [o.w], .int s] | .sel s _ _ _ => [.int s] | .cast o lo hi _ => [.str [o.w], .int lo, .int hi]
def Op.args : Op → List Opr
  | .inp _ => [] | .bin _ _ x y => [x, y] | .cmp _ _ x y => [x, y] | .sel _ c x y => [c, x, y] | .cast _ _ _ x => [x]
def Op.asked : Op → List Nat
  | .inp _ => [] | .bin _ s _ _ => [s, s] | .cmp _ s _ _ => [s, s] | .sel s _ _ _ => [1, s, s] | .cast _ lo _ _ => [lo]
def Op.made : Op → Nat
  | .inp s => s | .bin _ s _ _ => s | .cmp .. => 1 | .sel s _ _ _ => s | .cast _ _ hi _ => hi
/-- the word of an operation that a rule may name -/
def Op.wd : Op → Option Wd
  | .inp _ => none | .bin o _ _ _ => some o.w | .cmp o _ _ _ => some o.w | .sel .. => some .select | .cast o _ _ _ => some o.w
def Bo.div : Bo → Bool
  | .udiv | .sdiv | .urem | .srem => true
  | _ => false
def Opr.pos : Opr → Bool
  | .n i => decide (0 < i)
  | .v _ => false
def Op.pure : Op → Bool
  | .inp _ => false
  | .bin o _ _ y => if o.div then y.pos else true
  | _ => true
def opD (i : Nat) (o : Op) : D := .tup [.int i, .str [o.kind], .tup o.info, .tup (o.args.map Opr.D)]
def Op.isInp : Op → Bool
  | .inp _ => true
  | _ => false
section
variable {k i : Nat} {op : Op} {mem : Mem}
theorem c_isPure (ok : okM mem) : callF tab (k + 1) 18 [.d (opD i op)] mem = some (.d (.bl op.pure), mem) := by
  refine call_pure ok rfl rfl rfl ?_
  cases op with
  | bin o s x y => cases o <;> cases y <;> simp [body, fn_is_pure, opD, Op.kind, Op.info, Op.args, Op.pure, Bo.w, Bo.div, Opr.pos, Opr.D, globD, strsD]
  | _ => simp [body, fn_is_pure, opD, Op.kind, Op.info, Op.args, Op.pure]
theorem c_pureL (ok : okM mem) : callF tab (k + 1) 64 [.d (opD i op)] mem = some (.d (.bl op.pure), mem) := by
  refine call_pure ok rfl rfl rfl ?_
  cases op with
  | bin o s x y => cases o <;> cases y <;> simp [body, fn__law_pure, opD, Op.kind, Op.info, Op.args, Op.pure, Bo.w, Bo.div, Opr.pos, Opr.D, shp, okD, okDs, dep, deps]
  | _ => simp [body, fn__law_pure, opD, Op.kind, Op.info, Op.args, Op.pure, shp, okD, okDs, dep, deps]
theorem c_pureTypes (ok : okM mem) (h : op.isInp = false) : callF tab (k + 1) 19 [.d (opD i op)] mem = some (.d (.tup [.tup (op.asked.map fun (s : Nat) => D.int s), .int op.made]), mem) := by
  refine call_pure ok rfl rfl rfl ?_
  cases op <;> simp [body, fn_pure_types, opD, Op.kind, Op.info, Op.args, Op.asked, Op.made, Op.isInp] at h ⊢
theorem c_asked (ok : okM mem) (h : op.isInp = false) : callF tab (k + 1) 63 [.d (opD i op)] mem = some (.d (.lst (op.asked.map fun (s : Nat) => D.int s)), mem) := by
  refine call_pure ok rfl rfl rfl ?_
  cases op <;> simp [body, fn__law_asked, opD, Op.kind, Op.info, Op.args, Op.asked, Op.made, Op.isInp, shp, okD, okDs, dep, deps] at h ⊢
theorem c_made (ok : okM mem) : callF tab (k + 1) 62 [.d (opD i op)] mem = some (.d (.int op.made), mem) := by
  refine call_pure ok rfl rfl rfl ?_
  cases op <;> simp [body, fn__law_made, opD, Op.kind, Op.info, Op.args, Op.asked, Op.made, shp, okD, okDs, dep, deps]
theorem c_opType {r : W} (ok : okM mem) : callF tab (k + 1) 13 [.d (opD i op), r] mem = some (.d (.int op.made), mem) := by
  refine call_pure ok rfl rfl rfl ?_
  cases op <;> simp [body, fn_op_type, opD, Op.kind, Op.info, Op.args, Op.asked, Op.made]
theorem c_wordOf {w : Wd} (ok : okM mem) (h : op.wd = some w) : callF tab (k + 1) 29 [.d (opD i op)] mem = some (.d (.str [w]), mem) := by
  refine call_pure ok rfl rfl rfl ?_
  cases op <;> simp [body, fn_word_of, opD, Op.kind, Op.info, Op.wd, bltW] at h ⊢ <;> exact h
theorem c_canBe {w : Wd} (ok : okM mem) : callF tab (k + 2) 30 [.d (opD i op), .d (.str [w])] mem = some (.d (.bl (decide (op.wd = some w))), mem) := by
  refine call_pure ok rfl rfl rfl ?_
  cases e : op.wd with
  | none => cases op <;> simp [Op.wd] at e; simp [body, fn_can_be, opD, Op.kind]
  | some w' =>
    have := c_wordOf (k := k) (i := i) ok e
    unfold opD at this
    cases op <;> simp [Op.wd] at e <;> simp [body, fn_can_be, opD, Op.kind] at this ⊢ <;> simp [this]
end
end Mi
end
section
/-! Ma5: a function's data; its operations and its types by value. -/
namespace Mi
open PySem
def opsD : Nat → List Op → List D
  | _, [] => []
  | i, o :: r => opD i o :: opsD (i + 1) r
def opsK : Nat → List Op → List (Ky × D)
  | _, [] => []
  | i, o :: r => (.i (i : Int), opD i o) :: opsK (i + 1) r
def typK : Nat → List Op → List (Ky × D)
  | _, [] => []
  | i, o :: r => (.i (i : Int), .int o.made) :: typK (i + 1) r
def retD : D := .tup [.str [.ret], .tup [.str [.n], .int 0]]
def funD (ds : List D) : D := .tup [.str [.main], .tup [], .int 8, .tup [.tup [.int 0, .tup [], .tup ds, retD]]]
def modD (ds : List D) : D := .tup [.tup [], .tup [funD ds]]
/-- all keys are numbers below i -/
def below (i : Nat) (kvs : List (Ky × D)) : Prop := ∀ p, p ∈ kvs → ∃ j : Nat, j < i ∧ p.1 = .i (j : Int)
theorem below_nil {i : Nat} : below i [] := fun p h => absurd h (by simp)
theorem below_snoc {i : Nat} {kvs : List (Ky × D)} {x : D} (h : below i kvs) : below (i + 1) (kvs ++ [(.i (i : Int), x)]) := by
  intro p hp
  rcases List.mem_append.mp hp with hp | hp
  · obtain ⟨j, h1, h2⟩ := h p hp; exact ⟨j, by omega, h2⟩
  · simp at hp; subst hp; exact ⟨i, by omega, rfl⟩
theorem putD_new {kvs : List (Ky × D)} {k : Ky} {x : D} (h : ∀ p, p ∈ kvs → p.1 ≠ k) : putD kvs k x = kvs ++ [(k, x)] := by
  unfold putD
  rw [if_neg]
  simp only [List.any_eq_true, decide_eq_true_eq, not_exists, not_and]
  exact fun p hp => h p hp
theorem lkD_new {kvs : List (Ky × D)} {k : Ky} (h : ∀ p, p ∈ kvs → p.1 ≠ k) : lkD kvs k = none := by
  unfold lkD
  rw [List.find?_eq_none.mpr]
  · rfl
  · intro p hp; simpa using h p hp
theorem below_ne {i : Nat} {kvs : List (Ky × D)} (h : below i kvs) : ∀ p, p ∈ kvs → p.1 ≠ .i (i : Int) := by
  intro p hp e
  obtain ⟨j, h1, h2⟩ := h p hp
  rw [h2] at e
  simp at e
  omega
theorem putD_below {i : Nat} {kvs : List (Ky × D)} {x : D} (h : below i kvs) : putD kvs (.i (i : Int)) x = kvs ++ [(.i (i : Int), x)] := putD_new (below_ne h)
theorem lkD_below {i : Nat} {kvs : List (Ky × D)} (h : below i kvs) : lkD kvs (.i (i : Int)) = none := lkD_new (below_ne h)
@[simp] theorem set_dct {n : Nat} {k x : D} {mem : Mem} : setW (.r n) (.d k) (.d x) mem = match mem[n]? with
    | some (.obj ys) => match k with
      | .int i => (L2.ixN ys.length i).map fun j => mem.set n (.obj (ys.set j (.d x)))
      | _ => none
    | some (.dct kvs) => (kyOf k).bind fun k => if kvs.length < lim then some (mem.set n (.dct (putD kvs k x))) else none
    | _ => none := by
  unfold setW; rfl
theorem opsK_length (ops : List Op) : ∀ i, (opsK i ops).length = ops.length := by
  induction ops with
  | nil => intro i; rfl
  | cons o r ih => intro i; simp [opsK, ih]
theorem typK_length (ops : List Op) : ∀ i, (typK i ops).length = ops.length := by
  induction ops with
  | nil => intro i; rfl
  | cons o r ih => intro i; simp [typK, ih]
theorem opsD_length (ops : List Op) : ∀ i, (opsD i ops).length = ops.length := by
  induction ops with
  | nil => intro i; rfl
  | cons o r ih => intro i; simp [opsD, ih]
/-! the law's table of operations -/
theorem loop_ops (cl : Cl) (a b : Option W) (mem : Mem) (ops : List Op) : ∀ (i : Nat) (kvs : List (Ky × D)) (x : Option W), below i kvs → kvs.length + ops.length < lim → ∃ x', loopF (fBody cl [.iff (.cmp .notn (.ix (.var 3) (.con (.int 0))) (.con .non)) [.asg (.sub (.var 1) (.ix (.var 3) (.con (.int 0)))) (.var 3)] []]) (.nm 3) (opsD i ops) [a, some (.r mem.length), b, x] (mem ++ [.dct kvs]) = some ((.next, [a, some (.r mem.length), b, x']), mem ++ [.dct (kvs ++ opsK i ops)]) := by
  induction ops with
  | nil => intro i kvs x _ _; exact ⟨x, by simp [opsD, opsK]⟩
  | cons o r ih =>
    intro i kvs x hb hl
    simp only [List.length_cons] at hl
    obtain ⟨x', e⟩ := ih (i + 1) (kvs ++ [(.i (i : Int), opD i o)]) (some (.d (opD i o))) (below_snoc hb) (by simp; omega)
    refine ⟨x', ?_⟩
    have hk : kvs.length < lim := by omega
    have h0 : L2.atI [D.int ↑i, D.str [o.kind], D.tup o.info, D.tup (o.args.map Opr.D)] 0 = some (.int ↑i) := atI_0
    simp only [opsD, loop_cons, tg_nm, opD, kLoop_s]
    simp [putD_below hb, hk, opsK]
    simpa [opD] using e
theorem c_ops {k : Nat} {ops : List Op} {mem : Mem} (ok : okM mem) (hl : ops.length < lim) : callF tab (k + 1) 75 [.d (funD (opsD 0 ops))] mem = some (.d (.dct (opsK 0 ops)), mem) := by
  obtain ⟨x', e⟩ := loop_ops (callF tab k) (some (.d (funD (opsD 0 ops)))) (some (.d (.tup [.int 0, .tup [], .tup (opsD 0 ops), retD]))) mem ops 0 [] none below_nil (by simpa using hl)
  refine call_new (new := [.dct (opsK 0 ops)]) (w := .r mem.length) ok rfl rfl rfl ?_ ?_
  · simp [body, fn__law_ops, funD] at e ⊢
    simp [e]
  · simp [frz]
end Mi
end
section
/-! Ma6: the types by value. -/
namespace Mi
open PySem
theorem okM_dct {mem : Mem} {kvs : List (Ky × D)} (ok : okM mem) : okM (mem ++ [.dct kvs]) := okM_app ok rfl
theorem loop_types (k : Nat) (a b c d e' f' : Option W) (y z : Option W) (mem : Mem) (ok : okM mem) (ops : List Op) : ∀ (i : Nat) (kvs : List (Ky × D)) (x : Option W), below i kvs → kvs.length + ops.length < lim → ∃ x', loopF (fBody (callF tab (k + 1)) [.iff (.cmp .notn (.ix (.var 6) (.con (.int 0))) (.con .non)) [.asg (.sub (.var 1) (.ix (.var 6) (.con (.int 0)))) (.call 62 [.var 6])] []]) (.nm 6) (opsD i ops) [a, some (.r mem.length), b, c, d, e', x, y, z] (mem ++ [.dct kvs]) = some ((.next, [a, some (.r mem.length), b, c, d, e', x', y, z]), mem ++ [.dct (kvs ++ typK i ops)]) := by
  induction ops with
  | nil => intro i kvs x _ _; exact ⟨x, by simp [opsD, typK]⟩
  | cons o r ih =>
    intro i kvs x hb hl
    simp only [List.length_cons] at hl
    obtain ⟨x', e⟩ := ih (i + 1) (kvs ++ [(.i (i : Int), .int o.made)]) (some (.d (opD i o))) (below_snoc hb) (by simp; omega)
    refine ⟨x', ?_⟩
    have hk : kvs.length < lim := by omega
    have hm := c_made (k := k) (i := i) (op := o) (okM_dct (kvs := kvs) ok)
    simp only [opsD, loop_cons, tg_nm, kLoop_s]
    unfold opD at hm e ⊢
    simp [putD_below hb, hk, typK, hm]
    simpa using e
theorem c_types {k : Nat} {ops : List Op} {mem : Mem} (ok : okM mem) (hl : ops.length < lim) : callF tab (k + 2) 65 [.d (funD (opsD 0 ops))] mem = some (.d (.dct (typK 0 ops)), mem) := by
  obtain ⟨x', e⟩ := loop_types k (some (.d (funD (opsD 0 ops)))) (some (.d (.int 0))) (some (.d (.tup []))) (some (.d (.tup (opsD 0 ops)))) (some (.d retD)) none none none mem ok ops 0 [] none below_nil (by simpa using hl)
  refine call_new (new := [.dct (typK 0 ops)]) (w := .r mem.length) ok rfl rfl rfl ?_ ?_
  · simp [body, fn__law_types, funD, bltW] at e ⊢
    simp [e]
  · simp [frz]
theorem loop_calls (cl : Cl) (a b c d e' f' : Option W) (mem : Mem) (ops : List Op) : ∀ (i : Nat) (x : Option W), ∃ x', loopF (fBody cl [.iff (.andL [.cmp .eq (.ix (.var 6) (.con (.int 1))) (.con (.str [.call])), .cmp .notn (.ix (.var 6) (.con (.int 0))) (.con .non)])
         [.asg (.sub (.var 4) (.ix (.var 6) (.con (.int 0)))) (.ix (.var 5) (.ix (.ix (.var 6) (.con (.int 2))) (.con (.int 0))))]
         []]) (.nm 6) (opsD i ops) [a, b, c, d, e', f', x] mem = some ((.next, [a, b, c, d, e', f', x']), mem) := by
  induction ops with
  | nil => intro i x; exact ⟨x, by simp [opsD]⟩
  | cons o r ih =>
    intro i x
    obtain ⟨x', e⟩ := ih (i + 1) (some (.d (opD i o)))
    refine ⟨x', ?_⟩
    have hk : ¬ o.kind = .call := by cases o <;> simp [Op.kind]
    simp only [opsD, loop_cons, tg_nm, kLoop_s]
    unfold opD at e ⊢
    simp [hk]
    simpa using e
theorem c_allTypes {k : Nat} {ops : List Op} {mem : Mem} (ok : okM mem) (hl : ops.length < lim) : callF tab (k + 3) 66 [.d (modD (opsD 0 ops)), .d (funD (opsD 0 ops))] mem = some (.d (.dct (typK 0 ops)), mem) := by
  have ht := c_types (k := k) ok hl
  obtain ⟨x', e⟩ := loop_calls (callF tab (k + 2)) (some (.d (modD (opsD 0 ops)))) (some (.d (funD (opsD 0 ops)))) (some (.d (funD (opsD 0 ops)))) (some (.d (.tup [.int 0, .tup [], .tup (opsD 0 ops), retD]))) (some (.d (.dct (typK 0 ops)))) (some (.r mem.length)) (mem ++ [.dct [(.s [.main], .int 8)]]) ops 0 none
  have hlim : (0 : Nat) < lim := by unfold lim; omega
  refine call_new (new := [.dct [(.s [.main], .int 8)]]) (w := .d (.dct (typK 0 ops))) ok rfl rfl rfl ?_ ?_
  · simp [body, fn__law_all_types, funD, modD, bltW, putD] at e ht ⊢
    simp [ht, putD, hlim]
    simp [e]
  · simp [frz]
/-! the program's -/
theorem c_resultsOf {k : Nat} {ds : List D} {mem : Mem} (ok : okM mem) : callF tab (k + 1) 12 [.d (modD ds)] mem = some (.d (.dct [(.s [.main], .int 8)]), mem) := by
  refine call_pure ok rfl rfl rfl ?_
  have hlim : (1 : Nat) < lim := by unfold lim; omega
  simp [body, fn_results_of, funD, modD, turns_cons, dcTurn, wipeE, addKv, putD, hlim]
@[simp] theorem mSetd {n : Nat} {k x : D} {mem : Mem} : methW .setdefault (.r n) [.d k, .d x] mem = match mem[n]? with
    | some (.dct kvs) => (kyOf k).bind fun k => if kvs.length < lim then match lkD kvs k with
      | some y => some (.d y, mem)
      | none => some (.d x, mem.set n (.dct (kvs ++ [(k, x)]))) else none
    | _ => none := by
  unfold methW; rfl
theorem loop_table (k : Nat) (a rs b : Option W) (R : W) (y z : Option W) (mem : Mem) (ok : okM mem) (ops : List Op) : ∀ (i : Nat) (kvs : List (Ky × D)) (x : Option W), below i kvs → kvs.length + ops.length < lim → ∃ x', loopF (fBody (callF tab (k + 1)) [.iff (.cmp .notn (.ix (.var 4) (.con (.int 0))) (.con .non))
         [.expr (.meth .setdefault (.var 2) [.ix (.var 4) (.con (.int 0)), .call 13 [.var 4, .var 1]])]
         []]) (.nm 4) (opsD i ops) [a, some R, some (.r mem.length), b, x, y, z] (mem ++ [.dct kvs]) = some ((.next, [a, some R, some (.r mem.length), b, x', y, z]), mem ++ [.dct (kvs ++ typK i ops)]) := by
  induction ops with
  | nil => intro i kvs x _ _; exact ⟨x, by simp [opsD, typK]⟩
  | cons o r ih =>
    intro i kvs x hb hl
    simp only [List.length_cons] at hl
    obtain ⟨x', e⟩ := ih (i + 1) (kvs ++ [(.i (i : Int), .int o.made)]) (some (.d (opD i o))) (below_snoc hb) (by simp; omega)
    refine ⟨x', ?_⟩
    have hk : kvs.length < lim := by omega
    have hm := c_opType (k := k) (i := i) (op := o) (r := R) (okM_dct (kvs := kvs) ok)
    simp only [opsD, loop_cons, tg_nm, kLoop_s]
    unfold opD at hm e ⊢
    simp [lkD_below hb, hk, typK, hm, mthTy]
    simpa using e
theorem c_typeTable {k : Nat} {ops : List Op} {R : D} {mem : Mem} (ok : okM mem) (hl : ops.length < lim) : callF tab (k + 2) 14 [.d (funD (opsD 0 ops)), .d R] mem = some (.d (.dct (typK 0 ops)), mem) := by
  obtain ⟨x', e⟩ := loop_table k (some (.d (funD (opsD 0 ops)))) (some (.d R)) (some (.d (.tup [.int 0, .tup [], .tup (opsD 0 ops), retD]))) (.d R) none none mem ok ops 0 [] none below_nil (by simpa using hl)
  refine call_new (new := [.dct (typK 0 ops)]) (w := .r mem.length) ok rfl rfl rfl ?_ ?_
  · simp [body, fn_type_table, funD, bltW] at e ⊢
    simp [e]
  · simp [frz]
end Mi
end
section
/-! Ma7: the program's table of operations; the types as pairs. -/
namespace Mi
open PySem
theorem turns_ops {f : D → Mem → Option (Option (Ky × D) × Mem)} {mem : Mem} (hf : ∀ (i : Nat) (o : Op), f (opD i o) mem = some (some (.i (i : Int), opD i o), mem)) (ops : List Op) : ∀ (i : Nat) (acc : List (Ky × D)), below i acc → turns f (fun p acc => putD acc p.1 p.2) (opsD i ops) acc mem = some (acc ++ opsK i ops, mem) := by
  induction ops with
  | nil => intro i acc _; simp [opsD, opsK]
  | cons o r ih =>
    intro i acc hb
    have e := ih (i + 1) (acc ++ [(.i (i : Int), opD i o)]) (below_snoc hb)
    rw [opsD, turns_cons, hf i o, kTn_s, putD_below hb, e]
    simp [opsK]
theorem c_opsByValue {k : Nat} {ops : List Op} {mem : Mem} (ok : okM mem) (hl : ops.length < lim) : callF tab (k + 1) 28 [.d (funD (opsD 0 ops))] mem = some (.d (.dct (opsK 0 ops)), mem) := by
  refine call_pure ok rfl rfl rfl ?_
  have e := fun f hf => turns_ops (f := f) (mem := mem) hf ops 0 [] below_nil
  have hl' : (opsD 0 ops).length < lim := by rw [opsD_length]; exact hl
  simp [body, fn_ops_by_value, funD, ev_dc2, wipeE]
  rw [e]
  · simp [opsD_length, hl]
  · intro i o
    simp [opD]
/-! sorted keys -/
def keysD : Nat → Nat → List D
  | _, 0 => []
  | i, n + 1 => .int i :: keysD (i + 1) n
theorem kyd_i {i : Int} : (Ky.i i).d = .int i := rfl
theorem kyd_s {x : List Wd} : (Ky.s x).d = .str x := rfl
theorem typK_keys (ops : List Op) : ∀ i, (typK i ops).map (fun kv => kv.1.d) = keysD i ops.length := by
  induction ops with
  | nil => intro i; rfl
  | cons o r ih => intro i; simp [typK, keysD, ih, kyd_i]
theorem keysD_mem {n : Nat} : ∀ {i : Nat} {x : D}, x ∈ keysD i n → ∃ j : Nat, i ≤ j ∧ j < i + n ∧ x = .int j := by
  induction n with
  | zero => intro i x h; simp [keysD] at h
  | succ n ih =>
    intro i x h
    simp only [keysD, List.mem_cons] at h
    rcases h with rfl | h
    · exact ⟨i, by omega, by omega, rfl⟩
    · obtain ⟨j, h1, h2, h3⟩ := ih h
      exact ⟨j, by omega, by omega, h3⟩
theorem keysD_length (n : Nat) : ∀ i, (keysD i n).length = n := by
  induction n with
  | zero => intro i; rfl
  | succ n ih => intro i; simp [keysD, ih]
theorem keysD_get (n : Nat) : ∀ {i j : Nat}, j < n → (keysD i n)[j]? = some (.int ((i + j : Nat) : Int)) := by
  induction n with
  | zero => intro i j h; omega
  | succ n ih =>
    intro i j h
    cases j with
    | zero => simp [keysD]
    | succ j =>
      have := ih (i := i + 1) (j := j) (by omega)
      rw [keysD, List.getElem?_cons_succ, this]
      congr 3
      omega
theorem dataLe_ints {i j : Int} (h : i ≤ j) : PySem.W.dataLe false D.toP (.int i) (.int j) = true := by
  simp only [PySem.W.dataLe, PySem.W.sortLe, D.toP, PySem.W.keyToks]
  simp [PyProof.Rows.lexLt, PyProof.Rows.itemOrd]
  simp [PyProof.Rows.itemLt]
  omega
theorem keysD_sorted (n : Nat) : ∀ i, (keysD i n).Pairwise fun x y => PySem.W.dataLe false D.toP x y = true := by
  induction n with
  | zero => intro i; exact .nil
  | succ n ih =>
    intro i
    refine .cons ?_ (ih (i + 1))
    intro y hy
    obtain ⟨j, h1, h2, rfl⟩ := keysD_mem hy
    exact dataLe_ints (by omega)
theorem sort_keys {i n : Nat} (h : n < lim) : sortD (keysD i n) = some (keysD i n) := by
  unfold sortD
  rw [if_pos, List.mergeSort_of_pairwise (keysD_sorted n i)]
  simp only [Bool.and_eq_true, Bool.or_eq_true, List.all_eq_true, decide_eq_true_eq]
  refine ⟨fun x hx y hy => ?_, fun x hx => ?_, .inr fun x hx => ?_, by rw [keysD_length]; exact h⟩
  · obtain ⟨a, _, _, rfl⟩ := keysD_mem hx
    obtain ⟨b, _, _, rfl⟩ := keysD_mem hy
    simp [D.toP, PySem.W.alike]
  · obtain ⟨a, _, _, rfl⟩ := keysD_mem hx
    rfl
  · obtain ⟨a, _, _, rfl⟩ := keysD_mem hx
    rfl
theorem blt_sortedD {kvs : List (Ky × D)} {mem : Mem} : bltW .sorted (.d (.dct kvs)) mem = (sortD (kvs.map fun kv => kv.1.d)).map fun ys => (.d (.lst ys), mem) := by unfold bltW; rfl
theorem blt_sorted {xs : List D} {mem : Mem} : bltW .sorted (.d (.lst xs)) mem = (sortD xs).map fun ys => (.d (.lst ys), mem) := by unfold bltW; rfl
theorem blt_listD {kvs : List (Ky × D)} {mem : Mem} : bltW .list (.d (.dct kvs)) mem = some (.d (.lst (kvs.map fun kv => kv.1.d)), mem) := by unfold bltW; rfl
theorem blt_tupleP {xs : List D} {mem : Mem} : bltW .tupleP (.d (.lst xs)) mem = (pairsD xs).map fun kvs => (.d (.prs kvs), mem) := by unfold bltW; rfl
theorem blt_dict {kvs : List (Ky × D)} {mem : Mem} : bltW .dict (.d (.prs kvs)) mem = if kvs.length < lim then some (.r mem.length, mem ++ [.dct (kvs.foldl (fun acc kv => putD acc kv.1 kv.2) [])]) else none := by unfold bltW; rfl
/-! what the tables hold -/
theorem lk_cons {k : Ky} {x : D} {kvs : List (Ky × D)} {q : Ky} : lkD ((k, x) :: kvs) q = if k = q then some x else lkD kvs q := by
  unfold lkD
  rw [List.find?_cons]
  by_cases h : k = q <;> simp [h]
@[simp] theorem lk_nil {q : Ky} : lkD [] q = none := rfl
theorem lk_typK {ops : List Op} : ∀ {i j : Nat} {o : Op}, ops[j]? = some o → lkD (typK i ops) (.i ((i + j : Nat) : Int)) = some (.int o.made) := by
  induction ops with
  | nil => intro i j o h; simp at h
  | cons o' r ih =>
    intro i j o h
    rw [typK, lk_cons]
    cases j with
    | zero => simp at h; subst h; simp
    | succ j =>
      rw [if_neg (by simp; omega)]
      have := ih (i := i + 1) (j := j) (o := o) (by simpa using h)
      rw [show i + (j + 1) = i + 1 + j by omega]
      exact this
theorem lk_opsK {ops : List Op} : ∀ {i j : Nat} {o : Op}, ops[j]? = some o → lkD (opsK i ops) (.i ((i + j : Nat) : Int)) = some (opD (i + j) o) := by
  induction ops with
  | nil => intro i j o h; simp at h
  | cons o' r ih =>
    intro i j o h
    rw [opsK, lk_cons]
    cases j with
    | zero => simp at h; subst h; simp
    | succ j =>
      rw [if_neg (by simp; omega)]
      have := ih (i := i + 1) (j := j) (o := o) (by simpa using h)
      rw [show i + (j + 1) = i + 1 + j by omega]
      exact this
theorem lk_opsK_none {ops : List Op} : ∀ {i j : Nat}, ops.length ≤ j → lkD (opsK i ops) (.i ((i + j : Nat) : Int)) = none := by
  induction ops with
  | nil => intro i j h; rfl
  | cons o' r ih =>
    intro i j h
    rw [opsK, lk_cons]
    simp at h
    rw [if_neg (by simp; omega)]
    have := ih (i := i + 1) (j := j - 1) (by omega)
    rw [show i + j = i + 1 + (j - 1) by omega]
    exact this
def prD (p : Ky × D) : D := .tup [p.1.d, p.2]
theorem typK_pairs (ops : List Op) : ∀ i, pairsD ((typK i ops).map prD) = some (typK i ops) := by
  induction ops with
  | nil => intro i; rfl
  | cons o r ih =>
    intro i
    simp only [typK, List.map_cons, prD, kyd_i, pairsD, ky_int, Option.bind_some]
    rw [ih (i + 1)]
    rfl
theorem fold_typK (ops : List Op) : ∀ (i : Nat) (acc : List (Ky × D)), below i acc → (typK i ops).foldl (fun acc kv => putD acc kv.1 kv.2) acc = acc ++ typK i ops := by
  induction ops with
  | nil => intro i acc _; simp [typK]
  | cons o r ih =>
    intro i acc hb
    simp only [typK, List.foldl_cons, putD_below hb]
    rw [ih (i + 1) _ (below_snoc hb)]
    simp
theorem turns_map {α : Type} {f : D → Mem → Option (Option α × Mem)} {g : D → α} {mem : Mem} (xs : List D) : ∀ (acc : List α), (∀ x, x ∈ xs → f x mem = some (some (g x), mem)) → turns f snoc xs acc mem = some (acc ++ xs.map g, mem) := by
  induction xs with
  | nil => intro acc _; simp
  | cons x r ih =>
    intro acc h
    rw [turns_cons, h x (by simp), kTn_s, ih _ fun y hy => h y (by simp [hy])]
    simp [snoc]
theorem turns_typ {f : D → Mem → Option (Option D × Mem)} {mem : Mem} (ops : List Op) : ∀ (i : Nat) (acc : List D), (∀ (j : Nat) (o : Op), ops[j]? = some o → f (.int ((i + j : Nat) : Int)) mem = some (some (.tup [.int ((i + j : Nat) : Int), .int o.made]), mem)) → turns f snoc (keysD i ops.length) acc mem = some (acc ++ (typK i ops).map prD, mem) := by
  induction ops with
  | nil => intro i acc _; simp [typK, keysD]
  | cons o r ih =>
    intro i acc h
    have h0 := h 0 o rfl
    simp only [Nat.add_zero] at h0
    rw [List.length_cons, keysD, turns_cons, h0, kTn_s, ih (i + 1) _ fun j o' hj => ?_]
    · simp [snoc, typK, prD, kyd_i]
    · have := h (j + 1) o' (by simpa using hj)
      rw [show i + (j + 1) = i + 1 + j by omega] at this
      exact this
theorem c_valueTypes {k : Nat} {ops : List Op} {mem : Mem} (ok : okM mem) (hl : ops.length < lim) : callF tab (k + 3) 15 [.d (modD (opsD 0 ops)), .d (funD (opsD 0 ops))] mem = some (.d (.prs (typK 0 ops)), mem) := by
  refine call_pure ok rfl rfl rfl ?_
  have h1 := c_resultsOf (k := k + 1) (ds := opsD 0 ops) ok
  have h2 := c_typeTable (k := k) (R := .dct [(.s [.main], .int 8)]) ok hl
  simp [body, fn_value_types, h1, h2, blt_sortedD, typK_keys, sort_keys hl, wipeE]
  rw [turns_typ ops 0 []]
  · simp [typK_length, hl, blt_tupleP, typK_pairs]
  · intro j o hj
    have := lk_typK (i := 0) hj
    simp at this
    simp [lcT1, wipeE, this]
end Mi
end
section
/-! Mb1: forms of the rules; what a side of a rule computes; the rules keep what is computed. -/
namespace Mi
open PySem
inductive Lt where
  | a | b | c | m | n | p
  deriving DecidableEq
inductive Mk where
  | add | sub | mul | band | bor | bxor
  deriving DecidableEq
def Mk.bo : Mk → Bo
  | add => .add | sub => .sub | mul => .mul | band => .band | bor => .bor | bxor => .bxor
inductive Fm where
  | lt (l : Lt) | k0 | k1 | km1
  | bin (o : Bo) (x y : Fm) | cmp (o : Co) (x y : Fm) | cast (o : Ca) (x : Fm) | sel (c x y : Fm)
  | log (x : Fm) | made (o : Mk) (x y : Fm)
  deriving DecidableEq
section
open Fm Lt
abbrev fa : Fm := .lt .a
abbrev fb : Fm := .lt .b
abbrev fc : Fm := .lt .c
abbrev fm : Fm := .lt .m
abbrev fn : Fm := .lt .n
abbrev fp : Fm := .lt .p
def rules : List (Fm × Fm) := [
  (bin .add fa k0, fa), (bin .sub fa k0, fa), (bin .sub fa fa, k0), (bin .mul fa k0, k0), (bin .mul fa k1, fa), (bin .udiv fa k1, fa), (bin .urem fa k1, k0),
  (bin .band fa k0, k0), (bin .band fa km1, fa), (bin .band fa fa, fa), (bin .bor fa k0, fa), (bin .bor fa km1, km1), (bin .bor fa fa, fa), (bin .bxor fa k0, fa), (bin .bxor fa fa, k0),
  (bin .shl fa k0, fa), (bin .lshr fa k0, fa), (bin .ashr fa k0, fa), (cmp .eq fa fa, k1), (cmp .ne fa fa, k0), (cmp .ult fa fa, k0), (cmp .ule fa fa, k1), (cmp .slt fa fa, k0), (cmp .sle fa fa, k1),
  (sel k1 fa fb, fa), (sel k0 fa fb, fb), (sel fc fa fa, fa), (sel fc k1 k0, fc), (cmp .ne fa k0, fa), (cmp .eq fa k1, fa),
  (bin .add fm fa, bin .add fa fm), (bin .mul fm fa, bin .mul fa fm), (bin .band fm fa, bin .band fa fm), (bin .bor fm fa, bin .bor fa fm), (bin .bxor fm fa, bin .bxor fa fm), (cmp .eq fm fa, cmp .eq fa fm), (cmp .ne fm fa, cmp .ne fa fm),
  (bin .sub fa fm, bin .add fa (made .sub k0 fm)), (bin .mul fa fp, bin .shl fa (log fp)), (bin .udiv fa fp, bin .lshr fa (log fp)), (bin .urem fa fp, bin .band fa (made .sub fp k1)),
  (bin .add (bin .add fa fm) fn, bin .add fa (made .add fm fn)), (bin .mul (bin .mul fa fm) fn, bin .mul fa (made .mul fm fn)), (bin .band (bin .band fa fm) fn, bin .band fa (made .band fm fn)), (bin .bor (bin .bor fa fm) fn, bin .bor fa (made .bor fm fn)), (bin .bxor (bin .bxor fa fm) fn, bin .bxor fa (made .bxor fm fn)),
  (bin .sub (bin .add fa fb) fb, fa), (bin .add (bin .sub fa fb) fb, fa), (bin .bxor (bin .bxor fa fb) fb, fa), (bin .band fa (bin .bor fa fb), fa), (bin .bor fa (bin .band fa fb), fa), (cmp .eq (bin .add fa fm) fn, cmp .eq fa (made .sub fn fm)),
  (bin .bxor (cmp .eq fa fb) k1, cmp .ne fa fb), (bin .bxor (cmp .ne fa fb) k1, cmp .eq fa fb), (bin .bxor (cmp .ult fa fb) k1, cmp .ule fb fa), (bin .bxor (cmp .ule fa fb) k1, cmp .ult fb fa), (bin .bxor (cmp .slt fa fb) k1, cmp .sle fb fa), (bin .bxor (cmp .sle fa fb) k1, cmp .slt fb fa),
  (cast .trunc (cast .zext fa), fa), (cast .trunc (cast .sext fa), fa), (cast .trunc (cast .trunc fa), cast .trunc fa), (cast .zext (cast .zext fa), cast .zext fa), (cast .sext (cast .sext fa), cast .sext fa)]
end
/-! bits -/
theorem band_nat {a b : Nat} : Builtin.bitAnd (a : Int) b = ((a &&& b : Nat) : Int) := by
  simp [Builtin.bitAnd]
theorem bor_nat {a b : Nat} : Builtin.bitOr (a : Int) b = ((a ||| b : Nat) : Int) := by
  have ha : ¬ (0 : Int) ≤ -(a : Int) - 1 := by omega
  have hb : ¬ (0 : Int) ≤ -(b : Int) - 1 := by omega
  have ea : (-(-(a : Int) - 1) - 1).toNat = a := by omega
  have eb : (-(-(b : Int) - 1) - 1).toNat = b := by omega
  simp only [Builtin.bitOr, Builtin.bitNot, Builtin.bitAnd, ha, hb, decide_false, ea, eb]
  omega
theorem or_and_xor (n : Nat) : ∀ a b : Nat, a < 2 ^ n → a ||| b = (a ^^^ b) + (a &&& b) := by
  induction n with
  | zero =>
    intro a b h
    have h0 : a = 0 := by simpa using h
    simp [h0]
  | succ n ih =>
    intro a b h
    have e := ih (a / 2) (b / 2) (by rw [Nat.pow_succ] at h; omega)
    have h1 := Nat.or_div_two (a := a) (b := b)
    have h2 := Nat.xor_div_two (a := a) (b := b)
    have h3 := Nat.and_div_two (a := a) (b := b)
    have m1 := Nat.or_mod_two_eq_one (a := a) (b := b)
    have m2 := Nat.xor_mod_two_eq_one (a := a) (b := b)
    have m3 := Nat.and_mod_two_eq_one (a := a) (b := b)
    omega
theorem bxor_nat {a b : Nat} : Builtin.bitXor (a : Int) b = ((a ^^^ b : Nat) : Int) := by
  have := or_and_xor a a b Nat.lt_two_pow_self
  unfold Builtin.bitXor
  rw [bor_nat, band_nat, this]
  omega
/-! what a side computes -/
abbrev Lv := Lt → Nat → Int → Prop
structure LOk (L : Lv) : Prop where
  fn : ∀ {l s v s' v'}, L l s v → L l s' v' → s' = s ∧ v' = v
  rg : ∀ {l s v}, L l s v → wOk s ∧ 0 ≤ v ∧ v < 2 ^ s
  pw : ∀ {s v}, L .p s v → ∃ j : Nat, v = 2 ^ j
def Nv (L : Lv) : Fm → Nat → Int → Prop
  | .lt l, _, v => ∃ s, L l s v
  | .k0, _, v => v = 0
  | .k1, _, v => v = 1
  | .km1, s, v => v = 2 ^ s - 1
  | .log x, s, v => ∃ j : Nat, v = j ∧ Nv L x s (2 ^ j)
  | .made o x y, s, v => ∃ a b, Nv L x s a ∧ Nv L y s b ∧ told o.bo s a b = some v
  | _, _, _ => False
def Ev (L : Lv) : Fm → Nat → Int → Prop
  | .lt l, s, v => L l s v
  | .k0, _, v => v = 0
  | .k1, _, v => v = 1
  | .km1, s, v => v = 2 ^ s - 1
  | .bin o x y, s, v => ∃ a b, Ev L x s a ∧ Ev L y s b ∧ told o s a b = some v
  | .cmp o x y, s, v => s = 1 ∧ ∃ w a b, wOk w ∧ Ev L x w a ∧ Ev L y w b ∧ v = cmpI o w a b
  | .cast o (.cast o' y), s, v => ∃ lo mid a, wOk mid ∧ Ev L y lo a ∧ (lo ≤ mid ∨ s ≤ mid) ∧ v = castI o mid s (castI o' lo mid a)
  | .cast o x, s, v => ∃ lo a, wOk lo ∧ Ev L x lo a ∧ v = castI o lo s a
  | .sel c x y, s, v => ∃ z a b, Ev L c 1 z ∧ Ev L x s a ∧ Ev L y s b ∧ v = if z = 1 then a else b
  | .log x, s, v => Nv L (.log x) s v
  | .made o x y, s, v => Nv L (.made o x y) s v
def Keeps (r : Fm × Fm) : Prop := ∀ {L : Lv} {s : Nat} {v v' : Int}, LOk L → wOk s → Ev L r.1 s v → Ev L r.2 s v' → v = v'
end Mi
end
section
/-! Mb2: each rule's two sides compute the same. -/
namespace Mi
open PySem
open Fm
theorem nat_of {a : Int} (h : 0 ≤ a) : ∃ n : Nat, a = n := ⟨a.toNat, (Int.toNat_of_nonneg h).symm⟩
theorem pow_cast (s : Nat) : (2 : Int) ^ s = ((2 ^ s : Nat) : Int) := by simp
theorem lt_of {a s : Nat} (h : (a : Int) < 2 ^ s) : a < 2 ^ s := by rw [pow_cast] at h; omega
theorem quo_pos {a b : Int} (ha : 0 ≤ a) (hb : 0 < b) : quo a b = a / b := by
  have h1 : ¬ a < 0 := by omega
  have h2 : ¬ b < 0 := by omega
  simp [quo, h1, h2]
theorem ones {s : Nat} : (2 : Int) ^ s - 1 = ((2 ^ s - 1 : Nat) : Int) := by
  have := Nat.pow_pos (n := s) (show 0 < 2 by decide)
  rw [pow_cast]; omega
theorem band_z {a : Nat} : Builtin.bitAnd (a : Int) 0 = 0 := by
  have := band_nat (a := a) (b := 0)
  simpa using this
theorem bor_z {a : Nat} : Builtin.bitOr (a : Int) 0 = a := by
  have := bor_nat (a := a) (b := 0)
  simpa using this
theorem bxor_z {a : Nat} : Builtin.bitXor (a : Int) 0 = a := by
  have := bxor_nat (a := a) (b := 0)
  simpa using this
theorem band_low {a j : Nat} : Builtin.bitAnd (a : Int) (2 ^ j - 1) = (a : Int) % 2 ^ j := by
  rw [ones, band_nat, Nat.and_two_pow_sub_one_eq_mod]
  simp
theorem band_ones {a s : Nat} (h : a < 2 ^ s) : Builtin.bitAnd (a : Int) (2 ^ s - 1) = a := by
  rw [ones, band_nat, Nat.and_two_pow_sub_one_of_lt_two_pow h]
theorem bor_ones {a s : Nat} (h : a < 2 ^ s) : Builtin.bitOr (a : Int) (2 ^ s - 1) = 2 ^ s - 1 := by
  rw [ones, bor_nat]
  congr 1
  apply Nat.eq_of_testBit_eq
  intro i
  rw [Nat.testBit_or, Nat.testBit_two_pow_sub_one]
  by_cases hi : i < s
  · simp [hi]
  · have : a < 2 ^ i := Nat.lt_of_lt_of_le h (Nat.pow_le_pow_right (by decide) (by omega))
    simp [hi, Nat.testBit_lt_two_pow this]
theorem and_or_abs {a b : Nat} : a &&& (a ||| b) = a := by
  apply Nat.eq_of_testBit_eq
  intro i
  rw [Nat.testBit_and, Nat.testBit_or]
  cases a.testBit i <;> simp
theorem or_and_abs {a b : Nat} : a ||| (a &&& b) = a := by
  apply Nat.eq_of_testBit_eq
  intro i
  rw [Nat.testBit_or, Nat.testBit_and]
  cases a.testBit i <;> simp
theorem sgn_mod {s : Nat} {a : Int} (h0 : 0 ≤ a) (hp : a < 2 ^ s) : sgn s a % 2 ^ s = a := by
  unfold sgn
  split
  · rw [Int.sub_emod_right, Int.emod_eq_of_lt h0 hp]
  · exact Int.emod_eq_of_lt h0 hp
theorem bit {a : Int} (h0 : 0 ≤ a) (hp : a < 2 ^ 1) : a = 0 ∨ a = 1 := by omega
theorem pow_lt {j s : Nat} (h : (2 : Int) ^ j < 2 ^ s) : j < s := by
  rw [pow_cast, pow_cast] at h
  have h' : 2 ^ j < 2 ^ s := by omega
  exact (Nat.pow_lt_pow_iff_right (by decide)).mp h'
theorem add_mod_l {a b m : Int} : (a % m + b) % m = (a + b) % m := by rw [Int.add_emod, Int.emod_emod, ← Int.add_emod]
theorem add_mod_r {a b m : Int} : (a + b % m) % m = (a + b) % m := by rw [Int.add_emod, Int.emod_emod, ← Int.add_emod]
theorem sub_mod_l {a b m : Int} : (a % m - b) % m = (a - b) % m := by rw [Int.sub_emod, Int.emod_emod, ← Int.sub_emod]
theorem mul_mod_l {a b m : Int} : (a % m * b) % m = (a * b) % m := by rw [Int.mul_emod, Int.emod_emod, ← Int.mul_emod]
theorem mul_mod_r {a b m : Int} : (a * (b % m)) % m = (a * b) % m := by rw [Int.mul_emod, Int.emod_emod, ← Int.mul_emod]
theorem flip_bit {o o' : Co} {w : Nat} {a b a' b' : Int} (h : cmpB o' w a' b' = !cmpB o w a b) : Builtin.bitXor (cmpI o w a b) 1 = cmpI o' w a' b' := by
  unfold cmpI
  rw [h]
  cases cmpB o w a b <;> decide
theorem mod_mod_of {m s : Nat} {a : Int} (h : s ≤ m) : a % 2 ^ m % 2 ^ s = a % 2 ^ s := by
  apply Int.emod_emod_of_dvd
  rw [pow_cast, pow_cast]
  exact Int.natCast_dvd_natCast.mpr (Nat.pow_dvd_pow 2 h)
theorem pow_mono {a b : Nat} (h : a ≤ b) : (2 : Int) ^ a ≤ 2 ^ b := by
  have := Nat.pow_le_pow_right (n := 2) (by decide) h
  rw [pow_cast, pow_cast]; omega
theorem low_mod {lo mid s : Nat} {a : Int} (h0 : 0 ≤ a) (hp : a < 2 ^ lo) (h : lo ≤ mid ∨ s ≤ mid) : a % 2 ^ mid % 2 ^ s = a % 2 ^ s := by
  rcases h with h | h
  · rw [Int.emod_eq_of_lt h0 (by have := pow_mono h; omega)]
  · exact mod_mod_of h
theorem sgn_rg {w : Nat} {a : Int} (hw : wOk w) (h0 : 0 ≤ a) (hp : a < 2 ^ w) : -(2 ^ w) ≤ sgn w a + sgn w a ∧ sgn w a + sgn w a < 2 ^ w := by
  unfold sgn
  split <;> omega
theorem sgn_of {m : Nat} {x : Int} (h1 : -(2 ^ m) ≤ x + x) (h2 : x + x < 2 ^ m) : sgn m (x % 2 ^ m) = x := by
  have hp := pow_pos2 m
  by_cases h : 0 ≤ x
  · rw [Int.emod_eq_of_lt h (by omega)]
    unfold sgn
    rw [if_neg (by omega)]
  · have e : x % 2 ^ m = x + 2 ^ m := by
      rw [← Int.add_emod_right, Int.emod_eq_of_lt (by omega) (by omega)]
    rw [e]
    unfold sgn
    rw [if_pos (by omega)]
    omega
theorem sext_mod {lo mid s : Nat} {a : Int} (hl : wOk lo) (hm : wOk mid) (h0 : 0 ≤ a) (hp : a < 2 ^ lo) (h : lo ≤ mid ∨ s ≤ mid) : sgn mid (sgn lo a % 2 ^ mid) % 2 ^ s = sgn lo a % 2 ^ s := by
  rcases h with h | h
  · have hr := sgn_rg hl h0 hp
    have := pow_mono h
    rw [sgn_of (by omega) (by omega)]
  · have hp := pow_pos2 mid
    rw [← mod_mod_of h, sgn_mod (Int.emod_nonneg _ (by omega)) (Int.emod_lt_of_pos _ hp), mod_mod_of h]
theorem cmp_shift {w : Nat} {a b c : Int} (ha0 : 0 ≤ a) (hap : a < 2 ^ w) (hc0 : 0 ≤ c) (hcp : c < 2 ^ w) : cmpI .eq w ((a + b) % 2 ^ w) c = cmpI .eq w a ((c - b) % 2 ^ w) := by
  have key : (a + b) % 2 ^ w = c ↔ a = (c - b) % 2 ^ w := by
    constructor
    · intro h
      rw [← h, sub_mod_l, Int.add_sub_cancel, Int.emod_eq_of_lt ha0 hap]
    · intro h
      rw [h, add_mod_l, Int.sub_add_cancel, Int.emod_eq_of_lt hc0 hcp]
  have kd : cmpB .eq w ((a + b) % 2 ^ w) c = cmpB .eq w a ((c - b) % 2 ^ w) := decide_eq_decide.mpr key
  unfold cmpI
  rw [kd]
theorem not_lt_dec {a b : Int} : (!decide (a < b)) = decide (b ≤ a) := by
  by_cases h : a < b <;> simp [h] <;> omega
theorem not_le_dec {a b : Int} : (!decide (a ≤ b)) = decide (b < a) := by
  by_cases h : a ≤ b <;> simp [h] <;> omega
theorem r1 : Keeps (bin .add fa k0, fa) := by
  intro L s v v' H hs h1 h2
  simp only [Ev, Nv] at h1 h2
  obtain ⟨a, b, ha, rfl, e⟩ := h1
  obtain ⟨_, rfl⟩ := H.fn ha h2
  obtain ⟨_, h0, hp⟩ := H.rg ha
  simp only [told, Option.some.injEq] at e
  subst e
  simp [Int.emod_eq_of_lt h0 hp]
theorem r2 : Keeps (bin .sub fa k0, fa) := by
  intro L s v v' H hs h1 h2
  simp only [Ev, Nv] at h1 h2
  obtain ⟨a, b, ha, rfl, e⟩ := h1
  obtain ⟨_, rfl⟩ := H.fn ha h2
  obtain ⟨_, h0, hp⟩ := H.rg ha
  simp only [told, Option.some.injEq] at e
  subst e
  simp [Int.emod_eq_of_lt h0 hp]
theorem r3 : Keeps (bin .sub fa fa, k0) := by
  intro L s v v' H hs h1 h2
  simp only [Ev, Nv] at h1 h2
  obtain ⟨a, b, ha, hb, e⟩ := h1
  obtain ⟨_, rfl⟩ := H.fn ha hb
  obtain ⟨_, h0, hp⟩ := H.rg ha
  simp only [told, Option.some.injEq] at e
  subst e h2
  simp
theorem r4 : Keeps (bin .mul fa k0, k0) := by
  intro L s v v' H hs h1 h2
  simp only [Ev, Nv] at h1 h2
  obtain ⟨a, b, ha, rfl, e⟩ := h1
  obtain ⟨_, h0, hp⟩ := H.rg ha
  simp only [told, Option.some.injEq] at e
  subst e h2
  simp
theorem r5 : Keeps (bin .mul fa k1, fa) := by
  intro L s v v' H hs h1 h2
  simp only [Ev, Nv] at h1 h2
  obtain ⟨a, b, ha, rfl, e⟩ := h1
  obtain ⟨_, rfl⟩ := H.fn ha h2
  obtain ⟨_, h0, hp⟩ := H.rg ha
  simp only [told, Option.some.injEq] at e
  subst e
  simp [Int.emod_eq_of_lt h0 hp]
theorem r6 : Keeps (bin .udiv fa k1, fa) := by
  intro L s v v' H hs h1 h2
  simp only [Ev, Nv] at h1 h2
  obtain ⟨a, b, ha, rfl, e⟩ := h1
  obtain ⟨_, rfl⟩ := H.fn ha h2
  obtain ⟨_, h0, hp⟩ := H.rg ha
  simp [told] at e
  subst e
  rw [quo_pos h0 (by omega)]
  simp [Int.emod_eq_of_lt h0 hp]
theorem r7 : Keeps (bin .urem fa k1, k0) := by
  intro L s v v' H hs h1 h2
  simp only [Ev, Nv] at h1 h2
  obtain ⟨a, b, ha, rfl, e⟩ := h1
  obtain ⟨_, h0, hp⟩ := H.rg ha
  simp [told] at e
  subst e h2
  rw [quo_pos h0 (by omega)]
  simp
theorem r8 : Keeps (bin .band fa k0, k0) := by
  intro L s v v' H hs h1 h2
  simp only [Ev, Nv] at h1 h2
  obtain ⟨a, b, ha, rfl, e⟩ := h1
  obtain ⟨_, h0, hp⟩ := H.rg ha
  simp only [told, Option.some.injEq] at e
  subst e h2
  obtain ⟨a, rfl⟩ := nat_of h0
  exact band_z
theorem r9 : Keeps (bin .band fa km1, fa) := by
  intro L s v v' H hs h1 h2
  simp only [Ev, Nv] at h1 h2
  obtain ⟨a, b, ha, rfl, e⟩ := h1
  obtain ⟨_, rfl⟩ := H.fn ha h2
  obtain ⟨_, h0, hp⟩ := H.rg ha
  simp only [told, Option.some.injEq] at e
  subst e
  obtain ⟨a, rfl⟩ := nat_of h0
  exact band_ones (lt_of hp)
theorem r10 : Keeps (bin .band fa fa, fa) := by
  intro L s v v' H hs h1 h2
  simp only [Ev, Nv] at h1 h2
  obtain ⟨a, b, ha, hb, e⟩ := h1
  obtain ⟨_, rfl⟩ := H.fn ha hb
  obtain ⟨_, h0, hp⟩ := H.rg ha
  simp only [told, Option.some.injEq] at e
  subst e
  obtain ⟨_, rfl⟩ := H.fn ha h2
  obtain ⟨a, rfl⟩ := nat_of h0
  rw [band_nat, Nat.and_self]
theorem r11 : Keeps (bin .bor fa k0, fa) := by
  intro L s v v' H hs h1 h2
  simp only [Ev, Nv] at h1 h2
  obtain ⟨a, b, ha, rfl, e⟩ := h1
  obtain ⟨_, rfl⟩ := H.fn ha h2
  obtain ⟨_, h0, hp⟩ := H.rg ha
  simp only [told, Option.some.injEq] at e
  subst e
  obtain ⟨a, rfl⟩ := nat_of h0
  exact bor_z
theorem r12 : Keeps (bin .bor fa km1, km1) := by
  intro L s v v' H hs h1 h2
  simp only [Ev, Nv] at h1 h2
  obtain ⟨a, b, ha, rfl, e⟩ := h1
  obtain ⟨_, h0, hp⟩ := H.rg ha
  simp only [told, Option.some.injEq] at e
  subst e h2
  obtain ⟨a, rfl⟩ := nat_of h0
  exact bor_ones (lt_of hp)
theorem r13 : Keeps (bin .bor fa fa, fa) := by
  intro L s v v' H hs h1 h2
  simp only [Ev, Nv] at h1 h2
  obtain ⟨a, b, ha, hb, e⟩ := h1
  obtain ⟨_, rfl⟩ := H.fn ha hb
  obtain ⟨_, h0, hp⟩ := H.rg ha
  simp only [told, Option.some.injEq] at e
  subst e
  obtain ⟨_, rfl⟩ := H.fn ha h2
  obtain ⟨a, rfl⟩ := nat_of h0
  rw [bor_nat, Nat.or_self]
theorem r14 : Keeps (bin .bxor fa k0, fa) := by
  intro L s v v' H hs h1 h2
  simp only [Ev, Nv] at h1 h2
  obtain ⟨a, b, ha, rfl, e⟩ := h1
  obtain ⟨_, rfl⟩ := H.fn ha h2
  obtain ⟨_, h0, hp⟩ := H.rg ha
  simp only [told, Option.some.injEq] at e
  subst e
  obtain ⟨a, rfl⟩ := nat_of h0
  exact bxor_z
theorem r15 : Keeps (bin .bxor fa fa, k0) := by
  intro L s v v' H hs h1 h2
  simp only [Ev, Nv] at h1 h2
  obtain ⟨a, b, ha, hb, e⟩ := h1
  obtain ⟨_, rfl⟩ := H.fn ha hb
  obtain ⟨_, h0, hp⟩ := H.rg ha
  simp only [told, Option.some.injEq] at e
  subst e h2
  obtain ⟨a, rfl⟩ := nat_of h0
  rw [bxor_nat, Nat.xor_self]
  rfl
theorem r16 : Keeps (bin .shl fa k0, fa) := by
  intro L s v v' H hs h1 h2
  simp only [Ev, Nv] at h1 h2
  obtain ⟨a, b, ha, rfl, e⟩ := h1
  obtain ⟨_, rfl⟩ := H.fn ha h2
  obtain ⟨_, h0, hp⟩ := H.rg ha
  simp only [told, Option.some.injEq] at e
  subst e
  simp [Int.emod_eq_of_lt h0 hp]
theorem r17 : Keeps (bin .lshr fa k0, fa) := by
  intro L s v v' H hs h1 h2
  simp only [Ev, Nv] at h1 h2
  obtain ⟨a, b, ha, rfl, e⟩ := h1
  obtain ⟨_, rfl⟩ := H.fn ha h2
  obtain ⟨_, h0, hp⟩ := H.rg ha
  simp only [told, Option.some.injEq] at e
  subst e
  simp [Int.emod_eq_of_lt h0 hp]
theorem r18 : Keeps (bin .ashr fa k0, fa) := by
  intro L s v v' H hs h1 h2
  simp only [Ev, Nv] at h1 h2
  obtain ⟨a, b, ha, rfl, e⟩ := h1
  obtain ⟨_, rfl⟩ := H.fn ha h2
  obtain ⟨_, h0, hp⟩ := H.rg ha
  simp only [told, Option.some.injEq] at e
  subst e
  simp
  exact sgn_mod h0 hp
theorem r19 : Keeps (cmp .eq fa fa, k1) := by
  intro L s v v' H hs h1 h2
  simp only [Ev, Nv] at h1 h2
  obtain ⟨rfl, w, a, b, _, ha, hb, rfl⟩ := h1
  obtain ⟨_, rfl⟩ := H.fn ha hb
  subst h2
  simp [cmpI, cmpB]
theorem r20 : Keeps (cmp .ne fa fa, k0) := by
  intro L s v v' H hs h1 h2
  simp only [Ev, Nv] at h1 h2
  obtain ⟨rfl, w, a, b, _, ha, hb, rfl⟩ := h1
  obtain ⟨_, rfl⟩ := H.fn ha hb
  subst h2
  simp [cmpI, cmpB]
theorem r21 : Keeps (cmp .ult fa fa, k0) := by
  intro L s v v' H hs h1 h2
  simp only [Ev, Nv] at h1 h2
  obtain ⟨rfl, w, a, b, _, ha, hb, rfl⟩ := h1
  obtain ⟨_, rfl⟩ := H.fn ha hb
  subst h2
  simp [cmpI, cmpB]
theorem r22 : Keeps (cmp .ule fa fa, k1) := by
  intro L s v v' H hs h1 h2
  simp only [Ev, Nv] at h1 h2
  obtain ⟨rfl, w, a, b, _, ha, hb, rfl⟩ := h1
  obtain ⟨_, rfl⟩ := H.fn ha hb
  subst h2
  simp [cmpI, cmpB]
theorem r23 : Keeps (cmp .slt fa fa, k0) := by
  intro L s v v' H hs h1 h2
  simp only [Ev, Nv] at h1 h2
  obtain ⟨rfl, w, a, b, _, ha, hb, rfl⟩ := h1
  obtain ⟨_, rfl⟩ := H.fn ha hb
  subst h2
  simp [cmpI, cmpB]
theorem r24 : Keeps (cmp .sle fa fa, k1) := by
  intro L s v v' H hs h1 h2
  simp only [Ev, Nv] at h1 h2
  obtain ⟨rfl, w, a, b, _, ha, hb, rfl⟩ := h1
  obtain ⟨_, rfl⟩ := H.fn ha hb
  subst h2
  simp [cmpI, cmpB]
theorem r25 : Keeps (sel k1 fa fb, fa) := by
  intro L s v v' H hs h1 h2
  simp only [Ev, Nv] at h1 h2
  obtain ⟨z, a, b, hz, ha, hb, rfl⟩ := h1
  subst hz
  obtain ⟨_, rfl⟩ := H.fn ha h2
  simp
theorem r26 : Keeps (sel k0 fa fb, fb) := by
  intro L s v v' H hs h1 h2
  simp only [Ev, Nv] at h1 h2
  obtain ⟨z, a, b, hz, ha, hb, rfl⟩ := h1
  subst hz
  obtain ⟨_, rfl⟩ := H.fn hb h2
  simp
theorem r27 : Keeps (sel fc fa fa, fa) := by
  intro L s v v' H hs h1 h2
  simp only [Ev, Nv] at h1 h2
  obtain ⟨z, a, b, hz, ha, hb, rfl⟩ := h1
  obtain ⟨_, rfl⟩ := H.fn ha h2
  obtain ⟨_, rfl⟩ := H.fn ha hb
  simp
theorem r28 : Keeps (sel fc k1 k0, fc) := by
  intro L s v v' H hs h1 h2
  simp only [Ev, Nv] at h1 h2
  obtain ⟨z, a, b, hz, ha, hb, rfl⟩ := h1
  obtain ⟨rfl, rfl⟩ := H.fn hz h2
  obtain ⟨_, h0, hp⟩ := H.rg hz
  subst ha hb
  split <;> omega
theorem r29 : Keeps (cmp .ne fa k0, fa) := by
  intro L s v v' H hs h1 h2
  simp only [Ev, Nv] at h1 h2
  obtain ⟨rfl, w, a, b, _, ha, rfl, rfl⟩ := h1
  obtain ⟨rfl, rfl⟩ := H.fn ha h2
  obtain ⟨_, h0, hp⟩ := H.rg ha
  rcases bit h0 hp with rfl | rfl <;> simp [cmpI, cmpB]
theorem r30 : Keeps (cmp .eq fa k1, fa) := by
  intro L s v v' H hs h1 h2
  simp only [Ev, Nv] at h1 h2
  obtain ⟨rfl, w, a, b, _, ha, rfl, rfl⟩ := h1
  obtain ⟨rfl, rfl⟩ := H.fn ha h2
  obtain ⟨_, h0, hp⟩ := H.rg ha
  rcases bit h0 hp with rfl | rfl <;> simp [cmpI, cmpB]
theorem r31 : Keeps (bin .add fm fa, bin .add fa fm) := by
  intro L s v v' H hs h1 h2
  simp only [Ev, Nv] at h1 h2
  obtain ⟨a, b, ha, hb, e⟩ := h1
  obtain ⟨a', b', ha', hb', e'⟩ := h2
  obtain ⟨_, rfl⟩ := H.fn ha hb'
  obtain ⟨_, rfl⟩ := H.fn hb ha'
  obtain ⟨_, h0, hp⟩ := H.rg ha
  obtain ⟨_, h0', hp'⟩ := H.rg hb
  simp only [told, Option.some.injEq] at e e'
  subst e e'
  rw [Int.add_comm]
theorem r32 : Keeps (bin .mul fm fa, bin .mul fa fm) := by
  intro L s v v' H hs h1 h2
  simp only [Ev, Nv] at h1 h2
  obtain ⟨a, b, ha, hb, e⟩ := h1
  obtain ⟨a', b', ha', hb', e'⟩ := h2
  obtain ⟨_, rfl⟩ := H.fn ha hb'
  obtain ⟨_, rfl⟩ := H.fn hb ha'
  obtain ⟨_, h0, hp⟩ := H.rg ha
  obtain ⟨_, h0', hp'⟩ := H.rg hb
  simp only [told, Option.some.injEq] at e e'
  subst e e'
  rw [Int.mul_comm]
theorem r33 : Keeps (bin .band fm fa, bin .band fa fm) := by
  intro L s v v' H hs h1 h2
  simp only [Ev, Nv] at h1 h2
  obtain ⟨a, b, ha, hb, e⟩ := h1
  obtain ⟨a', b', ha', hb', e'⟩ := h2
  obtain ⟨_, rfl⟩ := H.fn ha hb'
  obtain ⟨_, rfl⟩ := H.fn hb ha'
  obtain ⟨_, h0, hp⟩ := H.rg ha
  obtain ⟨_, h0', hp'⟩ := H.rg hb
  simp only [told, Option.some.injEq] at e e'
  subst e e'
  obtain ⟨a, rfl⟩ := nat_of h0
  obtain ⟨b, rfl⟩ := nat_of h0'
  rw [band_nat, band_nat, Nat.and_comm]
theorem r34 : Keeps (bin .bor fm fa, bin .bor fa fm) := by
  intro L s v v' H hs h1 h2
  simp only [Ev, Nv] at h1 h2
  obtain ⟨a, b, ha, hb, e⟩ := h1
  obtain ⟨a', b', ha', hb', e'⟩ := h2
  obtain ⟨_, rfl⟩ := H.fn ha hb'
  obtain ⟨_, rfl⟩ := H.fn hb ha'
  obtain ⟨_, h0, hp⟩ := H.rg ha
  obtain ⟨_, h0', hp'⟩ := H.rg hb
  simp only [told, Option.some.injEq] at e e'
  subst e e'
  obtain ⟨a, rfl⟩ := nat_of h0
  obtain ⟨b, rfl⟩ := nat_of h0'
  rw [bor_nat, bor_nat, Nat.or_comm]
theorem r35 : Keeps (bin .bxor fm fa, bin .bxor fa fm) := by
  intro L s v v' H hs h1 h2
  simp only [Ev, Nv] at h1 h2
  obtain ⟨a, b, ha, hb, e⟩ := h1
  obtain ⟨a', b', ha', hb', e'⟩ := h2
  obtain ⟨_, rfl⟩ := H.fn ha hb'
  obtain ⟨_, rfl⟩ := H.fn hb ha'
  obtain ⟨_, h0, hp⟩ := H.rg ha
  obtain ⟨_, h0', hp'⟩ := H.rg hb
  simp only [told, Option.some.injEq] at e e'
  subst e e'
  obtain ⟨a, rfl⟩ := nat_of h0
  obtain ⟨b, rfl⟩ := nat_of h0'
  rw [bxor_nat, bxor_nat, Nat.xor_comm]
theorem r36 : Keeps (cmp .eq fm fa, cmp .eq fa fm) := by
  intro L s v v' H hs h1 h2
  simp only [Ev, Nv] at h1 h2
  obtain ⟨rfl, w, a, b, _, ha, hb, rfl⟩ := h1
  obtain ⟨_, w', a', b', _, ha', hb', rfl⟩ := h2
  obtain ⟨_, rfl⟩ := H.fn ha hb'
  obtain ⟨_, rfl⟩ := H.fn hb ha'
  simp only [cmpI, cmpB, eq_comm]
theorem r37 : Keeps (cmp .ne fm fa, cmp .ne fa fm) := by
  intro L s v v' H hs h1 h2
  simp only [Ev, Nv] at h1 h2
  obtain ⟨rfl, w, a, b, _, ha, hb, rfl⟩ := h1
  obtain ⟨_, w', a', b', _, ha', hb', rfl⟩ := h2
  obtain ⟨_, rfl⟩ := H.fn ha hb'
  obtain ⟨_, rfl⟩ := H.fn hb ha'
  simp only [cmpI, cmpB, eq_comm]
theorem r38 : Keeps (bin .sub fa fm, bin .add fa (made .sub k0 fm)) := by
  intro L s v v' H hs h1 h2
  simp only [Ev, Nv] at h1 h2
  obtain ⟨a, b, ha, hb, e⟩ := h1
  obtain ⟨a', b', ha', ⟨x, y, rfl, ⟨_, hy⟩, e''⟩, e'⟩ := h2
  obtain ⟨_, rfl⟩ := H.fn ha ha'
  obtain ⟨_, rfl⟩ := H.fn hb hy
  simp only [told, Mk.bo, Option.some.injEq] at e e' e''
  subst e e' e''
  rw [Int.add_emod, Int.emod_emod, ← Int.add_emod]
  congr 1
  omega
theorem r39 : Keeps (bin .mul fa fp, bin .shl fa (log fp)) := by
  intro L s v v' H hs h1 h2
  simp only [Ev, Nv] at h1 h2
  obtain ⟨a, b, ha, hb, e⟩ := h1
  obtain ⟨a', b', ha', ⟨j, rfl, ⟨_, hy⟩⟩, e'⟩ := h2
  obtain ⟨_, rfl⟩ := H.fn ha ha'
  obtain ⟨_, rfl⟩ := H.fn hb hy
  obtain ⟨_, h0, hp⟩ := H.rg ha
  obtain ⟨_, h0', hp'⟩ := H.rg hb
  have hj := pow_lt hp'
  have ej : ((j : Int) % (s : Int)).toNat = j := by rw [Int.emod_eq_of_lt (by omega) (by omega)]; rfl
  simp only [told, ej, Option.some.injEq] at e e'
  subst e e'
  rfl
theorem r40 : Keeps (bin .udiv fa fp, bin .lshr fa (log fp)) := by
  intro L s v v' H hs h1 h2
  simp only [Ev, Nv] at h1 h2
  obtain ⟨a, b, ha, hb, e⟩ := h1
  obtain ⟨a', b', ha', ⟨j, rfl, ⟨_, hy⟩⟩, e'⟩ := h2
  obtain ⟨_, rfl⟩ := H.fn ha ha'
  obtain ⟨_, rfl⟩ := H.fn hb hy
  obtain ⟨_, h0, hp⟩ := H.rg ha
  obtain ⟨_, h0', hp'⟩ := H.rg hb
  have hj := pow_lt hp'
  have ej : ((j : Int) % (s : Int)).toNat = j := by rw [Int.emod_eq_of_lt (by omega) (by omega)]; rfl
  have hn : (2 : Int) ^ j ≠ 0 := by have := pow_pos2 j; omega
  simp only [told, ej, if_neg hn, Option.some.injEq] at e e'
  subst e e'
  rw [quo_pos h0 (pow_pos2 j)]
theorem r41 : Keeps (bin .urem fa fp, bin .band fa (made .sub fp k1)) := by
  intro L s v v' H hs h1 h2
  simp only [Ev, Nv] at h1 h2
  obtain ⟨a, b, ha, hb, e⟩ := h1
  obtain ⟨a', b', ha', ⟨x, y, ⟨_, hx⟩, rfl, e''⟩, e'⟩ := h2
  obtain ⟨_, rfl⟩ := H.fn ha ha'
  obtain ⟨_, rfl⟩ := H.fn hb hx
  obtain ⟨_, h0, hp⟩ := H.rg ha
  obtain ⟨_, h0', hp'⟩ := H.rg hb
  obtain ⟨j, rfl⟩ := H.pw hb
  have hj := pow_pos2 j
  have hn : (2 : Int) ^ j ≠ 0 := by omega
  simp only [told, Mk.bo, if_neg hn, Option.some.injEq] at e e' e''
  subst e e' e''
  rw [quo_pos h0 hj, Int.emod_eq_of_lt (a := 2 ^ j - 1) (by omega) (by omega)]
  obtain ⟨n, rfl⟩ := nat_of h0
  rw [band_low]
  have := Int.mul_ediv_add_emod (n : Int) (2 ^ j)
  have h3 := Int.emod_nonneg (n : Int) hn
  have h4 := Int.emod_lt_of_pos (n : Int) hj
  rw [Int.mul_comm] at this
  rw [show (n : Int) - n / 2 ^ j * 2 ^ j = n % 2 ^ j by omega, Int.emod_eq_of_lt h3 (by omega)]
theorem r42 : Keeps (bin .add (bin .add fa fm) fn, bin .add fa (made .add fm fn)) := by
  intro L s v v' H hs h1 h2
  simp only [Ev, Nv] at h1 h2
  obtain ⟨t, c, ⟨a, b, ha, hb, e0⟩, hc, e⟩ := h1
  obtain ⟨a', d, ha', ⟨x, y, ⟨_, hx⟩, ⟨_, hy⟩, e''⟩, e'⟩ := h2
  obtain ⟨_, rfl⟩ := H.fn ha ha'
  obtain ⟨_, rfl⟩ := H.fn hb hx
  obtain ⟨_, rfl⟩ := H.fn hc hy
  obtain ⟨_, ha0, hap⟩ := H.rg ha
  obtain ⟨_, hb0, hbp⟩ := H.rg hb
  obtain ⟨_, hc0, hcp⟩ := H.rg hc
  simp only [told, Mk.bo, Option.some.injEq] at e e0 e' e''
  subst e0 e e'' e'
  rw [add_mod_l, add_mod_r, Int.add_assoc]
theorem r43 : Keeps (bin .mul (bin .mul fa fm) fn, bin .mul fa (made .mul fm fn)) := by
  intro L s v v' H hs h1 h2
  simp only [Ev, Nv] at h1 h2
  obtain ⟨t, c, ⟨a, b, ha, hb, e0⟩, hc, e⟩ := h1
  obtain ⟨a', d, ha', ⟨x, y, ⟨_, hx⟩, ⟨_, hy⟩, e''⟩, e'⟩ := h2
  obtain ⟨_, rfl⟩ := H.fn ha ha'
  obtain ⟨_, rfl⟩ := H.fn hb hx
  obtain ⟨_, rfl⟩ := H.fn hc hy
  obtain ⟨_, ha0, hap⟩ := H.rg ha
  obtain ⟨_, hb0, hbp⟩ := H.rg hb
  obtain ⟨_, hc0, hcp⟩ := H.rg hc
  simp only [told, Mk.bo, Option.some.injEq] at e e0 e' e''
  subst e0 e e'' e'
  rw [mul_mod_l, mul_mod_r, Int.mul_assoc]
theorem r44 : Keeps (bin .band (bin .band fa fm) fn, bin .band fa (made .band fm fn)) := by
  intro L s v v' H hs h1 h2
  simp only [Ev, Nv] at h1 h2
  obtain ⟨t, c, ⟨a, b, ha, hb, e0⟩, hc, e⟩ := h1
  obtain ⟨a', d, ha', ⟨x, y, ⟨_, hx⟩, ⟨_, hy⟩, e''⟩, e'⟩ := h2
  obtain ⟨_, rfl⟩ := H.fn ha ha'
  obtain ⟨_, rfl⟩ := H.fn hb hx
  obtain ⟨_, rfl⟩ := H.fn hc hy
  obtain ⟨_, ha0, hap⟩ := H.rg ha
  obtain ⟨_, hb0, hbp⟩ := H.rg hb
  obtain ⟨_, hc0, hcp⟩ := H.rg hc
  simp only [told, Mk.bo, Option.some.injEq] at e e0 e' e''
  subst e0 e e'' e'
  obtain ⟨a, rfl⟩ := nat_of ha0
  obtain ⟨b, rfl⟩ := nat_of hb0
  obtain ⟨c, rfl⟩ := nat_of hc0
  simp only [band_nat, Nat.and_assoc]
theorem r45 : Keeps (bin .bor (bin .bor fa fm) fn, bin .bor fa (made .bor fm fn)) := by
  intro L s v v' H hs h1 h2
  simp only [Ev, Nv] at h1 h2
  obtain ⟨t, c, ⟨a, b, ha, hb, e0⟩, hc, e⟩ := h1
  obtain ⟨a', d, ha', ⟨x, y, ⟨_, hx⟩, ⟨_, hy⟩, e''⟩, e'⟩ := h2
  obtain ⟨_, rfl⟩ := H.fn ha ha'
  obtain ⟨_, rfl⟩ := H.fn hb hx
  obtain ⟨_, rfl⟩ := H.fn hc hy
  obtain ⟨_, ha0, hap⟩ := H.rg ha
  obtain ⟨_, hb0, hbp⟩ := H.rg hb
  obtain ⟨_, hc0, hcp⟩ := H.rg hc
  simp only [told, Mk.bo, Option.some.injEq] at e e0 e' e''
  subst e0 e e'' e'
  obtain ⟨a, rfl⟩ := nat_of ha0
  obtain ⟨b, rfl⟩ := nat_of hb0
  obtain ⟨c, rfl⟩ := nat_of hc0
  simp only [bor_nat, Nat.or_assoc]
theorem r46 : Keeps (bin .bxor (bin .bxor fa fm) fn, bin .bxor fa (made .bxor fm fn)) := by
  intro L s v v' H hs h1 h2
  simp only [Ev, Nv] at h1 h2
  obtain ⟨t, c, ⟨a, b, ha, hb, e0⟩, hc, e⟩ := h1
  obtain ⟨a', d, ha', ⟨x, y, ⟨_, hx⟩, ⟨_, hy⟩, e''⟩, e'⟩ := h2
  obtain ⟨_, rfl⟩ := H.fn ha ha'
  obtain ⟨_, rfl⟩ := H.fn hb hx
  obtain ⟨_, rfl⟩ := H.fn hc hy
  obtain ⟨_, ha0, hap⟩ := H.rg ha
  obtain ⟨_, hb0, hbp⟩ := H.rg hb
  obtain ⟨_, hc0, hcp⟩ := H.rg hc
  simp only [told, Mk.bo, Option.some.injEq] at e e0 e' e''
  subst e0 e e'' e'
  obtain ⟨a, rfl⟩ := nat_of ha0
  obtain ⟨b, rfl⟩ := nat_of hb0
  obtain ⟨c, rfl⟩ := nat_of hc0
  simp only [bxor_nat, Nat.xor_assoc]
theorem r47 : Keeps (bin .sub (bin .add fa fb) fb, fa) := by
  intro L s v v' H hs h1 h2
  simp only [Ev, Nv] at h1 h2
  obtain ⟨t, c, ⟨a, b, ha, hb, e0⟩, hc, e⟩ := h1
  obtain ⟨_, rfl⟩ := H.fn ha h2
  obtain ⟨_, rfl⟩ := H.fn hb hc
  obtain ⟨_, ha0, hap⟩ := H.rg ha
  obtain ⟨_, hb0, hbp⟩ := H.rg hb
  simp only [told, Option.some.injEq] at e e0
  subst e0 e
  rw [sub_mod_l, Int.add_sub_cancel, Int.emod_eq_of_lt ha0 hap]
theorem r48 : Keeps (bin .add (bin .sub fa fb) fb, fa) := by
  intro L s v v' H hs h1 h2
  simp only [Ev, Nv] at h1 h2
  obtain ⟨t, c, ⟨a, b, ha, hb, e0⟩, hc, e⟩ := h1
  obtain ⟨_, rfl⟩ := H.fn ha h2
  obtain ⟨_, rfl⟩ := H.fn hb hc
  obtain ⟨_, ha0, hap⟩ := H.rg ha
  obtain ⟨_, hb0, hbp⟩ := H.rg hb
  simp only [told, Option.some.injEq] at e e0
  subst e0 e
  rw [add_mod_l, Int.sub_add_cancel, Int.emod_eq_of_lt ha0 hap]
theorem r49 : Keeps (bin .bxor (bin .bxor fa fb) fb, fa) := by
  intro L s v v' H hs h1 h2
  simp only [Ev, Nv] at h1 h2
  obtain ⟨t, c, ⟨a, b, ha, hb, e0⟩, hc, e⟩ := h1
  obtain ⟨_, rfl⟩ := H.fn ha h2
  obtain ⟨_, rfl⟩ := H.fn hb hc
  obtain ⟨_, ha0, hap⟩ := H.rg ha
  obtain ⟨_, hb0, hbp⟩ := H.rg hb
  simp only [told, Option.some.injEq] at e e0
  subst e0 e
  obtain ⟨a, rfl⟩ := nat_of ha0
  obtain ⟨b, rfl⟩ := nat_of hb0
  simp only [bxor_nat, Nat.xor_assoc, Nat.xor_self, Nat.xor_zero]
theorem r50 : Keeps (bin .band fa (bin .bor fa fb), fa) := by
  intro L s v v' H hs h1 h2
  simp only [Ev, Nv] at h1 h2
  obtain ⟨a, t, ha, ⟨a', b, ha', hb, e0⟩, e⟩ := h1
  obtain ⟨_, rfl⟩ := H.fn ha h2
  obtain ⟨_, rfl⟩ := H.fn ha ha'
  obtain ⟨_, ha0, hap⟩ := H.rg ha
  obtain ⟨_, hb0, hbp⟩ := H.rg hb
  simp only [told, Option.some.injEq] at e e0
  subst e0 e
  obtain ⟨a, rfl⟩ := nat_of ha0
  obtain ⟨b, rfl⟩ := nat_of hb0
  simp only [band_nat, bor_nat, and_or_abs]
theorem r51 : Keeps (bin .bor fa (bin .band fa fb), fa) := by
  intro L s v v' H hs h1 h2
  simp only [Ev, Nv] at h1 h2
  obtain ⟨a, t, ha, ⟨a', b, ha', hb, e0⟩, e⟩ := h1
  obtain ⟨_, rfl⟩ := H.fn ha h2
  obtain ⟨_, rfl⟩ := H.fn ha ha'
  obtain ⟨_, ha0, hap⟩ := H.rg ha
  obtain ⟨_, hb0, hbp⟩ := H.rg hb
  simp only [told, Option.some.injEq] at e e0
  subst e0 e
  obtain ⟨a, rfl⟩ := nat_of ha0
  obtain ⟨b, rfl⟩ := nat_of hb0
  simp only [band_nat, bor_nat, or_and_abs]
theorem r52 : Keeps (cmp .eq (bin .add fa fm) fn, cmp .eq fa (made .sub fn fm)) := by
  intro L s v v' H hs h1 h2
  simp only [Ev, Nv] at h1 h2
  obtain ⟨rfl, w, t, c, hw, ⟨a, b, ha, hb, e0⟩, hc, rfl⟩ := h1
  obtain ⟨_, w', a', d, _, ha', ⟨x, y, ⟨_, hx⟩, ⟨_, hy⟩, e1⟩, rfl⟩ := h2
  obtain ⟨rfl, rfl⟩ := H.fn ha ha'
  obtain ⟨_, rfl⟩ := H.fn hc hx
  obtain ⟨_, rfl⟩ := H.fn hb hy
  obtain ⟨_, ha0, hap⟩ := H.rg ha
  obtain ⟨_, hb0, hbp⟩ := H.rg hb
  obtain ⟨_, hc0, hcp⟩ := H.rg hc
  simp only [told, Mk.bo, Option.some.injEq] at e0 e1
  subst e0 e1
  exact cmp_shift ha0 hap hc0 hcp
theorem r53 : Keeps (bin .bxor (cmp .eq fa fb) k1, cmp .ne fa fb) := by
  intro L s v v' H hs h1 h2
  simp only [Ev, Nv] at h1 h2
  obtain ⟨t, c, ⟨rfl, w, a, b, _, ha, hb, e0⟩, rfl, e⟩ := h1
  obtain ⟨_, w', a', b', _, ha', hb', e'⟩ := h2
  obtain ⟨rfl, rfl⟩ := H.fn ha ha'
  obtain ⟨_, rfl⟩ := H.fn hb hb'
  simp only [told, Option.some.injEq] at e
  subst e e0 e'
  exact flip_bit (by simp [cmpB, not_lt_dec, not_le_dec])
theorem r54 : Keeps (bin .bxor (cmp .ne fa fb) k1, cmp .eq fa fb) := by
  intro L s v v' H hs h1 h2
  simp only [Ev, Nv] at h1 h2
  obtain ⟨t, c, ⟨rfl, w, a, b, _, ha, hb, e0⟩, rfl, e⟩ := h1
  obtain ⟨_, w', a', b', _, ha', hb', e'⟩ := h2
  obtain ⟨rfl, rfl⟩ := H.fn ha ha'
  obtain ⟨_, rfl⟩ := H.fn hb hb'
  simp only [told, Option.some.injEq] at e
  subst e e0 e'
  exact flip_bit (by simp [cmpB, not_lt_dec, not_le_dec])
theorem r55 : Keeps (bin .bxor (cmp .ult fa fb) k1, cmp .ule fb fa) := by
  intro L s v v' H hs h1 h2
  simp only [Ev, Nv] at h1 h2
  obtain ⟨t, c, ⟨rfl, w, a, b, _, ha, hb, e0⟩, rfl, e⟩ := h1
  obtain ⟨_, w', a', b', _, ha', hb', e'⟩ := h2
  obtain ⟨rfl, rfl⟩ := H.fn ha hb'
  obtain ⟨_, rfl⟩ := H.fn hb ha'
  simp only [told, Option.some.injEq] at e
  subst e e0 e'
  exact flip_bit (by simp [cmpB, not_lt_dec, not_le_dec])
theorem r56 : Keeps (bin .bxor (cmp .ule fa fb) k1, cmp .ult fb fa) := by
  intro L s v v' H hs h1 h2
  simp only [Ev, Nv] at h1 h2
  obtain ⟨t, c, ⟨rfl, w, a, b, _, ha, hb, e0⟩, rfl, e⟩ := h1
  obtain ⟨_, w', a', b', _, ha', hb', e'⟩ := h2
  obtain ⟨rfl, rfl⟩ := H.fn ha hb'
  obtain ⟨_, rfl⟩ := H.fn hb ha'
  simp only [told, Option.some.injEq] at e
  subst e e0 e'
  exact flip_bit (by simp [cmpB, not_lt_dec, not_le_dec])
theorem r57 : Keeps (bin .bxor (cmp .slt fa fb) k1, cmp .sle fb fa) := by
  intro L s v v' H hs h1 h2
  simp only [Ev, Nv] at h1 h2
  obtain ⟨t, c, ⟨rfl, w, a, b, _, ha, hb, e0⟩, rfl, e⟩ := h1
  obtain ⟨_, w', a', b', _, ha', hb', e'⟩ := h2
  obtain ⟨rfl, rfl⟩ := H.fn ha hb'
  obtain ⟨_, rfl⟩ := H.fn hb ha'
  simp only [told, Option.some.injEq] at e
  subst e e0 e'
  exact flip_bit (by simp [cmpB, not_lt_dec, not_le_dec])
theorem r58 : Keeps (bin .bxor (cmp .sle fa fb) k1, cmp .slt fb fa) := by
  intro L s v v' H hs h1 h2
  simp only [Ev, Nv] at h1 h2
  obtain ⟨t, c, ⟨rfl, w, a, b, _, ha, hb, e0⟩, rfl, e⟩ := h1
  obtain ⟨_, w', a', b', _, ha', hb', e'⟩ := h2
  obtain ⟨rfl, rfl⟩ := H.fn ha hb'
  obtain ⟨_, rfl⟩ := H.fn hb ha'
  simp only [told, Option.some.injEq] at e
  subst e e0 e'
  exact flip_bit (by simp [cmpB, not_lt_dec, not_le_dec])
theorem r59 : Keeps (cast .trunc (cast .zext fa), fa) := by
  intro L s v v' H hs h1 h2
  simp only [Ev, Nv] at h1 h2
  obtain ⟨lo, mid, a, hm, ha, hc, rfl⟩ := h1
  obtain ⟨rfl, rfl⟩ := H.fn ha h2
  obtain ⟨_, h0, hp⟩ := H.rg ha
  simp only [castI]
  rw [mod_mod_of (by omega), Int.emod_eq_of_lt h0 hp]
theorem r60 : Keeps (cast .trunc (cast .sext fa), fa) := by
  intro L s v v' H hs h1 h2
  simp only [Ev, Nv] at h1 h2
  obtain ⟨lo, mid, a, hm, ha, hc, rfl⟩ := h1
  obtain ⟨rfl, rfl⟩ := H.fn ha h2
  obtain ⟨_, h0, hp⟩ := H.rg ha
  simp only [castI]
  rw [mod_mod_of (by omega), sgn_mod h0 hp]
theorem r61 : Keeps (cast .trunc (cast .trunc fa), cast .trunc fa) := by
  intro L s v v' H hs h1 h2
  simp only [Ev, Nv] at h1 h2
  obtain ⟨lo, mid, a, hm, ha, hc, rfl⟩ := h1
  obtain ⟨lo', a', hl, ha', rfl⟩ := h2
  obtain ⟨rfl, rfl⟩ := H.fn ha ha'
  obtain ⟨_, h0, hp⟩ := H.rg ha
  simp only [castI]
  exact low_mod h0 hp hc
theorem r62 : Keeps (cast .zext (cast .zext fa), cast .zext fa) := by
  intro L s v v' H hs h1 h2
  simp only [Ev, Nv] at h1 h2
  obtain ⟨lo, mid, a, hm, ha, hc, rfl⟩ := h1
  obtain ⟨lo', a', hl, ha', rfl⟩ := h2
  obtain ⟨rfl, rfl⟩ := H.fn ha ha'
  obtain ⟨_, h0, hp⟩ := H.rg ha
  simp only [castI]
  exact low_mod h0 hp hc
theorem r63 : Keeps (cast .sext (cast .sext fa), cast .sext fa) := by
  intro L s v v' H hs h1 h2
  simp only [Ev, Nv] at h1 h2
  obtain ⟨lo, mid, a, hm, ha, hc, rfl⟩ := h1
  obtain ⟨lo', a', hl, ha', rfl⟩ := h2
  obtain ⟨rfl, rfl⟩ := H.fn ha ha'
  obtain ⟨_, h0, hp⟩ := H.rg ha
  simp only [castI]
  exact sext_mod hl hm h0 hp hc
theorem rules_keep : ∀ r, r ∈ rules → Keeps r := by
  intro r h
  simp only [rules, List.mem_cons, List.not_mem_nil, or_false] at h
  rcases h with rfl | rfl | rfl | rfl | rfl | rfl | rfl | rfl | rfl | rfl | rfl | rfl | rfl | rfl | rfl | rfl | rfl | rfl | rfl | rfl | rfl | rfl | rfl | rfl | rfl | rfl | rfl | rfl | rfl | rfl | rfl | rfl | rfl | rfl | rfl | rfl | rfl | rfl | rfl | rfl | rfl | rfl | rfl | rfl | rfl | rfl | rfl | rfl | rfl | rfl | rfl | rfl | rfl | rfl | rfl | rfl | rfl | rfl | rfl | rfl | rfl | rfl | rfl
  · exact r1
  · exact r2
  · exact r3
  · exact r4
  · exact r5
  · exact r6
  · exact r7
  · exact r8
  · exact r9
  · exact r10
  · exact r11
  · exact r12
  · exact r13
  · exact r14
  · exact r15
  · exact r16
  · exact r17
  · exact r18
  · exact r19
  · exact r20
  · exact r21
  · exact r22
  · exact r23
  · exact r24
  · exact r25
  · exact r26
  · exact r27
  · exact r28
  · exact r29
  · exact r30
  · exact r31
  · exact r32
  · exact r33
  · exact r34
  · exact r35
  · exact r36
  · exact r37
  · exact r38
  · exact r39
  · exact r40
  · exact r41
  · exact r42
  · exact r43
  · exact r44
  · exact r45
  · exact r46
  · exact r47
  · exact r48
  · exact r49
  · exact r50
  · exact r51
  · exact r52
  · exact r53
  · exact r54
  · exact r55
  · exact r56
  · exact r57
  · exact r58
  · exact r59
  · exact r60
  · exact r61
  · exact r62
  · exact r63
end Mi
end
section
/-! Mc1: the forms as data: how both programs read a side of a rule. -/
namespace Mi
open PySem
def Lt.w : Lt → Wd
  | a => .a | b => .b | c => .c | m => .m | n => .n | p => .p
def Mk.w : Mk → Wd
  | add => .ADD | sub => .SUB | mul => .MUL | band => .AND | bor => .OR | bxor => .XOR
def Fm.w : Fm → Wd
  | lt l => l.w | k0 => .k0 | k1 => .k1 | km1 => .km1 | bin o _ _ => o.w | cmp o _ _ => o.w | cast o _ => o.w | sel .. => .select | log _ => .LOG | made o _ _ => o.w
def Fm.kids : Fm → List Fm
  | bin _ x y => [x, y] | cmp _ x y => [x, y] | cast _ x => [x] | sel c x y => [c, x, y] | log x => [x] | made _ x y => [x, y] | _ => []
def Fm.flat : Fm → List Wd
  | lt l => [l.w] | k0 => [.k0] | k1 => [.k1] | km1 => [.km1] | bin o x y => o.w :: (x.flat ++ y.flat) | cmp o x y => o.w :: (x.flat ++ y.flat)
  | cast o x => o.w :: x.flat | sel c x y => .select :: (c.flat ++ (x.flat ++ y.flat)) | log x => .LOG :: x.flat | made o x y => o.w :: (x.flat ++ y.flat)
def Fm.ht : Fm → Nat
  | bin _ x y => max x.ht y.ht + 1 | cmp _ x y => max x.ht y.ht + 1 | cast _ x => x.ht + 1 | sel c x y => max c.ht (max x.ht y.ht) + 1 | log x => x.ht + 1 | made _ x y => max x.ht y.ht + 1 | _ => 0
def str1 (w : Wd) : D := .str [w]
def Fm.P : Fm → D
  | lt l => .tup [.str [l.w], .tup []] | k0 => .tup [.str [.k0], .tup []] | k1 => .tup [.str [.k1], .tup []] | km1 => .tup [.str [.km1], .tup []]
  | bin o x y => .tup [.str [o.w], .tup [x.P, y.P]] | cmp o x y => .tup [.str [o.w], .tup [x.P, y.P]] | cast o x => .tup [.str [o.w], .tup [x.P]]
  | sel c x y => .tup [.str [.select], .tup [c.P, x.P, y.P]] | log x => .tup [.str [.LOG], .tup [x.P]] | made o x y => .tup [.str [o.w], .tup [x.P, y.P]]
def Fm.L : Fm → D
  | lt l => .tup [.str [l.w], .lst []] | k0 => .tup [.str [.k0], .lst []] | k1 => .tup [.str [.k1], .lst []] | km1 => .tup [.str [.km1], .lst []]
  | bin o x y => .tup [.str [o.w], .lst [x.L, y.L]] | cmp o x y => .tup [.str [o.w], .lst [x.L, y.L]] | cast o x => .tup [.str [o.w], .lst [x.L]]
  | sel c x y => .tup [.str [.select], .lst [c.L, x.L, y.L]] | log x => .tup [.str [.LOG], .lst [x.L]] | made o x y => .tup [.str [o.w], .lst [x.L, y.L]]
def flats : List Fm → List Wd
  | [] => []
  | F :: r => F.flat ++ flats r
theorem flatF_eq (F : Fm) : F.flat = F.w :: flats F.kids := by cases F <;> simp [Fm.flat, Fm.w, Fm.kids, flats]
theorem P_eq (F : Fm) : F.P = .tup [.str [F.w], .tup (F.kids.map Fm.P)] := by cases F <;> rfl
theorem L_eq (F : Fm) : F.L = .tup [.str [F.w], .lst (F.kids.map Fm.L)] := by cases F <;> rfl
theorem kid_ht {F G : Fm} (h : G ∈ F.kids) : G.ht < F.ht := by
  cases F <;> simp [Fm.kids] at h <;> simp only [Fm.ht] <;> (try rcases h with rfl | rfl | rfl) <;> (try rcases h with rfl | rfl) <;> (try subst h) <;> omega
theorem kids3 (F : Fm) : F.kids.length ≤ 3 := by cases F <;> simp [Fm.kids]
theorem rulesW_eq : rulesW = rules.map fun r => (r.1.flat, r.2.flat) := by rfl
theorem sides_mem : ∀ r, r ∈ rules → r.1.flat ∈ sideTexts ∧ r.2.flat ∈ sideTexts := by
  intro r h
  unfold sideTexts
  rw [rulesW_eq]
  constructor
  · exact List.mem_append_left _ (List.mem_map.mpr ⟨_, List.mem_map.mpr ⟨r, h, rfl⟩, rfl⟩)
  · exact List.mem_append_right _ (List.mem_map.mpr ⟨_, List.mem_map.mpr ⟨r, h, rfl⟩, rfl⟩)
theorem mSplit {x : List Wd} {mem : Mem} (h : x ∈ sideTexts) : methW .split (.d (.str x)) [] mem = some (.d (.lst (x.map str1)), mem) := by
  unfold methW; exact if_pos h
theorem tySplit {x : List Wd} {mem : Mem} : mthTy .split (.d (.str x)) mem = true := rfl
theorem mAppend {n : Nat} {x : D} {mem : Mem} : methW .append (.r n) [.d x] mem = match mem[n]? with
    | some (.lst ys) => if ys.length < lim then some (.d .non, mem.set n (.lst (ys ++ [x]))) else none
    | _ => none := by unfold methW; rfl
theorem mPop {n : Nat} {mem : Mem} : methW .pop (.r n) [] mem = match mem[n]? with
    | some (.lst ys) => match ys[ys.length - 1]? with
      | some y => some (.d y, mem.set n (.lst ys.dropLast))
      | none => none
    | some (.obj ys) => match ys[ys.length - 1]? with
      | some y => some (y, mem.set n (.obj ys.dropLast))
      | none => none
    | _ => none := by unfold methW; rfl
theorem blt_tupleR {n : Nat} {mem : Mem} : bltW .tuple (.r n) mem = match mem[n]? with
    | some (.lst xs) => some (.d (.tup xs), mem)
    | _ => none := by unfold bltW; rfl
theorem blt_tuple {xs : List D} {mem : Mem} : bltW .tuple (.d (.lst xs)) mem = some (.d (.tup xs), mem) := by unfold bltW; rfl
theorem c_places {k : Nat} {F : Fm} {mem : Mem} (ok : okM mem) : callF tab (k + 1) 23 [.d (.str [F.w])] mem = some (.d (.int F.kids.length), mem) := by
  refine call_pure ok rfl rfl rfl ?_
  cases F with
  | lt l => cases l <;> simp [body, fn_places_of, globD, strsD, Fm.w, Fm.kids, Lt.w, madeW]
  | bin o x y => cases o <;> simp [body, fn_places_of, globD, strsD, Fm.w, Fm.kids, Bo.w, madeW]
  | cmp o x y => cases o <;> simp [body, fn_places_of, globD, strsD, Fm.w, Fm.kids, Co.w, madeW]
  | cast o x => cases o <;> simp [body, fn_places_of, globD, strsD, Fm.w, Fm.kids, Ca.w, madeW]
  | made o x y => cases o <;> simp [body, fn_places_of, globD, strsD, Fm.w, Fm.kids, Mk.w, madeW]
  | _ => simp [body, fn_places_of, globD, strsD, Fm.w, Fm.kids, madeW]
theorem okM_lst {mem : Mem} {xs : List D} (ok : okM mem) : okM (mem ++ [.lst xs]) := okM_app ok rfl
/-- what read_side says of a form -/
def Rd (F : Fm) : Prop := ∀ (k : Nat) (mem : Mem) (pre post : List Wd), F.ht + 2 ≤ k → okM mem → callF tab k 24 [.d (.lst ((pre ++ (F.flat ++ post)).map str1)), .d (.int pre.length)] mem = some (.d (.tup [F.P, .int (pre.length + F.flat.length : Nat)]), mem)
theorem loop_read {k : Nat} (a1 : Option W) (mem : Mem) (ok : okM mem) (all post : List Wd) (Ks : List Fm) : ∀ (its : List D) (pre : List Wd) (xs : List D) (x2 x5 : Option W), (∀ F, F ∈ Ks → Rd F ∧ F.ht + 2 ≤ k) → its.length = Ks.length → xs.length + Ks.length < lim → all = pre ++ (flats Ks ++ post) →
    ∃ x2' x5', loopF (fBody (callF tab k) [.asgT [.nm 5, .nm 4] (.call 24 [.var 0, .var 4]), .expr (.meth .append (.var 3) [.var 5])]) (.nm 2) its [some (.d (.lst (all.map str1))), a1, x2, some (.r mem.length), some (.d (.int pre.length)), x5] (mem ++ [.lst xs]) =
      some ((.next, [some (.d (.lst (all.map str1))), a1, x2', some (.r mem.length), some (.d (.int (pre.length + (flats Ks).length : Nat))), x5']), mem ++ [.lst (xs ++ Ks.map Fm.P)]) := by
  induction Ks with
  | nil =>
    intro its pre xs x2 x5 _ hl _ _
    have : its = [] := by simpa using hl
    subst this
    exact ⟨x2, x5, by simp [flats]⟩
  | cons F r ih =>
    intro its pre xs x2 x5 hF hl hx e
    cases its with
    | nil => simp at hl
    | cons it its =>
      simp only [List.length_cons, Nat.add_right_cancel_iff] at hl
      simp only [List.length_cons] at hx
      obtain ⟨hR, hk⟩ := hF F (by simp)
      have e1 : all = pre ++ (F.flat ++ (flats r ++ post)) := by rw [e]; simp [flats]
      have h1 := hR k (mem ++ [.lst xs]) pre (flats r ++ post) hk (okM_lst ok)
      rw [← e1] at h1
      have hlt : xs.length < lim := by omega
      obtain ⟨x2', x5', e2⟩ := ih its (pre ++ F.flat) (xs ++ [F.P]) (some (.d it)) (some (.d F.P)) (fun G hG => hF G (by simp [hG])) hl (by simp; omega) (by rw [e1]; simp)
      refine ⟨x2', x5', ?_⟩
      simp [h1, mthTy, mAppend, hlt]
      simp at e2
      rw [e2]
      simp [flats, Nat.add_assoc, Int.add_assoc]
theorem c_read : ∀ (n : Nat) (F : Fm), F.ht ≤ n → Rd F := by
  intro n
  induction n with
  | zero =>
    intro F hF k mem pre post hk ok
    obtain ⟨j, rfl⟩ : ∃ j, k = j + 2 := ⟨k - 2, by omega⟩
    have hk0 : F.kids = [] := by cases F <;> simp [Fm.ht] at hF <;> rfl
    have hl : F.flat.length = 1 := by rw [flatF_eq, hk0]; rfl
    obtain ⟨all, hall⟩ : ∃ all, all = pre ++ (F.flat ++ post) := ⟨_, rfl⟩
    have hat : L2.atI (all.map str1) (pre.length : Int) = some (.str [F.w]) := atI_nat (by rw [hall, flatF_eq]; simp [str1])
    rw [← hall, hl]
    refine call_new (new := [.lst []]) ok rfl rfl rfl (w := .d (.tup [F.P, .int (pre.length + 1 : Nat)])) ?_ rfl
    have hp := c_places (k := j) (F := F) (okM_lst (xs := []) ok)
    rw [hk0] at hp
    have hr := it_rng (its := [IR.call 23 [.ix (.var 0) (.var 1)]]) (i := 0) (by omega)
    simp at hr hp
    simp [body, fn_read_side, hat, hp, hr, blt_tupleR, P_eq F, hk0]
  | succ n ih =>
    intro F hF k mem pre post hk ok
    obtain ⟨j, rfl⟩ : ∃ j, k = j + 2 := ⟨k - 2, by omega⟩
    have hp := c_places (k := j) (F := F) (okM_lst (xs := []) ok)
    have hl : F.flat.length = 1 + (flats F.kids).length := by rw [flatF_eq]; simp [Nat.add_comm]
    obtain ⟨all, hall⟩ : ∃ all, all = pre ++ (F.flat ++ post) := ⟨_, rfl⟩
    have hat : L2.atI (all.map str1) (pre.length : Int) = some (.str [F.w]) := atI_nat (by rw [hall, flatF_eq]; simp [str1])
    have h3 := kids3 F
    obtain ⟨x2', x5', e⟩ := loop_read (k := j + 1) (some (.d (.int pre.length))) mem ok all post F.kids ((List.range F.kids.length).map fun (j : Nat) => D.int j) (pre ++ [F.w]) [] none none (fun G hG => ⟨ih G (by have := kid_ht hG; omega), by have := kid_ht hG; omega⟩) (by simp) (by unfold lim; simp; omega) (by rw [hall, flatF_eq]; simp)
    rw [← hall, hl]
    refine call_new (new := [.lst (F.kids.map Fm.P)]) ok rfl rfl rfl (w := .d (.tup [F.P, .int (pre.length + (1 + (flats F.kids).length) : Nat)])) ?_ rfl
    have hr := it_rng (its := [IR.call 23 [.ix (.var 0) (.var 1)]]) (i := F.kids.length) (by omega)
    simp at e
    simp [body, fn_read_side, hat, hp, hr]
    rw [e]
    simp [blt_tupleR, hat, P_eq F, Int.add_assoc]
end Mi
end
section
/-! Mc2: the sides of the k-th rule, read by both. -/
namespace Mi
open PySem
theorem rules_ht : ∀ r, r ∈ rules → r.1.ht ≤ 2 ∧ r.2.ht ≤ 2 := by decide
theorem rules_len : rules.length = 63 := by rfl
theorem c_sideForm {k : Nat} {F : Fm} {mem : Mem} (ok : okM mem) (h : F.flat ∈ sideTexts) (hh : F.ht + 2 ≤ k) : callF tab (k + 1) 25 [.d (.str F.flat)] mem = some (.d F.P, mem) := by
  refine call_pure ok rfl rfl rfl ?_
  have e := c_read F.ht F (Nat.le_refl _) k mem [] [] hh ok
  simp at e
  simp [body, fn_side_form, mSplit h, tySplit, e]
theorem glob5 : globD 5 = some (.tup (rules.map fun r => .tup [.str r.1.flat, .str r.2.flat])) := by rfl
theorem atI_rule {k : Nat} {r : Fm × Fm} (h : rules[k]? = some r) : L2.atI (rules.map fun r => D.tup [.str r.1.flat, .str r.2.flat]) (k : Int) = some (.tup [.str r.1.flat, .str r.2.flat]) := atI_nat (by simp [h])
theorem c_leftForm {k j : Nat} {r : Fm × Fm} {mem : Mem} (ok : okM mem) (h : rules[j]? = some r) (hk : 4 ≤ k) : callF tab (k + 2) 26 [.d (.int j)] mem = some (.d r.1.P, mem) := by
  refine call_pure ok rfl rfl rfl ?_
  have hm := List.mem_of_getElem? h
  have e := c_sideForm (k := k) ok (sides_mem r hm).1 (by have := (rules_ht r hm).1; omega)
  simp [body, fn_left_form, glob5, atI_rule h, e]
theorem c_rightForm {k j : Nat} {r : Fm × Fm} {mem : Mem} (ok : okM mem) (h : rules[j]? = some r) (hk : 4 ≤ k) : callF tab (k + 2) 27 [.d (.int j)] mem = some (.d r.2.P, mem) := by
  refine call_pure ok rfl rfl rfl ?_
  have hm := List.mem_of_getElem? h
  have e := c_sideForm (k := k) ok (sides_mem r hm).2 (by have := (rules_ht r hm).2; omega)
  simp [body, fn_right_form, glob5, atI_rule h, e]
/-! the law's reading -/
def manyE : IR := .ite (.cmp .inn (.var 2) (.lstF [.con (.str [.a]), .con (.str [.b]), .con (.str [.c]), .con (.str [.m]), .con (.str [.n]), .con (.str [.p]), .con (.str [.k0]), .con (.str [.k1]), .con (.str [.km1])])) (.con (.int 0)) (.ite (.cmp .inn (.var 2) (.lstF [.con (.str [.zext]), .con (.str [.sext]), .con (.str [.trunc]), .con (.str [.LOG])])) (.con (.int 1)) (.ite (.cmp .eq (.var 2) (.con (.str [.select]))) (.con (.int 3)) (.con (.int 2))))
theorem many_ev {cl : Cl} {env : Env} {mem : Mem} {F : Fm} (h : env[2]? = some (some (.d (.str [F.w])))) : evE cl manyE env mem = some (.d (.int F.kids.length), mem) := by
  unfold manyE
  cases F with
  | lt l => cases l <;> simp [h, Fm.w, Fm.kids, Lt.w, shp, okD, okDs, dep, deps]
  | bin o x y => cases o <;> simp [h, Fm.w, Fm.kids, Bo.w, shp, okD, okDs, dep, deps]
  | cmp o x y => cases o <;> simp [h, Fm.w, Fm.kids, Co.w, shp, okD, okDs, dep, deps]
  | cast o x => cases o <;> simp [h, Fm.w, Fm.kids, Ca.w, shp, okD, okDs, dep, deps]
  | made o x y => cases o <;> simp [h, Fm.w, Fm.kids, Mk.w, shp, okD, okDs, dep, deps]
  | _ => simp [h, Fm.w, Fm.kids, shp, okD, okDs, dep, deps]
theorem turns_pop (cl : Cl) (mem : Mem) (held : List D) (x0 x2 x3 x4 x5 : Option W) (args : List D) : ∀ (its acc : List D), its.length = args.length → turns (lcT1 [5] (.nm 5) [] (.meth .pop (.var 1) []) cl [x0, some (.r mem.length), x2, x3, x4, x5]) snoc its acc (mem ++ [.lst (held ++ args.reverse)]) = some (acc ++ args, mem ++ [.lst held]) := by
  induction args with
  | nil =>
    intro its acc hl
    have : its = [] := by simpa using hl
    subst this
    simp
  | cons x r ih =>
    intro its acc hl
    cases its with
    | nil => simp at hl
    | cons it its =>
      have e := ih its (acc ++ [x]) (by simpa using hl)
      rw [turns_cons]
      have : lcT1 [5] (.nm 5) [] (.meth .pop (.var 1) []) cl [x0, some (.r mem.length), x2, x3, x4, x5] it (mem ++ [.lst (held ++ (x :: r).reverse)]) = some (some x, mem ++ [.lst (held ++ r.reverse)]) := by
        have e1 : held ++ (x :: r).reverse = (held ++ r.reverse) ++ [x] := by simp
        rw [e1]
        simp [lcT1, wipeE, mthTy, mPop, List.dropLast_append_of_ne_nil]
      rw [this, kTn_s, snoc, e]
      simp
def readB : List IS := [.asg (.nm 3) manyE, .asg (.nm 4) (.lc [5] (.nm 5) .range [.var 3] [] (.meth .pop (.var 1) [])), .expr (.meth .append (.var 1) [.tup [.var 2, .var 4]])]
theorem step_read (cl : Cl) (mem : Mem) (F : Fm) (held args rest : List D) (x0 x2 x3 x4 x5 : Option W) (ha : args.length = F.kids.length) (hh : held.length < lim) : ∃ x2' x3' x4' x5', loopF (fBody cl readB) (.nm 2) (.str [F.w] :: rest) [x0, some (.r mem.length), x2, x3, x4, x5] (mem ++ [.lst (held ++ args.reverse)]) = loopF (fBody cl readB) (.nm 2) rest [x0, some (.r mem.length), x2', x3', x4', x5'] (mem ++ [.lst (held ++ [.tup [.str [F.w], .lst args]])]) := by
  have h3 := kids3 F
  refine ⟨some (.d (.str [F.w])), some (.d (.int F.kids.length)), some (.d (.lst args)), x5, ?_⟩
  have hr := it_rng (its := [IR.var 3]) (i := F.kids.length) (by omega)
  have hm := fun mem => many_ev (cl := cl) (env := [x0, some (.r (List.length mem)), some (.d (.str [F.w])), x3, x4, x5]) (mem := mem ++ [Cell.lst (held ++ args.reverse)]) (F := F) rfl
  have ht := turns_pop cl mem held x0 (some (.d (.str [F.w]))) (some (.d (.int F.kids.length))) x4 x5 args ((List.range F.kids.length).map fun (j : Nat) => D.int j) [] (by simp [ha])
  have hl : F.kids.length < lim := by unfold lim; omega
  rw [loop_cons]
  unfold readB
  simp [hm, hr, ha, mthTy, mAppend, hh, hl]
  rw [ht]
  simp [ha, hl, mthTy, mAppend, hh]
/-- what the law's reading does with a form's words -/
def Rl (F : Fm) : Prop := ∀ (cl : Cl) (mem : Mem) (held rest : List D) (x0 x2 x3 x4 x5 : Option W), held.length + 3 * F.ht + 3 < lim → ∃ x2' x3' x4' x5', loopF (fBody cl readB) (.nm 2) (F.flat.reverse.map str1 ++ rest) [x0, some (.r mem.length), x2, x3, x4, x5] (mem ++ [.lst held]) = loopF (fBody cl readB) (.nm 2) rest [x0, some (.r mem.length), x2', x3', x4', x5'] (mem ++ [.lst (held ++ [F.L])])
theorem rl_kids (Ks : List Fm) : (∀ F, F ∈ Ks → Rl F) → ∀ (n : Nat), (∀ F, F ∈ Ks → F.ht ≤ n) → ∀ (cl : Cl) (mem : Mem) (held rest : List D) (x0 x2 x3 x4 x5 : Option W), held.length + Ks.length + 3 * n + 3 < lim → ∃ x2' x3' x4' x5', loopF (fBody cl readB) (.nm 2) ((flats Ks).reverse.map str1 ++ rest) [x0, some (.r mem.length), x2, x3, x4, x5] (mem ++ [.lst held]) = loopF (fBody cl readB) (.nm 2) rest [x0, some (.r mem.length), x2', x3', x4', x5'] (mem ++ [.lst (held ++ (Ks.map Fm.L).reverse)]) := by
  induction Ks with
  | nil => intro _ n _ cl mem held rest x0 x2 x3 x4 x5 _; exact ⟨x2, x3, x4, x5, by simp [flats]⟩
  | cons F r ih =>
    intro hF n hn cl mem held rest x0 x2 x3 x4 x5 hl
    simp only [List.length_cons] at hl
    obtain ⟨y2, y3, y4, y5, e1⟩ := ih (fun G hG => hF G (by simp [hG])) n (fun G hG => hn G (by simp [hG])) cl mem held (F.flat.reverse.map str1 ++ rest) x0 x2 x3 x4 x5 (by omega)
    have hb := hn F (by simp)
    obtain ⟨z2, z3, z4, z5, e2⟩ := hF F (by simp) cl mem (held ++ (r.map Fm.L).reverse) rest x0 y2 y3 y4 y5 (by simp; omega)
    refine ⟨z2, z3, z4, z5, ?_⟩
    have es : (flats (F :: r)).reverse.map str1 ++ rest = (flats r).reverse.map str1 ++ (F.flat.reverse.map str1 ++ rest) := by simp [flats]
    rw [es, e1, e2]
    simp
theorem rl_all : ∀ (n : Nat) (F : Fm), F.ht ≤ n → Rl F := by
  intro n
  induction n with
  | zero =>
    intro F hF cl mem held rest x0 x2 x3 x4 x5 hl
    have hk0 : F.kids = [] := by cases F <;> simp [Fm.ht] at hF <;> rfl
    obtain ⟨y2, y3, y4, y5, e⟩ := step_read cl mem F held [] rest x0 x2 x3 x4 x5 (by rw [hk0]; rfl) (by omega)
    refine ⟨y2, y3, y4, y5, ?_⟩
    rw [flatF_eq, L_eq, hk0]
    simp [flats, str1] at e ⊢
    exact e
  | succ n ih =>
    intro F hF cl mem held rest x0 x2 x3 x4 x5 hl
    by_cases h0 : F.ht ≤ n
    · exact ih F h0 cl mem held rest x0 x2 x3 x4 x5 hl
    have hk3 := kids3 F
    obtain ⟨y2, y3, y4, y5, e1⟩ := rl_kids F.kids (fun G hG => ih G (by have := kid_ht hG; omega)) n (fun G hG => by have := kid_ht hG; omega) cl mem held (str1 F.w :: rest) x0 x2 x3 x4 x5 (by omega)
    obtain ⟨z2, z3, z4, z5, e2⟩ := step_read cl mem F held (F.kids.map Fm.L) rest x0 y2 y3 y4 y5 (by simp) (by omega)
    refine ⟨z2, z3, z4, z5, ?_⟩
    have es : F.flat.reverse.map str1 ++ rest = (flats F.kids).reverse.map str1 ++ (str1 F.w :: rest) := by rw [flatF_eq]; simp
    rw [es, e1, L_eq]
    exact e2
theorem c_readL {k : Nat} {F : Fm} {mem : Mem} (ok : okM mem) (hF : F.ht ≤ 1000) : callF tab (k + 1) 68 [.d (.lst (F.flat.map str1))] mem = some (.d F.L, mem) := by
  obtain ⟨y2, y3, y4, y5, e⟩ := rl_all F.ht F (Nat.le_refl _) (callF tab k) mem [] [] (some (.d (.lst (F.flat.map str1)))) none none none none (by unfold lim; simp; omega)
  refine call_new (new := [.lst [F.L]]) ok rfl rfl rfl (w := .d F.L) ?_ rfl
  simp [readB, manyE] at e
  simp [body, fn__law_read]
  rw [e]
  simp
/-! the law's table -/
def tabD : D := .lst (rules.map fun r => .tup [.str r.1.flat, .str r.2.flat])
def txtOf (r : Fm × Fm) : List Wd := r.1.flat ++ .eqs :: r.2.flat
theorem splitR_ok : ∀ r, r ∈ rules → splitEq (txtOf r) = some [r.1.flat, r.2.flat] := by decide
theorem mSplitq {x : List Wd} {mem : Mem} : methW .splitq (.d (.str x)) [] mem = (splitEq x).map fun ys => (.d (.lst (ys.map .str)), mem) := by unfold methW; rfl
theorem tySplitq {x : List Wd} {mem : Mem} : mthTy .splitq (.d (.str x)) mem = true := rfl
theorem turns_rules {f : D → Mem → Option (Option D × Mem)} {mem : Mem} (hf : ∀ r, r ∈ rules → f (.str (txtOf r)) mem = some (some (.tup [.str r.1.flat, .str r.2.flat]), mem)) (rs : List (Fm × Fm)) : ∀ (acc : List D), (∀ r, r ∈ rs → r ∈ rules) → turns f snoc (rs.map fun r => .str (txtOf r)) acc mem = some (acc ++ rs.map fun r => .tup [.str r.1.flat, .str r.2.flat], mem) := by
  induction rs with
  | nil => intro acc _; simp
  | cons r rs ih =>
    intro acc h
    rw [List.map_cons, turns_cons, hf r (h r (by simp)), kTn_s, ih _ fun q hq => h q (by simp [hq])]
    simp [snoc]
theorem c_table {k : Nat} {mem : Mem} (ok : okM mem) : callF tab (k + 1) 67 [] mem = some (.d tabD, mem) := by
  refine call_pure ok rfl rfl rfl ?_
  have hl : (63 : Nat) < lim := by unfold lim; omega
  have e := turns_rules (f := lcT1 [1] (.nm 1) [] (.blt .tuple (.meth .splitq (.var 1) [])) (callF tab k) [some (.d (.lst (rules.map fun r => .str (txtOf r)))), none]) (mem := mem) (fun r hr => by simp [lcT1, wipeE, tySplitq, mSplitq, splitR_ok r hr, blt_tuple]) rules [] (fun r h => h)
  have es : evE (callF tab k) (match fn__law_table.body with | .asg _ x :: _ => x | _ => .bad) [none, none] mem = some (.d (.lst (rules.map fun r => .str (txtOf r))), mem) := by rfl
  simp only [body, fn__law_table]
  simp only [fn__law_table] at es
  simp only [ess_cons, es_asg, List.replicate, List.map_nil, List.nil_append, es, Nat.sub_zero]
  simp [e, tabD, rules_len, hl]
end Mi
end
section
/-! Md1: letters, what a letter takes, the numbers of a form. -/
namespace Mi
open PySem
abbrev Ls := List (Lt × Opr × Nat)
def prL (e : Opr × Nat) : D := .tup [e.1.D, .int e.2]
def lsD (B : Ls) : List (Ky × D) := B.map fun e => (.s [e.1.w], prL e.2)
def plD (B : Ls) : List (Ky × D) := B.map fun e => (.s [e.1.w], e.2.1.D)
def lk (B : Ls) (l : Lt) : Option (Opr × Nat) := (B.find? fun e => decide (e.1 = l)).map (·.2)
theorem ltw_inj {l l' : Lt} : l.w = l'.w ↔ l = l' := by cases l <;> cases l' <;> simp [Lt.w]
theorem lk_ls {B : Ls} {l : Lt} : lkD (lsD B) (.s [l.w]) = (lk B l).map prL := by
  induction B with
  | nil => rfl
  | cons e r ih =>
    unfold lk lsD at *
    rw [List.map_cons, lk_cons, ih, List.find?_cons]
    by_cases h : e.1 = l
    · simp [h]
    · have : ¬ e.1.w = l.w := fun x => h (ltw_inj.mp x)
      simp [h, this]
theorem lk_pl {B : Ls} {l : Lt} : lkD (plD B) (.s [l.w]) = (lk B l).map fun e => e.1.D := by
  induction B with
  | nil => rfl
  | cons e r ih =>
    unfold lk plD at *
    rw [List.map_cons, lk_cons, ih, List.find?_cons]
    by_cases h : e.1 = l
    · simp [h]
    · have : ¬ e.1.w = l.w := fun x => h (ltw_inj.mp x)
      simp [h, this]
theorem lk_ls_no {B : Ls} {w : Wd} (h : ∀ l : Lt, l.w ≠ w) : lkD (lsD B) (.s [w]) = none := by
  induction B with
  | nil => rfl
  | cons e r ih =>
    unfold lsD at *
    rw [List.map_cons, lk_cons, ih]
    simp [h e.1]
theorem lk_pl_no {B : Ls} {w : Wd} (h : ∀ l : Lt, l.w ≠ w) : lkD (plD B) (.s [w]) = none := by
  induction B with
  | nil => rfl
  | cons e r ih =>
    unfold plD at *
    rw [List.map_cons, lk_cons, ih]
    simp [h e.1]
theorem lk_app {B : Ls} {l : Lt} {o : Opr} {s : Nat} (h : lk B l = none) {l' : Lt} : lk (B ++ [(l, o, s)]) l' = if l = l' then some (o, s) else lk B l' := by
  unfold lk at *
  rw [List.find?_append]
  by_cases e : l = l'
  · subst e
    have : B.find? (fun e => decide (e.1 = l)) = none := by
      cases hh : B.find? (fun e => decide (e.1 = l)) with
      | none => rfl
      | some x => rw [hh] at h; simp at h
    rw [this]
    simp
  · simp [e]
theorem int_nat {a b : Nat} : ((a : Int) = b) ↔ a = b := by omega
theorem oprD_eq {o o' : Opr} : eqD o.D o'.D = decide (o = o') := by
  cases o <;> cases o' <;> simp [Opr.D, int_nat]
theorem prL_eq {e e' : Opr × Nat} : eqD (prL e) (prL e') = decide (e = e') := by
  obtain ⟨o, s⟩ := e
  obtain ⟨o', s'⟩ := e'
  simp [prL, oprD_eq, int_nat]
theorem shp_opr (o : Opr) : shp o.D = true := by cases o <;> rfl
theorem shp_prL (e : Opr × Nat) : shp (prL e) = true := by
  obtain ⟨o, s⟩ := e
  cases o <;> rfl
def gO : Opr → Prop
  | .n i => i < 18446744073709551616
  | .v j => j < 18446744073709551616
def isPow (i : Nat) : Bool := (List.range 64).any fun k => decide (i = 2 ^ k)
theorem isPow_iff {i : Nat} : isPow i = true ↔ ∃ k, k < 64 ∧ i = 2 ^ k := by simp [isPow]
def takesB : Lt → Opr → Bool
  | .a, _ | .b, _ | .c, _ => true
  | .m, .n _ | .n, .n _ => true
  | .p, .n i => isPow i
  | _, .v _ => false
theorem pow_test {i : Nat} (h : i < 18446744073709551616) : (decide (0 < i) && decide (i &&& (i - 1) = 0)) = isPow i := by
  rw [Bool.eq_iff_iff, isPow_iff]
  simp only [Bool.and_eq_true, decide_eq_true_eq]
  constructor
  · rintro ⟨h0, h1⟩
    obtain ⟨k, hk⟩ := (Nat.and_sub_one_eq_zero_iff_isPowerOfTwo (by omega)).mp h1
    refine ⟨k, ?_, hk⟩
    apply (Nat.pow_lt_pow_iff_right (a := 2) (by decide)).mp
    omega
  · rintro ⟨k, _, rfl⟩
    have := Nat.pow_pos (n := k) (show 0 < 2 by decide)
    exact ⟨this, (Nat.and_sub_one_eq_zero_iff_isPowerOfTwo (by omega)).mpr ⟨k, rfl⟩⟩
theorem c_takes {k : Nat} {l : Lt} {o : Opr} {mem : Mem} (ok : okM mem) (g : gO o) : callF tab (k + 1) 33 [.d (.str [l.w]), .d o.D] mem = some (.d (.bl (takesB l o)), mem) := by
  refine call_pure ok rfl rfl rfl ?_
  cases o with
  | v j => cases l <;> simp [body, fn_takes, Opr.D, Lt.w, takesB]
  | n i =>
    cases l with
    | p =>
      have e := pow_test g
      by_cases h0 : 0 < i
      · obtain ⟨q, rfl⟩ : ∃ q, i = q + 1 := ⟨i - 1, by omega⟩
        have hz : Builtin.bitAnd ((q : Int) + 1) q = (((q + 1) &&& q : Nat) : Int) := by
          have := band_nat (a := q + 1) (b := q)
          simpa using this
        have hp : (0 : Int) < (q : Int) + 1 := by omega
        simp at e
        simp [body, fn_takes, Opr.D, Lt.w, takesB, hp, hz, ← e]
      · have : i = 0 := by omega
        subst this
        simp [body, fn_takes, Opr.D, Lt.w, takesB]
        decide
    | _ => simp [body, fn_takes, Opr.D, Lt.w, takesB]
theorem turns_filter {α : Type} {f : D → Mem → Option (Option α × Mem)} {c : D → Bool} {g : D → α} {mem : Mem} (xs : List D) : ∀ (acc : List α), (∀ x, x ∈ xs → f x mem = some (if c x then some (g x) else none, mem)) → turns f snoc xs acc mem = some (acc ++ (xs.filter c).map g, mem) := by
  induction xs with
  | nil => intro acc _; simp
  | cons x r ih =>
    intro acc h
    have e := fun acc => ih acc fun y hy => h y (by simp [hy])
    rw [turns_cons, h x (by simp)]
    by_cases hc : c x = true
    · rw [if_pos hc, kTn_s, e, List.filter_cons_of_pos hc]
      simp [snoc]
    · rw [if_neg hc, kTn_n, e, List.filter_cons_of_neg hc]
def rng (n : Nat) : List D := (List.range n).map fun (j : Nat) => .int (j : Int)
theorem rng_mem {n : Nat} {x : D} (h : x ∈ rng n) : ∃ j : Nat, j < n ∧ x = .int j := by
  simp only [rng, List.mem_map, List.mem_range] at h
  obtain ⟨j, hj, rfl⟩ := h
  exact ⟨j, hj, rfl⟩
def pow2D : D → D
  | .int i => .int (2 ^ i.toNat)
  | x => x
/-- [power(k) for k in range(64)] -/
theorem turns_pow {k : Nat} {own : List Nat} {v : Nat} {env : Env} {mem : Mem} (ok : okM mem) (hv : v < (wipeE env own).length) {n : Nat} (hn : n ≤ 1000) : turns (lcT1 own (.nm v) [] (.call 44 [.var v]) (callF tab (k + 1)) env) snoc (rng n) [] mem = some ((rng n).map pow2D, mem) := by
  rw [turns_map (g := pow2D) (rng n) []]
  · rfl
  · intro x hx
    obtain ⟨j, hj, rfl⟩ := rng_mem hx
    have hp := c_power (k := k) (w := j) ok (by omega)
    simp [lcT1, hv, hp, pow2D]
theorem shp_ints {xs : List D} (h : ∀ x, x ∈ xs → ∃ i : Int, x = .int i) : shp (.lst xs) = true := by
  have h1 : okDs xs = true ∧ deps xs = 0 := by
    induction xs with
    | nil => exact ⟨rfl, rfl⟩
    | cons x r ih =>
      obtain ⟨i, rfl⟩ := h x (by simp)
      obtain ⟨a, b⟩ := ih fun y hy => h y (by simp [hy])
      exact ⟨by simp [okDs, okD, a], by simp [deps, dep, b]⟩
  simp [shp, okD, dep, h1.1, h1.2]
theorem any_pow {i : Nat} {n : Nat} : ((rng n).map pow2D).any (fun z => eqD z (.int i)) = (List.range n).any fun k => decide (i = 2 ^ k) := by
  simp only [rng, List.map_map, List.any_map]
  congr 1
  funext k
  have : (2 : Int) ^ k = ((2 ^ k : Nat) : Int) := by simp
  simp only [Function.comp, pow2D, Int.toNat_natCast, eq_ii, this]
  rw [decide_eq_decide]
  omega
theorem shp_pow {n : Nat} : shp (.lst ((rng n).map pow2D)) = true := by
  refine shp_ints fun x hx => ?_
  obtain ⟨y, hy, rfl⟩ := List.mem_map.mp hx
  obtain ⟨j, _, rfl⟩ := rng_mem hy
  exact ⟨_, rfl⟩
theorem it_rngE {its : List IR} {i : Nat} (h : i ≤ 100000) : itemsV .range its [.d (.int i)] = some (rng i) := it_rng h
theorem c_takesL {k : Nat} {l : Lt} {o : Opr} {mem : Mem} (ok : okM mem) : callF tab (k + 2) 70 [.d (.str [l.w]), .d o.D] mem = some (.d (.bl (takesB l o)), mem) := by
  refine call_pure ok rfl rfl rfl ?_
  cases o with
  | v j => cases l <;> simp [body, fn__law_letter_takes, Opr.D, Lt.w, takesB, shp, okD, okDs, dep, deps]
  | n i =>
    cases l with
    | p =>
      have hr := it_rngE (its := [IR.con (.int 64)]) (i := 64) (by omega)
      have hl : 64 < lim := by unfold lim; omega
      have ht := turns_pow (k := k) (own := [2]) (v := 2) (env := [some (.d (.str [.p])), some (.d (.tup [.str [.n], .int i])), none]) ok (by simp [wipeE]) (n := 64) (by omega)
      have ha := any_pow (i := i) (n := 64)
      have hs := shp_pow (n := 64)
      have hlen : ((rng 64).map pow2D).length = 64 := by simp [rng]
      have hr' : itemsV .range [IR.con (.int 64)] [.d (.int 64)] = some (rng 64) := hr
      obtain ⟨xs, hxs⟩ : ∃ xs, xs = (rng 64).map pow2D := ⟨_, rfl⟩
      rw [← hxs] at ht ha hs hlen
      have h1 : shp (.lst [.str [.a], .str [.b], .str [.c]]) = true := rfl
      simp [body, fn__law_letter_takes, Opr.D, Lt.w, takesB, h1, hr', ht, hlen, hl, hs, ha, isPow]
    | _ => simp [body, fn__law_letter_takes, Opr.D, Lt.w, takesB, shp, okD, okDs, dep, deps]
def Fm.isLt : Fm → Bool
  | .lt _ => true
  | _ => false
theorem c_isLetter {k : Nat} {F : Fm} {mem : Mem} (ok : okM mem) : callF tab (k + 1) 32 [.d (.str [F.w])] mem = some (.d (.bl F.isLt), mem) := by
  refine call_pure ok rfl rfl rfl ?_
  cases F with
  | lt l => cases l <;> simp [body, fn_is_letter, Fm.w, Lt.w, Fm.isLt]
  | bin o x y => cases o <;> simp [body, fn_is_letter, Fm.w, Bo.w, Fm.isLt]
  | cmp o x y => cases o <;> simp [body, fn_is_letter, Fm.w, Co.w, Fm.isLt]
  | cast o x => cases o <;> simp [body, fn_is_letter, Fm.w, Ca.w, Fm.isLt]
  | made o x y => cases o <;> simp [body, fn_is_letter, Fm.w, Mk.w, Fm.isLt]
  | _ => simp [body, fn_is_letter, Fm.w, Fm.isLt]
end Mi
end
section
/-! Md2: the numbers of a form, told by both. -/
namespace Mi
open PySem
def num (B : Ls) (s : Nat) : Fm → Int
  | .lt l => match lk B l with
    | some (.n i, _) => i
    | _ => 0
  | .k1 => 1
  | .km1 => 2 ^ s - 1
  | .log x => ((num B s x).toNat.log2 : Nat)
  | .made o x y => (told o.bo s (num B s x) (num B s y)).getD 0
  | _ => 0
def nOk (B : Ls) (s : Nat) : Fm → Prop
  | .lt l => ∃ i s', lk B l = some (.n i, s')
  | .k0 | .k1 | .km1 => True
  | .log x => nOk B s x ∧ ∃ j : Nat, j < 65 ∧ num B s x = 2 ^ j
  | .made _ x y => nOk B s x ∧ nOk B s y ∧ n64 (num B s x)
  | _ => False
theorem told_mk {o : Mk} {s : Nat} {a b : Int} : told o.bo s a b = some ((told o.bo s a b).getD 0) := by cases o <;> rfl
theorem mk_bo (o : Mk) : mk o.bo := by cases o <;> simp [mk, Mk.bo]
theorem mBitlen {i : Int} {mem : Mem} : methW .bitlen (.d (.int i)) [] mem = some (.d (.int (Builtin.Int.intBits i : Nat)), mem) := by unfold methW; rfl
theorem log2_pow {j : Nat} : (2 ^ j : Nat).log2 = j := Nat.log2_two_pow
theorem bits_pow {j : Nat} : Builtin.Int.intBits ((2 : Int) ^ j) = j + 1 := by
  have h : (2 : Int) ^ j = ((2 ^ j : Nat) : Int) := by simp
  have hp := Nat.pow_pos (n := j) (show 0 < 2 by decide)
  have hn : ¬ (((2 ^ j : Nat) : Int) == 0) = true := by rw [beq_iff_eq]; omega
  unfold Builtin.Int.intBits
  rw [h, if_neg hn, Int.natAbs_natCast, log2_pow]
theorem toNat_pow {j : Nat} : ((2 : Int) ^ j).toNat = 2 ^ j := by
  have h : (2 : Int) ^ j = ((2 ^ j : Nat) : Int) := by simp
  rw [h]; rfl
/-- a dict: data, or a cell -/
def DctAt (w : W) (mem : Mem) (kvs : List (Ky × D)) : Prop := w = .d (.dct kvs) ∨ ∃ r, w = .r r ∧ mem[r]? = some (.dct kvs)
theorem ix_at {w : W} {mem : Mem} {kvs : List (Ky × D)} {k : D} (h : DctAt w mem kvs) : ixW w (.d k) mem = (kyOf k).bind fun k => (lkD kvs k).map .d := by
  rcases h with rfl | ⟨r, rfl, h⟩
  · exact ix_dct
  · rw [ix_r, h]
theorem c_numberOf {B : Ls} {s : Nat} {w : W} (hs : wOk s) (F : Fm) : ∀ {k : Nat} {mem : Mem}, okM mem → F.ht + 4 ≤ k → DctAt w mem (lsD B) → nOk B s F → callF tab k 31 [.d F.P, .d (.int s), w] mem = some (.d (.int (num B s F)), mem) := by
  have hs' : s ≤ 1000 := by unfold wOk at hs; omega
  induction F with
  | lt l =>
    intro k mem ok hk hr hn
    obtain ⟨j, rfl⟩ : ∃ j, k = j + 1 := ⟨k - 1, by omega⟩
    obtain ⟨i, s', hl⟩ := hn
    refine call_pure ok rfl rfl rfl ?_
    have e := lk_ls (B := B) (l := l)
    rw [hl] at e
    cases l <;> simp [Lt.w] at e <;> simp [body, fn_number_of, Fm.P, Lt.w, madeW, ix_at hr, e, prL, Opr.D, num, hl]
  | k0 => intro k mem ok hk hr hn; obtain ⟨j, rfl⟩ : ∃ j, k = j + 1 := ⟨k - 1, by omega⟩; exact call_pure ok rfl rfl rfl (by simp [body, fn_number_of, Fm.P, num, bltW])
  | k1 => intro k mem ok hk hr hn; obtain ⟨j, rfl⟩ : ∃ j, k = j + 1 := ⟨k - 1, by omega⟩; exact call_pure ok rfl rfl rfl (by simp [body, fn_number_of, Fm.P, num, bltW])
  | km1 => intro k mem ok hk hr hn; obtain ⟨j, rfl⟩ : ∃ j, k = j + 1 := ⟨k - 1, by omega⟩; exact call_pure ok rfl rfl rfl (by simp [body, fn_number_of, Fm.P, num, b_shl hs'])
  | log x ih =>
    intro k mem ok hk hr hn
    obtain ⟨j, rfl⟩ : ∃ j, k = j + 1 := ⟨k - 1, by omega⟩
    obtain ⟨hx, q, hq, e⟩ := hn
    have h := ih (k := j) ok (by simp [Fm.ht] at hk; omega) hr hx
    refine call_pure ok rfl rfl rfl ?_
    rw [e] at h
    simp [body, fn_number_of, Fm.P, num, h, e, mthTy, mBitlen, bits_pow, toNat_pow, log2_pow]
  | made o x y ihx ihy =>
    intro k mem ok hk hr hn
    obtain ⟨j, rfl⟩ : ∃ j, k = j + 3 := ⟨k - 3, by omega⟩
    obtain ⟨hx, hy, h64⟩ := hn
    have h1 := ihx (k := j + 2) ok (by simp [Fm.ht] at hk; omega) hr hx
    have h2 := ihy (k := j + 2) ok (by simp [Fm.ht] at hk; omega) hr hy
    have h3 := c_binTold (k := j) (b := num B s y) ok hs h64 (mk_bo o)
    refine call_pure ok rfl rfl rfl ?_
    rw [told_mk] at h3
    cases o <;> simp [Mk.bo, Bo.w, optD] at h3 <;> simp [body, fn_number_of, Fm.P, Mk.w, num, h1, h2, madeW, h3, Mk.bo]
  | _ => intro k mem ok hk hr hn; exact absurd hn (by simp [nOk])
theorem c_toldM {k w : Nat} {o : Mk} {a b : Int} {mem : Mem} (ok : okM mem) (hw : wOk w) (ha : n64 a) : callF tab (k + 4) 48 [.d (.str [o.bo.w]), .d (.int w), .d (.int a), .d (.int b)] mem = some (.d (.int ((told o.bo w a b).getD 0)), mem) := by
  refine call_pure ok rfl rfl rfl ?_
  have hw' : w ≤ 1000 := by unfold wOk at hw; omega
  have hmod : ∀ i : Int, binW .mod (.d (.int i)) (.d (.int (2 ^ w))) = some (.d (.int (i % 2 ^ w))) := fun i => b_mod (pow_pos2 w)
  have hmul : binW .mul (.d (.int a)) (.d (.int b)) = some (.d (.int (a * b))) := b_mul (.inl ⟨by unfold n64 at ha; omega, ha.2⟩)
  cases o <;> simp [body, fn__law_told, c_power ok hw', Bo.w, Mk.bo, blt_int, hmod, told, shp, okD, okDs, dep, deps, hmul]
theorem find_pow : ∀ j, j < 65 → (List.range 65).filter (fun k => decide (k = j)) = [j] := by decide
theorem pow_inj {a b : Nat} : (2 : Int) ^ a = 2 ^ b ↔ a = b := by
  have h : ∀ j : Nat, (2 : Int) ^ j = ((2 ^ j : Nat) : Int) := by intro j; simp
  rw [h, h, int_nat]
  exact Nat.pow_right_inj (by decide)
theorem turns_log {k : Nat} {env : Env} {mem : Mem} (ok : okM mem) (he : 7 < env.length) {j : Nat} (hj : j < 65) (h3 : env[3]? = some (some (.d (.lst [.int (2 ^ j)])))) : turns (lcT1 [7] (.nm 7) [.cmp .eq (.call 44 [.var 7]) (.ix (.var 3) (.con (.int 0)))] (.var 7) (callF tab (k + 1)) env) snoc (rng 65) [] mem = some ([.int j], mem) := by
  have hc : ∀ x : D, x ∈ rng 65 → lcT1 [7] (.nm 7) [.cmp .eq (.call 44 [.var 7]) (.ix (.var 3) (.con (.int 0)))] (.var 7) (callF tab (k + 1)) env x mem = some (if (fun x : D => decide (eqD x (.int j) = true)) x then some (id x) else none, mem) := by
    intro x hx
    obtain ⟨q, hq, rfl⟩ := rng_mem hx
    have hp := c_power (k := k) (w := q) ok (by omega)
    by_cases e : q = j
    · subst e; simp [lcT1, wipeE, he, h3, hp]
    · have : ¬ (2 : Int) ^ q = 2 ^ j := fun x => e (pow_inj.mp x)
      simp [lcT1, wipeE, he, h3, hp, this, int_nat, e]
  rw [turns_filter (rng 65) [] hc]
  simp only [rng, List.filter_map, List.nil_append, List.map_map]
  have : ((fun x : D => decide (eqD x (.int j) = true)) ∘ fun (j : Nat) => D.int j) = fun k : Nat => decide (k = j) := by
    funext q
    simp [int_nat]
  rw [this, find_pow j hj]
  rfl
theorem notLt : ∀ l : Lt, l.w ≠ .LOG ∧ l.w ≠ .ADD ∧ l.w ≠ .SUB ∧ l.w ≠ .MUL ∧ l.w ≠ .AND ∧ l.w ≠ .OR ∧ l.w ≠ .XOR := by intro l; cases l <;> simp [Lt.w]
theorem c_madeNumber {B : Ls} {s r : Nat} (hs : wOk s) (F : Fm) : ∀ {k : Nat} {mem : Mem}, okM mem → F.ht + 6 ≤ k → mem[r]? = some (.dct (plD B)) → nOk B s F → callF tab k 69 [.d F.L, .d (.int s), .r r] mem = some (.d (.int (num B s F)), mem) := by
  have hs' : s ≤ 1000 := by unfold wOk at hs; omega
  induction F with
  | lt l =>
    intro k mem ok hk hr hn
    obtain ⟨j, rfl⟩ : ∃ j, k = j + 1 := ⟨k - 1, by omega⟩
    obtain ⟨i, s', hl⟩ := hn
    refine call_pure ok rfl rfl rfl ?_
    have e := lk_pl (B := B) (l := l)
    rw [hl] at e
    cases l <;> simp [Lt.w] at e <;> simp [body, fn__law_made_number, Fm.L, Lt.w, hr, e, Opr.D, num, hl, shp, okD, okDs, dep, deps]
  | k0 => intro k mem ok hk hr hn; obtain ⟨j, rfl⟩ : ∃ j, k = j + 1 := ⟨k - 1, by omega⟩; exact call_pure ok rfl rfl rfl (by simp [body, fn__law_made_number, Fm.L, num, bltW, shp, okD, okDs, dep, deps])
  | k1 => intro k mem ok hk hr hn; obtain ⟨j, rfl⟩ : ∃ j, k = j + 1 := ⟨k - 1, by omega⟩; exact call_pure ok rfl rfl rfl (by simp [body, fn__law_made_number, Fm.L, num, bltW, shp, okD, okDs, dep, deps])
  | km1 => intro k mem ok hk hr hn; obtain ⟨j, rfl⟩ : ∃ j, k = j + 2 := ⟨k - 2, by omega⟩; exact call_pure ok rfl rfl rfl (by simp [body, fn__law_made_number, Fm.L, num, c_power ok hs', shp, okD, okDs, dep, deps])
  | log x ih =>
    intro k mem ok hk hr hn
    obtain ⟨j, rfl⟩ : ∃ j, k = j + 2 := ⟨k - 2, by omega⟩
    obtain ⟨hx, q, hq, e⟩ := hn
    have h := ih (k := j + 1) ok (by simp [Fm.ht] at hk; omega) hr hx
    refine call_pure ok rfl rfl rfl ?_
    rw [e] at h
    have hno := lk_pl_no (B := B) (w := .LOG) fun l => (notLt l).1
    have hr' := it_rngE (its := [IR.con (.int 65)]) (i := 65) (by omega)
    have hr2 : itemsV .range [IR.con (.int 65)] [.d (.int 65)] = some (rng 65) := hr'
    have hl : 1 < lim := by unfold lim; omega
    have ht := turns_log (k := j) (env := [some (.d (.tup [.str [.LOG], .lst [x.L]])), some (.d (.int s)), some (.r r), some (.d (.lst [.int (2 ^ q)])), some (.d (.str [.LOG])), some (.d (.lst [x.L])), none, none]) ok (by simp) hq rfl
    simp [body, fn__law_made_number, Fm.L, num, h, e, hr, hno, shp, okD, okDs, dep, deps, turns_cons, lcT1, wipeE, snoc, hl, hr2]
    simp [ht, hl, toNat_pow, log2_pow]
  | made o x y ihx ihy =>
    intro k mem ok hk hr hn
    obtain ⟨j, rfl⟩ : ∃ j, k = j + 5 := ⟨k - 5, by omega⟩
    obtain ⟨hx, hy, h64⟩ := hn
    have h1 := ihx (k := j + 4) ok (by simp [Fm.ht] at hk; omega) hr hx
    have h2 := ihy (k := j + 4) ok (by simp [Fm.ht] at hk; omega) hr hy
    have h3 := c_toldM (k := j) (o := o) (b := num B s y) ok hs h64
    have hl : 2 < lim := by unfold lim; omega
    have hno : ∀ w, (∀ l : Lt, l.w ≠ w) → lkD (plD B) (.s [w]) = none := fun w h => lk_pl_no h
    refine call_pure ok rfl rfl rfl ?_
    have q := hno o.w (by intro l; have := notLt l; cases o <;> simp [Mk.w, this])
    cases o <;> simp [Mk.bo, Bo.w] at h3 <;> simp [Mk.w] at q <;> simp [body, fn__law_made_number, Fm.L, Mk.w, num, h1, h2, h3, Mk.bo, hr, q, shp, okD, okDs, dep, deps, turns_cons, lcT1, wipeE, snoc, hl, mthTy, methW, lowerW]
  | _ => intro k mem ok hk hr hn; exact absurd hn (by simp [nOk])
end Mi
end
section
/-! Md3: a left side is matched: what both compute; the program's matcher. -/
namespace Mi
open PySem
def numL (s : Nat) : Fm → Option Nat
  | .k0 => some 0
  | .k1 => some 1
  | .km1 => some (2 ^ s - 1)
  | _ => none
def foldM (f : Fm → Opr → Nat → Ls → Option Ls) : List Fm → List Opr → List Nat → Ls → Option Ls
  | F :: Fs, o :: os, s :: ss, B => (f F o s B).bind (foldM f Fs os ss)
  | _, _, _, B => some B
def mA (ops : List Op) : Nat → Fm → Opr → Nat → Ls → Option Ls
  | 0, _, _, _, _ => none
  | n + 1, F, o, s, B => match F with
    | .lt l => if takesB l o then (match lk B l with
      | some e => if e = (o, s) then some B else none
      | none => some (B ++ [(l, o, s)])) else none
    | F => match numL s F with
      | some i => if o = .n i then some B else none
      | none => match o with
        | .v j => match ops[j]? with
          | some op => if op.wd = some F.w then foldM (mA ops n) F.kids op.args op.asked B else none
          | none => none
        | .n _ => none
def mO (ops : List Op) (n : Nat) (F : Fm) (op : Op) (B : Ls) : Option Ls := if op.wd = some F.w then foldM (mA ops n) F.kids op.args op.asked B else none
def gOp (op : Op) : Prop := (∀ o, o ∈ op.args → gO o) ∧ (∀ s, s ∈ op.asked → wOk s)
def gOps (ops : List Op) : Prop := ∀ op, op ∈ ops → gOp op
section
variable {mem : Mem} {r : Nat} {c c' : Cell} {kvs : List (Ky × D)}
theorem set_get (h : mem[r]? = some c) : (mem.set r c')[r]? = some c' := by
  obtain ⟨hr, _⟩ := List.getElem?_eq_some_iff.mp h
  simp [hr]
theorem set_self (h : mem[r]? = some c) : mem.set r c = mem := by
  obtain ⟨hr, e⟩ := List.getElem?_eq_some_iff.mp h
  rw [← e]
  exact List.set_getElem_self hr
theorem okM_set (ok : okM mem) : okM (mem.set r (.dct kvs)) := by
  unfold okM at *
  rw [List.all_eq_true] at *
  intro x hx
  rw [List.length_set]
  rcases List.mem_or_eq_of_mem_set hx with h | h
  · exact ok x h
  · subst h; rfl
end
theorem call_upd {k f : Nat} {ws : List W} {mem mem2 : Mem} {fn : Fn} {x : D} (hl : mem2.length = mem.length) (ok : okM mem2) (h : tab f = some fn) (ha : ws.length = fn.ar) (hk : fn.keep = false) (e : body (callF tab k) fn ws mem = some (.ret (.d x), mem2)) : callF tab (k + 1) f ws mem = some (.d x, mem2) :=
  call_cut (new := []) hl ok h ha hk (by rw [List.append_nil]; exact e) rfl
/-- what an argument's matcher gives -/
def Ar (f : Nat) (X : Fm → D) (c : Nat) (ops : List Op) (n : Nat) (F : Fm) : Prop := ∀ (k : Nat) (o : Opr) (s : Nat) (B : Ls) (mem : Mem) (r : Nat), 2 * n + c ≤ k → okM mem → mem[r]? = some (.dct (lsD B)) → gO o → wOk s → B.length + F.flat.length < 1000 →
  ∃ B', callF tab k f [.d (X F), .d o.D, .d (.int s), .r r, .d (.dct (opsK 0 ops))] mem = some (.d (.bl (mA ops n F o s B).isSome), mem.set r (.dct (lsD B'))) ∧ (∀ B1, mA ops n F o s B = some B1 → B' = B1) ∧ B'.length ≤ B.length + F.flat.length
def Ao (f : Nat) (X : Fm → D) (c : Nat) (ops : List Op) (n : Nat) (F : Fm) : Prop := ∀ (k i : Nat) (op : Op) (B : Ls) (mem : Mem) (r : Nat), 2 * n + c ≤ k → okM mem → mem[r]? = some (.dct (lsD B)) → gOp op → B.length + F.flat.length < 1000 →
  ∃ B', callF tab k f [.d (X F), .d (opD i op), .r r, .d (.dct (opsK 0 ops))] mem = some (.d (.bl (mO ops n F op B).isSome), mem.set r (.dct (lsD B'))) ∧ (∀ B1, mO ops n F op B = some B1 → B' = B1) ∧ B'.length ≤ B.length + F.flat.length
def intD (s : Nat) : D := .int s
theorem zip3_c {x y z : D} {xs ys zs : List D} : zip3 (x :: xs) (y :: ys) (z :: zs) = .tup [x, y, z] :: zip3 xs ys zs := rfl
theorem zip3_n1 {ys zs : List D} : zip3 [] ys zs = [] := rfl
theorem zip3_n2 {xs zs : List D} : zip3 xs [] zs = [] := by cases xs <;> rfl
theorem zip3_n3 {xs ys : List D} : zip3 xs ys [] = [] := by cases xs <;> cases ys <;> rfl
theorem foldM_n2 {f : Fm → Opr → Nat → Ls → Option Ls} {Fs : List Fm} {ss : List Nat} {B : Ls} : foldM f Fs [] ss B = some B := by cases Fs <;> rfl
theorem foldM_n3 {f : Fm → Opr → Nat → Ls → Option Ls} {Fs : List Fm} {os : List Opr} {B : Ls} : foldM f Fs os [] B = some B := by cases Fs <;> cases os <;> rfl
theorem turns_args {ops : List Op} {n k c : Nat} {r : Nat} {x0 x1 x4 x5 x6 x7 x8 : Option W} (hk : 2 * n + c ≤ k) (Ks : List Fm) : ∀ (os : List Opr) (ss : List Nat) (B : Ls) (mem : Mem) (acc : List D), (∀ F, F ∈ Ks → Ar 34 Fm.P c ops n F) → okM mem → mem[r]? = some (.dct (lsD B)) → (∀ o, o ∈ os → gO o) → (∀ s, s ∈ ss → wOk s) → B.length + (flats Ks).length < 1000 →
    ∃ (bs : List Bool) (B' : Ls), turns (lcT1 [6, 7, 8] (.tp [6, 7, 8]) [] (.call 34 [.var 6, .var 7, .var 8, .var 2, .var 3]) (callF tab k) [x0, x1, some (.r r), some (.d (.dct (opsK 0 ops))), x4, x5, x6, x7, x8]) snoc (zip3 (Ks.map Fm.P) (os.map Opr.D) (ss.map intD)) acc mem = some (acc ++ bs.map D.bl, mem.set r (.dct (lsD B'))) ∧ bs.all id = (foldM (mA ops n) Ks os ss B).isSome ∧ (∀ B1, foldM (mA ops n) Ks os ss B = some B1 → B' = B1) ∧ B'.length ≤ B.length + (flats Ks).length ∧ bs.length ≤ Ks.length := by
  induction Ks with
  | nil => intro os ss B mem acc _ _ hr _ _ _; exact ⟨[], B, by simp [zip3_n1, set_self hr], by simp [foldM], by simp [foldM], by simp, by simp⟩
  | cons F Fs ih =>
    intro os ss B mem acc hF ok hr ho hs hl
    simp only [flats, List.length_append] at hl
    cases os with
    | nil => exact ⟨[], B, by simp [zip3_n2, set_self hr], by simp [foldM_n2], by simp [foldM_n2], by simp, by simp⟩
    | cons o os =>
      cases ss with
      | nil => exact ⟨[], B, by simp [zip3_n3, set_self hr], by simp [foldM_n3], by simp [foldM_n3], by simp, by simp⟩
      | cons s ss =>
        obtain ⟨B2, e1, h2, h3⟩ := hF F (by simp) k o s B mem r hk ok hr (ho o (by simp)) (hs s (by simp)) (by omega)
        obtain ⟨bs, B', e, hb, hB, hn, hbl⟩ := ih os ss B2 (mem.set r (.dct (lsD B2))) (acc ++ [.bl (mA ops n F o s B).isSome]) (fun G hG => hF G (by simp [hG])) (okM_set ok) (set_get hr) (fun p hp => ho p (by simp [hp])) (fun p hp => hs p (by simp [hp])) (by omega)
        refine ⟨(mA ops n F o s B).isSome :: bs, B', ?_, ?_, ?_, by simp [flats]; omega, by simp; omega⟩
        · rw [List.map_cons, List.map_cons, List.map_cons, zip3_c, turns_cons]
          have : lcT1 [6, 7, 8] (.tp [6, 7, 8]) [] (.call 34 [.var 6, .var 7, .var 8, .var 2, .var 3]) (callF tab k) [x0, x1, some (.r r), some (.d (.dct (opsK 0 ops))), x4, x5, x6, x7, x8] (.tup [F.P, o.D, intD s]) mem = some (some (.bl (mA ops n F o s B).isSome), mem.set r (.dct (lsD B2))) := by
            unfold intD
            simp [lcT1, wipeE, e1]
          rw [this, kTn_s, snoc, e]
          simp
        · cases hm : mA ops n F o s B with
          | none => simp [foldM, hm]
          | some B1 =>
            have := h2 B1 hm
            subst this
            simp [foldM, hm, hb]
        · intro B1 hB1
          cases hm : mA ops n F o s B with
          | none => simp [foldM, hm] at hB1
          | some B3 =>
            have := h2 B3 hm
            subst this
            simp [foldM, hm] at hB1
            exact hB B1 hB1
theorem mAll {bs : List Bool} {mem : Mem} : bltW .all (.d (.lst (bs.map D.bl))) mem = some (.d (.bl (bs.all id)), mem) := by
  have : bls (bs.map D.bl) = some bs := by
    induction bs with
    | nil => rfl
    | cons b r ih => simp [bls, ih]
  unfold bltW
  simp only [this]
  rfl
theorem flat_kids (F : Fm) : F.flat.length = 1 + (flats F.kids).length := by rw [flatF_eq]; simp [Nat.add_comm]
theorem c_opIs {ops : List Op} {n c : Nat} {F : Fm} (hc : 3 ≤ c) (hF : ∀ G, G ∈ F.kids → Ar 34 Fm.P c ops n G) : Ao 35 Fm.P (c + 1) ops n F := by
  intro k i op B mem r hk ok hr hg hl
  obtain ⟨j, rfl⟩ : ∃ j, k = j + 3 := ⟨k - 3, by omega⟩
  have hcb := c_canBe (k := j) (i := i) (op := op) (w := F.w) ok
  rw [flat_kids] at hl
  by_cases h : op.wd = some F.w
  · obtain ⟨bs, B', e, hb, hB, hn, hbl⟩ := turns_args (k := j + 2) (c := c) (r := r) (x0 := some (.d F.P)) (x1 := some (.d (opD i op))) (x4 := some (.d (.str [F.w]))) (x5 := some (.d (.tup (F.kids.map Fm.P)))) (x6 := none) (x7 := none) (x8 := none) (by omega) F.kids op.args op.asked B mem [] hF ok hr hg.1 hg.2 (by omega)
    have hi : op.isInp = false := by cases op <;> simp [Op.wd] at h <;> rfl
    have hp : callF tab (j + 1 + 1) 19 [.d (opD i op)] mem = some (.d (.tup [.tup (op.asked.map intD), .int op.made]), mem) := c_pureTypes (k := j + 1) (i := i) ok hi
    have h3 := kids3 F
    have hlim : bs.length < lim := by unfold lim; omega
    refine ⟨B', call_upd (by simp) (okM_set ok) rfl rfl rfl ?_, ?_, by rw [flat_kids]; omega⟩
    · simp only [decide_eq_true h, P_eq F] at hcb e
      have hop : opD i op = .tup [.int i, .str [op.kind], .tup op.info, .tup (op.args.map Opr.D)] := rfl
      rw [P_eq F]
      simp only [hop] at hcb e hp ⊢
      simp [body, fn_op_is, hcb, hp]
      simp at e
      rw [e]
      simp [hlim, mAll, mO, h, hb]
    · intro B1 h1
      simp only [mO, if_pos h] at h1
      exact hB B1 h1
  · refine ⟨B, call_upd (by simp) (okM_set ok) rfl rfl rfl ?_, ?_, by omega⟩
    · simp only [decide_eq_false h] at hcb
      rw [P_eq F]
      simp [body, fn_op_is, hcb, mO, h, set_self hr]
    · intro B1 h1
      simp [mO, h] at h1
theorem eq_nD {o : Opr} {i : Nat} : eqD o.D (.tup [.str [.n], .int (i : Int)]) = decide (o = .n i) := by
  have := oprD_eq (o := o) (o' := .n i)
  simpa [Opr.D] using this
end Mi
end
section
/-! Md4: the program's matcher of a left side. -/
namespace Mi
open PySem
theorem lk_ops {ops : List Op} {j : Nat} {o : Op} (h : ops[j]? = some o) : lkD (opsK 0 ops) (.i (j : Int)) = some (opD j o) := by
  have := lk_opsK (i := 0) h
  simpa using this
theorem lk_ops_none {ops : List Op} {j : Nat} (h : ops[j]? = none) : lkD (opsK 0 ops) (.i (j : Int)) = none := by
  have := lk_opsK_none (i := 0) (ops := ops) (j := j) (by simpa using h)
  simpa using this
def subO (ops : List Op) (n : Nat) (F : Fm) (o : Opr) (B : Ls) : Option Ls := match o with
  | .v j => match ops[j]? with
    | some op => mO ops n F op B
    | none => none
  | .n _ => none
theorem mA_other {ops : List Op} {n : Nat} {F : Fm} {o : Opr} {s : Nat} {B : Ls} (h : F.isLt = false) (hn : numL s F = none) : mA ops (n + 1) F o s B = subO ops n F o B := by
  cases F <;> first | (simp [Fm.isLt] at h; done) | (simp [numL] at hn; done) | (cases o <;> rfl)
theorem mA_num {ops : List Op} {n : Nat} {F : Fm} {o : Opr} {s i : Nat} {B : Ls} (hn : numL s F = some i) : mA ops (n + 1) F o s B = if o = .n i then some B else none := by
  cases F <;> simp [numL] at hn <;> simp [mA, numL, hn]
theorem num_numL {s i : Nat} {F : Fm} {B : Ls} (hn : numL s F = some i) : num B s F = (i : Int) ∧ nOk B s F ∧ F.ht = 0 ∧ F.isLt = false ∧ (F.w = .k0 ∨ F.w = .k1 ∨ F.w = .km1) ∧ F.flat.length = 1 := by
  cases F <;> simp [numL] at hn <;> subst hn <;> simp [num, nOk, Fm.ht, Fm.isLt, Fm.w, Fm.flat]
  have := Nat.pow_pos (n := s) (show 0 < 2 by decide)
  rw [pow_cast]; omega
theorem w_other {s : Nat} {F : Fm} (hn : numL s F = none) : ¬ Wd.k0 = F.w ∧ ¬ Wd.k1 = F.w ∧ ¬ Wd.km1 = F.w := by
  cases F with
  | lt l => cases l <;> simp [Fm.w, Lt.w]
  | bin o x y => cases o <;> simp [Fm.w, Bo.w]
  | cmp o x y => cases o <;> simp [Fm.w, Co.w]
  | cast o x => cases o <;> simp [Fm.w, Ca.w]
  | made o x y => cases o <;> simp [Fm.w, Mk.w]
  | k0 => simp [numL] at hn
  | k1 => simp [numL] at hn
  | km1 => simp [numL] at hn
  | _ => simp [Fm.w]
theorem gOp_of {ops : List Op} (g : gOps ops) {j : Nat} {op : Op} (h : ops[j]? = some op) : gOp op := g op (List.mem_of_getElem? h)
theorem lsD_app {B : Ls} {l : Lt} {o : Opr} {s : Nat} : lsD (B ++ [(l, o, s)]) = lsD B ++ [(.s [l.w], prL (o, s))] := by simp [lsD]
theorem lsD_len {B : Ls} : (lsD B).length = B.length := by simp [lsD]
theorem argIs_lt {ops : List Op} {n : Nat} {l : Lt} : Ar 34 Fm.P 8 ops (n + 1) (.lt l) := by
  intro k o s B mem r hk ok hr ho hs hl
  obtain ⟨j, rfl⟩ : ∃ j, k = j + 2 := ⟨k - 2, by omega⟩
  have h1 : callF tab (j + 1) 32 [.d (.str [l.w])] mem = some (.d (.bl true), mem) := c_isLetter (k := j) (F := .lt l) ok
  have h2 := c_takes (k := j) (l := l) ok ho
  have hk := lk_ls (B := B) (l := l)
  have hlim : B.length < lim := by unfold lim; simp [Fm.flat] at hl; omega
  by_cases ht : takesB l o = true
  · cases hb : lk B l with
    | some e =>
      rw [hb] at hk
      refine ⟨B, call_upd (by simp) (okM_set ok) rfl rfl rfl ?_, ?_, by omega⟩
      · have he := prL_eq (e := e) (e' := (o, s))
        simp only [prL] at he
        have hs := shp_prL e
        have hs2 := shp_prL (o, s)
        simp only [prL] at hs hs2
        simp [body, fn_arg_is, Fm.P, h1, h2, ht, mthTy, hr, hk, lsD_len, hlim, mA, hb, set_self hr, prL, hs, hs2]
        simp only [eq_tt, eqs_cc, eqs_nn, eq_ii, Bool.and_true] at he
        rw [he]
        by_cases h : e = (o, s) <;> simp [h]
      · intro B1 hB
        simp only [mA, ht, hb, if_true] at hB
        split at hB <;> simp at hB
        exact hB
    | none =>
      rw [hb] at hk
      refine ⟨B ++ [(l, o, s)], call_upd (by simp) (okM_set ok) rfl rfl rfl ?_, ?_, by simp [Fm.flat]⟩
      · have hs2 := shp_prL (o, s)
        have he := prL_eq (e := (o, s)) (e' := (o, s))
        simp only [prL] at hs2 he
        simp only [eq_tt, decide_true] at he
        simp [body, fn_arg_is, Fm.P, h1, h2, ht, mthTy, hr, hk, lsD_len, hlim, mA, hb, hs2, lsD_app, prL, he]
      · intro B1 hB
        simpa [mA, ht, hb] using hB
  · refine ⟨B, call_upd (by simp) (okM_set ok) rfl rfl rfl ?_, ?_, by omega⟩
    · simp [body, fn_arg_is, Fm.P, h1, h2, ht, mA, set_self hr]
    · intro B1 hB
      simp [mA, ht] at hB
theorem argIs_num {ops : List Op} {n : Nat} {F : Fm} (h : ∀ s, numL s F ≠ none) : Ar 34 Fm.P 8 ops (n + 1) F := by
  intro k o s B mem r hk ok hr ho hs hl
  obtain ⟨j, rfl⟩ : ∃ j, k = j + 2 := ⟨k - 2, by omega⟩
  cases hn : numL s F with
  | none => exact absurd hn (h s)
  | some i =>
    obtain ⟨e1, e2, e3, e4, e5, e6⟩ := num_numL (B := B) hn
    have h1 := c_isLetter (k := j) (F := F) ok
    have h3 := c_numberOf (k := j + 1) hs F ok (by omega) (.inr ⟨r, rfl, hr⟩) e2
    rw [e4] at h1
    rw [e1] at h3
    have h4 := eq_nD (o := o) (i := i)
    have h5 : shp (.tup [.str [.n], .int (i : Int)]) = true := rfl
    refine ⟨B, call_upd (by simp) (okM_set ok) rfl rfl rfl ?_, ?_, by omega⟩
    · rw [P_eq F] at h3 ⊢
      rcases e5 with e5 | e5 | e5 <;> rw [e5] at h1 h3 ⊢ <;> simp [body, fn_arg_is, h1, h3, shp_opr, h4, h5, mA_num hn, set_self hr] <;> by_cases ho : o = .n i <;> simp [ho]
    · intro B1 hB
      rw [mA_num hn] at hB
      split at hB <;> simp at hB
      exact hB
theorem argIs_other {ops : List Op} {n : Nat} {F : Fm} (g : gOps ops) (hlt : F.isLt = false) (hnum : ∀ s, numL s F = none) (ih : Ao 35 Fm.P 9 ops n F) : Ar 34 Fm.P 8 ops (n + 1) F := by
  intro k o s B mem r hk ok hr ho hs hl
  obtain ⟨j, rfl⟩ : ∃ j, k = j + 2 := ⟨k - 2, by omega⟩
  have h1 := c_isLetter (k := j) (F := F) ok
  rw [hlt] at h1
  obtain ⟨w0, w1, w2⟩ := w_other (hnum s)
  rw [mA_other hlt (hnum s)]
  cases o with
  | n i =>
    refine ⟨B, call_upd (by simp) (okM_set ok) rfl rfl rfl ?_, ?_, by omega⟩
    · rw [P_eq F]
      simp [body, fn_arg_is, h1, w0, w1, w2, Opr.D, subO, set_self hr]
    · intro B1 hB
      simp [subO] at hB
  | v q =>
    cases hq : ops[q]? with
    | none =>
      refine ⟨B, call_upd (by simp) (okM_set ok) rfl rfl rfl ?_, ?_, by omega⟩
      · rw [P_eq F]
        simp [body, fn_arg_is, h1, w0, w1, w2, Opr.D, subO, set_self hr, hq, lk_ops_none hq]
      · intro B1 hB
        simp [subO, hq] at hB
    | some op =>
      obtain ⟨B', e, hB, hn⟩ := ih (j + 1) q op B mem r (by omega) ok hr (gOp_of g hq) hl
      refine ⟨B', call_upd (by simp) (okM_set ok) rfl rfl rfl ?_, ?_, hn⟩
      · rw [P_eq F] at e ⊢
        simp [body, fn_arg_is, h1, w0, w1, w2, Opr.D, subO, hq, lk_ops hq, e]
      · intro B1 h
        simp only [subO, hq] at h
        exact hB B1 h
theorem kind3 (F : Fm) : (∃ l, F = .lt l) ∨ (∀ s, numL s F ≠ none) ∨ (F.isLt = false ∧ ∀ s, numL s F = none) := by
  cases F <;> simp [numL, Fm.isLt]
theorem c_argIs {ops : List Op} (g : gOps ops) : ∀ (n : Nat) (F : Fm), F.ht < n → Ar 34 Fm.P 8 ops n F := by
  intro n
  induction n with
  | zero => intro F h; omega
  | succ n ih =>
    intro F h
    rcases kind3 F with ⟨l, rfl⟩ | h1 | ⟨h1, h2⟩
    · exact argIs_lt
    · exact argIs_num h1
    · exact argIs_other g h1 h2 (c_opIs (by omega) fun G hG => ih G (by have := kid_ht hG; omega))
theorem c_left {ops : List Op} (g : gOps ops) (F : Fm) {n : Nat} (h : F.ht ≤ n) : Ao 35 Fm.P 9 ops n F := c_opIs (by omega) fun G hG => c_argIs g n G (by have := kid_ht hG; omega)
end Mi
end
section
/-! Md5: the law's matcher of a left side. -/
namespace Mi
open PySem
theorem putD_none {kvs : List (Ky × D)} {k : Ky} {x : D} (h : lkD kvs k = none) : putD kvs k x = kvs ++ [(k, x)] := by
  refine putD_new fun p hp e => ?_
  unfold lkD at h
  cases hf : kvs.find? (fun kv => decide (kv.1 = k)) with
  | none =>
    have := List.find?_eq_none.mp hf p hp
    simp [e] at this
  | some q => rw [hf] at h; simp at h
theorem w_notlt {F : Fm} (h : F.isLt = false) : ¬ Wd.a = F.w ∧ ¬ Wd.b = F.w ∧ ¬ Wd.c = F.w ∧ ¬ Wd.m = F.w ∧ ¬ Wd.n = F.w ∧ ¬ Wd.p = F.w := by
  cases F with
  | lt l => simp [Fm.isLt] at h
  | bin o x y => cases o <;> simp [Fm.w, Bo.w]
  | cmp o x y => cases o <;> simp [Fm.w, Co.w]
  | cast o x => cases o <;> simp [Fm.w, Ca.w]
  | made o x y => cases o <;> simp [Fm.w, Mk.w]
  | _ => simp [Fm.w]
theorem okM_set' {mem : Mem} {r : Nat} {kvs : List (Ky × D)} (ok : okM mem) : okM (mem.set r (.dct kvs)) := okM_set ok
theorem isLeft_lt {ops : List Op} {n : Nat} {l : Lt} : Ar 71 Fm.L 8 ops (n + 1) (.lt l) := by
  intro k o s B mem r hk ok hr ho hs hl
  obtain ⟨j, rfl⟩ : ∃ j, k = j + 3 := ⟨k - 3, by omega⟩
  have h2 := fun {mem : Mem} (ok : okM mem) => c_takesL (k := j) (l := l) (o := o) ok
  have hlk := lk_ls (B := B) (l := l)
  have hlim : B.length < lim := by unfold lim; simp [Fm.flat] at hl; omega
  have hs2 := shp_prL (o, s)
  simp only [prL] at hs2
  have hin : shp (.lst [.str [.a], .str [.b], .str [.c], .str [.m], .str [.n], .str [.p]]) = true := rfl
  have hw : Wd.a = l.w ∨ Wd.b = l.w ∨ Wd.c = l.w ∨ Wd.m = l.w ∨ Wd.n = l.w ∨ Wd.p = l.w := by cases l <;> simp [Lt.w]
  cases hb : lk B l with
  | some e =>
    rw [hb] at hlk
    have he := prL_eq (e := e) (e' := (o, s))
    simp only [prL, eq_tt, eqs_cc, eqs_nn, eq_ii, Bool.and_true] at he
    have hs1 := shp_prL e
    simp only [prL] at hs1
    refine ⟨B, call_upd (by simp) (okM_set ok) rfl rfl rfl ?_, ?_, by omega⟩
    · rw [set_self hr]
      simp only [Fm.L, body, fn__law_is_left]
      simp [hin, hr, hlk, h2 ok, prL, hs1, hs2, mA, hb, he, hw]
      by_cases ht : takesB l o = true <;> simp [ht]
      by_cases h : e = (o, s) <;> simp [h]
    · intro B1 hB
      simp only [mA, hb] at hB
      split at hB
      · split at hB <;> simp at hB
        exact hB
      · simp at hB
  | none =>
    rw [hb] at hlk
    have hlk2 := lk_ls (B := B ++ [(l, o, s)]) (l := l)
    rw [lk_app hb, if_pos rfl] at hlk2
    have he := prL_eq (e := (o, s)) (e' := (o, s))
    simp only [prL, eq_tt, eqs_cc, eqs_nn, eq_ii, Bool.and_true, decide_true] at he
    have hp := putD_none (x := prL (o, s)) hlk
    have hg := set_get (c' := .dct (lsD (B ++ [(l, o, s)]))) hr
    rw [lsD_app] at hlk2 hg
    simp only [prL] at hp hg
    refine ⟨B ++ [(l, o, s)], call_upd (by simp) (okM_set ok) rfl rfl rfl ?_, ?_, by simp [Fm.flat]⟩
    · have ok2 : okM (mem.set r (.dct (lsD B ++ [(.s [l.w], .tup [o.D, .int s])]))) := okM_set ok
      simp only [Fm.L, body, fn__law_is_left, lsD_app, prL]
      simp only [prL] at hlk2
      simp [hin, hr, hlk, lsD_len, hlim, hp, hg, hlk2, h2 ok2, hs2, mA, hb, he, hw]
      by_cases ht : takesB l o = true <;> simp [ht, prL, hs2, he]
    · intro B1 hB
      simp only [mA, hb] at hB
      split at hB <;> simp at hB
      exact hB
theorem isLeft_num {ops : List Op} {n : Nat} {F : Fm} (h : ∀ s, numL s F ≠ none) : Ar 71 Fm.L 8 ops (n + 1) F := by
  intro k o s B mem r hk ok hr ho hs hl
  obtain ⟨j, rfl⟩ : ∃ j, k = j + 2 := ⟨k - 2, by omega⟩
  cases hn : numL s F with
  | none => exact absurd hn (h s)
  | some i =>
    obtain ⟨e1, e2, e3, e4, e5, e6⟩ := num_numL (B := []) hn
    have h3 := c_madeNumber (k := j + 1) (r := mem.length) hs F (okM_dct (kvs := []) ok) (by omega) (by simp [plD]) e2
    rw [e1] at h3
    have h4 := eq_nD (o := o) (i := i)
    have h5 : shp (.tup [.str [.n], .int (i : Int)]) = true := rfl
    refine ⟨B, ?_, ?_, by omega⟩
    · rw [set_self hr]
      refine call_new (new := [.dct []]) (w := .d (.bl (mA ops (n + 1) F o s B).isSome)) ok rfl rfl rfl ?_ rfl
      rw [L_eq F] at h3 ⊢
      have hin : shp (.lst [.str [.a], .str [.b], .str [.c], .str [.m], .str [.n], .str [.p]]) = true := rfl
      have hin2 : shp (.lst [.str [.k0], .str [.k1], .str [.km1]]) = true := rfl
      rcases e5 with e5 | e5 | e5 <;> rw [e5] at h3 ⊢ <;> simp [body, fn__law_is_left, hin, hin2, h3, shp_opr, h4, h5, mA_num hn] <;> by_cases ho : o = .n i <;> simp [ho]
    · intro B1 hB
      rw [mA_num hn] at hB
      split at hB <;> simp at hB
      exact hB
theorem isLeft_other {ops : List Op} {n : Nat} {F : Fm} (g : gOps ops) (hlt : F.isLt = false) (hnum : ∀ s, numL s F = none) (ih : Ao 72 Fm.L 9 ops n F) : Ar 71 Fm.L 8 ops (n + 1) F := by
  intro k o s B mem r hk ok hr ho hs hl
  obtain ⟨j, rfl⟩ : ∃ j, k = j + 2 := ⟨k - 2, by omega⟩
  obtain ⟨w0, w1, w2⟩ := w_other (hnum s)
  obtain ⟨v0, v1, v2, v3, v4, v5⟩ := w_notlt hlt
  have hin : shp (.lst [.str [.a], .str [.b], .str [.c], .str [.m], .str [.n], .str [.p]]) = true := rfl
  have hin2 : shp (.lst [.str [.k0], .str [.k1], .str [.km1]]) = true := rfl
  rw [mA_other hlt (hnum s)]
  cases o with
  | n i =>
    refine ⟨B, call_upd (by simp) (okM_set ok) rfl rfl rfl ?_, ?_, by omega⟩
    · rw [L_eq F]
      simp [body, fn__law_is_left, hin, hin2, w0, w1, w2, v0, v1, v2, v3, v4, v5, Opr.D, subO, set_self hr]
    · intro B1 hB
      simp [subO] at hB
  | v q =>
    cases hq : ops[q]? with
    | none =>
      refine ⟨B, call_upd (by simp) (okM_set ok) rfl rfl rfl ?_, ?_, by omega⟩
      · rw [L_eq F]
        simp [body, fn__law_is_left, hin, hin2, w0, w1, w2, v0, v1, v2, v3, v4, v5, Opr.D, subO, set_self hr, hq, lk_ops_none hq]
      · intro B1 hB
        simp [subO, hq] at hB
    | some op =>
      obtain ⟨B', e, hB, hn⟩ := ih (j + 1) q op B mem r (by omega) ok hr (gOp_of g hq) hl
      refine ⟨B', call_upd (by simp) (okM_set ok) rfl rfl rfl ?_, ?_, hn⟩
      · rw [L_eq F] at e ⊢
        simp [body, fn__law_is_left, hin, hin2, w0, w1, w2, v0, v1, v2, v3, v4, v5, Opr.D, subO, hq, lk_ops hq, e]
      · intro B1 h
        simp only [subO, hq] at h
        exact hB B1 h
def argsB : List IS := [.iff (.not (.call 71 [.var 6, .var 7, .var 8, .var 2, .var 3])) [.ret (.con (.bl false))] []]
theorem loop_args {ops : List Op} {n k c : Nat} {r : Nat} {x0 x1 x4 x5 : Option W} (hk : 2 * n + c ≤ k) (Ks : List Fm) : ∀ (os : List Opr) (ss : List Nat) (B : Ls) (mem : Mem) (x6 x7 x8 : Option W), (∀ F, F ∈ Ks → Ar 71 Fm.L c ops n F) → okM mem → mem[r]? = some (.dct (lsD B)) → (∀ o, o ∈ os → gO o) → (∀ s, s ∈ ss → wOk s) → B.length + (flats Ks).length < 1000 →
    ∃ (B' : Ls) (x6' x7' x8' : Option W), loopF (fBody (callF tab k) argsB) (.tp [6, 7, 8]) (zip3 (Ks.map Fm.L) (os.map Opr.D) (ss.map intD)) [x0, x1, some (.r r), some (.d (.dct (opsK 0 ops))), x4, x5, x6, x7, x8] mem = some ((if (foldM (mA ops n) Ks os ss B).isSome then .next else .ret (.d (.bl false)), [x0, x1, some (.r r), some (.d (.dct (opsK 0 ops))), x4, x5, x6', x7', x8']), mem.set r (.dct (lsD B'))) ∧ (∀ B1, foldM (mA ops n) Ks os ss B = some B1 → B' = B1) ∧ B'.length ≤ B.length + (flats Ks).length := by
  induction Ks with
  | nil => intro os ss B mem x6 x7 x8 _ _ hr _ _ _; exact ⟨B, x6, x7, x8, by simp [zip3_n1, set_self hr, foldM], by simp [foldM], by simp⟩
  | cons F Fs ih =>
    intro os ss B mem x6 x7 x8 hF ok hr ho hs hl
    simp only [flats, List.length_append] at hl
    cases os with
    | nil => exact ⟨B, x6, x7, x8, by simp [zip3_n2, set_self hr, foldM_n2], by simp [foldM_n2], by simp⟩
    | cons o os =>
      cases ss with
      | nil => exact ⟨B, x6, x7, x8, by simp [zip3_n3, set_self hr, foldM_n3], by simp [foldM_n3], by simp⟩
      | cons s ss =>
        obtain ⟨B2, e1, h2, h3⟩ := hF F (by simp) k o s B mem r hk ok hr (ho o (by simp)) (hs s (by simp)) (by omega)
        cases hm : mA ops n F o s B with
        | none =>
          rw [hm] at e1
          refine ⟨B2, some (.d F.L), some (.d o.D), some (.d (.int s)), ?_, by simp [foldM, hm], by simp [flats]; omega⟩
          rw [List.map_cons, List.map_cons, List.map_cons, zip3_c, loop_cons]
          simp [argsB, intD, e1, foldM, hm]
        | some B3 =>
          have := h2 B3 hm
          subst this
          rw [hm] at e1
          obtain ⟨B', y6, y7, y8, e, hB, hn⟩ := ih os ss B2 (mem.set r (.dct (lsD B2))) (some (.d F.L)) (some (.d o.D)) (some (.d (.int s))) (fun G hG => hF G (by simp [hG])) (okM_set ok) (set_get hr) (fun p hp => ho p (by simp [hp])) (fun p hp => hs p (by simp [hp])) (by omega)
          refine ⟨B', y6, y7, y8, ?_, ?_, by simp [flats]; omega⟩
          · rw [List.map_cons, List.map_cons, List.map_cons, zip3_c, loop_cons]
            simp [argsB] at e
            simp [argsB, intD, e1, foldM, hm]
            simpa using e
          · intro B1 hB1
            simp [foldM, hm] at hB1
            exact hB B1 hB1
theorem c_opIsL {ops : List Op} {n c : Nat} {F : Fm} (hc : 3 ≤ c) (hF : ∀ G, G ∈ F.kids → Ar 71 Fm.L c ops n G) : Ao 72 Fm.L (c + 1) ops n F := by
  intro k i op B mem r hk ok hr hg hl
  obtain ⟨j, rfl⟩ : ∃ j, k = j + 3 := ⟨k - 3, by omega⟩
  rw [flat_kids] at hl
  have hin : shp (.lst [.str [.bin], .str [.cmp], .str [.select], .str [.cast]]) = true := rfl
  by_cases h : op.wd = some F.w
  · obtain ⟨B', y6, y7, y8, e, hB, hn⟩ := loop_args (k := j + 2) (c := c) (r := r) (x0 := some (.d F.L)) (x1 := some (.d (opD i op))) (x4 := some (.d (.str [F.w]))) (x5 := some (.d (.lst (F.kids.map Fm.L)))) (by omega) F.kids op.args op.asked B mem none none none hF ok hr hg.1 hg.2 (by omega)
    have hi : op.isInp = false := by cases op <;> simp [Op.wd] at h <;> rfl
    have hp : callF tab (j + 1 + 1) 63 [.d (opD i op)] mem = some (.d (.lst (op.asked.map intD)), mem) := c_asked (k := j + 1) (i := i) ok hi
    refine ⟨B', call_upd (by simp) (okM_set ok) rfl rfl rfl ?_, ?_, by rw [flat_kids]; omega⟩
    · simp only [argsB] at e
      rw [L_eq F] at e ⊢
      have hop : opD i op = .tup [.int i, .str [op.kind], .tup op.info, .tup (op.args.map Opr.D)] := rfl
      simp only [hop] at e hp ⊢
      have hm : (mO ops n F op B).isSome = (foldM (mA ops n) F.kids op.args op.asked B).isSome := by simp [mO, h]
      rw [hm]
      cases op with
      | inp s => simp [Op.wd] at h
      | bin o s x y =>
        simp only [Op.wd, Option.some.injEq] at h
        simp only [Op.kind, Op.info] at e hp ⊢
        rw [← h] at e ⊢
        simp [body, fn__law_op_is_left, hin, hp, e]
        split <;> simp_all
      | cmp o s x y =>
        simp only [Op.wd, Option.some.injEq] at h
        simp only [Op.kind, Op.info] at e hp ⊢
        rw [← h] at e ⊢
        simp [body, fn__law_op_is_left, hin, hp, e]
        split <;> simp_all
      | sel s c x y =>
        simp only [Op.wd, Option.some.injEq] at h
        simp only [Op.kind, Op.info] at e hp ⊢
        rw [← h] at e ⊢
        simp [body, fn__law_op_is_left, hin, hp, e]
        split <;> simp_all
      | cast o lo hi x =>
        simp only [Op.wd, Option.some.injEq] at h
        simp only [Op.kind, Op.info] at e hp ⊢
        rw [← h] at e ⊢
        simp [body, fn__law_op_is_left, hin, hp, e]
        split <;> simp_all
    · intro B1 h1
      simp only [mO, if_pos h] at h1
      exact hB B1 h1
  · refine ⟨B, call_upd (by simp) (okM_set ok) rfl rfl rfl ?_, ?_, by omega⟩
    · rw [L_eq F, set_self hr]
      simp only [mO, if_neg h]
      cases op with
      | inp s => simp [body, fn__law_op_is_left, opD, Op.kind, hin]
      | bin o s x y =>
        have h' : ¬ F.w = o.w := fun e => h (by simp [Op.wd, e])
        simp [body, fn__law_op_is_left, opD, Op.kind, Op.info, hin, h']
      | cmp o s x y =>
        have h' : ¬ F.w = o.w := fun e => h (by simp [Op.wd, e])
        simp [body, fn__law_op_is_left, opD, Op.kind, Op.info, hin, h']
      | sel s c x y =>
        have h' : ¬ F.w = .select := fun e => h (by simp [Op.wd, e])
        simp [body, fn__law_op_is_left, opD, Op.kind, Op.info, hin, h']
      | cast o lo hi x =>
        have h' : ¬ F.w = o.w := fun e => h (by simp [Op.wd, e])
        simp [body, fn__law_op_is_left, opD, Op.kind, Op.info, hin, h']
    · intro B1 h1
      simp [mO, h] at h1
theorem c_isLeft {ops : List Op} (g : gOps ops) : ∀ (n : Nat) (F : Fm), F.ht < n → Ar 71 Fm.L 8 ops n F := by
  intro n
  induction n with
  | zero => intro F h; omega
  | succ n ih =>
    intro F h
    rcases kind3 F with ⟨l, rfl⟩ | h1 | ⟨h1, h2⟩
    · exact isLeft_lt
    · exact isLeft_num h1
    · exact isLeft_other g h1 h2 (c_opIsL (by omega) fun G hG => ih G (by have := kid_ht hG; omega))
theorem c_leftL {ops : List Op} (g : gOps ops) (F : Fm) {n : Nat} (h : F.ht ≤ n) : Ao 72 Fm.L 9 ops n F := c_opIsL (by omega) fun G hG => c_isLeft g n G (by have := kid_ht hG; omega)
end Mi
end
section
/-! Md6: a right side is matched: the program's matcher. -/
namespace Mi
open PySem
def Fm.isNum : Fm → Bool
  | .k0 | .k1 | .km1 | .log _ | .made .. => true
  | _ => false
def oprN (o : Opr) (x : Int) : Bool := match o with
  | .n i => decide ((i : Int) = x)
  | .v _ => false
def allM (f : Fm → Opr → Nat → Bool) : List Fm → List Opr → List Nat → Bool
  | F :: Fs, o :: os, s :: ss => f F o s && allM f Fs os ss
  | _, _, _ => true
def mR (ops : List Op) (L : Ls) : Nat → Fm → Opr → Nat → Bool
  | 0, _, _, _ => false
  | n + 1, F, o, s => match F with
    | .lt l => decide (lk L l = some (o, s))
    | F => if F.isNum then oprN o (num L s F) else match o with
      | .v j => match ops[j]? with
        | some op => if op.wd = some F.w then decide (op.made = s) && allM (mR ops L n) F.kids op.args op.asked else false
        | none => false
      | .n _ => false
def rOk (L : Ls) : Fm → Prop
  | .lt l => ∃ e, lk L l = some e
  | .bin _ x y => rOk L x ∧ rOk L y
  | .cmp _ x y => rOk L x ∧ rOk L y
  | .cast _ x => rOk L x
  | .sel .. => False
  | F => ∀ s, wOk s → nOk L s F
theorem rOk_num {L : Ls} {F : Fm} (h : F.isNum = true) (r : rOk L F) {s : Nat} (hs : wOk s) : nOk L s F := by
  cases F <;> first | (simp [Fm.isNum] at h; done) | exact r s hs
theorem rOk_kid {L : Ls} {F G : Fm} (h : F.isNum = false) (r : rOk L F) (hG : G ∈ F.kids) : rOk L G := by
  cases F <;> first | (simp [Fm.isNum] at h; done) | (simp [Fm.kids] at hG; done) | skip
  · simp [Fm.kids] at hG
    rcases hG with rfl | rfl
    · exact r.1
    · exact r.2
  · simp [Fm.kids] at hG
    rcases hG with rfl | rfl
    · exact r.1
    · exact r.2
  · simp [Fm.kids] at hG; subst hG; exact r
  · exact r.elim
theorem oprN_eq {o : Opr} {x : Int} : eqD o.D (.tup [.str [.n], .int x]) = oprN o x := by cases o <;> simp [Opr.D, oprN]
theorem shp_nI {x : Int} : shp (.tup [.str [.n], .int x]) = true := rfl
def Rr (f : Nat) (X : Fm → D) (c : Nat) (ops : List Op) (L : Ls) (n : Nat) (F : Fm) : Prop := ∀ (k : Nat) (o : Opr) (s : Nat) (mem : Mem), 2 * n + c ≤ k → okM mem → wOk s → callF tab k f [.d (X F), .d o.D, .d (.int s), .d (.dct (lsD L)), .d (.dct (opsK 0 ops))] mem = some (.d (.bl (mR ops L n F o s)), mem)
theorem turns_rights {ops : List Op} {L : Ls} {n k c : Nat} {mem : Mem} {x0 x1 x2 x5 x6 x7 x8 x9 x10 x11 x12 : Option W} (hk : 2 * n + c ≤ k) (ok : okM mem) (Ks : List Fm) : ∀ (os : List Opr) (ss : List Nat) (acc : List D), (∀ F, F ∈ Ks → Rr 36 Fm.P c ops L n F) → (∀ s, s ∈ ss → wOk s) →
    ∃ (bs : List Bool), turns (lcT1 [10, 11, 12] (.tp [10, 11, 12]) [] (.call 36 [.var 10, .var 11, .var 12, .var 3, .var 4]) (callF tab k) [x0, x1, x2, some (.d (.dct (lsD L))), some (.d (.dct (opsK 0 ops))), x5, x6, x7, x8, x9, x10, x11, x12]) snoc (zip3 (Ks.map Fm.P) (os.map Opr.D) (ss.map intD)) acc mem = some (acc ++ bs.map D.bl, mem) ∧ bs.all id = allM (mR ops L n) Ks os ss ∧ bs.length ≤ Ks.length := by
  induction Ks with
  | nil => intro os ss acc _ _; exact ⟨[], by simp [zip3_n1], by simp [allM], by simp⟩
  | cons F Fs ih =>
    intro os ss acc hF hs
    cases os with
    | nil => exact ⟨[], by simp [zip3_n2], by simp [allM], by simp⟩
    | cons o os =>
      cases ss with
      | nil => exact ⟨[], by simp [zip3_n3], by simp [allM], by simp⟩
      | cons s ss =>
        have e1 := hF F (by simp) k o s mem hk ok (hs s (by simp))
        obtain ⟨bs, e, hb, hbl⟩ := ih os ss (acc ++ [.bl (mR ops L n F o s)]) (fun G hG => hF G (by simp [hG])) (fun p hp => hs p (by simp [hp]))
        refine ⟨mR ops L n F o s :: bs, ?_, by simp [allM, hb], by simp; omega⟩
        rw [List.map_cons, List.map_cons, List.map_cons, zip3_c, turns_cons]
        have : lcT1 [10, 11, 12] (.tp [10, 11, 12]) [] (.call 36 [.var 10, .var 11, .var 12, .var 3, .var 4]) (callF tab k) [x0, x1, x2, some (.d (.dct (lsD L))), some (.d (.dct (opsK 0 ops))), x5, x6, x7, x8, x9, x10, x11, x12] (.tup [F.P, o.D, intD s]) mem = some (some (.bl (mR ops L n F o s)), mem) := by
          unfold intD
          simp [lcT1, wipeE, e1]
        rw [this, kTn_s, snoc, e]
        simp
theorem w_num {F : Fm} (h : F.isNum = true) : F.isLt = false ∧ ((F.kids.length : Int) = 0 ∨ F.w = .LOG ∨ (madeW F.w).isSome = true) := by
  cases F <;> first | (simp [Fm.isNum] at h; done) | simp [Fm.isLt, Fm.kids, Fm.w]
  rename_i o x y
  cases o <;> simp [Mk.w, madeW]
theorem w_notnum {F : Fm} (h : F.isNum = false) (hl : F.isLt = false) : ¬ (F.kids.length : Int) = 0 ∧ ¬ F.w = .LOG ∧ (madeW F.w).isSome = false ∧ F.kids.length ≠ 0 := by
  cases F with
  | bin o x y => cases o <;> simp [Fm.kids, Fm.w, Bo.w, madeW] <;> omega
  | cmp o x y => cases o <;> simp [Fm.kids, Fm.w, Co.w, madeW] <;> omega
  | cast o x => cases o <;> simp [Fm.kids, Fm.w, Ca.w, madeW]
  | sel c x y => simp [Fm.kids, Fm.w, madeW]
  | _ => first | (simp [Fm.isNum] at h; done) | (simp [Fm.isLt] at hl; done)
theorem right_lt {ops : List Op} {L : Ls} {n : Nat} {l : Lt} (h : rOk L (.lt l)) : Rr 36 Fm.P 8 ops L (n + 1) (.lt l) := by
  intro k o s mem hk ok hs
  obtain ⟨j, rfl⟩ : ∃ j, k = j + 2 := ⟨k - 2, by omega⟩
  obtain ⟨e, he⟩ := h
  have h1 : callF tab (j + 1) 32 [.d (.str [l.w])] mem = some (.d (.bl true), mem) := c_isLetter (k := j) (F := .lt l) ok
  have hlk := lk_ls (B := L) (l := l)
  rw [he] at hlk
  have h2 := prL_eq (e := e) (e' := (o, s))
  have h3 := shp_prL e
  have h4 := shp_prL (o, s)
  simp only [prL] at h2 h3 h4
  simp only [eq_tt, eqs_cc, eqs_nn, eq_ii, Bool.and_true] at h2
  refine call_pure ok rfl rfl rfl ?_
  simp [body, fn_right_is, Fm.P, h1, hlk, prL, h3, h4, h2, mR, he]
theorem right_num {ops : List Op} {L : Ls} {n : Nat} {F : Fm} (hn : F.isNum = true) (hh : F.ht ≤ n) (h : rOk L F) : Rr 36 Fm.P 8 ops L (n + 1) F := by
  intro k o s mem hk ok hs
  obtain ⟨j, rfl⟩ : ∃ j, k = j + 2 := ⟨k - 2, by omega⟩
  obtain ⟨hl, hw⟩ := w_num hn
  have h1 := c_isLetter (k := j) (F := F) ok
  rw [hl] at h1
  have h2 := c_places (k := j) (F := F) ok
  have h3 := c_numberOf (k := j + 1) hs F ok (by omega) (.inl rfl) (rOk_num hn h hs)
  have hm : mR ops L (n + 1) F o s = oprN o (num L s F) := by cases F <;> first | (simp [Fm.isNum] at hn; done) | rfl
  rw [hm]
  refine call_pure ok rfl rfl rfl ?_
  rw [P_eq F] at h3 ⊢
  rcases hw with hw | hw | hw
  · rw [hw] at h2
    simp [body, fn_right_is, h1, h2, h3, shp_opr, oprN_eq, shp_nI]
  · by_cases h0 : (F.kids.length : Int) = 0
    · rw [h0] at h2
      simp [body, fn_right_is, h1, h2, h3, shp_opr, oprN_eq, shp_nI]
    · simp [body, fn_right_is, h1, h2, h3, shp_opr, oprN_eq, shp_nI, h0, hw]
      rw [hw] at h1 h2 h3
      have : ¬ F.kids = [] := fun x => h0 (by rw [x]; rfl)
      simp [h1, h2, h3, shp_opr, oprN_eq, shp_nI, h0, this]
  · by_cases h0 : (F.kids.length : Int) = 0
    · rw [h0] at h2
      simp [body, fn_right_is, h1, h2, h3, shp_opr, oprN_eq, shp_nI]
    · have : ¬ F.kids = [] := fun x => h0 (by rw [x]; rfl)
      by_cases hL : F.w = .LOG
      · rw [hL] at hw; simp [madeW] at hw
      · simp [body, fn_right_is, h1, h2, h3, shp_opr, oprN_eq, shp_nI, h0, hw, this, hL]
def subR (ops : List Op) (L : Ls) (n : Nat) (F : Fm) (o : Opr) (s : Nat) : Bool := match o with
  | .v j => match ops[j]? with
    | some op => if op.wd = some F.w then decide (op.made = s) && allM (mR ops L n) F.kids op.args op.asked else false
    | none => false
  | .n _ => false
theorem mR_other {ops : List Op} {L : Ls} {n : Nat} {F : Fm} {o : Opr} {s : Nat} (h : F.isLt = false) (hn : F.isNum = false) : mR ops L (n + 1) F o s = subR ops L n F o s := by
  cases F <;> first | (simp [Fm.isLt] at h; done) | (simp [Fm.isNum] at hn; done) | (cases o <;> rfl)
theorem right_other {ops : List Op} {L : Ls} {n : Nat} {F : Fm} (g : gOps ops) (hl : F.isLt = false) (hn : F.isNum = false) (ih : ∀ G, G ∈ F.kids → Rr 36 Fm.P 8 ops L n G) : Rr 36 Fm.P 8 ops L (n + 1) F := by
  intro k o s mem hk ok hs
  obtain ⟨j, rfl⟩ : ∃ j, k = j + 4 := ⟨k - 4, by omega⟩
  obtain ⟨w1, w2, w3, w4⟩ := w_notnum hn hl
  have w5 : ¬ F.kids = [] := fun x => w4 (by rw [x]; rfl)
  have h1 := c_isLetter (k := j + 2) (F := F) ok
  rw [hl] at h1
  have h2 := c_places (k := j + 2) (F := F) ok
  rw [mR_other hl hn]
  refine call_pure ok rfl rfl rfl ?_
  rw [P_eq F]
  cases o with
  | n i => simp [body, fn_right_is, h1, h2, w1, w2, w3, w5, Opr.D, subR]
  | v q =>
    cases hq : ops[q]? with
    | none => simp [body, fn_right_is, h1, h2, w1, w2, w3, w5, Opr.D, subR, hq, lk_ops_none hq]
    | some op =>
      have hcb := c_canBe (k := j + 1) (i := q) (op := op) (w := F.w) ok
      by_cases hw : op.wd = some F.w
      · have hi : op.isInp = false := by cases op <;> simp [Op.wd] at hw <;> rfl
        have hp : callF tab (j + 2 + 1) 19 [.d (opD q op)] mem = some (.d (.tup [.tup (op.asked.map intD), .int op.made]), mem) := c_pureTypes (k := j + 2) (i := q) ok hi
        have hg := gOp_of g hq
        obtain ⟨bs, e, hb, hbl⟩ := turns_rights (k := j + 3) (c := 8) (x0 := some (.d F.P)) (x1 := some (.d (Opr.v q).D)) (x2 := some (.d (.int s))) (x5 := some (.d (opD q op))) (x6 := some (.d (.str [F.w]))) (x7 := some (.d (.tup (F.kids.map Fm.P)))) (x8 := some (.d (.tup (op.asked.map intD)))) (x9 := some (.d (.int op.made))) (x10 := none) (x11 := none) (x12 := none) (by omega) ok F.kids op.args op.asked [] ih hg.2
        have h3 := kids3 F
        have hlim : bs.length < lim := by unfold lim; omega
        rw [decide_eq_true hw] at hcb
        have hop : opD q op = .tup [.int q, .str [op.kind], .tup op.info, .tup (op.args.map Opr.D)] := rfl
        rw [P_eq F] at e
        simp only [hop, Opr.D] at e hp hcb
        have hlk := lk_ops hq
        rw [hop] at hlk
        simp at e
        simp [body, fn_right_is, h1, h2, w1, w2, w3, w5, Opr.D, subR, hq, hlk, hcb, hw, hp]
        rw [e]
        by_cases hm : op.made = s
        · subst hm
          simp [hlim, mAll, hb]
        · have : ¬ (op.made : Int) = s := by omega
          simp [this, hm]
      · rw [decide_eq_false hw] at hcb
        simp [body, fn_right_is, h1, h2, w1, w2, w3, w5, Opr.D, subR, hq, lk_ops hq, hcb, hw]
theorem c_right {ops : List Op} {L : Ls} (g : gOps ops) : ∀ (n : Nat) (F : Fm), F.ht < n → rOk L F → Rr 36 Fm.P 8 ops L n F := by
  intro n
  induction n with
  | zero => intro F h; omega
  | succ n ih =>
    intro F h r
    cases hl : F.isLt with
    | true =>
      cases F with
      | lt l => exact right_lt r
      | _ => simp [Fm.isLt] at hl
    | false =>
      cases hn : F.isNum with
      | true => exact right_num hn (by omega) r
      | false => exact right_other g hl hn fun G hG => ih G (by have := kid_ht hG; omega) (rOk_kid hn r hG)
end Mi
end
section
/-! Md7: the law's matcher of a right side. -/
namespace Mi
open PySem
def Nd (L : Ls) : Prop := (L.map (·.1)).Nodup
theorem lk_none_of {P : Ls} {l : Lt} (h : l ∉ P.map (·.1)) : lk P l = none := by
  unfold lk
  rw [List.find?_eq_none.mpr]
  · rfl
  · intro e he x
    simp only [decide_eq_true_eq] at x
    exact h (List.mem_map.mpr ⟨e, he, x⟩)
theorem lk_split {P S : Ls} {e : Lt × Opr × Nat} (h : Nd (P ++ e :: S)) : lk P e.1 = none ∧ lk (P ++ e :: S) e.1 = some e.2 := by
  have hn : e.1 ∉ P.map (·.1) := by
    unfold Nd at h
    rw [List.map_append, List.nodup_append] at h
    intro x
    exact h.2.2 _ x _ (by simp) rfl
  have h1 := lk_none_of hn
  refine ⟨h1, ?_⟩
  unfold lk at *
  rw [List.find?_append]
  have : P.find? (fun q => decide (q.1 = e.1)) = none := by
    cases hh : P.find? (fun q => decide (q.1 = e.1)) with
    | none => rfl
    | some x => rw [hh] at h1; simp at h1
  rw [this]
  simp
def plainB : List IS := [.asg (.sub (.var 8) (.var 9)) (.ix (.ix (.var 3) (.var 9)) (.con (.int 0)))]
theorem loop_plain {cl : Cl} {mem : Mem} {L : Ls} (hL : Nd L) (hlen : L.length < lim) {x0 x1 x2 x4 x5 x6 x7 x10 x11 x12 : Option W} (S : Ls) : ∀ (P : Ls) (x9 : Option W), L = P ++ S → ∃ x9', loopF (fBody cl plainB) (.nm 9) (S.map fun e => .str [e.1.w]) [x0, x1, x2, some (.d (.dct (lsD L))), x4, x5, x6, x7, some (.r mem.length), x9, x10, x11, x12] (mem ++ [.dct (plD P)]) = some ((.next, [x0, x1, x2, some (.d (.dct (lsD L))), x4, x5, x6, x7, some (.r mem.length), x9', x10, x11, x12]), mem ++ [.dct (plD L)]) := by
  induction S with
  | nil => intro P x9 h; exact ⟨x9, by simp [h]⟩
  | cons e S ih =>
    intro P x9 h
    obtain ⟨h1, h2⟩ := lk_split (P := P) (S := S) (e := e) (by rw [← h]; exact hL)
    rw [← h] at h2
    obtain ⟨y, e1⟩ := ih (P ++ [e]) (some (.d (.str [e.1.w]))) (by rw [h]; simp)
    have h3 := lk_ls (B := L) (l := e.1)
    have h4 := lk_pl (B := P) (l := e.1)
    rw [h2] at h3
    rw [h1] at h4
    have h5 : (plD P).length < lim := by
      have : P.length ≤ L.length := by rw [h]; simp
      simp [plD]; omega
    refine ⟨y, ?_⟩
    rw [List.map_cons, loop_cons]
    have h6 : plD (P ++ [e]) = plD P ++ [(.s [e.1.w], e.2.1.D)] := by simp [plD]
    have h7 := putD_none (x := e.2.1.D) h4
    rw [h6] at e1
    simp [plainB] at e1
    simp [plainB, h3, prL, h5, h7]
    exact e1
theorem mUpper {w : Wd} {mem : Mem} : methW .isupper (.d (.str [w])) [] mem = some (.d (.bl (upperW w)), mem) := by unfold methW; rfl
theorem tyUpper {w : Wd} {mem : Mem} : mthTy .isupper (.d (.str [w])) mem = true := rfl
theorem okdep (F : Fm) : okD F.L = true ∧ dep F.L ≤ 2 * F.ht + 2 := by
  induction F <;> simp_all [Fm.L, okD, okDs, dep, deps, Fm.ht] <;> omega
theorem shp_kids {F : Fm} (h : F.ht ≤ 20) : shp (.lst (F.kids.map Fm.L)) = true := by
  obtain ⟨h1, h2⟩ := okdep F
  rw [L_eq] at h1 h2
  have h3 : okD (.lst (F.kids.map Fm.L)) = true := by
    simp only [okD, okDs, Bool.true_and, Bool.and_true] at h1
    exact h1
  have h4 : dep (.lst (F.kids.map Fm.L)) ≤ 60 := by
    simp only [dep, deps] at h2 ⊢
    omega
  simp only [shp, h3, h4, Bool.true_and, decide_true]
theorem eqD_nil {xs : List D} : eqDs xs [] = xs.isEmpty := by cases xs <;> rfl
theorem shp_nil : shp (.lst []) = true := rfl
theorem w_numL {F : Fm} (h : F.isNum = true) : (F.kids = [] ∨ upperW F.w = true) ∧ ∀ l : Lt, l.w ≠ F.w := by
  cases F <;> first | (simp [Fm.isNum] at h; done) | skip
  · exact ⟨.inl rfl, by intro l; cases l <;> simp [Lt.w, Fm.w]⟩
  · exact ⟨.inl rfl, by intro l; cases l <;> simp [Lt.w, Fm.w]⟩
  · exact ⟨.inl rfl, by intro l; cases l <;> simp [Lt.w, Fm.w]⟩
  · exact ⟨.inr rfl, by intro l; cases l <;> simp [Lt.w, Fm.w]⟩
  · rename_i o x y
    exact ⟨.inr (by cases o <;> rfl), by intro l; cases l <;> cases o <;> simp [Lt.w, Fm.w, Mk.w]⟩
theorem w_notnumL {F : Fm} (h : F.isNum = false) (hl : F.isLt = false) : F.kids ≠ [] ∧ upperW F.w = false ∧ ∀ l : Lt, l.w ≠ F.w := by
  cases F with
  | bin o x y => exact ⟨by simp [Fm.kids], by cases o <;> rfl, by intro l; cases l <;> cases o <;> simp [Lt.w, Fm.w, Bo.w]⟩
  | cmp o x y => exact ⟨by simp [Fm.kids], by cases o <;> rfl, by intro l; cases l <;> cases o <;> simp [Lt.w, Fm.w, Co.w]⟩
  | cast o x => exact ⟨by simp [Fm.kids], by cases o <;> rfl, by intro l; cases l <;> cases o <;> simp [Lt.w, Fm.w, Ca.w]⟩
  | sel c x y => exact ⟨by simp [Fm.kids], rfl, by intro l; cases l <;> simp [Lt.w, Fm.w]⟩
  | _ => first | (simp [Fm.isNum] at h; done) | (simp [Fm.isLt] at hl; done)
theorem rightL_lt {ops : List Op} {L : Ls} {n : Nat} {l : Lt} (h : rOk L (.lt l)) : Rr 73 Fm.L 8 ops L (n + 1) (.lt l) := by
  intro k o s mem hk ok hs
  obtain ⟨j, rfl⟩ : ∃ j, k = j + 2 := ⟨k - 2, by omega⟩
  obtain ⟨e, he⟩ := h
  have hlk := lk_ls (B := L) (l := l)
  rw [he] at hlk
  have h2 := prL_eq (e := e) (e' := (o, s))
  have h3 := shp_prL e
  have h4 := shp_prL (o, s)
  simp only [prL] at h2 h3 h4
  simp only [eq_tt, eqs_cc, eqs_nn, eq_ii, Bool.and_true] at h2
  refine call_pure ok rfl rfl rfl ?_
  simp [body, fn__law_is_right, Fm.L, hlk, prL, h3, h4, h2, mR, he]
theorem rightL_num {ops : List Op} {L : Ls} {n : Nat} {F : Fm} (hL : Nd L) (hlen : L.length < lim) (hn : F.isNum = true) (hh : F.ht ≤ n) (h20 : F.ht ≤ 20) (h : rOk L F) : Rr 73 Fm.L 8 ops L (n + 1) F := by
  intro k o s mem hk ok hs
  obtain ⟨j, rfl⟩ : ∃ j, k = j + 2 := ⟨k - 2, by omega⟩
  obtain ⟨hw, hno⟩ := w_numL hn
  have h3 := c_madeNumber (k := j + 1) (r := mem.length) hs F (okM_dct (kvs := plD L) ok) (by omega) (by simp) (rOk_num hn h hs)
  have hm : mR ops L (n + 1) F o s = oprN o (num L s F) := by cases F <;> first | (simp [Fm.isNum] at hn; done) | rfl
  have hs1 := shp_kids h20
  have hnone := lk_ls_no (B := L) hno
  rw [hm]
  refine call_new (new := [.dct (plD L)]) (w := .d (.bl (oprN o (num L s F)))) ok rfl rfl rfl ?_ rfl
  obtain ⟨y, e⟩ := loop_plain (cl := callF tab (j + 1)) (mem := mem) hL hlen (x0 := some (.d F.L)) (x1 := some (.d o.D)) (x2 := some (.d (.int s))) (x4 := some (.d (.dct (opsK 0 ops)))) (x5 := none) (x6 := some (.d (.str [F.w]))) (x7 := some (.d (.lst (F.kids.map Fm.L)))) (x10 := none) (x11 := none) (x12 := none) L [] none rfl
  have hmap : (lsD L).map (fun kv => kv.1.d) = L.map fun e => D.str [e.1.w] := by simp [lsD, kyd_s]
  have hi := it_d (i := 3) (kvs := lsD L)
  rw [hmap] at hi
  rw [L_eq F] at h3 e ⊢
  simp only [plainB] at e
  have hpl : plD [] = [] := rfl
  rw [hpl] at e
  rcases hw with hw | hw
  · rw [hw] at hs1
    have hw' : (F.kids.map Fm.L) = [] := by rw [hw]; rfl
    rw [hw'] at h3 e ⊢
    simp [body, fn__law_is_right, hnone, shp_nil, hi, e, h3, shp_opr, oprN_eq, shp_nI, hmap]
  · by_cases hk0 : F.kids = []
    · have hw' : (F.kids.map Fm.L) = [] := by rw [hk0]; rfl
      rw [hw'] at h3 e ⊢
      simp [body, fn__law_is_right, hnone, shp_nil, hi, e, h3, shp_opr, oprN_eq, shp_nI, hmap]
    · simp [body, fn__law_is_right, hnone, shp_nil, hs1, eqD_nil, hk0, mUpper, tyUpper, hw, hi, e, h3, shp_opr, oprN_eq, shp_nI, hmap]
def rightsB : List IS := [.iff (.not (.call 73 [.var 10, .var 11, .var 12, .var 3, .var 4])) [.ret (.con (.bl false))] []]
theorem loop_rights {ops : List Op} {L : Ls} {n k c : Nat} {mem : Mem} {x0 x1 x2 x5 x6 x7 x8 x9 : Option W} (hk : 2 * n + c ≤ k) (ok : okM mem) (Ks : List Fm) : ∀ (os : List Opr) (ss : List Nat) (x10 x11 x12 : Option W), (∀ F, F ∈ Ks → Rr 73 Fm.L c ops L n F) → (∀ s, s ∈ ss → wOk s) →
    ∃ x10' x11' x12', loopF (fBody (callF tab k) rightsB) (.tp [10, 11, 12]) (zip3 (Ks.map Fm.L) (os.map Opr.D) (ss.map intD)) [x0, x1, x2, some (.d (.dct (lsD L))), some (.d (.dct (opsK 0 ops))), x5, x6, x7, x8, x9, x10, x11, x12] mem = some ((if allM (mR ops L n) Ks os ss then .next else .ret (.d (.bl false)), [x0, x1, x2, some (.d (.dct (lsD L))), some (.d (.dct (opsK 0 ops))), x5, x6, x7, x8, x9, x10', x11', x12']), mem) := by
  induction Ks with
  | nil => intro os ss x10 x11 x12 _ _; exact ⟨x10, x11, x12, by simp [zip3_n1, allM]⟩
  | cons F Fs ih =>
    intro os ss x10 x11 x12 hF hs
    cases os with
    | nil => exact ⟨x10, x11, x12, by simp [zip3_n2, allM]⟩
    | cons o os =>
      cases ss with
      | nil => exact ⟨x10, x11, x12, by simp [zip3_n3, allM]⟩
      | cons s ss =>
        have e1 := hF F (by simp) k o s mem hk ok (hs s (by simp))
        cases hm : mR ops L n F o s with
        | false =>
          rw [hm] at e1
          refine ⟨some (.d F.L), some (.d o.D), some (.d (.int s)), ?_⟩
          rw [List.map_cons, List.map_cons, List.map_cons, zip3_c, loop_cons]
          simp [rightsB, intD, e1, allM, hm]
        | true =>
          rw [hm] at e1
          obtain ⟨y10, y11, y12, e⟩ := ih os ss (some (.d F.L)) (some (.d o.D)) (some (.d (.int s))) (fun G hG => hF G (by simp [hG])) (fun p hp => hs p (by simp [hp]))
          refine ⟨y10, y11, y12, ?_⟩
          rw [List.map_cons, List.map_cons, List.map_cons, zip3_c, loop_cons]
          simp [rightsB] at e
          simp [rightsB, intD, e1, allM, hm]
          simpa using e
theorem rightL_other {ops : List Op} {L : Ls} {n : Nat} {F : Fm} (g : gOps ops) (hl : F.isLt = false) (hn : F.isNum = false) (h20 : F.ht ≤ 20) (hsel : F.w ≠ .select) (ih : ∀ G, G ∈ F.kids → Rr 73 Fm.L 8 ops L n G) : Rr 73 Fm.L 8 ops L (n + 1) F := by
  intro k o s mem hk ok hs
  obtain ⟨j, rfl⟩ : ∃ j, k = j + 4 := ⟨k - 4, by omega⟩
  obtain ⟨w1, w2, w3⟩ := w_notnumL hn hl
  have hs1 := shp_kids h20
  have hnone := lk_ls_no (B := L) w3
  have hin : shp (.lst [.str [.bin], .str [.cmp], .str [.cast]]) = true := rfl
  rw [mR_other hl hn]
  refine call_pure ok rfl rfl rfl ?_
  rw [L_eq F]
  cases o with
  | n i => simp [body, fn__law_is_right, hnone, shp_nil, hs1, eqD_nil, w1, w2, mUpper, tyUpper, Opr.D, subR]
  | v q =>
    cases hq : ops[q]? with
    | none => simp [body, fn__law_is_right, hnone, shp_nil, hs1, eqD_nil, w1, w2, mUpper, tyUpper, Opr.D, subR, hq, lk_ops_none hq]
    | some op =>
      have hlk := lk_ops hq
      have hmd := c_made (k := j + 2) (i := q) (op := op) ok
      have hg := gOp_of g hq
      by_cases hw : op.wd = some F.w
      · have hi : op.isInp = false := by cases op <;> simp [Op.wd] at hw <;> rfl
        have hp : callF tab (j + 2 + 1) 63 [.d (opD q op)] mem = some (.d (.lst (op.asked.map intD)), mem) := c_asked (k := j + 2) (i := q) ok hi
        obtain ⟨y10, y11, y12, e⟩ := loop_rights (k := j + 3) (c := 8) (x0 := some (.d F.L)) (x1 := some (.d (Opr.v q).D)) (x2 := some (.d (.int s))) (x5 := some (.d (opD q op))) (x6 := some (.d (.str [F.w]))) (x7 := some (.d (.lst (F.kids.map Fm.L)))) (x8 := none) (x9 := none) (by omega) ok F.kids op.args op.asked none none none ih hg.2
        have hop : opD q op = .tup [.int q, .str [op.kind], .tup op.info, .tup (op.args.map Opr.D)] := rfl
        rw [L_eq F] at e
        simp only [hop, Opr.D] at e hp hmd hlk
        simp only [rightsB] at e
        have hsub : subR ops L n F (.v q) s = (decide (op.made = s) && allM (mR ops L n) F.kids op.args op.asked) := by simp [subR, hq, hw]
        rw [hsub]
        by_cases hm : op.made = s
        · cases op with
          | inp s' => simp [Op.wd] at hw
          | bin o' s' x y =>
            simp only [Op.wd, Option.some.injEq] at hw
            simp only [Op.kind, Op.info] at e hp hlk hmd
            rw [← hw] at e hnone w2 ⊢
            simp [body, fn__law_is_right, hnone, shp_nil, hs1, eqD_nil, w1, w2, mUpper, tyUpper, Opr.D, hlk, hin, hmd, hm, hp, e]
            split <;> simp_all
          | cmp o' s' x y =>
            simp only [Op.wd, Option.some.injEq] at hw
            simp only [Op.kind, Op.info] at e hp hlk hmd
            rw [← hw] at e hnone w2 ⊢
            simp [body, fn__law_is_right, hnone, shp_nil, hs1, eqD_nil, w1, w2, mUpper, tyUpper, Opr.D, hlk, hin, hmd, hm, hp, e]
            split <;> simp_all
          | sel s' c x y => simp [Op.wd] at hw; exact absurd hw.symm hsel
          | cast o' lo hi' x =>
            simp only [Op.wd, Option.some.injEq] at hw
            simp only [Op.kind, Op.info] at e hp hlk hmd
            rw [← hw] at e hnone w2 ⊢
            simp [body, fn__law_is_right, hnone, shp_nil, hs1, eqD_nil, w1, w2, mUpper, tyUpper, Opr.D, hlk, hin, hmd, hm, hp, e]
            split <;> simp_all
        · have hm' : ¬ (op.made : Int) = s := by omega
          cases op with
          | inp s' => simp [Op.wd] at hw
          | bin o' s' x y =>
            simp only [Op.wd, Option.some.injEq] at hw
            simp only [Op.kind, Op.info] at e hp hlk hmd
            rw [← hw] at e hnone w2 ⊢
            simp [body, fn__law_is_right, hnone, shp_nil, hs1, eqD_nil, w1, w2, mUpper, tyUpper, Opr.D, hlk, hin, hmd, hm', hm]
          | cmp o' s' x y =>
            simp only [Op.wd, Option.some.injEq] at hw
            simp only [Op.kind, Op.info] at e hp hlk hmd
            rw [← hw] at e hnone w2 ⊢
            simp [body, fn__law_is_right, hnone, shp_nil, hs1, eqD_nil, w1, w2, mUpper, tyUpper, Opr.D, hlk, hin, hmd, hm', hm]
          | sel s' c x y => simp [Op.wd] at hw; exact absurd hw.symm hsel
          | cast o' lo hi' x =>
            simp only [Op.wd, Option.some.injEq] at hw
            simp only [Op.kind, Op.info] at e hp hlk hmd
            rw [← hw] at e hnone w2 ⊢
            simp [body, fn__law_is_right, hnone, shp_nil, hs1, eqD_nil, w1, w2, mUpper, tyUpper, Opr.D, hlk, hin, hmd, hm', hm]
      · have hop : opD q op = .tup [.int q, .str [op.kind], .tup op.info, .tup (op.args.map Opr.D)] := rfl
        rw [hop] at hlk
        have hsub : subR ops L n F (.v q) s = false := by simp [subR, hq, hw]
        rw [hsub]
        cases op with
        | inp s' => simp [body, fn__law_is_right, hnone, shp_nil, hs1, eqD_nil, w1, w2, mUpper, tyUpper, Opr.D, hlk, hin, Op.kind]
        | sel s' c x y => simp [body, fn__law_is_right, hnone, shp_nil, hs1, eqD_nil, w1, w2, mUpper, tyUpper, Opr.D, hlk, hin, Op.kind]
        | bin o' s' x y =>
          have h' : ¬ o'.w = F.w := fun e => hw (by simp [Op.wd, e])
          simp [body, fn__law_is_right, hnone, shp_nil, hs1, eqD_nil, w1, w2, mUpper, tyUpper, Opr.D, hlk, hin, Op.kind, Op.info, h']
        | cmp o' s' x y =>
          have h' : ¬ o'.w = F.w := fun e => hw (by simp [Op.wd, e])
          simp [body, fn__law_is_right, hnone, shp_nil, hs1, eqD_nil, w1, w2, mUpper, tyUpper, Opr.D, hlk, hin, Op.kind, Op.info, h']
        | cast o' lo hi' x =>
          have h' : ¬ o'.w = F.w := fun e => hw (by simp [Op.wd, e])
          simp [body, fn__law_is_right, hnone, shp_nil, hs1, eqD_nil, w1, w2, mUpper, tyUpper, Opr.D, hlk, hin, Op.kind, Op.info, h']
theorem rOk_sel {L : Ls} {F : Fm} (r : rOk L F) : F.w ≠ .select := by
  cases F with
  | sel c x y => exact r.elim
  | lt l => cases l <;> simp [Fm.w, Lt.w]
  | bin o x y => cases o <;> simp [Fm.w, Bo.w]
  | cmp o x y => cases o <;> simp [Fm.w, Co.w]
  | cast o x => cases o <;> simp [Fm.w, Ca.w]
  | made o x y => cases o <;> simp [Fm.w, Mk.w]
  | _ => simp [Fm.w]
theorem c_rightL {ops : List Op} {L : Ls} (g : gOps ops) (hL : Nd L) (hlen : L.length < lim) : ∀ (n : Nat) (F : Fm), F.ht < n → n ≤ 20 → rOk L F → Rr 73 Fm.L 8 ops L n F := by
  intro n
  induction n with
  | zero => intro F h; omega
  | succ n ih =>
    intro F h h20 r
    cases hl : F.isLt with
    | true =>
      cases F with
      | lt l => exact rightL_lt r
      | _ => simp [Fm.isLt] at hl
    | false =>
      cases hn : F.isNum with
      | true => exact rightL_num hL hlen hn (by omega) (by omega) r
      | false => exact rightL_other g hl hn (by omega) (rOk_sel r) fun G hG => ih G (by have := kid_ht hG; omega) (by omega) (rOk_kid hn r hG)
end Mi
end
section
/-! Md8: what a matched left side binds; the letters that both find. -/
namespace Mi
open PySem
structure LsOk (B : Ls) : Prop where
  nd : Nd B
  good : ∀ e, e ∈ B → takesB e.1 e.2.1 = true ∧ gO e.2.1 ∧ wOk e.2.2
theorem lsOk_nil : LsOk [] := ⟨by simp [Nd], by simp⟩
theorem lk_mem {B : Ls} {l : Lt} {e : Opr × Nat} (h : lk B l = some e) : (l, e) ∈ B := by
  unfold lk at h
  cases hf : B.find? (fun q => decide (q.1 = l)) with
  | none => rw [hf] at h; simp at h
  | some q =>
    rw [hf] at h
    simp at h
    have h1 := List.find?_some hf
    have h2 := List.mem_of_find?_eq_some hf
    simp at h1
    obtain ⟨a, b⟩ := q
    simp at h h1
    subst h h1
    exact h2
theorem lk_none_mem {B : Ls} {l : Lt} (h : lk B l = none) : l ∉ B.map (·.1) := by
  intro x
  obtain ⟨e, he, rfl⟩ := List.mem_map.mp x
  unfold lk at h
  cases hf : B.find? (fun q => decide (q.1 = e.1)) with
  | none =>
    have := List.find?_eq_none.mp hf e he
    simp at this
  | some q => rw [hf] at h; simp at h
theorem lsOk_app {B : Ls} {l : Lt} {o : Opr} {s : Nat} (h : LsOk B) (hn : lk B l = none) (ht : takesB l o = true) (go : gO o) (hs : wOk s) : LsOk (B ++ [(l, o, s)]) := by
  refine ⟨?_, ?_⟩
  · unfold Nd
    rw [List.map_append, List.nodup_append]
    refine ⟨h.nd, by simp, ?_⟩
    intro a ha b hb e
    simp at hb
    subst hb e
    exact lk_none_mem hn ha
  · intro e he
    rcases List.mem_append.mp he with he | he
    · exact h.good e he
    · simp at he; subst he; exact ⟨ht, go, hs⟩
def Fm.lets : Fm → List Lt
  | .lt l => [l]
  | .bin _ x y => x.lets ++ y.lets
  | .cmp _ x y => x.lets ++ y.lets
  | .cast _ x => x.lets
  | .sel c x y => c.lets ++ (x.lets ++ y.lets)
  | .log x => x.lets
  | .made _ x y => x.lets ++ y.lets
  | _ => []
def letsL : List Fm → List Lt
  | [] => []
  | F :: r => F.lets ++ letsL r
theorem lets_kids {F : Fm} (h : F.isLt = false) : F.lets = letsL F.kids := by
  cases F <;> first | (simp [Fm.isLt] at h; done) | simp [Fm.lets, Fm.kids, letsL]
/-- what matching keeps and gives -/
def Grows (B B1 : Ls) (ls : List Lt) : Prop := LsOk B1 ∧ (∀ l e, lk B l = some e → lk B1 l = some e) ∧ ∀ l, l ∈ ls → ∃ e, lk B1 l = some e
theorem grows_fold {ops : List Op} {n : Nat} (Ks : List Fm) : ∀ (os : List Opr) (ss : List Nat) (B B1 : Ls), (∀ F, F ∈ Ks → ∀ o s B B1, gO o → wOk s → LsOk B → mA ops n F o s B = some B1 → Grows B B1 F.lets) → (∀ o, o ∈ os → gO o) → (∀ s, s ∈ ss → wOk s) → Ks.length ≤ os.length → Ks.length ≤ ss.length → LsOk B → foldM (mA ops n) Ks os ss B = some B1 → Grows B B1 (letsL Ks) := by
  induction Ks with
  | nil =>
    intro os ss B B1 _ _ _ _ _ hB h
    have : B = B1 := by cases os <;> simpa [foldM] using h
    subst this
    exact ⟨hB, fun l e h => h, by simp [letsL]⟩
  | cons F Fs ih =>
    intro os ss B B1 hF ho hs h1 h2 hB h
    cases os with
    | nil => simp at h1
    | cons o os =>
      cases ss with
      | nil => simp at h2
      | cons s ss =>
        cases hm : mA ops n F o s B with
        | none => simp [foldM, hm] at h
        | some B2 =>
          simp [foldM, hm] at h
          obtain ⟨a1, a2, a3⟩ := hF F (by simp) o s B B2 (ho o (by simp)) (hs s (by simp)) hB hm
          obtain ⟨b1, b2, b3⟩ := ih os ss B2 B1 (fun G hG => hF G (by simp [hG])) (fun p hp => ho p (by simp [hp])) (fun p hp => hs p (by simp [hp])) (by simpa using h1) (by simpa using h2) a1 h
          refine ⟨b1, fun l e h => b2 l e (a2 l e h), fun l hl => ?_⟩
          simp only [letsL, List.mem_append] at hl
          rcases hl with hl | hl
          · obtain ⟨e, he⟩ := a3 l hl; exact ⟨e, b2 l e he⟩
          · exact b3 l hl
theorem wd_len {op : Op} {F : Fm} (h : op.wd = some F.w) : F.kids.length ≤ op.args.length ∧ F.kids.length ≤ op.asked.length := by
  cases op with
  | inp s => simp [Op.wd] at h
  | bin o s x y =>
    simp only [Op.wd, Option.some.injEq] at h
    cases F with
    | sel c x y => cases o <;> simp [Fm.w, Bo.w] at h
    | _ => simp [Fm.kids, Op.args, Op.asked]
  | cmp o s x y =>
    simp only [Op.wd, Option.some.injEq] at h
    cases F with
    | sel c x y => cases o <;> simp [Fm.w, Co.w] at h
    | _ => simp [Fm.kids, Op.args, Op.asked]
  | sel s c x y => have := kids3 F; simp [Op.args, Op.asked]; omega
  | cast o lo hi x =>
    simp only [Op.wd, Option.some.injEq] at h
    cases F with
    | sel c x y => cases o <;> simp [Fm.w, Ca.w] at h
    | bin o' x y => cases o <;> cases o' <;> simp [Fm.w, Ca.w, Bo.w] at h
    | cmp o' x y => cases o <;> cases o' <;> simp [Fm.w, Ca.w, Co.w] at h
    | made o' x y => cases o <;> cases o' <;> simp [Fm.w, Ca.w, Mk.w] at h
    | _ => simp [Fm.kids, Op.args, Op.asked]
theorem grows_mO {ops : List Op} {n : Nat} {F : Fm} {op : Op} {B B1 : Ls} (hl : F.isLt = false) (hF : ∀ G, G ∈ F.kids → ∀ o s B B1, gO o → wOk s → LsOk B → mA ops n G o s B = some B1 → Grows B B1 G.lets) (hg : gOp op) (hB : LsOk B) (h : mO ops n F op B = some B1) : Grows B B1 F.lets := by
  unfold mO at h
  split at h
  · next hw =>
    obtain ⟨h1, h2⟩ := wd_len hw
    rw [lets_kids hl]
    exact grows_fold F.kids op.args op.asked B B1 hF hg.1 hg.2 h1 h2 hB h
  · cases h
theorem mA_grows {ops : List Op} (g : gOps ops) : ∀ (n : Nat) (F : Fm) (o : Opr) (s : Nat) (B B1 : Ls), gO o → wOk s → LsOk B → mA ops n F o s B = some B1 → Grows B B1 F.lets := by
  intro n
  induction n with
  | zero => intro F o s B B1 _ _ _ h; simp [mA] at h
  | succ n ih =>
    intro F o s B B1 go hs hB h
    rcases kind3 F with ⟨l, rfl⟩ | h1 | ⟨h1, h2⟩
    · simp only [mA] at h
      split at h
      · next ht =>
        cases hb : lk B l with
        | some e =>
          simp only [hb] at h
          split at h
          · next he =>
            simp at h
            subst h
            exact ⟨hB, fun _ _ h => h, by intro l' hl'; simp [Fm.lets] at hl'; subst hl'; exact ⟨e, hb⟩⟩
          · cases h
        | none =>
          simp only [hb, Option.some.injEq] at h
          subst h
          refine ⟨lsOk_app hB hb ht go hs, ?_, ?_⟩
          · intro l' e he
            rw [lk_app hb]
            split
            · next h => subst h; rw [hb] at he; cases he
            · exact he
          · intro l' hl'
            simp [Fm.lets] at hl'
            subst hl'
            exact ⟨_, by rw [lk_app hb, if_pos rfl]⟩
      · cases h
    · cases hn : numL s F with
      | none => exact absurd hn (h1 s)
      | some i =>
        rw [mA_num hn] at h
        split at h
        · simp at h
          subst h
          refine ⟨hB, fun _ _ h => h, ?_⟩
          cases F <;> simp [numL] at hn <;> simp [Fm.lets]
        · cases h
    · rw [mA_other h1 (h2 s)] at h
      cases o with
      | n i => simp [subO] at h
      | v q =>
        cases hq : ops[q]? with
        | none => simp [subO, hq] at h
        | some op =>
          simp only [subO, hq] at h
          exact grows_mO h1 (fun G _ => ih G) (gOp_of g hq) hB h
def numF (ls : List Lt) : Fm → Bool
  | .lt l => ls.contains l && (l == .m || (l == .n || l == .p))
  | .k0 | .k1 => true
  | _ => false
def okR (ls : List Lt) : Fm → Bool
  | .lt l => ls.contains l
  | .k0 | .k1 | .km1 => true
  | .log (.lt .p) => ls.contains .p
  | .log _ => false
  | .made _ x y => numF ls x && numF ls y
  | .bin _ x y => okR ls x && okR ls y
  | .cmp _ x y => okR ls x && okR ls y
  | .cast _ x => okR ls x
  | .sel .. => false
theorem rules_okR : ∀ r, r ∈ rules → okR r.1.lets r.2 = true ∧ r.1.isLt = false ∧ r.1.flat.length ≤ 5 := by decide
theorem numF_ok {ls : List Lt} {L : Ls} {F : Fm} {s : Nat} (h : numF ls F = true) (hl : ∀ l, l ∈ ls → ∃ e, lk L l = some e) (ok : LsOk L) : nOk L s F ∧ n64 (num L s F) := by
  cases F with
  | lt l =>
    simp only [numF, Bool.and_eq_true, List.contains_eq_mem, decide_eq_true_eq] at h
    obtain ⟨⟨o, s'⟩, he⟩ := hl l h.1
    obtain ⟨ht, hg, _⟩ := ok.good _ (lk_mem he)
    have : ∃ i, o = .n i := by
      cases o with
      | n i => exact ⟨i, rfl⟩
      | v j =>
        simp at ht
        obtain ⟨_, hh⟩ := h
        simp at hh
        rcases hh with rfl | rfl | rfl <;> simp [takesB] at ht
    obtain ⟨i, rfl⟩ := this
    refine ⟨⟨i, s', he⟩, ?_⟩
    simp only [num, he, n64]
    simp [gO] at hg
    omega
  | k0 => exact ⟨trivial, by simp [num, n64]⟩
  | k1 => exact ⟨trivial, by simp [num, n64]⟩
  | _ => simp [numF] at h
theorem rOk_of {ls : List Lt} {L : Ls} (hl : ∀ l, l ∈ ls → ∃ e, lk L l = some e) (ok : LsOk L) (F : Fm) (h : okR ls F = true) : rOk L F := by
  induction F with
  | lt l => simp [okR] at h; exact hl l h
  | k0 => intro s _; trivial
  | k1 => intro s _; trivial
  | km1 => intro s _; trivial
  | bin o x y ihx ihy => simp [okR] at h; exact ⟨ihx h.1, ihy h.2⟩
  | cmp o x y ihx ihy => simp [okR] at h; exact ⟨ihx h.1, ihy h.2⟩
  | cast o x ih => simp [okR] at h; exact ih h
  | sel c x y _ _ _ => simp [okR] at h
  | log x ih =>
    cases x with
    | lt l =>
      cases l with
      | p =>
        simp [okR] at h
        obtain ⟨⟨o, s'⟩, he⟩ := hl .p h
        obtain ⟨ht, hg, _⟩ := ok.good _ (lk_mem he)
        cases o with
        | v j => simp [takesB] at ht
        | n i =>
          simp only [takesB] at ht
          obtain ⟨q, hq, rfl⟩ := isPow_iff.mp ht
          intro s _
          exact ⟨⟨_, s', he⟩, q, by omega, by simp [num, he]⟩
      | _ => simp [okR] at h
    | _ => simp [okR] at h
  | made o x y _ _ =>
    simp [okR] at h
    intro s _
    exact ⟨(numF_ok h.1 hl ok).1, (numF_ok h.2 hl ok).1, (numF_ok h.1 hl ok).2⟩
/-! the letters of the k-th rule at a value -/
def lastL (F : Fm) (op : Op) (L : Ls) : Option Ls := match F with
  | .lt l => match lk L l with
    | some e => if e.2 = op.made then some L else none
    | none => none
  | _ => some L
theorem lastL_not {F : Fm} {op : Op} {L : Ls} (h : F.isLt = false) : lastL F op L = some L := by
  cases F <;> first | (simp [Fm.isLt] at h; done) | rfl
def boundL (ops : List Op) (r : Fm × Fm) (v : Nat) : Option Ls := match ops[v]? with
  | none => none
  | some op => if op.pure then match mO ops 2 r.1 op [] with
    | none => none
    | some L => lastL r.2 op L
    else none
theorem bound_ok {ops : List Op} {r : Fm × Fm} {v : Nat} {L : Ls} (g : gOps ops) (hr : r ∈ rules) (h : boundL ops r v = some L) : ∃ op, ops[v]? = some op ∧ op.pure = true ∧ mO ops 2 r.1 op [] = some L ∧ LsOk L ∧ rOk L r.2 := by
  unfold boundL at h
  cases hv : ops[v]? with
  | none => simp [hv] at h
  | some op =>
    simp only [hv] at h
    split at h
    · next hp =>
      cases hm : mO ops 2 r.1 op [] with
      | none => simp [hm] at h
      | some L' =>
        simp only [hm] at h
        have hL : L' = L := by
          unfold lastL at h
          split at h
          · split at h
            · split at h
              · simpa using h
              · cases h
            · cases h
          · simpa using h
        subst hL
        obtain ⟨h1, h2, h3⟩ := rules_okR r hr
        obtain ⟨a1, a2, a3⟩ := grows_mO h2 (fun G _ => mA_grows g 2 G) (gOp_of g hv) lsOk_nil hm
        exact ⟨op, rfl, hp, hm, a1, rOk_of a3 a1 r.2 h1⟩
    · cases h
theorem bound_none {ops : List Op} {r : Fm × Fm} {v : Nat} {op : Op} {L : Ls} (hv : ops[v]? = some op) (hp : op.pure = true) (hm : mO ops 2 r.1 op [] = some L) (g : gOps ops) (hr : r ∈ rules) : LsOk L ∧ rOk L r.2 := by
  obtain ⟨h1, h2, h3⟩ := rules_okR r hr
  obtain ⟨a1, a2, a3⟩ := grows_mO h2 (fun G _ => mA_grows g 2 G) (gOp_of g hv) lsOk_nil hm
  exact ⟨a1, rOk_of a3 a1 r.2 h1⟩
def optL : Option Ls → D
  | some L => .dct (lsD L)
  | none => .non
end Mi
end
section
/-! Md9: bound_letters and the law's own. -/
namespace Mi
open PySem
theorem c_bound {ops : List Op} {r : Fm × Fm} {k q v : Nat} {mem : Mem} (g : gOps ops) (hl : ops.length < lim) (hq : rules[q]? = some r) (ok : okM mem) (hk : 13 ≤ k) : callF tab (k + 1) 37 [.d (funD (opsD 0 ops)), .d (.int q), .d (.int v)] mem = some (.d (optL (boundL ops r v)), mem) := by
  obtain ⟨j, rfl⟩ : ∃ j, k = j + 6 := ⟨k - 6, by omega⟩
  have hr := List.mem_of_getElem? hq
  obtain ⟨f1, f2, f3⟩ := rules_okR r hr
  obtain ⟨g1, g2⟩ := rules_ht r hr
  have h28 := c_opsByValue (k := j + 5) ok hl
  have h27 := c_rightForm (k := j + 4) (okM_dct (kvs := []) ok) hq (by omega)
  have h26 := c_leftForm (k := j + 4) (okM_dct (kvs := []) ok) hq (by omega)
  have h32 := fun {mem : Mem} (ok : okM mem) => c_isLetter (k := j + 5) (F := r.2) ok
  rw [P_eq r.2] at h27
  unfold boundL
  cases hv : ops[v]? with
  | none =>
    refine call_new (new := [.dct []]) (w := .d .non) ok rfl rfl rfl ?_ rfl
    simp [body, fn_bound_letters, h28, h27, lk_ops_none hv]
  | some op =>
    have hlk := lk_ops hv
    have h18 := c_isPure (k := j + 5) (i := v) (op := op) (okM_dct (kvs := []) ok)
    cases hp : op.pure with
    | false =>
      rw [hp] at h18
      simp only [hp]
      refine call_new (new := [.dct []]) (w := .d .non) ok rfl rfl rfl ?_ rfl
      simp [body, fn_bound_letters, h28, h27, hlk, h18]
    | true =>
      rw [hp] at h18
      simp only [hp, if_true]
      obtain ⟨B', e, hB, hn⟩ := c_left g r.1 (n := 2) g1 (j + 6) v op [] (mem ++ [.dct []]) mem.length (by omega) (okM_dct ok) (by simp [lsD]) (gOp_of g hv) (by simp; omega)
      simp only [set0] at e
      cases hm : mO ops 2 r.1 op [] with
      | none =>
        rw [hm] at e
        simp only [hm]
        refine call_new (new := [.dct (lsD B')]) (w := .d .non) ok rfl rfl rfl ?_ rfl
        simp [body, fn_bound_letters, h28, h27, hlk, h18, h26, e]
      | some L =>
        have := hB L hm
        subst this
        rw [hm] at e
        obtain ⟨hL, hR⟩ := bound_none hv hp hm g hr
        have hi : op.isInp = false := by cases op <;> simp [Op.pure] at hp <;> rfl
        have h19 := c_pureTypes (k := j + 5) (i := v) (okM_dct (kvs := lsD B') ok) hi
        have h32' := h32 (okM_dct (kvs := lsD B') ok)
        simp only [hm]
        cases hlt : r.2.isLt with
        | false =>
          rw [hlt] at h32'
          have hs := lastL_not (op := op) (L := B') hlt
          rw [hs]
          refine call_new (new := [.dct (lsD B')]) (w := .r mem.length) ok rfl rfl rfl ?_ (by simp [frz, optL])
          simp [body, fn_bound_letters, h28, h27, hlk, h18, h26, e, h32']
        | true =>
          obtain ⟨l, hl2⟩ : ∃ l, r.2 = .lt l := by
            cases h : r.2 with
            | lt l => exact ⟨l, rfl⟩
            | _ => rw [h] at hlt; simp [Fm.isLt] at hlt
          rw [hlt] at h32'
          rw [hl2] at hR h32' h27
          simp only [hl2]
          obtain ⟨x, hx⟩ := hR
          have hlk2 := lk_ls (B := B') (l := l)
          rw [hx] at hlk2
          simp only [lastL, hx, Fm.w] at h32' h27 ⊢
          by_cases hmd : x.2 = op.made
          · have hmd' : (x.2 : Int) = op.made := by omega
            simp only [hmd, if_true]
            refine call_new (new := [.dct (lsD B')]) (w := .r mem.length) ok rfl rfl rfl ?_ (by simp [frz, optL])
            simp [body, fn_bound_letters, h28, h27, hlk, h18, h26, e, h32', hlk2, prL, h19, hmd']
          · have hmd' : ¬ (x.2 : Int) = op.made := by omega
            simp only [hmd, if_true, if_false]
            refine call_new (new := [.dct (lsD B')]) (w := .d .non) ok rfl rfl rfl ?_ rfl
            simp [body, fn_bound_letters, h28, h27, hlk, h18, h26, e, h32', hlk2, prL, h19, hmd']
theorem lk_flat {L : Ls} {F : Fm} (h : F.isLt = false) : lkD (lsD L) (.s F.flat) = none := by
  have hno : ∀ l : Lt, l.w ≠ F.w := by
    cases hn : F.isNum with
    | true => exact (w_numL hn).2
    | false => exact (w_notnumL hn h).2.2
  rw [flatF_eq]
  induction L with
  | nil => rfl
  | cons e r ih =>
    unfold lsD at *
    rw [List.map_cons, lk_cons, ih]
    simp [hno e.1]
theorem w_kinds (F : Fm) : ¬ Wd.bin = F.w ∧ ¬ Wd.cmp = F.w ∧ ¬ Wd.cast = F.w := by
  cases F with
  | lt l => cases l <;> simp [Fm.w, Lt.w]
  | bin o x y => cases o <;> simp [Fm.w, Bo.w]
  | cmp o x y => cases o <;> simp [Fm.w, Co.w]
  | cast o x => cases o <;> simp [Fm.w, Ca.w]
  | made o x y => cases o <;> simp [Fm.w, Mk.w]
  | _ => simp [Fm.w]
def ruleD (r : Fm × Fm) : D := .tup [.str r.1.flat, .str r.2.flat]
def preC : IR := .cmp .nin (.ix (.var 4) (.con (.int 0))) (.lstF [.ix (.ix (.var 2) (.var 1)) (.con (.int 1)), .ix (.ix (.ix (.var 2) (.var 1)) (.con (.int 2))) (.con (.int 0))])
theorem pre_ev {cl : Cl} {env : Env} {mem : Mem} {F : Fm} {ops : List Op} {v : Nat} {op : Op} (h4 : env[4]? = some (some (.d (.lst (F.flat.map str1))))) (h2 : env[2]? = some (some (.d (.dct (opsK 0 ops))))) (h1 : env[1]? = some (some (.d (.int v)))) (hv : ops[v]? = some op) (hi : op.isInp = false) : evE cl preC env mem = some (.d (.bl (!decide (op.wd = some F.w))), mem) := by
  obtain ⟨w1, w2, w3⟩ := w_kinds F
  have hlk := lk_ops hv
  have hf : L2.atI (F.flat.map str1) 0 = some (.str [F.w]) := by rw [flatF_eq]; simp [str1]
  unfold preC
  cases op with
  | inp s => simp [Op.isInp] at hi
  | bin o s x y => simp [h4, h2, h1, hlk, opD, Op.kind, Op.info, hf, Op.wd, w1, shp, okD, okDs, dep, deps]
  | cmp o s x y => simp [h4, h2, h1, hlk, opD, Op.kind, Op.info, hf, Op.wd, w2, shp, okD, okDs, dep, deps]
  | sel s c x y => simp [h4, h2, h1, hlk, opD, Op.kind, Op.info, hf, Op.wd, shp, okD, okDs, dep, deps]
  | cast o lo hi' x => simp [h4, h2, h1, hlk, opD, Op.kind, Op.info, hf, Op.wd, w3, shp, okD, okDs, dep, deps]
theorem c_lawLeft {ops : List Op} {r : Fm × Fm} {k v : Nat} {mem : Mem} (g : gOps ops) (hr : r ∈ rules) (ok : okM mem) (hk : 13 ≤ k) : callF tab (k + 1) 74 [.d (ruleD r), .d (.int v), .d (.dct (opsK 0 ops))] mem = some (.d (optL (boundL ops r v)), mem) := by
  obtain ⟨j, rfl⟩ : ∃ j, k = j + 6 := ⟨k - 6, by omega⟩
  obtain ⟨f1, f2, f3⟩ := rules_okR r hr
  obtain ⟨g1, g2⟩ := rules_ht r hr
  have hsp := (sides_mem r hr).1
  have h68 := c_readL (k := j + 5) (F := r.1) (okM_dct (kvs := []) ok) (by omega)
  unfold boundL
  cases hv : ops[v]? with
  | none =>
    refine call_new (new := [.dct []]) (w := .d .non) ok rfl rfl rfl ?_ rfl
    simp [body, fn__law_left, ruleD, mSplit hsp, tySplit, lk_ops_none hv]
  | some op =>
    have hlk := lk_ops hv
    have h64 := c_pureL (k := j + 5) (i := v) (op := op) (okM_dct (kvs := []) ok)
    cases hp : op.pure with
    | false =>
      rw [hp] at h64
      simp only [hp]
      refine call_new (new := [.dct []]) (w := .d .non) ok rfl rfl rfl ?_ rfl
      simp [body, fn__law_left, ruleD, mSplit hsp, tySplit, hlk, h64]
    | true =>
      rw [hp] at h64
      simp only [hp, if_true]
      have hi : op.isInp = false := by cases op <;> simp [Op.pure] at hp <;> rfl
      have hpre := pre_ev (cl := callF tab (j + 6)) (env := [some (.d (ruleD r)), some (.d (.int v)), some (.d (.dct (opsK 0 ops))), some (.r mem.length), some (.d (.lst (r.1.flat.map str1)))]) (mem := mem ++ [.dct []]) (F := r.1) rfl rfl rfl hv hi
      unfold preC ruleD at hpre
      simp only [ev_cmp] at hpre
      by_cases hw : op.wd = some r.1.w
      · rw [decide_eq_true hw] at hpre
        obtain ⟨B', e, hB, hn⟩ := c_leftL g r.1 (n := 2) g1 (j + 6) v op [] (mem ++ [.dct []]) mem.length (by omega) (okM_dct ok) (by simp [lsD]) (gOp_of g hv) (by simp; omega)
        simp only [set0] at e
        cases hm : mO ops 2 r.1 op [] with
        | none =>
          rw [hm] at e
          simp only [hm]
          refine call_new (new := [.dct (lsD B')]) (w := .d .non) ok rfl rfl rfl ?_ rfl
          simp only [body, fn__law_left, ruleD]
          simp [mSplit hsp, tySplit, hlk, h64] at hpre ⊢
          simp [hpre, h68, hlk, e]
        | some L =>
          have := hB L hm
          subst this
          rw [hm] at e
          obtain ⟨hL, hR⟩ := bound_none hv hp hm g hr
          have h62 := c_made (k := j + 5) (i := v) (op := op) (okM_dct (kvs := lsD B') ok)
          simp only [hm]
          cases hlt : r.2.isLt with
          | false =>
            have hno := lk_flat (L := B') hlt
            have hs := lastL_not (op := op) (L := B') hlt
            rw [hs]
            refine call_new (new := [.dct (lsD B')]) (w := .r mem.length) ok rfl rfl rfl ?_ (by simp [frz, optL])
            simp only [body, fn__law_left, ruleD]
            simp [mSplit hsp, tySplit, hlk, h64] at hpre ⊢
            simp [hpre, h68, hlk, e, hno]
          | true =>
            obtain ⟨l, hl2⟩ : ∃ l, r.2 = .lt l := by
              cases h : r.2 with
              | lt l => exact ⟨l, rfl⟩
              | _ => rw [h] at hlt; simp [Fm.isLt] at hlt
            have hfl : r.2.flat = [l.w] := by rw [hl2]; rfl
            rw [hl2] at hR
            simp only [hl2]
            obtain ⟨x, hx⟩ := hR
            have hlk2 := lk_ls (B := B') (l := l)
            rw [hx] at hlk2
            simp only [lastL, hx]
            by_cases hmd : x.2 = op.made
            · have hmd' : (x.2 : Int) = op.made := by omega
              simp only [hmd, if_true]
              refine call_new (new := [.dct (lsD B')]) (w := .r mem.length) ok rfl rfl rfl ?_ (by simp [frz, optL])
              simp only [body, fn__law_left, ruleD]
              simp [mSplit hsp, tySplit, hlk, h64] at hpre ⊢
              simp [hpre, h68, hlk, e, hfl, hlk2, prL, h62, hmd', hl2, Fm.flat] at hpre ⊢
              simp [hpre, h68, hlk, e, hfl, hlk2, prL, h62, hmd']
            · have hmd' : ¬ (x.2 : Int) = op.made := by omega
              simp only [hmd, if_true, if_false]
              refine call_new (new := [.dct (lsD B')]) (w := .d .non) ok rfl rfl rfl ?_ rfl
              simp only [body, fn__law_left, ruleD]
              simp [mSplit hsp, tySplit, hlk, h64] at hpre ⊢
              simp [hpre, h68, hlk, e, hfl, hlk2, prL, h62, hmd', hl2, Fm.flat] at hpre ⊢
              simp [hpre, h68, hlk, e, hfl, hlk2, prL, h62, hmd']
      · rw [decide_eq_false hw] at hpre
        have hm : mO ops 2 r.1 op [] = none := by simp [mO, hw]
        simp only [hm]
        refine call_new (new := [.dct []]) (w := .d .non) ok rfl rfl rfl ?_ rfl
        simp only [body, fn__law_left, ruleD]
        simp [mSplit hsp, tySplit, hlk, h64] at hpre ⊢
        simp [hpre]
end Mi
end
section
/-! Md10: rule_letters, rule_fits; the law's comparing of both with its own. -/
namespace Mi
open PySem
def ltD (e : Lt × Opr × Nat) : D := .tup [.str [e.1.w], e.2.1.D]
def lettersD (L : Ls) : List D := L.map ltD
def lettersOf : Option Ls → D
  | none => .non
  | some L => .tup ((sortD (lettersD L)).getD [])
def lettersE (v b : Nat) : IR := .lc [v] (.nm v) .e [.var b] [] (.tup [.var v, .ix (.ix (.var b) (.var v)) (.con (.int 0))])
theorem lk_of_mem {L : Ls} (hL : Nd L) {e : Lt × Opr × Nat} (he : e ∈ L) : lk L e.1 = some e.2 := by
  obtain ⟨P, S, rfl⟩ := List.append_of_mem he
  exact (lk_split hL).2
theorem turns_letters {cl : Cl} {env : Env} {mem : Mem} {L : Ls} {v b : Nat} (hL : Nd L) (hb : env[b]? = some (some (.d (.dct (lsD L))))) (hv : v < env.length) (hne : b ≠ v) (S : Ls) : ∀ (acc : List D), (∀ e, e ∈ S → e ∈ L) → turns (lcT1 [v] (.nm v) [] (.tup [.var v, .ix (.ix (.var b) (.var v)) (.con (.int 0))]) cl env) snoc (S.map fun e => .str [e.1.w]) acc mem = some (acc ++ S.map ltD, mem) := by
  induction S with
  | nil => intro acc _; simp
  | cons e S ih =>
    intro acc h
    have hlk := lk_ls (B := L) (l := e.1)
    rw [lk_of_mem hL (h e (by simp))] at hlk
    rw [List.map_cons, turns_cons]
    have hne' : ¬ v = b := fun x => hne x.symm
    have : lcT1 [v] (.nm v) [] (.tup [.var v, .ix (.ix (.var b) (.var v)) (.con (.int 0))]) cl env (.str [e.1.w]) mem = some (some (ltD e), mem) := by
      simp [lcT1, wipeE, hv, List.getElem?_set, hne', hb, hlk, prL, ltD]
    rw [this, kTn_s, snoc, ih _ fun q hq => h q (by simp [hq])]
    simp
theorem letters_ev {cl : Cl} {env : Env} {mem : Mem} {L : Ls} {v b : Nat} (hL : Nd L) (hlen : L.length < lim) (hb : env[b]? = some (some (.d (.dct (lsD L))))) (hv : v < env.length) (hne : b ≠ v) : evE cl (lettersE v b) env mem = some (.d (.lst (lettersD L)), mem) := by
  have hmap : (lsD L).map (fun kv => kv.1.d) = L.map fun e => D.str [e.1.w] := by simp [lsD, kyd_s]
  have ht := turns_letters (cl := cl) (mem := mem) hL hb hv hne L [] fun e h => h
  unfold lettersE
  simp [hb, hmap, ht, hlen, lettersD]
mutual
theorem eqS_refl : (x : D) → okD x = true → eqS x x = true
  | .non, _ => rfl
  | .bl b, _ => by simp [eqS]
  | .int i, _ => by simp [eqS]
  | .str x, _ => by simp [eqS]
  | .lst xs, h => by rw [eqS]; exact eqSs_refl xs (by simpa [okD] using h)
  | .tup xs, h => by rw [eqS]; exact eqSs_refl xs (by simpa [okD] using h)
  | .dct _, h => by simp [okD] at h
  | .prs _, h => by simp [okD] at h
theorem eqSs_refl : (xs : List D) → okDs xs = true → eqSs xs xs = true
  | [], _ => rfl
  | x :: r, h => by
    simp only [okDs, Bool.and_eq_true] at h
    rw [eqSs, eqS_refl x h.1, eqSs_refl r h.2]
    rfl
end
def okLt (x : D) : Prop := ∃ (w : Wd) (o : Opr), gO o ∧ x = .tup [.str [w], o.D]
theorem rp_lts {ys : List D} (h : ∀ y, y ∈ ys → okLt y) (hl : ys.length ≤ 10) : rpD (.tup ys) = true ∧ eqS (.tup ys) (.tup ys) = true := by
  have key : okDs ys = true ∧ deps ys ≤ 2 ∧ smDs ys = true ∧ szDs ys ≤ ys.length * 100 := by
    clear hl
    induction ys with
    | nil => exact ⟨rfl, by simp [deps], rfl, by simp [szDs]⟩
    | cons y r ih =>
      obtain ⟨w, o, go, rfl⟩ := h y (by simp)
      obtain ⟨a, b, c, d⟩ := ih fun z hz => h z (by simp [hz])
      cases o with
      | n i =>
        simp only [gO] at go
        refine ⟨by simp [okDs, okD, Opr.D, a], by simp [deps, dep, Opr.D]; omega, by simp [smDs, smD, Opr.D, c]; omega, by simp [szDs, szD, Opr.D]; omega⟩
      | v j =>
        simp only [gO] at go
        refine ⟨by simp [okDs, okD, Opr.D, a], by simp [deps, dep, Opr.D]; omega, by simp [smDs, smD, Opr.D, c]; omega, by simp [szDs, szD, Opr.D]; omega⟩
  obtain ⟨a, b, c, d⟩ := key
  have h1 : shp (.tup ys) = true := by simp [shp, okD, dep, a]; omega
  have h2 : szD (.tup ys) ≤ 200000 := by simp [szD]; omega
  refine ⟨by simp [rpD, h1, smD, c, h2], eqS_refl _ (by simp [okD, a])⟩
theorem alike_lts {x y : D} (hx : okLt x) (hy : okLt y) : PySem.W.alike x.toP y.toP = true := by
  obtain ⟨w, o, _, rfl⟩ := hx
  obtain ⟨w', o', _, rfl⟩ := hy
  cases o <;> cases o' <;> simp [D.toP, D.toPs, Opr.D, PySem.W.alike, PySem.W.alikeAll]
theorem okLt_of {L : Ls} (ok : LsOk L) {x : D} (h : x ∈ lettersD L) : okLt x := by
  obtain ⟨e, he, rfl⟩ := List.mem_map.mp h
  exact ⟨_, _, (ok.good e he).2.1, rfl⟩
theorem sort_letters {L : Ls} (ok : LsOk L) (hl : L.length ≤ 10) : ∃ ys, sortD (lettersD L) = some ys ∧ rpD (.tup ys) = true ∧ eqS (.tup ys) (.tup ys) = true := by
  have hlen : (lettersD L).length = L.length := by simp [lettersD]
  refine ⟨(lettersD L).mergeSort (PySem.W.dataLe false D.toP), ?_, rp_lts (fun y hy => okLt_of ok ((List.mergeSort_perm _ _).mem_iff.mp hy)) (by rw [List.length_mergeSort, hlen]; exact hl)⟩
  unfold sortD
  rw [if_pos]
  simp only [Bool.and_eq_true, Bool.or_eq_true, List.all_eq_true, decide_eq_true_eq]
  refine ⟨fun x hx y hy => alike_lts (okLt_of ok hx) (okLt_of ok hy), fun x hx => ?_, .inl fun x hx => ?_, by rw [hlen]; unfold lim; omega⟩
  · obtain ⟨w, o, _, rfl⟩ := okLt_of ok hx
    cases o <;> rfl
  · obtain ⟨w, o, _, rfl⟩ := okLt_of ok hx
    rfl
theorem bound_len {ops : List Op} {r : Fm × Fm} {v : Nat} {L : Ls} (g : gOps ops) (hr : r ∈ rules) (h : boundL ops r v = some L) : L.length ≤ 5 := by
  obtain ⟨op, hv, hp, hm, _, _⟩ := bound_ok g hr h
  obtain ⟨f1, f2, f3⟩ := rules_okR r hr
  obtain ⟨g1, g2⟩ := rules_ht r hr
  obtain ⟨B', e, hB, hn⟩ := c_left g r.1 (n := 2) g1 13 v op [] [.dct []] 0 (by omega) rfl rfl (gOp_of g hv) (by simp; omega)
  rw [hB L hm] at hn
  simp at hn
  omega
theorem c_ruleLetters {ops : List Op} {r : Fm × Fm} {k q v : Nat} {M : W} {mem : Mem} (g : gOps ops) (hl : ops.length < lim) (hq : rules[q]? = some r) (ok : okM mem) (hk : 14 ≤ k) : callF tab (k + 1) 38 [M, .d (funD (opsD 0 ops)), .d (.int q), .d (.int v)] mem = some (.d (lettersOf (boundL ops r v)), mem) := by
  obtain ⟨j, rfl⟩ : ∃ j, k = j + 1 := ⟨k - 1, by omega⟩
  have hr := List.mem_of_getElem? hq
  have hb := c_bound (k := j) (v := v) g hl hq ok (by omega)
  refine call_pure ok rfl rfl rfl ?_
  cases h : boundL ops r v with
  | none =>
    rw [h] at hb
    simp [body, fn_rule_letters, hb, optL, lettersOf]
  | some L =>
    rw [h] at hb
    obtain ⟨op, hv, hp, hm, hL, hR⟩ := bound_ok g hr h
    have hlen := bound_len g hr h
    obtain ⟨ys, hy, _⟩ := sort_letters hL (by omega)
    have he := letters_ev (cl := callF tab (j + 1)) (env := [some M, some (.d (funD (opsD 0 ops))), some (.d (.int q)), some (.d (.int v)), some (.d (.dct (lsD L))), none]) (mem := mem) (L := L) (v := 5) (b := 4) hL.nd (by unfold lim; omega) rfl (by simp) (by omega)
    unfold lettersE at he
    simp only [body, fn_rule_letters]
    simp only [ess_cons, es_asg, ev_call, evs_cons, evs_nil, ev_var, List.map_cons, List.map_nil, List.replicate, List.nil_append, List.cons_append, Nat.sub_self, List.getElem?_cons_zero, List.getElem?_cons_succ, kVar_s, kEs_s, kEs2_s, kCall_s, hb, kAsg_s, st_nm, kNext_s, kSs_n, optL, List.set_cons_succ, List.set_cons_zero, es_ret, ev_ite, ev_cmp, ev_con, kCmp_s, kCmp2_s, c_is, kB_s, isNon_d, kIte_s, Bool.false_eq_true, if_false, ev_blt, he, kBlt_s, blt_sorted, hy, Option.map_some, blt_tuple, kRet_s, kSs_r, ret_some, lettersOf, Option.getD_some]
def madeAt (ops : List Op) (v : Nat) : Nat := match ops[v]? with
  | some op => op.made
  | none => 0
def fitsB (ops : List Op) (r : Fm × Fm) (v : Nat) (o : Opr) : Bool := match boundL ops r v with
  | none => false
  | some L => mR ops L 3 r.2 o (madeAt ops v)
theorem lk_typ {ops : List Op} {v : Nat} {op : Op} (h : ops[v]? = some op) : lkD (typK 0 ops) (.i (v : Int)) = some (.int op.made) := by
  have := lk_typK (i := 0) h
  simpa using this
theorem c_ruleFits {ops : List Op} {r : Fm × Fm} {k q v : Nat} {o : Opr} {mem : Mem} (g : gOps ops) (hw : ∀ op, op ∈ ops → wOk op.made) (hl : ops.length < lim) (hq : rules[q]? = some r) (ok : okM mem) (hk : 14 ≤ k) : callF tab (k + 1) 39 [.d (modD (opsD 0 ops)), .d (funD (opsD 0 ops)), .d (.int q), .d (.int v), .d o.D] mem = some (.d (.bl (fitsB ops r v o)), mem) := by
  obtain ⟨j, rfl⟩ : ∃ j, k = j + 6 := ⟨k - 6, by omega⟩
  have hr := List.mem_of_getElem? hq
  have hb := c_bound (k := j + 5) (v := v) g hl hq ok (by omega)
  unfold fitsB
  cases h : boundL ops r v with
  | none =>
    rw [h] at hb
    refine call_pure ok rfl rfl rfl ?_
    simp [body, fn_rule_fits, hb, optL]
  | some L =>
    rw [h] at hb
    obtain ⟨op, hv, hp, hm, hL, hR⟩ := bound_ok g hr h
    have h15 := c_valueTypes (k := j + 3) ok hl
    have hlt : (typK 0 ops).length < lim := by rw [typK_length]; exact hl
    have hf := fold_typK ops 0 [] below_nil
    simp only [List.nil_append] at hf
    have hlk := lk_typ hv
    have h27 := c_rightForm (k := j + 4) (okM_dct (kvs := typK 0 ops) ok) hq (by omega)
    have h28 := c_opsByValue (k := j + 5) (okM_dct (kvs := typK 0 ops) ok) hl
    have h36 := c_right g 3 r.2 (by have := (rules_ht r hr).2; omega) hR (j + 6) o op.made (mem ++ [.dct (typK 0 ops)]) (by omega) (okM_dct ok) (hw op (List.mem_of_getElem? hv))
    have hmd : madeAt ops v = op.made := by simp [madeAt, hv]
    rw [hmd]
    refine call_new (new := [.dct (typK 0 ops)]) (w := .d (.bl (mR ops L 3 r.2 o op.made))) ok rfl rfl rfl ?_ rfl
    simp [body, fn_rule_fits, hb, optL, h15, blt_dict, hlt, hf, hlk, h27, h28, h36]
theorem c_fitsRight {ops : List Op} {r : Fm × Fm} {k q v : Nat} {o : Opr} {mem : Mem} (g : gOps ops) (hw : ∀ op, op ∈ ops → wOk op.made) (hq : rules[q]? = some r) (ok : okM mem) (hk : 14 ≤ k) : callF tab (k + 1) 79 [.d tabD, .d (.int q), .d (.int v), .d o.D, .d (.dct (typK 0 ops)), .d (.dct (opsK 0 ops))] mem = some (.d (.bl (fitsB ops r v o)), mem) := by
  obtain ⟨j, rfl⟩ : ∃ j, k = j + 6 := ⟨k - 6, by omega⟩
  have hr := List.mem_of_getElem? hq
  have hb := c_lawLeft (k := j + 5) (v := v) g hr ok (by omega)
  have hat := atI_rule hq
  unfold ruleD at hb
  unfold fitsB
  cases h : boundL ops r v with
  | none =>
    rw [h] at hb
    refine call_pure ok rfl rfl rfl ?_
    simp [body, fn__law_fits_right, tabD, hat, hb, optL]
  | some L =>
    rw [h] at hb
    obtain ⟨op, hv, hp, hm, hL, hR⟩ := bound_ok g hr h
    have hlk := lk_typ hv
    have hlen := bound_len g hr h
    have h68 := c_readL (k := j + 5) (F := r.2) ok (by have := (rules_ht r hr).2; omega)
    have h73 := c_rightL g hL.nd (by unfold lim; omega) 3 r.2 (by have := (rules_ht r hr).2; omega) (by omega) hR (j + 6) o op.made mem (by omega) ok (hw op (List.mem_of_getElem? hv))
    have hmd : madeAt ops v = op.made := by simp [madeAt, hv]
    rw [hmd]
    refine call_pure ok rfl rfl rfl ?_
    simp [body, fn__law_fits_right, tabD, hat, hb, optL, hlk, mSplit (sides_mem r hr).2, tySplit, h68, h73]
theorem c_lawRight {ops : List Op} {r : Fm × Fm} {k q v : Nat} {o : Opr} {mem : Mem} (g : gOps ops) (hw : ∀ op, op ∈ ops → wOk op.made) (hl : ops.length < lim) (hq : rules[q]? = some r) (ok : okM mem) (hk : 15 ≤ k) : callF tab (k + 1) 80 [.d tabD, .d (modD (opsD 0 ops)), .d (funD (opsD 0 ops)), .d (.int q), .d (.int v), .d o.D] mem = some (.d (.bl true), mem) := by
  obtain ⟨j, rfl⟩ : ∃ j, k = j + 6 := ⟨k - 6, by omega⟩
  have hr := List.mem_of_getElem? hq
  have h75 := c_ops (k := j + 5) ok hl
  have h66 := c_allTypes (k := j + 3) ok hl
  have hb := c_lawLeft (k := j + 5) (v := v) g hr ok (by omega)
  have hat := atI_rule hq
  have h38 := c_ruleLetters (k := j + 5) (v := v) (M := .d (modD (opsD 0 ops))) g hl hq ok (by omega)
  have h39 := c_ruleFits (k := j + 5) (v := v) (o := o) g hw hl hq ok (by omega)
  have h79 := c_fitsRight (k := j + 5) (v := v) (o := o) g hw hq ok (by omega)
  have hrb : ∀ b, rpD (.bl b) = true ∧ eqS (.bl b) (.bl b) = true := by intro b; cases b <;> exact ⟨rfl, rfl⟩
  have hr1 := (hrb (fitsB ops r v o)).1
  have hr2 := (hrb (fitsB ops r v o)).2
  unfold ruleD at hb
  unfold tabD at h79 ⊢
  generalize fitsB ops r v o = b at *
  refine call_pure ok rfl rfl rfl ?_
  cases h : boundL ops r v with
  | none =>
    rw [h] at hb h38
    have hn1 : rpD .non = true := rfl
    have hn2 : eqS .non .non = true := rfl
    simp [body, fn__law_right, h75, h66, hat, hb, optL, h38, lettersOf, hn1, hn2, h79, h39, hr1, hr2]
  | some L =>
    rw [h] at hb h38
    obtain ⟨op, hv, hp, hm, hL, hR⟩ := bound_ok g hr h
    have hlen := bound_len g hr h
    obtain ⟨ys, hy, hy1, hy2⟩ := sort_letters hL (by omega)
    have hlo : lettersOf (some L) = .tup ys := by simp [lettersOf, hy]
    rw [hlo] at h38
    have he := letters_ev (cl := callF tab (j + 6)) (env := [some (.d (.lst (rules.map fun r => .tup [.str r.1.flat, .str r.2.flat]))), some (.d (modD (opsD 0 ops))), some (.d (funD (opsD 0 ops))), some (.d (.int q)), some (.d (.int v)), some (.d o.D), some (.d (.dct (lsD L))), none, some (.d (.dct (opsK 0 ops))), some (.d (.dct (typK 0 ops))), none]) (mem := mem) (L := L) (v := 10) (b := 6) hL.nd (by unfold lim; omega) rfl (by simp) (by omega)
    unfold lettersE at he
    simp [-ev_lc, body, fn__law_right, h75, h66, hat, hb, optL, he, blt_sorted, hy, blt_tuple, h38, hy1, hy2, h79, h39, hr1, hr2]
end Mi
end
section
/-! Me1: the law's machine: operands, what an operation makes. -/
namespace Mi
open PySem
abbrev Vs := List (Nat × Int)
def pvD (e : Nat × Int) : D := .tup [.int e.1, .int e.2]
def envD : Nat → Vs → List (Ky × D)
  | _, [] => []
  | i, e :: r => (.i (i : Int), pvD e) :: envD (i + 1) r
theorem lk_env {vs : Vs} : ∀ {i j : Nat}, lkD (envD i vs) (.i ((i + j : Nat) : Int)) = (vs[j]?).map pvD := by
  induction vs with
  | nil => intro i j; rfl
  | cons e r ih =>
    intro i j
    rw [envD, lk_cons]
    cases j with
    | zero => simp
    | succ j =>
      rw [if_neg (by simp; omega), show i + (j + 1) = i + 1 + j by omega, ih]
      simp
theorem lk_env0 {vs : Vs} {j : Nat} : lkD (envD 0 vs) (.i (j : Int)) = (vs[j]?).map pvD := by
  have := lk_env (vs := vs) (i := 0) (j := j)
  simpa using this
theorem envD_len {vs : Vs} : ∀ {i : Nat}, (envD i vs).length = vs.length := by
  induction vs with
  | nil => intro i; rfl
  | cons e r ih => intro i; simp [envD, ih]
theorem envD_app {vs : Vs} {e : Nat × Int} : ∀ {i : Nat}, envD i (vs ++ [e]) = envD i vs ++ [(.i ((i + vs.length : Nat) : Int), pvD e)] := by
  induction vs with
  | nil => intro i; simp [envD]
  | cons x r ih =>
    intro i
    simp only [List.cons_append, envD, ih, List.length_cons]
    rw [show i + 1 + r.length = i + (r.length + 1) by omega]
def valO (vs : Vs) (o : Opr) (s : Nat) : Option Int := match o with
  | .n i => if (i : Int) < 2 ^ s then some (i : Int) else none
  | .v j => match vs[j]? with
    | some e => if e.1 = s then some e.2 else none
    | none => none
def vD (s : Nat) : Option Int → D
  | some v => .tup [.int s, .int v]
  | none => .non
theorem mGet {n : Nat} {k : D} {mem : Mem} : methW .get (.r n) [.d k] mem = match mem[n]? with
    | some (.dct kvs) => (kyOf k).map fun k => (.d ((lkD kvs k).getD .non), mem)
    | _ => none := by unfold methW; rfl
theorem c_value {k : Nat} {o : Opr} {s n : Nat} {vs : Vs} {gl : D} {mem : Mem} (ok : okM mem) (hn : mem[n]? = some (.dct (envD 0 vs))) (hs : wOk s) : callF tab (k + 2) 51 [.d o.D, .r n, .d gl, .d (.int s)] mem = some (.d (vD s (valO vs o s)), mem) := by
  have hs' : s ≤ 1000 := by unfold wOk at hs; omega
  have hp := c_power (k := k) ok hs'
  refine call_pure ok rfl rfl rfl ?_
  cases o with
  | n i =>
    by_cases h : (i : Int) < 2 ^ s <;> simp [body, fn__law_value, Opr.D, hp, valO, h, vD]
  | v j =>
    have hl := lk_env0 (vs := vs) (j := j)
    cases h : vs[j]? with
    | none =>
      rw [h] at hl
      simp [body, fn__law_value, Opr.D, mthTy, hn, mGet, hl, valO, h, vD]
    | some e =>
      rw [h] at hl
      by_cases he : e.1 = s
      · simp [body, fn__law_value, Opr.D, mthTy, hn, mGet, hl, valO, h, pvD, he, vD]
      · have : ¬ (e.1 : Int) = s := by omega
        simp [body, fn__law_value, Opr.D, mthTy, hn, mGet, hl, valO, h, pvD, he, this, vD]
def valsO (vs : Vs) : List Opr → List Nat → Option (List D)
  | o :: os, s :: ss => match valO vs o s, valsO vs os ss with
    | some v, some r => some (.tup [.int s, .int v] :: r)
    | _, _ => none
  | _, _ => some []
def vRow (vs : Vs) : List Opr → List Nat → List D
  | o :: os, s :: ss => vD s (valO vs o s) :: vRow vs os ss
  | _, _ => []
theorem zip2_c {x y : D} {xs ys : List D} : zip2 (x :: xs) (y :: ys) = .tup [x, y] :: zip2 xs ys := rfl
theorem turns_vals {k n : Nat} {vs : Vs} {gl : D} {mem : Mem} {x0 x3 x4 x5 x6 : Option W} (ok : okM mem) (hn : mem[n]? = some (.dct (envD 0 vs))) (os : List Opr) : ∀ (ss : List Nat) (acc : List D), (∀ s, s ∈ ss → wOk s) → turns (lcT1 [5, 6] (.tp [5, 6]) [] (.call 51 [.var 5, .var 1, .var 2, .var 6]) (callF tab (k + 2)) [x0, some (.r n), some (.d gl), x3, x4, x5, x6]) snoc (zip2 (os.map Opr.D) (ss.map intD)) acc mem = some (acc ++ vRow vs os ss, mem) := by
  induction os with
  | nil => intro ss acc _; simp [zip2, vRow]
  | cons o os ih =>
    intro ss acc hs
    cases ss with
    | nil => simp [zip2, vRow]
    | cons s ss =>
      rw [List.map_cons, List.map_cons, zip2_c, turns_cons]
      have hv := c_value (k := k) (o := o) (gl := gl) ok hn (hs s (by simp))
      have : lcT1 [5, 6] (.tp [5, 6]) [] (.call 51 [.var 5, .var 1, .var 2, .var 6]) (callF tab (k + 2)) [x0, some (.r n), some (.d gl), x3, x4, x5, x6] (.tup [o.D, intD s]) mem = some (some (vD s (valO vs o s)), mem) := by
        unfold intD
        simp [lcT1, wipeE, hv]
      rw [this, kTn_s, snoc, ih ss _ fun q hq => hs q (by simp [hq])]
      simp [vRow]
theorem vRow_some {vs : Vs} (os : List Opr) : ∀ (ss : List Nat), (∀ r, valsO vs os ss = some r → vRow vs os ss = r ∧ r.any (fun z => eqD z .non) = false) ∧ (valsO vs os ss = none → (vRow vs os ss).any (fun z => eqD z .non) = true) := by
  induction os with
  | nil => intro ss; simp [valsO, vRow]
  | cons o os ih =>
    intro ss
    cases ss with
    | nil => simp [valsO, vRow]
    | cons s ss =>
      obtain ⟨h1, h2⟩ := ih ss
      cases hv : valO vs o s with
      | none => simp [valsO, vRow, hv, vD, eqD]
      | some v =>
        cases hr : valsO vs os ss with
        | none => simp [valsO, vRow, hv, vD, eqD, hr, h2 hr]
        | some r =>
          obtain ⟨h3, h4⟩ := h1 r hr
          simp [valsO, vRow, hv, vD, eqD, hr, h3]
          simpa using h4
theorem vRow_shp {vs : Vs} (os : List Opr) : ∀ (ss : List Nat), okDs (vRow vs os ss) = true ∧ deps (vRow vs os ss) ≤ 1 := by
  induction os with
  | nil => intro ss; simp [vRow, okDs, deps]
  | cons o os ih =>
    intro ss
    cases ss with
    | nil => simp [vRow, okDs, deps]
    | cons s ss =>
      obtain ⟨h1, h2⟩ := ih ss
      cases hv : valO vs o s <;> simp [vRow, hv, vD, okDs, okD, deps, dep, h1] <;> omega
theorem vRow_len {vs : Vs} (os : List Opr) : ∀ (ss : List Nat), (vRow vs os ss).length ≤ os.length := by
  induction os with
  | nil => intro ss; simp [vRow]
  | cons o os ih =>
    intro ss
    cases ss with
    | nil => simp [vRow]
    | cons s ss => simp [vRow]; exact ih ss
def lstO : Option (List D) → D
  | some r => .lst r
  | none => .non
theorem blt_lenT {xs : List D} {mem : Mem} : bltW .len (.d (.tup xs)) mem = some (.d (.int xs.length), mem) := by unfold bltW; rfl
theorem blt_lenL {xs : List D} {mem : Mem} : bltW .len (.d (.lst xs)) mem = some (.d (.int xs.length), mem) := by unfold bltW; rfl
theorem c_all {k n : Nat} {os : List Opr} {ss : List Nat} {vs : Vs} {gl : D} {mem : Mem} (ok : okM mem) (hn : mem[n]? = some (.dct (envD 0 vs))) (hs : ∀ s, s ∈ ss → wOk s) (hl : os.length = ss.length) (h3 : os.length ≤ 3) : callF tab (k + 3) 52 [.d (.tup (os.map Opr.D)), .r n, .d gl, .d (.lst (ss.map intD))] mem = some (.d (lstO (valsO vs os ss)), mem) := by
  have ht := turns_vals (k := k) (gl := gl) (x0 := some (.d (.tup (os.map Opr.D)))) (x3 := some (.d (.lst (ss.map intD)))) (x4 := none) (x5 := none) (x6 := none) ok hn os ss [] hs
  obtain ⟨s1, s2⟩ := vRow_shp (vs := vs) os ss
  have hsh : shp (.lst (vRow vs os ss)) = true := by simp [shp, okD, dep, s1]; omega
  have hlen := vRow_len (vs := vs) os ss
  have hlim : (vRow vs os ss).length < lim := by unfold lim; omega
  obtain ⟨h1, h2⟩ := vRow_some (vs := vs) os ss
  refine call_pure ok rfl rfl rfl ?_
  simp at ht
  cases hv : valsO vs os ss with
  | none =>
    have ha := h2 hv
    simp [body, fn__law_all, blt_lenT, blt_lenL, hl, ht, hlim, hsh, lstO]
    simp at ha
    simp [ha]
  | some r =>
    obtain ⟨e1, e2⟩ := h1 r hv
    rw [e1] at ht hsh hlim
    simp [body, fn__law_all, blt_lenT, blt_lenL, hl, ht, hlim, hsh, lstO]
    simp at e2
    have hno : ¬ ∃ x, x ∈ r ∧ eqD x D.non = true := by
      rintro ⟨x, hx, he⟩
      have := e2 x hx
      rw [he] at this
      cases this
    rw [if_neg hno]
    simp
theorem c_wants {k i : Nat} {op : Op} {t : W} {mem : Mem} (ok : okM mem) : callF tab (k + 1) 53 [.d (opD i op), t] mem = some (.d (.lst (op.asked.map intD)), mem) := by
  refine call_pure ok rfl rfl rfl ?_
  cases op <;> simp [body, fn__law_wants, opD, Op.kind, Op.info, Op.asked, shp, okD, okDs, dep, deps, intD]
def prOp (s : Nat) (o : Opr) : D := .tup [.non, .str [.print], .tup [.int s], .tup [o.D]]
theorem c_wantsP {k s : Nat} {o : Opr} {t : W} {mem : Mem} (ok : okM mem) : callF tab (k + 1) 53 [.d (prOp s o), t] mem = some (.d (.lst [.int s]), mem) := by
  refine call_pure ok rfl rfl rfl ?_
  simp [body, fn__law_wants, prOp, shp, okD, okDs, dep, deps]
end Mi
end
section
/-! Me2: what an operation makes of its arguments. -/
namespace Mi
open PySem
def doOp (vs : Vs) : Op → Option (Option Int)
  | .inp _ => none
  | .bin o s x y => match valO vs x s, valO vs y s with
    | some a, some b => some (told o s a b)
    | _, _ => none
  | .cmp o s x y => match valO vs x s, valO vs y s with
    | some a, some b => some (some (cmpI o s a b))
    | _, _ => none
  | .sel s c x y => match valO vs c 1, valO vs x s, valO vs y s with
    | some z, some a, some b => some (some (if z = 1 then a else b))
    | _, _, _ => none
  | .cast o lo hi x => match valO vs x lo with
    | some a => some (some (castI o lo hi a))
    | none => none
/-- what is held is in range -/
def Rng (vs : Vs) : Prop := ∀ e, e ∈ vs → 0 ≤ e.2 ∧ e.2 < 2 ^ e.1
theorem valO_rng {vs : Vs} (h : Rng vs) {o : Opr} {s : Nat} {v : Int} (e : valO vs o s = some v) : 0 ≤ v ∧ v < 2 ^ s := by
  cases o with
  | n i =>
    simp only [valO] at e
    split at e
    · simp at e; subst e; omega
    · cases e
  | v j =>
    simp only [valO] at e
    split at e
    · next e' he =>
      split at e
      · next hs =>
        simp at e
        subst e hs
        exact h _ (List.mem_of_getElem? he)
      · cases e
    · cases e
theorem n64_of {s : Nat} {v : Int} (hs : wOk s) (h : 0 ≤ v ∧ v < 2 ^ s) : n64 v := by
  have := pow_le64 hs.2
  unfold n64; omega
theorem sgn_ne {s : Nat} {v : Int} (h : 0 ≤ v ∧ v < 2 ^ s) : v = 0 ∨ sgn s v ≠ 0 := by
  unfold sgn
  split <;> omega
theorem valsO_none {vs : Vs} {op : Op} (hi : op.isInp = false) : valsO vs op.args op.asked = none ↔ doOp vs op = none := by
  cases op with
  | inp s => simp [Op.isInp] at hi
  | bin o s x y => cases h1 : valO vs x s <;> cases h2 : valO vs y s <;> simp [Op.args, Op.asked, valsO, doOp, h1, h2]
  | cmp o s x y => cases h1 : valO vs x s <;> cases h2 : valO vs y s <;> simp [Op.args, Op.asked, valsO, doOp, h1, h2]
  | sel s c x y => cases h0 : valO vs c 1 <;> cases h1 : valO vs x s <;> cases h2 : valO vs y s <;> simp [Op.args, Op.asked, valsO, doOp, h0, h1, h2]
  | cast o lo hi x => cases h1 : valO vs x lo <;> simp [Op.args, Op.asked, valsO, doOp, h1]
def outD (s : Nat) : Option Int → D
  | some v => .tup [.int s, .int v]
  | none => .str [.divide]
theorem c_plain {k i : Nat} {op : Op} {vs : Vs} {r : List D} {v : Option Int} {mem : Mem} (ok : okM mem) (hr : Rng vs) (hg : gOp op) (hm : wOk op.made) (hv : valsO vs op.args op.asked = some r) (hd : doOp vs op = some v) : callF tab (k + 5) 54 [.d (opD i op), .d (.lst r)] mem = some (.d (outD op.made v), mem) := by
  refine call_pure ok rfl rfl rfl ?_
  cases op with
  | inp s => simp [doOp] at hd
  | bin o s x y =>
    cases h1 : valO vs x s with
    | none => simp [doOp, h1] at hd
    | some a =>
      cases h2 : valO vs y s with
      | none => simp [doOp, h1, h2] at hd
      | some b =>
        simp only [doOp, h1, h2, Option.some.injEq] at hd
        simp [Op.args, Op.asked, valsO, h1, h2] at hv
        subst hd hv
        have ra := valO_rng hr h1
        have rb := valO_rng hr h2
        have hs : wOk s := hm
        have ht := c_told (k := k) (o := o) ok hs (n64_of hs ra) (n64_of hs rb) (sgn_ne rb)
        cases e : told o s a b <;> rw [e] at ht <;> simp [body, fn__law_plain, opD, Op.kind, Op.info, ht, optD, outD, Op.made]
  | cmp o s x y =>
    cases h1 : valO vs x s with
    | none => simp [doOp, h1] at hd
    | some a =>
      cases h2 : valO vs y s with
      | none => simp [doOp, h1, h2] at hd
      | some b =>
        simp only [doOp, h1, h2, Option.some.injEq] at hd
        simp [Op.args, Op.asked, valsO, h1, h2] at hv
        subst hd hv
        have hs : wOk s := hg.2 s (by simp [Op.asked])
        have ht := c_compared (k := k + 1) (o := o) (a := a) (b := b) ok hs
        simp [body, fn__law_plain, opD, Op.kind, Op.info, ht, outD, Op.made]
  | sel s c x y =>
    cases h0 : valO vs c 1 with
    | none => simp [doOp, h0] at hd
    | some z =>
      cases h1 : valO vs x s with
      | none => simp [doOp, h0, h1] at hd
      | some a =>
        cases h2 : valO vs y s with
        | none => simp [doOp, h0, h1, h2] at hd
        | some b =>
          simp only [doOp, h0, h1, h2, Option.some.injEq] at hd
          simp [Op.args, Op.asked, valsO, h0, h1, h2] at hv
          subst hd hv
          by_cases hz : z = 1 <;> simp [body, fn__law_plain, opD, Op.kind, Op.info, outD, Op.made, hz]
  | cast o lo hi x =>
    cases h1 : valO vs x lo with
    | none => simp [doOp, h1] at hd
    | some a =>
      simp only [doOp, h1, Option.some.injEq] at hd
      simp [Op.args, Op.asked, valsO, h1] at hv
      subst hd hv
      have hl : wOk lo := hg.2 lo (by simp [Op.asked])
      have hh : wOk hi := hm
      have ht := c_cast (k := k + 1) (o := o) (a := a) ok hl hh
      simp [body, fn__law_plain, opD, Op.kind, Op.info, ht, outD, Op.made]
/-! results are in range -/
theorem mod_rng {a : Int} {s : Nat} : 0 ≤ a % 2 ^ s ∧ a % 2 ^ s < 2 ^ s := ⟨Int.emod_nonneg _ (by have := pow_pos2 s; omega), Int.emod_lt_of_pos _ (pow_pos2 s)⟩
theorem told_rng {o : Bo} {s : Nat} {a b v : Int} (ha : 0 ≤ a ∧ a < 2 ^ s) (hb : 0 ≤ b ∧ b < 2 ^ s) (h : told o s a b = some v) : 0 ≤ v ∧ v < 2 ^ s := by
  have hbit : ∀ f : Nat → Nat → Nat, (∀ x y, x < 2 ^ s → y < 2 ^ s → f x y < 2 ^ s) → 0 ≤ ((f a.toNat b.toNat : Nat) : Int) ∧ ((f a.toNat b.toNat : Nat) : Int) < 2 ^ s := by
    intro f hf
    have h1 : a.toNat < 2 ^ s := by have := pow_cast s; omega
    have h2 : b.toNat < 2 ^ s := by have := pow_cast s; omega
    have := hf _ _ h1 h2
    have hp := pow_cast s
    omega
  obtain ⟨x, rfl⟩ := nat_of ha.1
  obtain ⟨y, rfl⟩ := nat_of hb.1
  cases o <;> simp only [told] at h
  case band => simp only [Option.some.injEq] at h; subst h; rw [band_nat]; exact hbit (· &&& ·) fun x y hx _ => Nat.lt_of_le_of_lt Nat.and_le_left hx
  case bor => simp only [Option.some.injEq] at h; subst h; rw [bor_nat]; exact hbit (· ||| ·) fun x y hx hy => Nat.or_lt_two_pow hx hy
  case bxor => simp only [Option.some.injEq] at h; subst h; rw [bxor_nat]; exact hbit (· ^^^ ·) fun x y hx hy => Nat.xor_lt_two_pow hx hy
  all_goals first
    | (simp only [Option.some.injEq] at h; subst h; exact mod_rng)
    | (split at h
       · cases h
       · simp only [Option.some.injEq] at h; subst h; exact mod_rng)
theorem doOp_rng {vs : Vs} {op : Op} {v : Int} (hr : Rng vs) (h : doOp vs op = some (some v)) : 0 ≤ v ∧ v < 2 ^ op.made := by
  cases op with
  | inp s => simp [doOp] at h
  | bin o s x y =>
    cases h1 : valO vs x s <;> cases h2 : valO vs y s <;> simp [doOp, h1, h2] at h
    exact told_rng (valO_rng hr h1) (valO_rng hr h2) h
  | cmp o s x y =>
    cases h1 : valO vs x s <;> cases h2 : valO vs y s <;> simp [doOp, h1, h2] at h
    subst h
    unfold cmpI
    split <;> simp [Op.made]
  | sel s c x y =>
    cases h0 : valO vs c 1 <;> cases h1 : valO vs x s <;> cases h2 : valO vs y s <;> simp [doOp, h0, h1, h2] at h
    subst h
    split
    · exact valO_rng hr h1
    · exact valO_rng hr h2
  | cast o lo hi x =>
    cases h1 : valO vs x lo <;> simp [doOp, h1] at h
    subst h
    unfold castI
    split <;> exact mod_rng
theorem valO_app {vs t : Vs} {o : Opr} {s : Nat} {v : Int} (h : valO vs o s = some v) : valO (vs ++ t) o s = some v := by
  cases o with
  | n i => exact h
  | v j =>
    simp only [valO] at h ⊢
    cases hj : vs[j]? with
    | none => rw [hj] at h; cases h
    | some e =>
      rw [hj] at h
      have : (vs ++ t)[j]? = some e := by
        obtain ⟨hl, _⟩ := List.getElem?_eq_some_iff.mp hj
        rw [List.getElem?_append_left hl, hj]
      rw [this]
      exact h
theorem doOp_app {vs t : Vs} {op : Op} {v : Option Int} (h : doOp vs op = some v) : doOp (vs ++ t) op = some v := by
  cases op with
  | inp s => simp [doOp] at h
  | bin o s x y =>
    cases h1 : valO vs x s <;> cases h2 : valO vs y s <;> simp [doOp, h1, h2] at h
    simp [doOp, valO_app h1, valO_app h2, h]
  | cmp o s x y =>
    cases h1 : valO vs x s <;> cases h2 : valO vs y s <;> simp [doOp, h1, h2] at h
    simp [doOp, valO_app h1, valO_app h2, h]
  | sel s c x y =>
    cases h0 : valO vs c 1 <;> cases h1 : valO vs x s <;> cases h2 : valO vs y s <;> simp [doOp, h0, h1, h2] at h
    simp [doOp, valO_app h0, valO_app h1, valO_app h2, h]
  | cast o lo hi x =>
    cases h1 : valO vs x lo <;> simp [doOp, h1] at h
    simp [doOp, valO_app h1, h]
/-- the first operations have run -/
def Ran (ops : List Op) (vs : Vs) : Prop := ∀ (i : Nat) (e : Nat × Int), vs[i]? = some e → ∃ op, ops[i]? = some op ∧ e.1 = op.made ∧ (op.isInp = false → doOp vs op = some (some e.2)) ∧ 0 ≤ e.2 ∧ e.2 < 2 ^ e.1
theorem ran_rng {ops : List Op} {vs : Vs} (h : Ran ops vs) : Rng vs := by
  intro e he
  obtain ⟨i, hi, rfl⟩ := List.getElem_of_mem he
  obtain ⟨op, _, _, _, h4⟩ := h i _ (List.getElem?_eq_getElem hi)
  exact h4
theorem ran_nil {ops : List Op} : Ran ops [] := by
  intro i e h; simp at h
theorem ran_snoc {ops : List Op} {vs : Vs} {op : Op} {v : Int} (h : Ran ops vs) (ho : ops[vs.length]? = some op) (hd : op.isInp = false → doOp vs op = some (some v)) (hv : 0 ≤ v ∧ v < 2 ^ op.made) : Ran ops (vs ++ [(op.made, v)]) := by
  intro i e he
  by_cases hi : i < vs.length
  · rw [List.getElem?_append_left hi] at he
    obtain ⟨op', h1, h2, h3, h4⟩ := h i e he
    exact ⟨op', h1, h2, fun x => doOp_app (h3 x), h4⟩
  · have : i = vs.length := by
      have := (List.getElem?_eq_some_iff.mp he).1
      simp at this
      omega
    subst this
    simp at he
    subst he
    exact ⟨op, ho, rfl, fun x => doOp_app (hd x), hv⟩
end Mi
end
section
/-! Me3: the law's machine: an operation. -/
namespace Mi
open PySem
section
variable {mem r : Mem} {a b c d e f g x : Cell}
theorem get4 : (mem ++ a :: b :: c :: d :: e :: r)[mem.length + 4]? = some e := by simp [List.getElem?_append]
theorem get5 : (mem ++ a :: b :: c :: d :: e :: f :: r)[mem.length + 5]? = some f := by simp [List.getElem?_append]
theorem get6 : (mem ++ a :: b :: c :: d :: e :: f :: g :: r)[mem.length + 6]? = some g := by simp [List.getElem?_append]
theorem set4 : (mem ++ a :: b :: c :: d :: e :: r).set (mem.length + 4) x = mem ++ a :: b :: c :: d :: x :: r := by simp [List.set_append]
theorem set5 : (mem ++ a :: b :: c :: d :: e :: f :: r).set (mem.length + 5) x = mem ++ a :: b :: c :: d :: e :: x :: r := by simp [List.set_append]
theorem set6 : (mem ++ a :: b :: c :: d :: e :: f :: g :: r).set (mem.length + 6) x = mem ++ a :: b :: c :: d :: e :: f :: x :: r := by simp [List.set_append]
end
def blkD (all : List D) : D := .tup [.int 0, .tup [], .tup all, retD]
theorem funD_blk {all : List D} : funD all = .tup [.str [.main], .tup [], .int 8, .tup [blkD all]] := rfl
def Ms (mem : Mem) (all : List D) (p : Nat) (vs : Vs) (fr : List W) (ins outs : List Int) : Mem :=
  mem ++ [.dct [(.s [.main], funD all)], .dct (envD 0 vs), .obj [.d (funD all), .d (blkD all), .d (.int p), .r (mem.length + 1), .d (.lst [])], .obj fr, .lst (ins.map .int), .lst (outs.map .int), .obj [.r (mem.length + 4), .r (mem.length + 5)]]
theorem okMs {mem : Mem} {all : List D} {p : Nat} {vs : Vs} {fr : List W} {ins outs : List Int} (ok : okM mem) (hf : fr = [.r (mem.length + 2)] ∨ fr = []) : okM (Ms mem all p vs fr ins outs) := by
  unfold okM at *
  rw [List.all_eq_true] at ok
  unfold Ms
  rw [List.all_append, Bool.and_eq_true]
  refine ⟨List.all_eq_true.mpr fun c hc => inC_mono (by simp) (ok c hc), ?_⟩
  rcases hf with rfl | rfl <;> simp [inC]
theorem eq_rl {n : Nat} {mem : Mem} : eqW (.r n) (.d (.lst [])) mem = match mem[n]? with
    | some (.lst xs) => some xs.isEmpty
    | some (.obj xs) => some xs.isEmpty
    | _ => none := by unfold eqW; rfl
theorem mPopAt {n : Nat} {mem : Mem} : methW .popAt (.r n) [.d (.int 0)] mem = match mem[n]? with
    | some (.lst (y :: ys)) => some (.d y, mem.set n (.lst ys))
    | _ => none := by unfold methW; rfl
theorem ixN5 : L2.ixN 5 2 = some 2 := rfl
theorem outD_in {s : Nat} {v : Option Int} : [D.str [Wd.divide], .str [.index]].any (fun z => eqD z (outD s v)) = decide (v = none) := by
  cases v <;> simp [outD, eqD]
theorem shp_outD {s : Nat} {v : Option Int} : shp (outD s v) = true := by cases v <;> rfl
theorem shp_di : shp (.lst [.str [.divide], .str [.index]]) = true := rfl
theorem put_env {vs : Vs} {e : Nat × Int} : putD (envD 0 vs) (.i (vs.length : Int)) (pvD e) = envD 0 (vs ++ [e]) := by
  rw [envD_app, putD_none]
  · simp
  · have := lk_env0 (vs := vs) (j := vs.length)
    simpa using this
/-- an operation: its result, or why it ends -/
theorem c_opIn {k s : Nat} {mem : Mem} {ops : List Op} {all : List D} {vs : Vs} {ins outs : List Int} (ok : okM mem) (hall : all[vs.length]? = some (opD vs.length (.inp s))) (hs : wOk s) (hl : vs.length < lim) :
    callF tab (k + 7) 60 [.r (mem.length + 3), .d (.lst []), .d (.lst []), .r mem.length, .r (mem.length + 6)] (Ms mem all vs.length vs [.r (mem.length + 2)] ins outs) = match ins with
      | [] => some (.d (.tup [.str [.trap], .str [.input]]), Ms mem all vs.length vs [.r (mem.length + 2)] [] outs)
      | x :: r => some (.d .non, Ms mem all (vs.length + 1) (vs ++ [(s, x % 2 ^ s)]) [.r (mem.length + 2)] r outs) := by
  have okA := fun p vs ins outs => okMs (all := all) (p := p) (vs := vs) (fr := [.r (mem.length + 2)]) (ins := ins) (outs := outs) ok (.inl rfl)
  have h53 := c_wants (k := k + 5) (i := vs.length) (op := .inp s) (t := .r mem.length) (okA vs.length vs ins outs)
  have h52 := c_all (k := k + 3) (n := mem.length + 1) (os := []) (ss := []) (vs := vs) (gl := .lst []) (okA vs.length vs ins outs) (by simp [Ms]) (by simp) rfl (by simp)
  have hat : L2.atI all (vs.length : Int) = some (opD vs.length (.inp s)) := atI_nat hall
  have h1 : shp (.lst [.str [.load], .str [.store]]) = true := rfl
  have hlen : (envD 0 vs).length < lim := by rw [envD_len]; exact hl
  have hpe := fun s v => put_env (vs := vs) (e := (s, v))
  simp only [pvD] at hpe
  cases ins with
  | nil =>
    refine call_upd rfl (okA _ _ _ _) rfl rfl rfl ?_
    unfold Ms at h53 h52 ⊢
    unfold funD blkD at *
    simp [opD, Op.kind, Op.info, Op.args, Op.asked] at hat h53 h52
    simp [body, fn__law_op, get4, get5, get6, hat, h53, h52, valsO, lstO, h1, eq_rl]
  | cons x r =>
    have h44 := c_power (k := k + 5) (w := s) (okA vs.length vs r outs) (by unfold wOk at hs; omega)
    have hmod : binW .mod (.d (.int x)) (.d (.int (2 ^ s))) = some (.d (.int (x % 2 ^ s))) := b_mod (pow_pos2 s)
    refine call_upd (by simp [Ms]) (okA _ _ _ _) rfl rfl rfl ?_
    have hdi : shp (.tup [.int s, .int (x % 2 ^ s)]) = true := rfl
    unfold Ms at h53 h52 h44 ⊢
    unfold funD blkD at *
    simp [opD, Op.kind, Op.info, Op.args, Op.asked] at hat h53 h52 h44
    simp [body, fn__law_op, get4, get5, get6, set4, set5, hat, h53, h52, valsO, lstO, h1, eq_rl, mthTy, mPopAt, blt_int, h44, hmod, shp_di, hdi, eqD, hlen, hpe, ixN5]
theorem lstO_non {r : Option (List D)} : isNon (.d (lstO r)) = decide (r = none) := by cases r <;> simp [lstO]
theorem c_opDo {k : Nat} {mem : Mem} {op : Op} {all : List D} {vs : Vs} {ins outs : List Int} (ok : okM mem) (hall : all[vs.length]? = some (opD vs.length op)) (hi : op.isInp = false) (hr : Rng vs) (hg : gOp op) (hm : wOk op.made) (hl : vs.length < lim) :
    callF tab (k + 7) 60 [.r (mem.length + 3), .d (.lst []), .d (.lst []), .r mem.length, .r (mem.length + 6)] (Ms mem all vs.length vs [.r (mem.length + 2)] ins outs) = match doOp vs op with
      | none => some (.d (.str [.wrong]), Ms mem all vs.length vs [.r (mem.length + 2)] ins outs)
      | some none => some (.d (.tup [.str [.trap], .str [.divide]]), Ms mem all vs.length vs [.r (mem.length + 2)] ins outs)
      | some (some v) => some (.d .non, Ms mem all (vs.length + 1) (vs ++ [(op.made, v)]) [.r (mem.length + 2)] ins outs) := by
  have okA := fun p vs ins outs => okMs (all := all) (p := p) (vs := vs) (fr := [.r (mem.length + 2)]) (ins := ins) (outs := outs) ok (.inl rfl)
  have h53 := c_wants (k := k + 5) (i := vs.length) (op := op) (t := .r mem.length) (okA vs.length vs ins outs)
  have hla : op.args.length = op.asked.length ∧ op.args.length ≤ 3 := by cases op <;> simp [Op.args, Op.asked]
  have h52 := c_all (k := k + 3) (n := mem.length + 1) (os := op.args) (ss := op.asked) (vs := vs) (gl := .lst []) (okA vs.length vs ins outs) (by simp [Ms]) hg.2 hla.1 hla.2
  have hat : L2.atI all (vs.length : Int) = some (opD vs.length op) := atI_nat hall
  have h1 : shp (.lst [.str [.load], .str [.store]]) = true := rfl
  have hlen : (envD 0 vs).length < lim := by rw [envD_len]; exact hl
  have hpe := fun s v => put_env (vs := vs) (e := (s, v))
  simp only [pvD] at hpe
  have hk : ¬ op.kind = .call ∧ ¬ op.kind = .alloca ∧ ¬ op.kind = .load ∧ ¬ op.kind = .store ∧ ¬ op.kind = .print ∧ ¬ op.kind = .input := by cases op <;> simp [Op.kind, Op.isInp] at hi ⊢
  obtain ⟨k1, k2, k3, k4, k5, k6⟩ := hk
  have k3' : ¬ Wd.load = op.kind := fun e => k3 e.symm
  have k4' : ¬ Wd.store = op.kind := fun e => k4 e.symm
  have hop : opD vs.length op = .tup [.int vs.length, .str [op.kind], .tup op.info, .tup (op.args.map Opr.D)] := rfl
  cases hv : valsO vs op.args op.asked with
  | none =>
    rw [(valsO_none hi).mp hv]
    rw [hv] at h52
    refine call_upd rfl (okA _ _ _ _) rfl rfl rfl ?_
    rw [hop] at hat h53
    unfold Ms at h53 h52 ⊢
    unfold funD blkD at *
    simp [lstO] at h52
    simp [body, fn__law_op, get4, get5, get6, hat, k1, h53, h52]
  | some r =>
    cases hd : doOp vs op with
    | none => rw [(valsO_none hi).mpr hd] at hv; cases hv
    | some v =>
      rw [hv] at h52
      have h54 := c_plain (k := k + 1) (i := vs.length) (okA vs.length vs ins outs) hr hg hm hv hd
      have hin := outD_in (s := op.made) (v := v)
      have hsh := shp_outD (s := op.made) (v := v)
      simp only [List.any_cons, List.any_nil, Bool.or_false] at hin
      rw [hop] at hat h53 h54
      cases v with
      | none =>
        refine call_upd rfl (okA _ _ _ _) rfl rfl rfl ?_
        unfold Ms at h53 h52 h54 ⊢
        unfold funD blkD at *
        simp [lstO] at h52
        simp only [outD] at hsh hin h54
        simp [body, fn__law_op, get4, get5, get6, set4, set5, hat, k1, k2, k3', k4', k5, k6, h53, h52, h1, h54, shp_di]
      | some v =>
        refine call_upd (by simp [Ms]) (okA _ _ _ _) rfl rfl rfl ?_
        unfold Ms at h53 h52 h54 ⊢
        unfold funD blkD at *
        simp [lstO] at h52
        simp only [outD] at hsh hin h54
        have e1 : eqD (.str [.divide]) (.tup [.int op.made, .int v]) = false := rfl
        have e2 : eqD (.str [.index]) (.tup [.int op.made, .int v]) = false := rfl
        simp [body, fn__law_op, get4, get5, get6, set4, set5, hat, k1, k2, k3', k4', k5, k6, h53, h52, h1, h54, shp_di, hsh, e1, e2, hlen, hpe, ixN5]
theorem c_opPr {k p s : Nat} {o : Opr} {mem : Mem} {all : List D} {vs : Vs} {ins outs : List Int} (ok : okM mem) (hall : all[p]? = some (prOp s o)) (hs : wOk s) (hl : outs.length < lim) :
    callF tab (k + 7) 60 [.r (mem.length + 3), .d (.lst []), .d (.lst []), .r mem.length, .r (mem.length + 6)] (Ms mem all p vs [.r (mem.length + 2)] ins outs) = match valO vs o s with
      | none => some (.d (.str [.wrong]), Ms mem all p vs [.r (mem.length + 2)] ins outs)
      | some v => some (.d .non, Ms mem all (p + 1) vs [.r (mem.length + 2)] ins (outs ++ [v])) := by
  have okA := fun p vs ins outs => okMs (all := all) (p := p) (vs := vs) (fr := [.r (mem.length + 2)]) (ins := ins) (outs := outs) ok (.inl rfl)
  have h53 := c_wantsP (k := k + 5) (s := s) (o := o) (t := .r mem.length) (okA p vs ins outs)
  have h52 := c_all (k := k + 3) (n := mem.length + 1) (os := [o]) (ss := [s]) (vs := vs) (gl := .lst []) (okA p vs ins outs) (by simp [Ms]) (by simpa using hs) rfl (by simp)
  have hat : L2.atI all (p : Int) = some (prOp s o) := atI_nat hall
  have h1 : shp (.lst [.str [.load], .str [.store]]) = true := rfl
  cases hv : valO vs o s with
  | none =>
    refine call_upd rfl (okA _ _ _ _) rfl rfl rfl ?_
    unfold Ms prOp at *
    unfold funD blkD at *
    simp [lstO, valsO, hv, intD] at h52
    simp [body, fn__law_op, get4, get5, get6, hat, h53, h52]
  | some v =>
    refine call_upd (by simp [Ms]) (okA _ _ _ _) rfl rfl rfl ?_
    unfold Ms prOp at *
    unfold funD blkD at *
    simp [lstO, valsO, hv, intD] at h52
    have e1 : eqD (.str [.divide]) .non = false := rfl
    have e2 : eqD (.str [.index]) .non = false := rfl
    simp [body, fn__law_op, get4, get5, get6, set4, set5, hat, h53, h52, h1, mthTy, mAppend, hl, shp_di, e1, e2, ixN5]
end Mi
end
section
/-! Me4: the law's machine: the end, the frame, the run. -/
namespace Mi
open PySem
theorem call_next {k f : Nat} {ws : List W} {mem mem2 : Mem} {fn : Fn} (hl : mem2.length = mem.length) (ok : okM mem2) (h : tab f = some fn) (ha : ws.length = fn.ar) (hk : fn.keep = false) (e : body (callF tab k) fn ws mem = some (.next, mem2)) : callF tab (k + 1) f ws mem = some (.d .non, mem2) := by
  rw [callF_succ h, run_of ha e, hk, if_neg (by decide)]
  have ht : mem2.take mem.length = mem2 := by rw [← hl]; simp
  unfold okM at ok
  rw [ht, ← hl, if_pos ok]
  show some (W.d .non, mem2.take mem2.length) = _
  simp
theorem c_leave {k p : Nat} {x : D} {mem : Mem} {all : List D} {vs : Vs} {ins outs : List Int} (ok : okM mem) : callF tab (k + 1) 58 [.r (mem.length + 3), .d (.lst []), .d x] (Ms mem all p vs [.r (mem.length + 2)] ins outs) = some (.d .non, Ms mem all p vs [] ins outs) := by
  refine call_next (by simp [Ms]) (okMs ok (.inr rfl)) rfl rfl rfl ?_
  unfold Ms
  have hp : ∀ x : W, ([x] : List W)[0]? = some x := fun x => rfl
  simp [body, fn__law_leave, mthTy, mPop, eq_rl]
theorem c_ending {k p : Nat} {mem : Mem} {all : List D} {vs : Vs} {ins outs : List Int} (ok : okM mem) : callF tab (k + 3) 59 [.r (mem.length + 3), .d (.lst []), .d (.lst [])] (Ms mem all p vs [.r (mem.length + 2)] ins outs) = some (.d (.tup [.str [.value], .int 0]), Ms mem all p vs [] ins outs) := by
  have okA := fun p vs ins outs => okMs (all := all) (p := p) (vs := vs) (fr := [.r (mem.length + 2)]) (ins := ins) (outs := outs) ok (.inl rfl)
  have h51 := c_value (k := k) (o := .n 0) (s := 8) (n := mem.length + 1) (vs := vs) (gl := .lst []) (okA p vs ins outs) (by simp [Ms]) (by simp [wOk])
  have hv : valO vs (.n 0) 8 = some 0 := by simp [valO]
  have h58 := c_leave (k := k + 1) (p := p) (x := .tup [.int 8, .int 0]) (all := all) (vs := vs) (ins := ins) (outs := outs) ok
  rw [hv] at h51
  refine call_upd (by simp [Ms]) (okMs ok (.inr rfl)) rfl rfl rfl ?_
  unfold Ms at h51 h58 ⊢
  unfold funD blkD retD at *
  simp [Opr.D, vD] at h51
  simp [body, fn__law_ending, h51, h58, eq_rl]
theorem dictEnumL {mem : Mem} : bltW .dictEnum (.d (.lst [])) mem = some (.r mem.length, mem ++ [.dct []]) := by unfold bltW; rfl
theorem c_frame {k : Nat} {all : List D} {mem : Mem} : callF tab (k + 1) 57 [.d (funD all), .d (.lst [])] mem = some (.r (mem.length + 1), mem ++ [.dct [], .obj [.d (funD all), .d (blkD all), .d (.int 0), .r mem.length, .d (.lst [])]]) := by
  rw [callF_succ rfl, run_of (m1 := mem ++ [.dct [], .obj [.d (funD all), .d (blkD all), .d (.int 0), .r mem.length, .d (.lst [])]]) (o := .ret (.r (mem.length + 1))) rfl ?_]
  · rfl
  · unfold funD blkD
    simp [body, fn__law_frame, dictEnumL]
def allOf (ops : List Op) (s val : Nat) (o : Opr) : List D := opsD 0 ops ++ [prOp s (.v val), prOp s o]
theorem opsD_get {ops : List Op} : ∀ {i j : Nat}, (opsD i ops)[j]? = (ops[j]?).map (opD (i + j)) := by
  induction ops with
  | nil => intro i j; simp [opsD]
  | cons x r ih =>
    intro i j
    cases j with
    | zero => simp [opsD]
    | succ j =>
      rw [opsD, List.getElem?_cons_succ, ih]
      simp
      congr 2
      omega
structure Sc where
  ops : List Op
  s : Nat
  val : Nat
  o : Opr
structure ScOk (c : Sc) : Prop where
  g : gOps c.ops
  w : ∀ op, op ∈ c.ops → wOk op.made
  s : wOk c.s
  l : c.ops.length < 1000
def GoodO (c : Sc) (outs : List Int) : Prop := ∃ vs a b, vs.length = c.ops.length ∧ Ran c.ops vs ∧ outs = [a, b] ∧ valO vs (.v c.val) c.s = some a ∧ valO vs c.o c.s = some b
def Inv (c : Sc) (p : Nat) (vs : Vs) (outs : List Int) : Prop := Ran c.ops vs ∧ ((p ≤ c.ops.length ∧ vs.length = p ∧ outs = []) ∨ (p = c.ops.length + 1 ∧ vs.length = c.ops.length ∧ ∃ a, outs = [a] ∧ valO vs (.v c.val) c.s = some a) ∨ (p = c.ops.length + 2 ∧ vs.length = c.ops.length ∧ ∃ a b, outs = [a, b] ∧ valO vs (.v c.val) c.s = some a ∧ valO vs c.o c.s = some b))
def Sc.all (c : Sc) : List D := allOf c.ops c.s c.val c.o
theorem all_len (c : Sc) : c.all.length = c.ops.length + 2 := by simp [Sc.all, allOf, opsD_length]
theorem inv_good {c : Sc} {p : Nat} {vs : Vs} {outs : List Int} (h : Inv c p vs outs) (h2 : outs.length = 2) : GoodO c outs := by
  obtain ⟨hr, ⟨_, _, rfl⟩ | ⟨_, _, a, rfl, _⟩ | ⟨_, hl, a, b, rfl, h3, h4⟩⟩ := h
  · simp at h2
  · simp at h2
  · exact ⟨vs, a, b, hl, hr, rfl, h3, h4⟩
/-- a step: on, or out -/
theorem c_step {k p : Nat} {c : Sc} {mem : Mem} {vs : Vs} {ins outs : List Int} (hc : ScOk c) (ok : okM mem) (hI : Inv c p vs outs) (hp : p < c.ops.length + 2) :
    ∃ (r : D) (p' : Nat) (vs' : Vs) (ins' outs' : List Int), callF tab (k + 7) 60 [.r (mem.length + 3), .d (.lst []), .d (.lst []), .r mem.length, .r (mem.length + 6)] (Ms mem c.all p vs [.r (mem.length + 2)] ins outs) = some (.d r, Ms mem c.all p' vs' [.r (mem.length + 2)] ins' outs') ∧ Inv c p' vs' outs' := by
  obtain ⟨hr, h⟩ := hI
  have h1000 := hc.l
  have hlim : (1000 : Nat) < lim := by unfold lim; omega
  rcases h with ⟨h1, h2, h3⟩ | ⟨h1, h2, a, h3, h4⟩ | ⟨h1, _⟩
  · subst h2 h3
    by_cases hn : vs.length < c.ops.length
    · obtain ⟨op, hop⟩ : ∃ op, c.ops[vs.length]? = some op := ⟨_, List.getElem?_eq_getElem hn⟩
      have hm := List.mem_of_getElem? hop
      have hall : c.all[vs.length]? = some (opD vs.length op) := by
        unfold Sc.all allOf
        rw [List.getElem?_append_left (by rw [opsD_length]; exact hn), opsD_get, hop]
        simp
      cases hi : op.isInp with
      | true =>
        cases op with
        | inp s =>
          have e := c_opIn (k := k) (ops := c.ops) (ins := ins) (outs := []) ok hall (hc.w _ hm) (by omega)
          cases ins with
          | nil => exact ⟨_, _, _, _, _, e, hr, .inl ⟨by omega, rfl, rfl⟩⟩
          | cons x r => exact ⟨_, _, _, _, _, e, ran_snoc hr hop (fun h => by cases h) mod_rng, .inl ⟨by omega, by simp, rfl⟩⟩
        | _ => simp [Op.isInp] at hi
      | false =>
        have e := c_opDo (k := k) (ins := ins) (outs := []) ok hall hi (ran_rng hr) (hc.g _ hm) (hc.w _ hm) (by omega)
        cases hd : doOp vs op with
        | none => rw [hd] at e; exact ⟨_, _, _, _, _, e, hr, .inl ⟨by omega, rfl, rfl⟩⟩
        | some v =>
          rw [hd] at e
          cases v with
          | none => exact ⟨_, _, _, _, _, e, hr, .inl ⟨by omega, rfl, rfl⟩⟩
          | some v => exact ⟨_, _, _, _, _, e, ran_snoc hr hop (fun _ => hd) (doOp_rng (ran_rng hr) hd), .inl ⟨by omega, by simp, rfl⟩⟩
    · have hn : vs.length = c.ops.length := by omega
      have hall : c.all[vs.length]? = some (prOp c.s (.v c.val)) := by
        unfold Sc.all allOf
        rw [List.getElem?_append_right (by rw [opsD_length]; omega), opsD_length, hn]
        simp
      have e := c_opPr (k := k) (vs := vs) (ins := ins) (outs := []) ok hall hc.s (by simp [lim])
      cases hv : valO vs (.v c.val) c.s with
      | none => rw [hv] at e; exact ⟨_, _, _, _, _, e, hr, .inl ⟨by omega, rfl, rfl⟩⟩
      | some v => rw [hv] at e; exact ⟨_, _, _, _, _, e, hr, .inr (.inl ⟨by omega, hn, v, rfl, hv⟩)⟩
  · subst h1 h3
    have hall : c.all[c.ops.length + 1]? = some (prOp c.s c.o) := by
      unfold Sc.all allOf
      rw [List.getElem?_append_right (by rw [opsD_length]; omega), opsD_length]
      simp
    have e := c_opPr (k := k) (vs := vs) (ins := ins) (outs := [a]) ok hall hc.s (by simp [lim])
    cases hv : valO vs c.o c.s with
    | none => rw [hv] at e; exact ⟨_, _, _, _, _, e, hr, .inr (.inl ⟨by omega, h2, a, rfl, h4⟩)⟩
    | some v => rw [hv] at e; exact ⟨_, _, _, _, _, e, hr, .inr (.inr ⟨by omega, h2, a, v, rfl, h4, hv⟩)⟩
  · omega
def turnB : List IS := [.asg (.nm 10) (.ix (.var 8) (.neg (.con (.int 1)))),
  .iff (.cmp .lt (.ix (.var 10) (.con (.int 2))) (.blt .len (.ix (.ix (.var 10) (.con (.int 1))) (.con (.int 2)))))
   [.asg (.nm 12) (.call 60 [.var 8, .var 6, .var 5, .var 3, .var 9])]
   [.asg (.nm 12) (.call 59 [.var 8, .var 6, .var 5])],
  .iff (.cmp .notn (.var 12) (.con .non))
   [.ret (.tup [.blt .tuple (.ix (.var 9) (.con (.int 1))), .var 12])]
   []]
def runE (mem : Mem) (x0 x1 x2 x4 x7 x10 x11 x12 : Option W) : Env := [x0, x1, x2, some (.r mem.length), x4, some (.d (.lst [])), some (.d (.lst [])), x7, some (.r (mem.length + 3)), some (.r (mem.length + 6)), x10, x11, x12]
theorem loop_run {k : Nat} {c : Sc} {mem : Mem} (hc : ScOk c) (ok : okM mem) {x0 x1 x2 x4 x11 : Option W} (its : List D) : ∀ (p : Nat) (vs : Vs) (ins outs : List Int) (x7 x10 x12 : Option W), Inv c p vs outs →
    (∃ (p' : Nat) (vs' : Vs) (ins' outs' : List Int) (x7' x10' x12' : Option W), loopF (fBody (callF tab (k + 7)) turnB) (.nm 7) its (runE mem x0 x1 x2 x4 x7 x10 x11 x12) (Ms mem c.all p vs [.r (mem.length + 2)] ins outs) = some ((.next, runE mem x0 x1 x2 x4 x7' x10' x11 x12'), Ms mem c.all p' vs' [.r (mem.length + 2)] ins' outs') ∧ Inv c p' vs' outs') ∨
    (∃ (r : D) (outs' : List Int) (env : Env) (p' : Nat) (vs' : Vs) (fr : List W) (ins' : List Int), loopF (fBody (callF tab (k + 7)) turnB) (.nm 7) its (runE mem x0 x1 x2 x4 x7 x10 x11 x12) (Ms mem c.all p vs [.r (mem.length + 2)] ins outs) = some ((.ret (.d (.tup [.tup (outs'.map .int), r])), env), Ms mem c.all p' vs' fr ins' outs') ∧ (outs'.length = 2 → GoodO c outs')) := by
  induction its with
  | nil => intro p vs ins outs x7 x10 x12 hI; exact .inl ⟨p, vs, ins, outs, x7, x10, x12, rfl, hI⟩
  | cons it its ih =>
    intro p vs ins outs x7 x10 x12 hI
    by_cases hp : p < c.ops.length + 2
    · obtain ⟨r, p', vs', ins', outs', e, hI'⟩ := c_step (k := k) (ins := ins) hc ok hI hp
      have hlt : decide ((p : Int) < c.all.length) = true := by rw [all_len]; simp; omega
      cases hn : isNon (.d r) with
      | true =>
        have : r = .non := by cases r <;> simp [isNon] at hn; rfl
        subst this
        have step : loopF (fBody (callF tab (k + 7)) turnB) (.nm 7) (it :: its) (runE mem x0 x1 x2 x4 x7 x10 x11 x12) (Ms mem c.all p vs [.r (mem.length + 2)] ins outs) = loopF (fBody (callF tab (k + 7)) turnB) (.nm 7) its (runE mem x0 x1 x2 x4 (some (.d it)) (some (.r (mem.length + 2))) x11 (some (.d .non))) (Ms mem c.all p' vs' [.r (mem.length + 2)] ins' outs') := by
          rw [loop_cons]
          unfold Ms at e ⊢
          unfold funD blkD runE turnB at *
          simp only [decide_eq_true_eq] at hlt
          simp [get4, get5, get6, blt_lenT, hlt, e]
        rw [step]
        exact ih p' vs' ins' outs' _ _ _ hI'
      | false =>
        refine .inr ⟨r, outs', [x0, x1, x2, some (.r mem.length), x4, some (.d (.lst [])), some (.d (.lst [])), some (.d it), some (.r (mem.length + 3)), some (.r (mem.length + 6)), some (.r (mem.length + 2)), x11, some (.d r)], p', vs', [.r (mem.length + 2)], ins', ?_, fun h2 => inv_good hI' h2⟩
        rw [loop_cons]
        unfold Ms at e ⊢
        unfold funD blkD runE turnB at *
        simp only [decide_eq_true_eq] at hlt
        simp [get4, get5, get6, blt_lenT, hlt, e, hn, blt_tupleR]
    · have hlt : decide ((p : Int) < c.all.length) = false := by rw [all_len]; simp; omega
      have e := c_ending (k := k + 4) (p := p) (all := c.all) (vs := vs) (ins := ins) (outs := outs) ok
      refine .inr ⟨.tup [.str [.value], .int 0], outs, [x0, x1, x2, some (.r mem.length), x4, some (.d (.lst [])), some (.d (.lst [])), some (.d it), some (.r (mem.length + 3)), some (.r (mem.length + 6)), some (.r (mem.length + 2)), x11, some (.d (.tup [.str [.value], .int 0]))], p, vs, [], ins, ?_, fun h2 => inv_good hI h2⟩
      rw [loop_cons]
      unfold Ms at e ⊢
      unfold funD blkD runE turnB at *
      simp only [decide_eq_false_iff_not] at hlt
      simp [get4, get5, get6, blt_lenT, hlt, e, blt_tupleR]
end Mi
end
section
/-! Me5: the whole run; what is shown. -/
namespace Mi
open PySem
theorem blt_listM {xs : List D} {mem : Mem} : bltW .listM (.d (.lst xs)) mem = some (.r mem.length, mem ++ [.lst xs]) := by unfold bltW; rfl
theorem ms0 {mem : Mem} {all : List D} {ins : List Int} : Ms mem all 0 [] [.r (mem.length + 2)] ins [] = mem ++ [.dct [(.s [.main], funD all)], .dct [], .obj [.d (funD all), .d (blkD all), .d (.int 0), .r (mem.length + 1), .d (.lst [])], .obj [.r (mem.length + 2)], .lst (ins.map .int), .lst [], .obj [.r (mem.length + 4), .r (mem.length + 5)]] := rfl
theorem shpT0 : shp (.tup []) = true := rfl
theorem c_run {k : Nat} {c : Sc} {mem : Mem} {ins : List Int} (hc : ScOk c) (ok : okM mem) : ∃ (outs : List Int) (r : D), callF tab (k + 8) 61 [.d (modD c.all), .d (.lst (ins.map .int)), .d (.int 60)] mem = some (.d (.tup [.tup (outs.map .int), r]), mem) ∧ (outs.length = 2 → GoodO c outs) := by
  have hI : Inv c 0 [] [] := ⟨ran_nil, .inl ⟨by omega, rfl, rfl⟩⟩
  have hfr := c_frame (k := k + 6) (all := c.all) (mem := mem ++ [.dct [(.s [.main], funD c.all)]])
  have hr60 : itemsV .range [IR.var 2] [.d (.int 60)] = some (rng 60) := it_rngE (i := 60) (by omega)
  have hlim : (0 : Nat) < lim := by unfold lim; omega
  have hp0 : putD [] (.s [.main]) (funD c.all) = [(.s [.main], funD c.all)] := rfl
  rcases loop_run (k := k) (x0 := some (.d (modD c.all))) (x1 := some (.d (.lst (ins.map .int)))) (x2 := some (.d (.int 60))) (x4 := some (.d (funD c.all))) (x11 := none) hc ok (rng 60) 0 [] ins [] none none none hI with ⟨p', vs', ins', outs', x7', x10', x12', e, hI'⟩ | ⟨r, outs', env, p', vs', fr, ins', e, hg⟩
  · refine ⟨outs', .non, ?_, fun h2 => inv_good hI' h2⟩
    refine call_new (new := [.dct [(.s [.main], funD c.all)], .dct (envD 0 vs'), .obj [.d (funD c.all), .d (blkD c.all), .d (.int p'), .r (mem.length + 1), .d (.lst [])], .obj [.r (mem.length + 2)], .lst (ins'.map .int), .lst (outs'.map .int), .obj [.r (mem.length + 4), .r (mem.length + 5)]]) (w := .d (.tup [.tup (outs'.map .int), .non])) ok rfl rfl rfl ?_ rfl
    rw [ms0] at e
    unfold Ms at e
    unfold turnB runE at e
    unfold modD funD blkD at *
    simp at hfr e
    rw [show mem.length + 1 + 1 = mem.length + 2 from rfl] at hfr
    simp [body, fn__law_run, funD, hlim, hp0, hfr, blt_listM, hr60, lk_cons, shpT0]
    rw [e]
    simp [get5, get6, blt_tupleR]
  · refine ⟨outs', r, ?_, hg⟩
    refine call_new (new := [.dct [(.s [.main], funD c.all)], .dct (envD 0 vs'), .obj [.d (funD c.all), .d (blkD c.all), .d (.int p'), .r (mem.length + 1), .d (.lst [])], .obj fr, .lst (ins'.map .int), .lst (outs'.map .int), .obj [.r (mem.length + 4), .r (mem.length + 5)]]) (w := .d (.tup [.tup (outs'.map .int), r])) ok rfl rfl rfl ?_ rfl
    rw [ms0] at e
    unfold Ms at e
    unfold turnB runE at e
    unfold modD funD blkD at *
    simp at hfr e
    rw [show mem.length + 1 + 1 = mem.length + 2 from rfl] at hfr
    simp [body, fn__law_run, funD, hlim, hp0, hfr, blt_listM, hr60, lk_cons, shpT0]
    rw [e]
    simp
theorem c_shows {k : Nat} {c : Sc} {mem : Mem} (ok : okM mem) (hv : lkD (typK 0 c.ops) (.i (c.val : Int)) = some (.int c.s)) (hl : c.ops.length < 1000) : callF tab (k + 1) 81 [.d (funD (opsD 0 c.ops)), .d (.dct (typK 0 c.ops)), .d (.int c.val), .d c.o.D] mem = some (.d (funD c.all), mem) := by
  have hlen : (opsD 0 c.ops).length + 2 < lim := by rw [opsD_length]; unfold lim; omega
  have h0 : (0 : Nat) < lim := by unfold lim; omega
  have h1 : (1 : Nat) < lim := by unfold lim; omega
  have hb : ∀ xs ys : List D, xs.length + ys.length < lim → binW .add (.d (.tup xs)) (.d (.tup ys)) = some (.d (.tup (xs ++ ys))) := fun xs ys h => if_pos h
  have hb2 := hb (opsD 0 c.ops) [prOp c.s (.v c.val), prOp c.s c.o] (by simpa using hlen)
  refine call_new (new := [.lst [prOp c.s (.v c.val), prOp c.s c.o]]) (w := .d (funD c.all)) ok rfl rfl rfl ?_ rfl
  unfold Sc.all allOf
  unfold prOp Opr.D at *
  simp at hb2
  simp [body, fn__law_shows, funD, hv, mthTy, mAppend, h0, h1, blt_tupleR, hb2]
end Mi
end
section
/-! Me6: where a rule fits, the machine shows the same number twice. -/
namespace Mi
open PySem
def NC (ops : List Op) : Prop := ∀ (i j : Nat) (o : Ca) (lo hi : Nat) (o' : Ca) (lo' hi' : Nat) (x : Opr), ops[i]? = some (.cast o lo hi (.v j)) → ops[j]? = some (.cast o' lo' hi' x) → lo' ≤ hi' ∨ hi ≤ hi'
def Lm (vs : Vs) (B : Ls) : Lv := fun l s x => ∃ o, lk B l = some (o, s) ∧ valO vs o s = some x
def Vals (vs : Vs) (B : Ls) : Prop := ∀ l o s, lk B l = some (o, s) → ∃ x, valO vs o s = some x
def SubL (B B' : Ls) : Prop := ∀ l e, lk B l = some e → lk B' l = some e
theorem lok {vs : Vs} {B : Ls} (hr : Rng vs) (ok : LsOk B) : LOk (Lm vs B) := by
  refine ⟨?_, ?_, ?_⟩
  · rintro l s v s' v' ⟨o, h1, h2⟩ ⟨o', h3, h4⟩
    rw [h1] at h3
    simp at h3
    obtain ⟨rfl, rfl⟩ := h3
    rw [h2] at h4
    simp at h4
    exact ⟨rfl, h4.symm⟩
  · rintro l s v ⟨o, h1, h2⟩
    exact ⟨(ok.good _ (lk_mem h1)).2.2, valO_rng hr h2⟩
  · rintro s v ⟨o, h1, h2⟩
    have ht := (ok.good _ (lk_mem h1)).1
    cases o with
    | v j => simp [takesB] at ht
    | n i =>
      simp only [takesB] at ht
      obtain ⟨k, _, rfl⟩ := isPow_iff.mp ht
      simp only [valO] at h2
      split at h2
      · simp at h2; exact ⟨k, h2.symm⟩
      · cases h2
theorem valO_v {vs : Vs} {j s : Nat} {x : Int} (h : valO vs (.v j) s = some x) : vs[j]? = some (s, x) := by
  simp only [valO] at h
  split at h
  · next e he =>
    split at h
    · next hs => simp at h; subst h hs; exact he
    · cases h
  · cases h
theorem w_bin {o : Bo} {F : Fm} {x y : Fm} (hF : F = .bin o x y) {op : Op} (h : op.wd = some F.w) : ∃ s a b, op = .bin o s a b := by
  subst hF
  cases op with
  | inp s => simp [Op.wd] at h
  | bin o' s a b => refine ⟨s, a, b, ?_⟩; cases o <;> cases o' <;> simp [Op.wd, Fm.w, Bo.w] at h ⊢
  | cmp o' s a b => cases o <;> cases o' <;> simp [Op.wd, Fm.w, Bo.w, Co.w] at h
  | sel s c a b => cases o <;> simp [Op.wd, Fm.w, Bo.w] at h
  | cast o' lo hi a => cases o <;> cases o' <;> simp [Op.wd, Fm.w, Bo.w, Ca.w] at h
theorem w_cmp {o : Co} {F : Fm} {x y : Fm} (hF : F = .cmp o x y) {op : Op} (h : op.wd = some F.w) : ∃ s a b, op = .cmp o s a b := by
  subst hF
  cases op with
  | inp s => simp [Op.wd] at h
  | bin o' s a b => cases o <;> cases o' <;> simp [Op.wd, Fm.w, Bo.w, Co.w] at h
  | cmp o' s a b => refine ⟨s, a, b, ?_⟩; cases o <;> cases o' <;> simp [Op.wd, Fm.w, Co.w] at h ⊢
  | sel s c a b => cases o <;> simp [Op.wd, Fm.w, Co.w] at h
  | cast o' lo hi a => cases o <;> cases o' <;> simp [Op.wd, Fm.w, Co.w, Ca.w] at h
theorem w_cast {o : Ca} {F : Fm} {x : Fm} (hF : F = .cast o x) {op : Op} (h : op.wd = some F.w) : ∃ lo hi a, op = .cast o lo hi a := by
  subst hF
  cases op with
  | inp s => simp [Op.wd] at h
  | bin o' s a b => cases o <;> cases o' <;> simp [Op.wd, Fm.w, Bo.w, Ca.w] at h
  | cmp o' s a b => cases o <;> cases o' <;> simp [Op.wd, Fm.w, Co.w, Ca.w] at h
  | sel s c a b => cases o <;> simp [Op.wd, Fm.w, Ca.w] at h
  | cast o' lo hi a => refine ⟨lo, hi, a, ?_⟩; cases o <;> cases o' <;> simp [Op.wd, Fm.w, Ca.w] at h ⊢
theorem w_sel {F : Fm} {c x y : Fm} (hF : F = .sel c x y) {op : Op} (h : op.wd = some F.w) : ∃ s z a b, op = .sel s z a b := by
  subst hF
  cases op with
  | inp s => simp [Op.wd] at h
  | bin o' s a b => cases o' <;> simp [Op.wd, Fm.w, Bo.w] at h
  | cmp o' s a b => cases o' <;> simp [Op.wd, Fm.w, Co.w] at h
  | sel s c a b => exact ⟨s, c, a, b, rfl⟩
  | cast o' lo hi a => cases o' <;> simp [Op.wd, Fm.w, Ca.w] at h
theorem w_nolog {F : Fm} {x : Fm} (hF : F = .log x) {op : Op} (h : op.wd = some F.w) : False := by
  subst hF
  cases op with
  | inp s => simp [Op.wd] at h
  | bin o' s a b => cases o' <;> simp [Op.wd, Fm.w, Bo.w] at h
  | cmp o' s a b => cases o' <;> simp [Op.wd, Fm.w, Co.w] at h
  | sel s c a b => simp [Op.wd, Fm.w] at h
  | cast o' lo hi a => cases o' <;> simp [Op.wd, Fm.w, Ca.w] at h
theorem w_nomade {F : Fm} {o : Mk} {x y : Fm} (hF : F = .made o x y) {op : Op} (h : op.wd = some F.w) : False := by
  subst hF
  cases op with
  | inp s => simp [Op.wd] at h
  | bin o' s a b => cases o <;> cases o' <;> simp [Op.wd, Fm.w, Bo.w, Mk.w] at h
  | cmp o' s a b => cases o <;> cases o' <;> simp [Op.wd, Fm.w, Co.w, Mk.w] at h
  | sel s c a b => cases o <;> simp [Op.wd, Fm.w, Mk.w] at h
  | cast o' lo hi a => cases o <;> cases o' <;> simp [Op.wd, Fm.w, Ca.w, Mk.w] at h
theorem bind2 {f g : Ls → Option Ls} {B B1 : Ls} (h : (f B).bind g = some B1) : ∃ B2, f B = some B2 ∧ g B2 = some B1 := by
  cases hf : f B with
  | none => rw [hf] at h; cases h
  | some B2 => rw [hf] at h; exact ⟨B2, rfl, h⟩
section
variable {ops : List Op} {vs : Vs} {Bf : Ls}
/-- an argument of a left side -/
def Qa (ops : List Op) (vs : Vs) (Bf : Ls) (n : Nat) : Prop := ∀ (F : Fm) (o : Opr) (s : Nat) (B B1 : Ls) (x : Int), gO o → wOk s → LsOk B → Vals vs B → mA ops n F o s B = some B1 → SubL B1 Bf → valO vs o s = some x → Ev (Lm vs Bf) F s x ∧ Vals vs B1
def Qo (ops : List Op) (vs : Vs) (Bf : Ls) (n : Nat) : Prop := ∀ (F : Fm) (i : Nat) (op : Op) (s : Nat) (B B1 : Ls) (x : Int), ops[i]? = some op → vs[i]? = some (s, x) → LsOk B → Vals vs B → F.isLt = false → (∀ s, numL s F = none) → mO ops n F op B = some B1 → SubL B1 Bf → Ev (Lm vs Bf) F s x ∧ Vals vs B1
theorem sub_of {B B1 : Ls} {ls : List Lt} (h : Grows B B1 ls) (hs : SubL B1 Bf) : SubL B Bf := fun l e he => hs l e (h.2.1 l e he)
theorem castEv {o : Ca} {F : Fm} {s lo : Nat} {a x : Int} {L : Lv} (hF : ∀ o' y, F ≠ .cast o' y) (hl : wOk lo) (h : Ev L F lo a) (e : x = castI o lo s a) : Ev L (.cast o F) s x := by
  cases F with
  | cast o' y => exact absurd rfl (hF o' y)
  | _ => exact ⟨lo, a, hl, h, e⟩
theorem stepO (g : gOps ops) (hran : Ran ops vs) (nc : NC ops) (n : Nat) (ih : ∀ m, m ≤ n → Qa ops vs Bf m) : Qo ops vs Bf n := by
  intro F i op s B B1 x hi hv hB hVB hlt hnum h hs
  unfold mO at h
  split at h
  · next hw =>
    obtain ⟨op', h1, h2, h3, h4⟩ := hran i _ hv
    rw [hi] at h1
    simp only [Option.some.injEq] at h1
    subst h1
    have hg := gOp_of g hi
    simp only at h2
    subst h2
    cases hF : F with
    | lt l => rw [hF] at hlt; simp [Fm.isLt] at hlt
    | k0 => have := hnum 0; rw [hF] at this; simp [numL] at this
    | k1 => have := hnum 0; rw [hF] at this; simp [numL] at this
    | km1 => have := hnum 0; rw [hF] at this; simp [numL] at this
    | log y => exact (w_nolog hF hw).elim
    | made o y z => exact (w_nomade hF hw).elim
    | bin o y z =>
      obtain ⟨s, a, b, rfl⟩ := w_bin hF hw
      have hd := h3 rfl
      subst hF
      have hgs := hg.2 s (by simp [Op.asked])
      have ha := hg.1 a (by simp [Op.args])
      have hb := hg.1 b (by simp [Op.args])
      cases e1 : valO vs a s <;> cases e2 : valO vs b s <;> simp [doOp, e1, e2] at hd
      simp only [Fm.kids, Op.args, Op.asked, foldM] at h
      obtain ⟨B2, m1, h⟩ := bind2 h
      obtain ⟨B3, m2, h⟩ := bind2 h
      simp at h
      subst h
      have g1 := mA_grows g n _ _ _ _ _ ha hgs hB m1
      have g2 := mA_grows g n _ _ _ _ _ hb hgs g1.1 m2
      obtain ⟨v1, q1⟩ := ih n (Nat.le_refl _) _ _ _ _ _ _ ha hgs hB hVB m1 (sub_of g2 hs) e1
      obtain ⟨v2, q2⟩ := ih n (Nat.le_refl _) _ _ _ _ _ _ hb hgs g1.1 q1 m2 hs e2
      exact ⟨⟨_, _, v1, v2, hd⟩, q2⟩
    | cmp o y z =>
      obtain ⟨s, a, b, rfl⟩ := w_cmp hF hw
      have hd := h3 rfl
      subst hF
      have hgs := hg.2 s (by simp [Op.asked])
      have ha := hg.1 a (by simp [Op.args])
      have hb := hg.1 b (by simp [Op.args])
      cases e1 : valO vs a s <;> cases e2 : valO vs b s <;> simp [doOp, e1, e2] at hd
      simp only [Fm.kids, Op.args, Op.asked, foldM] at h
      obtain ⟨B2, m1, h⟩ := bind2 h
      obtain ⟨B3, m2, h⟩ := bind2 h
      simp at h
      subst h
      have g1 := mA_grows g n _ _ _ _ _ ha hgs hB m1
      have g2 := mA_grows g n _ _ _ _ _ hb hgs g1.1 m2
      obtain ⟨v1, q1⟩ := ih n (Nat.le_refl _) _ _ _ _ _ _ ha hgs hB hVB m1 (sub_of g2 hs) e1
      obtain ⟨v2, q2⟩ := ih n (Nat.le_refl _) _ _ _ _ _ _ hb hgs g1.1 q1 m2 hs e2
      exact ⟨⟨rfl, s, _, _, hgs, v1, v2, hd.symm⟩, q2⟩
    | sel c y z =>
      obtain ⟨s, t, a, b, rfl⟩ := w_sel hF hw
      have hd := h3 rfl
      subst hF
      have hgs := hg.2 s (by simp [Op.asked])
      have hg1 := hg.2 1 (by simp [Op.asked])
      have ht := hg.1 t (by simp [Op.args])
      have ha := hg.1 a (by simp [Op.args])
      have hb := hg.1 b (by simp [Op.args])
      cases e0 : valO vs t 1 <;> cases e1 : valO vs a s <;> cases e2 : valO vs b s <;> simp [doOp, e0, e1, e2] at hd
      simp only [Fm.kids, Op.args, Op.asked, foldM] at h
      obtain ⟨B2, m0, h⟩ := bind2 h
      obtain ⟨B3, m1, h⟩ := bind2 h
      obtain ⟨B4, m2, h⟩ := bind2 h
      simp at h
      subst h
      have g0 := mA_grows g n _ _ _ _ _ ht hg1 hB m0
      have g1 := mA_grows g n _ _ _ _ _ ha hgs g0.1 m1
      have g2 := mA_grows g n _ _ _ _ _ hb hgs g1.1 m2
      obtain ⟨v0, q0⟩ := ih n (Nat.le_refl _) _ _ _ _ _ _ ht hg1 hB hVB m0 (sub_of g1 (sub_of g2 hs)) e0
      obtain ⟨v1, q1⟩ := ih n (Nat.le_refl _) _ _ _ _ _ _ ha hgs g0.1 q0 m1 (sub_of g2 hs) e1
      obtain ⟨v2, q2⟩ := ih n (Nat.le_refl _) _ _ _ _ _ _ hb hgs g1.1 q1 m2 hs e2
      exact ⟨⟨_, _, _, v0, v1, v2, hd.symm⟩, q2⟩
    | cast o y =>
      obtain ⟨lo, hi', a, rfl⟩ := w_cast hF hw
      have hd := h3 rfl
      subst hF
      have hgs := hg.2 lo (by simp [Op.asked])
      have ha := hg.1 a (by simp [Op.args])
      cases e1 : valO vs a lo <;> simp [doOp, e1] at hd
      rename_i a1
      simp only [Fm.kids, Op.args, Op.asked, foldM] at h
      obtain ⟨B2, m1, h⟩ := bind2 h
      simp at h
      subst h
      by_cases hc : ∃ o' z, y = .cast o' z
      · obtain ⟨o', z, rfl⟩ := hc
        cases n with
        | zero => simp [mA] at m1
        | succ m =>
          have hq := (ih (m + 1) (Nat.le_refl _) _ _ _ _ _ _ ha hgs hB hVB m1 hs e1).2
          rw [mA_other rfl rfl] at m1
          cases a with
          | n q => simp [subO] at m1
          | v j =>
            simp only [subO] at m1
            cases hj : ops[j]? with
            | none => rw [hj] at m1; cases m1
            | some op2 =>
              rw [hj] at m1
              simp only [mO] at m1
              split at m1
              · next hw2 =>
                obtain ⟨lo2, hi2, a2, rfl⟩ := w_cast rfl hw2
                have hvj := valO_v e1
                obtain ⟨op3, k1, k2, k3, k4⟩ := hran j _ hvj
                rw [hj] at k1
                simp only [Option.some.injEq] at k1
                subst k1
                simp only [Op.made] at k2
                subst k2
                have hd2 := k3 rfl
                have hg2 := gOp_of g hj
                have hgs2 := hg2.2 lo2 (by simp [Op.asked])
                have ha2 := hg2.1 a2 (by simp [Op.args])
                cases e2 : valO vs a2 lo2 <;> simp [doOp, e2] at hd2
                rename_i a3
                simp only [Fm.kids, Op.args, Op.asked, foldM] at m1
                obtain ⟨B3, m2, m3⟩ := bind2 m1
                simp at m3
                subst m3
                obtain ⟨v1, q1⟩ := ih m (by omega) _ _ _ _ _ _ ha2 hgs2 hB hVB m2 hs e2
                exact ⟨⟨lo2, _, a3, hgs, v1, nc i j _ _ _ _ _ _ _ hi hj, by rw [← hd, ← hd2]; rfl⟩, hq⟩
              · cases m1
      · obtain ⟨v1, q1⟩ := ih n (Nat.le_refl _) _ _ _ _ _ _ ha hgs hB hVB m1 hs e1
        exact ⟨castEv (fun o' z e => hc ⟨o', z, e⟩) hgs v1 hd.symm, q1⟩
  · cases h
theorem left_ev (g : gOps ops) (hran : Ran ops vs) (nc : NC ops) : ∀ n, (∀ m, m ≤ n → Qa ops vs Bf m) := by
  intro n
  induction n with
  | zero =>
    intro m hm F o s B B1 x _ _ _ _ h _ _
    have : m = 0 := by omega
    subst this
    simp [mA] at h
  | succ n ih =>
    intro m hm
    by_cases hmn : m ≤ n
    · exact ih m hmn
    have : m = n + 1 := by omega
    subst this
    intro F o s B B1 x ho hs hB hVB h hsub hx
    rcases kind3 F with ⟨l, rfl⟩ | h1 | ⟨h1, h2⟩
    · have hl : lk B1 l = some (o, s) ∧ Vals vs B1 := by
        simp only [mA] at h
        split at h
        · cases hb : lk B l with
          | some e =>
            simp only [hb] at h
            split at h
            · next he => simp at h; subst h he; exact ⟨hb, hVB⟩
            · cases h
          | none =>
            simp only [hb, Option.some.injEq] at h
            subst h
            refine ⟨by rw [lk_app hb, if_pos rfl], ?_⟩
            intro l' o' s' he
            rw [lk_app hb] at he
            split at he
            · simp at he; obtain ⟨rfl, rfl⟩ := he; exact ⟨x, hx⟩
            · exact hVB l' o' s' he
        · cases h
      exact ⟨⟨o, hsub l _ hl.1, hx⟩, hl.2⟩
    · cases hn : numL s F with
      | none => exact absurd hn (h1 s)
      | some i =>
        rw [mA_num hn] at h
        split at h
        · next ho' =>
          simp at h
          subst h ho'
          simp only [valO] at hx
          split at hx
          · simp at hx
            subst hx
            refine ⟨?_, hVB⟩
            cases F <;> simp [numL] at hn <;> subst hn
            · rfl
            · rfl
            · have := Nat.pow_pos (n := s) (show 0 < 2 by decide)
              show ((2 ^ s - 1 : Nat) : Int) = 2 ^ s - 1
              rw [pow_cast]; omega
          · cases hx
        · cases h
    · rw [mA_other h1 (h2 s)] at h
      cases o with
      | n i => simp [subO] at h
      | v j =>
        cases hq : ops[j]? with
        | none => simp [subO, hq] at h
        | some op =>
          simp only [subO, hq] at h
          exact stepO g hran nc n ih F j op s B B1 x hq (valO_v hx) hB hVB h1 h2 h hsub
end
end Mi
end
section
/-! Me7: the right side; soundness of a rule that fits. -/
namespace Mi
open PySem
def flatR : Fm → Bool
  | .cast _ (.lt _) => true
  | .cast .. => false
  | .bin _ x y => flatR x && flatR y
  | .cmp _ x y => flatR x && flatR y
  | _ => true
theorem rules_flatR : ∀ r, r ∈ rules → flatR r.2 = true := by decide
theorem nv_of {vs : Vs} {Bf : Ls} {s : Nat} (hV : Vals vs Bf) (F : Fm) (h : nOk Bf s F) : Nv (Lm vs Bf) F s (num Bf s F) := by
  induction F with
  | lt l =>
    obtain ⟨i, s', hl⟩ := h
    obtain ⟨x, hx⟩ := hV l _ _ hl
    have hx' := hx
    simp only [valO] at hx'
    split at hx'
    · simp at hx'
      subst hx'
      refine ⟨s', .n i, hl, ?_⟩
      have : num Bf s (.lt l) = (i : Int) := by simp [num, hl]
      rw [this]
      exact hx
    · cases hx'
  | k0 => rfl
  | k1 => rfl
  | km1 => rfl
  | log x ih =>
    obtain ⟨h1, j, hj, e⟩ := h
    refine ⟨j, ?_, by rw [← e]; exact ih h1⟩
    simp only [num, e, toNat_pow, log2_pow]
  | made o x y ihx ihy => exact ⟨_, _, ihx h.1, ihy h.2.1, told_mk⟩
  | _ => exact h.elim
theorem right_ev {ops : List Op} {vs : Vs} {Bf : Ls} (g : gOps ops) (hran : Ran ops vs) (hV : Vals vs Bf) : ∀ (n : Nat) (F : Fm) (o : Opr) (s : Nat) (x : Int), wOk s → rOk Bf F → flatR F = true → mR ops Bf n F o s = true → valO vs o s = some x → Ev (Lm vs Bf) F s x := by
  intro n
  induction n with
  | zero => intro F o s x _ _ _ h _; simp [mR] at h
  | succ n ih =>
    intro F o s x hs hr hf h hx
    cases hl : F.isLt with
    | true =>
      cases F with
      | lt l => simp [mR] at h; exact ⟨o, h, hx⟩
      | _ => simp [Fm.isLt] at hl
    | false =>
      cases hn : F.isNum with
      | true =>
        have hm : mR ops Bf (n + 1) F o s = oprN o (num Bf s F) := by cases F <;> first | (simp [Fm.isNum] at hn; done) | rfl
        rw [hm] at h
        have hv := nv_of hV F (rOk_num hn hr hs)
        cases o with
        | v j => simp [oprN] at h
        | n i =>
          simp [oprN] at h
          simp only [valO] at hx
          split at hx
          · simp at hx
            rw [h] at hx
            subst hx
            cases F <;> first | (simp [Fm.isNum] at hn; done) | exact hv
          · cases hx
      | false =>
        rw [mR_other hl hn] at h
        cases o with
        | n i => simp [subR] at h
        | v j =>
          cases hj : ops[j]? with
          | none => simp [subR, hj] at h
          | some op =>
            simp only [subR, hj] at h
            split at h
            · next hw =>
              simp only [Bool.and_eq_true, decide_eq_true_eq] at h
              obtain ⟨hm, h⟩ := h
              have hvj := valO_v hx
              obtain ⟨op', h1, h2, h3, h4⟩ := hran j _ hvj
              rw [hj] at h1
              simp only [Option.some.injEq] at h1
              subst h1 hm
              have hg := gOp_of g hj
              cases hF : F with
              | lt l => rw [hF] at hl; simp [Fm.isLt] at hl
              | k0 => rw [hF] at hn; simp [Fm.isNum] at hn
              | k1 => rw [hF] at hn; simp [Fm.isNum] at hn
              | km1 => rw [hF] at hn; simp [Fm.isNum] at hn
              | log y => exact (w_nolog hF hw).elim
              | made o y z => exact (w_nomade hF hw).elim
              | sel c y z => exact absurd (by rw [hF]; rfl) (rOk_sel hr)
              | bin o y z =>
                obtain ⟨s, a, b, rfl⟩ := w_bin hF hw
                have hd := h3 rfl
                subst hF
                have hgs := hg.2 s (by simp [Op.asked])
                simp only [flatR, Bool.and_eq_true] at hf
                cases e1 : valO vs a s <;> cases e2 : valO vs b s <;> simp [doOp, e1, e2] at hd
                simp [Fm.kids, Op.args, Op.asked, allM] at h
                exact ⟨_, _, ih _ _ _ _ hgs hr.1 hf.1 h.1 e1, ih _ _ _ _ hgs hr.2 hf.2 h.2 e2, hd⟩
              | cmp o y z =>
                obtain ⟨s, a, b, rfl⟩ := w_cmp hF hw
                have hd := h3 rfl
                subst hF
                have hgs := hg.2 s (by simp [Op.asked])
                simp only [flatR, Bool.and_eq_true] at hf
                cases e1 : valO vs a s <;> cases e2 : valO vs b s <;> simp [doOp, e1, e2] at hd
                simp [Fm.kids, Op.args, Op.asked, allM] at h
                exact ⟨rfl, s, _, _, hgs, ih _ _ _ _ hgs hr.1 hf.1 h.1 e1, ih _ _ _ _ hgs hr.2 hf.2 h.2 e2, hd.symm⟩
              | cast o y =>
                obtain ⟨lo, hi', a, rfl⟩ := w_cast hF hw
                have hd := h3 rfl
                subst hF
                have hgs := hg.2 lo (by simp [Op.asked])
                cases y with
                | lt l =>
                  cases e1 : valO vs a lo <;> simp [doOp, e1] at hd
                  simp [Fm.kids, Op.args, Op.asked, allM] at h
                  exact ⟨lo, _, hgs, ih _ _ _ _ hgs hr rfl h e1, hd.symm⟩
                | _ => simp [flatR] at hf
            · cases h
theorem sound {c : Sc} {outs : List Int} {r : Fm × Fm} (hc : ScOk c) (nc : NC c.ops) (hr : r ∈ rules) (hs : c.s = madeAt c.ops c.val) (hf : fitsB c.ops r c.val c.o = true) (hg : GoodO c outs) : ∃ a, outs = [a, a] := by
  obtain ⟨vs, a, b, hlen, hran, rfl, ha, hb⟩ := hg
  unfold fitsB at hf
  cases hb2 : boundL c.ops r c.val with
  | none => rw [hb2] at hf; cases hf
  | some L =>
    rw [hb2] at hf
    simp only at hf
    obtain ⟨op, hv, hp, hm, hL, hR⟩ := bound_ok hc.g hr hb2
    have hmd : madeAt c.ops c.val = op.made := by simp [madeAt, hv]
    have hw : wOk op.made := hc.w _ (List.mem_of_getElem? hv)
    rw [hs, hmd] at ha hb
    rw [hmd] at hf
    obtain ⟨f1, f2, f3⟩ := rules_okR r hr
    have hvv := valO_v ha
    have hnum : ∀ s, numL s r.1 = none := by
      intro s
      cases hn : numL s r.1 with
      | none => rfl
      | some i =>
        unfold mO at hm
        split at hm
        · next hwd =>
          obtain ⟨_, _, _, _, hw3, _⟩ := num_numL (B := []) hn
          rcases hw3 with h | h | h <;> rw [h] at hwd <;> cases op <;> simp [Op.wd] at hwd <;> (try (rename_i o _ _ _; cases o <;> simp [Bo.w, Co.w, Ca.w] at hwd))
        · cases hm
    obtain ⟨h1, h2⟩ := stepO (Bf := L) hc.g hran nc 2 (left_ev hc.g hran nc 2) r.1 c.val op op.made [] L a hv hvv lsOk_nil (by intro l o s h; simp [lk] at h) f2 hnum hm (fun _ _ h => h)
    have h3 := right_ev hc.g hran h2 3 r.2 c.o op.made b hw hR (rules_flatR r hr) hf hb
    have h4 := rules_keep r hr (lok (ran_rng hran) hL) hw h1 h3
    subst h4
    exact ⟨a, rfl⟩
end Mi
end
section
/-! Mf1: the deal: what is drawn. -/
namespace Mi
open PySem
def DM (L : List Int) (bl : Int) (rest : Mem) : Mem := .lst (L.map .int) :: .obj [.r 0, .d (.int bl)] :: rest
structure DOk (L : List Int) (bl : Int) : Prop where
  len : L.length ≤ 90
  nn : ∀ x, x ∈ L → 0 ≤ x
  bl : 0 ≤ bl ∧ bl < 2147483647
def anyC : IR := .andL [.cmp .ne (.ix (.var 0) (.con (.int 0))) (.lstF []), .cmp .eq (.ix (.ix (.var 0) (.con (.int 0))) (.neg (.con (.int 1)))) (.con (.int 0))]
theorem any_while {cl : Cl} {bl : Int} {rest : Mem} {x1 x2 : Option W} : ∀ (n : Nat) (L : List Int), L.length < n → ∃ L', loopW (fun env mem => evE cl anyC env mem) (fun env mem => evSs cl [.expr (.meth .pop (.ix (.var 0) (.con (.int 0))) [])] env mem) n [some (.r 1), x1, x2] (DM L bl rest) = some ((.next, [some (.r 1), x1, x2]), DM L' bl rest) ∧ L'.length ≤ L.length ∧ (∀ x, x ∈ L' → x ∈ L) := by
  intro n
  induction n with
  | zero => intro L h; omega
  | succ n ih =>
    intro L h
    rcases List.eq_nil_or_concat L with rfl | ⟨P, x, rfl⟩
    · refine ⟨[], ?_, by simp, by simp⟩
      simp [loopW, anyC, DM, eq_rl]
    · simp at h
      have hne : (P.map D.int ++ [D.int x]).isEmpty = false := by simp
      have hlast : L2.atI (P.map D.int ++ [D.int x]) (-1) = some (.int x) := atI_last
      by_cases hx : x = 0
      · subst hx
        obtain ⟨L', e, h1, h2⟩ := ih P (by omega)
        refine ⟨L', ?_, by simp; omega, fun y hy => by simp [h2 y hy]⟩
        simp [anyC, DM] at e
        simp [loopW, anyC, DM, eq_rl, hlast, mthTy, mPop]
        exact e
      · refine ⟨P ++ [x], ?_, by simp, by simp⟩
        simp [loopW, anyC, DM, eq_rl, hlast, hx]
theorem emod_nat {x : Int} {b : Nat} (hb : 0 < b) : ∃ r : Nat, r < b ∧ x % (b : Int) = r := by
  have h1 := Int.emod_nonneg x (b := b) (by omega)
  have h2 := Int.emod_lt_of_pos x (b := b) (by omega)
  exact ⟨(x % b).toNat, by omega, by omega⟩
theorem okDM {L : List Int} {bl : Int} {rest : Mem} (h : rest.all (inC (rest.length + 2)) = true) : okM (DM L bl rest) := by
  unfold okM DM
  simp [inC]
  rw [List.all_eq_true] at h
  intro x hx
  exact h x hx
theorem c_any {k b : Nat} {L : List Int} {bl : Int} {rest : Mem} (hd : DOk L bl) (hr : rest.all (inC (rest.length + 2)) = true) (hb : 0 < b) (hb' : b ≤ 18446744073709551616) : ∃ (L' : List Int) (bl' : Int) (r : Nat), callF tab (k + 1) 42 [.r 1, .d (.int b)] (DM L bl rest) = some (.d (.int r), DM L' bl' rest) ∧ r < b ∧ DOk L' bl' := by
  obtain ⟨L1, e, h1, h2⟩ := any_while (cl := callF tab k) (bl := bl) (rest := rest) (x1 := some (.d (.int b))) (x2 := none) 100 L (by have := hd.len; omega)
  have hb0 : (0 : Int) < b := by omega
  have hb1 : (b : Int) ≤ 18446744073709551616 := by omega
  unfold anyC at e
  simp only [ess_cons] at e
  rcases List.eq_nil_or_concat L1 with rfl | ⟨P, x, rfl⟩
  · obtain ⟨r, hr1, hr2⟩ := emod_nat (x := (bl * 40693 + 71) % 2147483647 / 64) hb
    have hm1 : binW .mul (.d (.int bl)) (.d (.int 40693)) = some (.d (.int (bl * 40693))) := b_mul (.inr ⟨by omega, by omega⟩)
    have hm2 : binW .mod (.d (.int (bl * 40693 + 71))) (.d (.int 2147483647)) = some (.d (.int ((bl * 40693 + 71) % 2147483647))) := b_mod (by omega)
    have hm3 : binW .fdiv (.d (.int ((bl * 40693 + 71) % 2147483647))) (.d (.int 64)) = some (.d (.int ((bl * 40693 + 71) % 2147483647 / 64))) := b_fdiv (by omega) (by omega)
    have hm4 : binW .mod (.d (.int ((bl * 40693 + 71) % 2147483647 / 64))) (.d (.int b)) = some (.d (.int r)) := by rw [b_mod hb0, hr2]
    refine ⟨[], (bl * 40693 + 71) % 2147483647, r, ?_, hr1, ⟨by simp, by simp, Int.emod_nonneg _ (by omega), Int.emod_lt_of_pos _ (by omega)⟩⟩
    refine call_upd rfl (okDM hr) rfl rfl rfl ?_
    simp only [body, fn__law_any]
    simp only [List.map_cons, List.map_nil, List.replicate, List.cons_append, List.nil_append, Nat.reduceSub, ess_cons, es_whil]
    rw [e]
    simp [DM, eq_rl, hm1, hm2, hm3, hm4, blt_int, show L2.ixN 2 1 = some 1 from rfl]
  · simp only [List.concat_eq_append] at *
    obtain ⟨r, hr1, hr2⟩ := emod_nat (x := x) hb
    have hx : 0 ≤ x := hd.nn x (h2 x (by simp))
    have hm1 : binW .fdiv (.d (.int x)) (.d (.int b)) = some (.d (.int (x / b))) := b_fdiv hb0 hb1
    have hm2 : binW .mod (.d (.int x)) (.d (.int b)) = some (.d (.int r)) := by rw [b_mod hb0, hr2]
    have hlen : P.length < lim := by have := hd.len; simp at h1; unfold lim; omega
    refine ⟨P ++ [x / b], bl, r, ?_, hr1, ⟨by have := hd.len; simp at h1 ⊢; omega, ?_, hd.bl⟩⟩
    · refine call_upd rfl (okDM hr) rfl rfl rfl ?_
      simp only [body, fn__law_any]
      simp only [List.map_cons, List.map_nil, List.replicate, List.cons_append, List.nil_append, Nat.reduceSub, ess_cons, es_whil]
      rw [e]
      simp [DM, eq_rl, mthTy, mPop, mAppend, blt_int, hm1, hm2, hlen]
    · intro y hy
      rcases List.mem_append.mp hy with hy | hy
      · exact hd.nn y (h2 y (by simp [hy]))
      · simp at hy
        subst hy
        exact Int.ediv_nonneg hx (by omega)
theorem c_of {k : Nat} {L : List Int} {bl : Int} {rest : Mem} {xs : List D} (hd : DOk L bl) (hr : rest.all (inC (rest.length + 2)) = true) (hb : xs ≠ []) (hb' : xs.length ≤ 1000) : ∃ (L' : List Int) (bl' : Int) (j : Nat) (x : D), callF tab (k + 2) 43 [.r 1, .d (.lst xs)] (DM L bl rest) = some (.d x, DM L' bl' rest) ∧ xs[j]? = some x ∧ DOk L' bl' := by
  obtain ⟨L', bl', r, e, h1, h2⟩ := c_any (k := k) (b := xs.length) hd hr (List.length_pos_iff.mpr hb) (by omega)
  refine ⟨L', bl', r, xs[r], ?_, List.getElem?_eq_getElem h1, h2⟩
  refine call_upd rfl (okDM hr) rfl rfl rfl ?_
  have hat : L2.atI xs (r : Int) = some xs[r] := atI_nat (List.getElem?_eq_getElem h1)
  simp [body, fn__law_of, blt_lenL, e, hat]
theorem c_number {k w : Nat} {L : List Int} {bl : Int} {rest : Mem} (hd : DOk L bl) (hr : rest.all (inC (rest.length + 2)) = true) (hw : wOk w) : ∃ (L' : List Int) (bl' : Int) (r : Nat), callF tab (k + 3) 45 [.r 1, .d (.int w)] (DM L bl rest) = some (.d (.int r), DM L' bl' rest) ∧ r < 2 ^ w ∧ DOk L' bl' := by
  have hw' : w ≤ 1000 := by unfold wOk at hw; omega
  have h44 := c_power (k := k + 1) (w := w) (okDM (L := L) (bl := bl) hr) hw'
  have hpc := pow_cast w
  have hpos : 0 < 2 ^ w := Nat.pow_pos (by decide)
  have h64 : 2 ^ w ≤ 18446744073709551616 := by have := pow_le64 hw.2; omega
  have h2 : 2 ≤ 2 ^ w := by have := Nat.pow_le_pow_right (n := 2) (by decide) hw.1; omega
  obtain ⟨L1, b1, r1, e1, hr1, d1⟩ := c_any (k := k + 1) (b := 4) hd hr (by omega) (by omega)
  by_cases hf : r1 < 2
  · obtain ⟨L2, b2, r2, e2, hr2, d2⟩ := c_any (k := k + 1) (b := 5) d1 hr (by omega) (by omega)
    obtain ⟨r, hr3, hr4⟩ := emod_nat (x := r2) hpos
    rw [← hpc] at hr4
    have hmod : binW .mod (.d (.int r2)) (.d (.int (2 ^ w))) = some (.d (.int r)) := by rw [b_mod (pow_pos2 w), hr4]
    refine ⟨L2, b2, r, ?_, hr3, d2⟩
    refine call_upd rfl (okDM hr) rfl rfl rfl ?_
    have hf' : (r1 : Int) < 2 := by omega
    simp at e1 e2
    simp [body, fn__law_number, h44, e1, hf', e2, blt_int, hmod]
  · have hf' : ¬ (r1 : Int) < 2 := by omega
    by_cases h2' : r1 = 2
    · have hh : binW .fdiv (.d (.int (2 ^ w))) (.d (.int 2)) = some (.d (.int (2 ^ w / 2))) := b_fdiv (by omega) (by omega)
      obtain ⟨L2, b2, j, x, e2, hj, d2⟩ := c_of (k := k) (xs := [.int 0, .int 1, .int (2 ^ w - 1), .int (2 ^ w / 2), .int (2 ^ w / 2 - 1)]) d1 hr (by simp) (by simp)
      obtain ⟨r, rfl, hr3⟩ : ∃ r : Nat, x = .int r ∧ r < 2 ^ w := by
        have hm := List.mem_of_getElem? hj
        simp at hm
        rcases hm with rfl | rfl | rfl | rfl | rfl
        · exact ⟨0, rfl, by omega⟩
        · exact ⟨1, rfl, by omega⟩
        · exact ⟨2 ^ w - 1, congrArg D.int (by omega), by omega⟩
        · exact ⟨2 ^ w / 2, congrArg D.int (by omega), by omega⟩
        · exact ⟨2 ^ w / 2 - 1, congrArg D.int (by omega), by omega⟩
      refine ⟨L2, b2, r, ?_, hr3, d2⟩
      refine call_upd rfl (okDM hr) rfl rfl rfl ?_
      subst h2'
      simp at e1
      simp [body, fn__law_number, h44, e1, hh, e2]
    · obtain ⟨L2, b2, r, e2, hr2, d2⟩ := c_any (k := k + 1) (b := 2 ^ w) d1 hr hpos h64
      refine ⟨L2, b2, r, ?_, hr2, d2⟩
      refine call_upd rfl (okDM hr) rfl rfl rfl ?_
      have h3 : ¬ (r1 : Int) = 2 := by omega
      rw [← hpc] at e2
      simp at e1
      simp [body, fn__law_number, h44, e1, hf', h3, e2]
end Mi
end
section
/-! Mf2: the deal is dealt. -/
namespace Mi
open PySem
theorem slc_l {xs : List D} {lo hi : Option Int} : slcW (.d (.lst xs)) lo hi = some (.d (.lst (cutD xs lo hi))) := rfl
def absI (i : Int) : Int := if i < 0 then -i else i
def absD : D → D
  | .int i => .int (absI i)
  | x => x
theorem turns_abs {cl : Cl} {mem : Mem} {x0 x1 x2 x3 x4 : Option W} (zs : List Int) : turns (lcT1 [4] (.nm 4) [] (.blt .abs (.blt .int (.var 4))) cl [x0, x1, x2, x3, x4]) snoc (zs.map .int) [] mem = some ((zs.map absI).map .int, mem) := by
  rw [turns_map (g := absD) (zs.map D.int) []]
  · simp [absD]
  · intro x hx
    obtain ⟨i, hi, rfl⟩ := List.mem_map.mp hx
    simp [lcT1, wipeE, blt_int, blt_abs, absD, absI]
def mixB : List IS := [.asg (.nm 3) (.bin .mod (.blt .int (.bin .add (.bin .add (.bin .mul (.var 3) (.con (.int 48271))) (.bin .mod (.var 4) (.con (.int 2147483549)))) (.con (.int 11)))) (.con (.int 2147483647)))]
theorem loop_mix {cl : Cl} {mem : Mem} {x0 x1 x2 : Option W} (zs : List Int) : ∀ (b : Int) (x4 : Option W), 0 ≤ b ∧ b < 2147483647 → ∃ (b' : Int) (x4' : Option W), loopF (fBody cl mixB) (.nm 4) (zs.map .int) [x0, x1, x2, some (.d (.int b)), x4] mem = some ((.next, [x0, x1, x2, some (.d (.int b')), x4']), mem) ∧ 0 ≤ b' ∧ b' < 2147483647 := by
  induction zs with
  | nil => intro b x4 hb; exact ⟨b, x4, rfl, hb⟩
  | cons z zs ih =>
    intro b x4 hb
    obtain ⟨b', x4', e, h1⟩ := ih ((b * 48271 + z % 2147483549 + 11) % 2147483647) (some (.d (.int z))) ⟨Int.emod_nonneg _ (by omega), Int.emod_lt_of_pos _ (by omega)⟩
    refine ⟨b', x4', ?_, h1⟩
    have m1 : binW .mul (.d (.int b)) (.d (.int 48271)) = some (.d (.int (b * 48271))) := b_mul (.inr ⟨by omega, by omega⟩)
    have m2 : binW .mod (.d (.int z)) (.d (.int 2147483549)) = some (.d (.int (z % 2147483549))) := b_mod (by omega)
    have m3 : binW .mod (.d (.int (b * 48271 + z % 2147483549 + 11))) (.d (.int 2147483647)) = some (.d (.int ((b * 48271 + z % 2147483549 + 11) % 2147483647))) := b_mod (by omega)
    rw [List.map_cons, loop_cons]
    simp only [mixB] at e
    simp [mixB, m1, m2, m3, blt_int]
    exact e
def bigD : D → Bool
  | .int i => decide (1000000000000000000 ≤ i)
  | _ => false
theorem turns_big {cl : Cl} {mem : Mem} {x0 x1 x2 x3 x4 : Option W} (zs : List Int) : turns (lcT1 [4] (.nm 4) [.cmp .ge (.var 4) (.bin .pow (.con (.int 10)) (.con (.int 18)))] (.var 4) cl [x0, x1, x2, x3, x4]) snoc (zs.map .int) [] mem = some ((zs.filter fun i => decide (1000000000000000000 ≤ i)).map .int, mem) := by
  have hp : binW .pow (.d (.int 10)) (.d (.int 18)) = some (.d (.int 1000000000000000000)) := rfl
  rw [turns_filter (c := bigD) (g := id) (zs.map D.int) []]
  · rw [List.filter_map, List.nil_append, List.map_id]
    rfl
  · intro x hx
    obtain ⟨i, hi, rfl⟩ := List.mem_map.mp hx
    by_cases h : (1000000000000000000 : Int) ≤ i <;> simp [lcT1, wipeE, hp, bigD, h]
theorem c_draw {k : Nat} {ns : List Int} (hl : ns.length ≤ 63) : ∃ (L : List Int) (bl : Int), callF tab (k + 1) 41 [.d (.lst (ns.map .int)), .d (.int 26)] [] = some (.r 1, DM L bl []) ∧ DOk L bl := by
  obtain ⟨zs, hz, hzl⟩ : ∃ zs : List Int, cutD (ns.map D.int) none (some 48) = zs.map .int ∧ zs.length ≤ ns.length := by
    refine ⟨cutD ns none (some 48), ?_, ?_⟩
    · simp [cutD, ← List.map_drop, ← List.map_take]
    · simp [cutD]
      omega
  have hlim : zs.length < lim := by unfold lim; omega
  have m1 : binW .mul (.d (.int 104729)) (.d (.int 26)) = some (.d (.int 2722954)) := b_mul (.inr ⟨by omega, by omega⟩)
  have t1 := turns_abs (cl := callF tab k) (mem := []) (x0 := some (.d (.lst (ns.map .int)))) (x1 := some (.d (.int 26))) (x2 := none) (x3 := none) (x4 := none) zs
  obtain ⟨bl, x4', e, hb⟩ := loop_mix (cl := callF tab k) (mem := []) (x0 := some (.d (.lst (ns.map .int)))) (x1 := some (.d (.int 26))) (x2 := some (.d (.lst ((zs.map absI).map .int)))) (zs.map absI) 2730873 none ⟨by omega, by omega⟩
  have t2 := turns_big (cl := callF tab k) (mem := []) (x0 := some (.d (.lst (ns.map .int)))) (x1 := some (.d (.int 26))) (x2 := some (.d (.lst ((zs.map absI).map .int)))) (x3 := some (.d (.int bl))) (x4 := x4') (zs.map absI)
  obtain ⟨fs, hfs⟩ : ∃ fs, fs = (zs.map absI).filter fun i => decide (1000000000000000000 ≤ i) := ⟨_, rfl⟩
  obtain ⟨as, has⟩ : ∃ as, as = zs.map absI := ⟨_, rfl⟩
  have hfl : fs.length ≤ zs.length := by rw [hfs]; have := List.length_filter_le (fun i => decide (1000000000000000000 ≤ i)) (zs.map absI); simpa using this
  have hfm : ∀ x, x ∈ fs → 0 ≤ x := by
    intro x hx
    rw [hfs] at hx
    have := (List.mem_filter.mp hx).2
    simp at this
    omega
  rw [← hfs] at t2
  rw [← has] at t1 t2 e
  have hal : as.length < lim := by rw [has]; simpa using hlim
  have hfl2 : fs.length < lim := by omega
  refine ⟨fs.reverse, bl, ?_, ⟨by simp; omega, by simpa using hfm, hb⟩⟩
  rw [callF_succ rfl, run_of (m1 := DM fs.reverse bl []) (o := .ret (.r 1)) rfl ?_]
  · rfl
  · simp only [mixB] at e
    simp [body, fn__law_draw, slc_l, hz, t1, hal, m1]
    rw [e]
    simp [t2, hfl2, DM]
end Mi
end
section
/-! Mf3: a side of a rule as operations: the steps. -/
namespace Mi
open PySem
def Sm (L : List Int) (bl : Int) (ops : List Op) (mid : Nat) (B : Ls) : Mem := DM L bl [.lst (opsD 0 ops), .obj [.r 2, .d (.int ops.length), .d (.int mid)], .dct (lsD B)]
theorem okSm {L : List Int} {bl : Int} {ops : List Op} {mid : Nat} {B : Ls} : okM (Sm L bl ops mid B) := okDM (by simp [inC])
theorem opsD_snoc {op : Op} {ops : List Op} : ∀ {i : Nat}, opsD i (ops ++ [op]) = opsD i ops ++ [opD (i + ops.length) op] := by
  induction ops with
  | nil => intro i; simp [opsD]
  | cons x r ih =>
    intro i
    simp only [List.cons_append, opsD, ih, List.length_cons]
    rw [show i + 1 + r.length = i + (r.length + 1) by omega]
theorem opsD_snoc0 {op : Op} {ops : List Op} : opsD 0 (ops ++ [op]) = opsD 0 ops ++ [opD ops.length op] := by rw [opsD_snoc]; simp
/-- the sorts of the letters among the arguments -/
def wl (B : Ls) : List Fm → List Nat
  | [] => []
  | .lt l :: r => match lk B l with
    | some e => e.2 :: wl B r
    | none => wl B r
  | _ :: r => wl B r
theorem wl_lt {B : Ls} {l : Lt} {r : List Fm} {e : Opr × Nat} (h : lk B l = some e) : wl B (.lt l :: r) = e.2 :: wl B r := by simp [wl, h]
theorem wl_lt0 {B : Ls} {l : Lt} {r : List Fm} (h : lk B l = none) : wl B (.lt l :: r) = wl B r := by simp [wl, h]
theorem wl_no {B : Ls} {F : Fm} {r : List Fm} (h : F.isLt = false) : wl B (F :: r) = wl B r := by
  cases F <;> first | (simp [Fm.isLt] at h; done) | rfl
theorem not_lt_w {F : Fm} (h : F.isLt = false) : ∀ l : Lt, l.w ≠ F.w := by
  cases hn : F.isNum with
  | true => exact (w_numL hn).2
  | false => exact (w_notnumL hn h).2.2
theorem turns_wide {cl : Cl} {env : Env} {mem : Mem} {B : Ls} (h3 : env[3]? = some (some (.r 4))) (h14 : 14 < env.length) (hm : mem[4]? = some (.dct (lsD B))) (Ks : List Fm) : ∀ (acc : List D), turns (lcT1 [14] (.nm 14) [.cmp .inn (.ix (.var 14) (.con (.int 0))) (.var 3)] (.ix (.ix (.var 3) (.ix (.var 14) (.con (.int 0)))) (.con (.int 1))) cl env) snoc (Ks.map Fm.L) acc mem = some (acc ++ (wl B Ks).map intD, mem) := by
  induction Ks with
  | nil => intro acc; simp [wl]
  | cons F r ih =>
    intro acc
    rw [List.map_cons, turns_cons]
    have h3' : (env.set 14 (some (.d F.L)))[3]? = some (some (.r 4)) := by simp [List.getElem?_set, h3]
    cases hl : F.isLt with
    | true =>
      cases F with
      | lt l =>
        have hlk := lk_ls (B := B) (l := l)
        cases hb : lk B l with
        | none =>
          rw [hb] at hlk
          have : lcT1 [14] (.nm 14) [.cmp .inn (.ix (.var 14) (.con (.int 0))) (.var 3)] (.ix (.ix (.var 3) (.ix (.var 14) (.con (.int 0)))) (.con (.int 1))) cl env (Fm.lt l).L mem = some (none, mem) := by
            simp [lcT1, wipeE, h14, List.getElem?_set, h3, Fm.L, hm, hlk]
          rw [this, kTn_n, ih, wl_lt0 hb]
        | some e =>
          rw [hb] at hlk
          have : lcT1 [14] (.nm 14) [.cmp .inn (.ix (.var 14) (.con (.int 0))) (.var 3)] (.ix (.ix (.var 3) (.ix (.var 14) (.con (.int 0)))) (.con (.int 1))) cl env (Fm.lt l).L mem = some (some (.int e.2), mem) := by
            simp [lcT1, wipeE, h14, List.getElem?_set, h3, Fm.L, hm, hlk, prL]
          rw [this, kTn_s, snoc, ih, wl_lt hb]
          simp [intD]
      | _ => simp [Fm.isLt] at hl
    | false =>
      have hno := lk_ls_no (B := B) (not_lt_w hl)
      have : lcT1 [14] (.nm 14) [.cmp .inn (.ix (.var 14) (.con (.int 0))) (.var 3)] (.ix (.ix (.var 3) (.ix (.var 14) (.con (.int 0)))) (.con (.int 1))) cl env F.L mem = some (none, mem) := by
        rw [L_eq F]
        simp [lcT1, wipeE, h14, List.getElem?_set, h3, hm, hno]
      rw [this, kTn_n, ih, wl_no hl]
/-- the width that a comparison, a cast takes -/
def wd0 (B : Ls) (Ks : List Fm) (mid : Nat) : Nat := match wl B Ks with
  | [] => mid
  | s :: _ => s
theorem wide_at {B : Ls} {Ks : List Fm} {mid : Nat} : L2.atI ((wl B Ks).map intD ++ [.int mid]) 0 = some (.int (wd0 B Ks mid)) := by
  unfold wd0
  cases wl B Ks with
  | nil => exact atI_0
  | cons s r => exact atI_0
theorem wl_len {B : Ls} (Ks : List Fm) : (wl B Ks).length ≤ Ks.length := by
  induction Ks with
  | nil => simp [wl]
  | cons F r ih =>
    cases hl : F.isLt with
    | false => rw [wl_no hl]; simp; omega
    | true =>
      cases F with
      | lt l =>
        cases hb : lk B l with
        | none => rw [wl_lt0 hb]; simp; omega
        | some e => rw [wl_lt hb]; simp; omega
      | _ => simp [Fm.isLt] at hl
theorem b_addL {xs ys : List D} (h : xs.length + ys.length < lim) : binW .add (.d (.lst xs)) (.d (.lst ys)) = some (.d (.lst (xs ++ ys))) := if_pos h
theorem bo_w (o : Bo) : ¬ Wd.zext = o.w ∧ ¬ Wd.sext = o.w ∧ ¬ Wd.trunc = o.w ∧ ¬ o.w = .select ∧ ¬ Wd.eq = o.w ∧ ¬ Wd.ne = o.w ∧ ¬ Wd.ult = o.w ∧ ¬ Wd.ule = o.w ∧ ¬ Wd.slt = o.w ∧ ¬ Wd.sle = o.w ∧ upperW o.w = false := by cases o <;> simp [Bo.w, upperW]
theorem co_w (o : Co) : ¬ Wd.zext = o.w ∧ ¬ Wd.sext = o.w ∧ ¬ Wd.trunc = o.w ∧ ¬ o.w = .select ∧ (Wd.eq = o.w ∨ Wd.ne = o.w ∨ Wd.ult = o.w ∨ Wd.ule = o.w ∨ Wd.slt = o.w ∨ Wd.sle = o.w) ∧ upperW o.w = false := by cases o <;> simp [Co.w, upperW]
theorem ca_w (o : Ca) : (Wd.zext = o.w ∨ Wd.sext = o.w ∨ Wd.trunc = o.w) ∧ upperW o.w = false := by cases o <;> simp [Ca.w, upperW]
theorem oprV {j : Nat} : (Opr.v j).D = .tup [.str [.v], .int j] := rfl
theorem shp_ca : shp (.lst [.str [.zext], .str [.sext], .str [.trunc]]) = true := rfl
theorem shp_co : shp (.lst [.str [.eq], .str [.ne], .str [.ult], .str [.ule], .str [.slt], .str [.sle]]) = true := rfl
def Call76 (k : Nat) (F : Fm) (s : Nat) (L : List Int) (bl : Int) (mid : Nat) (B : Ls) (ops : List Op) (o : Opr) (ops' : List Op) : Prop := callF tab k 76 [.r 1, .d F.L, .d (.int s), .r 4, .r 3] (Sm L bl ops mid B) = some (.d o.D, Sm L bl ops' mid B)
section
variable {k s mid : Nat} {L : List Int} {bl : Int} {B : Ls} {ops ops1 ops2 ops3 : List Op} {x y z : Fm} {a b c : Opr}
theorem zip_turn2 {s1 s2 : Nat} {x5 x6 x7 x8 x9 x10 x11 x12 x13 x14 x15 x1 x2 : Option W} (e1 : Call76 k x s1 L bl mid B ops a ops1) (e2 : Call76 k y s2 L bl mid B ops1 b ops2) : turns (lcT1 [14, 15] (.tp [14, 15]) [] (.call 76 [.var 0, .var 14, .var 15, .var 3, .var 4]) (callF tab k) [some (.r 1), x1, x2, some (.r 4), some (.r 3), x5, x6, x7, x8, x9, x10, x11, x12, x13, x14, x15]) snoc [.tup [x.L, .int s1], .tup [y.L, .int s2]] [] (Sm L bl ops mid B) = some ([a.D, b.D], Sm L bl ops2 mid B) := by
  unfold Call76 at e1 e2
  simp [turns_cons, lcT1, wipeE, e1, e2, snoc]
theorem zip_turn1 {s1 : Nat} {x5 x6 x7 x8 x9 x10 x11 x12 x13 x14 x15 x1 x2 : Option W} (e1 : Call76 k x s1 L bl mid B ops a ops1) : turns (lcT1 [14, 15] (.tp [14, 15]) [] (.call 76 [.var 0, .var 14, .var 15, .var 3, .var 4]) (callF tab k) [some (.r 1), x1, x2, some (.r 4), some (.r 3), x5, x6, x7, x8, x9, x10, x11, x12, x13, x14, x15]) snoc [.tup [x.L, .int s1]] [] (Sm L bl ops mid B) = some ([a.D], Sm L bl ops1 mid B) := by
  unfold Call76 at e1
  simp [turns_cons, lcT1, wipeE, e1, snoc]
theorem zip_turn3 {s1 s2 s3 : Nat} {x5 x6 x7 x8 x9 x10 x11 x12 x13 x14 x15 x1 x2 : Option W} (e1 : Call76 k x s1 L bl mid B ops a ops1) (e2 : Call76 k y s2 L bl mid B ops1 b ops2) (e3 : Call76 k z s3 L bl mid B ops2 c ops3) : turns (lcT1 [14, 15] (.tp [14, 15]) [] (.call 76 [.var 0, .var 14, .var 15, .var 3, .var 4]) (callF tab k) [some (.r 1), x1, x2, some (.r 4), some (.r 3), x5, x6, x7, x8, x9, x10, x11, x12, x13, x14, x15]) snoc [.tup [x.L, .int s1], .tup [y.L, .int s2], .tup [z.L, .int s3]] [] (Sm L bl ops mid B) = some ([a.D, b.D, c.D], Sm L bl ops3 mid B) := by
  unfold Call76 at e1 e2 e3
  simp [turns_cons, lcT1, wipeE, e1, e2, e3, snoc]
theorem side_bin {o : Bo} (h20 : (Fm.bin o x y).ht ≤ 20) (hl : ops2.length ≤ 1000) (e1 : Call76 k x s L bl mid B ops a ops1) (e2 : Call76 k y s L bl mid B ops1 b ops2) : Call76 (k + 1) (.bin o x y) s L bl mid B ops (.v ops2.length) (ops2 ++ [.bin o s a b]) := by
  have hs := shp_kids h20
  have hno := lk_ls_no (B := B) (not_lt_w (F := .bin o x y) rfl)
  obtain ⟨q1, q2, q3, q4, q5, q6, q7, q8, q9, q10, q11⟩ := bo_w o
  have hw := fun env h3 h14 => turns_wide (cl := callF tab k) (env := env) (mem := Sm L bl ops mid B) (B := B) h3 h14 rfl [x, y] []
  have hwl := wl_len (B := B) [x, y]
  simp at hwl
  have hlim : (wl B [x, y]).length + 1 < lim := by unfold lim; omega
  have hlim1 : (wl B [x, y]).length < lim := by omega
  have hadd := b_addL (xs := (wl B [x, y]).map intD) (ys := [.int mid]) (by simpa using hlim)
  have hlo : (opsD 0 ops2).length < lim := by rw [opsD_length]; unfold lim; omega
  have h2lim : 2 < lim := by unfold lim; omega
  have hz := fun x5 x6 x7 x8 x9 x10 x11 x12 x13 x14 x15 x1 x2 => zip_turn2 (x5 := x5) (x6 := x6) (x7 := x7) (x8 := x8) (x9 := x9) (x10 := x10) (x11 := x11) (x12 := x12) (x13 := x13) (x14 := x14) (x15 := x15) (x1 := x1) (x2 := x2) e1 e2
  refine call_upd rfl okSm rfl rfl rfl ?_
  unfold Sm DM at hw hz ⊢
  simp only [Fm.kids, List.map_cons, List.map_nil, Fm.w] at hs hno hw
  simp [body, fn__law_side_ops, Fm.L, hno, hs, eqD_nil, mUpper, tyUpper, q1, q2, q3, q4, q5, q6, q7, q8, q9, q10, q11, hw, hlim, hlim1, hadd, shp_ca, shp_co, zip2_c, show zip2 [] [] = [] from rfl, hz, h2lim, blt_tuple, mthTy, mAppend, hlo, show L2.ixN 3 1 = some 1 from rfl, opsD_snoc0, opD, Op.kind, Op.info, Op.args, oprV, shp_nil]
end
end Mi
end
section
/-! Mf4: the other steps; letters, numbers. -/
namespace Mi
open PySem
section
variable {k s mid : Nat} {L : List Int} {bl : Int} {B : Ls} {ops ops1 ops2 ops3 : List Op} {x y z : Fm} {a b c : Opr}
theorem side_cmp {o : Co} (h20 : (Fm.cmp o x y).ht ≤ 20) (hl : ops2.length ≤ 1000) (e1 : Call76 k x (wd0 B [x, y] mid) L bl mid B ops a ops1) (e2 : Call76 k y (wd0 B [x, y] mid) L bl mid B ops1 b ops2) : Call76 (k + 1) (.cmp o x y) s L bl mid B ops (.v ops2.length) (ops2 ++ [.cmp o (wd0 B [x, y] mid) a b]) := by
  have hs := shp_kids h20
  have hno := lk_ls_no (B := B) (not_lt_w (F := .cmp o x y) rfl)
  have hw := fun env h3 h14 => turns_wide (cl := callF tab k) (env := env) (mem := Sm L bl ops mid B) (B := B) h3 h14 rfl [x, y] []
  have hwl := wl_len (B := B) [x, y]
  simp at hwl
  have hlim : (wl B [x, y]).length + 1 < lim := by unfold lim; omega
  have hlim1 : (wl B [x, y]).length < lim := by omega
  have hadd := b_addL (xs := (wl B [x, y]).map intD) (ys := [.int mid]) (by simpa using hlim)
  have hat := wide_at (B := B) (Ks := [x, y]) (mid := mid)
  obtain ⟨q1, q2, q3, q4, q5, q6⟩ := co_w o
  have hlo : (opsD 0 ops2).length < lim := by rw [opsD_length]; unfold lim; omega
  have h2lim : 2 < lim := by unfold lim; omega
  have h1lim : 1 < lim := by unfold lim; omega
  have h3lim : 3 < lim := by unfold lim; omega
  have hz := fun x5 x6 x7 x8 x9 x10 x11 x12 x13 x14 x15 x1 x2 => zip_turn2 (x5 := x5) (x6 := x6) (x7 := x7) (x8 := x8) (x9 := x9) (x10 := x10) (x11 := x11) (x12 := x12) (x13 := x13) (x14 := x14) (x15 := x15) (x1 := x1) (x2 := x2) e1 e2
  refine call_upd rfl okSm rfl rfl rfl ?_
  unfold Sm DM at hw hz ⊢
  simp only [Fm.kids, List.map_cons, List.map_nil, Fm.w] at hs hno hw
  simp [body, fn__law_side_ops, Fm.L, hno, hs, eqD_nil, mUpper, tyUpper, q1, q2, q3, q4, q5, q6, hw, hlim, hlim1, hadd, hat, shp_ca, shp_co, zip2_c, show zip2 [] [] = [] from rfl, hz, h1lim, h2lim, h3lim, blt_tuple, mthTy, mAppend, hlo, show L2.ixN 3 1 = some 1 from rfl, opsD_snoc0, opD, Op.kind, Op.info, Op.args, oprV, shp_nil]
theorem side_cast {o : Ca} (h20 : (Fm.cast o x).ht ≤ 20) (hl : ops1.length ≤ 1000) (e1 : Call76 k x (wd0 B [x] mid) L bl mid B ops a ops1) : Call76 (k + 1) (.cast o x) s L bl mid B ops (.v ops1.length) (ops1 ++ [.cast o (wd0 B [x] mid) s a]) := by
  have hs := shp_kids h20
  have hno := lk_ls_no (B := B) (not_lt_w (F := .cast o x) rfl)
  have hw := fun env h3 h14 => turns_wide (cl := callF tab k) (env := env) (mem := Sm L bl ops mid B) (B := B) h3 h14 rfl [x] []
  have hwl := wl_len (B := B) [x]
  simp at hwl
  have hlim : (wl B [x]).length + 1 < lim := by unfold lim; omega
  have hlim1 : (wl B [x]).length < lim := by omega
  have hadd := b_addL (xs := (wl B [x]).map intD) (ys := [.int mid]) (by simpa using hlim)
  have hat := wide_at (B := B) (Ks := [x]) (mid := mid)
  obtain ⟨q1, q2⟩ := ca_w o
  have hlo : (opsD 0 ops1).length < lim := by rw [opsD_length]; unfold lim; omega
  have h2lim : 2 < lim := by unfold lim; omega
  have h1lim : 1 < lim := by unfold lim; omega
  have h3lim : 3 < lim := by unfold lim; omega
  have hz := fun x5 x6 x7 x8 x9 x10 x11 x12 x13 x14 x15 x1 x2 => zip_turn1 (x5 := x5) (x6 := x6) (x7 := x7) (x8 := x8) (x9 := x9) (x10 := x10) (x11 := x11) (x12 := x12) (x13 := x13) (x14 := x14) (x15 := x15) (x1 := x1) (x2 := x2) e1
  refine call_upd rfl okSm rfl rfl rfl ?_
  unfold Sm DM at hw hz ⊢
  simp only [Fm.kids, List.map_cons, List.map_nil, Fm.w] at hs hno hw
  simp [body, fn__law_side_ops, Fm.L, hno, hs, eqD_nil, mUpper, tyUpper, q1, q2, hw, hlim, hlim1, hadd, hat, shp_ca, shp_co, zip2_c, show zip2 [] [] = [] from rfl, hz, h1lim, h2lim, h3lim, blt_tuple, mthTy, mAppend, hlo, show L2.ixN 3 1 = some 1 from rfl, opsD_snoc0, opD, Op.kind, Op.info, Op.args, oprV, shp_nil]
theorem side_sel (h20 : (Fm.sel x y z).ht ≤ 20) (hl : ops3.length ≤ 1000) (e1 : Call76 k x 1 L bl mid B ops a ops1) (e2 : Call76 k y s L bl mid B ops1 b ops2) (e3 : Call76 k z s L bl mid B ops2 c ops3) : Call76 (k + 1) (.sel x y z) s L bl mid B ops (.v ops3.length) (ops3 ++ [.sel s a b c]) := by
  have hs := shp_kids h20
  have hno := lk_ls_no (B := B) (not_lt_w (F := .sel x y z) rfl)
  have hw := fun env h3 h14 => turns_wide (cl := callF tab k) (env := env) (mem := Sm L bl ops mid B) (B := B) h3 h14 rfl [x, y, z] []
  have hwl := wl_len (B := B) [x, y, z]
  simp at hwl
  have hlim : (wl B [x, y, z]).length + 1 < lim := by unfold lim; omega
  have hlim1 : (wl B [x, y, z]).length < lim := by omega
  have hadd := b_addL (xs := (wl B [x, y, z]).map intD) (ys := [.int mid]) (by simpa using hlim)
  have hat := wide_at (B := B) (Ks := [x, y, z]) (mid := mid)
  have hlo : (opsD 0 ops3).length < lim := by rw [opsD_length]; unfold lim; omega
  have h2lim : 2 < lim := by unfold lim; omega
  have h1lim : 1 < lim := by unfold lim; omega
  have h3lim : 3 < lim := by unfold lim; omega
  have hz := fun x5 x6 x7 x8 x9 x10 x11 x12 x13 x14 x15 x1 x2 => zip_turn3 (x5 := x5) (x6 := x6) (x7 := x7) (x8 := x8) (x9 := x9) (x10 := x10) (x11 := x11) (x12 := x12) (x13 := x13) (x14 := x14) (x15 := x15) (x1 := x1) (x2 := x2) e1 e2 e3
  simp only [Int.natCast_one] at hz
  refine call_upd rfl okSm rfl rfl rfl ?_
  unfold Sm DM at hw hz ⊢
  simp only [Fm.kids, List.map_cons, List.map_nil, Fm.w] at hs hno hw
  simp [body, fn__law_side_ops, Fm.L, hno, hs, eqD_nil, mUpper, tyUpper, hw, hlim, hlim1, hadd, hat, shp_ca, shp_co, zip2_c, show zip2 [] [] = [] from rfl, hz, h1lim, h2lim, h3lim, blt_tuple, mthTy, mAppend, hlo, show L2.ixN 3 1 = some 1 from rfl, opsD_snoc0, opD, Op.kind, Op.info, Op.args, oprV, shp_nil, upperW]
theorem side_lt {l : Lt} {e : Opr × Nat} (h : lk B l = some e) : Call76 (k + 1) (.lt l) s L bl mid B ops e.1 ops := by
  have hlk := lk_ls (B := B) (l := l)
  rw [h] at hlk
  refine call_upd rfl okSm rfl rfl rfl ?_
  unfold Sm DM
  simp [body, fn__law_side_ops, Fm.L, hlk, prL]
end
def plainB2 : List IS := [.asg (.sub (.var 9) (.var 10)) (.ix (.ix (.var 3) (.var 10)) (.con (.int 0)))]
theorem loop_plain2 {cl : Cl} {c0 c1 c2 c3 : Cell} {L : Ls} (hL : Nd L) (hlen : L.length < lim) {x0 x1 x2 x4 x5 x6 x7 x8 x11 x12 x13 x14 x15 : Option W} (S : Ls) : ∀ (P : Ls) (x10 : Option W), L = P ++ S → ∃ x10', loopF (fBody cl plainB2) (.nm 10) (S.map fun e => .str [e.1.w]) [x0, x1, x2, some (.r 4), x4, x5, x6, x7, x8, some (.r 5), x10, x11, x12, x13, x14, x15] [c0, c1, c2, c3, .dctL (lsD L), .dct (plD P)] = some ((.next, [x0, x1, x2, some (.r 4), x4, x5, x6, x7, x8, some (.r 5), x10', x11, x12, x13, x14, x15]), [c0, c1, c2, c3, .dctL (lsD L), .dct (plD L)]) := by
  induction S with
  | nil => intro P x10 h; exact ⟨x10, by simp [h]⟩
  | cons e S ih =>
    intro P x10 h
    obtain ⟨h1, h2⟩ := lk_split (P := P) (S := S) (e := e) (by rw [← h]; exact hL)
    rw [← h] at h2
    obtain ⟨y, e1⟩ := ih (P ++ [e]) (some (.d (.str [e.1.w]))) (by rw [h]; simp)
    have h3 := lk_ls (B := L) (l := e.1)
    have h4 := lk_pl (B := P) (l := e.1)
    rw [h2] at h3
    rw [h1] at h4
    have h5 : (plD P).length < lim := by
      have : P.length ≤ L.length := by rw [h]; simp
      simp [plD]; omega
    refine ⟨y, ?_⟩
    rw [List.map_cons, loop_cons]
    have h6 : plD (P ++ [e]) = plD P ++ [(.s [e.1.w], e.2.1.D)] := by simp [plD]
    have h7 := putD_none (x := e.2.1.D) h4
    rw [h6] at e1
    simp [plainB2] at e1
    simp [plainB2, h3, prL, h5, h7]
    exact e1
theorem side_num {k s mid : Nat} {L : List Int} {bl : Int} {B : Ls} {ops : List Op} {F : Fm} {i : Nat} (hn : F.isNum = true) (h20 : F.ht ≤ 20) (hk : F.ht + 6 ≤ k) (hs : wOk s) (hB : Nd B) (hlen : B.length < lim) (h : nOk B s F) (hi : num B s F = (i : Int)) : Call76 (k + 1) F s L bl mid B ops (.n i) ops := by
  obtain ⟨hw, hno⟩ := w_numL hn
  have h3 := c_madeNumber (k := k) (r := 5) (mem := Sm L bl ops mid B ++ [.dct (plD B)]) hs F (okM_dct okSm) hk rfl h
  rw [hi] at h3
  have hs1 := shp_kids h20
  have hnone := lk_ls_no (B := B) hno
  refine call_new (new := [.dct (plD B)]) (w := .d (Opr.n i).D) okSm rfl rfl rfl ?_ rfl
  obtain ⟨y, e⟩ := loop_plain2 (cl := callF tab k) (c0 := .lst (L.map .int)) (c1 := .obj [.r 0, .d (.int bl)]) (c2 := .lst (opsD 0 ops)) (c3 := .obj [.r 2, .d (.int ops.length), .d (.int mid)]) hB hlen (x0 := some (.r 1)) (x1 := some (.d F.L)) (x2 := some (.d (.int s))) (x4 := some (.r 3)) (x5 := none) (x6 := none) (x7 := some (.d (.str [F.w]))) (x8 := some (.d (.lst (F.kids.map Fm.L)))) (x11 := none) (x12 := none) (x13 := none) (x14 := none) (x15 := none) B [] none rfl
  have hmap : (lsD B).map (fun kv => kv.1.d) = B.map fun e => D.str [e.1.w] := by simp [lsD, kyd_s]
  have hpl : plD [] = [] := rfl
  rw [hpl] at e
  rw [L_eq F] at h3 e ⊢
  simp only [plainB2] at e
  unfold Sm DM at h3 ⊢
  simp at h3
  have hfor : ∀ b env, kFor (.nm 10) .e [.var 3] b (callF tab k) env [.r 4] [.lst (L.map .int), .obj [.r 0, .d (.int bl)], .lst (opsD 0 ops), .obj [.r 2, .d (.int ops.length), .d (.int mid)], .dct (lsD B), .dct []] none = bnd (loopF (fBody (callF tab k) b) (.nm 10) (B.map fun e => .str [e.1.w]) env [.lst (L.map .int), .obj [.r 0, .d (.int bl)], .lst (opsD 0 ops), .obj [.r 2, .d (.int ops.length), .d (.int mid)], .dctL (lsD B), .dct []]) fun r mem => some (r, unlockM 4 (lsD B) mem) := by
    intro b env
    rw [← hmap]
    rfl
  rcases hw with hw | hw
  · have hw' : (F.kids.map Fm.L) = [] := by rw [hw]; rfl
    rw [hw'] at h3 e ⊢
    simp [body, fn__law_side_ops, hnone, shp_nil, eqD_nil, hfor, e, unlockM, h3, Opr.D]
  · by_cases hk0 : F.kids = []
    · have hw' : (F.kids.map Fm.L) = [] := by rw [hk0]; rfl
      rw [hw'] at h3 e ⊢
      simp [body, fn__law_side_ops, hnone, shp_nil, eqD_nil, hfor, e, unlockM, h3, Opr.D]
    · simp [body, fn__law_side_ops, hnone, shp_nil, hs1, eqD_nil, hk0, mUpper, tyUpper, hw, hfor, e, unlockM, h3, Opr.D]
end Mi
end
section
/-! Mf5: a side of a rule as operations: what holds of them. -/
namespace Mi
open PySem
def gOv (i : Nat) : Opr → Prop
  | .n q => q < 18446744073709551616
  | .v j => j < i
def gAt (i : Nat) (op : Op) : Prop := (∀ o, o ∈ op.args → gOv i o) ∧ (∀ s, s ∈ op.asked → wOk s) ∧ wOk op.made
structure OpsOk (ops : List Op) : Prop where
  at_ : ∀ (i : Nat) (op : Op), ops[i]? = some op → gAt i op
  nc : NC ops
def LB (B : Ls) (ops : List Op) : Prop := ∀ l o s, lk B l = some (o, s) → wOk s ∧ (match o with
  | .n q => q < 18446744073709551616
  | .v j => ∃ t, ops[j]? = some (.inp t)) ∧ ((l = .m ∨ l = .n) → ∃ q, o = .n q) ∧ (l = .p → ∃ k, k < 64 ∧ o = .n (2 ^ k))
theorem gOv_mono {i j : Nat} {o : Opr} (h : i ≤ j) (g : gOv i o) : gOv j o := by
  cases o with
  | n q => exact g
  | v q => exact Nat.lt_of_lt_of_le g h
theorem pre_get {ops ops' : List Op} (h : ops <+: ops') {j : Nat} {op : Op} (e : ops[j]? = some op) : ops'[j]? = some op := by
  obtain ⟨t, rfl⟩ := h
  obtain ⟨hl, _⟩ := List.getElem?_eq_some_iff.mp e
  rw [List.getElem?_append_left hl, e]
theorem LB_mono {B : Ls} {ops ops' : List Op} (h : ops <+: ops') (hb : LB B ops) : LB B ops' := by
  intro l o s e
  obtain ⟨h1, h2, h3, h4⟩ := hb l o s e
  refine ⟨h1, ?_, h3, h4⟩
  cases o with
  | n q => exact h2
  | v j => obtain ⟨t, ht⟩ := h2; exact ⟨t, pre_get h ht⟩
theorem opsOk_snoc {ops : List Op} {op : Op} (h : OpsOk ops) (g : gAt ops.length op) (hc : ∀ o lo hi j o' lo' hi' x, op = .cast o lo hi (.v j) → ops[j]? = some (.cast o' lo' hi' x) → lo' ≤ hi' ∨ hi ≤ hi') : OpsOk (ops ++ [op]) := by
  have split : ∀ (i : Nat) (q : Op), (ops ++ [op])[i]? = some q → ops[i]? = some q ∨ (i = ops.length ∧ q = op) := by
    intro i q e
    by_cases hi : i < ops.length
    · rw [List.getElem?_append_left hi] at e; exact .inl e
    · have : i = ops.length := by
        have := (List.getElem?_eq_some_iff.mp e).1
        simp at this
        omega
      subst this
      simp at e
      exact .inr ⟨rfl, e.symm⟩
  refine ⟨?_, ?_⟩
  · intro i q e
    rcases split i q e with e | ⟨rfl, rfl⟩
    · exact h.at_ i q e
    · exact g
  · intro i j o lo hi o' lo' hi' x e1 e2
    rcases split i _ e1 with e1 | ⟨rfl, e3⟩
    · have hj : j < i := by
        have := (h.at_ i _ e1).1 (.v j) (by simp [Op.args])
        exact this
      have hi2 := (List.getElem?_eq_some_iff.mp e1).1
      rcases split j _ e2 with e2 | ⟨rfl, _⟩
      · exact h.nc i j o lo hi o' lo' hi' x e1 e2
      · omega
    · have hj : j < ops.length := by
        have := g.1 (.v j) (by rw [← e3]; simp [Op.args])
        exact this
      rcases split j _ e2 with e2 | ⟨rfl, _⟩
      · exact hc o lo hi j o' lo' hi' x e3.symm e2
      · omega
def okS (ls : List Lt) : Fm → Bool
  | .lt l => ls.contains l
  | .k0 | .k1 | .km1 => true
  | .log (.lt .p) => ls.contains .p
  | .log _ => false
  | .made _ x y => numF ls x && numF ls y
  | .bin _ x y => okS ls x && okS ls y
  | .cmp _ x y => okS ls x && okS ls y
  | .sel c x y => okS ls c && (okS ls x && okS ls y)
  | .cast _ (.lt l) => ls.contains l
  | .cast .. => false
def nest : Fm → Bool
  | .cast _ (.cast _ (.lt .a)) => true
  | _ => false
theorem rules_okS : ∀ r, r ∈ rules → okS r.1.lets r.2 = true ∧ (okS r.1.lets r.1 = true ∨ nest r.1 = true) ∧ r.2.flat.length ≤ 5 := by decide
section
variable {B : Ls} {ops : List Op} {ls : List Lt}
theorem numF_lb {F : Fm} {s : Nat} (h : numF ls F = true) (hl : ∀ l, l ∈ ls → ∃ e, lk B l = some e) (hb : LB B ops) : nOk B s F ∧ ∃ i : Nat, num B s F = i ∧ i < 18446744073709551616 := by
  cases F with
  | lt l =>
    simp only [numF, Bool.and_eq_true, List.contains_eq_mem, decide_eq_true_eq] at h
    obtain ⟨⟨o, s'⟩, he⟩ := hl l h.1
    obtain ⟨h1, h2, h3, h4⟩ := hb l o s' he
    have : ∃ i, o = .n i := by
      obtain ⟨_, hh⟩ := h
      simp at hh
      rcases hh with rfl | rfl | rfl
      · exact h3 (.inl rfl)
      · exact h3 (.inr rfl)
      · obtain ⟨k, _, e⟩ := h4 rfl; exact ⟨_, e⟩
    obtain ⟨i, rfl⟩ := this
    exact ⟨⟨i, s', he⟩, i, by simp [num, he], h2⟩
  | k0 => exact ⟨trivial, 0, rfl, by omega⟩
  | k1 => exact ⟨trivial, 1, rfl, by omega⟩
  | _ => simp [numF] at h
theorem pow64 : (2 : Nat) ^ 64 = 18446744073709551616 := rfl
theorem num_lb {F : Fm} {s : Nat} (hs : wOk s) (hn : F.isNum = true) (h : okS ls F = true) (hl : ∀ l, l ∈ ls → ∃ e, lk B l = some e) (hb : LB B ops) : nOk B s F ∧ ∃ i : Nat, num B s F = i ∧ i < 18446744073709551616 := by
  cases F with
  | k0 => exact ⟨trivial, 0, rfl, by omega⟩
  | k1 => exact ⟨trivial, 1, rfl, by omega⟩
  | km1 =>
    have h1 := Nat.pow_pos (n := s) (show 0 < 2 by decide)
    have h2 := Nat.pow_le_pow_right (n := 2) (by decide) hs.2
    exact ⟨trivial, 2 ^ s - 1, ones, by omega⟩
  | log x =>
    cases x with
    | lt l =>
      cases l with
      | p =>
        simp [okS] at h
        obtain ⟨⟨o, s'⟩, he⟩ := hl .p h
        obtain ⟨_, _, _, h4⟩ := hb .p o s' he
        obtain ⟨q, hq, rfl⟩ := h4 rfl
        have e1 : num B s (.lt .p) = 2 ^ q := by simp [num, he]
        refine ⟨⟨⟨_, s', he⟩, q, by omega, e1⟩, q, ?_, by omega⟩
        simp only [num] at e1 ⊢
        rw [e1, toNat_pow, log2_pow]
      | _ => simp [okS] at h
    | _ => simp [okS] at h
  | made o x y =>
    simp [okS] at h
    obtain ⟨n1, i1, e1, l1⟩ := numF_lb (s := s) h.1 hl hb
    obtain ⟨n2, i2, e2, l2⟩ := numF_lb (s := s) h.2 hl hb
    have h64 : n64 (num B s x) := by rw [e1]; unfold n64; omega
    refine ⟨⟨n1, n2, h64⟩, ?_⟩
    have hr : 0 ≤ num B s (.made o x y) ∧ num B s (.made o x y) < 18446744073709551616 := by
      simp only [num]
      have hp := pow_le64 hs.2
      have hm : ∀ z : Int, 0 ≤ z % 2 ^ s ∧ z % 2 ^ s < 18446744073709551616 := fun z => by have := mod_rng (a := z) (s := s); omega
      have hbit : ∀ o : Bo, (∀ s', told o s (num B s x) (num B s y) = told o s' (num B s x) (num B s y)) → (∃ z, told o s (num B s x) (num B s y) = some z) → 0 ≤ (told o s (num B s x) (num B s y)).getD 0 ∧ (told o s (num B s x) (num B s y)).getD 0 < 18446744073709551616 := by
        intro o h1 ⟨z, h2⟩
        have h3 := h2
        rw [h1 64] at h3
        have := told_rng (s := 64) (o := o) (by rw [e1]; omega) (by rw [e2]; omega) h3
        rw [h2]
        exact this
      cases o with
      | add => exact hm _
      | sub => exact hm _
      | mul => exact hm _
      | band => exact hbit .band (fun _ => rfl) ⟨_, rfl⟩
      | bor => exact hbit .bor (fun _ => rfl) ⟨_, rfl⟩
      | bxor => exact hbit .bxor (fun _ => rfl) ⟨_, rfl⟩
    exact ⟨(num B s (.made o x y)).toNat, by omega, by omega⟩
  | _ => simp [Fm.isNum] at hn
theorem wl_ok (hb : LB B ops) (Ks : List Fm) : ∀ s, s ∈ wl B Ks → wOk s := by
  induction Ks with
  | nil => intro s h; simp [wl] at h
  | cons F r ih =>
    intro s h
    cases hl : F.isLt with
    | false => rw [wl_no hl] at h; exact ih s h
    | true =>
      cases F with
      | lt l =>
        cases he : lk B l with
        | none => rw [wl_lt0 he] at h; exact ih s h
        | some e =>
          rw [wl_lt he] at h
          simp at h
          rcases h with rfl | h
          · exact (hb l e.1 e.2 he).1
          · exact ih s h
      | _ => simp [Fm.isLt] at hl
theorem wd0_ok {mid : Nat} (hb : LB B ops) (hm : wOk mid) (Ks : List Fm) : wOk (wd0 B Ks mid) := by
  have := wl_ok hb Ks
  unfold wd0
  split
  · exact hm
  · next e => exact this _ (by rw [e]; simp)
theorem lb_op {l : Lt} {o : Opr} {s : Nat} (hb : LB B ops) (h : lk B l = some (o, s)) : gOv ops.length o := by
  obtain ⟨_, h2, _⟩ := hb l o s h
  cases o with
  | n q => exact h2
  | v j => obtain ⟨t, ht⟩ := h2; exact (List.getElem?_eq_some_iff.mp ht).1
/-- what side_ops gives -/
def Sd (L : List Int) (bl : Int) (mid : Nat) (B : Ls) (k : Nat) (F : Fm) (s : Nat) (ops : List Op) : Prop := ∃ o ops', Call76 k F s L bl mid B ops o ops' ∧ OpsOk ops' ∧ LB B ops' ∧ ops <+: ops' ∧ ops'.length ≤ ops.length + F.flat.length ∧ gOv ops'.length o ∧ (F.isLt = false → F.isNum = false → ∃ j, o = .v j)
theorem c_side {L : List Int} {bl : Int} {mid : Nat} (hm : wOk mid) (hl : ∀ l, l ∈ ls → ∃ e, lk B l = some e) (hnd : Nd B) (hlen : B.length < 1000) (F : Fm) : ∀ (k s : Nat) (ops : List Op), okS ls F = true → F.ht ≤ 20 → F.ht + 8 ≤ k → wOk s → OpsOk ops → LB B ops → ops.length + F.flat.length ≤ 500 → Sd L bl mid B k F s ops := by
  have hlim : B.length < lim := by unfold lim; omega
  have numc : ∀ F : Fm, F.isNum = true → ∀ (k s : Nat) (ops : List Op), okS ls F = true → F.ht ≤ 20 → F.ht + 8 ≤ k → wOk s → OpsOk ops → LB B ops → Sd L bl mid B k F s ops := by
    intro F hn k s ops h h20 hk hs ho hb
    obtain ⟨j, rfl⟩ : ∃ j, k = j + 1 := ⟨k - 1, by omega⟩
    obtain ⟨h1, i, h2, h3⟩ := num_lb hs hn h hl hb
    exact ⟨.n i, ops, side_num hn h20 (by omega) hs hnd hlim h1 h2, ho, hb, List.prefix_refl _, by omega, h3, fun _ h => by rw [hn] at h; cases h⟩
  induction F with
  | lt l =>
    intro k s ops h _ hk hs ho hb hL
    obtain ⟨j, rfl⟩ : ∃ j, k = j + 1 := ⟨k - 1, by omega⟩
    simp [okS] at h
    obtain ⟨e, he⟩ := hl l h
    exact ⟨e.1, ops, side_lt he, ho, hb, List.prefix_refl _, by omega, lb_op hb (o := e.1) (s := e.2) he, fun h => by cases h⟩
  | k0 => intro k s ops h h20 hk hs ho hb hL; exact numc _ rfl k s ops h h20 hk hs ho hb
  | k1 => intro k s ops h h20 hk hs ho hb hL; exact numc _ rfl k s ops h h20 hk hs ho hb
  | km1 => intro k s ops h h20 hk hs ho hb hL; exact numc _ rfl k s ops h h20 hk hs ho hb
  | log x _ => intro k s ops h h20 hk hs ho hb hL; exact numc _ rfl k s ops h h20 hk hs ho hb
  | made o x y _ _ => intro k s ops h h20 hk hs ho hb hL; exact numc _ rfl k s ops h h20 hk hs ho hb
  | bin o x y ihx ihy =>
    intro k s ops h h20 hk hs ho hb hL
    obtain ⟨j, rfl⟩ : ∃ j, k = j + 1 := ⟨k - 1, by omega⟩
    simp [okS] at h
    have h20' := h20
    simp [Fm.ht, Fm.flat] at h20' hk hL
    obtain ⟨a, ops1, e1, o1, b1, p1, l1, g1, _⟩ := ihx j s ops h.1 (by omega) (by omega) hs ho hb (by omega)
    obtain ⟨b, ops2, e2, o2, b2, p2, l2, g2, _⟩ := ihy j s ops1 h.2 (by omega) (by omega) hs o1 b1 (by omega)
    have gA : gAt ops2.length (.bin o s a b) := ⟨by
      intro q hq
      simp [Op.args] at hq
      rcases hq with rfl | rfl
      · exact gOv_mono p2.length_le g1
      · exact g2, by simpa [Op.asked] using hs, hs⟩
    refine ⟨_, _, side_bin h20 (by omega) e1 e2, opsOk_snoc o2 gA (by intro _ _ _ _ _ _ _ _ h; cases h), LB_mono ⟨[_], rfl⟩ b2, p1.trans (p2.trans ⟨[_], rfl⟩), by simp [Fm.flat]; omega, ?_, fun _ _ => ⟨_, rfl⟩⟩
    show ops2.length < (ops2 ++ [_]).length
    simp
  | cmp o x y ihx ihy =>
    intro k s ops h h20 hk hs ho hb hL
    obtain ⟨j, rfl⟩ : ∃ j, k = j + 1 := ⟨k - 1, by omega⟩
    simp [okS] at h
    have h20' := h20
    simp [Fm.ht, Fm.flat] at h20' hk hL
    have hw := wd0_ok hb hm [x, y]
    obtain ⟨a, ops1, e1, o1, b1, p1, l1, g1, _⟩ := ihx j _ ops h.1 (by omega) (by omega) hw ho hb (by omega)
    obtain ⟨b, ops2, e2, o2, b2, p2, l2, g2, _⟩ := ihy j _ ops1 h.2 (by omega) (by omega) hw o1 b1 (by omega)
    have gA : gAt ops2.length (.cmp o (wd0 B [x, y] mid) a b) := ⟨by
      intro q hq
      simp [Op.args] at hq
      rcases hq with rfl | rfl
      · exact gOv_mono p2.length_le g1
      · exact g2, by simpa [Op.asked] using hw, ⟨by simp [Op.made], by simp [Op.made]⟩⟩
    refine ⟨_, _, side_cmp h20 (by omega) e1 e2, opsOk_snoc o2 gA (by intro _ _ _ _ _ _ _ _ h; cases h), LB_mono ⟨[_], rfl⟩ b2, p1.trans (p2.trans ⟨[_], rfl⟩), by simp [Fm.flat]; omega, ?_, fun _ _ => ⟨_, rfl⟩⟩
    show ops2.length < (ops2 ++ [_]).length
    simp
  | sel c x y ihc ihx ihy =>
    intro k s ops h h20 hk hs ho hb hL
    obtain ⟨j, rfl⟩ : ∃ j, k = j + 1 := ⟨k - 1, by omega⟩
    simp [okS] at h
    have h20' := h20
    simp [Fm.ht, Fm.flat] at h20' hk hL
    have hw1 : wOk 1 := ⟨by omega, by omega⟩
    obtain ⟨a, ops1, e1, o1, b1, p1, l1, g1, _⟩ := ihc j 1 ops h.1 (by omega) (by omega) hw1 ho hb (by omega)
    obtain ⟨b, ops2, e2, o2, b2, p2, l2, g2, _⟩ := ihx j s ops1 h.2.1 (by omega) (by omega) hs o1 b1 (by omega)
    obtain ⟨d, ops3, e3, o3, b3, p3, l3, g3, _⟩ := ihy j s ops2 h.2.2 (by omega) (by omega) hs o2 b2 (by omega)
    have gA : gAt ops3.length (.sel s a b d) := ⟨by
      intro q hq
      simp [Op.args] at hq
      rcases hq with rfl | rfl | rfl
      · exact gOv_mono (p2.trans p3).length_le g1
      · exact gOv_mono p3.length_le g2
      · exact g3, by
      intro q hq
      simp [Op.asked] at hq
      rcases hq with rfl | rfl
      · exact hw1
      · exact hs, hs⟩
    refine ⟨_, _, side_sel h20 (by omega) e1 e2 e3, opsOk_snoc o3 gA (by intro _ _ _ _ _ _ _ _ h; cases h), LB_mono ⟨[_], rfl⟩ b3, p1.trans (p2.trans (p3.trans ⟨[_], rfl⟩)), by simp [Fm.flat]; omega, ?_, fun _ _ => ⟨_, rfl⟩⟩
    show ops3.length < (ops3 ++ [_]).length
    simp
  | cast o x _ =>
    intro k s ops h h20 hk hs ho hb hL
    cases x with
    | lt l =>
      obtain ⟨j, rfl⟩ : ∃ j, k = j + 2 := ⟨k - 2, by omega⟩
      simp [okS] at h
      simp [Fm.ht, Fm.flat] at hL
      obtain ⟨⟨q, sl⟩, he⟩ := hl l h
      have hw := wd0_ok hb hm [.lt l]
      have e1 : Call76 (j + 1) (.lt l) (wd0 B [.lt l] mid) L bl mid B ops q ops := side_lt (e := (q, sl)) he
      have g1 := lb_op hb he
      have gA : gAt ops.length (.cast o (wd0 B [.lt l] mid) s q) := ⟨by
        intro q' hq
        simp [Op.args] at hq
        subst hq
        exact g1, by simpa [Op.asked] using hw, hs⟩
      refine ⟨_, _, side_cast h20 (by omega) e1, opsOk_snoc ho gA ?_, LB_mono ⟨[_], rfl⟩ hb, ⟨[_], rfl⟩, by simp [Fm.flat], ?_, fun _ _ => ⟨_, rfl⟩⟩
      · intro o1 lo hi j' o' lo' hi' x' h1 h2
        injection h1 with _ _ _ h1
        subst h1
        obtain ⟨_, h3, _⟩ := hb l _ _ he
        obtain ⟨t, ht⟩ := h3
        rw [ht] at h2
        cases h2
      · show ops.length < (ops ++ [_]).length
        simp
    | _ => simp [okS] at h
theorem c_side_nest {L : List Int} {bl : Int} {mid k s : Nat} {o o' : Ca} {l : Lt} {q : Opr} {sl : Nat} (hm : wOk mid) (hk : 12 ≤ k) (hs : wOk s) (ho : OpsOk ops) (hb : LB B ops) (hL : ops.length ≤ 400) (he : lk B l = some (q, sl)) (hc : sl ≤ mid ∨ s ≤ mid) : Sd L bl mid B k (.cast o (.cast o' (.lt l))) s ops := by
  obtain ⟨j, rfl⟩ : ∃ j, k = j + 3 := ⟨k - 3, by omega⟩
  have hsl := (hb l q sl he).1
  have w1 : wd0 B [.lt l] mid = sl := by unfold wd0; rw [wl_lt he]
  have w2 : wd0 B [.cast o' (.lt l)] mid = mid := by unfold wd0; rw [wl_no rfl]; rfl
  have e0 : Call76 (j + 1) (.lt l) (wd0 B [.lt l] mid) L bl mid B ops q ops := side_lt (e := (q, sl)) he
  have e1 := side_cast (o := o') (s := mid) (by simp [Fm.ht]) (by omega) e0
  rw [w1] at e1
  have e1' : Call76 (j + 1 + 1) (.cast o' (.lt l)) (wd0 B [.cast o' (.lt l)] mid) L bl mid B ops (.v ops.length) (ops ++ [.cast o' sl mid q]) := by rw [w2]; exact e1
  have e2 := side_cast (o := o) (s := s) (by simp [Fm.ht]) (by simp; omega) e1'
  rw [w2] at e2
  have g1 := lb_op hb he
  have gA : gAt ops.length (.cast o' sl mid q) := ⟨by
    intro q' hq
    simp [Op.args] at hq
    subst hq
    exact g1, by simpa [Op.asked] using hsl, hm⟩
  have o1 : OpsOk (ops ++ [.cast o' sl mid q]) := by
    refine opsOk_snoc ho gA ?_
    intro o1 lo hi j' o' lo' hi' x' h1 h2
    injection h1 with _ _ _ h1
    subst h1
    obtain ⟨_, h3, _⟩ := hb l _ _ he
    obtain ⟨t, ht⟩ := h3
    rw [ht] at h2
    cases h2
  have gB : gAt (ops ++ [Op.cast o' sl mid q]).length (.cast o mid s (.v ops.length)) := ⟨by
    intro q' hq
    simp [Op.args] at hq
    subst hq
    show ops.length < _
    simp, by simpa [Op.asked] using hm, hs⟩
  refine ⟨_, _, e2, opsOk_snoc o1 gB ?_, LB_mono ⟨[Op.cast o' sl mid q, Op.cast o mid s (.v ops.length)], by simp⟩ hb, ⟨[Op.cast o' sl mid q, Op.cast o mid s (.v ops.length)], by simp⟩, by simp [Fm.flat], ?_, fun _ _ => ⟨_, rfl⟩⟩
  · intro o1 lo hi j' o2 lo' hi' x' h1 h2
    injection h1 with _ _ h3 h1
    injection h1 with h1
    subst h1 h3
    simp at h2
    obtain ⟨_, rfl, rfl, _⟩ := h2
    exact hc
  · show (ops ++ [_]).length < ((ops ++ [_]) ++ [_]).length
    simp
end
end Mi
end
section
/-! Mf6: after_rule: the widths. -/
namespace Mi
open PySem
theorem kss_app {cl : Cl} {a b : List IS} {x : Option ((Out × Env) × Mem)} (ih : ∀ env mem, evSs cl (a ++ b) env mem = kSs b cl (evSs cl a env mem)) : kSs (a ++ b) cl x = kSs b cl (kSs a cl x) := by
  cases x with
  | none => rfl
  | some q =>
    obtain ⟨⟨o, env⟩, m⟩ := q
    cases o with
    | next => exact ih env m
    | ret w => rfl
    | retT w => rfl
theorem ess_app {cl : Cl} {b : List IS} : ∀ (a : List IS) (env : Env) (mem : Mem), evSs cl (a ++ b) env mem = kSs b cl (evSs cl a env mem) := by
  intro a
  induction a with
  | nil => intro env mem; rfl
  | cons s r ih =>
    intro env mem
    show kSs (r ++ b) cl (evS cl s env mem) = kSs b cl (kSs r cl (evS cl s env mem))
    exact kss_app ih
def castL : IR := .lstF [.con (.str [.zext]), .con (.str [.sext]), .con (.str [.trunc])]
def cmpL : IR := .lstF [.con (.str [.eq]), .con (.str [.ne]), .con (.str [.ult]), .con (.str [.ule]), .con (.str [.slt]), .con (.str [.sle])]
def ar1 : List IS := [
    .asgT [.nm 8, .nm 9] (.lc [12] (.nm 12) .e [.var 1] [] (.call 68 [.meth .split (.var 12) []])),
    .asgP [10, 2, 11] [.call 43 [.var 0, .lstF [.con (.int 1), .con (.int 8), .con (.int 8), .con (.int 32), .con (.int 64)]], .con .non, .lstM [.lstM [], .con (.int 0), .con (.int 8)]],
    .asg (.nm 2) (.var 10),
    .iff (.cmp .inn (.ix (.var 8) (.con (.int 0))) castL)
     [.asgT [.nm 10, .sub (.var 11) (.con (.int 2)), .nm 2] (.call 43 [.var 0, .lstF [.tup [.con (.int 8), .con (.int 16), .con (.int 32)], .tup [.con (.int 1), .con (.int 8), .con (.int 16)], .tup [.con (.int 8), .con (.int 32), .con (.int 64)], .tup [.con (.int 32), .con (.int 16), .con (.int 8)], .tup [.con (.int 8), .con (.int 16), .con (.int 8)], .tup [.con (.int 8), .con (.int 16), .con (.int 1)]]])]
     [],
    .iff (.cmp .inn (.ix (.var 8) (.con (.int 0))) cmpL)
     [.asg (.nm 2) (.con (.int 1))]
     [],
    .asg (.sub (.var 11) (.con (.int 2))) (.ite (.cmp .inn (.ix (.var 8) (.con (.int 0))) castL) (.ix (.var 11) (.con (.int 2))) (.var 10)),
    .asg (.nm 3) (.dctM)]
def env7 (r : Fm × Fm) (wd low : Nat) : Env := [some (.r 1), some (.d (ruleD r)), some (.d (.int wd)), some (.r 4), none, none, none, none, some (.d r.1.L), some (.d r.2.L), some (.d (.int low)), some (.r 3), none, none, none, none, none]
theorem w1 : wOk 1 := ⟨by omega, by omega⟩
theorem w8 : wOk 8 := ⟨by omega, by omega⟩
theorem w16 : wOk 16 := ⟨by omega, by omega⟩
theorem w32 : wOk 32 := ⟨by omega, by omega⟩
theorem w64 : wOk 64 := ⟨by omega, by omega⟩
theorem ixN3 : L2.ixN 3 2 = some 2 := rfl
/-- one of some widths -/
theorem c_ofW {k : Nat} {L : List Int} {bl : Int} {rest : Mem} {ws : List Nat} (hd : DOk L bl) (hr : rest.all (inC (rest.length + 2)) = true) (hb : ws ≠ []) (hb' : ws.length ≤ 1000) (hw : ∀ w, w ∈ ws → wOk w) : ∃ (L' : List Int) (bl' : Int) (w : Nat), callF tab (k + 2) 43 [.r 1, .d (.lst (ws.map intD))] (DM L bl rest) = some (.d (.int w), DM L' bl' rest) ∧ wOk w ∧ DOk L' bl' := by
  obtain ⟨L', bl', j, x, e, hx, d⟩ := c_of (k := k) (xs := ws.map intD) hd hr (by simpa using hb) (by simpa using hb')
  obtain ⟨w, hm, rfl⟩ := List.mem_map.mp (List.mem_of_getElem? hx)
  exact ⟨L', bl', w, e, hw w hm, d⟩
def triD (t : Nat × Nat × Nat) : D := .tup [.int t.1, .int t.2.1, .int t.2.2]
def tris : List (Nat × Nat × Nat) := [(8, 16, 32), (1, 8, 16), (8, 32, 64), (32, 16, 8), (8, 16, 8), (8, 16, 1)]
theorem tris_ok : ∀ t, t ∈ tris → (1 ≤ t.1 ∧ t.1 ≤ 64) ∧ (1 ≤ t.2.1 ∧ t.2.1 ≤ 64) ∧ (1 ≤ t.2.2 ∧ t.2.2 ≤ 64) ∧ (t.1 ≤ t.2.1 ∨ t.2.2 ≤ t.2.1) := by decide
theorem ws_ok : ∀ w, w ∈ [1, 8, 8, 32, 64] → (1 ≤ w ∧ w ≤ 64) := by decide
theorem nest_cast {F : Fm} (h : nest F = true) : Wd.zext = F.w ∨ Wd.sext = F.w ∨ Wd.trunc = F.w := by
  cases F with
  | cast o x => exact (ca_w o).1
  | _ => simp [nest] at h
theorem ar1_ok {k : Nat} {r : Fm × Fm} {L : List Int} {bl : Int} (hr : r ∈ rules) (hd : DOk L bl) : ∃ (L' : List Int) (bl' : Int) (low mid wd : Nat), evSs (callF tab (k + 6)) ar1 [some (.r 1), some (.d (ruleD r)), none, none, none, none, none, none, none, none, none, none, none, none, none, none, none] (DM L bl []) = some ((.next, env7 r wd low), Sm L' bl' [] mid []) ∧ DOk L' bl' ∧ wOk low ∧ wOk mid ∧ wOk wd ∧ (nest r.1 = true → low ≤ mid ∨ wd ≤ mid) := by
  have hsp := sides_mem r hr
  have hht := rules_ht r hr
  have h68a := c_readL (k := k + 5) (F := r.1) (okDM (L := L) (bl := bl) (rest := []) rfl) (by omega)
  have h68b := c_readL (k := k + 5) (F := r.2) (okDM (L := L) (bl := bl) (rest := []) rfl) (by omega)
  have h2lim : 2 < lim := by unfold lim; omega
  obtain ⟨L1, b1, low0, e1, hlow0, d1⟩ := c_ofW (k := k + 4) (rest := []) (ws := [1, 8, 8, 32, 64]) hd rfl (by simp) (by simp) ws_ok
  rw [L_eq r.1] at h68a
  by_cases hc : Wd.zext = r.1.w ∨ Wd.sext = r.1.w ∨ Wd.trunc = r.1.w
  · have hm : ¬ (Wd.eq = r.1.w ∨ Wd.ne = r.1.w ∨ Wd.ult = r.1.w ∨ Wd.ule = r.1.w ∨ Wd.slt = r.1.w ∨ Wd.sle = r.1.w) := by
      rcases hc with h | h | h <;> rw [← h] <;> simp
    obtain ⟨L2, b2, j2, x2, e2, hx2, d2⟩ := c_of (k := k + 4) (rest := [.lst [], .obj [.r 2, .d (.int 0), .d (.int 8)]]) (xs := tris.map triD) d1 rfl (by simp [tris]) (by simp [tris])
    obtain ⟨⟨lo, mi, wi⟩, ht, rfl⟩ := List.mem_map.mp (List.mem_of_getElem? hx2)
    obtain ⟨q1, q2, q3, q4⟩ := tris_ok _ ht
    refine ⟨L2, b2, lo, mi, wi, ?_, d2, q1, q2, q3, fun _ => q4⟩
    unfold Sm env7 ruleD
    unfold DM at *
    simp [intD] at e1
    simp [tris, triD] at e2
    simp [ar1, castL, cmpL, turns_cons, lcT1, wipeE, mSplit hsp.1, mSplit hsp.2, tySplit, h68a, h68b, snoc, h2lim, e1, shp_ca, shp_co, hc, hm, e2, ixN3, lsD, opsD, L_eq r.1]
  · by_cases hm : Wd.eq = r.1.w ∨ Wd.ne = r.1.w ∨ Wd.ult = r.1.w ∨ Wd.ule = r.1.w ∨ Wd.slt = r.1.w ∨ Wd.sle = r.1.w
    · refine ⟨L1, b1, low0, low0, 1, ?_, d1, hlow0, hlow0, w1, fun h => absurd (nest_cast h) hc⟩
      unfold Sm env7 ruleD
      unfold DM at *
      simp [intD] at e1
      simp [ar1, castL, cmpL, turns_cons, lcT1, wipeE, mSplit hsp.1, mSplit hsp.2, tySplit, h68a, h68b, snoc, h2lim, e1, shp_ca, shp_co, hc, hm, ixN3, lsD, opsD, L_eq r.1]
    · refine ⟨L1, b1, low0, low0, low0, ?_, d1, hlow0, hlow0, hlow0, fun h => absurd (nest_cast h) hc⟩
      unfold Sm env7 ruleD
      unfold DM at *
      simp [intD] at e1
      simp [ar1, castL, cmpL, turns_cons, lcT1, wipeE, mSplit hsp.1, mSplit hsp.2, tySplit, h68a, h68b, snoc, h2lim, e1, shp_ca, shp_co, hc, hm, ixN3, lsD, opsD, L_eq r.1]
end Mi
end
section
/-! Mf7: after_rule: the letters. -/
namespace Mi
open PySem
def abcL : IR := .lstF [.con (.str [.a]), .con (.str [.b]), .con (.str [.c])]
def letL : IR := .lstF [.con (.str [.a]), .con (.str [.b]), .con (.str [.c]), .con (.str [.m]), .con (.str [.n]), .con (.str [.p])]
def letB : List IS := [
  .asg (.nm 13) (.ite (.cmp .eq (.var 4) (.con (.str [.c]))) (.con (.int 1)) (.var 10)),
  .asg (.nm 14) (.tup [.con (.str [.n]), .ite (.andL [.cmp .eq (.var 4) (.con (.str [.p])), .cmp .gt (.call 42 [.var 0, .con (.int 5)]) (.con (.int 0))]) (.call 44 [.call 42 [.var 0, .var 13]]) (.call 45 [.var 0, .var 13])]),
  .iff (.andL [.cmp .inn (.var 4) abcL, .cmp .gt (.call 42 [.var 0, .con (.int 4)]) (.con (.int 0))])
   [.expr (.meth .append (.ix (.var 11) (.con (.int 0))) [.tup [.ix (.var 11) (.con (.int 1)), .con (.str [.input]), .tup [.var 13], .tup []]]),
    .asgD [.nm 14, .sub (.var 11) (.con (.int 1))] [.tup [.con (.str [.v]), .ix (.var 11) (.con (.int 1))], .bin .add (.ix (.var 11) (.con (.int 1))) (.con (.int 1))]]
   [],
  .asg (.sub (.var 3) (.var 4)) (.tup [.var 14, .var 13])]
def En (r : Fm × Fm) (wd low : Nat) (x4 x5 x6 x7 x13 x14 x15 : Option W) : Env := [some (.r 1), some (.d (ruleD r)), some (.d (.int wd)), some (.r 4), x4, x5, x6, x7, some (.d r.1.L), some (.d r.2.L), some (.d (.int low)), some (.r 3), none, x13, x14, x15, none]
theorem shp_abc : shp (.lst [.str [.a], .str [.b], .str [.c]]) = true := rfl
theorem shp_let : shp (.lst [.str [.a], .str [.b], .str [.c], .str [.m], .str [.n], .str [.p]]) = true := rfl
def sOf (l : Lt) (low : Nat) : Nat := if l = .c then 1 else low
theorem pow_le64n {w : Nat} (h : wOk w) : 2 ^ w ≤ 18446744073709551616 := by have := pow_le64 h.2; have := pow_cast w; omega
theorem rest_ok {a : List D} {n m : D} {kvs : List (Ky × D)} : ([.lst a, .obj [.r 2, .d n, .d m], .dct kvs] : Mem).all (inC (([.lst a, .obj [.r 2, .d n, .d m], .dct kvs] : Mem).length + 2)) = true := by simp [inC]
theorem ixN31 : L2.ixN 3 1 = some 1 := rfl
section
variable {k : Nat} {r : Fm × Fm} {wd low mid : Nat} {L : List Int} {bl : Int} {ops : List Op} {B : Ls} {l : Lt} {x5 x6 x7 x13 x14 x15 : Option W}
def LetRes (k : Nat) (r : Fm × Fm) (wd low mid : Nat) (L : List Int) (bl : Int) (ops : List Op) (B : Ls) (l : Lt) (x5 x6 x7 x13 x14 x15 : Option W) : Prop :=
    ∃ (L' : List Int) (bl' : Int) (ops' : List Op) (o : Opr) (x14' : Option W), evSs (callF tab (k + 4)) letB (En r wd low (some (.d (.str [l.w]))) x5 x6 x7 x13 x14 x15) (Sm L bl ops mid B) = some ((.next, En r wd low (some (.d (.str [l.w]))) x5 x6 x7 (some (.d (.int (sOf l low)))) x14' x15), Sm L' bl' ops' mid (B ++ [(l, o, sOf l low)])) ∧ DOk L' bl' ∧ ((ops' = ops ∧ ∃ q, q < 18446744073709551616 ∧ o = .n q) ∨ ((l = .a ∨ l = .b ∨ l = .c) ∧ ops' = ops ++ [.inp (sOf l low)] ∧ o = .v ops.length))
theorem let_mn (h : l = .m ∨ l = .n) (hd : DOk L bl) (hlow : wOk low) (hb : lk B l = none) (hB : B.length ≤ 100) : LetRes k r wd low mid L bl ops B l x5 x6 x7 x13 x14 x15 := by
  have hlk := lk_ls (B := B) (l := l)
  rw [hb] at hlk
  have hput := fun x => putD_none (x := x) hlk
  have hBl : (lsD B).length < lim := by rw [lsD_len]; unfold lim; omega
  obtain ⟨L1, b1, q, e1, hq, d1⟩ := c_number (k := k + 1) (w := low) (rest := [.lst (opsD 0 ops), .obj [.r 2, .d (.int ops.length), .d (.int mid)], .dct (lsD B)]) hd rest_ok hlow
  have hp := pow_le64n hlow
  refine ⟨L1, b1, ops, .n q, some (.d (Opr.n q).D), ?_, d1, .inl ⟨rfl, q, by omega, rfl⟩⟩
  unfold Sm En
  unfold DM at *
  rcases h with rfl | rfl <;> simp [Lt.w] at hput <;> simp [letB, abcL, shp_abc, Lt.w, e1, sOf, hput, hBl, lsD_app, prL, Opr.D]
theorem let_p (hd : DOk L bl) (hlow : wOk low) (hb : lk B .p = none) (hB : B.length ≤ 100) : LetRes k r wd low mid L bl ops B .p x5 x6 x7 x13 x14 x15 := by
  have hlk := lk_ls (B := B) (l := .p)
  rw [hb] at hlk
  have hput := fun x => putD_none (x := x) hlk
  have hBl : (lsD B).length < lim := by rw [lsD_len]; unfold lim; omega
  have hp := pow_le64n hlow
  obtain ⟨L1, b1, q1, e1, hq1, d1⟩ := c_any (k := k + 3) (b := 5) (rest := [.lst (opsD 0 ops), .obj [.r 2, .d (.int ops.length), .d (.int mid)], .dct (lsD B)]) hd rest_ok (by omega) (by omega)
  by_cases h0 : q1 = 0
  · obtain ⟨L2, b2, q, e2, hq, d2⟩ := c_number (k := k + 1) (w := low) (rest := [.lst (opsD 0 ops), .obj [.r 2, .d (.int ops.length), .d (.int mid)], .dct (lsD B)]) d1 rest_ok hlow
    refine ⟨L2, b2, ops, .n q, some (.d (Opr.n q).D), ?_, d2, .inl ⟨rfl, q, by omega, rfl⟩⟩
    subst h0
    unfold Sm En
    unfold DM at *
    simp [Lt.w] at hput e1
    simp [letB, abcL, shp_abc, Lt.w, e1, e2, sOf, hput, hBl, lsD_app, prL, Opr.D]
  · obtain ⟨L2, b2, q, e2, hq, d2⟩ := c_any (k := k + 3) (b := low) (rest := [.lst (opsD 0 ops), .obj [.r 2, .d (.int ops.length), .d (.int mid)], .dct (lsD B)]) d1 rest_ok (by have := hlow.1; omega) (by have := hlow.2; omega)
    have h44 := c_power (k := k + 3) (w := q) (mem := DM L2 b2 [.lst (opsD 0 ops), .obj [.r 2, .d (.int ops.length), .d (.int mid)], .dct (lsD B)]) (okDM rest_ok) (by have := hlow.2; omega)
    have hlt : 2 ^ q < 2 ^ low := Nat.pow_lt_pow_right (by decide) hq
    have hpos : 0 < q1 := by omega
    refine ⟨L2, b2, ops, .n (2 ^ q), some (.d (Opr.n (2 ^ q)).D), ?_, d2, .inl ⟨rfl, 2 ^ q, by omega, rfl⟩⟩
    unfold Sm En
    unfold DM at *
    simp [Lt.w] at hput e1
    simp [letB, abcL, shp_abc, Lt.w, e1, e2, h44, hpos, sOf, hput, hBl, lsD_app, prL, Opr.D]
theorem let_abc (h : l = .a ∨ l = .b ∨ l = .c) (hd : DOk L bl) (hlow : wOk low) (hb : lk B l = none) (hl : ops.length ≤ 100) (hB : B.length ≤ 100) : LetRes k r wd low mid L bl ops B l x5 x6 x7 x13 x14 x15 := by
  have hlk := lk_ls (B := B) (l := l)
  rw [hb] at hlk
  have hput := fun x => putD_none (x := x) hlk
  have hBl : (lsD B).length < lim := by rw [lsD_len]; unfold lim; omega
  have hol : (opsD 0 ops).length < lim := by rw [opsD_length]; unfold lim; omega
  have hs : wOk (sOf l low) := by
    unfold sOf
    split
    · exact w1
    · exact hlow
  have hp := pow_le64n hs
  obtain ⟨L1, b1, q, e1, hq, d1⟩ := c_number (k := k + 1) (w := sOf l low) (rest := [.lst (opsD 0 ops), .obj [.r 2, .d (.int ops.length), .d (.int mid)], .dct (lsD B)]) hd rest_ok hs
  obtain ⟨L2, b2, q2, e2, hq2, d2⟩ := c_any (k := k + 3) (b := 4) (rest := [.lst (opsD 0 ops), .obj [.r 2, .d (.int ops.length), .d (.int mid)], .dct (lsD B)]) d1 rest_ok (by omega) (by omega)
  by_cases h0 : q2 = 0
  · refine ⟨L2, b2, ops, .n q, some (.d (Opr.n q).D), ?_, d2, .inl ⟨rfl, q, by omega, rfl⟩⟩
    subst h0
    unfold Sm En
    unfold DM at *
    rcases h with rfl | rfl | rfl <;> simp [Lt.w, sOf] at hput e1 e2 <;> simp [letB, abcL, shp_abc, Lt.w, e1, e2, sOf, hput, hBl, lsD_app, prL, Opr.D]
  · have hpos : 0 < q2 := by omega
    refine ⟨L2, b2, ops ++ [.inp (sOf l low)], .v ops.length, some (.d (Opr.v ops.length).D), ?_, d2, .inr ⟨h, rfl, rfl⟩⟩
    unfold Sm En
    unfold DM at *
    rcases h with rfl | rfl | rfl <;> simp [Lt.w, sOf] at hput e1 e2 <;> simp [letB, abcL, shp_abc, Lt.w, e1, e2, hpos, sOf, hput, hBl, hol, lsD_app, prL, Opr.D, mthTy, mAppend, ixN31, opsD_snoc0, opD, Op.kind, Op.info, Op.args]
theorem let_step (hd : DOk L bl) (hlow : wOk low) (hb : lk B l = none) (hl : ops.length ≤ 100) (hB : B.length ≤ 100) : LetRes k r wd low mid L bl ops B l x5 x6 x7 x13 x14 x15 := by
  cases l with
  | a => exact let_abc (.inl rfl) hd hlow hb hl hB
  | b => exact let_abc (.inr (.inl rfl)) hd hlow hb hl hB
  | c => exact let_abc (.inr (.inr rfl)) hd hlow hb hl hB
  | m => exact let_mn (.inl rfl) hd hlow hb hB
  | n => exact let_mn (.inr rfl) hd hlow hb hB
  | p => exact let_p hd hlow hb hB
end
end Mi
end
section
/-! Mf8: after_rule: the loops over the letters. -/
namespace Mi
open PySem
def LB0 (B : Ls) (ops : List Op) : Prop := ∀ l o s, lk B l = some (o, s) → wOk s ∧ (match o with
  | .n q => q < 18446744073709551616
  | .v j => ∃ t, ops[j]? = some (.inp t)) ∧ ((l = .m ∨ l = .n ∨ l = .p) → ∃ q, o = .n q)
theorem LB0_mono {B : Ls} {ops ops' : List Op} (h : ops <+: ops') (hb : LB0 B ops) : LB0 B ops' := by
  intro l o s e
  obtain ⟨h1, h2, h3⟩ := hb l o s e
  refine ⟨h1, ?_, h3⟩
  cases o with
  | n q => exact h2
  | v j => obtain ⟨t, ht⟩ := h2; exact ⟨t, pre_get h ht⟩
structure LI (low : Nat) (B : Ls) (ops : List Op) (n : Nat) : Prop where
  nd : Nd B
  len : B.length ≤ n
  ol : ops.length ≤ n
  ok : OpsOk ops
  lb : LB0 B ops
  so : ∀ l o s, lk B l = some (o, s) → s = sOf l low
theorem sOf_ok {l : Lt} {low : Nat} (h : wOk low) : wOk (sOf l low) := by
  unfold sOf
  split
  · exact w1
  · exact h
theorem li_step {low n : Nat} {B : Ls} {ops ops' : List Op} {l : Lt} {o : Opr} (hlow : wOk low) (h : LI low B ops n) (hb : lk B l = none) (hs : (ops' = ops ∧ ∃ q, q < 18446744073709551616 ∧ o = .n q) ∨ ((l = .a ∨ l = .b ∨ l = .c) ∧ ops' = ops ++ [.inp (sOf l low)] ∧ o = .v ops.length)) : LI low (B ++ [(l, o, sOf l low)]) ops' (n + 1) := by
  have hw := sOf_ok (l := l) hlow
  have hnd : Nd (B ++ [(l, o, sOf l low)]) := by
    unfold Nd
    rw [List.map_append, List.nodup_append]
    refine ⟨h.nd, by simp, ?_⟩
    intro a ha b hb' e
    simp at hb'
    subst hb' e
    exact lk_none_mem hb ha
  have hso : ∀ l' o' s', lk (B ++ [(l, o, sOf l low)]) l' = some (o', s') → s' = sOf l' low := by
    intro l' o' s' e
    rw [lk_app hb] at e
    split at e
    · next hl => simp at e; obtain ⟨_, rfl⟩ := e; rw [hl]
    · exact h.so l' o' s' e
  rcases hs with ⟨rfl, q, hq, rfl⟩ | ⟨hl, rfl, rfl⟩
  · refine ⟨hnd, by have := h.len; simp; omega, by have := h.ol; omega, h.ok, ?_, hso⟩
    intro l' o' s' e
    rw [lk_app hb] at e
    split at e
    · simp at e; obtain ⟨rfl, rfl⟩ := e; exact ⟨hw, hq, fun _ => ⟨q, rfl⟩⟩
    · exact h.lb l' o' s' e
  · refine ⟨hnd, by have := h.len; simp; omega, by have := h.ol; simp; omega, ?_, ?_, hso⟩
    · exact opsOk_snoc h.ok ⟨by simp [Op.args], by simp [Op.asked], hw⟩ (by intro _ _ _ _ _ _ _ _ h; cases h)
    · intro l' o' s' e
      rw [lk_app hb] at e
      split at e
      · next hl' =>
        simp at e
        obtain ⟨rfl, rfl⟩ := e
        subst hl'
        refine ⟨hw, ⟨sOf l low, by simp⟩, ?_⟩
        intro h3
        rcases hl with rfl | rfl | rfl <;> simp at h3
      · exact LB0_mono ⟨[_], rfl⟩ h.lb l' o' s' e
def forB : List IS := [.iff (.andL [.cmp .inn (.var 4) letL, .cmp .nin (.var 4) (.var 3)]) letB []]
theorem lt_or (w : Wd) : (∃ l : Lt, w = l.w) ∨ ∀ l : Lt, l.w ≠ w := by
  by_cases h : ∃ l : Lt, w = l.w
  · exact .inl h
  · exact .inr fun l e => h ⟨l, e.symm⟩
theorem loop_letters {k : Nat} {r : Fm × Fm} {wd low mid : Nat} {x5 x6 x7 x15 : Option W} (hlow : wOk low) (ws : List Wd) : ∀ (L : List Int) (bl : Int) (ops : List Op) (B : Ls) (n : Nat) (x4 x13 x14 : Option W), DOk L bl → LI low B ops n → n + ws.length ≤ 50 →
    ∃ (L' : List Int) (bl' : Int) (ops' : List Op) (B' : Ls) (x4' x13' x14' : Option W), loopF (fBody (callF tab (k + 4)) forB) (.nm 4) (ws.map str1) (En r wd low x4 x5 x6 x7 x13 x14 x15) (Sm L bl ops mid B) = some ((.next, En r wd low x4' x5 x6 x7 x13' x14' x15), Sm L' bl' ops' mid B') ∧ DOk L' bl' ∧ LI low B' ops' (n + ws.length) ∧ (∀ l e, lk B l = some e → lk B' l = some e) ∧ (∀ l : Lt, l.w ∈ ws → ∃ e, lk B' l = some e) := by
  induction ws with
  | nil => intro L bl ops B n x4 x13 x14 hd hI _; exact ⟨L, bl, ops, B, x4, x13, x14, rfl, hd, hI, fun _ _ h => h, by simp⟩
  | cons w ws ih =>
    intro L bl ops B n x4 x13 x14 hd hI hn
    simp only [List.length_cons] at hn
    have weak : ∀ {B ops}, LI low B ops n → LI low B ops (n + 1) := fun h => ⟨h.nd, by have := h.len; omega, by have := h.ol; omega, h.ok, h.lb, h.so⟩
    rcases lt_or w with ⟨l, rfl⟩ | hno
    · have hlk := lk_ls (B := B) (l := l)
      have hlet : Wd.a = l.w ∨ Wd.b = l.w ∨ Wd.c = l.w ∨ Wd.m = l.w ∨ Wd.n = l.w ∨ Wd.p = l.w := by cases l <;> simp [Lt.w]
      cases hb : lk B l with
      | some e =>
        rw [hb] at hlk
        obtain ⟨L', bl', ops', B', y4, y13, y14, e1, d', hI', h1, h2⟩ := ih L bl ops B (n + 1) (some (.d (.str [l.w]))) x13 x14 hd (weak hI) (by omega)
        refine ⟨L', bl', ops', B', y4, y13, y14, ?_, d', by rw [List.length_cons, show n + (ws.length + 1) = n + 1 + ws.length by omega]; exact hI', h1, ?_⟩
        · have step : loopF (fBody (callF tab (k + 4)) forB) (.nm 4) ((l.w :: ws).map str1) (En r wd low x4 x5 x6 x7 x13 x14 x15) (Sm L bl ops mid B) = loopF (fBody (callF tab (k + 4)) forB) (.nm 4) (ws.map str1) (En r wd low (some (.d (.str [l.w]))) x5 x6 x7 x13 x14 x15) (Sm L bl ops mid B) := by
            rw [List.map_cons, str1, loop_cons]
            unfold Sm DM En forB
            simp [letL, shp_let, hlet, hlk]
          rw [step, e1]
        · intro l' hl'
          simp only [List.mem_cons] at hl'
          rcases hl' with hl' | hl'
          · have : l' = l := ltw_inj.mp hl'
            subst this
            exact ⟨e, h1 _ _ hb⟩
          · exact h2 l' hl'
      | none =>
        rw [hb] at hlk
        obtain ⟨L1, b1, ops1, o, y14, e0, d1, hs⟩ := let_step (k := k) (ops := ops) (r := r) (wd := wd) (mid := mid) (x5 := x5) (x6 := x6) (x7 := x7) (x13 := x13) (x14 := x14) (x15 := x15) hd hlow hb (by have := hI.ol; omega) (by have := hI.len; omega)
        obtain ⟨L', bl', ops', B', y4, y13, z14, e1, d', hI', h1, h2⟩ := ih L1 b1 ops1 _ (n + 1) (some (.d (.str [l.w]))) (some (.d (.int (sOf l low)))) y14 d1 (li_step hlow hI hb hs) (by omega)
        refine ⟨L', bl', ops', B', y4, y13, z14, ?_, d', by rw [List.length_cons, show n + (ws.length + 1) = n + 1 + ws.length by omega]; exact hI', ?_, ?_⟩
        · have step : loopF (fBody (callF tab (k + 4)) forB) (.nm 4) ((l.w :: ws).map str1) (En r wd low x4 x5 x6 x7 x13 x14 x15) (Sm L bl ops mid B) = kLoop2 (callF tab (k + 4)) forB (.nm 4) (ws.map str1) (evSs (callF tab (k + 4)) letB (En r wd low (some (.d (.str [l.w]))) x5 x6 x7 x13 x14 x15) (Sm L bl ops mid B)) := by
            rw [List.map_cons, str1, loop_cons]
            have e2 : evSs (callF tab (k + 4)) forB (En r wd low (some (.d (.str [l.w]))) x5 x6 x7 x13 x14 x15) (Sm L bl ops mid B) = kSs [] (callF tab (k + 4)) (evSs (callF tab (k + 4)) letB (En r wd low (some (.d (.str [l.w]))) x5 x6 x7 x13 x14 x15) (Sm L bl ops mid B)) := by
              have c1 : evE (callF tab (k + 4)) (.andL [.cmp .inn (.var 4) letL, .cmp .nin (.var 4) (.var 3)]) (En r wd low (some (.d (.str [l.w]))) x5 x6 x7 x13 x14 x15) (Sm L bl ops mid B) = some (.d (.bl true), Sm L bl ops mid B) := by
                unfold Sm DM En
                simp [letL, shp_let, hlet, hlk]
              unfold forB
              rw [ess_cons, es_iff, c1, kIff_s, if_pos rfl]
            have e3 : setTg (.nm 4) (.str [l.w]) (En r wd low x4 x5 x6 x7 x13 x14 x15) = some (En r wd low (some (.d (.str [l.w]))) x5 x6 x7 x13 x14 x15) := rfl
            rw [e3, kLoop_s, e2, e0]
            simp
          rw [step, e0, kLoop2_n, e1]
        · intro l' e' he'
          refine h1 l' e' ?_
          rw [lk_app hb]
          split
          · next hl' => subst hl'; rw [hb] at he'; cases he'
          · exact he'
        · intro l' hl'
          simp only [List.mem_cons] at hl'
          rcases hl' with hl' | hl'
          · have : l' = l := ltw_inj.mp hl'
            subst this
            exact ⟨_, h1 _ (o, sOf _ low) (by rw [lk_app hb, if_pos rfl])⟩
          · exact h2 l' hl'
    · have q1 : ¬ Wd.a = w := hno .a
      have q2 : ¬ Wd.b = w := hno .b
      have q3 : ¬ Wd.c = w := hno .c
      have q4 : ¬ Wd.m = w := hno .m
      have q5 : ¬ Wd.n = w := hno .n
      have q6 : ¬ Wd.p = w := hno .p
      obtain ⟨L', bl', ops', B', y4, y13, y14, e1, d', hI', h1, h2⟩ := ih L bl ops B (n + 1) (some (.d (.str [w]))) x13 x14 hd (weak hI) (by omega)
      refine ⟨L', bl', ops', B', y4, y13, y14, ?_, d', by rw [List.length_cons, show n + (ws.length + 1) = n + 1 + ws.length by omega]; exact hI', h1, ?_⟩
      · have step : loopF (fBody (callF tab (k + 4)) forB) (.nm 4) ((w :: ws).map str1) (En r wd low x4 x5 x6 x7 x13 x14 x15) (Sm L bl ops mid B) = loopF (fBody (callF tab (k + 4)) forB) (.nm 4) (ws.map str1) (En r wd low (some (.d (.str [w]))) x5 x6 x7 x13 x14 x15) (Sm L bl ops mid B) := by
          rw [List.map_cons, str1, loop_cons]
          unfold Sm DM En forB
          simp [letL, shp_let, q1, q2, q3, q4, q5, q6]
        rw [step, e1]
      · intro l' hl'
        simp only [List.mem_cons] at hl'
        rcases hl' with hl' | hl'
        · exact absurd hl' (hno l')
        · exact h2 l' hl'
end Mi
end
section
/-! Mf9: after_rule: letters changed; the narrow width. -/
namespace Mi
open PySem
def upd (B : Ls) (l : Lt) (e : Opr × Nat) : Ls := B.map fun x => if x.1 = l then (l, e) else x
theorem upd_keys {B : Ls} {l : Lt} {e : Opr × Nat} : (upd B l e).map (·.1) = B.map (·.1) := by
  unfold upd
  rw [List.map_map]
  apply List.map_congr_left
  intro x _
  simp only [Function.comp]
  split
  · next h => exact h.symm
  · rfl
theorem lk_mem_keys {B : Ls} {l : Lt} : l ∈ B.map (·.1) ↔ ∃ e, lk B l = some e := by
  constructor
  · intro h
    cases hb : lk B l with
    | none => exact absurd h (lk_none_mem hb)
    | some e => exact ⟨e, rfl⟩
  · rintro ⟨e, h⟩
    exact List.mem_map.mpr ⟨_, lk_mem h, rfl⟩
theorem lk_upd {B : Ls} {l l' : Lt} {e : Opr × Nat} (h : l ∈ B.map (·.1)) : lk (upd B l e) l' = if l = l' then some e else lk B l' := by
  induction B with
  | nil => simp at h
  | cons x r ih =>
    unfold lk upd at *
    rw [List.map_cons, List.find?_cons, List.find?_cons]
    by_cases hx : x.1 = l
    · by_cases hl : l = l'
      · simp [hx, hl]
      · have hx' : ¬ x.1 = l' := fun q => hl (hx.symm.trans q)
        rw [if_pos hx, if_neg hl]
        simp only [hl, hx', decide_false]
        by_cases hm : l ∈ r.map (·.1)
        · have := ih hm
          rw [if_neg hl] at this
          exact this
        · have e1 : (List.map (fun x => if x.1 = l then (l, e) else x) r) = r := by
            conv => rhs; rw [← List.map_id r]
            apply List.map_congr_left
            intro y hy
            have : ¬ y.1 = l := fun q => hm (List.mem_map.mpr ⟨y, hy, q⟩)
            simp [this]
          rw [e1]
    · have hm : l ∈ r.map (·.1) := by
        simp only [List.map_cons, List.mem_cons] at h
        rcases h with h | h
        · exact absurd h.symm hx
        · exact h
      have := ih hm
      rw [if_neg hx]
      by_cases hl : x.1 = l'
      · have hll : ¬ l = l' := fun q => hx (hl.trans q.symm)
        simp [hl, hll]
      · simp only [hl, decide_false]
        exact this
theorem putD_upd {B : Ls} {l : Lt} {e : Opr × Nat} (h : l ∈ B.map (·.1)) : putD (lsD B) (.s [l.w]) (prL e) = lsD (upd B l e) := by
  unfold putD
  rw [if_pos]
  · unfold lsD upd
    rw [List.map_map, List.map_map]
    apply List.map_congr_left
    intro x _
    simp only [Function.comp]
    by_cases hx : x.1 = l
    · simp [hx]
    · have : ¬ x.1.w = l.w := fun q => hx (ltw_inj.mp q)
      simp [hx, this]
  · obtain ⟨x, hx, rfl⟩ := List.mem_map.mp h
    simp only [lsD, List.any_map, List.any_eq_true, Function.comp]
    exact ⟨x, hx, by simp⟩
theorem nd_keys {B B' : Ls} (h : B'.map (·.1) = B.map (·.1)) (hn : Nd B) : Nd B' := by
  unfold Nd at *
  rw [h]
  exact hn
theorem len_keys {B B' : Ls} (h : B'.map (·.1) = B.map (·.1)) : B'.length = B.length := by
  have := congrArg List.length h
  simpa using this
/-! p is a power of two -/
def pfix : List IS := [.iff (.andL [.cmp .inn (.con (.str [.p])) (.var 3), .cmp .nin (.ix (.ix (.ix (.var 3) (.con (.str [.p]))) (.con (.int 0))) (.con (.int 1))) (.lc [16] (.nm 16) .range [.con (.int 64)] [] (.call 44 [.var 16]))])
     [.asg (.sub (.var 3) (.con (.str [.p]))) (.tup [.tup [.con (.str [.n]), .con (.int 1)], .var 10])]
     []]
theorem pfix_ok {k : Nat} {r : Fm × Fm} {wd low mid : Nat} {x4 x5 x6 x7 x13 x14 x15 : Option W} {L : List Int} {bl : Int} {ops : List Op} {B : Ls} (hlow : wOk low) (hB : B.length ≤ 100) (hb : LB0 B ops) (hso : ∀ l o s, lk B l = some (o, s) → s = sOf l low) :
    ∃ B', evSs (callF tab (k + 2)) pfix (En r wd low x4 x5 x6 x7 x13 x14 x15) (Sm L bl ops mid B) = some ((.next, En r wd low x4 x5 x6 x7 x13 x14 x15), Sm L bl ops mid B') ∧ LB B' ops ∧ B'.map (·.1) = B.map (·.1) ∧ (∀ l o s, lk B' l = some (o, s) → s = sOf l low) := by
  have hlk := lk_ls (B := B) (l := .p)
  have hr : itemsV .range [IR.con (.int 64)] [.d (.int 64)] = some (rng 64) := it_rngE (i := 64) (by omega)
  have hBl : (lsD B).length < lim := by rw [lsD_len]; unfold lim; omega
  have keep : (∀ o s, lk B .p = some (o, s) → ∃ j, j < 64 ∧ o = .n (2 ^ j)) → LB B ops := by
    intro h l o s e
    obtain ⟨h1, h2, h3⟩ := hb l o s e
    refine ⟨h1, h2, fun h => h3 (by rcases h with h | h <;> simp [h]), ?_⟩
    rintro rfl
    exact h o s e
  cases hp : lk B .p with
  | none =>
    rw [hp] at hlk
    refine ⟨B, ?_, keep (by intro o s h; rw [hp] at h; cases h), rfl, hso⟩
    unfold Sm DM En pfix
    simp [Lt.w] at hlk
    simp [hlk]
  | some e =>
    obtain ⟨o, s⟩ := e
    rw [hp] at hlk
    obtain ⟨h1, h2, h3⟩ := hb .p o s hp
    obtain ⟨q, rfl⟩ := h3 (by simp)
    have ht := turns_pow (k := k + 1) (own := [16]) (v := 16) (env := En r wd low x4 x5 x6 x7 x13 x14 x15) (mem := Sm L bl ops mid B) okSm (by simp [wipeE, En]) (n := 64) (by omega)
    have ha := any_pow (i := q) (n := 64)
    have hs := shp_pow (n := 64)
    have hlen : ((rng 64).map pow2D).length = 64 := by simp [rng]
    have h64 : 64 < lim := by unfold lim; omega
    obtain ⟨xs, hxs⟩ : ∃ xs, xs = (rng 64).map pow2D := ⟨_, rfl⟩
    rw [← hxs] at ht ha hs hlen
    have hmem : Lt.p ∈ B.map (·.1) := lk_mem_keys.mpr ⟨_, hp⟩
    have hput := putD_upd (e := (.n 1, low)) hmem
    simp only [prL, Opr.D, Lt.w] at hput
    cases hpw : isPow q with
    | true =>
      unfold isPow at hpw
      rw [hpw] at ha
      refine ⟨B, ?_, keep ?_, rfl, hso⟩
      · unfold Sm DM En at ht ⊢
        unfold pfix
        simp [Lt.w, prL, Opr.D] at hlk
        simp [hlk, hr, ht, hlen, h64, hs, ha]
      · intro o' s' h
        rw [hp] at h
        simp at h
        obtain ⟨rfl, rfl⟩ := h
        obtain ⟨j, hj, rfl⟩ := isPow_iff.mp (show isPow q = true from hpw)
        exact ⟨j, hj, rfl⟩
    | false =>
      unfold isPow at hpw
      rw [hpw] at ha
      refine ⟨upd B .p (.n 1, low), ?_, ?_, upd_keys, ?_⟩
      · unfold Sm DM En at ht ⊢
        unfold pfix
        simp [Lt.w, prL, Opr.D] at hlk
        simp at hput
        simp [hlk, hr, ht, hlen, h64, hs, ha, hBl, hput]
      · intro l o' s' h
        rw [lk_upd hmem] at h
        split at h
        · next hl =>
          subst hl
          simp at h
          obtain ⟨rfl, rfl⟩ := h
          exact ⟨hlow, by omega, by simp, fun _ => ⟨0, by omega, rfl⟩⟩
        · next hl =>
          obtain ⟨g1, g2, g3⟩ := hb l o' s' h
          exact ⟨g1, g2, fun h => g3 (by rcases h with h | h <;> simp [h]), fun h => absurd h.symm hl⟩
      · intro l o' s' h
        rw [lk_upd hmem] at h
        split at h
        · next hl => subst hl; simp at h; obtain ⟨_, rfl⟩ := h; simp [sOf]
        · exact hso l o' s' h
/-! the narrow width -/
def narS : List IS := [.asg (.nm 5) (.ite (.andL [.cmp .eq (.ix (.var 8) (.con (.int 0))) (.con (.str [.bxor])), .cmp .inn (.ix (.ix (.ix (.var 8) (.con (.int 1))) (.con (.int 0))) (.con (.int 0))) cmpL]) (.con (.int 1)) (.var 2))]
theorem nar_ok {cl : Cl} {r : Fm × Fm} {wd low mid : Nat} {x4 x5 x6 x7 x13 x14 x15 : Option W} {L : List Int} {bl : Int} {ops : List Op} {B : Ls} (hr : r ∈ rules) (hwd : wOk wd) :
    ∃ nar : Nat, evSs cl narS (En r wd low x4 x5 x6 x7 x13 x14 x15) (Sm L bl ops mid B) = some ((.next, En r wd low x4 (some (.d (.int nar))) x6 x7 x13 x14 x15), Sm L bl ops mid B) ∧ wOk nar ∧ (nest r.1 = true → nar = wd) := by
  obtain ⟨f1, f2⟩ := r
  simp only
  have gen : f1.w ≠ .bxor → ∃ nar : Nat, evSs cl narS (En (f1, f2) wd low x4 x5 x6 x7 x13 x14 x15) (Sm L bl ops mid B) = some ((.next, En (f1, f2) wd low x4 (some (.d (.int nar))) x6 x7 x13 x14 x15), Sm L bl ops mid B) ∧ wOk nar ∧ (nest f1 = true → nar = wd) := by
    intro h
    refine ⟨wd, ?_, hwd, fun _ => rfl⟩
    unfold narS En
    simp [L_eq f1, h]
  cases f1 with
  | bin o x y =>
    by_cases ho : o = .bxor
    · subst ho
      by_cases hx : Wd.eq = x.w ∨ Wd.ne = x.w ∨ Wd.ult = x.w ∨ Wd.ule = x.w ∨ Wd.slt = x.w ∨ Wd.sle = x.w
      · refine ⟨1, ?_, w1, fun h => by simp [nest] at h⟩
        unfold narS En cmpL
        simp [Fm.L, L_eq x, Bo.w, shp_co, hx]
      · refine ⟨wd, ?_, hwd, fun h => by simp [nest] at h⟩
        unfold narS En cmpL
        simp [Fm.L, L_eq x, Bo.w, shp_co, hx]
    · exact gen (by cases o <;> simp [Fm.w, Bo.w] at ho ⊢)
  | lt l => exact gen (by cases l <;> simp [Fm.w, Lt.w])
  | cmp o x y => exact gen (by cases o <;> simp [Fm.w, Co.w])
  | cast o x => exact gen (by cases o <;> simp [Fm.w, Ca.w])
  | made o x y => exact gen (by cases o <;> simp [Fm.w, Mk.w])
  | _ => exact gen (by simp [Fm.w])
end Mi
end
section
/-! Mf10: after_rule: letters changed at random. -/
namespace Mi
open PySem
section
variable {k : Nat} {r : Fm × Fm} {wd low mid : Nat} {x5 x6 x7 x13 x14 : Option W} {ops : List Op} {K : List Lt}
def ChgOk (k : Nat) (r : Fm × Fm) (wd low mid : Nat) (x5 x6 x7 x13 x14 : Option W) (ops : List Op) (K : List Lt) (body : List IS) : Prop := ∀ (L : List Int) (bl : Int) (B : Ls) (x15 : Option W) (l : Lt), DOk L bl → LB B ops → B.map (·.1) = K → l ∈ K → ∃ (L' : List Int) (bl' : Int) (B' : Ls) (x15' : Option W), evSs (callF tab (k + 4)) body (En r wd low (some (.d (.str [l.w]))) x5 x6 x7 x13 x14 x15) (Sm L bl ops mid B) = some ((.next, En r wd low (some (.d (.str [l.w]))) x5 x6 x7 x13 x14 x15'), Sm L' bl' ops mid B') ∧ DOk L' bl' ∧ LB B' ops ∧ B'.map (·.1) = K
theorem loop_chg {body : List IS} (hc : ChgOk k r wd low mid x5 x6 x7 x13 x14 ops K body) (ls : List Lt) : ∀ (L : List Int) (bl : Int) (B : Ls) (x4 x15 : Option W), (∀ l, l ∈ ls → l ∈ K) → DOk L bl → LB B ops → B.map (·.1) = K → ∃ (L' : List Int) (bl' : Int) (B' : Ls) (x4' x15' : Option W), loopF (fBody (callF tab (k + 4)) body) (.nm 4) (ls.map fun l => .str [l.w]) (En r wd low x4 x5 x6 x7 x13 x14 x15) (Sm L bl ops mid B) = some ((.next, En r wd low x4' x5 x6 x7 x13 x14 x15'), Sm L' bl' ops mid B') ∧ DOk L' bl' ∧ LB B' ops ∧ B'.map (·.1) = K := by
  induction ls with
  | nil => intro L bl B x4 x15 _ hd hb hk; exact ⟨L, bl, B, x4, x15, rfl, hd, hb, hk⟩
  | cons l ls ih =>
    intro L bl B x4 x15 hl hd hb hk
    obtain ⟨L1, b1, B1, y15, e1, d1, lb1, k1⟩ := hc L bl B x15 l hd hb hk (hl l (by simp))
    obtain ⟨L2, b2, B2, z4, z15, e2, d2, lb2, k2⟩ := ih L1 b1 B1 (some (.d (.str [l.w]))) y15 (fun q hq => hl q (by simp [hq])) d1 lb1 k1
    refine ⟨L2, b2, B2, z4, z15, ?_, d2, lb2, k2⟩
    have e3 : setTg (.nm 4) (.str [l.w]) (En r wd low x4 x5 x6 x7 x13 x14 x15) = some (En r wd low (some (.d (.str [l.w]))) x5 x6 x7 x13 x14 x15) := rfl
    rw [List.map_cons, loop_cons, e3, kLoop_s, e1, kLoop2_n, e2]
def chgS (m : Nat) (body : List IS) : List IS := [.iff (.cmp .eq (.call 42 [.var 0, .con (.int m)]) (.con (.int 0))) [.forr (.nm 4) .e [.blt .list (.var 3)] body] []]
theorem blt_listR {n : Nat} {mem : Mem} : bltW .list (.r n) mem = match mem[n]? with
    | some (.dct kvs) => some (.d (.lst (kvs.map fun kv => kv.1.d)), mem)
    | _ => none := by unfold bltW; rfl
theorem chg_ok {m : Nat} {body : List IS} {L : List Int} {bl : Int} {B : Ls} {x4 x15 : Option W} (hm : 0 < m) (hm' : m ≤ 100) (hc : ChgOk k r wd low mid x5 x6 x7 x13 x14 ops (B.map (·.1)) body) (hd : DOk L bl) (hb : LB B ops) :
    ∃ (L' : List Int) (bl' : Int) (B' : Ls) (x4' x15' : Option W), evSs (callF tab (k + 4)) (chgS m body) (En r wd low x4 x5 x6 x7 x13 x14 x15) (Sm L bl ops mid B) = some ((.next, En r wd low x4' x5 x6 x7 x13 x14 x15'), Sm L' bl' ops mid B') ∧ DOk L' bl' ∧ LB B' ops ∧ B'.map (·.1) = B.map (·.1) := by
  obtain ⟨L1, b1, q1, e1, hq1, d1⟩ := c_any (k := k + 3) (b := m) (rest := [.lst (opsD 0 ops), .obj [.r 2, .d (.int ops.length), .d (.int mid)], .dct (lsD B)]) hd rest_ok hm (by omega)
  by_cases h0 : q1 = 0
  · subst h0
    obtain ⟨L2, b2, B2, z4, z15, e2, d2, lb2, k2⟩ := loop_chg hc (B.map (·.1)) L1 b1 B x4 x15 (fun l h => h) d1 hb rfl
    refine ⟨L2, b2, B2, z4, z15, ?_, d2, lb2, k2⟩
    have hmap : (lsD B).map (fun kv => kv.1.d) = (B.map (·.1)).map fun l => D.str [l.w] := by simp [lsD, kyd_s]
    have c1 : evE (callF tab (k + 4)) (.cmp .eq (.call 42 [.var 0, .con (.int m)]) (.con (.int 0))) (En r wd low x4 x5 x6 x7 x13 x14 x15) (Sm L bl ops mid B) = some (.d (.bl true), Sm L1 b1 ops mid B) := by
      unfold Sm En
      simp [e1]
    have c2 : evS (callF tab (k + 4)) (.forr (.nm 4) .e [.blt .list (.var 3)] body) (En r wd low x4 x5 x6 x7 x13 x14 x15) (Sm L1 b1 ops mid B) = loopF (fBody (callF tab (k + 4)) body) (.nm 4) ((B.map (·.1)).map fun l => .str [l.w]) (En r wd low x4 x5 x6 x7 x13 x14 x15) (Sm L1 b1 ops mid B) := by
      rw [← hmap]
      unfold Sm DM En
      simp [blt_listR]
    unfold chgS
    rw [ess_cons, es_iff, c1, kIff_s, if_pos rfl, ess_cons, c2, e2]
    rfl
  · refine ⟨L1, b1, B, x4, x15, ?_, d1, hb, rfl⟩
    have c1 : evE (callF tab (k + 4)) (.cmp .eq (.call 42 [.var 0, .con (.int m)]) (.con (.int 0))) (En r wd low x4 x5 x6 x7 x13 x14 x15) (Sm L bl ops mid B) = some (.d (.bl false), Sm L1 b1 ops mid B) := by
      unfold Sm En
      simp [e1, h0]
    unfold chgS
    rw [ess_cons, es_iff, c1, kIff_s, if_neg (by decide)]
    rfl
def chg1 : List IS := [.iff (.andL [.cmp .eq (.call 42 [.var 0, .con (.int 2)]) (.con (.int 0)), .cmp .inn (.var 4) (.lstF [.con (.str [.a]), .con (.str [.b])])])
         [.asg (.sub (.var 3) (.var 4)) (.tup [.tup [.con (.str [.n]), .call 45 [.var 0, .con (.int 1)]], .ix (.ix (.var 3) (.var 4)) (.con (.int 1))])]
         []]
theorem shp_ab : shp (.lst [.str [.a], .str [.b]]) = true := rfl
theorem chg1_ok (hK : K.length ≤ 100) : ChgOk k r wd low mid x5 x6 x7 x13 x14 ops K chg1 := by
  intro L bl B x15 l hd hb hk hl
  have hBlen : B.length ≤ 100 := by rw [← hk] at hK; simpa using hK
  have hBl : (lsD B).length < lim := by rw [lsD_len]; unfold lim; omega
  rw [← hk] at hl
  obtain ⟨⟨o, s⟩, hlk0⟩ := lk_mem_keys.mp hl
  have hlk := lk_ls (B := B) (l := l)
  rw [hlk0] at hlk
  obtain ⟨L1, b1, q1, e1, hq1, d1⟩ := c_any (k := k + 3) (b := 2) (rest := [.lst (opsD 0 ops), .obj [.r 2, .d (.int ops.length), .d (.int mid)], .dct (lsD B)]) hd rest_ok (by omega) (by omega)
  by_cases h0 : q1 = 0
  · subst h0
    by_cases hab : l = .a ∨ l = .b
    · obtain ⟨L2, b2, q, e2, hq, d2⟩ := c_number (k := k + 1) (w := 1) (rest := [.lst (opsD 0 ops), .obj [.r 2, .d (.int ops.length), .d (.int mid)], .dct (lsD B)]) d1 rest_ok w1
      have hput := putD_upd (e := (.n q, s)) hl
      simp only [prL, Opr.D] at hput
      refine ⟨L2, b2, upd B l (.n q, s), x15, ?_, d2, ?_, by rw [upd_keys]; exact hk⟩
      · unfold Sm En
        unfold DM at *
        rcases hab with rfl | rfl <;> simp [Lt.w] at hput hlk e1 e2 <;> simp [chg1, shp_ab, Lt.w, e1, e2, hlk, prL, hBl, hput]
      · intro l' o' s' h
        rw [lk_upd hl] at h
        split at h
        · next hll =>
          subst hll
          simp at h
          obtain ⟨rfl, rfl⟩ := h
          refine ⟨(hb l o s hlk0).1, by omega, fun _ => ⟨q, rfl⟩, ?_⟩
          rintro rfl
          rcases hab with h | h <;> cases h
        · exact hb l' o' s' h
    · refine ⟨L1, b1, B, x15, ?_, d1, hb, hk⟩
      unfold Sm En
      unfold DM at *
      have n1 : ¬ Wd.a = l.w := fun h => hab (.inl (ltw_inj.mp (show l.w = Lt.a.w from h.symm)))
      have n2 : ¬ Wd.b = l.w := fun h => hab (.inr (ltw_inj.mp (show l.w = Lt.b.w from h.symm)))
      simp at e1
      simp [chg1, shp_ab, e1, n1, n2]
  · refine ⟨L1, b1, B, x15, ?_, d1, hb, hk⟩
    unfold Sm En
    unfold DM at *
    simp at e1
    simp [chg1, e1, h0]
def chg2 : List IS := [.asg (.nm 15) (.call 43 [.var 0, .lstF [.con (.int 1), .con (.int 8), .con (.int 16), .con (.int 32), .con (.int 64)]]),
        .iff (.andL [.cmp .eq (.ix (.ix (.ix (.var 3) (.var 4)) (.con (.int 0))) (.con (.int 0))) (.con (.str [.n])), .cmp .lt (.ix (.ix (.ix (.var 3) (.var 4)) (.con (.int 0))) (.con (.int 1))) (.call 44 [.var 15])])
         [.asg (.sub (.var 3) (.var 4)) (.tup [.ix (.ix (.var 3) (.var 4)) (.con (.int 0)), .var 15])]
         []]
theorem ws2_ok : ∀ w, w ∈ [1, 8, 16, 32, 64] → (1 ≤ w ∧ w ≤ 64) := by decide
theorem chg2_ok (hK : K.length ≤ 100) : ChgOk k r wd low mid x5 x6 x7 x13 x14 ops K chg2 := by
  intro L bl B x15 l hd hb hk hl
  have hBlen : B.length ≤ 100 := by rw [← hk] at hK; simpa using hK
  have hBl : (lsD B).length < lim := by rw [lsD_len]; unfold lim; omega
  rw [← hk] at hl
  obtain ⟨⟨o, s⟩, hlk0⟩ := lk_mem_keys.mp hl
  have hlk := lk_ls (B := B) (l := l)
  rw [hlk0] at hlk
  obtain ⟨L1, b1, w, e1, hw, d1⟩ := c_ofW (k := k + 2) (rest := [.lst (opsD 0 ops), .obj [.r 2, .d (.int ops.length), .d (.int mid)], .dct (lsD B)]) (ws := [1, 8, 16, 32, 64]) hd rest_ok (by simp) (by simp) ws2_ok
  have h44 := c_power (k := k + 3) (w := w) (mem := DM L1 b1 [.lst (opsD 0 ops), .obj [.r 2, .d (.int ops.length), .d (.int mid)], .dct (lsD B)]) (okDM rest_ok) (by have := hw.2; omega)
  cases o with
  | v j =>
    refine ⟨L1, b1, B, some (.d (.int w)), ?_, d1, hb, hk⟩
    unfold Sm En
    unfold DM at *
    simp [intD] at e1
    simp [chg2, e1, hlk, prL, Opr.D]
  | n q =>
    by_cases hq : (q : Int) < 2 ^ w
    · have hput := putD_upd (e := (.n q, w)) hl
      simp only [prL, Opr.D] at hput
      refine ⟨L1, b1, upd B l (.n q, w), some (.d (.int w)), ?_, d1, ?_, by rw [upd_keys]; exact hk⟩
      · unfold Sm En
        unfold DM at *
        simp [intD] at e1
        simp [chg2, e1, hlk, prL, Opr.D, h44, hq, hBl, hput]
      · intro l' o' s' h
        rw [lk_upd hl] at h
        split at h
        · next hll =>
          subst hll
          simp at h
          obtain ⟨rfl, rfl⟩ := h
          obtain ⟨_, g2, g3, g4⟩ := hb l _ _ hlk0
          exact ⟨hw, g2, g3, g4⟩
        · exact hb l' o' s' h
    · refine ⟨L1, b1, B, some (.d (.int w)), ?_, d1, hb, hk⟩
      unfold Sm En
      unfold DM at *
      simp [intD] at e1
      simp [chg2, e1, hlk, prL, Opr.D, h44, hq]
end
end Mi
end
section
/-! Mf11: after_rule, whole. -/
namespace Mi
open PySem
def forS : List IS := [.forr (.nm 4) .e [.meth .split (.ix (.var 1) (.con (.int 0))) []] forB]
def leftS : List IS := [.asg (.nm 6) (.call 76 [.var 0, .var 8, .var 5, .var 3, .var 11])]
def rightS : List IS := [.asg (.nm 7) (.call 76 [.var 0, .var 9, .var 5, .var 3, .var 11])]
def retS : List IS := [.retT [.ix (.var 11) (.con (.int 0)), .var 6, .var 7]]
theorem after_body : fn__law_after_rule.body = ar1 ++ (forS ++ (pfix ++ (narS ++ (leftS ++ (chgS 3 chg1 ++ (chgS 5 chg2 ++ (rightS ++ retS))))))) := rfl
theorem lets_flat {l : Lt} (F : Fm) (h : l ∈ F.lets) : l.w ∈ F.flat := by
  induction F with
  | lt l' => simp [Fm.lets] at h; subst h; simp [Fm.flat]
  | bin o x y ihx ihy =>
    simp [Fm.lets] at h
    rcases h with h | h
    · simp [Fm.flat, ihx h]
    · simp [Fm.flat, ihy h]
  | cmp o x y ihx ihy =>
    simp [Fm.lets] at h
    rcases h with h | h
    · simp [Fm.flat, ihx h]
    · simp [Fm.flat, ihy h]
  | made o x y ihx ihy =>
    simp [Fm.lets] at h
    rcases h with h | h
    · simp [Fm.flat, ihx h]
    · simp [Fm.flat, ihy h]
  | sel c x y ihc ihx ihy =>
    simp [Fm.lets] at h
    rcases h with h | h | h
    · simp [Fm.flat, ihc h]
    · simp [Fm.flat, ihx h]
    · simp [Fm.flat, ihy h]
  | cast o x ih => simp [Fm.lets] at h; simp [Fm.flat, ih h]
  | log x ih => simp [Fm.lets] at h; simp [Fm.flat, ih h]
  | _ => simp [Fm.lets] at h
theorem rules_comp : ∀ r, r ∈ rules → r.1.isLt = false ∧ r.1.isNum = false ∧ r.1.flat.length ≤ 5 ∧ r.2.flat.length ≤ 5 := by decide
theorem li0 {low : Nat} : LI low [] [] 0 := ⟨by simp [Nd], by simp, by simp, ⟨by intro i op h; simp at h, by intro i j o lo hi o' lo' hi' x h; simp at h⟩, by intro l o s h; simp [lk] at h, by intro l o s h; simp [lk] at h⟩
theorem c_after {k : Nat} {r : Fm × Fm} {L : List Int} {bl : Int} (hr : r ∈ rules) (hd : DOk L bl) : ∃ (L' : List Int) (bl' : Int) (ops : List Op) (j : Nat) (o : Opr), callF tab (k + 17) 77 [.r 1, .d (ruleD r)] (DM L bl []) = some (.d (.tup [.lst (opsD 0 ops), (Opr.v j).D, o.D]), DM L' bl' []) ∧ DOk L' bl' ∧ OpsOk ops ∧ ops.length ≤ 15 ∧ j < ops.length ∧ gOv ops.length o := by
  obtain ⟨c1, c2, c3, c4⟩ := rules_comp r hr
  obtain ⟨s1, s2, s3⟩ := rules_okS r hr
  have hht := rules_ht r hr
  obtain ⟨L1, b1, low, mid, wd, e1, d1, hlow, hmid, hwd, hnest⟩ := ar1_ok (k := k + 10) hr hd
  have e7 : env7 r wd low = En r wd low none none none none none none none := rfl
  rw [e7] at e1
  obtain ⟨L2, b2, ops2, B2, x4, x13, x14, e2, d2, hI, _, hbd⟩ := loop_letters (k := k + 12) (r := r) (wd := wd) (mid := mid) (x5 := none) (x6 := none) (x7 := none) (x15 := none) hlow r.1.flat L1 b1 [] [] 0 none none none d1 li0 (by omega)
  have hsp := (sides_mem r hr).1
  have e2' : evSs (callF tab (k + 16)) forS (En r wd low none none none none none none none) (Sm L1 b1 [] mid []) = some ((.next, En r wd low x4 none none none x13 x14 none), Sm L2 b2 ops2 mid B2) := by
    unfold forS
    have it : evEs (callF tab (k + 16)) [.meth .split (.ix (.var 1) (.con (.int 0))) []] (En r wd low none none none none none none none) (Sm L1 b1 [] mid []) = some ([.d (.lst (r.1.flat.map str1))], Sm L1 b1 [] mid []) := by
      unfold En ruleD
      simp [mSplit hsp, tySplit]
    rw [ess_cons, es_for, it, kFor1_s, it_l, kFor_s, e2]
    rfl
  obtain ⟨B3, e3, lb3, k3, so3⟩ := pfix_ok (k := k + 14) (r := r) (wd := wd) (mid := mid) (x4 := x4) (x5 := none) (x6 := none) (x7 := none) (x13 := x13) (x14 := x14) (x15 := none) (L := L2) (bl := b2) hlow (by have := hI.len; omega) hI.lb hI.so
  obtain ⟨nar, e4, hnar, hnn⟩ := nar_ok (cl := callF tab (k + 16)) (low := low) (mid := mid) (x4 := x4) (x5 := none) (x6 := none) (x7 := none) (x13 := x13) (x14 := x14) (x15 := none) (L := L2) (bl := b2) (ops := ops2) (B := B3) hr hwd
  have hn3 := nd_keys k3 hI.nd
  have hl3 := len_keys k3
  have hlen2 := hI.len
  have hol2 := hI.ol
  have hb3 : ∀ l, l ∈ r.1.lets → ∃ e, lk B3 l = some e := by
    intro l hl
    rw [← lk_mem_keys, k3, lk_mem_keys]
    exact hbd l (lets_flat r.1 hl)
  have hleft : Sd L2 b2 mid B3 (k + 16) r.1 nar ops2 := by
    rcases s2 with s2 | s2
    · exact c_side hmid hb3 hn3 (by omega) r.1 (k + 16) nar ops2 s2 (by omega) (by omega) hnar hI.ok lb3 (by omega)
    · have hn := hnest s2
      have hnw := hnn s2
      subst hnw
      have : ∃ o o', r.1 = .cast o (.cast o' (.lt .a)) := by
        cases h : r.1 with
        | cast o x =>
          rw [h] at s2
          cases x with
          | cast o' y =>
            cases y with
            | lt l =>
              cases l with
              | a => exact ⟨o, o', rfl⟩
              | _ => simp [nest] at s2
            | _ => simp [nest] at s2
          | _ => simp [nest] at s2
        | _ => rw [h] at s2; simp [nest] at s2
      obtain ⟨o, o', hF⟩ := this
      obtain ⟨⟨q, sl⟩, he⟩ := hb3 .a (by rw [hF]; simp [Fm.lets])
      have hsl : sl = low := so3 .a q sl he
      subst hsl
      rw [hF]
      exact c_side_nest hmid (by omega) hnar hI.ok lb3 (by omega) he hn
  obtain ⟨oL, ops3, q1, ok3, lb3', p3, l3, g3, v3⟩ := hleft
  obtain ⟨j, rfl⟩ := v3 c1 c2
  have e5 : evSs (callF tab (k + 16)) leftS (En r wd low x4 (some (.d (.int nar))) none none x13 x14 none) (Sm L2 b2 ops2 mid B3) = some ((.next, En r wd low x4 (some (.d (.int nar))) (some (.d (Opr.v j).D)) none x13 x14 none), Sm L2 b2 ops3 mid B3) := by
    unfold Call76 at q1
    unfold leftS En
    simp [q1]
  obtain ⟨L4, b4, B4, y4, y15, e6, d4, lb4, k4⟩ := chg_ok (k := k + 12) (r := r) (wd := wd) (low := low) (mid := mid) (x5 := some (.d (.int nar))) (x6 := some (.d (Opr.v j).D)) (x7 := none) (x13 := x13) (x14 := x14) (ops := ops3) (m := 3) (body := chg1) (x4 := x4) (x15 := none) (by omega) (by omega) (chg1_ok (by rw [List.length_map]; omega)) d2 lb3'
  have hl4 := len_keys k4
  obtain ⟨L5, b5, B5, z4, z15, e7, d5, lb5, k5⟩ := chg_ok (k := k + 12) (r := r) (wd := wd) (low := low) (mid := mid) (x5 := some (.d (.int nar))) (x6 := some (.d (Opr.v j).D)) (x7 := none) (x13 := x13) (x14 := x14) (ops := ops3) (m := 5) (body := chg2) (x4 := y4) (x15 := y15) (by omega) (by omega) (chg2_ok (by rw [List.length_map]; omega)) d4 lb4
  have hl5 := len_keys k5
  have hb5 : ∀ l, l ∈ r.1.lets → ∃ e, lk B5 l = some e := by
    intro l hl
    rw [← lk_mem_keys, k5, k4, lk_mem_keys]
    exact hb3 l hl
  obtain ⟨oR, ops6, q2, ok6, lb6, p6, l6, g6, _⟩ := c_side hmid hb5 (nd_keys k5 (nd_keys k4 hn3)) (by omega) (L := L5) (bl := b5) r.2 (k + 16) nar ops3 s1 (by omega) (by omega) hnar ok3 lb5 (by omega)
  have e8 : evSs (callF tab (k + 16)) rightS (En r wd low z4 (some (.d (.int nar))) (some (.d (Opr.v j).D)) none x13 x14 z15) (Sm L5 b5 ops3 mid B5) = some ((.next, En r wd low z4 (some (.d (.int nar))) (some (.d (Opr.v j).D)) (some (.d oR.D)) x13 x14 z15), Sm L5 b5 ops6 mid B5) := by
    unfold Call76 at q2
    unfold rightS En
    simp [q2]
  have e9 : evSs (callF tab (k + 16)) retS (En r wd low z4 (some (.d (.int nar))) (some (.d (Opr.v j).D)) (some (.d oR.D)) x13 x14 z15) (Sm L5 b5 ops6 mid B5) = some ((.retT [.r 2, .d (Opr.v j).D, .d oR.D], En r wd low z4 (some (.d (.int nar))) (some (.d (Opr.v j).D)) (some (.d oR.D)) x13 x14 z15), Sm L5 b5 ops6 mid B5) := by
    unfold retS En Sm DM
    simp
  have hj3 : j < ops3.length := g3
  have hp6 := p6.length_le
  refine ⟨L5, b5, ops6, j, oR, ?_, d5, ok6, by omega, by omega, g6⟩
  have hbody : body (callF tab (k + 16)) fn__law_after_rule [.r 1, .d (ruleD r)] (DM L bl []) = some (.retT [.r 2, .d (Opr.v j).D, .d oR.D], Sm L5 b5 ops6 mid B5) := by
    unfold body
    rw [after_body]
    have henv : ([.r 1, .d (ruleD r)] : List W).map some ++ List.replicate (fn__law_after_rule.sl - fn__law_after_rule.ar) none = [some (.r 1), some (.d (ruleD r)), none, none, none, none, none, none, none, none, none, none, none, none, none, none, none] := rfl
    rw [henv, ess_app, e1, kSs_n, ess_app, e2', kSs_n, ess_app, e3, kSs_n, ess_app, e4, kSs_n, ess_app, e5, kSs_n, ess_app, e6, kSs_n, ess_app, e7, kSs_n, ess_app, e8, kSs_n, e9]
    rfl
  rw [callF_succ rfl, run_of rfl hbody]
  unfold Sm DM
  simp [inC, cutR, frz, fn__law_after_rule]
end Mi
end
section
/-! Mf12: an operation is bent. -/
namespace Mi
open PySem
theorem cut_take {α : Type} {xs : List α} {a : Nat} (h : a < xs.length) : cutD xs none (some (a : Int)) = xs.take a := by
  unfold cutD
  rw [show HT.sIx xs.length 0 none = 0 from rfl, HT.sIx_nat, Nat.min_eq_left (by omega)]
  simp
theorem cut_drop {α : Type} {xs : List α} {a : Nat} (h : a < xs.length) : cutD xs (some ((a : Int) + 1)) none = xs.drop (a + 1) := by
  unfold cutD
  have e : ((a : Int) + 1) = ((a + 1 : Nat) : Int) := by omega
  rw [e, HT.sIx_nat, Nat.min_eq_left (by omega), show HT.sIx xs.length xs.length none = xs.length from rfl]
  apply List.take_of_length_le
  simp
theorem cut_set {α : Type} {xs : List α} {a : Nat} {x : α} (h : a < xs.length) : xs.take a ++ ([x] ++ xs.drop (a + 1)) = xs.set a x := by
  rw [List.set_eq_take_append_cons_drop, if_pos h]
  rfl
theorem opsD_set {op : Op} {ops : List Op} : ∀ {i a : Nat}, opsD i (ops.set a op) = (opsD i ops).set a (opD (i + a) op) := by
  induction ops with
  | nil => intro i a; rfl
  | cons x r ih =>
    intro i a
    cases a with
    | zero => rfl
    | succ a =>
      simp only [List.set_cons_succ, opsD, ih]
      rw [show i + 1 + a = i + (a + 1) by omega]
def notCast : Op → Bool
  | .cast .. => false
  | _ => true
theorem opsOk_set {ops : List Op} {a : Nat} {op : Op} (h : OpsOk ops) (g : gAt a op) (hn : notCast op = true) : OpsOk (ops.set a op) := by
  have split : ∀ (i : Nat) (q : Op), (ops.set a op)[i]? = some q → ops[i]? = some q ∨ (i = a ∧ q = op) := by
    intro i q e
    rw [List.getElem?_set] at e
    split at e
    · next hi =>
      split at e
      · simp at e; exact .inr ⟨hi.symm, e.symm⟩
      · cases e
    · exact .inl e
  refine ⟨?_, ?_⟩
  · intro i q e
    rcases split i q e with e | ⟨rfl, rfl⟩
    · exact h.at_ i q e
    · exact g
  · intro i j o lo hi o' lo' hi' x e1 e2
    rcases split i _ e1 with e1 | ⟨_, e1⟩
    · rcases split j _ e2 with e2 | ⟨_, e2⟩
      · exact h.nc i j o lo hi o' lo' hi' x e1 e2
      · rw [← e2] at hn; cases hn
    · rw [← e1] at hn; cases hn
theorem sums {xs : List D} {a : Nat} {x : D} (h : a < xs.length) (hl : xs.length ≤ 1000) : (if (xs.take a).length + ([x] : List D).length < lim then some (W.d (.lst (xs.take a ++ [x]))) else none) = some (W.d (.lst (xs.take a ++ [x]))) ∧ (if (xs.take a ++ [x]).length + (xs.drop (a + 1)).length < lim then some (W.d (.lst (xs.take a ++ [x] ++ xs.drop (a + 1)))) else none) = some (W.d (.lst (xs.set a x))) := by
  constructor
  · rw [if_pos]
    simp [lim]; omega
  · rw [if_pos, List.append_assoc, cut_set h]
    simp [lim]; omega
theorem shp_bc : shp (.lst [.str [.bin], .str [.cmp]]) = true := rfl
def bo6 : List Bo := [.add, .sub, .bxor, .band, .lshr, .ashr]
def co4 : List Co := [.eq, .ule, .sle, .slt]
theorem bent_eval {cl : Cl} {mem : Mem} {ops : List Op} {a : Nat} {x0 x3 x4 x5 x6 x7 : Option W} {x : IR} {op' : Op} {mem' : Mem} (ha : a < ops.length) (hl : ops.length ≤ 1000) (hx : evE cl x [x0, some (.d (.lst (opsD 0 ops))), some (.d (.int a)), x3, x4, x5, x6, x7] mem = some (.d (opD a op'), mem')) : evE cl (.bin .add (.bin .add (.slc (.var 1) none (some (.var 2))) (.lstF [x])) (.slc (.var 1) (some (.bin .add (.var 2) (.con (.int 1)))) none)) [x0, some (.d (.lst (opsD 0 ops))), some (.d (.int a)), x3, x4, x5, x6, x7] mem = some (.d (.lst (opsD 0 (ops.set a op'))), mem') := by
  have hlen : a < (opsD 0 ops).length := by rw [opsD_length]; exact ha
  have hlen2 : (opsD 0 ops).length ≤ 1000 := by rw [opsD_length]; exact hl
  obtain ⟨s1, s2⟩ := sums (x := opD a op') hlen hlen2
  have e1 := b_addL (xs := (opsD 0 ops).take a) (ys := [opD a op']) (by simp [lim]; omega)
  have e2 := b_addL (xs := (opsD 0 ops).take a ++ [opD a op']) (ys := (opsD 0 ops).drop (a + 1)) (by simp [lim]; omega)
  have hs := opsD_set (op := op') (ops := ops) (i := 0) (a := a)
  rw [Nat.zero_add] at hs
  rw [List.append_assoc, cut_set hlen, ← hs] at e2
  simp [slc_l, cut_take hlen, cut_drop hlen, hx, e1, e2]
theorem c_ofS {k : Nat} {L : List Int} {bl : Int} {ws : List Wd} (hd : DOk L bl) (hb : ws ≠ []) (hb' : ws.length ≤ 1000) : ∃ (L' : List Int) (bl' : Int) (w : Wd), callF tab (k + 2) 43 [.r 1, .d (.lst (ws.map str1))] (DM L bl []) = some (.d (.str [w]), DM L' bl' []) ∧ w ∈ ws ∧ DOk L' bl' := by
  obtain ⟨L', bl', j, x, e, hx, d⟩ := c_of (k := k) (rest := []) (xs := ws.map str1) hd rfl (by simpa using hb) (by simpa using hb')
  obtain ⟨w, hm, rfl⟩ := List.mem_map.mp (List.mem_of_getElem? hx)
  exact ⟨L', bl', w, e, hm, d⟩
theorem bo6_ok : ∀ w, w ∈ [Wd.add, .sub, .bxor, .band, .lshr, .ashr] → ∃ o : Bo, w = o.w := by
  intro w h
  simp at h
  rcases h with rfl | rfl | rfl | rfl | rfl | rfl
  · exact ⟨.add, rfl⟩
  · exact ⟨.sub, rfl⟩
  · exact ⟨.bxor, rfl⟩
  · exact ⟨.band, rfl⟩
  · exact ⟨.lshr, rfl⟩
  · exact ⟨.ashr, rfl⟩
theorem co4_ok : ∀ w, w ∈ [Wd.eq, .ule, .sle, .slt] → ∃ o : Co, w = o.w := by
  intro w h
  simp at h
  rcases h with rfl | rfl | rfl | rfl
  · exact ⟨.eq, rfl⟩
  · exact ⟨.ule, rfl⟩
  · exact ⟨.sle, rfl⟩
  · exact ⟨.slt, rfl⟩
def bnt1 : List IS := [.asg (.nm 2) (.call 42 [.var 0, .blt .len (.var 1)]),
    .asgT [.nm 4, .nm 5, .nm 6, .nm 7] (.ix (.var 1) (.var 2)),
    .asg (.nm 3) (.call 42 [.var 0, .con (.int 6)])]
def putE (x : IR) : IR := .bin .add (.bin .add (.slc (.var 1) none (some (.var 2))) (.lstF [x])) (.slc (.var 1) (some (.bin .add (.var 2) (.con (.int 1)))) none)
def bC1 : IR := .andL [.cmp .eq (.var 3) (.con (.int 0)), .cmp .eq (.blt .len (.var 7)) (.con (.int 2)), .cmp .inn (.var 5) (.lstF [.con (.str [.bin]), .con (.str [.cmp])])]
def bC2 : IR := .andL [.cmp .eq (.var 3) (.con (.int 1)), .cmp .eq (.var 5) (.con (.str [.bin]))]
def bC3 : IR := .andL [.cmp .eq (.var 3) (.con (.int 2)), .cmp .eq (.var 5) (.con (.str [.cmp]))]
def bX1 : IR := .tup [.var 4, .var 5, .var 6, .rev (.var 7)]
def bX2 : IR := .tup [.var 4, .var 5, .tup [.call 43 [.var 0, .lstF [.con (.str [.add]), .con (.str [.sub]), .con (.str [.bxor]), .con (.str [.band]), .con (.str [.lshr]), .con (.str [.ashr])]], .ix (.var 6) (.con (.int 1))], .var 7]
def bX3 : IR := .tup [.var 4, .var 5, .tup [.call 43 [.var 0, .lstF [.con (.str [.eq]), .con (.str [.ule]), .con (.str [.sle]), .con (.str [.slt])]], .ix (.var 6) (.con (.int 1))], .var 7]
def bnt2 : List IS := [.iff bC1 [.ret (putE bX1)] [], .iff bC2 [.ret (putE bX2)] [], .iff bC3 [.ret (putE bX3)] [], .ret (.var 1)]
theorem bent_body : fn__law_bent.body = bnt1 ++ bnt2 := rfl
def Eb (ops : List Op) (a q : Nat) (op : Op) : Env := [some (.r 1), some (.d (.lst (opsD 0 ops))), some (.d (.int a)), some (.d (.int q)), some (.d (.int a)), some (.d (.str [op.kind])), some (.d (.tup op.info)), some (.d (.tup (op.args.map Opr.D)))]
theorem bC1_ev {cl : Cl} {mem : Mem} {ops : List Op} {a q : Nat} {op : Op} : evE cl bC1 (Eb ops a q op) mem = some (.d (.bl (decide (q = 0) && (decide (op.args.length = 2) && (decide (op.kind = .bin) || decide (op.kind = .cmp))))), mem) := by
  unfold bC1 Eb
  cases op with
  | inp s => by_cases h : q = 0 <;> simp [h, blt_lenT, shp_bc, Op.kind, Op.args]
  | bin o s x y => by_cases h : q = 0 <;> simp [h, blt_lenT, shp_bc, Op.kind, Op.args]
  | cmp o s x y => by_cases h : q = 0 <;> simp [h, blt_lenT, shp_bc, Op.kind, Op.args]
  | sel s c x y => by_cases h : q = 0 <;> simp [h, blt_lenT, shp_bc, Op.kind, Op.args]
  | cast o lo hi x => by_cases h : q = 0 <;> simp [h, blt_lenT, shp_bc, Op.kind, Op.args]
theorem bC2_ev {cl : Cl} {mem : Mem} {ops : List Op} {a q : Nat} {op : Op} : evE cl bC2 (Eb ops a q op) mem = some (.d (.bl (decide (q = 1) && decide (op.kind = .bin))), mem) := by
  unfold bC2 Eb
  have e : ((q : Int) = 1) ↔ q = 1 := by omega
  by_cases h : q = 1
  · subst h; simp
  · simp [h, e]
theorem bC3_ev {cl : Cl} {mem : Mem} {ops : List Op} {a q : Nat} {op : Op} : evE cl bC3 (Eb ops a q op) mem = some (.d (.bl (decide (q = 2) && decide (op.kind = .cmp))), mem) := by
  unfold bC3 Eb
  have e : ((q : Int) = 2) ↔ q = 2 := by omega
  by_cases h : q = 2
  · subst h; simp
  · simp [h, e]
theorem c_bent {k : Nat} {ops : List Op} {L : List Int} {bl : Int} (hd : DOk L bl) (ho : OpsOk ops) (h0 : 0 < ops.length) (hl : ops.length ≤ 1000) : ∃ (L' : List Int) (bl' : Int) (ops' : List Op), callF tab (k + 3) 78 [.r 1, .d (.lst (opsD 0 ops))] (DM L bl []) = some (.d (.lst (opsD 0 ops')), DM L' bl' []) ∧ DOk L' bl' ∧ OpsOk ops' ∧ ops'.length = ops.length := by
  obtain ⟨M1, b1, a, e1, ha, d1⟩ := c_any (k := k + 1) (b := ops.length) (rest := []) hd rfl h0 (by omega)
  obtain ⟨M2, b2, q, e2, hq, d2⟩ := c_any (k := k + 1) (b := 6) (rest := []) d1 rfl (by omega) (by omega)
  obtain ⟨op, hop⟩ : ∃ op, ops[a]? = some op := ⟨_, List.getElem?_eq_getElem ha⟩
  have hat : L2.atI (opsD 0 ops) (a : Int) = some (opD a op) := atI_nat (by rw [opsD_get, hop]; simp)
  have g := ho.at_ a op hop
  have okd := fun L bl => okDM (L := L) (bl := bl) (rest := []) rfl
  have hset : ∀ op', (ops.set a op').length = ops.length := fun op' => List.length_set
  simp at e2
  have p1 : evSs (callF tab (k + 2)) bnt1 [some (.r 1), some (.d (.lst (opsD 0 ops))), none, none, none, none, none, none] (DM L bl []) = some ((.next, Eb ops a q op), DM M2 b2 []) := by
    unfold bnt1 Eb
    unfold opD at hat
    simp [blt_lenL, opsD_length, e1, hat, e2]
  have fin : ∀ (x : D) (M : List Int) (b : Int) (env : Env), evSs (callF tab (k + 2)) bnt2 (Eb ops a q op) (DM M2 b2 []) = some ((.ret (.d x), env), DM M b []) → callF tab (k + 3) 78 [.r 1, .d (.lst (opsD 0 ops))] (DM L bl []) = some (.d x, DM M b []) := by
    intro x M b env e
    refine call_upd rfl (okd _ _) rfl rfl rfl ?_
    unfold body
    rw [bent_body]
    have henv : ([.r 1, .d (.lst (opsD 0 ops))] : List W).map some ++ List.replicate (fn__law_bent.sl - fn__law_bent.ar) none = [some (.r 1), some (.d (.lst (opsD 0 ops))), none, none, none, none, none, none] := rfl
    rw [henv, ess_app, p1, kSs_n, e]
    rfl
  have ev := fun x op' M b h => bent_eval (cl := callF tab (k + 2)) (mem := DM M2 b2 []) (x0 := some (.r 1)) (x3 := some (.d (.int q))) (x4 := some (.d (.int a))) (x5 := some (.d (.str [op.kind]))) (x6 := some (.d (.tup op.info))) (x7 := some (.d (.tup (op.args.map Opr.D)))) (x := x) (op' := op') (mem' := DM M b []) ha hl h
  by_cases c1 : (decide (q = 0) && (decide (op.args.length = 2) && (decide (op.kind = .bin) || decide (op.kind = .cmp)))) = true
  · -- the arguments change places
    obtain ⟨op', hev, hg, hn⟩ : ∃ op' : Op, evE (callF tab (k + 2)) bX1 (Eb ops a q op) (DM M2 b2 []) = some (.d (opD a op'), DM M2 b2 []) ∧ gAt a op' ∧ notCast op' = true := by
      cases op with
      | bin o s x y =>
        refine ⟨.bin o s y x, by unfold bX1 Eb; simp [opD, Op.kind, Op.info, Op.args], ⟨?_, g.2.1, g.2.2⟩, rfl⟩
        intro p hp
        simp [Op.args] at hp
        rcases hp with rfl | rfl
        · exact g.1 _ (by simp [Op.args])
        · exact g.1 _ (by simp [Op.args])
      | cmp o s x y =>
        refine ⟨.cmp o s y x, by unfold bX1 Eb; simp [opD, Op.kind, Op.info, Op.args], ⟨?_, g.2.1, g.2.2⟩, rfl⟩
        intro p hp
        simp [Op.args] at hp
        rcases hp with rfl | rfl
        · exact g.1 _ (by simp [Op.args])
        · exact g.1 _ (by simp [Op.args])
      | _ => simp [Op.kind] at c1
    refine ⟨M2, b2, ops.set a op', fin _ _ _ (Eb ops a q op) ?_, d2, opsOk_set ho hg hn, hset _⟩
    have e3 := ev bX1 op' M2 b2 hev
    unfold bnt2
    rw [ess_cons, es_iff, bC1_ev, kIff_s, if_pos c1, ess_cons, es_ret]
    unfold putE Eb
    rw [e3]
    rfl
  · by_cases c2 : (decide (q = 1) && decide (op.kind = .bin)) = true
    · obtain ⟨M3, b3, w, e4, hw, d3⟩ := c_ofS (k := k) (ws := [Wd.add, .sub, .bxor, .band, .lshr, .ashr]) d2 (by simp) (by simp)
      obtain ⟨o', rfl⟩ := bo6_ok w hw
      obtain ⟨op', hev, hg, hn⟩ : ∃ op' : Op, evE (callF tab (k + 2)) bX2 (Eb ops a q op) (DM M2 b2 []) = some (.d (opD a op'), DM M3 b3 []) ∧ gAt a op' ∧ notCast op' = true := by
        cases op with
        | bin o s x y =>
          simp [str1] at e4
          exact ⟨.bin o' s x y, by unfold bX2 Eb; simp [opD, Op.kind, Op.info, Op.args, e4], ⟨g.1, g.2.1, g.2.2⟩, rfl⟩
        | _ => simp [Op.kind] at c2
      refine ⟨M3, b3, ops.set a op', fin _ _ _ (Eb ops a q op) ?_, d3, opsOk_set ho hg hn, hset _⟩
      have e3 := ev bX2 op' M3 b3 hev
      unfold bnt2
      rw [ess_cons, es_iff, bC1_ev, kIff_s, if_neg c1, ess_nil, kSs_n, ess_cons, es_iff, bC2_ev, kIff_s, if_pos c2, ess_cons, es_ret]
      unfold putE Eb
      rw [e3]
      rfl
    · by_cases c3 : (decide (q = 2) && decide (op.kind = .cmp)) = true
      · obtain ⟨M3, b3, w, e4, hw, d3⟩ := c_ofS (k := k) (ws := [Wd.eq, .ule, .sle, .slt]) d2 (by simp) (by simp)
        obtain ⟨o', rfl⟩ := co4_ok w hw
        obtain ⟨op', hev, hg, hn⟩ : ∃ op' : Op, evE (callF tab (k + 2)) bX3 (Eb ops a q op) (DM M2 b2 []) = some (.d (opD a op'), DM M3 b3 []) ∧ gAt a op' ∧ notCast op' = true := by
          cases op with
          | cmp o s x y =>
            simp [str1] at e4
            exact ⟨.cmp o' s x y, by unfold bX3 Eb; simp [opD, Op.kind, Op.info, Op.args, e4], ⟨g.1, g.2.1, g.2.2⟩, rfl⟩
          | _ => simp [Op.kind] at c3
        refine ⟨M3, b3, ops.set a op', fin _ _ _ (Eb ops a q op) ?_, d3, opsOk_set ho hg hn, hset _⟩
        have e3 := ev bX3 op' M3 b3 hev
        unfold bnt2
        rw [ess_cons, es_iff, bC1_ev, kIff_s, if_neg c1, ess_nil, kSs_n, ess_cons, es_iff, bC2_ev, kIff_s, if_neg c2, ess_nil, kSs_n, ess_cons, es_iff, bC3_ev, kIff_s, if_pos c3, ess_cons, es_ret]
        unfold putE Eb
        rw [e3]
        rfl
      · refine ⟨M2, b2, ops, fin _ _ _ (Eb ops a q op) ?_, d2, ho, rfl⟩
        unfold bnt2
        rw [ess_cons, es_iff, bC1_ev, kIff_s, if_neg c1, ess_nil, kSs_n, ess_cons, es_iff, bC2_ev, kIff_s, if_neg c2, ess_nil, kSs_n, ess_cons, es_iff, bC3_ev, kIff_s, if_neg c3, ess_nil, kSs_n, ess_cons, es_ret]
        unfold Eb
        simp
end Mi
end
section
/-! Mf13: the law answers True. -/
namespace Mi
open PySem
theorem gO_of {i : Nat} {o : Opr} (h : gOv i o) (hi : i ≤ 1000) : gO o := by
  cases o with
  | n q => exact h
  | v j => simp only [gOv] at h; simp only [gO]; omega
theorem gOps_of {ops : List Op} (h : OpsOk ops) (hl : ops.length ≤ 1000) : gOps ops := by
  intro op hop
  obtain ⟨i, hi, rfl⟩ := List.getElem_of_mem hop
  have g := h.at_ i _ (List.getElem?_eq_getElem hi)
  exact ⟨fun o ho => gO_of (g.1 o ho) (by omega), g.2.1⟩
theorem made_of {ops : List Op} (h : OpsOk ops) : ∀ op, op ∈ ops → wOk op.made := by
  intro op hop
  obtain ⟨i, hi, rfl⟩ := List.getElem_of_mem hop
  exact (h.at_ i _ (List.getElem?_eq_getElem hi)).2.2
theorem ix_tab {q : Nat} {r : Fm × Fm} {mem : Mem} (h : rules[q]? = some r) : ixW (.d tabD) (.d (.int q)) mem = some (.d (ruleD r)) := by
  unfold tabD ruleD
  rw [ix_lst, atI_rule h]
  rfl
theorem len_tab {mem : Mem} : bltW .len (.d tabD) mem = some (.d (.int 63), mem) := rfl
def El (x0 x3 : Option W) (q : Nat) (ops : List Op) (x8 x9 x10 x11 x12 x13 x14 x15 x16 x17 : Option W) : Env := [x0, some (.r 1), some (.d tabD), x3, some (.d (.int q)), some (.d (funD (opsD 0 ops))), some (.d (modD (opsD 0 ops))), some (.d (.dct (typK 0 ops))), x8, x9, x10, x11, x12, x13, x14, x15, x16, x17, none]
def nearS : IS := .asg (.nm 14) (.ite (.cmp .eq (.call 42 [.var 1, .con (.int 3)]) (.con (.int 0))) (.call 42 [.var 1, .blt .len (.var 2)]) (.var 4))
def rightT : IS := .iff (.not (.call 80 [.var 2, .var 6, .var 5, .var 14, .var 12, .var 13])) [.ret (.con (.bl false))] []
def runB : List IS := [.asg (.nm 15) (.lc [18] (.nm 18) .range [.con (.int 4)] [] (.call 45 [.var 1, .con (.int 64)])),
          .asgT [.nm 16, .nm 17] (.call 61 [.tup [.tup [], .tup [.call 81 [.var 5, .var 7, .var 12, .var 13]]], .var 15, .con (.int 60)]),
          .iff (.andL [.cmp .eq (.blt .len (.var 16)) (.con (.int 2)), .cmp .ne (.ix (.var 16) (.con (.int 0))) (.ix (.var 16) (.con (.int 1)))])
           [.ret (.con (.bl false))]
           []]
def fitC : IR := .andL [.cmp .ne (.ix (.var 7) (.var 12)) (.con (.str [.ptr])), .call 79 [.var 2, .var 14, .var 12, .var 13, .var 7, .call 75 [.var 5]]]
def pairB : List IS := [nearS, rightT, .iff fitC runB []]
theorem turns_draw {k : Nat} {env : Env} (h1 : env[1]? = some (some (.r 1))) (hv : 18 < env.length) (its : List D) : ∀ (L : List Int) (bl : Int) (acc : List D), DOk L bl → ∃ (zs : List Int) (L' : List Int) (bl' : Int), turns (lcT1 [18] (.nm 18) [] (.call 45 [.var 1, .con (.int 64)]) (callF tab (k + 3)) env) snoc its acc (DM L bl []) = some (acc ++ zs.map .int, DM L' bl' []) ∧ DOk L' bl' ∧ zs.length = its.length := by
  induction its with
  | nil => intro L bl acc hd; exact ⟨[], L, bl, by simp, hd, rfl⟩
  | cons it its ih =>
    intro L bl acc hd
    obtain ⟨L1, b1, q, e1, hq, d1⟩ := c_number (k := k) (w := 64) (rest := []) hd rfl w64
    obtain ⟨zs, L2, b2, e2, d2, hl⟩ := ih L1 b1 (acc ++ [.int q]) d1
    refine ⟨(q : Int) :: zs, L2, b2, ?_, d2, by simp [hl]⟩
    rw [turns_cons]
    have : lcT1 [18] (.nm 18) [] (.call 45 [.var 1, .con (.int 64)]) (callF tab (k + 3)) env it (DM L bl []) = some (some (.int q), DM L1 b1 []) := by
      simp at e1
      simp [lcT1, wipeE, List.getElem?_set, h1, e1]
    rw [this, kTn_s, snoc, e2]
    simp
theorem pair_ok {k : Nat} {x0 x3 x8 x9 x10 x11 x14 x15 x16 x17 : Option W} {q v : Nat} {ops : List Op} {o : Opr} {L : List Int} {bl : Int} (hd : DOk L bl) (ho : OpsOk ops) (hl : ops.length ≤ 100) (hq : q < 63) (hv : v < ops.length) (hg : gOv ops.length o) :
    ∃ (L' : List Int) (bl' : Int) (y14 y15 y16 y17 : Option W), evSs (callF tab (k + 20)) pairB (El x0 x3 q ops x8 x9 x10 x11 (some (.d (.int v))) (some (.d o.D)) x14 x15 x16 x17) (DM L bl []) = some ((.next, El x0 x3 q ops x8 x9 x10 x11 (some (.d (.int v))) (some (.d o.D)) y14 y15 y16 y17), DM L' bl' []) ∧ DOk L' bl' := by
  have g := gOps_of ho (by omega)
  have hw := made_of ho
  have hlim : ops.length < lim := by unfold lim; omega
  have okd := fun L bl => okDM (L := L) (bl := bl) (rest := []) rfl
  obtain ⟨op, hop⟩ : ∃ op, ops[v]? = some op := ⟨_, List.getElem?_eq_getElem hv⟩
  -- near
  obtain ⟨M1, b1, z, e1, hz, d1⟩ := c_any (k := k + 19) (b := 3) (rest := []) hd rfl (by omega) (by omega)
  obtain ⟨M2, b2, n, hn, d2, en⟩ : ∃ (M2 : List Int) (b2 : Int) (n : Nat), n < 63 ∧ DOk M2 b2 ∧ evS (callF tab (k + 20)) nearS (El x0 x3 q ops x8 x9 x10 x11 (some (.d (.int v))) (some (.d o.D)) x14 x15 x16 x17) (DM L bl []) = some ((.next, El x0 x3 q ops x8 x9 x10 x11 (some (.d (.int v))) (some (.d o.D)) (some (.d (.int n))) x15 x16 x17), DM M2 b2 []) := by
    simp at e1
    by_cases h0 : z = 0
    · subst h0
      obtain ⟨M2, b2, n, e2, hn, d2⟩ := c_any (k := k + 19) (b := 63) (rest := []) d1 rfl (by omega) (by omega)
      refine ⟨M2, b2, n, hn, d2, ?_⟩
      simp at e2
      unfold nearS El
      simp [e1, len_tab, e2]
    · refine ⟨M1, b1, q, hq, d1, ?_⟩
      unfold nearS El
      simp [e1, h0]
  obtain ⟨r, hr⟩ : ∃ r, rules[n]? = some r := ⟨_, List.getElem?_eq_getElem (by rw [rules_len]; exact hn)⟩
  have hrm := List.mem_of_getElem? hr
  -- the program's answers are the law's
  have e80 := c_lawRight (k := k + 19) (v := v) (o := o) g hw hlim hr (okd M2 b2) (by omega)
  have er : evS (callF tab (k + 20)) rightT (El x0 x3 q ops x8 x9 x10 x11 (some (.d (.int v))) (some (.d o.D)) (some (.d (.int n))) x15 x16 x17) (DM M2 b2 []) = some ((.next, El x0 x3 q ops x8 x9 x10 x11 (some (.d (.int v))) (some (.d o.D)) (some (.d (.int n))) x15 x16 x17), DM M2 b2 []) := by
    unfold rightT El
    simp [e80]
  have e79 := c_fitsRight (k := k + 19) (v := v) (o := o) g hw hr (okd M2 b2) (by omega)
  have e75 := c_ops (k := k + 19) (okd M2 b2) hlim
  have hty := lk_typ hop
  have ef : evE (callF tab (k + 20)) fitC (El x0 x3 q ops x8 x9 x10 x11 (some (.d (.int v))) (some (.d o.D)) (some (.d (.int n))) x15 x16 x17) (DM M2 b2 []) = some (.d (.bl (fitsB ops r v o)), DM M2 b2 []) := by
    unfold fitC El
    simp [hty, e75, e79]
  cases hf : fitsB ops r v o with
  | false =>
    refine ⟨M2, b2, some (.d (.int n)), x15, x16, x17, ?_, d2⟩
    unfold pairB
    rw [ess_cons, en, kSs_n, ess_cons, er, kSs_n, ess_cons, es_iff, ef, hf, kIff_s, if_neg (by decide)]
    rfl
  | true =>
    obtain ⟨zs, M3, b3, e3, d3, hzl⟩ := turns_draw (k := k + 17) (env := El x0 x3 q ops x8 x9 x10 x11 (some (.d (.int v))) (some (.d o.D)) (some (.d (.int n))) x15 x16 x17) rfl (by simp [El]) (rng 4) M2 b2 [] d2
    have hmd : madeAt ops v = op.made := by simp [madeAt, hop]
    have hsc : ScOk ⟨ops, op.made, v, o⟩ := ⟨g, hw, hw op (List.mem_of_getElem? hop), by simp only; omega⟩
    have e81 := c_shows (k := k + 19) (c := ⟨ops, op.made, v, o⟩) (okd M3 b3) hty (by simp only; omega)
    obtain ⟨outs, rr, e61, hgood⟩ := c_run (k := k + 12) (c := ⟨ops, op.made, v, o⟩) (ins := zs) hsc (okd M3 b3)
    have hsnd : outs.length = 2 → ∃ a, outs = [a, a] := fun h => sound hsc ho.nc hrm hmd.symm hf (hgood h)
    have h4 : itemsV .range [IR.con (.int 4)] [.d (.int 4)] = some (rng 4) := it_rngE (i := 4) (by omega)
    have hzl' : zs.length = 4 := by rw [hzl]; rfl
    have hz4 : (4 : Nat) < lim := by unfold lim; omega
    refine ⟨M3, b3, some (.d (.int n)), some (.d (.lst (zs.map .int))), some (.d (.tup (outs.map .int))), some (.d rr), ?_, d3⟩
    have eb : evSs (callF tab (k + 20)) runB (El x0 x3 q ops x8 x9 x10 x11 (some (.d (.int v))) (some (.d o.D)) (some (.d (.int n))) x15 x16 x17) (DM M2 b2 []) = some ((.next, El x0 x3 q ops x8 x9 x10 x11 (some (.d (.int v))) (some (.d o.D)) (some (.d (.int n))) (some (.d (.lst (zs.map .int)))) (some (.d (.tup (outs.map .int)))) (some (.d rr))), DM M3 b3 []) := by
      unfold runB
      unfold modD at e61
      unfold El at e3 ⊢
      simp only [List.nil_append] at e3
      simp [h4, e3, hzl', hz4, e81, e61, blt_lenT]
      by_cases h2 : outs.length = 2
      · obtain ⟨a, rfl⟩ := hsnd h2
        simp
      · have h2' : ¬ (outs.length : Int) = 2 := by omega
        simp [h2', h2]
    unfold pairB
    rw [ess_cons, en, kSs_n, ess_cons, er, kSs_n, ess_cons, es_iff, ef, hf, kIff_s, if_pos rfl, eb]
    rfl
end Mi
end
section
/-! Mf14: the law, whole. -/
namespace Mi
open PySem
def turnL : List IS := [.asg (.nm 4) (.call 42 [.var 1, .blt .len (.var 2)]),
      .asgT [.nm 9, .nm 10, .nm 11] (.call 77 [.var 1, .ix (.var 2) (.var 4)]),
      .iff (.cmp .eq (.call 42 [.var 1, .con (.int 3)]) (.con (.int 0)))
       [.asg (.nm 9) (.call 78 [.var 1, .var 9])]
       [],
      .asg (.nm 5) (.tup [.con (.str [.main]), .tup [], .con (.int 8), .tup [.tup [.con (.int 0), .tup [], .blt .tuple (.var 9), .tup [.con (.str [.ret]), .tup [.con (.str [.n]), .con (.int 0)]]]]]),
      .asg (.nm 6) (.tup [.tup [], .tup [.var 5]]),
      .asg (.nm 7) (.call 66 [.var 6, .var 5]),
      .asg (.nm 8) (.blt .sorted (.blt .list (.var 7)))]
def pairsI : IR := .lstF [.tup [.ix (.var 10) (.con (.int 1)), .var 11], .tup [.call 43 [.var 1, .var 8], .call 43 [.var 1, .lstF [.var 11, .tup [.con (.str [.v]), .call 43 [.var 1, .var 8]], .tup [.con (.str [.n]), .con (.int 0)], .tup [.con (.str [.n]), .con (.int 1)]]]]]
def turnR : List IS := [.forr (.tp [12, 13]) .e [pairsI] pairB]
theorem law_body : fn_law.body = [.asg (.nm 1) (.call 41 [.var 0, .con (.int 26)]), .asg (.nm 2) (.call 67 []), .forr (.nm 3) .range [.con (.int 4)] (turnL ++ turnR), .ret (.con (.bl true))] := rfl
def EnvL (x0 : Option W) (env : Env) : Prop := ∃ x3 x4 x5 x6 x7 x8 x9 x10 x11 x12 x13 x14 x15 x16 x17 : Option W, env = [x0, some (.r 1), some (.d tabD), x3, x4, x5, x6, x7, x8, x9, x10, x11, x12, x13, x14, x15, x16, x17, none]
theorem opsD_typ {ops : List Op} : (typK 0 ops).map (fun kv => kv.1.d) = keysD 0 ops.length := typK_keys ops 0
theorem left_ok {k : Nat} {x0 : Option W} {env : Env} {L : List Int} {bl : Int} (he : EnvL x0 env) (hd : DOk L bl) :
    ∃ (L' : List Int) (bl' : Int) (q : Nat) (ops : List Op) (j : Nat) (o : Opr) (x3 x9 x12 x13 x14 x15 x16 x17 : Option W), evSs (callF tab (k + 20)) turnL env (DM L bl []) = some ((.next, El x0 x3 q ops (some (.d (.lst (keysD 0 ops.length)))) x9 (some (.d (Opr.v j).D)) (some (.d o.D)) x12 x13 x14 x15 x16 x17), DM L' bl' []) ∧ DOk L' bl' ∧ OpsOk ops ∧ ops.length ≤ 15 ∧ q < 63 ∧ j < ops.length ∧ gOv ops.length o := by
  obtain ⟨x3, x4, x5, x6, x7, x8, x9, x10, x11, x12, x13, x14, x15, x16, x17, rfl⟩ := he
  obtain ⟨M1, b1, q, e1, hq, d1⟩ := c_any (k := k + 19) (b := 63) (rest := []) hd rfl (by omega) (by omega)
  obtain ⟨r, hr⟩ : ∃ r, rules[q]? = some r := ⟨_, List.getElem?_eq_getElem (by rw [rules_len]; exact hq)⟩
  obtain ⟨M2, b2, ops, j, o, e2, d2, ok2, hl2, hj, hg⟩ := c_after (k := k + 3) (List.mem_of_getElem? hr) d1
  obtain ⟨M3, b3, z, e3, hz, d3⟩ := c_any (k := k + 19) (b := 3) (rest := []) d2 rfl (by omega) (by omega)
  have hix := fun {mem : Mem} => ix_tab (mem := mem) hr
  simp at e1 e3
  obtain ⟨M4, b4, ops', d4, ok4, hl4, e4⟩ : ∃ (M4 : List Int) (b4 : Int) (ops' : List Op), DOk M4 b4 ∧ OpsOk ops' ∧ ops'.length = ops.length ∧ evS (callF tab (k + 20)) (.iff (.cmp .eq (.call 42 [.var 1, .con (.int 3)]) (.con (.int 0))) [.asg (.nm 9) (.call 78 [.var 1, .var 9])] []) [x0, some (.r 1), some (.d tabD), x3, some (.d (.int q)), x5, x6, x7, x8, some (.d (.lst (opsD 0 ops))), some (.d (Opr.v j).D), some (.d o.D), x12, x13, x14, x15, x16, x17, none] (DM M2 b2 []) = some ((.next, [x0, some (.r 1), some (.d tabD), x3, some (.d (.int q)), x5, x6, x7, x8, some (.d (.lst (opsD 0 ops'))), some (.d (Opr.v j).D), some (.d o.D), x12, x13, x14, x15, x16, x17, none]), DM M4 b4 []) := by
    by_cases h0 : z = 0
    · subst h0
      obtain ⟨M4, b4, ops', e4, d4, ok4, hl4⟩ := c_bent (k := k + 17) d3 ok2 (by omega) (by omega)
      exact ⟨M4, b4, ops', d4, ok4, hl4, by simp [e3, e4]⟩
    · exact ⟨M3, b3, ops, d3, ok2, rfl, by simp [e3, h0]⟩
  have okd := fun L bl => okDM (L := L) (bl := bl) (rest := []) rfl
  have hlim : ops'.length < lim := by unfold lim; omega
  have e66 := c_allTypes (k := k + 17) (okd M4 b4) hlim
  have hsort := sort_keys (i := 0) (n := ops'.length) hlim
  refine ⟨M4, b4, q, ops', j, o, x3, some (.d (.lst (opsD 0 ops'))), x12, x13, x14, x15, x16, x17, ?_, d4, ok4, by omega, hq, by omega, by rw [hl4]; exact hg⟩
  have e12 : evSs (callF tab (k + 20)) [.asg (.nm 4) (.call 42 [.var 1, .blt .len (.var 2)]), .asgT [.nm 9, .nm 10, .nm 11] (.call 77 [.var 1, .ix (.var 2) (.var 4)])] [x0, some (.r 1), some (.d tabD), x3, x4, x5, x6, x7, x8, x9, x10, x11, x12, x13, x14, x15, x16, x17, none] (DM L bl []) = some ((.next, [x0, some (.r 1), some (.d tabD), x3, some (.d (.int q)), x5, x6, x7, x8, some (.d (.lst (opsD 0 ops))), some (.d (Opr.v j).D), some (.d o.D), x12, x13, x14, x15, x16, x17, none]), DM M2 b2 []) := by
    simp [len_tab, e1, hix, e2]
  have e58 : evSs (callF tab (k + 20)) [.asg (.nm 5) (.tup [.con (.str [.main]), .tup [], .con (.int 8), .tup [.tup [.con (.int 0), .tup [], .blt .tuple (.var 9), .tup [.con (.str [.ret]), .tup [.con (.str [.n]), .con (.int 0)]]]]]), .asg (.nm 6) (.tup [.tup [], .tup [.var 5]]), .asg (.nm 7) (.call 66 [.var 6, .var 5]), .asg (.nm 8) (.blt .sorted (.blt .list (.var 7)))] [x0, some (.r 1), some (.d tabD), x3, some (.d (.int q)), x5, x6, x7, x8, some (.d (.lst (opsD 0 ops'))), some (.d (Opr.v j).D), some (.d o.D), x12, x13, x14, x15, x16, x17, none] (DM M4 b4 []) = some ((.next, El x0 x3 q ops' (some (.d (.lst (keysD 0 ops'.length)))) (some (.d (.lst (opsD 0 ops')))) (some (.d (Opr.v j).D)) (some (.d o.D)) x12 x13 x14 x15 x16 x17), DM M4 b4 []) := by
    unfold El modD funD retD at *
    simp [blt_tuple, e66, blt_listD, opsD_typ, blt_sorted, hsort]
  have hsplit : turnL = [.asg (.nm 4) (.call 42 [.var 1, .blt .len (.var 2)]), .asgT [.nm 9, .nm 10, .nm 11] (.call 77 [.var 1, .ix (.var 2) (.var 4)])] ++ (.iff (.cmp .eq (.call 42 [.var 1, .con (.int 3)]) (.con (.int 0))) [.asg (.nm 9) (.call 78 [.var 1, .var 9])] [] :: [.asg (.nm 5) (.tup [.con (.str [.main]), .tup [], .con (.int 8), .tup [.tup [.con (.int 0), .tup [], .blt .tuple (.var 9), .tup [.con (.str [.ret]), .tup [.con (.str [.n]), .con (.int 0)]]]]]), .asg (.nm 6) (.tup [.tup [], .tup [.var 5]]), .asg (.nm 7) (.call 66 [.var 6, .var 5]), .asg (.nm 8) (.blt .sorted (.blt .list (.var 7)))]) := rfl
  rw [hsplit, ess_app, e12, kSs_n, ess_cons, e4, kSs_n, e58]
theorem keys_pick {n : Nat} {j : Nat} {x : D} (h : (keysD 0 n)[j]? = some x) : ∃ i : Nat, i < n ∧ x = .int i := by
  obtain ⟨i, _, h2, h3⟩ := keysD_mem (List.mem_of_getElem? h)
  exact ⟨i, by omega, h3⟩
theorem turn_ok {k : Nat} {x0 : Option W} {env : Env} {L : List Int} {bl : Int} (he : EnvL x0 env) (hd : DOk L bl) : ∃ (L' : List Int) (bl' : Int) (env' : Env), evSs (callF tab (k + 20)) (turnL ++ turnR) env (DM L bl []) = some ((.next, env'), DM L' bl' []) ∧ DOk L' bl' ∧ EnvL x0 env' := by
  obtain ⟨M1, b1, q, ops, j, o, x3, x9, x12, x13, x14, x15, x16, x17, e1, d1, ok1, hl, hq, hj, hg⟩ := left_ok (k := k) he hd
  have hkl : (keysD 0 ops.length) ≠ [] := by
    intro h
    have := keysD_length ops.length 0
    rw [h] at this
    simp at this
    omega
  have hkl2 : (keysD 0 ops.length).length ≤ 1000 := by rw [keysD_length]; omega
  obtain ⟨M2, b2, j2, y2, e2, h2, d2⟩ := c_of (k := k + 18) (rest := []) d1 rfl hkl hkl2
  obtain ⟨v2, hv2, rfl⟩ := keys_pick h2
  obtain ⟨M3, b3, j3, y3, e3, h3, d3⟩ := c_of (k := k + 18) (rest := []) d2 rfl hkl hkl2
  obtain ⟨v3, hv3, rfl⟩ := keys_pick h3
  obtain ⟨M4, b4, j4, y4, e4, h4, d4⟩ := c_of (k := k + 18) (rest := []) (xs := [o.D, (Opr.v v3).D, (Opr.n 0).D, (Opr.n 1).D]) d3 rfl (by simp) (by simp)
  obtain ⟨o2, rfl, hg2⟩ : ∃ o2 : Opr, y4 = o2.D ∧ gOv ops.length o2 := by
    have hm := List.mem_of_getElem? h4
    simp at hm
    rcases hm with rfl | rfl | rfl | rfl
    · exact ⟨o, rfl, hg⟩
    · exact ⟨.v v3, rfl, hv3⟩
    · exact ⟨.n 0, rfl, by simp [gOv]⟩
    · exact ⟨.n 1, rfl, by simp [gOv]⟩
  have eI : evEs (callF tab (k + 20)) [pairsI] (El x0 x3 q ops (some (.d (.lst (keysD 0 ops.length)))) x9 (some (.d (Opr.v j).D)) (some (.d o.D)) x12 x13 x14 x15 x16 x17) (DM M1 b1 []) = some ([.d (.lst [.tup [.int j, o.D], .tup [.int v2, o2.D]])], DM M4 b4 []) := by
    have e4' : callF tab (k + 18 + 2) 43 [.r 1, .d (.lst [o.D, .tup [.str [.v], .int v3], .tup [.str [.n], .int 0], .tup [.str [.n], .int 1]])] (DM M3 b3 []) = some (.d o2.D, DM M4 b4 []) := e4
    unfold pairsI El
    simp [oprV, e2, e3, e4']
  obtain ⟨M5, b5, z14, z15, z16, z17, e5, d5⟩ := pair_ok (k := k) (x0 := x0) (x3 := x3) (x8 := some (.d (.lst (keysD 0 ops.length)))) (x9 := x9) (x10 := some (.d (Opr.v j).D)) (x11 := some (.d o.D)) (x14 := x14) (x15 := x15) (x16 := x16) (x17 := x17) (q := q) d4 ok1 (by omega) hq hj hg
  obtain ⟨M6, b6, u14, u15, u16, u17, e6, d6⟩ := pair_ok (k := k) (x0 := x0) (x3 := x3) (x8 := some (.d (.lst (keysD 0 ops.length)))) (x9 := x9) (x10 := some (.d (Opr.v j).D)) (x11 := some (.d o.D)) (x14 := z14) (x15 := z15) (x16 := z16) (x17 := z17) (q := q) d5 ok1 (by omega) hq hv2 hg2
  have eL : loopF (fBody (callF tab (k + 20)) pairB) (.tp [12, 13]) [.tup [.int j, o.D], .tup [.int v2, o2.D]] (El x0 x3 q ops (some (.d (.lst (keysD 0 ops.length)))) x9 (some (.d (Opr.v j).D)) (some (.d o.D)) x12 x13 x14 x15 x16 x17) (DM M4 b4 []) = some ((.next, El x0 x3 q ops (some (.d (.lst (keysD 0 ops.length)))) x9 (some (.d (Opr.v j).D)) (some (.d o.D)) (some (.d (.int v2))) (some (.d o2.D)) u14 u15 u16 u17), DM M6 b6 []) := by
    have t1 : setTg (.tp [12, 13]) (.tup [.int j, o.D]) (El x0 x3 q ops (some (.d (.lst (keysD 0 ops.length)))) x9 (some (.d (Opr.v j).D)) (some (.d o.D)) x12 x13 x14 x15 x16 x17) = some (El x0 x3 q ops (some (.d (.lst (keysD 0 ops.length)))) x9 (some (.d (Opr.v j).D)) (some (.d o.D)) (some (.d (.int j))) (some (.d o.D)) x14 x15 x16 x17) := rfl
    have t2 : setTg (.tp [12, 13]) (.tup [.int v2, o2.D]) (El x0 x3 q ops (some (.d (.lst (keysD 0 ops.length)))) x9 (some (.d (Opr.v j).D)) (some (.d o.D)) (some (.d (.int j))) (some (.d o.D)) z14 z15 z16 z17) = some (El x0 x3 q ops (some (.d (.lst (keysD 0 ops.length)))) x9 (some (.d (Opr.v j).D)) (some (.d o.D)) (some (.d (.int v2))) (some (.d o2.D)) z14 z15 z16 z17) := rfl
    rw [loop_cons, t1, kLoop_s, e5, kLoop2_n, loop_cons, t2, kLoop_s, e6, kLoop2_n, loop_nil]
  refine ⟨M6, b6, _, ?_, d6, ⟨x3, some (.d (.int q)), some (.d (funD (opsD 0 ops))), some (.d (modD (opsD 0 ops))), some (.d (.dct (typK 0 ops))), some (.d (.lst (keysD 0 ops.length))), x9, some (.d (Opr.v j).D), some (.d o.D), some (.d (.int v2)), some (.d o2.D), u14, u15, u16, u17, rfl⟩⟩
  rw [ess_app, e1, kSs_n]
  unfold turnR
  rw [ess_cons, es_for, eI, kFor1_s, it_l, kFor_s, eL]
  rfl
theorem loop_turns {k : Nat} {x0 : Option W} (its : List D) : ∀ (env : Env) (L : List Int) (bl : Int), EnvL x0 env → DOk L bl → ∃ (L' : List Int) (bl' : Int) (env' : Env), loopF (fBody (callF tab (k + 20)) (turnL ++ turnR)) (.nm 3) its env (DM L bl []) = some ((.next, env'), DM L' bl' []) := by
  induction its with
  | nil => intro env L bl _ _; exact ⟨L, bl, env, rfl⟩
  | cons it its ih =>
    intro env L bl he hd
    obtain ⟨x3, x4, x5, x6, x7, x8, x9, x10, x11, x12, x13, x14, x15, x16, x17, rfl⟩ := he
    obtain ⟨L1, b1, env1, e1, d1, h1⟩ := turn_ok (k := k) (x0 := x0) (env := [x0, some (.r 1), some (.d tabD), some (.d it), x4, x5, x6, x7, x8, x9, x10, x11, x12, x13, x14, x15, x16, x17, none]) ⟨_, _, _, _, _, _, _, _, _, _, _, _, _, _, _, rfl⟩ hd
    obtain ⟨L2, b2, env2, e2⟩ := ih env1 L1 b1 h1 d1
    refine ⟨L2, b2, env2, ?_⟩
    have t1 : setTg (.nm 3) it [x0, some (.r 1), some (.d tabD), x3, x4, x5, x6, x7, x8, x9, x10, x11, x12, x13, x14, x15, x16, x17, none] = some [x0, some (.r 1), some (.d tabD), some (.d it), x4, x5, x6, x7, x8, x9, x10, x11, x12, x13, x14, x15, x16, x17, none] := rfl
    rw [loop_cons, t1, kLoop_s, e1, kLoop2_n, e2]
theorem math (ns : List Int) (hl : ns.length ≤ 63) : callF tab 24 82 [.d (.lst (ns.map .int))] [] = some (.d (.bl true), []) := by
  obtain ⟨L, bl, e1, d1⟩ := c_draw (k := 22) hl
  have e2 := c_table (k := 22) (okDM (L := L) (bl := bl) (rest := []) rfl)
  obtain ⟨L', bl', env', e3⟩ := loop_turns (k := 3) (x0 := some (.d (.lst (ns.map .int)))) (rng 4) [some (.d (.lst (ns.map .int))), some (.r 1), some (.d tabD), none, none, none, none, none, none, none, none, none, none, none, none, none, none, none, none] L bl ⟨_, _, _, _, _, _, _, _, _, _, _, _, _, _, _, rfl⟩ d1
  have h4 : itemsV .range [IR.con (.int 4)] [.d (.int 4)] = some (rng 4) := it_rngE (i := 4) (by omega)
  have key : callF tab (3 + 20 + 1) 82 [.d (.lst (ns.map .int))] [] = some (.d (.bl true), []) := by
    refine call_new (mem := []) (new := DM L' bl' []) (w := .d (.bl true)) rfl rfl rfl rfl ?_ rfl
    unfold body
    rw [law_body]
    have henv : ([.d (.lst (ns.map .int))] : List W).map some ++ List.replicate (fn_law.sl - fn_law.ar) none = [some (.d (.lst (ns.map .int))), none, none, none, none, none, none, none, none, none, none, none, none, none, none, none, none, none, none] := rfl
    rw [henv]
    have s1 : evS (callF tab (3 + 20)) (.asg (.nm 1) (.call 41 [.var 0, .con (.int 26)])) [some (.d (.lst (ns.map .int))), none, none, none, none, none, none, none, none, none, none, none, none, none, none, none, none, none, none] [] = some ((.next, [some (.d (.lst (ns.map .int))), some (.r 1), none, none, none, none, none, none, none, none, none, none, none, none, none, none, none, none, none]), DM L bl []) := by
      simp [e1]
    have s2 : evS (callF tab (3 + 20)) (.asg (.nm 2) (.call 67 [])) [some (.d (.lst (ns.map .int))), some (.r 1), none, none, none, none, none, none, none, none, none, none, none, none, none, none, none, none, none] (DM L bl []) = some ((.next, [some (.d (.lst (ns.map .int))), some (.r 1), some (.d tabD), none, none, none, none, none, none, none, none, none, none, none, none, none, none, none, none]), DM L bl []) := by
      simp [e2]
    rw [ess_cons, s1, kSs_n, ess_cons, s2, kSs_n, ess_cons, es_for, evs_cons, ev_con, kEs_s, evs_nil, kEs2_s, kFor1_s, h4, kFor_s, e3, kSs_n]
    rfl
  exact key
end Mi
end
/-! The row holds. -/
theorem PySem.Challenge.cw_anypasses_k26_whole_rules_found_in_ops_holds : PySem.Challenge.rw_anypasses_k26_whole_rules_found_in_ops.Holds :=
  Mi.holds_of Mi.math
