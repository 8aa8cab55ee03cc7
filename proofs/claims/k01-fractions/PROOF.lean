import PyProof.Rows.All
import Wide.All
import OpenK.AllK
import Wide.FinOn
import HandS.ForMost
import HandS.ForExc
import HandS.Defaults
import HandS.Flow
import HandS.Wide
import HandS.WideBits
import HandS.Zip
import HandS.TupAny
import HandS.IsInst
import HandS.Style
import HandS.Head0
import HandS.Head1
import HandS.Head2
import HandS.HeadEnd
import HandS.HeadHook1
import HandS.HeadHook2
import HandS.EndBits
import HandS.HeadWalk
import HandS.TupMul
import HandS.NoneIn
import KE.KDictZip
import KE.KUnpackStar
import HandS.Deep
import HandS.SortInts
import HandS.Conv
import HandS.Codes
import HandS.HeadHook4
import KE.GoesEnum
import PySem.Challenge.RW_steamhours_k01_fractions
set_option Elab.async false
set_option linter.all false
set_option maxRecDepth 100000
set_option autoImplicit false
section
set_option maxHeartbeats 2000000
/-! ZCore: a small language Z of trees and cells, its values, its run. -/
namespace ZZ
open PySem

inductive Z where
  | non | bl (b : Bool) | int (i : Int) | str (s : List Nat)
  | lst (xs : List Z) | tup (xs : List Z) | dic (ks vs : List Z)
  | ins (c : String) (fs : List String) (vs : List Z)
  | scr (xs : List Int)
  | cel (n : Nat)

/-- a cell: what may be changed in place -/
inductive Cl where
  | lst (xs : List Z) | dic (ks vs : List Z) | ins (c : String) (fs : List String) (vs : List Z) | dead

abbrev Sto := List Cl
abbrev En := List (Option Z)

inductive R (α : Type) where
  | ok (a : α) (st : Sto) | exn (c : String) (w : Z) (st : Sto) | no

namespace R
def bind {α β : Type} (r : R α) (f : α → Sto → R β) : R β := match r with
  | .ok a st => f a st
  | .exn c w st => .exn c w st
  | .no => .no
@[simp] theorem bind_ok {α β : Type} {a : α} {st : Sto} {f : α → Sto → R β} : (R.ok a st).bind f = f a st := rfl
@[simp] theorem bind_exn {α β : Type} {c : String} {w : Z} {st : Sto} {f : α → Sto → R β} : (R.exn c w st : R α).bind f = .exn c w st := rfl
@[simp] theorem bind_no {α β : Type} {f : α → Sto → R β} : (R.no : R α).bind f = .no := rfl
theorem bind_assoc {α β γ : Type} {r : R α} {f : α → Sto → R β} {g : β → Sto → R γ} : (r.bind f).bind g = r.bind fun a st => (f a st).bind g := by cases r <;> rfl
/-- exceptions are not waited for here -/
def calm {α : Type} (r : R α) : R α := match r with
  | .ok a st => .ok a st
  | _ => .no
@[simp] theorem calm_ok {α : Type} {a : α} {st : Sto} : (R.ok a st).calm = .ok a st := rfl
@[simp] theorem calm_no {α : Type} : (R.no : R α).calm = .no := rfl
end R
def ofO {α : Type} (o : Option α) (st : Sto) : R α := match o with
  | some a => .ok a st
  | none => .no
@[simp] theorem ofO_some {α : Type} {a : α} {st : Sto} : ofO (some a) st = .ok a st := rfl
@[simp] theorem ofO_none {α : Type} {st : Sto} : ofO (none : Option α) st = .no := rfl

/-- a function's run: its name, its arguments, where the caller's cells end, the cells -/
abbrev FT := String → List Z → List String → Nat → Sto → R Z

/-! ### plain looks at values -/
mutual
def Z.refs : Z → List Nat
  | .cel n => [n]
  | .lst xs => refsL xs
  | .tup xs => refsL xs
  | .dic ks vs => refsL ks ++ refsL vs
  | .ins _ _ vs => refsL vs
  | _ => []
def refsL : List Z → List Nat
  | [] => []
  | z :: zs => z.refs ++ refsL zs
end
def Cl.refs : Cl → List Nat
  | .lst xs => refsL xs
  | .dic ks vs => refsL ks ++ refsL vs
  | .ins _ _ vs => refsL vs
  | .dead => []
def Z.clo (z : Z) : Bool := z.refs.isEmpty
/-! plain data: what == goes through -/
mutual
def Z.pd : Z → Bool
  | .non => true | .bl _ => true | .int _ => true | .str _ => true
  | .lst xs => pdL xs
  | .tup xs => pdL xs
  | _ => false
def pdL : List Z → Bool
  | [] => true
  | z :: zs => z.pd && pdL zs
end
mutual
def Z.dep : Z → Nat
  | .lst xs => depL xs + 1
  | .tup xs => depL xs + 1
  | _ => 0
def depL : List Z → Nat
  | [] => 0
  | z :: zs => max z.dep (depL zs)
end
/-! == of plain data -/
mutual
def zeqv : Z → Z → Bool
  | .non, .non => true
  | .bl a, .bl b => a == b
  | .bl a, .int j => (if a then 1 else 0) == j
  | .int i, .bl b => i == (if b then 1 else 0)
  | .int i, .int j => i == j
  | .str x, .str y => x == y
  | .lst xs, .lst ys => zeqvL xs ys
  | .tup xs, .tup ys => zeqvL xs ys
  | _, _ => false
def zeqvL : List Z → List Z → Bool
  | [], [] => true
  | x :: xs, y :: ys => zeqv x y && zeqvL xs ys
  | _, _ => false
end
/-- what stands behind a cell -/
def drc (n : Nat) : Option Cl → Z
  | some (.lst xs) => .lst xs
  | some (.dic ks vs) => .dic ks vs
  | some (.ins c fs vs) => .ins c fs vs
  | _ => .cel n
def dr (st : Sto) : Z → Z
  | .cel n => drc n st[n]?
  | .scr xs => .lst (xs.map Z.int)
  | z => z
theorem dr_cel {st n} : dr st (.cel n) = drc n st[n]? := rfl
@[simp] theorem dr_non {st} : dr st .non = .non := rfl
@[simp] theorem dr_bl {st b} : dr st (.bl b) = .bl b := rfl
@[simp] theorem dr_int {st i} : dr st (.int i) = .int i := rfl
@[simp] theorem dr_str {st i} : dr st (.str i) = .str i := rfl
@[simp] theorem dr_lst {st i} : dr st (.lst i) = .lst i := rfl
@[simp] theorem dr_tup {st i} : dr st (.tup i) = .tup i := rfl
@[simp] theorem dr_dic {st i j} : dr st (.dic i j) = .dic i j := rfl
@[simp] theorem dr_ins {st i j k} : dr st (.ins i j k) = .ins i j k := rfl
@[simp] theorem dr_scr {st i} : dr st (.scr i) = .lst (i.map Z.int) := rfl
/-- the items of a list or a tuple -/
def seqv (st : Sto) (z : Z) : Option (List Z) := match dr st z with
  | .lst xs => some xs
  | .tup xs => some xs
  | _ => none
def zeqB (st : Sto) (x y : Z) : Option Bool :=
  if (dr st x).pd && (dr st y).pd && decide ((dr st x).dep ≤ 60) && decide ((dr st y).dep ≤ 60) then some (zeqv (dr st x) (dr st y)) else none
/-- truth -/
def ztru (st : Sto) (z : Z) : Option Bool := match dr st z with
  | .non => some false
  | .bl b => some b
  | .int i => some (i != 0)
  | .str s => some (!s.isEmpty)
  | .lst xs => some (!xs.isEmpty)
  | .tup xs => some (!xs.isEmpty)
  | .dic ks _ => some (!ks.isEmpty)
  | _ => none

def Z.isL : Z → Bool
  | .lst _ => true
  | _ => false
def Z.isS : Z → Bool
  | .str _ => true
  | _ => false
def Z.nonQ : Z → Option Bool
  | .non => some true
  | .cel _ => none
  | _ => some false
def Z.isScr : Z → Bool
  | .scr _ => true
  | _ => false
/-! ### operators -/
inductive BOp where | add | sub | mul | fdiv | mod | pow | shl | shr | band | rep
  deriving DecidableEq
inductive COp where | eq | ne | lt | le | gt | ge | isin | notin | isn | notn
  deriving DecidableEq
def small64 (i : Int) : Bool := decide (-(2 ^ 64) < i) && decide (i < 2 ^ 64)
def mulOk (i j : Int) : Bool := small64 i || small64 j || decide (i.natAbs.log2 + j.natAbs.log2 < 1000000)
def sizeL : Nat := 16777216
def zbin (o : BOp) (st : Sto) (x y : Z) : Option Z := match o, dr st x, dr st y with
  | .add, .int i, .int j => some (.int (i + j))
  | .sub, .int i, .int j => some (.int (i - j))
  | .mul, .int i, .int j => if mulOk i j then some (.int (i * j)) else none
  | .fdiv, .int i, .int j => if decide (0 < j) && decide (j.natAbs.log2 < 9000) then some (.int (i / j)) else none
  | .mod, .int i, .int j => if decide (0 < j) then some (.int (i % j)) else none
  | .pow, .int i, .int j => if decide (0 ≤ j) && decide (j ≤ 1000000) && small64 i then some (.int (i ^ j.toNat)) else none
  | .shl, .int i, .int j => if decide (0 ≤ j) && decide (j ≤ 1000000) && small64 i then some (.int (i * 2 ^ j.toNat)) else none
  | .shr, .int i, .int j => if decide (0 ≤ j) then some (.int (i / 2 ^ j.toNat)) else none
  | .band, .int i, .int j => if decide (j = 1) && decide (0 ≤ i) then some (.int (i % 2)) else none
  | .rep, .lst a, .int j => if x.isScr = false ∧ -(2 ^ 63) ≤ j ∧ j < 2 ^ 63 ∧ a.length * j.toNat ≤ sizeL then some (.lst (List.replicate j.toNat a).flatten) else none
  | .rep, .tup a, .int j => if a ≠ [] ∧ 2 ≤ j ∧ j ≤ 1000 ∧ a.length ≤ 1000 then some (.tup (List.replicate j.toNat a).flatten) else none
  | .rep, .str a, .int j => if j = 0 then some (.str []) else if j = 1 then some (.str a) else none
  | .add, .str a, .str b => if a.length + b.length ≤ sizeL then some (.str (a ++ b)) else none
  | .add, .lst a, .lst b => if a.length + b.length ≤ sizeL ∧ x.isScr = false ∧ y.isScr = false then some (.lst (a ++ b)) else none
  | .add, .tup a, .tup b => if a.length + b.length ≤ sizeL then some (.tup (a ++ b)) else none
  | _, _, _ => none
def lexs : List Nat → List Nat → Bool
  | _, [] => false
  | [], _ :: _ => true
  | a :: as, b :: bs => decide (a < b) || (decide (a = b) && lexs as bs)
def Z.flat : Z → Bool
  | .non => true | .bl _ => true | .int _ => true | .str _ => true
  | _ => false
/-- x in y -/
def zin (st : Sto) (x y : Z) : Option Bool := match seqv st y with
  | some ys => if x.flat && ys.all Z.flat then some (ys.any fun u => zeqv u x)
    else if (dr st y).isL && (dr st x).pd && (dr st y).pd && decide ((dr st x).dep ≤ 60) && decide ((dr st y).dep ≤ 60) then some (ys.any fun u => zeqv u (dr st x)) else none
  | none => none
def zinS (x y : Z) : Option Bool := match x, y with
  | .str [c], .str s => some (decide (c ∈ s))
  | _, _ => none
def zcmp (o : COp) (st : Sto) (x y : Z) : Option Bool := match o with
  | .eq => zeqB st x y
  | .ne => (zeqB st x y).map (!·)
  | .isn => (match y with | .non => x.nonQ | _ => none)
  | .notn => (match y with | .non => x.nonQ.map (!·) | _ => none)
  | .lt => (match x, y with
    | .int i, .int j => some (decide (i < j))
    | .str a, .str b => some (lexs a b)
    | _, _ => none)
  | .le => (match x, y with
    | .int i, .int j => some (decide (i ≤ j))
    | _, _ => none)
  | .gt => (match x, y with
    | .int i, .int j => some (decide (j < i))
    | _, _ => none)
  | .ge => (match x, y with
    | .int i, .int j => some (decide (j ≤ i))
    | _, _ => none)
  | .isin => (match zin st x y with
    | some b => some b
    | none => zinS x y)
  | .notin => (zin st x y).map (!·)
/-- a slice -/
def cut {α : Type} (xs : List α) (lo hi : Option Int) : List α := (xs.drop (HT.sIx xs.length 0 lo)).take (HT.sIx xs.length xs.length hi - HT.sIx xs.length 0 lo)
def zix (st : Sto) (x y : Z) : Option Z := match dr st x, y with
  | .lst xs, .int i => L2.atI xs i
  | .tup xs, .int i => L2.atI xs i
  | .str xs, .int i => (L2.atI xs i).map fun c => .str [c]
  | _, _ => none
def zsl (st : Sto) (x : Z) (lo hi : Option Int) : Option Z := match dr st x with
  | .lst xs => some (.lst (cut xs lo hi))
  | .tup xs => some (.tup (cut xs lo hi))
  | .str xs => some (.str (cut xs lo hi))
  | _ => none
def getF (f : String) : List String → List Z → Option Z
  | g :: gs, v :: vs => if f == g then some v else getF f gs vs
  | _, _ => none
def zfd (st : Sto) (x : Z) (c f : String) : Option Z := match dr st x with
  | .ins c' fs vs => if c' == c then getF f fs vs else none
  | _ => none
/-- built-in functions -/
inductive BF where | len | abs | max2 | min2 | toInt | sum | maxL | minL | list | tuple | all | any | sorted
  deriving DecidableEq
def zints : List Z → Option (List Int)
  | [] => some []
  | .int i :: r => (zints r).map (i :: ·)
  | _ :: _ => none
def zbools : List Z → Option (List Bool)
  | [] => some []
  | .bl i :: r => (zbools r).map (i :: ·)
  | _ :: _ => none
def zstrs : List Z → Option (List (List Nat))
  | [] => some []
  | .str i :: r => (zstrs r).map (i :: ·)
  | _ :: _ => none
def sortI (ns : List Int) : List Int := ns.mergeSort (fun a b => decide (a ≤ b))
def maxI : List Int → Option Int
  | [] => none
  | i :: r => some (r.foldl max i)
def minI : List Int → Option Int
  | [] => none
  | i :: r => some (r.foldl min i)
def tyOf : Z → Option String
  | .non => some "NoneType" | .bl _ => some "bool" | .int _ => some "int" | .str _ => some "str" | .lst _ => some "list" | .tup _ => some "tuple" | .dic _ _ => some "dict" | _ => none
def isTy (T : String) (t : String) : Bool := t == T || (t == "bool" && T == "int")
def zlen : Z → Option Z
  | .lst xs => some (.int xs.length)
  | .tup xs => some (.int xs.length)
  | .str xs => some (.int xs.length)
  | _ => none
def zabs : Z → Option Z
  | .int i => some (.int (if i < 0 then -i else i))
  | _ => none
def zint : Z → Option Z
  | .int i => some (.int i)
  | .bl b => some (.int (if b then 1 else 0))
  | _ => none
def zlst (f : List Z → Option Z) : Z → Option Z
  | .lst xs => f xs
  | _ => none
def zbf1 (f : BF) (st : Sto) (x : Z) : Option Z := match f with
  | .len => zlen (dr st x)
  | .abs => zabs x
  | .toInt => zint x
  | .sum => zlst (fun xs => (zints xs).map fun ns => .int ns.sum) (dr st x)
  | .maxL => zlst (fun xs => ((zints xs).bind maxI).map .int) (dr st x)
  | .minL => zlst (fun xs => ((zints xs).bind minI).map .int) (dr st x)
  | .list => (seqv st x).map .lst
  | .tuple => (seqv st x).map .tup
  | .all => zlst (fun xs => (zbools xs).map fun bs => .bl (bs.all id)) (dr st x)
  | .any => zlst (fun xs => (zbools xs).map fun bs => .bl (bs.any id)) (dr st x)
  | .sorted => zlst (fun xs => (zints xs).map fun ns => .lst ((sortI ns).map .int)) (dr st x)
  | _ => none
def zbf2 (f : BF) (x y : Z) : Option Z := match f, x, y with
  | .max2, .int i, .int j => some (.int (if j > i then j else i))
  | .min2, .int i, .int j => some (.int (if j < i then j else i))
  | _, _, _ => none
def zbf (f : BF) (st : Sto) (vs : List Z) : Option Z := match vs with
  | [x] => zbf1 f st x
  | [x, y] => zbf2 f x y
  | _ => none

/-! ### the language -/
/-- a target: a slot, some of them -/
inductive T where
  | v (i : Nat) | tup (ts : List T)
/-- methods that change nothing -/
inductive SM where | join
  deriving DecidableEq
def zsm (m : SM) (st : Sto) (o : Z) (vs : List Z) : Option Z := match m, o, vs with
  | .join, .str a, [y] => (seqv st y).bind fun ys => (zstrs ys).bind fun ss => if (ss.map (·.length)).sum + ss.length * a.length ≤ sizeL then some (.str (TL.joinL a ss)) else none
  | _, _, _ => none
/-- the ints from i to j -/
def rgB (i j : Int) : Bool := decide (-(2 ^ 62) ≤ i) && decide (i < 2 ^ 62) && decide (-(2 ^ 62) ≤ j) && decide (j < 2 ^ 62) && decide ((j - i).toNat ≤ 2 ^ 24)
def rgL (vs : List Z) : Option (List Z) := match vs with
  | [.int j] => if rgB 0 j then some ((List.range j.toNat).map fun (k : Nat) => Z.int k) else none
  | [.int i, .int j] => if rgB i j then some ((List.range (j - i).toNat).map fun (k : Nat) => Z.int (i + k)) else none
  | _ => none
/-- built-in methods -/
inductive BM where | append | pop | popAt | extend | insert | reverse
  deriving DecidableEq
mutual
inductive E where
  | v (i : Nat) | g (x : String) | n (i : Int) | s (x : List Nat) | t (b : Bool) | non
  | bin (o : BOp) (a b : E) | neg (a : E) | nt (a : E)
  | cmp (o : COp) (a b : E) | ch (o p : COp) (a b c : E)
  | an (a b : E) | or (a b : E) | ite (c a b : E)
  | lst (k : Bool) (es : List E) | tup (es : List E)
  | lc (k : Bool) (ws : List Nat) (e : E) (t : T) (i : I) (c : Option E)
  | lc2 (k : Bool) (ws ws2 : List Nat) (e : E) (t : T) (i : I) (t2 : T) (i2 : I) (c : Option E)
  | ix (a i : E) | sl (k : Bool) (a : E) (lo hi : Option E) | rv (k : Bool) (a : E)
  | fd (a : E) (c f : String)
  | call (f : String) (es kes : List E) (ks : List String)
  | me (c m q : String) (o : E) (es kes : List E) (ks : List String)
  | mk (k : Bool) (c q : String) (es kes : List E) (ks : List String)
  | bf (k : Bool) (f : BF) (es : List E)
  | isi (a : E) (Ts : List String)
  | bm (m : BM) (o : E) (es : List E)
  | fz (a : E)
  | sm (m : SM) (o : E) (es : List E)
  | lrg (t k : Bool) (es : List E)
  | tz (a b : E)
inductive I where
  | e (a : E) | rng (es : List E) | enum (a : E) | zip (a b : E)
end
/-- what is stored to -/
inductive G where
  | t (t : T) | ix (a i : E) | fd (a : E) (c f : String)
inductive S where
  | asg (g : G) (e : E)
  | asgS (k : Bool) (is : List Nat) (i : Nat) (e : E)
  | asgF (i : Nat) (c : String) (fs : List String) (es : List E)
  | aug (i : Nat) (o : BOp) (e : E)
  | augix (a i : E) (o : BOp) (e : E)
  | ex (e : E)
  | ret (e : Option E)
  | ife (c : E) (a b : List S)
  | fo (t : T) (i : I) (b : List S)
  | wh (c : E) (b : List S)
  | brk | cont | pass
  | fz (i : Nat)
  | raise (c : String) (e : E)
  | never

/-! ### its run -/
mutual
def bindT : T → Z → En → Option En
  | .v i, z, en => some (en.set i (some z))
  | .tup ts, .tup zs, en => bindTs ts zs en
  | .tup ts, .lst zs, en => bindTs ts zs en
  | .tup _, _, _ => none
def bindTs : List T → List Z → En → Option En
  | [], [], en => some en
  | t :: ts, z :: zs, en => (bindT t z en).bind (bindTs ts zs)
  | _, _, _ => none
end
/-- a, *b, c = zs: what goes where; n targets, the i-th starred -/
def starF {α : Type} (zs : List α) (i : Nat) : List α := zs.take i
def starM {α : Type} (zs : List α) (i n : Nat) : List α := (zs.drop i).take (zs.length + 1 - n)
def starE {α : Type} (zs : List α) (i n : Nat) : List α := (zs.drop i).drop (zs.length + 1 - n)
def setL : List Nat → List Z → En → En
  | i :: is, z :: zs, en => setL is zs (en.set i (some z))
  | _, _, en => en
def wipeE (en : En) : List Nat → En
  | [] => en
  | v :: vs => (wipeE en vs).set v none
/-- a new list: a tree, or a cell -/
def mkL (k : Bool) (zs : List Z) (st : Sto) : R Z := if k then .ok (.cel st.length) (st ++ [.lst zs]) else .ok (.lst zs) st
@[simp] theorem mkL_f {zs : List Z} {st : Sto} : mkL false zs st = .ok (.lst zs) st := rfl
@[simp] theorem mkL_t {zs : List Z} {st : Sto} : mkL true zs st = .ok (.cel st.length) (st ++ [.lst zs]) := rfl
/-- a value that is a list becomes a cell -/
def asK (k : Bool) (z : Z) (st : Sto) : R Z := if k then (match z with
  | .lst zs => .ok (.cel st.length) (st ++ [.lst zs])
  | _ => .no) else .ok z st
@[simp] theorem asK_f {z : Z} {st : Sto} : asK false z st = .ok z st := rfl
@[simp] theorem asK_t {zs : List Z} {st : Sto} : asK true (.lst zs) st = .ok (.cel st.length) (st ++ [.lst zs]) := rfl
/-- may z be written into the cell n? -/
def mayW (b n : Nat) (z : Z) : Bool := decide (b ≤ n) || z.clo
def okW (b n : Nat) (z : Z) (st : Sto) (c : Cl) (r : Z) : R Z := if mayW b n z then .ok r (st.set n c) else .no
def zbm (m : BM) (b : Nat) (st : Sto) (o : Z) (vs : List Z) : R Z := match o with
  | .cel n => (match st[n]? with
    | some (.lst xs) => (match m, vs with
      | .append, [z] => if xs.length < sizeL then okW b n z st (.lst (xs ++ [z])) .non else .no
      | .pop, [] => (match xs[xs.length - 1]? with
        | some y => .ok y (st.set n (.lst xs.dropLast))
        | none => .no)
      | .popAt, [.int i] => if 0 ≤ i ∧ i < xs.length then (match xs[i.toNat]? with
        | some y => .ok y (st.set n (.lst (xs.eraseIdx i.toNat)))
        | none => .no) else .no
      | .extend, [z] => (match dr st z with
        | .lst ys => if xs.length + ys.length ≤ sizeL ∧ z.isScr = false ∧ (b ≤ n ∨ refsL ys = []) then .ok .non (st.set n (.lst (xs ++ ys))) else .no
        | _ => .no)
      | .insert, [.int i, z] => if xs.length < sizeL ∧ 0 ≤ i ∧ i < 2 ^ 63 then okW b n z st (.lst (xs.take i.toNat ++ [z] ++ xs.drop i.toNat)) .non else .no
      | .reverse, [] => .ok .non (st.set n (.lst xs.reverse))
      | _, _ => .no)
    | _ => .no)
  | _ => .no
/-- o[i] = z -/
def zput (b : Nat) (st : Sto) (o i z : Z) : R Z := match o, i with
  | .cel n, .int i => (match st[n]? with
    | some (.lst xs) => if 0 ≤ i ∧ i < xs.length then okW b n z st (.lst (xs.set i.toNat z)) .non else .no
    | _ => .no)
  | _, _ => .no
/-! what stands in cells becomes trees, d levels deep -/
mutual
def zfzD : Nat → Z → Sto → R Z
  | d + 1, .cel n, st => (match st[n]? with
    | some (.lst xs) => (zfzL d xs (st.set n .dead)).bind fun ys st => .ok (.lst ys) st
    | _ => .no)
  | d + 1, .lst xs, st => (zfzL d xs st).bind fun ys st => .ok (.lst ys) st
  | d + 1, .tup xs, st => (zfzL d xs st).bind fun ys st => .ok (.tup ys) st
  | _, z, st => .ok z st
def zfzL : Nat → List Z → Sto → R (List Z)
  | _, [], st => .ok [] st
  | d, z :: zs, st => (zfzD d z st).bind fun y st => (zfzL d zs st).bind fun ys st => .ok (y :: ys) st
end
def zfz (st : Sto) (z : Z) : R Z := zfzD 4 z st
/-- a comprehension's turns; c: what is walked stays as it is -/
def goC (c : Sto → Bool) (f : Z → Sto → R (List Z)) : List Z → Sto → R (List Z)
  | [], st => if c st then .ok [] st else .no
  | z :: zs, st => if c st then (f z st).bind fun o st1 => (goC c f zs st1).bind fun r st2 => .ok (o ++ r) st2 else .no
/-- .. of two clauses: n is how many there are so far -/
def goN (c : Sto → Bool) (f : Nat → Z → Sto → R (List Z)) : Nat → List Z → Sto → R (List Z)
  | _, [], st => if c st then .ok [] st else .no
  | n, z :: zs, st => if c st then (f n z st).bind fun o st1 => (goN c f (n + o.length) zs st1).bind fun r st2 => .ok (o ++ r) st2 else .no
def rngZ (vs : List Z) : Option (List Z) := match vs with
  | [.int j] => if j ≤ 1000000 ∧ -(10 ^ 9) ≤ j then some ((List.range j.toNat).map fun (k : Nat) => Z.int k) else none
  | [.int i, .int j] => if j - i ≤ 1000000 ∧ -(10 ^ 9) ≤ i ∧ i ≤ 10 ^ 9 ∧ -(10 ^ 9) ≤ j then some ((List.range (j - i).toNat).map fun (k : Nat) => Z.int (i + k)) else none
  | _ => none
def enumZ : Nat → List Z → List Z
  | _, [] => []
  | i, z :: zs => .tup [.int i, z] :: enumZ (i + 1) zs
def zipZ : List Z → List Z → List Z
  | x :: xs, y :: ys => .tup [x, y] :: zipZ xs ys
  | _, _ => []
/-- an instance of the class that has no field called m -/
def insM (c m : String) : Z → Bool
  | .ins c' fs _ => c' == c && !(fs.any fun f => f == m)
  | _ => false
/-- a new instance: a tree or a cell -/
def mkEnd (k : Bool) (c : String) (n : Nat) (y : Z) (st1 : Sto) : R Z := match y with
  | .non => if k then .ok (.cel n) st1 else (match st1[n]? with
    | some (.ins c' fs vs) => if c' == c && (refsL vs).isEmpty then .ok (.ins c fs vs) (st1.take n) else .no
    | _ => .no)
  | _ => .no
def putG (f : String) (z : Z) : List String → List Z → List String × List Z
  | g :: gs, v :: vs => if g == f then (g :: gs, z :: vs) else (g :: (putG f z gs vs).1, v :: (putG f z gs vs).2)
  | _, _ => ([f], [z])
/-- o.f = z -/
def zputF (b : Nat) (st : Sto) (x : Z) (c f : String) (z : Z) : R Z := match x with
  | .cel n => (match st[n]? with
    | some (.ins c' gs vs) => if c' == c && decide (gs.length < 400) then okW b n z st (.ins c (putG f z gs vs).1 (putG f z gs vs).2) .non else .no
    | _ => .no)
  | _ => .no
def putFs (b : Nat) (x : Z) (c : String) : List String → List Z → Sto → R Z
  | [], [], st => .ok .non st
  | f :: fs, z :: zs, st => (zputF b st x c f z).bind fun _ st => putFs b x c fs zs st
  | _, _, _ => .no
/-- what is walked: the items; the cells that must stay as they are -/
structure Wk where
  items : List Z
  held : List Z
open Classical in
noncomputable def stays (hs : List Z) (st st1 : Sto) : Bool := decide (∀ h ∈ hs, dr st1 h = dr st h)
noncomputable section
variable (F : FT) (gv : String → Option Z) (b : Nat)
mutual
def ev : E → En → Sto → R Z
  | .v i, en, st => (match en[i]? with
    | some (some z) => .ok z st
    | _ => .no)
  | .g x, _, st => ofO (gv x) st
  | .n i, _, st => .ok (.int i) st
  | .s x, _, st => .ok (.str x) st
  | .t x, _, st => .ok (.bl x) st
  | .non, _, st => .ok .non st
  | .bin o a c, en, st => (ev a en st).bind fun x st => (ev c en st).bind fun y st => ofO (zbin o st x y) st
  | .neg a, en, st => (ev a en st).bind fun x st => (match x with
    | .int i => .ok (.int (-i)) st
    | _ => .no)
  | .nt a, en, st => (ev a en st).bind fun x st => ofO ((ztru st x).map fun k => .bl (!k)) st
  | .cmp o a c, en, st => (ev a en st).bind fun x st => (ev c en st).bind fun y st => ofO ((zcmp o st x y).map .bl) st
  | .ch o p a c d, en, st => (ev a en st).bind fun x st => (ev c en st).bind fun y st => (ofO (zcmp o st x y) st).bind fun k st =>
    if k then (ev d en st).bind fun z st => ofO ((zcmp p st y z).map .bl) st else .ok (.bl false) st
  | .an a c, en, st => (ev a en st).bind fun x st => (ofO (ztru st x) st).bind fun k st => if k then ev c en st else .ok x st
  | .or a c, en, st => (ev a en st).bind fun x st => (ofO (ztru st x) st).bind fun k st => if k then .ok x st else ev c en st
  | .ite c a d, en, st => (ev c en st).bind fun x st => (ofO (ztru st x) st).bind fun k st => if k then ev a en st else ev d en st
  | .lst k es, en, st => (evs es en st).bind fun zs st => mkL k zs st
  | .tup es, en, st => (evs es en st).bind fun zs st => .ok (.tup zs) st
  | .lc k ws e t i c, en, st => (evI i en st).bind fun w st => (goC (stays w.held st) (fun z st1 => (match bindT t z (wipeE en ws) with
      | some en1 => (evc c en1 st1).calm.bind fun k st2 => if k then (ev e en1 st2).calm.bind fun y st3 => .ok [y] st3 else .ok [] st2
      | none => .no)) w.items st).bind fun zs st => mkL k zs st
  | .lc2 k ws ws2 e t i t2 i2 c, en, st => (evI i en st).bind fun w st => (goN (stays w.held st) (fun n z st1 => (match bindT t z (wipeE en ws) with
      | some en1 => (evI i2 en1 st1).calm.bind fun w2 st2 => goN (stays w2.held st2) (fun n z2 st3 => (match bindT t2 z2 (wipeE en1 ws2) with
        | some en2 => (evc c en2 st3).calm.bind fun k st4 => if k then (ev e en2 st4).calm.bind fun y st5 => if n < sizeL then .ok [y] st5 else .no else .ok [] st4
        | none => .no)) n w2.items st2
      | none => .no)) 0 w.items st).bind fun zs st => mkL k zs st
  | .ix a i, en, st => (ev a en st).bind fun x st => (ev i en st).bind fun y st => ofO (zix st x y) st
  | .sl k a lo hi, en, st => (ev a en st).bind fun x st => (evo lo en st).bind fun l st => (evo hi en st).bind fun h st => (ofO (zsl st x l h) st).bind fun z st => asK k z st
  | .rv k a, en, st => (ev a en st).bind fun x st => (match dr st x with
    | .lst xs => mkL k xs.reverse st
    | _ => .no)
  | .fd a c f, en, st => (ev a en st).bind fun x st => ofO (zfd st x c f) st
  | .call f es kes ks, en, st => (evs es en st).bind fun zs st => (evs kes en st).bind fun ys st => F f (zs ++ ys) ks b st
  | .me c m q o es kes ks, en, st => (ev o en st).bind fun x st => if insM c m (dr st x) then (evs es en st).bind fun zs st => (evs kes en st).bind fun ys st => F q (x :: (zs ++ ys)) ks b st else .no
  | .mk k c q es kes ks, en, st => (evs es en st).bind fun zs st => (evs kes en st).bind fun ys st => (F q (.cel st.length :: (zs ++ ys)) ks (if k then b else max b (st.length + 1)) (st ++ [.ins c [] []])).bind fun y st1 => mkEnd k c st.length y st1
  | .bf k f es, en, st => (evs es en st).bind fun zs st => (ofO (zbf f st zs) st).bind fun z st => asK k z st
  | .isi a Ts, en, st => (ev a en st).bind fun x st => ofO ((tyOf (dr st x)).map fun t => .bl (Ts.any fun T => isTy T t)) st
  | .bm m o es, en, st => (ev o en st).bind fun x st => if (dr st x).isL then (evs es en st).bind fun zs st => zbm m b st x zs else .no
  | .fz a, en, st => (ev a en st).bind fun x st => zfz st x
  | .sm m o es, en, st => (ev o en st).bind fun x st => if (dr st x).isL || x.isS then (evs es en st).bind fun zs st => ofO (zsm m st x zs) st else .no
  | .tz a c, en, st => (ev a en st).bind fun x st => (ev c en st).bind fun y st => (match dr st x, dr st y with
    | .lst xs, .lst ys => .ok (.tup (zipZ xs ys)) st
    | _, _ => .no)
  | .lrg t k es, en, st => (evs es en st).bind fun zs st => (ofO (rgL zs) st).bind fun ys st => if t then .ok (.tup ys) st else mkL k ys st
def evs : List E → En → Sto → R (List Z)
  | [], _, st => .ok [] st
  | e :: es, en, st => (ev e en st).bind fun z st => (evs es en st).bind fun zs st => .ok (z :: zs) st
def evo : Option E → En → Sto → R (Option Int)
  | none, _, st => .ok none st
  | some e, en, st => (ev e en st).bind fun x st => (match x with
    | .int i => .ok (some i) st
    | _ => .no)
def evc : Option E → En → Sto → R Bool
  | none, _, st => .ok true st
  | some e, en, st => (ev e en st).bind fun x st => ofO (ztru st x) st
def evI : I → En → Sto → R Wk
  | .e a, en, st => (ev a en st).bind fun x st => (match dr st x with
    | .lst xs => .ok ⟨xs, [x]⟩ st
    | .tup xs => .ok ⟨xs, [x]⟩ st
    | .str xs => .ok ⟨xs.map fun c => .str [c], [x]⟩ st
    | _ => .no)
  | .rng es, en, st => (evs es en st).bind fun zs st => ofO ((rngZ zs).map fun xs => ⟨xs, []⟩) st
  | .enum a, en, st => (ev a en st).bind fun x st => (match dr st x with
    | .lst xs => .ok ⟨enumZ 0 xs, [x]⟩ st
    | _ => .no)
  | .zip a c, en, st => (ev a en st).bind fun x st => (ev c en st).bind fun y st => (match seqv st x, seqv st y with
    | some xs, some ys => .ok ⟨zipZ xs ys, [x, y]⟩ st
    | _, _ => .no)
end
inductive Fl where
  | nx (e : En) | rt (z : Z) | bk (e : En) | ct (e : En)
def goF (c : Sto → Bool) (f : Z → En → Sto → R Fl) : List Z → En → Sto → R Fl
  | [], en, st => if c st then .ok (.nx en) st else .no
  | z :: zs, en, st => if c st then (f z en st).bind fun r st1 => (match r with
    | .nx en1 => goF c f zs en1 st1
    | .ct en1 => goF c f zs en1 st1
    | .bk en1 => .ok (.nx en1) st1
    | .rt v => .ok (.rt v) st1) else .no
def goW (c : En → Sto → R Bool) (f : En → Sto → R Fl) : Nat → En → Sto → R Fl
  | 0, _, _ => .no
  | n + 1, en, st => (c en st).bind fun k st1 => if k then (f en st1).bind fun r st2 => (match r with
    | .nx en1 => goW c f n en1 st2
    | .ct en1 => goW c f n en1 st2
    | .bk en1 => .ok (.nx en1) st2
    | .rt v => .ok (.rt v) st2) else .ok (.nx en) st1
variable (N : Nat)
mutual
def ex : S → En → Sto → R Fl
  | .asg g e, en, st => (ev F gv b e en st).bind fun z st => (match g with
    | .t t => ofO ((bindT t z en).map .nx) st
    | .ix a i => (ev F gv b a en st).bind fun x st => (ev F gv b i en st).bind fun y st => (zput b st x y z).bind fun _ st => .ok (.nx en) st
    | .fd _ _ _ => .no)
  | .asgS k is i e, en, st => (ev F gv b e en st).bind fun z st => (match seqv st z with
    | some zs => if i < is.length ∧ is.length ≤ zs.length + 1 ∧ zs.length ≤ 16384 then (mkL k (starM zs i is.length) st).bind fun m st => .ok (.nx (setL is (starF zs i ++ [m] ++ starE zs i is.length) en)) st else .no
    | none => .no)
  | .asgF i c fs es, en, st => (evs F gv b es en st).bind fun zs st => (match en[i]? with
    | some (some x) => (putFs b x c fs zs st).bind fun _ st => .ok (.nx en) st
    | _ => .no)
  | .aug i o e, en, st => (match en[i]? with
    | some (some x) => (ev F gv b e en st).bind fun y st => (match dr st x with
      | .int _ => (ofO (zbin o st x y) st).bind fun z st => .ok (.nx (en.set i (some z))) st
      | _ => .no)
    | _ => .no)
  | .augix a i o e, en, st => (ev F gv b a en st).bind fun x st => (ev F gv b i en st).bind fun y st => (ofO (zix st x y) st).bind fun z st => (ev F gv b e en st).bind fun w st => (match z with
      | .int _ => (ofO (zbin o st z w) st).bind fun z st => (zput b st x y z).bind fun _ st => .ok (.nx en) st
      | _ => .no)
  | .ex e, en, st => (ev F gv b e en st).bind fun _ st => .ok (.nx en) st
  | .ret none, _, st => .ok (.rt .non) st
  | .ret (some e), en, st => (ev F gv b e en st).bind fun z st => .ok (.rt z) st
  | .ife c x y, en, st => (ev F gv b c en st).bind fun z st => (ofO (ztru st z) st).bind fun k st => if k then exs x en st else exs y en st
  | .fo t i x, en, st => (evI F gv b i en st).bind fun w st => goF (stays w.held st) (fun z en st1 => (match bindT t z en with
      | some en1 => exs x en1 st1
      | none => .no)) w.items en st
  | .wh c x, en, st => goW (fun en st => (ev F gv b c en st).bind fun z st => ofO (ztru st z) st) (exs x) N en st
  | .brk, en, st => .ok (.bk en) st
  | .cont, en, st => .ok (.ct en) st
  | .pass, en, st => .ok (.nx en) st
  | .fz i, en, st => (match en[i]? with
    | some (some z) => (zfz st z).bind fun z st => .ok (.nx (en.set i (some z))) st
    | _ => .no)
  | .raise c e, en, st => (ev F gv b e en st).bind fun z st => .exn c z st
  | .never, _, _ => .no
def exs : List S → En → Sto → R Fl
  | [], en, st => .ok (.nx en) st
  | s :: ss, en, st => (ex s en st).bind fun r st => (match r with
    | .nx en1 => exs ss en1 st
    | .bk en1 => .ok (.bk en1) st
    | .ct en1 => .ok (.ct en1) st
    | .rt v => .ok (.rt v) st)
end
end
/-- a function: its parameters (with their defaults), how many of them by place, its slots, its body, whether its cells outlive it -/
structure FnD where
  ps : List (String × Option Z)
  np : Nat
  ns : Nat
  body : List S
  keep : Bool
/-- how arguments come to parameters: zs the values, ks the names of the last of them -/
def bindRest (ks : List String) (kv : List Z) : List (String × Option Z) → Option (List Z)
  | [] => some []
  | (x, d) :: ps => (match getF x ks kv with
    | some z => (bindRest ks kv ps).map (z :: ·)
    | none => (match d with
      | some z => (bindRest ks kv ps).map (z :: ·)
      | none => none))
def bindZ (d : FnD) (zs : List Z) (ks : List String) : Option (List Z) :=
  if ks.isEmpty && zs.length == d.ps.length && d.np == d.ps.length then some zs else
  let n := zs.length - ks.length
  if decide (ks.length ≤ zs.length) && decide (n ≤ d.np) && decide (d.np ≤ d.ps.length) && ks.all (fun k => (d.ps.drop n).any fun p => p.1 == k) && decide ks.Nodup then (bindRest ks (zs.drop n) (d.ps.drop n)).map (zs.take n ++ ·) else none
noncomputable section
variable (tab : String → Option FnD) (gv : String → Option Z) (N : Nat)
def finF (keep : Bool) (st0 : Sto) (r : R Fl) : R Z := r.bind fun f st => (match f with
  | .rt z => if keep then .ok z st else if z.refs.all (fun n => decide (n < st0.length)) then .ok z (st.take st0.length) else .no
  | .nx _ => if keep then .ok .non st else .ok .non (st.take st0.length)
  | _ => .no)
def startE (ns : Nat) (zs : List Z) : En := zs.map some ++ List.replicate (ns - zs.length) none
def run : Nat → FT
  | 0, _, _, _, _, _ => .no
  | k + 1, f, zs, ks, b, st => (match tab f with
    | some d => (match bindZ d zs ks with
      | some as => finF d.keep st (exs (run k) gv (if d.keep then b else st.length) N d.body (startE d.ns as) st)
      | none => .no)
    | none => .no)
end
end ZZ

end
section
set_option maxHeartbeats 2000000
/-! ZRep: how values and cells stand in the layer's heap. -/
namespace ZZ
open PySem PySem.Spec PyProof.Rows L2

/-- where each cell stands; none: it is dead -/
structure Ro where
  c : List (Option Addr)
  h : List Addr
/-- a is no live cell and not hidden -/
def Ro.out (ρ : Ro) (a : Addr) : Prop := some a ∉ ρ.c ∧ a ∉ ρ.h
def Ro.add (ρ : Ro) (a : Addr) : Ro := ⟨ρ.c ++ [some a], ρ.h⟩
def Ro.kill (ρ : Ro) (n : Nat) : Ro := ⟨ρ.c.set n none, ρ.h⟩
def KLs (K : PySem.W.Frag) (a : Addr) (xs : List V) : Prop :=
  ∃ (o : Obj) (its : Array Value) (n : Nat), K.lookup a = some o ∧ o.cls = .type "list" ∧ o.dict = none ∧ o.data = .seq its n ∧ its.size ≤ sizeLine ∧ Vals xs its.toList
def KTp (K : PySem.W.Frag) (a : Addr) (xs : List V) : Prop :=
  ∃ (o : Obj) (its : Array Value) (n : Nat), K.lookup a = some o ∧ o.cls = .type "tuple" ∧ o.data = .seq its n ∧ its.size ≤ sizeLine ∧ Vals xs its.toList
def fz (fs : List String) (vs : List V) : List (Str × V) := (fs.map Str.ofString).zip vs
section
variable (K : PySem.W.Frag)
mutual
def Rep (ρ : Ro) (H : Hp) : Z → V → Prop
  | .non, v => v = .non
  | .bl b, v => v = .bl b
  | .int i, v => v = .int i
  | .str s, v => v = .str ⟨s.toArray⟩ ∧ s.length ≤ sizeL ∧ ∀ c ∈ s, c < 0x110000
  | .lst zs, v => ∃ a vs, v = .ref a ∧ H a = some (.lst vs) ∧ ρ.out a ∧ zs.length ≤ sizeL ∧ RepL ρ H zs vs
  | .tup zs, v => ∃ a vs, v = .ref a ∧ ((H a = some (.tup vs) ∧ ρ.out a) ∨ KTp K a vs) ∧ zs.length ≤ sizeL ∧ RepL ρ H zs vs
  | .dic _ _, _ => False
  | .ins c fs zs, v => ∃ a dx vs, v = .ref a ∧ H a = some (.ins (He.ga K c) dx (fz fs vs)) ∧ ρ.out a ∧ fs.length = zs.length ∧ RepL ρ H zs vs
  | .scr ns, v => ∃ a, v = .ref a ∧ ((Rd H a (.lst (ns.map V.int)) ∧ ρ.out a) ∨ KLs K a (ns.map V.int)) ∧ ns.length ≤ sizeL
  | .cel n, v => n < ρ.c.length ∧ ∀ a, ρ.c[n]? = some (some a) → v = .ref a
def RepL (ρ : Ro) (H : Hp) : List Z → List V → Prop
  | [], vs => vs = []
  | z :: zs, vs => ∃ v r, vs = v :: r ∧ Rep ρ H z v ∧ RepL ρ H zs r
end
end
theorem upd_ther {H : Hp} {a b : Addr} {u o : HO} (h : H b = some u) : ∃ o', upd H a o b = some o' := by
  by_cases e : b = a
  · rw [e, upd_same]; exact ⟨_, rfl⟩
  · rw [upd_ne e]; exact ⟨_, h⟩
/-- what may have become of the heap: what is no live cell stays; what is newly live is new; a dead cell stays dead -/
structure Evo (ρ : Ro) (H : Hp) (ρ' : Ro) (H' : Hp) : Prop where
  keep : ∀ a o, H a = some o → some a ∉ ρ.c → H' a = some o
  fresh : ∀ a, some a ∈ ρ'.c → some a ∈ ρ.c ∨ H a = none
  len : ρ.c.length ≤ ρ'.c.length
  old : ∀ n a, n < ρ.c.length → ρ'.c[n]? = some (some a) → ρ.c[n]? = some (some a)
  hidn : ∀ a ∈ ρ'.h, a ∈ ρ.h ∨ H a = none
  hido : ∀ a ∈ ρ.h, a ∈ ρ'.h
  ther : ∀ a o, H a = some o → ∃ o', H' a = some o'
theorem Evo.refl {ρ : Ro} {H : Hp} : Evo ρ H ρ H := ⟨fun _ _ h _ => h, fun _ h => .inl h, Nat.le_refl _, fun _ _ _ h => h, fun _ h => .inl h, fun _ h => h, fun _ o h => ⟨o, h⟩⟩
theorem Evo.outc {ρ ρ' : Ro} {H H' : Hp} (e : Evo ρ H ρ' H') {a : Addr} {o : HO} (h : H a = some o) (n : some a ∉ ρ.c) : some a ∉ ρ'.c := fun m => by
  rcases e.fresh a m with q | q
  · exact n q
  · rw [h] at q; cases q
theorem Evo.out {ρ ρ' : Ro} {H H' : Hp} (e : Evo ρ H ρ' H') {a : Addr} {o : HO} (h : H a = some o) (n : ρ.out a) : ρ'.out a := ⟨e.outc h n.1, fun m => by
  rcases e.hidn a m with q | q
  · exact n.2 q
  · rw [h] at q; cases q⟩
theorem Evo.trans {ρ ρ1 ρ2 : Ro} {H H1 H2 : Hp} (a : Evo ρ H ρ1 H1) (b : Evo ρ1 H1 ρ2 H2) : Evo ρ H ρ2 H2 := by
  refine ⟨fun x o h n => b.keep x o (a.keep x o h n) (a.outc h n), fun x m => ?_, Nat.le_trans a.len b.len, fun n x h e => a.old n x h (b.old n x (Nat.lt_of_lt_of_le h a.len) e), fun x m => ?_, fun x m => b.hido x (a.hido x m), fun x o h => let ⟨o', h'⟩ := a.ther x o h; b.ther x o' h'⟩
  rcases b.fresh x m with q | q
  · exact a.fresh x q
  · cases h : H x with
    | none => exact .inr rfl
    | some o =>
      refine .inl ?_
      apply Classical.byContradiction
      intro n
      rw [a.keep x o h n] at q
      cases q
  · rcases b.hidn x m with q | q
    · exact a.hidn x q
    · cases h : H x with
      | none => exact .inr rfl
      | some o =>
        obtain ⟨o', h'⟩ := a.ther x o h
        rw [h'] at q; cases q
/-- .. what is hidden may be written, too -/
structure EvoL (ρ : Ro) (H : Hp) (ρ' : Ro) (H' : Hp) : Prop where
  keep : ∀ a o, H a = some o → ρ.out a → H' a = some o
  fresh : ∀ a, some a ∈ ρ'.c → some a ∈ ρ.c ∨ H a = none
  len : ρ.c.length ≤ ρ'.c.length
  old : ∀ n a, n < ρ.c.length → ρ'.c[n]? = some (some a) → ρ.c[n]? = some (some a)
  hidn : ∀ a ∈ ρ'.h, a ∈ ρ.h ∨ H a = none
  hido : ∀ a ∈ ρ.h, a ∈ ρ'.h
  ther : ∀ a o, H a = some o → ∃ o', H' a = some o'
theorem Evo.l {ρ ρ' : Ro} {H H' : Hp} (e : Evo ρ H ρ' H') : EvoL ρ H ρ' H' := ⟨fun a o h n => e.keep a o h n.1, e.fresh, e.len, e.old, e.hidn, e.hido, e.ther⟩
theorem EvoL.out {ρ ρ' : Ro} {H H' : Hp} (e : EvoL ρ H ρ' H') {a : Addr} {o : HO} (h : H a = some o) (n : ρ.out a) : ρ'.out a := by
  refine ⟨fun m => ?_, fun m => ?_⟩
  · rcases e.fresh a m with q | q
    · exact n.1 q
    · rw [h] at q; cases q
  · rcases e.hidn a m with q | q
    · exact n.2 q
    · rw [h] at q; cases q
theorem EvoL.trans {ρ ρ1 ρ2 : Ro} {H H1 H2 : Hp} (a : EvoL ρ H ρ1 H1) (b : EvoL ρ1 H1 ρ2 H2) : EvoL ρ H ρ2 H2 := by
  refine ⟨fun x o h n => b.keep x o (a.keep x o h n) (a.out h n), fun x m => ?_, Nat.le_trans a.len b.len, fun n x h e => a.old n x h (b.old n x (Nat.lt_of_lt_of_le h a.len) e), fun x m => ?_, fun x m => b.hido x (a.hido x m), fun x o h => let ⟨o', h'⟩ := a.ther x o h; b.ther x o' h'⟩
  · rcases b.fresh x m with q | q
    · exact a.fresh x q
    · cases h : H x with
      | none => exact .inr rfl
      | some o =>
        obtain ⟨o', h'⟩ := a.ther x o h
        rw [h'] at q; cases q
  · rcases b.hidn x m with q | q
    · exact a.hidn x q
    · cases h : H x with
      | none => exact .inr rfl
      | some o =>
        obtain ⟨o', h'⟩ := a.ther x o h
        rw [h'] at q; cases q
theorem EvoL.hput {ρ0 ρ : Ro} {H0 H : Hp} {D : Addr} {o : HO} (e : EvoL ρ0 H0 ρ H) (hn : D ∈ ρ0.h ∨ H0 D = none) : EvoL ρ0 H0 ρ (upd H D o) :=
  ⟨fun a u h n => by
    rw [upd_ne (fun q => by
      rcases hn with hn | hn
      · exact n.2 (by rw [q]; exact hn)
      · rw [q, hn] at h; cases h)]
    exact e.keep a u h n, e.fresh, e.len, e.old, e.hidn, e.hido, fun a u h => let ⟨o', h'⟩ := e.ther a u h; upd_ther h'⟩
section
variable {K : PySem.W.Frag} {ρ ρ' : Ro} {H H' : Hp}
mutual
theorem Rep.evoL (e : EvoL ρ H ρ' H') : ∀ (z : Z) (v : V), Rep K ρ H z v → Rep K ρ' H' z v
  | .non, _, h => by unfold Rep at h ⊢; exact h
  | .bl _, _, h => by unfold Rep at h ⊢; exact h
  | .int _, _, h => by unfold Rep at h ⊢; exact h
  | .str _, _, h => by unfold Rep at h ⊢; exact h
  | .lst zs, _, h => by
    unfold Rep at h ⊢
    obtain ⟨a, vs, e1, e2, e3, e4, e5⟩ := h
    exact ⟨a, vs, e1, e.keep _ _ e2 e3, e.out e2 e3, e4, RepL.evoL e zs vs e5⟩
  | .tup zs, _, h => by
    unfold Rep at h ⊢
    obtain ⟨a, vs, e1, e2, e4, e5⟩ := h
    refine ⟨a, vs, e1, ?_, e4, RepL.evoL e zs vs e5⟩
    rcases e2 with ⟨e2, e3⟩ | e2
    · exact .inl ⟨e.keep _ _ e2 e3, e.out e2 e3⟩
    · exact .inr e2
  | .dic _ _, _, h => by unfold Rep at h; exact h.elim
  | .ins c fs zs, _, h => by
    unfold Rep at h ⊢
    obtain ⟨a, dx, vs, e1, e2, e3, e4, e5⟩ := h
    exact ⟨a, dx, vs, e1, e.keep _ _ e2 e3, e.out e2 e3, e4, RepL.evoL e zs vs e5⟩
  | .scr ns, _, h => by
    unfold Rep at h ⊢
    obtain ⟨a, e1, e2, e4⟩ := h
    refine ⟨a, e1, ?_, e4⟩
    rcases e2 with ⟨e2, e3⟩ | e2
    · rcases e2 with e2 | ⟨o, e2⟩
      · exact .inl ⟨.inl (e.keep _ _ e2 e3), e.out e2 e3⟩
      · exact .inl ⟨.inr ⟨o, e.keep _ _ e2 e3⟩, e.out e2 e3⟩
    · exact .inr e2
  | .cel n, _, h => by
    unfold Rep at h ⊢
    exact ⟨Nat.lt_of_lt_of_le h.1 e.len, fun a q => h.2 a (e.old n a h.1 q)⟩
theorem RepL.evoL (e : EvoL ρ H ρ' H') : ∀ (zs : List Z) (vs : List V), RepL K ρ H zs vs → RepL K ρ' H' zs vs
  | [], _, h => by unfold RepL at h ⊢; exact h
  | z :: zs, _, h => by
    unfold RepL at h ⊢
    obtain ⟨v, r, e1, e2, e3⟩ := h
    exact ⟨v, r, e1, Rep.evoL e z v e2, RepL.evoL e zs r e3⟩
end
theorem Rep.evo (e : Evo ρ H ρ' H') (z : Z) (v : V) (h : Rep K ρ H z v) : Rep K ρ' H' z v := Rep.evoL e.l z v h
theorem RepL.evo (e : Evo ρ H ρ' H') (zs : List Z) (vs : List V) (h : RepL K ρ H zs vs) : RepL K ρ' H' zs vs := RepL.evoL e.l zs vs h
theorem repL_nil {vs : List V} : RepL K ρ H [] vs ↔ vs = [] := by unfold RepL; exact Iff.rfl
theorem repL_cons {z : Z} {zs : List Z} {vs : List V} : RepL K ρ H (z :: zs) vs ↔ ∃ v r, vs = v :: r ∧ Rep K ρ H z v ∧ RepL K ρ H zs r := by
  constructor
  · intro h; unfold RepL at h; exact h
  · intro h; unfold RepL; exact h
theorem RepL.length : ∀ {zs : List Z} {vs : List V}, RepL K ρ H zs vs → vs.length = zs.length
  | [], _, h => by rw [repL_nil] at h; rw [h]; rfl
  | z :: zs, _, h => by
    obtain ⟨v, r, rfl, _, e3⟩ := repL_cons.mp h
    rw [List.length_cons, List.length_cons, RepL.length e3]
theorem RepL.append : ∀ {zs ys : List Z} {vs us : List V}, RepL K ρ H zs vs → RepL K ρ H ys us → RepL K ρ H (zs ++ ys) (vs ++ us)
  | [], _, _, _, h, g => by rw [repL_nil] at h; rw [h]; exact g
  | z :: zs, _, _, _, h, g => by
    obtain ⟨v, r, rfl, e2, e3⟩ := repL_cons.mp h
    exact repL_cons.mpr ⟨v, r ++ _, rfl, e2, RepL.append e3 g⟩
theorem RepL.get : ∀ {zs : List Z} {vs : List V} {i : Nat} {z : Z}, RepL K ρ H zs vs → zs[i]? = some z → ∃ v, vs[i]? = some v ∧ Rep K ρ H z v
  | [], _, _, _, _, e => by simp at e
  | y :: zs, _, 0, z, h, e => by
    obtain ⟨v, r, rfl, e2, e3⟩ := repL_cons.mp h
    simp at e; subst e
    exact ⟨v, rfl, e2⟩
  | y :: zs, _, i + 1, z, h, e => by
    obtain ⟨v, r, rfl, e2, e3⟩ := repL_cons.mp h
    obtain ⟨u, q1, q2⟩ := RepL.get (i := i) e3 (by simpa using e)
    exact ⟨u, by simpa using q1, q2⟩
theorem RepL.take : ∀ {zs : List Z} {vs : List V} (n : Nat), RepL K ρ H zs vs → RepL K ρ H (zs.take n) (vs.take n)
  | [], _, n, h => by rw [repL_nil] at h; rw [h]; simpa using repL_nil.mpr rfl
  | z :: zs, _, 0, h => by simpa using repL_nil.mpr rfl
  | z :: zs, _, n + 1, h => by
    obtain ⟨v, r, rfl, e2, e3⟩ := repL_cons.mp h
    simpa using repL_cons.mpr ⟨v, _, rfl, e2, RepL.take n e3⟩
theorem RepL.drop : ∀ {zs : List Z} {vs : List V} (n : Nat), RepL K ρ H zs vs → RepL K ρ H (zs.drop n) (vs.drop n)
  | [], _, n, h => by rw [repL_nil] at h; rw [h]; simpa using repL_nil.mpr rfl
  | z :: zs, _, 0, h => by simpa using h
  | z :: zs, _, n + 1, h => by
    obtain ⟨v, r, rfl, e2, e3⟩ := repL_cons.mp h
    simpa using RepL.drop n e3
theorem RepL.set : ∀ {zs : List Z} {vs : List V} {z : Z} {v : V} (n : Nat), RepL K ρ H zs vs → Rep K ρ H z v → RepL K ρ H (zs.set n z) (vs.set n v)
  | [], _, _, _, n, h, _ => by rw [repL_nil] at h; rw [h]; simpa using repL_nil.mpr rfl
  | y :: zs, _, z, v, 0, h, g => by
    obtain ⟨u, r, rfl, e2, e3⟩ := repL_cons.mp h
    simpa using repL_cons.mpr ⟨v, r, rfl, g, e3⟩
  | y :: zs, _, z, v, n + 1, h, g => by
    obtain ⟨u, r, rfl, e2, e3⟩ := repL_cons.mp h
    simpa using repL_cons.mpr ⟨u, _, rfl, e2, RepL.set n e3 g⟩
theorem RepL.eraseIdx : ∀ {zs : List Z} {vs : List V} (n : Nat), RepL K ρ H zs vs → RepL K ρ H (zs.eraseIdx n) (vs.eraseIdx n)
  | [], _, n, h => by rw [repL_nil] at h; rw [h]; simpa using repL_nil.mpr rfl
  | y :: zs, _, 0, h => by
    obtain ⟨u, r, rfl, e2, e3⟩ := repL_cons.mp h
    simpa using e3
  | y :: zs, _, n + 1, h => by
    obtain ⟨u, r, rfl, e2, e3⟩ := repL_cons.mp h
    simpa using repL_cons.mpr ⟨u, _, rfl, e2, RepL.eraseIdx n e3⟩
theorem RepL.reverse : ∀ {zs : List Z} {vs : List V}, RepL K ρ H zs vs → RepL K ρ H zs.reverse vs.reverse
  | [], _, h => by rw [repL_nil] at h; rw [h]; simpa using repL_nil.mpr rfl
  | y :: zs, _, h => by
    obtain ⟨u, r, rfl, e2, e3⟩ := repL_cons.mp h
    rw [List.reverse_cons, List.reverse_cons]
    exact (RepL.reverse e3).append (repL_cons.mpr ⟨u, [], rfl, e2, repL_nil.mpr rfl⟩)
end

/-! ### the cells -/
def ClAt (K : PySem.W.Frag) (ρ : Ro) (H : Hp) (o : Option Addr) : Cl → Prop
  | .lst zs => ∃ a vs, o = some a ∧ H a = some (.lst vs) ∧ zs.length ≤ sizeL ∧ RepL K ρ H zs vs
  | .dic _ _ => False
  | .ins c fs zs => ∃ a dx vs, o = some a ∧ H a = some (.ins (He.ga K c) dx (fz fs vs)) ∧ fs.length = zs.length ∧ fs.length < 500 ∧ RepL K ρ H zs vs
  | .dead => o = none
structure Wd (K : PySem.W.Frag) (ρ : Ro) (st : Sto) (H : Hp) : Prop where
  len : ρ.c.length = st.length
  inj : ∀ (n m : Nat) (a : Addr), ρ.c[n]? = some (some a) → ρ.c[m]? = some (some a) → n = m
  at_ : ∀ (n : Nat) (c : Cl), st[n]? = some c → ∃ o, ρ.c[n]? = some o ∧ ClAt K ρ H o c
  hid : ∀ a ∈ ρ.h, some a ∉ ρ.c ∧ ∃ o, H a = some o
theorem ClAt.evo {K : PySem.W.Frag} {ρ ρ' : Ro} {H H' : Hp} (e : Evo ρ H ρ' H') {o : Option Addr} {c : Cl} (h : ClAt K ρ H o c) (k : ∀ a u, o = some a → H a = some u → H' a = some u) : ClAt K ρ' H' o c := by
  cases c with
  | lst zs =>
    obtain ⟨a, vs, e1, e2, e3, e4⟩ := h
    exact ⟨a, vs, e1, k _ _ e1 e2, e3, RepL.evo e _ _ e4⟩
  | dic _ _ => exact h.elim
  | ins c fs zs =>
    obtain ⟨a, dx, vs, e1, e2, e3, e5, e4⟩ := h
    exact ⟨a, dx, vs, e1, k _ _ e1 e2, e3, e5, RepL.evo e _ _ e4⟩
  | dead => exact h
/-- cells below b: what they name, they named before, or nothing -/
def Sub (b : Nat) (st st' : Sto) : Prop := st.length ≤ st'.length ∧ ∀ n c', n < b → st'[n]? = some c' → n < st.length → ∃ c, st[n]? = some c ∧ ∀ m ∈ c'.refs, m ∈ c.refs
theorem Sub.refl {b : Nat} {st : Sto} : Sub b st st := ⟨Nat.le_refl _, fun _ c' _ h _ => ⟨c', h, fun _ q => q⟩⟩
theorem Sub.trans {b : Nat} {s1 s2 s3 : Sto} (h : Sub b s1 s2) (g : Sub b s2 s3) : Sub b s1 s3 := by
  refine ⟨Nat.le_trans h.1 g.1, fun n c' hn e hl => ?_⟩
  obtain ⟨c2, e2, k2⟩ := g.2 n c' hn e (Nat.lt_of_lt_of_le hl h.1)
  obtain ⟨c1, e1, k1⟩ := h.2 n c2 hn e2 hl
  exact ⟨c1, e1, fun m q => k1 m (k2 m q)⟩
theorem Sub.mono {b b' : Nat} {s1 s2 : Sto} (h : Sub b s1 s2) (l : b' ≤ b) : Sub b' s1 s2 := ⟨h.1, fun n c' hn e hl => h.2 n c' (Nat.lt_of_lt_of_le hn l) e hl⟩
section
variable {K : PySem.W.Frag} {ρ : Ro} {H : Hp} {st : Sto}
theorem Wd.live (w : Wd K ρ st H) {a : Addr} (h : some a ∈ ρ.c) : ∃ o, H a = some o ∧ Mut (some o) := by
  obtain ⟨n, hn⟩ := List.getElem?_of_mem h
  have hl : n < st.length := by rw [← w.len]; exact (List.getElem?_eq_some_iff.mp hn).1
  obtain ⟨o, e1, e2⟩ := w.at_ n st[n] (by simp [hl])
  rw [hn] at e1; cases e1
  cases hc : st[n] with
  | lst zs => rw [hc] at e2; obtain ⟨b, vs, q1, q2, _⟩ := e2; cases q1; exact ⟨_, q2, trivial⟩
  | dic _ _ => rw [hc] at e2; exact e2.elim
  | ins c fs zs => rw [hc] at e2; obtain ⟨b, dx, vs, q1, q2, _⟩ := e2; cases q1; exact ⟨_, q2, trivial⟩
  | dead => rw [hc] at e2; cases e2
/-- a new thing, no cell -/
theorem evo_new {a : Addr} {o : HO} (h : H a = none) : Evo ρ H ρ (upd H a o) :=
  ⟨fun b u e _ => by rw [upd_ne (ne_of_none e h)]; exact e, fun _ m => .inl m, Nat.le_refl _, fun _ _ _ e => e, fun _ h => .inl h, fun _ h => h, fun b u e => ⟨u, by rw [upd_ne (ne_of_none e h)]; exact e⟩⟩
theorem Wd.new (w : Wd K ρ st H) {a : Addr} {o : HO} (h : H a = none) : Wd K ρ st (upd H a o) :=
  ⟨w.len, w.inj, fun n c e => let ⟨u, e1, e2⟩ := w.at_ n c e; ⟨u, e1, e2.evo (evo_new h) fun b x _ hb => by rw [upd_ne (ne_of_none hb h)]; exact hb⟩, fun b m => let ⟨x, o, y⟩ := w.hid b m; ⟨x, o, by rw [upd_ne (ne_of_none y h)]; exact y⟩⟩
theorem Wd.notinc (w : Wd K ρ st H) {a : Addr} (h : H a = none) : some a ∉ ρ.c := fun m => by
  obtain ⟨o, e, _⟩ := w.live m
  rw [h] at e; cases e
theorem Wd.notin (w : Wd K ρ st H) {a : Addr} (h : H a = none) : ρ.out a := ⟨w.notinc h, fun m => by
  obtain ⟨_, o, e⟩ := w.hid a m
  rw [h] at e; cases e⟩
/-- a new cell -/
theorem evo_cell {a : Addr} {o : HO} (h : H a = none) : Evo ρ H (ρ.add a) (upd H a o) := by
  refine ⟨fun b u e _ => by rw [upd_ne (ne_of_none e h)]; exact e, fun b m => ?_, by simp [Ro.add], fun n b hn e => ?_, fun _ h => .inl h, fun _ h => h, fun b u e => ⟨u, by rw [upd_ne (ne_of_none e h)]; exact e⟩⟩
  · rcases List.mem_append.mp (show some b ∈ ρ.c ++ [some a] from m) with q | q
    · exact .inl q
    · have q' : some b = some a := by simpa using q
      cases q'; exact .inr h
  · have e : (ρ.c ++ [some a])[n]? = some (some b) := e
    rw [List.getElem?_append_left hn] at e; exact e
theorem Wd.cell (w : Wd K ρ st H) {a : Addr} {o : HO} {c : Cl} (h : H a = none) (hc : ClAt K (ρ.add a) (upd H a o) (some a) c) : Wd K (ρ.add a) (st ++ [c]) (upd H a o) := by
  have na := w.notinc h
  refine ⟨by simp [w.len, Ro.add], fun n m b e1 e2 => ?_, fun n d e => ?_, fun b m => ?_⟩
  · have e1 : (ρ.c ++ [some a])[n]? = some (some b) := e1
    have e2 : (ρ.c ++ [some a])[m]? = some (some b) := e2
    by_cases hn : n < ρ.c.length
    · rw [List.getElem?_append_left hn] at e1
      by_cases hm : m < ρ.c.length
      · rw [List.getElem?_append_left hm] at e2
        exact w.inj n m b e1 e2
      · rw [List.getElem?_append_right (by omega)] at e2
        have q : m - ρ.c.length = 0 := by
          have := (List.getElem?_eq_some_iff.mp e2).1
          simpa using this
        rw [q] at e2
        have e2' : a = b := by simpa using e2
        subst e2'
        exact absurd (List.mem_of_getElem? e1) na
    · rw [List.getElem?_append_right (by omega)] at e1
      have q : n - ρ.c.length = 0 := by
        have := (List.getElem?_eq_some_iff.mp e1).1
        simpa using this
      rw [q] at e1
      have e1' : a = b := by simpa using e1
      subst e1'
      by_cases hm : m < ρ.c.length
      · rw [List.getElem?_append_left hm] at e2
        exact absurd (List.mem_of_getElem? e2) na
      · rw [List.getElem?_append_right (by omega)] at e2
        have q2 : m - ρ.c.length = 0 := by
          have := (List.getElem?_eq_some_iff.mp e2).1
          simpa using this
        omega
  · by_cases hn : n < st.length
    · rw [List.getElem?_append_left hn] at e
      obtain ⟨u, e1, e2⟩ := w.at_ n d e
      refine ⟨u, by show (ρ.c ++ [some a])[n]? = _; rw [List.getElem?_append_left (by rw [w.len]; exact hn)]; exact e1, e2.evo (evo_cell h) fun b x _ hb => by rw [upd_ne (ne_of_none hb h)]; exact hb⟩
    · rw [List.getElem?_append_right (by omega)] at e
      have q : n - st.length = 0 := by
        have := (List.getElem?_eq_some_iff.mp e).1
        simpa using this
      rw [q] at e
      have e' : c = d := by simpa using e
      subst e'
      refine ⟨some a, ?_, hc⟩
      show (ρ.c ++ [some a])[n]? = _
      rw [List.getElem?_append_right (by rw [w.len]; omega), w.len, q]
      rfl
  · obtain ⟨x, o', y⟩ := w.hid b m
    refine ⟨fun z => ?_, o', by rw [upd_ne (ne_of_none y h)]; exact y⟩
    rcases List.mem_append.mp (show some b ∈ ρ.c ++ [some a] from z) with q | q
    · exact x q
    · have q' : some b = some a := by simpa using q
      cases q'
      rw [h] at y; cases y
/-- a cell is written -/
theorem evo_put {n : Nat} {a : Addr} {o : HO} (e : ρ.c[n]? = some (some a)) : Evo ρ H ρ (upd H a o) :=
  ⟨fun b u hb nb => by rw [upd_ne (fun z => nb (by rw [z]; exact List.mem_of_getElem? e))]; exact hb, fun _ m => .inl m, Nat.le_refl _, fun _ _ _ e => e, fun _ h => .inl h, fun _ h => h, fun b u hb => upd_ther hb⟩
theorem Wd.put (w : Wd K ρ st H) {n : Nat} {a : Addr} {o : HO} {c : Cl} (e : ρ.c[n]? = some (some a)) (hc : ClAt K ρ (upd H a o) (some a) c) : Wd K ρ (st.set n c) (upd H a o) := by
  have hl : n < st.length := by rw [← w.len]; exact (List.getElem?_eq_some_iff.mp e).1
  refine ⟨by rw [List.length_set]; exact w.len, w.inj, fun m d q => ?_, fun b m => let ⟨x, o', y⟩ := w.hid b m; ⟨x, o', by rw [upd_ne (fun z => x (by rw [z]; exact List.mem_of_getElem? e))]; exact y⟩⟩
  by_cases hm : n = m
  · subst hm
    rw [List.getElem?_set_self hl] at q
    cases q
    exact ⟨some a, e, hc⟩
  · rw [List.getElem?_set_ne hm] at q
    obtain ⟨u, e1, e2⟩ := w.at_ m d q
    refine ⟨u, e1, e2.evo (evo_put e) fun b x eb hb => ?_⟩
    subst eb
    rw [upd_ne (fun z => hm (by subst z; exact w.inj n m _ e e1))]
    exact hb
/-- a cell dies -/
theorem evo_kill {n : Nat} : Evo ρ H (ρ.kill n) H := by
  refine ⟨fun _ _ h _ => h, fun b m => ?_, by simp [Ro.kill], fun m b hm e => ?_, fun _ h => .inl h, fun _ h => h, fun _ o h => ⟨o, h⟩⟩
  · rcases List.mem_or_eq_of_mem_set (show some b ∈ ρ.c.set n none from m) with q | q
    · exact .inl q
    · cases q
  · have e : (ρ.c.set n none)[m]? = some (some b) := e
    by_cases h : n = m
    · subst h
      rw [List.getElem?_set_self hm] at e
      cases e
    · rw [List.getElem?_set_ne h] at e
      exact e
theorem Wd.kill (w : Wd K ρ st H) (n : Nat) : Wd K (ρ.kill n) (st.set n .dead) H := by
  refine ⟨by simp [w.len, Ro.kill], fun i j b e1 e2 => ?_, fun m d q => ?_, fun b m => let ⟨x, y⟩ := w.hid b m; ⟨fun z => ?_, y⟩⟩
  · have h1 : i < ρ.c.length := by have := (List.getElem?_eq_some_iff.mp e1).1; simpa [Ro.kill] using this
    have h2 : j < ρ.c.length := by have := (List.getElem?_eq_some_iff.mp e2).1; simpa [Ro.kill] using this
    exact w.inj i j b ((evo_kill (H := H)).old i b h1 e1) ((evo_kill (H := H)).old j b h2 e2)
  · by_cases h : n = m
    · subst h
      have hl : n < st.length := by have := (List.getElem?_eq_some_iff.mp q).1; simpa using this
      rw [List.getElem?_set_self hl] at q
      cases q
      exact ⟨none, by show (ρ.c.set n none)[n]? = _; rw [List.getElem?_set_self (by rw [w.len]; exact hl)], rfl⟩
    · rw [List.getElem?_set_ne h] at q
      obtain ⟨u, e1, e2⟩ := w.at_ m d q
      exact ⟨u, by show (ρ.c.set n none)[m]? = _; rw [List.getElem?_set_ne h]; exact e1, e2.evo evo_kill fun _ _ _ x => x⟩
  · rcases List.mem_or_eq_of_mem_set (show some b ∈ ρ.c.set n none from z) with q | q
    · exact x q
    · cases q
end
theorem sub_set {b n : Nat} {st : Sto} {c : Cl} (h : ∀ c0, st[n]? = some c0 → n < b → ∀ m ∈ c.refs, m ∈ c0.refs) : Sub b st (st.set n c) := by
  refine ⟨by simp, fun m c' hm e hl => ?_⟩
  by_cases q : n = m
  · subst q
    rw [List.getElem?_set_self hl] at e
    cases e
    exact ⟨st[n], by simp [hl], h _ (by simp [hl]) hm⟩
  · rw [List.getElem?_set_ne q] at e
    exact ⟨c', e, fun _ x => x⟩
theorem sub_app {b : Nat} {st : Sto} {l : Sto} : Sub b st (st ++ l) :=
  ⟨by simp, fun n c' _ e hl => ⟨c', by rw [List.getElem?_append_left hl] at e; exact e, fun _ x => x⟩⟩
end ZZ

end
section
set_option maxHeartbeats 2000000
/-! ZVal: the operators, by values. -/
namespace ZZ
open PySem PySem.Spec PyProof.Rows L2
theorem sizeL_eq : sizeLine = sizeL := sizeLine_eq
/-- a reading r of a binary operator serves f -/
def VS2 (K : PySem.W.Frag) (f : Sto → Z → Z → Option Z) (r : R2) : Prop :=
  ∀ (ρ : Ro) (H : Hp) (st : Sto) (x y : V) (zx zy z : Z) (Q : VK), Wd K ρ st H → Rep K ρ H zx x → Rep K ρ H zy y → f st zx zy = some z →
    (∀ ρ' H' v, Evo ρ H ρ' H' → Wd K ρ' st H' → Rep K ρ' H' z v → Q v H') → r x y H Q
theorem opr_or {X : Cx} {f : Value → Value → Sem Value} {r r' : R2} (h : OpR X f r) (h' : OpR X f r') : OpR X f (fun x y H Q => r x y H Q ∨ r' x y H Q) := by
  intro pins s σ H x y v u Q I rx ry q
  rcases q with q | q
  · exact h pins s σ H x y v u Q I rx ry q
  · exact h' pins s σ H x y v u Q I rx ry q
section
variable {K : PySem.W.Frag} {ρ : Ro} {H : Hp} {st : Sto} {v : V}
theorem rep_int {i : Int} : Rep K ρ H (.int i) v ↔ v = .int i := by unfold Rep; exact Iff.rfl
theorem rep_bl {i : Bool} : Rep K ρ H (.bl i) v ↔ v = .bl i := by unfold Rep; exact Iff.rfl
theorem rep_non : Rep K ρ H .non v ↔ v = .non := by unfold Rep; exact Iff.rfl
theorem rep_str {s : List Nat} : Rep K ρ H (.str s) v ↔ v = .str ⟨s.toArray⟩ ∧ s.length ≤ sizeL ∧ ∀ c ∈ s, c < 0x110000 := by unfold Rep; exact Iff.rfl
theorem rep_lst {zs : List Z} : Rep K ρ H (.lst zs) v ↔ ∃ a vs, v = .ref a ∧ H a = some (.lst vs) ∧ ρ.out a ∧ zs.length ≤ sizeL ∧ RepL K ρ H zs vs := by unfold Rep; exact Iff.rfl
theorem rep_tup {zs : List Z} : Rep K ρ H (.tup zs) v ↔ ∃ a vs, v = .ref a ∧ ((H a = some (.tup vs) ∧ ρ.out a) ∨ KTp K a vs) ∧ zs.length ≤ sizeL ∧ RepL K ρ H zs vs := by unfold Rep; exact Iff.rfl
theorem rep_ins {c : String} {fs : List String} {zs : List Z} : Rep K ρ H (.ins c fs zs) v ↔ ∃ a dx vs, v = .ref a ∧ H a = some (.ins (He.ga K c) dx (fz fs vs)) ∧ ρ.out a ∧ fs.length = zs.length ∧ RepL K ρ H zs vs := by unfold Rep; exact Iff.rfl
theorem rep_scr {ns : List Int} : Rep K ρ H (.scr ns) v ↔ ∃ a, v = .ref a ∧ ((Rd H a (.lst (ns.map V.int)) ∧ ρ.out a) ∨ KLs K a (ns.map V.int)) ∧ ns.length ≤ sizeL := by unfold Rep; exact Iff.rfl
theorem rep_cel {n : Nat} : Rep K ρ H (.cel n) v ↔ n < ρ.c.length ∧ ∀ a, ρ.c[n]? = some (some a) → v = .ref a := by unfold Rep; exact Iff.rfl
theorem repL_ints : ∀ {ns : List Int}, RepL K ρ H (ns.map Z.int) (ns.map V.int)
  | [] => repL_nil.mpr rfl
  | i :: r => repL_cons.mpr ⟨.int i, _, rfl, rep_int.mpr rfl, repL_ints⟩
theorem repL_ints_inv : ∀ {zs : List Z} {ns : List Int} {vs : List V}, zints zs = some ns → RepL K ρ H zs vs → vs = ns.map V.int
  | [], _, _, e, h => by
    have e' : some [] = some _ := e
    cases e'
    rw [repL_nil] at h; exact h
  | .int i :: r, ns, vs, e, h => by
    obtain ⟨v, us, rfl, h1, h2⟩ := repL_cons.mp h
    have e' : (zints r).map (i :: ·) = some ns := e
    cases q : zints r with
    | none => rw [q] at e'; cases e'
    | some ms =>
      rw [q] at e'
      cases e'
      rw [rep_int.mp h1, repL_ints_inv q h2]
      rfl
  | .non :: _, _, _, e, _ => by cases e
  | .bl _ :: _, _, _, e, _ => by cases e
  | .str _ :: _, _, _, e, _ => by cases e
  | .lst _ :: _, _, _, e, _ => by cases e
  | .tup _ :: _, _, _, e, _ => by cases e
  | .dic _ _ :: _, _, _, e, _ => by cases e
  | .ins _ _ _ :: _, _, _, e, _ => by cases e
  | .scr _ :: _, _, _, e, _ => by cases e
  | .cel _ :: _, _, _, e, _ => by cases e
theorem repL_bools_inv : ∀ {zs : List Z} {ns : List Bool} {vs : List V}, zbools zs = some ns → RepL K ρ H zs vs → vs = ns.map V.bl
  | [], _, _, e, h => by
    have e' : some [] = some _ := e
    cases e'
    rw [repL_nil] at h; exact h
  | .bl i :: r, ns, vs, e, h => by
    obtain ⟨v, us, rfl, h1, h2⟩ := repL_cons.mp h
    have e' : (zbools r).map (i :: ·) = some ns := e
    cases q : zbools r with
    | none => rw [q] at e'; cases e'
    | some ms =>
      rw [q] at e'
      cases e'
      rw [rep_bl.mp h1, repL_bools_inv q h2]
      rfl
  | .non :: _, _, _, e, _ => by cases e
  | .int _ :: _, _, _, e, _ => by cases e
  | .str _ :: _, _, _, e, _ => by cases e
  | .lst _ :: _, _, _, e, _ => by cases e
  | .tup _ :: _, _, _, e, _ => by cases e
  | .dic _ _ :: _, _, _, e, _ => by cases e
  | .ins _ _ _ :: _, _, _, e, _ => by cases e
  | .scr _ :: _, _, _, e, _ => by cases e
  | .cel _ :: _, _, _, e, _ => by cases e
/-- what stands behind a cell, as it stands -/
theorem cel_at (w : Wd K ρ st H) {n : Nat} {c : Cl} (e : st[n]? = some c) (h : Rep K ρ H (.cel n) v) (hd : c ≠ .dead) : ∃ a, v = .ref a ∧ ρ.c[n]? = some (some a) ∧ ClAt K ρ H (some a) c := by
  obtain ⟨o, e1, e2⟩ := w.at_ n c e
  obtain ⟨_, h2⟩ := rep_cel.mp h
  cases c with
  | lst zs => obtain ⟨a, vs, rfl, q⟩ := id e2; exact ⟨a, h2 a e1, e1, e2⟩
  | dic _ _ => exact e2.elim
  | ins c fs zs => obtain ⟨a, dx, vs, rfl, q⟩ := id e2; exact ⟨a, h2 a e1, e1, e2⟩
  | dead => exact absurd rfl hd
/-- a list to be read -/
theorem dr_lst_at (w : Wd K ρ st H) {z : Z} {zs : List Z} (h : Rep K ρ H z v) (e : dr st z = .lst zs) : ∃ a vs, v = .ref a ∧ SqL K H a vs ∧ zs.length ≤ sizeL ∧ RepL K ρ H zs vs := by
  cases z with
  | lst ys =>
    cases e
    obtain ⟨a, vs, e1, e2, _, e4, e5⟩ := rep_lst.mp h
    exact ⟨a, vs, e1, .of e2, e4, e5⟩
  | scr ns =>
    have e' : Z.lst (ns.map Z.int) = .lst zs := e
    cases e'
    obtain ⟨a, e1, e2, e4⟩ := rep_scr.mp h
    refine ⟨a, _, e1, ?_, by rw [List.length_map]; exact e4, repL_ints⟩
    rcases e2 with ⟨e2, _⟩ | e2
    · exact .inl e2
    · exact .inr e2
  | cel n =>
    cases q : st[n]? with
    | none => rw [dr_cel, q] at e; cases e
    | some c =>
      rw [dr_cel, q] at e
      cases c with
      | lst ys =>
        cases e
        obtain ⟨a, e1, _, e3⟩ := cel_at w q h (by intro z; cases z)
        obtain ⟨b, vs, e4, e5, e6, e7⟩ := e3
        cases e4
        exact ⟨a, vs, e1, .of e5, e6, e7⟩
      | _ => cases e
  | _ => cases e
theorem dr_tup_at (w : Wd K ρ st H) {z : Z} {zs : List Z} (h : Rep K ρ H z v) (e : dr st z = .tup zs) : ∃ a vs, v = .ref a ∧ SqT K H a vs ∧ zs.length ≤ sizeL ∧ RepL K ρ H zs vs ∧ z = .tup zs := by
  cases z with
  | tup ys =>
    cases e
    obtain ⟨a, vs, e1, e2, e4, e5⟩ := rep_tup.mp h
    refine ⟨a, vs, e1, ?_, e4, e5, rfl⟩
    rcases e2 with ⟨e2, _⟩ | e2
    · exact .of e2
    · exact .inr e2
  | cel n =>
    cases q : st[n]? with
    | none => rw [dr_cel, q] at e; cases e
    | some c =>
      rw [dr_cel, q] at e
      cases c <;> cases e
  | _ => cases e
theorem dr_int_at {z : Z} {i : Int} (e : dr st z = .int i) : z = .int i := by
  cases z with
  | int j => exact e
  | cel n =>
    cases q : st[n]? with
    | none => rw [dr_cel, q] at e; cases e
    | some c =>
      rw [dr_cel, q] at e
      cases c <;> cases e
  | _ => cases e
theorem dr_str_at {z : Z} {s : List Nat} (e : dr st z = .str s) : z = .str s := by
  cases z with
  | str j => exact e
  | cel n =>
    cases q : st[n]? with
    | none => rw [dr_cel, q] at e; cases e
    | some c =>
      rw [dr_cel, q] at e
      cases c <;> cases e
  | _ => cases e
/-- an instance to be read -/
theorem dr_ins_at (w : Wd K ρ st H) {z : Z} {c : String} {fs : List String} {zs : List Z} (h : Rep K ρ H z v) (e : dr st z = .ins c fs zs) : ∃ a dx vs, v = .ref a ∧ H a = some (.ins (He.ga K c) dx (fz fs vs)) ∧ fs.length = zs.length ∧ RepL K ρ H zs vs := by
  cases z with
  | ins c' fs' ys =>
    cases e
    obtain ⟨a, dx, vs, e1, e2, _, e4, e5⟩ := rep_ins.mp h
    exact ⟨a, dx, vs, e1, e2, e4, e5⟩
  | cel n =>
    cases q : st[n]? with
    | none => rw [dr_cel, q] at e; cases e
    | some c =>
      rw [dr_cel, q] at e
      cases c with
      | ins c' fs' ys =>
        cases e
        obtain ⟨a, e1, _, e3⟩ := cel_at w q h (by intro z; cases z)
        obtain ⟨b, dx, vs, e4, e5, e6, e8, e7⟩ := e3
        cases e4
        exact ⟨a, dx, vs, e1, e5, e6, e7⟩
      | _ => cases e
  | _ => cases e
/-- a new list -/
theorem new_lst {zs : List Z} {vs : List V} (w : Wd K ρ st H) (r : RepL K ρ H zs vs) (l : zs.length ≤ sizeL) {Q : VK} (q : ∀ ρ' H' v, Evo ρ H ρ' H' → Wd K ρ' st H' → Rep K ρ' H' (.lst zs) v → Q v H') :
    ∀ p, H p = none → Q (.ref p) (upd H p (.lst vs)) := fun p hp =>
  q ρ _ _ (evo_new hp) (w.new hp) (rep_lst.mpr ⟨p, vs, rfl, upd_same, w.notin hp, l, RepL.evo (evo_new hp) _ _ r⟩)
theorem new_tup {zs : List Z} {vs : List V} (w : Wd K ρ st H) (r : RepL K ρ H zs vs) (l : zs.length ≤ sizeL) {Q : VK} (q : ∀ ρ' H' v, Evo ρ H ρ' H' → Wd K ρ' st H' → Rep K ρ' H' (.tup zs) v → Q v H') :
    ∀ p, H p = none → Q (.ref p) (upd H p (.tup vs)) := fun p hp =>
  q ρ _ _ (evo_new hp) (w.new hp) (rep_tup.mpr ⟨p, vs, rfl, .inl ⟨upd_same, w.notin hp⟩, l, RepL.evo (evo_new hp) _ _ r⟩)
end
/-- nothing is made -/
theorem stay {K : PySem.W.Frag} {ρ : Ro} {H : Hp} {st : Sto} {z : Z} {Q : VK} (w : Wd K ρ st H) (q : ∀ ρ' H' v, Evo ρ H ρ' H' → Wd K ρ' st H' → Rep K ρ' H' z v → Q v H') {v : V} (r : Rep K ρ H z v) : Q v H := q ρ H v .refl w r

/-! ### arithmetic -/
def rRepS : R2 := fun x y H Q => ∃ (a : Str) (k : Int), x = .str a ∧ y = .int k ∧ (k = 0 ∧ Q (.str Str.empty) H ∨ k = 1 ∧ Q (.str a) H)
theorem op_repS {X : Cx} : OpR X (binaryOp .Mult) rRepS := by
  intro pins s σ H x y v u Q I rx ry h
  obtain ⟨a, k, rfl, rfl, h⟩ := h
  obtain ⟨t, rfl⟩ := rx
  obtain ⟨t2, rfl⟩ := ry
  rcases h with ⟨rfl, h⟩ | ⟨rfl, h⟩
  · exact PySem.P.mul_str_none (by decide) (by decide) ⟨.str Str.empty, H, I.tok _, ⟨_, rfl⟩, h⟩
  · refine PySem.P.mul_str (by decide) (fun _ e => by simp at e) (fun _ e => by simp at e) ?_
    rw [if_neg (by decide), if_pos (by rfl)]
    exact ⟨.str a, H, I, ⟨t, rfl⟩, h⟩
def vArith (K : PySem.W.Frag) (o : BOp) : R2 := match o with
  | .add => fun x y H Q => (rI0 fun i j => .int (i + j)) x y H Q ∨ (∃ i j, x = .str i ∧ y = .str j ∧ i.length + j.length ≤ sizeLine ∧ Q (.str (i ++ j)) H) ∨ rCat x y H Q ∨ rCatA K x y H Q
  | .sub => rI0 fun i j => .int (i - j)
  | .mul => fun x y H Q => (rI CMul fun i j => .int (i * j)) x y H Q ∨ (rI CMulW fun i j => .int (i * j)) x y H Q
  | .fdiv => rI CDivW fun i j => .int (i / j)
  | .mod => rI (fun _ j => 0 < j) fun i j => .int (i % j)
  | .pow => rI CPow fun i j => .int (i ^ j.toNat)
  | .shl => rI CPow fun i j => .int (i * 2 ^ j.toNat)
  | .shr => rI (fun _ j => 0 ≤ j) fun i j => .int (i / 2 ^ j.toNat)
  | .band => fun x y H Q => ∃ n : Nat, x = .int (n : Int) ∧ y = .int 1 ∧ Q (.int ((n % 2 : Nat) : Int)) H
  | .rep => fun x y H Q => rRep x y H Q ∨ rRepT K x y H Q ∨ rRepS x y H Q
def bopOf : BOp → Operator
  | .add => .Add | .sub => .Sub | .mul => .Mult | .fdiv => .FloorDiv | .mod => .Mod | .pow => .Pow | .shl => .LShift | .shr => .RShift | .band => .BitAnd | .rep => .Mult
theorem vArith_op {X : Cx} (o : BOp) : OpR X (binaryOp (bopOf o)) (vArith X.K o) := by
  cases o with
  | add => exact opr_or op_add (opr_or op_add_str (opr_or op_cat op_catA))
  | sub => exact op_sub
  | mul => exact opr_or op_mul op_mulW
  | fdiv => exact op_fdivW
  | mod => exact op_mod
  | pow => exact op_pow
  | shl => exact op_shl
  | shr => exact op_shr
  | band => exact op_odd
  | rep => exact opr_or op_rep (opr_or op_repT op_repS)
theorem small64_ok {i : Int} (h : small64 i = true) : -(2 ^ 64) < i ∧ i < 2 ^ 64 := by
  unfold small64 at h
  rw [Bool.and_eq_true, decide_eq_true_eq, decide_eq_true_eq] at h
  exact h
theorem str_app {a b : List Nat} : ((⟨a.toArray⟩ : Str) ++ (⟨b.toArray⟩ : Str)) = ⟨(a ++ b).toArray⟩ := by
  show Str.append _ _ = _
  unfold Str.append
  simp
theorem str_len {a : List Nat} : (⟨a.toArray⟩ : Str).length = a.length := by
  unfold Str.length
  simp
theorem zbin_inv {o : BOp} {st : Sto} {x y z : Z} (e : zbin o st x y = some z) :
    (∃ i j, x = .int i ∧ y = .int j ∧ zbin o [] (.int i) (.int j) = some z) ∨ (o = .add ∧ ((∃ a b, x = .str a ∧ y = .str b ∧ a.length + b.length ≤ sizeL ∧ z = .str (a ++ b)) ∨
      (∃ a b, dr st x = .lst a ∧ dr st y = .lst b ∧ (a.length + b.length ≤ sizeL ∧ x.isScr = false ∧ y.isScr = false) ∧ z = .lst (a ++ b)) ∨ (∃ a b, x = .tup a ∧ y = .tup b ∧ a.length + b.length ≤ sizeL ∧ z = .tup (a ++ b)))) ∨
    (o = .rep ∧ ∃ j, y = .int j ∧ ((∃ a, dr st x = .lst a ∧ (x.isScr = false ∧ -(2 ^ 63) ≤ j ∧ j < 2 ^ 63 ∧ a.length * j.toNat ≤ sizeL) ∧ z = .lst (List.replicate j.toNat a).flatten) ∨
      (∃ a, dr st x = .tup a ∧ (a ≠ [] ∧ 2 ≤ j ∧ j ≤ 1000 ∧ a.length ≤ 1000) ∧ z = .tup (List.replicate j.toNat a).flatten) ∨ (∃ a, x = .str a ∧ (j = 0 ∧ z = .str [] ∨ j = 1 ∧ z = .str a)))) := by
  unfold zbin at e
  split at e <;> first
    | (rename_i h1 h2
       have h1 := dr_int_at h1
       have h2 := dr_int_at h2
       subst h1; subst h2
       exact .inl ⟨_, _, rfl, rfl, by unfold zbin; exact e⟩)
    | skip
  · rename_i a j h1 h2
    have h2 := dr_int_at h2
    subst h2
    split at e
    · rename_i hc; cases e; exact .inr (.inr ⟨rfl, _, rfl, .inl ⟨_, h1, hc, rfl⟩⟩)
    · cases e
  · rename_i a j h1 h2
    have h2 := dr_int_at h2
    subst h2
    split at e
    · rename_i hc; cases e; exact .inr (.inr ⟨rfl, _, rfl, .inr (.inl ⟨_, h1, hc, rfl⟩)⟩)
    · cases e
  · rename_i a j h1 h2
    have h1 := dr_str_at h1
    have h2 := dr_int_at h2
    subst h1; subst h2
    split at e
    · rename_i hc; cases e; exact .inr (.inr ⟨rfl, _, rfl, .inr (.inr ⟨_, rfl, .inl ⟨hc, rfl⟩⟩)⟩)
    · split at e
      · rename_i hc; cases e; exact .inr (.inr ⟨rfl, _, rfl, .inr (.inr ⟨_, rfl, .inr ⟨hc, rfl⟩⟩)⟩)
      · cases e
  · rename_i a b h1 h2
    have h1 := dr_str_at h1
    have h2 := dr_str_at h2
    subst h1; subst h2
    by_cases q : a.length + b.length ≤ sizeL
    · rw [if_pos q] at e; cases e; exact .inr (.inl ⟨rfl, .inl ⟨_, _, rfl, rfl, q, rfl⟩⟩)
    · rw [if_neg q] at e; cases e
  · rename_i a b h1 h2
    by_cases q : a.length + b.length ≤ sizeL ∧ x.isScr = false ∧ y.isScr = false
    · rw [if_pos q] at e; cases e; exact .inr (.inl ⟨rfl, .inr (.inl ⟨_, _, h1, h2, q, rfl⟩)⟩)
    · rw [if_neg q] at e; cases e
  · rename_i a b h1 h2
    by_cases q : a.length + b.length ≤ sizeL
    · rw [if_pos q] at e; cases e
      refine .inr (.inl ⟨rfl, .inr (.inr ⟨_, _, ?_, ?_, q, rfl⟩)⟩)
      · cases x with
        | tup _ => exact h1
        | cel n => rw [dr_cel] at h1; cases hh : st[n]? with
          | none => rw [hh] at h1; cases h1
          | some c => rw [hh] at h1; cases c <;> cases h1
        | _ => cases h1
      · cases y with
        | tup _ => exact h2
        | cel n => rw [dr_cel] at h2; cases hh : st[n]? with
          | none => rw [hh] at h2; cases h2
          | some c => rw [hh] at h2; cases c <;> cases h2
        | _ => cases h2
    · rw [if_neg q] at e; cases e
  · cases e
theorem rep_flat_len {α : Type} {xs : List α} : ∀ {n : Nat}, (List.replicate n xs).flatten.length = n * xs.length
  | 0 => by simp
  | n + 1 => by rw [List.replicate_succ, List.flatten_cons, List.length_append, rep_flat_len, Nat.succ_mul]; omega
theorem RepL.repl {K : PySem.W.Frag} {ρ : Ro} {H : Hp} {zs : List Z} {vs : List V} (r : RepL K ρ H zs vs) : ∀ n : Nat, RepL K ρ H (List.replicate n zs).flatten (List.replicate n vs).flatten
  | 0 => repL_nil.mpr rfl
  | n + 1 => by rw [List.replicate_succ, List.flatten_cons, List.replicate_succ, List.flatten_cons]; exact r.append (RepL.repl r n)
/-- a list, tracked -/
theorem dr_lst_trk {K : PySem.W.Frag} {ρ : Ro} {H : Hp} {st : Sto} {v : V} (w : Wd K ρ st H) {z : Z} {zs : List Z} (h : Rep K ρ H z v) (e : dr st z = .lst zs) (hs : ∀ ns, z ≠ .scr ns) : ∃ a vs, v = .ref a ∧ H a = some (.lst vs) ∧ zs.length ≤ sizeL ∧ RepL K ρ H zs vs := by
  cases z with
  | lst ys =>
    cases e
    obtain ⟨a, vs, e1, e2, _, e4, e5⟩ := rep_lst.mp h
    exact ⟨a, vs, e1, e2, e4, e5⟩
  | scr ns => exact absurd rfl (hs ns)
  | cel n =>
    cases q : st[n]? with
    | none => rw [dr_cel, q] at e; cases e
    | some c =>
      rw [dr_cel, q] at e
      cases c with
      | lst ys =>
        cases e
        obtain ⟨a, e1, _, e3⟩ := cel_at w q h (by intro z; cases z)
        obtain ⟨b, vs, e4, e5, e6, e7⟩ := e3
        cases e4
        exact ⟨a, vs, e1, e5, e6, e7⟩
      | _ => cases e
  | _ => cases e
theorem repL_nil_iff {K : PySem.W.Frag} {ρ : Ro} {H : Hp} {zs : List Z} {vs : List V} (h : RepL K ρ H zs vs) : vs = [] ↔ zs = [] := by
  have l := h.length
  constructor
  · intro e; subst e; cases zs with
    | nil => rfl
    | cons _ _ => cases l
  · intro e; subst e; cases vs with
    | nil => rfl
    | cons _ _ => cases l
theorem not_scr {z : Z} (h : z.isScr = false) : ∀ ns, z ≠ .scr ns := fun ns e => by subst e; cases h
theorem vArith_ok {K : PySem.W.Frag} (o : BOp) : VS2 K (zbin o) (vArith K o) := by
  intro ρ H st x y zx zy z Q w hx hy e q
  rcases zbin_inv e with ⟨i, j, rfl, rfl, e⟩ | ⟨rfl, h⟩ | ⟨rfl, j, rfl, h⟩
  · have ex := rep_int.mp hx
    have ey := rep_int.mp hy
    subst ex; subst ey
    have fin : ∀ k : Int, z = .int k → Q (.int k) H := fun k ez => stay w q (by rw [ez]; exact rep_int.mpr rfl)
    cases o with
    | add => exact .inl ⟨i, j, rfl, rfl, fin _ (Option.some.inj e).symm⟩
    | sub => exact ⟨i, j, rfl, rfl, fin _ (Option.some.inj e).symm⟩
    | mul =>
      have e : (if mulOk i j = true then some (Z.int (i * j)) else none) = some z := e
      by_cases c : mulOk i j = true
      · rw [if_pos c] at e
        have f := fin _ (Option.some.inj e).symm
        unfold mulOk at c
        rw [Bool.or_eq_true, Bool.or_eq_true, decide_eq_true_eq] at c
        rcases c with (c | c) | c
        · exact .inl ⟨i, j, rfl, rfl, .inl (small64_ok c), f⟩
        · exact .inl ⟨i, j, rfl, rfl, .inr (small64_ok c), f⟩
        · exact .inr ⟨i, j, rfl, rfl, c, f⟩
      · rw [if_neg c] at e; cases e
    | fdiv =>
      have e : (if (decide (0 < j) && decide (j.natAbs.log2 < 9000)) = true then some (Z.int (i / j)) else none) = some z := e
      by_cases c : (decide (0 < j) && decide (j.natAbs.log2 < 9000)) = true
      · rw [if_pos c] at e
        rw [Bool.and_eq_true, decide_eq_true_eq, decide_eq_true_eq] at c
        exact ⟨i, j, rfl, rfl, c, fin _ (Option.some.inj e).symm⟩
      · rw [if_neg c] at e; cases e
    | mod =>
      have e : (if decide (0 < j) = true then some (Z.int (i % j)) else none) = some z := e
      by_cases c : decide (0 < j) = true
      · rw [if_pos c] at e
        exact ⟨i, j, rfl, rfl, of_decide_eq_true c, fin _ (Option.some.inj e).symm⟩
      · rw [if_neg c] at e; cases e
    | pow =>
      have e : (if (decide (0 ≤ j) && decide (j ≤ 1000000) && small64 i) = true then some (Z.int (i ^ j.toNat)) else none) = some z := e
      by_cases c : (decide (0 ≤ j) && decide (j ≤ 1000000) && small64 i) = true
      · rw [if_pos c] at e
        rw [Bool.and_eq_true, Bool.and_eq_true, decide_eq_true_eq, decide_eq_true_eq] at c
        have s := small64_ok c.2
        exact ⟨i, j, rfl, rfl, ⟨c.1.1, c.1.2, by omega⟩, fin _ (Option.some.inj e).symm⟩
      · rw [if_neg c] at e; cases e
    | shl =>
      have e : (if (decide (0 ≤ j) && decide (j ≤ 1000000) && small64 i) = true then some (Z.int (i * 2 ^ j.toNat)) else none) = some z := e
      by_cases c : (decide (0 ≤ j) && decide (j ≤ 1000000) && small64 i) = true
      · rw [if_pos c] at e
        rw [Bool.and_eq_true, Bool.and_eq_true, decide_eq_true_eq, decide_eq_true_eq] at c
        have s := small64_ok c.2
        exact ⟨i, j, rfl, rfl, ⟨c.1.1, c.1.2, by omega⟩, fin _ (Option.some.inj e).symm⟩
      · rw [if_neg c] at e; cases e
    | shr =>
      have e : (if decide (0 ≤ j) = true then some (Z.int (i / 2 ^ j.toNat)) else none) = some z := e
      by_cases c : decide (0 ≤ j) = true
      · rw [if_pos c] at e
        exact ⟨i, j, rfl, rfl, of_decide_eq_true c, fin _ (Option.some.inj e).symm⟩
      · rw [if_neg c] at e; cases e
    | rep => cases e
    | band =>
      have e : (if (decide (j = 1) && decide (0 ≤ i)) = true then some (Z.int (i % 2)) else none) = some z := e
      by_cases c : (decide (j = 1) && decide (0 ≤ i)) = true
      · rw [if_pos c] at e
        rw [Bool.and_eq_true, decide_eq_true_eq, decide_eq_true_eq] at c
        obtain ⟨n, rfl⟩ := Int.eq_ofNat_of_zero_le c.2
        refine ⟨n, rfl, by rw [c.1], fin _ ?_⟩
        rw [← Option.some.inj e]
        simp
      · rw [if_neg c] at e; cases e
  · rcases h with ⟨a, b, rfl, rfl, l, rfl⟩ | ⟨a, b, e1, e2, ⟨l, s1, s2⟩, rfl⟩ | ⟨a, b, rfl, rfl, l, rfl⟩
    · obtain ⟨rfl, l1, g1⟩ := rep_str.mp hx
      obtain ⟨rfl, l2, g2⟩ := rep_str.mp hy
      refine .inr (.inl ⟨_, _, rfl, rfl, by rw [str_len, str_len, sizeL_eq]; exact l, stay w q (rep_str.mpr ⟨by rw [str_app], by rw [List.length_append]; exact l, fun c hc => ?_⟩)⟩)
      rcases List.mem_append.mp hc with k | k
      · exact g1 c k
      · exact g2 c k
    · obtain ⟨p1, v1, rfl, h1, l1, r1⟩ := dr_lst_trk w hx e1 (not_scr s1)
      obtain ⟨p2, v2, rfl, h2, l2, r2⟩ := dr_lst_trk w hy e2 (not_scr s2)
      refine .inr (.inr (.inl ⟨p1, p2, v1, v2, rfl, rfl, h1, h2, by rw [r1.length, r2.length, sizeL_eq]; exact l, ?_⟩))
      exact new_lst w (r1.append r2) (by rw [List.length_append]; exact l) q
    · have dx : dr st (.tup a) = .tup a := rfl
      have dy : dr st (.tup b) = .tup b := rfl
      obtain ⟨p1, v1, rfl, h1, l1, r1, _⟩ := dr_tup_at w hx dx
      obtain ⟨p2, v2, rfl, h2, l2, r2, _⟩ := dr_tup_at w hy dy
      refine .inr (.inr (.inr ⟨p1, p2, v1, v2, rfl, rfl, h1, h2, by rw [r1.length, r2.length, sizeL_eq]; exact l, fun e => ?_, fun _ e => ?_, fun _ _ => ?_⟩))
      · have := (repL_nil_iff r1).mp e
        subst this
        exact stay w q hy
      · have := (repL_nil_iff r2).mp e
        subst this
        rw [List.append_nil] at q
        exact stay w q hx
      · exact new_tup w (r1.append r2) (by rw [List.length_append]; exact l) q
  · have hj := rep_int.mp hy
    subst hj
    rcases h with ⟨a, hd, ⟨s1, c1, c2, c3⟩, rfl⟩ | ⟨a, hd, ⟨c1, c2, c3, c4⟩, rfl⟩ | ⟨a, rfl, h⟩
    · obtain ⟨p1, v1, rfl, h1, l1, r1⟩ := dr_lst_trk w hx hd (not_scr s1)
      exact .inl ⟨p1, j, v1, rfl, rfl, h1, c1, c2, by rw [r1.length, sizeL_eq]; exact c3, new_lst w (r1.repl _) (by rw [rep_flat_len, Nat.mul_comm]; exact c3) q⟩
    · obtain ⟨p1, v1, rfl, h1, l1, r1, _⟩ := dr_tup_at w hx hd
      refine .inr (.inl ⟨p1, j, v1, rfl, rfl, h1, fun e => c1 ((repL_nil_iff r1).mp e), c2, c3, by rw [r1.length]; exact c4, ?_⟩)
      refine new_tup w (r1.repl _) ?_ q
      rw [rep_flat_len]
      have : j.toNat * a.length ≤ 1000 * 1000 := Nat.mul_le_mul (by omega) c4
      unfold sizeL
      omega
    · obtain ⟨rfl, l1, g1⟩ := rep_str.mp hx
      refine .inr (.inr ⟨_, j, rfl, rfl, ?_⟩)
      rcases h with ⟨rfl, rfl⟩ | ⟨rfl, rfl⟩
      · exact .inl ⟨rfl, stay w q (rep_str.mpr ⟨rfl, by simp [sizeL], fun c hc => by cases hc⟩)⟩
      · exact .inr ⟨rfl, stay w q hx⟩
end ZZ

end
section
set_option maxHeartbeats 2000000
/-! ZCmp: comparisons, indices, slices, built-in functions, by values. -/
namespace ZZ
open PySem PySem.Spec PyProof.Rows L2
mutual
def toPy : Z → PyData
  | .bl b => .bool b
  | .int i => .int i
  | .str s => .str ⟨s.toArray⟩
  | .lst xs => .list (toPyL xs)
  | .tup xs => .tuple (toPyL xs)
  | _ => .none
def toPyL : List Z → List PyData
  | [] => []
  | z :: zs => toPy z :: toPyL zs
end
theorem str_beq {x y : List Nat} : ((⟨x.toArray⟩ : Str) == ⟨y.toArray⟩) = (x == y) := by
  rw [Bool.eq_iff_iff, beq_iff_eq, beq_iff_eq]
  constructor
  · intro h; injection h with h; simpa using h
  · intro h; rw [h]
mutual
theorem eqv_py : ∀ (x y : Z), x.pd = true → y.pd = true → PyData.eqv (toPy x) (toPy y) = zeqv x y
  | .lst xs, .lst ys, h, g => by
    unfold toPy PyData.eqv zeqv
    exact eqv_pyL xs ys (by unfold Z.pd at h; exact h) (by unfold Z.pd at g; exact g)
  | .tup xs, .tup ys, h, g => by
    unfold toPy PyData.eqv zeqv
    exact eqv_pyL xs ys (by unfold Z.pd at h; exact h) (by unfold Z.pd at g; exact g)
  | .str x, .str y, _, _ => by unfold toPy PyData.eqv zeqv; exact str_beq
  | .int x, .int y, _, _ => by unfold toPy PyData.eqv zeqv; rfl
  | .int x, .bl y, _, _ => by unfold toPy PyData.eqv zeqv; rfl
  | .bl x, .int y, _, _ => by unfold toPy PyData.eqv zeqv; rfl
  | .bl x, .bl y, _, _ => by unfold toPy PyData.eqv zeqv; rfl
  | .non, .non, _, _ => by unfold toPy PyData.eqv zeqv; rfl
  | .non, .int _, _, _ => by simp [toPy, PyData.eqv, zeqv]
  | .non, .bl _, _, _ => by simp [toPy, PyData.eqv, zeqv]
  | .non, .str _, _, _ => by simp [toPy, PyData.eqv, zeqv]
  | .non, .lst _, _, _ => by simp [toPy, PyData.eqv, zeqv]
  | .non, .tup _, _, _ => by simp [toPy, PyData.eqv, zeqv]
  | .bl _, .non, _, _ => by simp [toPy, PyData.eqv, zeqv]
  | .bl _, .str _, _, _ => by simp [toPy, PyData.eqv, zeqv]
  | .bl _, .lst _, _, _ => by simp [toPy, PyData.eqv, zeqv]
  | .bl _, .tup _, _, _ => by simp [toPy, PyData.eqv, zeqv]
  | .int _, .non, _, _ => by simp [toPy, PyData.eqv, zeqv]
  | .int _, .str _, _, _ => by simp [toPy, PyData.eqv, zeqv]
  | .int _, .lst _, _, _ => by simp [toPy, PyData.eqv, zeqv]
  | .int _, .tup _, _, _ => by simp [toPy, PyData.eqv, zeqv]
  | .str _, .non, _, _ => by simp [toPy, PyData.eqv, zeqv]
  | .str _, .bl _, _, _ => by simp [toPy, PyData.eqv, zeqv]
  | .str _, .int _, _, _ => by simp [toPy, PyData.eqv, zeqv]
  | .str _, .lst _, _, _ => by simp [toPy, PyData.eqv, zeqv]
  | .str _, .tup _, _, _ => by simp [toPy, PyData.eqv, zeqv]
  | .lst _, .non, _, _ => by simp [toPy, PyData.eqv, zeqv]
  | .lst _, .bl _, _, _ => by simp [toPy, PyData.eqv, zeqv]
  | .lst _, .int _, _, _ => by simp [toPy, PyData.eqv, zeqv]
  | .lst _, .str _, _, _ => by simp [toPy, PyData.eqv, zeqv]
  | .lst _, .tup _, _, _ => by simp [toPy, PyData.eqv, zeqv]
  | .tup _, .non, _, _ => by simp [toPy, PyData.eqv, zeqv]
  | .tup _, .bl _, _, _ => by simp [toPy, PyData.eqv, zeqv]
  | .tup _, .int _, _, _ => by simp [toPy, PyData.eqv, zeqv]
  | .tup _, .str _, _, _ => by simp [toPy, PyData.eqv, zeqv]
  | .tup _, .lst _, _, _ => by simp [toPy, PyData.eqv, zeqv]
  | .dic _ _, _, h, _ => by cases h
  | .ins _ _ _, _, h, _ => by cases h
  | .scr _, _, h, _ => by cases h
  | .cel _, _, h, _ => by cases h
  | _, .dic _ _, _, h => by cases h
  | _, .ins _ _ _, _, h => by cases h
  | _, .scr _, _, h => by cases h
  | _, .cel _, _, h => by cases h
theorem eqv_pyL : ∀ (xs ys : List Z), pdL xs = true → pdL ys = true → PyData.eqvAll (toPyL xs) (toPyL ys) = zeqvL xs ys
  | [], [], _, _ => by unfold toPyL PyData.eqvAll zeqvL; rfl
  | [], _ :: _, _, _ => by simp [toPyL, PyData.eqvAll, zeqvL]
  | _ :: _, [], _, _ => by simp [toPyL, PyData.eqvAll, zeqvL]
  | x :: xs, y :: ys, h, g => by
    unfold pdL at h g
    rw [Bool.and_eq_true] at h g
    unfold toPyL PyData.eqvAll zeqvL
    rw [eqv_py x y h.1 g.1, eqv_pyL xs ys h.2 g.2]
end
section
variable {K : PySem.W.Frag} {ρ : Ro} {H : Hp}
mutual
theorem py_dp : ∀ (z : Z) (v : V), z.pd = true → Rep K ρ H z v → Dp K H v (toPy z)
  | .non, v, _, h => by rw [rep_non.mp h]; unfold toPy; exact .non
  | .bl b, v, _, h => by rw [rep_bl.mp h]; unfold toPy; exact .bl b
  | .int i, v, _, h => by rw [rep_int.mp h]; unfold toPy; exact .int i
  | .str s, v, _, h => by rw [(rep_str.mp h).1]; unfold toPy; exact .str _
  | .lst zs, v, p, h => by
    obtain ⟨a, vs, rfl, h1, _, _, h4⟩ := rep_lst.mp h
    unfold toPy
    exact .lst (.of h1) (py_dpL zs vs (by unfold Z.pd at p; exact p) h4)
  | .tup zs, v, p, h => by
    obtain ⟨a, vs, rfl, h1, _, h4⟩ := rep_tup.mp h
    unfold toPy
    refine .tup ?_ (py_dpL zs vs (by unfold Z.pd at p; exact p) h4)
    rcases h1 with ⟨h1, _⟩ | h1
    · exact .of h1
    · exact .inr h1
  | .dic _ _, _, h, _ => by cases h
  | .ins _ _ _, _, h, _ => by cases h
  | .scr _, _, h, _ => by cases h
  | .cel _, _, h, _ => by cases h
theorem py_dpL : ∀ (zs : List Z) (vs : List V), pdL zs = true → RepL K ρ H zs vs → DpAll K H vs (toPyL zs)
  | [], vs, _, h => by rw [repL_nil.mp h]; unfold toPyL; exact .nil
  | z :: zs, vs, p, h => by
    obtain ⟨v, r, rfl, h1, h2⟩ := repL_cons.mp h
    unfold pdL at p
    rw [Bool.and_eq_true] at p
    unfold toPyL
    exact .cons (py_dp z v p.1 h1) (py_dpL zs r p.2 h2)
end
mutual
theorem py_can : ∀ (z : Z) (v : V), Rep K ρ H z v → (toPy z).canLay0 = true
  | .non, v, h => by unfold toPy PyData.canLay0; rfl
  | .bl b, v, h => by unfold toPy PyData.canLay0; rfl
  | .int i, v, h => by unfold toPy PyData.canLay0; rfl
  | .str s, v, h => by
    have g := (rep_str.mp h).2.2
    unfold toPy PyData.canLay0
    show PyData.strOk _ = true
    unfold PyData.strOk
    simp only [Array.all_eq_true', List.mem_toArray, decide_eq_true_eq]
    exact g
  | .lst zs, v, h => by
    obtain ⟨a, vs, rfl, h1, _, _, h4⟩ := rep_lst.mp h
    unfold toPy PyData.canLay0
    exact py_canL zs vs h4
  | .tup zs, v, h => by
    obtain ⟨a, vs, rfl, h1, _, h4⟩ := rep_tup.mp h
    unfold toPy PyData.canLay0
    exact py_canL zs vs h4
  | .dic _ _, _, h => by unfold toPy PyData.canLay0; rfl
  | .ins _ _ _, _, h => by unfold toPy PyData.canLay0; rfl
  | .scr _, _, h => by unfold toPy PyData.canLay0; rfl
  | .cel _, _, h => by unfold toPy PyData.canLay0; rfl
theorem py_canL : ∀ (zs : List Z) (vs : List V), RepL K ρ H zs vs → PyData.canLayAll0 (toPyL zs) = true
  | [], vs, h => by unfold toPyL PyData.canLayAll0; rfl
  | z :: zs, vs, h => by
    obtain ⟨v, r, rfl, h1, h2⟩ := repL_cons.mp h
    unfold toPyL PyData.canLayAll0
    rw [py_can z v h1, py_canL zs r h2]
    rfl
end
end
mutual
theorem py_depth : ∀ z : Z, (toPy z).depth ≤ z.dep + 1
  | .non => by simp [toPy, PyData.depth]
  | .bl b => by simp [toPy, PyData.depth]
  | .int i => by simp [toPy, PyData.depth]
  | .str s => by simp [toPy, PyData.depth]
  | .lst zs => by
    have := py_depthL zs
    unfold toPy PyData.depth Z.dep
    omega
  | .tup zs => by
    have := py_depthL zs
    unfold toPy PyData.depth Z.dep
    omega
  | .dic _ _ => by simp [toPy, PyData.depth]
  | .ins _ _ _ => by simp [toPy, PyData.depth]
  | .scr _ => by simp [toPy, PyData.depth]
  | .cel _ => by simp [toPy, PyData.depth]
theorem py_depthL : ∀ zs : List Z, PyData.depthAll (toPyL zs) ≤ depL zs + 1
  | [] => by simp [toPyL, PyData.depthAll]
  | z :: zs => by
    have h1 := py_depth z
    have h2 := py_depthL zs
    unfold toPyL PyData.depthAll depL
    omega
end
section
variable {K : PySem.W.Frag} {ρ : Ro} {H : Hp} {st : Sto}
theorem dr_other {z : Z} (h : ∀ n, z ≠ .cel n) (g : z.isScr = false) : dr st z = z := by
  cases z with
  | cel n => exact absurd rfl (h n)
  | scr _ => cases g
  | _ => rfl
/-- data behind a cell -/
theorem dr_dp (w : Wd K ρ st H) {z : Z} {v : V} (h : Rep K ρ H z v) (p : (dr st z).pd = true) : Dp K H v (toPy (dr st z)) ∧ (toPy (dr st z)).canLay0 = true := by
  cases e : dr st z with
  | lst zs =>
    rw [e] at p
    obtain ⟨a, vs, rfl, h1, _, h4⟩ := dr_lst_at w h e
    refine ⟨?_, ?_⟩
    · unfold toPy; exact .lst h1 (py_dpL zs vs (by unfold Z.pd at p; exact p) h4)
    · unfold toPy PyData.canLay0; exact py_canL zs vs h4
  | tup zs =>
    rw [e] at p
    obtain ⟨a, vs, rfl, h1, _, h4, _⟩ := dr_tup_at w h e
    refine ⟨?_, ?_⟩
    · unfold toPy; exact .tup h1 (py_dpL zs vs (by unfold Z.pd at p; exact p) h4)
    · unfold toPy PyData.canLay0; exact py_canL zs vs h4
  | int i => have := dr_int_at e; subst this; exact ⟨py_dp _ _ rfl h, py_can _ _ h⟩
  | str i => have := dr_str_at e; subst this; exact ⟨py_dp _ _ rfl h, py_can _ _ h⟩
  | non =>
    cases z with
    | non => exact ⟨py_dp _ _ rfl h, py_can _ _ h⟩
    | cel n => rw [dr_cel] at e; cases q : st[n]? with
      | none => rw [q] at e; cases e
      | some c => rw [q] at e; cases c <;> cases e
    | _ => cases e
  | bl b =>
    cases z with
    | bl b => cases e; exact ⟨py_dp _ _ rfl h, py_can _ _ h⟩
    | cel n => rw [dr_cel] at e; cases q : st[n]? with
      | none => rw [q] at e; cases e
      | some c => rw [q] at e; cases c <;> cases e
    | _ => cases e
  | dic _ _ => rw [e] at p; cases p
  | ins _ _ _ => rw [e] at p; cases p
  | scr _ => rw [e] at p; cases p
  | cel _ => rw [e] at p; cases p
theorem zeqB_ok (w : Wd K ρ st H) {x y : Z} {v u : V} (h : Rep K ρ H x v) (g : Rep K ρ H y u) {b : Bool} (e : zeqB st x y = some b) :
    ∃ d d', Dp K H v d ∧ Dp K H u d' ∧ SeqAt.shaped d = true ∧ SeqAt.shaped d' = true ∧ PyData.eqv d d' = b := by
  unfold zeqB at e
  split at e
  · rename_i c
    rw [Bool.and_eq_true, Bool.and_eq_true, Bool.and_eq_true, decide_eq_true_eq, decide_eq_true_eq] at c
    obtain ⟨⟨⟨p1, p2⟩, d1⟩, d2⟩ := c
    obtain ⟨a1, a2⟩ := dr_dp w h p1
    obtain ⟨b1, b2⟩ := dr_dp w g p2
    refine ⟨_, _, a1, b1, ?_, ?_, ?_⟩
    · unfold SeqAt.shaped
      rw [a2, Bool.true_and, decide_eq_true_eq]
      have := py_depth (dr st x)
      omega
    · unfold SeqAt.shaped
      rw [b2, Bool.true_and, decide_eq_true_eq]
      have := py_depth (dr st y)
      omega
    · rw [eqv_py _ _ p1 p2]
      exact Option.some.inj e
  · cases e
end
/-! ### comparisons -/
def vCmp (K : PySem.W.Frag) (o : COp) : R2 := match o with
  | .eq => rEqD K
  | .ne => rNeD K
  | .isn => fun x y H Q => y = .non ∧ Q (.bl (decide (x = .non))) H
  | .notn => fun x y H Q => y = .non ∧ Q (.bl (!decide (x = .non))) H
  | .lt => fun x y H Q => (rI0 fun i j => .bl (decide (i < j))) x y H Q ∨ ∃ i j, x = .str i ∧ y = .str j ∧ Q (.bl (decide (i.cps.toList < j.cps.toList))) H
  | .le => rI0 fun i j => .bl (decide (i ≤ j))
  | .gt => rI0 fun i j => .bl (decide (j < i))
  | .ge => rI0 fun i j => .bl (decide (j ≤ i))
  | .isin => fun x y H Q => rIn K false x y H Q ∨ rInD K x y H Q ∨ ∃ (c : Nat) (z : Str), x = .str ⟨#[c]⟩ ∧ y = .str z ∧ Q (.bl (decide (c ∈ z.cps.toList))) H
  | .notin => fun x y H Q => rIn K true x y H Q ∨ rNotInD K x y H Q
def copOf : COp → CmpOp
  | .eq => .Eq | .ne => .NotEq | .lt => .Lt | .le => .LtE | .gt => .Gt | .ge => .GtE | .isin => .In | .notin => .NotIn | .isn => .Is | .notn => .IsNot
theorem vCmp_op {X : Cx} (hu : X.A.units + 65 < cLine) (o : COp) : OpR X (compareOp (copOf o)) (vCmp X.K o) := by
  cases o with
  | eq => exact op_eqD (by omega)
  | ne => exact op_neD (by omega)
  | lt => exact opr_or op_lt op_lt_str
  | le => exact op_le
  | gt => exact op_gt
  | ge => exact op_ge
  | isin => exact opr_or op_in_seq (opr_or (op_inD hu) op_in_sign)
  | notin => exact opr_or op_notIn_seq (op_notInD hu)
  | isn => exact op_isN
  | notn => exact op_notN
theorem lexs_ok : ∀ (a b : List Nat), lexs a b = decide (a < b)
  | _, [] => by simp [lexs]
  | [], _ :: _ => by simp [lexs]
  | x :: xs, y :: ys => by
    unfold lexs
    rw [lexs_ok xs ys, Bool.eq_iff_iff]
    simp only [Bool.or_eq_true, decide_eq_true_eq, Bool.and_eq_true, List.cons_lt_cons_iff]
theorem rep_is_non {K : PySem.W.Frag} {ρ : Ro} {H : Hp} {z : Z} {v : V} {b : Bool} (h : Rep K ρ H z v) (e : z.nonQ = some b) : (decide (v = .non)) = b := by
  cases z with
  | non => cases e; rw [rep_non.mp h]; rfl
  | bl c => cases e; rw [rep_bl.mp h]; rfl
  | int c => cases e; rw [rep_int.mp h]; rfl
  | str c => cases e; rw [(rep_str.mp h).1]; rfl
  | lst c => cases e; obtain ⟨a, _, rfl, _⟩ := rep_lst.mp h; rfl
  | tup c => cases e; obtain ⟨a, _, rfl, _⟩ := rep_tup.mp h; rfl
  | dic _ _ => unfold Rep at h; exact h.elim
  | ins _ _ _ => cases e; obtain ⟨a, _, _, rfl, _⟩ := rep_ins.mp h; rfl
  | scr c => cases e; obtain ⟨a, rfl, _⟩ := rep_scr.mp h; rfl
  | cel n => cases e
theorem flat_rep {K : PySem.W.Frag} {ρ : Ro} {H : Hp} {z : Z} {v : V} (h : Rep K ρ H z v) (e : z.flat = true) : flatV v = true := by
  cases z with
  | non => rw [rep_non.mp h]; rfl
  | bl c => rw [rep_bl.mp h]; rfl
  | int c => rw [rep_int.mp h]; rfl
  | str c => rw [(rep_str.mp h).1]; rfl
  | _ => cases e
theorem flat_eq {K : PySem.W.Frag} {ρ : Ro} {H : Hp} {z y : Z} {v u : V} (h : Rep K ρ H z v) (e : z.flat = true) (h2 : Rep K ρ H y u) (e2 : y.flat = true) : eqV v u = zeqv z y := by
  cases z <;> first | cases e | skip
  all_goals cases y <;> first | cases e2 | skip
  all_goals first | (rw [rep_non.mp h]) | (rw [rep_bl.mp h]) | (rw [rep_int.mp h]) | (rw [(rep_str.mp h).1])
  all_goals first | (rw [rep_non.mp h2]) | (rw [rep_bl.mp h2]) | (rw [rep_int.mp h2]) | (rw [(rep_str.mp h2).1])
  all_goals simp [eqV, zeqv]
  all_goals first | done | (rw [Bool.eq_iff_iff]; simp) | skip
theorem flat_all {K : PySem.W.Frag} {ρ : Ro} {H : Hp} {x : Z} {v : V} (h : Rep K ρ H x v) (e : x.flat = true) : ∀ {ys : List Z} {vs : List V}, RepL K ρ H ys vs → ys.all Z.flat = true → vs.all flatV = true ∧ inV v vs = ys.any fun u => zeqv u x
  | [], vs, r, _ => by rw [repL_nil.mp r]; exact ⟨rfl, rfl⟩
  | y :: ys, vs, r, f => by
    obtain ⟨u, us, rfl, r1, r2⟩ := repL_cons.mp r
    rw [List.all_cons] at f
    obtain ⟨f1, f2⟩ := Bool.and_eq_true_iff.mp f
    obtain ⟨k1, k2⟩ := flat_all h e r2 f2
    refine ⟨by rw [List.all_cons, flat_rep r1 f1, k1]; rfl, ?_⟩
    unfold inV at k2 ⊢
    rw [List.any_cons, List.any_cons, k2, flat_eq r1 f1 h e]
theorem any_py : ∀ (x : Z) (ys : List Z), x.pd = true → pdL ys = true → ((toPyL ys).any fun z => PyData.eqv z (toPy x)) = ys.any fun u => zeqv u x
  | x, [], _, _ => by unfold toPyL; rfl
  | x, y :: ys, h, g => by
    unfold pdL at g
    obtain ⟨g1, g2⟩ := Bool.and_eq_true_iff.mp g
    unfold toPyL
    rw [List.any_cons, List.any_cons, any_py x ys h g2, eqv_py y x g1 h]
/-- x in y, by values -/
theorem zin_ok {K : PySem.W.Frag} {ρ : Ro} {H : Hp} {st : Sto} {x y : V} {zx zy : Z} {b : Bool} (w : Wd K ρ st H) (hx : Rep K ρ H zx x) (hy : Rep K ρ H zy y) (e : zin st zx zy = some b) :
    (∃ p xs, y = .ref p ∧ (SqL K H p xs ∨ SqT K H p xs) ∧ flatV x = true ∧ xs.all flatV = true ∧ inV x xs = b) ∨ (∃ d ds, Dp K H x d ∧ Dp K H y (.list ds) ∧ SeqAt.shaped d = true ∧ SeqAt.shaped (.list ds) = true ∧ (ds.any fun z => PyData.eqv z d) = b) := by
  unfold zin at e
  split at e
  · rename_i ys hs
    split at e
    · rename_i hc
      obtain ⟨c1, c2⟩ := Bool.and_eq_true_iff.mp hc
      injection e with e
      unfold seqv at hs
      split at hs
      · rename_i xs hd
        injection hs with hs; subst hs
        obtain ⟨a, vs, rfl, h1, _, h4⟩ := dr_lst_at w hy hd
        obtain ⟨k1, k2⟩ := flat_all hx c1 h4 c2
        exact .inl ⟨a, vs, rfl, .inl h1, flat_rep hx c1, k1, by rw [k2, e]⟩
      · rename_i xs hd
        injection hs with hs; subst hs
        obtain ⟨a, vs, rfl, h1, _, h4, _⟩ := dr_tup_at w hy hd
        obtain ⟨k1, k2⟩ := flat_all hx c1 h4 c2
        exact .inl ⟨a, vs, rfl, .inr h1, flat_rep hx c1, k1, by rw [k2, e]⟩
      · cases hs
    · split at e
      · rename_i hc
        simp only [Bool.and_eq_true, decide_eq_true_eq] at hc
        obtain ⟨⟨⟨⟨c0, c1⟩, c2⟩, c3⟩, c4⟩ := hc
        injection e with e
        have e0 : zeqB st zx zy = some (zeqv (dr st zx) (dr st zy)) := by unfold zeqB; simp [c1, c2, c3, c4]
        obtain ⟨d, d', h1, h2, h3, h4, _⟩ := zeqB_ok w hx hy e0
        have hdx := (dr_dp w hx c1).1
        have hdy := (dr_dp w hy c2).1
        unfold seqv at hs
        split at hs
        · rename_i xs hd
          injection hs with hs; subst hs
          rw [hd] at hdy c2 c4
          have hsx : SeqAt.shaped (toPy (dr st zx)) = true := by
            unfold SeqAt.shaped
            rw [(dr_dp w hx c1).2, Bool.true_and, decide_eq_true_eq]
            have := py_depth (dr st zx)
            omega
          have hsy : SeqAt.shaped (toPy (.lst xs)) = true := by
            have k := (dr_dp w hy (by rw [hd]; exact c2)).2
            rw [hd] at k
            unfold SeqAt.shaped
            rw [k, Bool.true_and, decide_eq_true_eq]
            have := py_depth (.lst xs)
            omega
          exact .inr ⟨toPy (dr st zx), toPyL xs, hdx, by unfold toPy at hdy; exact hdy, hsx, by unfold toPy at hsy; exact hsy, by rw [any_py _ _ c1 (by unfold Z.pd at c2; exact c2), e]⟩
        · rename_i xs hd
          rw [hd] at c0; cases c0
        · cases hs
      · cases e
  · cases e
/-- a comparison's answer -/
def VB2 (K : PySem.W.Frag) (f : Sto → Z → Z → Option Bool) (r : R2) : Prop :=
  ∀ (ρ : Ro) (H : Hp) (st : Sto) (x y : V) (zx zy : Z) (b : Bool) (Q : VK), Wd K ρ st H → Rep K ρ H zx x → Rep K ρ H zy y → f st zx zy = some b → Q (.bl b) H → r x y H Q
theorem vCmp_ok {K : PySem.W.Frag} (o : COp) : VB2 K (zcmp o) (vCmp K o) := by
  intro ρ H st x y zx zy b Q w hx hy e q
  cases o with
  | eq =>
    obtain ⟨d, d', h1, h2, h3, h4, h5⟩ := zeqB_ok w hx hy e
    exact ⟨d, d', h1, h2, h3, h4, by rw [h5]; exact q⟩
  | ne =>
    have e : (zeqB st zx zy).map (!·) = some b := e
    cases h : zeqB st zx zy with
    | none => rw [h] at e; cases e
    | some c =>
      rw [h] at e
      have e : (!c) = b := Option.some.inj e
      obtain ⟨d, d', h1, h2, h3, h4, h5⟩ := zeqB_ok w hx hy h
      exact ⟨d, d', h1, h2, h3, h4, by rw [h5, e]; exact q⟩
  | isn =>
    unfold zcmp at e
    simp only at e
    split at e
    · exact ⟨rep_non.mp hy, by rw [rep_is_non hx e]; exact q⟩
    · cases e
  | notn =>
    unfold zcmp at e
    simp only at e
    split at e
    · cases h : zx.nonQ with
      | none => rw [h] at e; cases e
      | some c =>
        rw [h] at e
        have e : (!c) = b := Option.some.inj e
        exact ⟨rep_non.mp hy, by rw [rep_is_non hx h, e]; exact q⟩
    · cases e
  | lt =>
    unfold zcmp at e
    simp only at e
    split at e
    · rw [rep_int.mp hx, rep_int.mp hy]
      exact .inl ⟨_, _, rfl, rfl, by cases e; exact q⟩
    · rw [(rep_str.mp hx).1, (rep_str.mp hy).1]
      exact .inr ⟨_, _, rfl, rfl, by cases e; rw [← lexs_ok]; exact q⟩
    · cases e
  | le =>
    unfold zcmp at e
    simp only at e
    split at e
    · rw [rep_int.mp hx, rep_int.mp hy]
      exact ⟨_, _, rfl, rfl, by cases e; exact q⟩
    · cases e
  | gt =>
    unfold zcmp at e
    simp only at e
    split at e
    · rw [rep_int.mp hx, rep_int.mp hy]
      exact ⟨_, _, rfl, rfl, by cases e; exact q⟩
    · cases e
  | ge =>
    unfold zcmp at e
    simp only at e
    split at e
    · rw [rep_int.mp hx, rep_int.mp hy]
      exact ⟨_, _, rfl, rfl, by cases e; exact q⟩
    · cases e
  | isin =>
    have e : (match zin st zx zy with
      | some b => some b
      | none => zinS zx zy) = some b := e
    cases h : zin st zx zy with
    | some c =>
      rw [h] at e
      have e : c = b := by simpa using e
      subst e
      rcases zin_ok w hx hy h with ⟨p, xs, h1, h2, h3, h4, h5⟩ | ⟨d, ds, h1, h2, h3, h4, h5⟩
      · exact .inl ⟨p, xs, h1, h2, h3, h4, by rw [if_neg (by decide), h5]; exact q⟩
      · exact .inr (.inl ⟨d, ds, h1, h2, h3, h4, by rw [h5]; exact q⟩)
    | none =>
      rw [h] at e
      have e : zinS zx zy = some b := e
      unfold zinS at e
      split at e
      · obtain ⟨rfl, _⟩ := rep_str.mp hx
        obtain ⟨rfl, _⟩ := rep_str.mp hy
        injection e with e
        exact .inr (.inr ⟨_, _, rfl, rfl, by simpa [e] using q⟩)
      · cases e
  | notin =>
    have e : (zin st zx zy).map (!·) = some b := e
    cases h : zin st zx zy with
    | some c =>
      rw [h] at e
      have e : (!c) = b := by simpa using e
      subst e
      rcases zin_ok w hx hy h with ⟨p, xs, h1, h2, h3, h4, h5⟩ | ⟨d, ds, h1, h2, h3, h4, h5⟩
      · exact .inl ⟨p, xs, h1, h2, h3, h4, by rw [if_pos rfl, h5]; exact q⟩
      · exact .inr ⟨d, ds, h1, h2, h3, h4, by rw [h5]; exact q⟩
    | none => rw [h] at e; cases e
end ZZ

end
section
set_option maxHeartbeats 2000000
/-! ZBf: what a run must give; indices, slices, built-in functions. -/
namespace ZZ
open PySem PySem.Spec PyProof.Rows L2
/-- the run r, begun at (ρ, H, st), ends well: whatever has become of the heap, P holds of what is told -/
def RSat {α : Type} (K : PySem.W.Frag) (b : Nat) (ρ : Ro) (H : Hp) (st : Sto) (r : R α) (P : α → Sto → Ro → Hp → Prop) : Prop := match r with
  | .ok a st' => ∀ ρ' H', Evo ρ H ρ' H' → Sub b st st' → Wd K ρ' st' H' → P a st' ρ' H'
  | .exn _ _ _ => False
  | .no => False
section
variable {α β : Type} {K : PySem.W.Frag} {b : Nat} {ρ : Ro} {H : Hp} {st : Sto}
theorem RSat.bind {r : R α} {f : α → Sto → R β} {P : β → Sto → Ro → Hp → Prop} (h : RSat K b ρ H st (r.bind f) P) :
    RSat K b ρ H st r (fun a st1 ρ1 H1 => RSat K b ρ1 H1 st1 (f a st1) P) := by
  cases r with
  | ok a st1 =>
    intro ρ1 H1 e1 s1 w1
    have h : RSat K b ρ H st (f a st1) P := h
    cases g : f a st1 with
    | ok y st2 =>
      rw [g] at h
      intro ρ2 H2 e2 s2 w2
      exact h ρ2 H2 (e1.trans e2) (s1.trans s2) w2
    | exn _ _ _ => rw [g] at h; exact h.elim
    | no => rw [g] at h; exact h.elim
  | exn _ _ _ => exact h.elim
  | no => exact h.elim
theorem RSat.mono {r : R α} {P P' : α → Sto → Ro → Hp → Prop} (h : RSat K b ρ H st r P) (k : ∀ a st' ρ' H', Evo ρ H ρ' H' → Sub b st st' → Wd K ρ' st' H' → P a st' ρ' H' → P' a st' ρ' H') : RSat K b ρ H st r P' := by
  cases r with
  | ok a st1 => exact fun ρ' H' e s w => k a st1 ρ' H' e s w (h ρ' H' e s w)
  | exn _ _ _ => exact h.elim
  | no => exact h.elim
theorem RSat.ofO_inv {o : Option α} {P : α → Sto → Ro → Hp → Prop} (w : Wd K ρ st H) (h : RSat K b ρ H st (ofO o st) P) : ∃ a, o = some a ∧ P a st ρ H := by
  cases o with
  | none => exact h.elim
  | some a => exact ⟨a, rfl, h ρ H .refl .refl w⟩
theorem RSat.ok_inv {a : α} {P : α → Sto → Ro → Hp → Prop} (w : Wd K ρ st H) (h : RSat K b ρ H st (.ok a st) P) : P a st ρ H := h ρ H .refl .refl w
end
abbrev PK (K : PySem.W.Frag) (Q : VK) : Z → Sto → Ro → Hp → Prop := fun z _ ρ' H' => ∀ v, Rep K ρ' H' z v → Q v H'
section
variable {K : PySem.W.Frag} {b : Nat} {ρ : Ro} {H : Hp} {st : Sto}
/-- a new list: a tree or a cell -/
theorem new_k {k : Bool} {zs : List Z} {vs : List V} {Q : VK} (w : Wd K ρ st H) (r : RepL K ρ H zs vs) (l : zs.length ≤ sizeL) (q : RSat K b ρ H st (mkL k zs st) (PK K Q)) :
    ∀ p, H p = none → Q (.ref p) (upd H p (.lst vs)) := by
  intro p hp
  cases k with
  | false => exact q ρ _ (evo_new hp) .refl (w.new hp) _ (rep_lst.mpr ⟨p, vs, rfl, upd_same, w.notin hp, l, RepL.evo (evo_new hp) _ _ r⟩)
  | true =>
    have e := evo_cell (ρ := ρ) (o := .lst vs) hp
    refine q (ρ.add p) _ e sub_app (w.cell hp ⟨p, vs, rfl, upd_same, l, RepL.evo e _ _ r⟩) _ (rep_cel.mpr ⟨by rw [← w.len]; simp [Ro.add], fun a h => ?_⟩)
    rw [← w.len] at h
    have h' : some (some p) = some (some a) := by simpa [Ro.add] using h
    cases h'
    rfl
theorem asK_lst {k : Bool} {zs : List Z} : asK k (.lst zs) st = mkL k zs st := by cases k <;> rfl
theorem asK_other {k : Bool} {z : Z} {P : Z → Sto → Ro → Hp → Prop} (h : ∀ zs, z ≠ .lst zs) (q : RSat K b ρ H st (asK k z st) P) : RSat K b ρ H st (.ok z st) P := by
  cases k with
  | false => exact q
  | true =>
    cases z with
    | lst zs => exact absurd rfl (h zs)
    | _ => exact q.elim
/-! ### indices -/
theorem atI_rep {zs : List Z} {vs : List V} {i : Int} {z : Z} (r : RepL K ρ H zs vs) (e : L2.atI zs i = some z) : ∃ v, L2.atI vs i = some v ∧ Rep K ρ H z v := by
  unfold L2.atI at e ⊢
  rw [r.length]
  cases h : L2.ixN zs.length i with
  | none => rw [h] at e; cases e
  | some j =>
    rw [h] at e
    exact r.get (i := j) e
theorem zix_ok {x y : V} {zx zy z : Z} {Q : VK} (w : Wd K ρ st H) (hx : Rep K ρ H zx x) (hy : Rep K ρ H zy y) (e : zix st zx zy = some z) (q : ∀ v, Rep K ρ H z v → Q v H) : rIx K x y H Q := by
  unfold zix at e
  split at e
  · rename_i xs i h
    obtain ⟨a, vs, rfl, h1, _, h4⟩ := dr_lst_at w hx h
    obtain ⟨v, e1, e2⟩ := atI_rep h4 e
    exact .inl ⟨a, vs, _, v, rfl, rep_int.mp hy, h1, e1, q v e2⟩
  · rename_i xs i h
    obtain ⟨a, vs, rfl, h1, _, h4, _⟩ := dr_tup_at w hx h
    obtain ⟨v, e1, e2⟩ := atI_rep h4 e
    exact .inr (.inl ⟨a, vs, _, v, rfl, rep_int.mp hy, h1, e1, q v e2⟩)
  · rename_i xs i h
    have := dr_str_at h
    subst this
    obtain ⟨rfl, l, g⟩ := rep_str.mp hx
    cases hc : L2.atI xs i with
    | none => rw [hc] at e; cases e
    | some c =>
      rw [hc] at e
      cases e
      refine .inr (.inr ⟨_, _, c, rfl, rep_int.mp hy, by rw [str_len, sizeL_eq]; exact l, by simpa using hc, q _ (rep_str.mpr ⟨rfl, by simp [sizeL], fun d hd => ?_⟩)⟩)
      have hd : d = c := by simpa using hd
      subst hd
      refine g d ?_
      unfold L2.atI at hc
      cases h : L2.ixN xs.length i with
      | none => rw [h] at hc; cases hc
      | some j => rw [h] at hc; exact List.mem_of_getElem? hc
  · cases e
/-! ### slices -/
theorem cut_rep {zs : List Z} {vs : List V} {lo hi : Option Int} (r : RepL K ρ H zs vs) : RepL K ρ H (cut zs lo hi) (cutV vs lo hi) := by
  unfold cut cutV
  rw [r.length]
  exact (r.drop _).take _
theorem cut_len {α : Type} (xs : List α) (lo hi : Option Int) : (cut xs lo hi).length ≤ xs.length := by
  unfold cut
  rw [List.length_take, List.length_drop]
  omega
theorem cut_whole {α : Type} {xs : List α} {lo hi : Option Int} (h : HT.sIx xs.length 0 lo = 0 ∧ HT.sIx xs.length xs.length hi = xs.length) : cut xs lo hi = xs := by
  unfold cut
  rw [h.1, h.2]
  simp
theorem mem_cut {α : Type} {xs : List α} {lo hi : Option Int} {c : α} (h : c ∈ cut xs lo hi) : c ∈ xs := List.mem_of_mem_drop (List.mem_of_mem_take h)
def vSl (K : PySem.W.Frag) : V → Option Int → Option Int → Hp → VK → Prop := fun x lo hi H Q => rSlL K x lo hi H Q ∨ rSlA K x lo hi H Q ∨ rSlS x lo hi H Q
theorem vSl_op {X : Cx} : SlR X (vSl X.K) := sl_list.or (sl_tupA.or sl_str)
theorem zsl_ok {k : Bool} {x : V} {zx z : Z} {lo hi : Option Int} {Q : VK} (w : Wd K ρ st H) (hx : Rep K ρ H zx x) (e : zsl st zx lo hi = some z) (q : RSat K b ρ H st (asK k z st) (PK K Q)) : vSl K x lo hi H Q := by
  unfold zsl at e
  split at e
  · rename_i xs h
    cases e
    obtain ⟨a, vs, rfl, h1, l, h4⟩ := dr_lst_at w hx h
    rw [asK_lst] at q
    exact .inl ⟨a, vs, rfl, h1, new_k w (cut_rep h4) (Nat.le_trans (cut_len _ _ _) l) q⟩
  · rename_i xs h
    cases e
    obtain ⟨a, vs, rfl, h1, l, h4, hz⟩ := dr_tup_at w hx h
    have q := asK_other (fun _ hh => by cases hh) q
    refine .inr (.inl ⟨a, vs, rfl, h1, fun hw => ?_, fun _ => new_tup (zs := cut xs lo hi) w (cut_rep h4) (Nat.le_trans (cut_len _ _ _) l) fun ρ' H' v e' w' r' => q ρ' H' e' .refl w' v r'⟩)
    rw [h4.length] at hw
    rw [cut_whole hw] at q
    exact q ρ H .refl .refl w _ (by rw [← hz]; exact hx)
  · rename_i xs h
    cases e
    have := dr_str_at h
    subst this
    obtain ⟨rfl, l, g⟩ := rep_str.mp hx
    have q := asK_other (fun _ hh => by cases hh) q
    refine .inr (.inr ⟨_, rfl, by rw [str_len, sizeL_eq]; exact l, q ρ H .refl .refl w _ (rep_str.mpr ⟨?_, Nat.le_trans (cut_len _ _ _) l, fun c hc => g c (mem_cut hc)⟩)⟩)
    unfold cutS cut
    rw [str_len]
  · cases e
/-! ### built-in functions -/
def vBf (K : PySem.W.Frag) (f : BF) : List V → Hp → VK → Prop := match f with
  | .len => fun xs H Q => (∃ p ys, xs = [.ref p] ∧ (SqL K H p ys ∨ SqT K H p ys) ∧ Q (.int ys.length) H) ∨ ∃ z, xs = [.str z] ∧ z.length ≤ sizeLine ∧ Q (.int z.length) H
  | .abs => fun xs H Q => ∃ i, xs = [.int i] ∧ Q (.int (if i < 0 then -i else i)) H
  | .max2 => fun xs H Q => ∃ i j, xs = [.int i, .int j] ∧ Q (.int (if j > i then j else i)) H
  | .min2 => fun xs H Q => ∃ i j, xs = [.int i, .int j] ∧ Q (.int (if j < i then j else i)) H
  | .toInt => fun xs H Q => (∃ i, xs = [.int i] ∧ Q (.int i) H) ∨ ∃ k, xs = [.bl k] ∧ Q (.int (if k then 1 else 0)) H
  | .sum => rSum K
  | .maxL => rMax K
  | .minL => rMin K
  | .list => fun xs H Q => ∃ p ys, xs = [.ref p] ∧ (SqL K H p ys ∨ SqT K H p ys) ∧ ∀ l, H l = none → Q (.ref l) (upd H l (.lst ys))
  | .tuple => fun xs H Q => ∃ p ys, xs = [.ref p] ∧ ((SqL K H p ys ∧ ∀ l, H l = none → Q (.ref l) (upd H l (.tup ys))) ∨ (SqT K H p ys ∧ Q (.ref p) H))
  | .all => rAll K
  | .any => rAny K
  | .sorted => rSortedI K
def bfName : BF → String
  | .len => "len" | .abs => "abs" | .max2 => "max" | .min2 => "min" | .toInt => "int" | .sum => "sum" | .maxL => "max" | .minL => "min" | .list => "list" | .tuple => "tuple" | .all => "all" | .any => "any" | .sorted => "sorted"
def bfVal : BF → Value
  | .toInt => .type "int" | .list => .type "list" | .tuple => .type "tuple"
  | f => .builtin (bfName f)
theorem callR_or {X : Cx} {f : Value} {r r' : List V → Hp → VK → Prop} (h : CallR X f r) (h' : CallR X f r') : CallR X f (fun x H Q => r x H Q ∨ r' x H Q) := by
  intro pins s σ H xs us Q I rx q
  rcases q with q | q
  · exact h pins s σ H xs us Q I rx q
  · exact h' pins s σ H xs us Q I rx q
theorem vBf_op {X : Cx} (hc : X.calm = true) (f : BF) : CallR X (bfVal f) (vBf X.K f) := by
  cases f with
  | len => exact callR_or call_len_seq call_len_str
  | abs => exact call_abs
  | max2 => exact call_max2 hc
  | min2 => exact call_min2 hc
  | toInt => exact call_int1
  | sum => exact cr_sum hc
  | maxL => exact cr_max hc
  | minL => exact cr_min hc
  | list => exact call_list_of
  | tuple => exact call_tuple_of
  | all => exact cr_all hc
  | any => exact cr_any hc
  | sorted => exact cr_sortedI
theorem foldl_max_ge : ∀ (l : List Int) (i : Int), i ≤ l.foldl max i ∧ (∀ y ∈ l, y ≤ l.foldl max i) ∧ (l.foldl max i = i ∨ l.foldl max i ∈ l)
  | [], i => ⟨Int.le_refl _, (fun _ h => by cases h), .inl rfl⟩
  | a :: l, i => by
    obtain ⟨h1, h2, h3⟩ := foldl_max_ge l (max i a)
    rw [List.foldl_cons]
    refine ⟨by omega, fun y hy => ?_, ?_⟩
    · rcases List.mem_cons.mp hy with rfl | hy
      · omega
      · exact h2 y hy
    · rcases h3 with h3 | h3
      · by_cases c : i ≤ a
        · exact .inr (by rw [h3]; rw [Int.max_eq_right c]; exact List.mem_cons_self)
        · exact .inl (by rw [h3]; omega)
      · exact .inr (List.mem_cons_of_mem _ h3)
theorem foldl_min_le : ∀ (l : List Int) (i : Int), l.foldl min i ≤ i ∧ (∀ y ∈ l, l.foldl min i ≤ y) ∧ (l.foldl min i = i ∨ l.foldl min i ∈ l)
  | [], i => ⟨Int.le_refl _, (fun _ h => by cases h), .inl rfl⟩
  | a :: l, i => by
    obtain ⟨h1, h2, h3⟩ := foldl_min_le l (min i a)
    rw [List.foldl_cons]
    refine ⟨by omega, fun y hy => ?_, ?_⟩
    · rcases List.mem_cons.mp hy with rfl | hy
      · omega
      · exact h2 y hy
    · rcases h3 with h3 | h3
      · by_cases c : a ≤ i
        · exact .inr (by rw [h3]; rw [Int.min_eq_right c]; exact List.mem_cons_self)
        · exact .inl (by rw [h3]; omega)
      · exact .inr (List.mem_cons_of_mem _ h3)
theorem maxI_eq {ns : List Int} {m : Int} (e : maxI ns = some m) : 0 < ns.length ∧ ∀ x, x ∈ ns → (∀ y, y ∈ ns → y ≤ x) → x = m := by
  cases ns with
  | nil => cases e
  | cons i r =>
    cases e
    obtain ⟨h1, h2, h3⟩ := foldl_max_ge r i
    refine ⟨by simp, fun x hx hm => ?_⟩
    have a1 : r.foldl max i ≤ x := by
      rcases h3 with h3 | h3
      · rw [h3]; exact hm i List.mem_cons_self
      · exact hm _ (List.mem_cons_of_mem _ h3)
    have a2 : x ≤ r.foldl max i := by
      rcases List.mem_cons.mp hx with rfl | hx
      · exact h1
      · exact h2 x hx
    omega
theorem minI_eq {ns : List Int} {m : Int} (e : minI ns = some m) : 0 < ns.length ∧ ∀ x, x ∈ ns → (∀ y, y ∈ ns → x ≤ y) → x = m := by
  cases ns with
  | nil => cases e
  | cons i r =>
    cases e
    obtain ⟨h1, h2, h3⟩ := foldl_min_le r i
    refine ⟨by simp, fun x hx hm => ?_⟩
    have a1 : x ≤ r.foldl min i := by
      rcases h3 with h3 | h3
      · rw [h3]; exact hm i List.mem_cons_self
      · exact hm _ (List.mem_cons_of_mem _ h3)
    have a2 : r.foldl min i ≤ x := by
      rcases List.mem_cons.mp hx with rfl | hx
      · exact h1
      · exact h2 x hx
    omega
theorem sortI_perm (ns : List Int) : (sortI ns).Perm ns := List.mergeSort_perm ns _
theorem sortI_sorted (ns : List Int) : (sortI ns).Pairwise (· ≤ ·) := (List.pairwise_mergeSort (le := fun a b : Int => decide (a ≤ b)) (fun a b c h g => by simp at *; omega) (fun a b => by simp; omega) ns).imp fun h => of_decide_eq_true h
theorem sort_unique {ns' ns : List Int} (h : ns'.Perm ns) (s : ns'.Pairwise (· ≤ ·)) : ns' = sortI ns := List.Perm.eq_of_pairwise (le := (· ≤ ·)) (fun a b _ _ h g => Int.le_antisymm h g) s (sortI_sorted ns) (h.trans (sortI_perm ns).symm)
theorem dr_lst_ints (w : Wd K ρ st H) {z : Z} {v : V} {zs : List Z} {ns : List Int} (h : Rep K ρ H z v) (e : dr st z = .lst zs) (i : zints zs = some ns) : ∃ a, v = .ref a ∧ SqL K H a (ns.map V.int) := by
  obtain ⟨a, vs, rfl, h1, _, h4⟩ := dr_lst_at w h e
  rw [repL_ints_inv i h4] at h1
  exact ⟨a, rfl, h1⟩
theorem dr_lst_bools (w : Wd K ρ st H) {z : Z} {v : V} {zs : List Z} {ns : List Bool} (h : Rep K ρ H z v) (e : dr st z = .lst zs) (i : zbools zs = some ns) : ∃ a, v = .ref a ∧ SqL K H a (ns.map V.bl) := by
  obtain ⟨a, vs, rfl, h1, _, h4⟩ := dr_lst_at w h e
  rw [repL_bools_inv i h4] at h1
  exact ⟨a, rfl, h1⟩
theorem repL_one {z : Z} {vs : List V} (h : RepL K ρ H [z] vs) : ∃ v, vs = [v] ∧ Rep K ρ H z v := by
  obtain ⟨v, r, rfl, h1, h2⟩ := repL_cons.mp h
  rw [repL_nil] at h2; subst h2
  exact ⟨v, rfl, h1⟩
theorem repL_two {z y : Z} {vs : List V} (h : RepL K ρ H [z, y] vs) : ∃ v u, vs = [v, u] ∧ Rep K ρ H z v ∧ Rep K ρ H y u := by
  obtain ⟨v, r, rfl, h1, h2⟩ := repL_cons.mp h
  obtain ⟨u, rfl, h3⟩ := repL_one h2
  exact ⟨v, u, rfl, h1, h3⟩
theorem zlst_inv {f : List Z → Option Z} {x z : Z} (e : zlst f x = some z) : ∃ xs, x = .lst xs ∧ f xs = some z := by
  cases x with
  | lst xs => exact ⟨xs, rfl, e⟩
  | _ => cases e
theorem seqv_at {x : Z} {v : V} {zs : List Z} (w : Wd K ρ st H) (hv : Rep K ρ H x v) (e : seqv st x = some zs) : ∃ a vs, v = .ref a ∧ (SqL K H a vs ∨ (SqT K H a vs ∧ x = .tup zs)) ∧ zs.length ≤ sizeL ∧ RepL K ρ H zs vs := by
  unfold seqv at e
  split at e
  · rename_i xs hd
    cases e
    obtain ⟨a, vs, rfl, h1, h2, h4⟩ := dr_lst_at w hv hd
    exact ⟨a, vs, rfl, .inl h1, h2, h4⟩
  · rename_i xs hd
    cases e
    obtain ⟨a, vs, rfl, h1, h2, h4, h5⟩ := dr_tup_at w hv hd
    exact ⟨a, vs, rfl, .inr ⟨h1, h5⟩, h2, h4⟩
  · cases e
theorem zbf1_ok {k : Bool} {f : BF} {v : V} {x z : Z} {Q : VK} (w : Wd K ρ st H) (hv : Rep K ρ H x v) (e : zbf1 f st x = some z) (q : RSat K b ρ H st (asK k z st) (PK K Q)) : vBf K f [v] H Q := by
  have one : (∀ zs, z ≠ .lst zs) → ∀ v, Rep K ρ H z v → Q v H := fun hz v hv => asK_other hz q ρ H .refl .refl w v hv
  cases f with
  | len =>
    have e : zlen (dr st x) = some z := e
    cases hd : dr st x with
    | lst xs =>
      rw [hd] at e
      cases e
      obtain ⟨a, us, rfl, h1, _, h4⟩ := dr_lst_at w hv hd
      exact .inl ⟨a, us, rfl, .inl h1, one (fun _ hh => by cases hh) _ (rep_int.mpr (by rw [h4.length]))⟩
    | tup xs =>
      rw [hd] at e
      cases e
      obtain ⟨a, us, rfl, h1, _, h4, _⟩ := dr_tup_at w hv hd
      exact .inl ⟨a, us, rfl, .inr h1, one (fun _ hh => by cases hh) _ (rep_int.mpr (by rw [h4.length]))⟩
    | str xs =>
      rw [hd] at e
      cases e
      have := dr_str_at hd
      subst this
      obtain ⟨rfl, l, _⟩ := rep_str.mp hv
      exact .inr ⟨_, rfl, by rw [str_len, sizeL_eq]; exact l, one (fun _ hh => by cases hh) _ (rep_int.mpr (by rw [str_len]))⟩
    | _ => rw [hd] at e; cases e
  | abs =>
    cases x with
    | int i => cases e; exact ⟨_, by rw [rep_int.mp hv], one (fun _ hh => by cases hh) _ (rep_int.mpr rfl)⟩
    | _ => cases e
  | toInt =>
    cases x with
    | int i => cases e; exact .inl ⟨_, by rw [rep_int.mp hv], one (fun _ hh => by cases hh) _ (rep_int.mpr rfl)⟩
    | bl i => cases e; exact .inr ⟨_, by rw [rep_bl.mp hv], one (fun _ hh => by cases hh) _ (rep_int.mpr rfl)⟩
    | _ => cases e
  | sum =>
    obtain ⟨xs, hd, e⟩ := zlst_inv e
    cases hi : zints xs with
    | none => rw [hi] at e; cases e
    | some ns =>
      rw [hi] at e
      cases e
      obtain ⟨a, rfl, h1⟩ := dr_lst_ints w hv hd hi
      exact ⟨a, ns, rfl, h1, one (fun _ hh => by cases hh) _ (rep_int.mpr rfl)⟩
  | maxL =>
    obtain ⟨xs, hd, e⟩ := zlst_inv e
    cases hi : zints xs with
    | none => rw [hi] at e; cases e
    | some ns =>
      rw [hi] at e
      cases hm : maxI ns with
      | none => simp only [Option.bind_some, hm, Option.map_none] at e; cases e
      | some m =>
        simp only [Option.bind_some, hm, Option.map_some, Option.some.injEq] at e
        subst e
        obtain ⟨a, rfl, h1⟩ := dr_lst_ints w hv hd hi
        obtain ⟨l, u⟩ := maxI_eq hm
        refine ⟨a, ns, rfl, h1, l, fun y hy hm => ?_⟩
        rw [u y hy hm]
        exact one (fun _ hh => by cases hh) _ (rep_int.mpr rfl)
  | minL =>
    obtain ⟨xs, hd, e⟩ := zlst_inv e
    cases hi : zints xs with
    | none => rw [hi] at e; cases e
    | some ns =>
      rw [hi] at e
      cases hm : minI ns with
      | none => simp only [Option.bind_some, hm, Option.map_none] at e; cases e
      | some m =>
        simp only [Option.bind_some, hm, Option.map_some, Option.some.injEq] at e
        subst e
        obtain ⟨a, rfl, h1⟩ := dr_lst_ints w hv hd hi
        obtain ⟨l, u⟩ := minI_eq hm
        refine ⟨a, ns, rfl, h1, l, fun y hy hm => ?_⟩
        rw [u y hy hm]
        exact one (fun _ hh => by cases hh) _ (rep_int.mpr rfl)
  | list =>
    have e : (seqv st x).map Z.lst = some z := e
    cases hs : seqv st x with
    | none => rw [hs] at e; cases e
    | some zs =>
      rw [hs] at e
      cases e
      obtain ⟨a, vs, rfl, h1, l, h4⟩ := seqv_at w hv hs
      rw [asK_lst] at q
      exact ⟨a, vs, rfl, h1.imp id And.left, new_k w h4 l q⟩
  | tuple =>
    have e : (seqv st x).map Z.tup = some z := e
    cases hs : seqv st x with
    | none => rw [hs] at e; cases e
    | some zs =>
      rw [hs] at e
      cases e
      obtain ⟨a, vs, rfl, h1, l, h4⟩ := seqv_at w hv hs
      have q := asK_other (fun _ hh => by cases hh) q
      refine ⟨a, vs, rfl, ?_⟩
      rcases h1 with h1 | ⟨h1, hx⟩
      · exact .inl ⟨h1, new_tup (zs := zs) w h4 l fun ρ' H' v e' w' r' => q ρ' H' e' .refl w' v r'⟩
      · exact .inr ⟨h1, q ρ H .refl .refl w _ (by rw [← hx]; exact hv)⟩
  | all =>
    obtain ⟨xs, hd, e⟩ := zlst_inv e
    cases hi : zbools xs with
    | none => rw [hi] at e; cases e
    | some ns =>
      rw [hi] at e
      cases e
      obtain ⟨a, rfl, h1⟩ := dr_lst_bools w hv hd hi
      exact ⟨a, ns, rfl, h1, one (fun _ hh => by cases hh) _ (rep_bl.mpr rfl)⟩
  | any =>
    obtain ⟨xs, hd, e⟩ := zlst_inv e
    cases hi : zbools xs with
    | none => rw [hi] at e; cases e
    | some ns =>
      rw [hi] at e
      cases e
      obtain ⟨a, rfl, h1⟩ := dr_lst_bools w hv hd hi
      exact ⟨a, ns, rfl, h1, one (fun _ hh => by cases hh) _ (rep_bl.mpr rfl)⟩
  | sorted =>
    obtain ⟨xs, hd, e⟩ := zlst_inv e
    cases hi : zints xs with
    | none => rw [hi] at e; cases e
    | some ns =>
      rw [hi] at e
      cases e
      obtain ⟨a, us, rfl, h1, l, h4⟩ := dr_lst_at w hv hd
      have hu := repL_ints_inv hi h4
      subst hu
      rw [asK_lst] at q
      refine ⟨a, ns, rfl, h1, fun ns' p hp hs hf => ?_⟩
      have e1 : ns' = sortI ns := sort_unique hp hs
      subst e1
      refine new_k w repL_ints ?_ q p hf
      rw [List.length_map, (sortI_perm ns).length_eq]
      have := h4.length
      rw [List.length_map] at this
      omega
  | max2 => cases e
  | min2 => cases e
theorem zbf_ok {k : Bool} {f : BF} {vs : List V} {zs : List Z} {z : Z} {Q : VK} (w : Wd K ρ st H) (h : RepL K ρ H zs vs) (e : zbf f st zs = some z) (q : RSat K b ρ H st (asK k z st) (PK K Q)) : vBf K f vs H Q := by
  match zs, e with
  | [x], e =>
    obtain ⟨v, rfl, hv⟩ := repL_one h
    exact zbf1_ok w hv e q
  | [x, y], e =>
    obtain ⟨v, u, rfl, hv, hu⟩ := repL_two h
    have e : zbf2 f x y = some z := e
    have one : (∀ zs, z ≠ .lst zs) → ∀ v, Rep K ρ H z v → Q v H := fun hz v hv => asK_other hz q ρ H .refl .refl w v hv
    cases f with
    | max2 =>
      cases x with
      | int i => cases y with
        | int j => cases e; exact ⟨_, _, by rw [rep_int.mp hv, rep_int.mp hu], one (fun _ hh => by cases hh) _ (rep_int.mpr rfl)⟩
        | _ => cases e
      | _ => cases e
    | min2 =>
      cases x with
      | int i => cases y with
        | int j => cases e; exact ⟨_, _, by rw [rep_int.mp hv, rep_int.mp hu], one (fun _ hh => by cases hh) _ (rep_int.mpr rfl)⟩
        | _ => cases e
      | _ => cases e
    | _ => cases e
  | [], e => cases e
  | _ :: _ :: _ :: _, e => cases e
end
end ZZ

end
section
set_option maxHeartbeats 4000000
/-! ZCut: cells that end with a function. -/
namespace ZZ
open PySem PySem.Spec PyProof.Rows L2
/-! ### a function's own cells end with it -/
def Ro.cut (ρ : Ro) (L : Nat) : Ro := ⟨ρ.c.take L, ρ.h⟩
section
variable {K : PySem.W.Frag} {ρ : Ro} {H : Hp} {L : Nat}
theorem cut_out (a : Addr) (h : ρ.out a) : (ρ.cut L).out a := ⟨fun m => h.1 (List.mem_of_mem_take m), h.2⟩
theorem cut_at {n : Nat} {a : Addr} (h : n < L) (e : (ρ.cut L).c[n]? = some (some a)) : ρ.c[n]? = some (some a) := by
  have e : (ρ.c.take L)[n]? = some (some a) := e
  rw [List.getElem?_take, if_pos h] at e
  exact e
mutual
theorem Rep.cut : ∀ (z : Z) (v : V), (∀ m ∈ z.refs, m < L) → Rep K ρ H z v → Rep K (ρ.cut L) H z v
  | .non, _, _, h => by unfold Rep at h ⊢; exact h
  | .bl _, _, _, h => by unfold Rep at h ⊢; exact h
  | .int _, _, _, h => by unfold Rep at h ⊢; exact h
  | .str _, _, _, h => by unfold Rep at h ⊢; exact h
  | .lst zs, _, b, h => by
    unfold Rep at h ⊢
    obtain ⟨a, vs, e1, e2, e3, e4, e5⟩ := h
    exact ⟨a, vs, e1, e2, cut_out a e3, e4, RepL.cut zs vs (fun m hm => b m (by unfold Z.refs; exact hm)) e5⟩
  | .tup zs, _, b, h => by
    unfold Rep at h ⊢
    obtain ⟨a, vs, e1, e2, e4, e5⟩ := h
    refine ⟨a, vs, e1, ?_, e4, RepL.cut zs vs (fun m hm => b m (by unfold Z.refs; exact hm)) e5⟩
    rcases e2 with ⟨e2, e3⟩ | e2
    · exact .inl ⟨e2, cut_out a e3⟩
    · exact .inr e2
  | .dic _ _, _, _, h => by unfold Rep at h; exact h.elim
  | .ins c fs zs, _, b, h => by
    unfold Rep at h ⊢
    obtain ⟨a, dx, vs, e1, e2, e3, e4, e5⟩ := h
    exact ⟨a, dx, vs, e1, e2, cut_out a e3, e4, RepL.cut zs vs (fun m hm => b m (by unfold Z.refs; exact hm)) e5⟩
  | .scr ns, _, _, h => by
    unfold Rep at h ⊢
    obtain ⟨a, e1, e2, e4⟩ := h
    refine ⟨a, e1, ?_, e4⟩
    rcases e2 with ⟨e2, e3⟩ | e2
    · exact .inl ⟨e2, cut_out a e3⟩
    · exact .inr e2
  | .cel n, _, b, h => by
    have hn : n < L := b n (by unfold Z.refs; exact List.mem_singleton.mpr rfl)
    unfold Rep at h ⊢
    refine ⟨?_, fun a e => h.2 a (cut_at hn e)⟩
    show n < (ρ.c.take L).length
    rw [List.length_take]
    have := h.1
    omega
theorem RepL.cut : ∀ (zs : List Z) (vs : List V), (∀ m ∈ refsL zs, m < L) → RepL K ρ H zs vs → RepL K (ρ.cut L) H zs vs
  | [], _, _, h => by unfold RepL at h ⊢; exact h
  | z :: zs, _, b, h => by
    unfold RepL at h ⊢
    obtain ⟨v, r, e1, e2, e3⟩ := h
    exact ⟨v, r, e1, Rep.cut z v (fun m hm => b m (by unfold refsL; exact List.mem_append.mpr (.inl hm))) e2, RepL.cut zs r (fun m hm => b m (by unfold refsL; exact List.mem_append.mpr (.inr hm))) e3⟩
end
mutual
theorem Rep.refs : ∀ (z : Z) (v : V), Rep K ρ H z v → ∀ m ∈ z.refs, m < ρ.c.length
  | .non, _, h, m, hm => by unfold Z.refs at hm; cases hm
  | .bl _, _, h, m, hm => by unfold Z.refs at hm; cases hm
  | .int _, _, h, m, hm => by unfold Z.refs at hm; cases hm
  | .str _, _, h, m, hm => by unfold Z.refs at hm; cases hm
  | .scr _, _, h, m, hm => by unfold Z.refs at hm; cases hm
  | .lst zs, _, h, m, hm => by
    unfold Rep at h
    unfold Z.refs at hm
    obtain ⟨a, vs, e1, e2, e3, e4, e5⟩ := h
    exact RepL.refs zs vs e5 m hm
  | .tup zs, _, h, m, hm => by
    unfold Rep at h
    unfold Z.refs at hm
    obtain ⟨a, vs, e1, e2, e4, e5⟩ := h
    exact RepL.refs zs vs e5 m hm
  | .dic _ _, _, h, m, hm => by unfold Rep at h; exact h.elim
  | .ins c fs zs, _, h, m, hm => by
    unfold Rep at h
    unfold Z.refs at hm
    obtain ⟨a, dx, vs, e1, e2, e3, e4, e5⟩ := h
    exact RepL.refs zs vs e5 m hm
  | .cel n, _, h, m, hm => by
    unfold Rep at h
    unfold Z.refs at hm
    rw [List.mem_singleton.mp hm]
    exact h.1
theorem RepL.refs : ∀ (zs : List Z) (vs : List V), RepL K ρ H zs vs → ∀ m ∈ refsL zs, m < ρ.c.length
  | [], _, h, m, hm => by unfold refsL at hm; cases hm
  | z :: zs, _, h, m, hm => by
    unfold RepL at h
    unfold refsL at hm
    obtain ⟨v, r, e1, e2, e3⟩ := h
    rcases List.mem_append.mp hm with q | q
    · exact Rep.refs z v e2 m q
    · exact RepL.refs zs r e3 m q
end
theorem ClAt.refs {o : Option Addr} {c : Cl} (h : ClAt K ρ H o c) : ∀ m ∈ c.refs, m < ρ.c.length := by
  cases c with
  | lst zs => obtain ⟨a, vs, q1, q2, q3, q4⟩ := h; exact RepL.refs _ _ q4
  | dic _ _ => exact h.elim
  | ins c fs zs => obtain ⟨a, dx, vs, q1, q2, q3, q5, q4⟩ := h; exact RepL.refs _ _ q4
  | dead => intro m hm; cases hm
theorem ClAt.cut {o : Option Addr} {c : Cl} (h : ClAt K ρ H o c) (b : ∀ m ∈ c.refs, m < L) : ClAt K (ρ.cut L) H o c := by
  cases c with
  | lst zs => obtain ⟨a, vs, q1, q2, q3, q4⟩ := h; exact ⟨a, vs, q1, q2, q3, RepL.cut _ _ b q4⟩
  | dic _ _ => exact h.elim
  | ins c fs zs => obtain ⟨a, dx, vs, q1, q2, q3, q5, q4⟩ := h; exact ⟨a, dx, vs, q1, q2, q3, q5, RepL.cut _ _ b q4⟩
  | dead => exact h
end
theorem cut_all {K : PySem.W.Frag} {ρ ρ' : Ro} {H H' : Hp} {st st' : Sto} {b : Nat} (w : Wd K ρ st H) (e : Evo ρ H ρ' H') (s : Sub st.length st st') (w' : Wd K ρ' st' H') : Evo ρ H (ρ'.cut st.length) H' ∧ Sub b st (st'.take st.length) ∧ Wd K (ρ'.cut st.length) (st'.take st.length) H' := by
  have hl := s.1
  refine ⟨⟨e.keep, fun a m => e.fresh a (List.mem_of_mem_take m), ?_, fun n a hn q => e.old n a hn (cut_at (by rw [← w.len]; exact hn) q), e.hidn, e.hido, e.ther⟩, ⟨by rw [List.length_take]; omega, fun n c' hn q hq => ?_⟩, ⟨?_, fun n m a h1 h2 => ?_, fun n c q => ?_, fun a m => ?_⟩⟩
  · show ρ.c.length ≤ (ρ'.c.take st.length).length
    rw [List.length_take, w.len, w'.len]
    omega
  · rw [List.getElem?_take, if_pos hq] at q
    exact s.2 n c' hq q hq
  · show (ρ'.c.take st.length).length = (st'.take st.length).length
    rw [List.length_take, List.length_take, w'.len]
  · have h1' : n < st.length := by
      have : n < (ρ'.c.take st.length).length := (List.getElem?_eq_some_iff.mp h1).1
      rw [List.length_take] at this
      omega
    have h2' : m < st.length := by
      have : m < (ρ'.c.take st.length).length := (List.getElem?_eq_some_iff.mp h2).1
      rw [List.length_take] at this
      omega
    exact w'.inj n m a (cut_at h1' h1) (cut_at h2' h2)
  · have hn : n < st.length := by
      have : n < (st'.take st.length).length := (List.getElem?_eq_some_iff.mp q).1
      rw [List.length_take] at this
      omega
    rw [List.getElem?_take, if_pos hn] at q
    obtain ⟨u, e1, e2⟩ := w'.at_ n c q
    obtain ⟨c0, k1, k2⟩ := s.2 n c hn q hn
    obtain ⟨u0, _, k4⟩ := w.at_ n c0 k1
    refine ⟨u, by show (ρ'.c.take st.length)[n]? = _; rw [List.getElem?_take, if_pos hn]; exact e1, e2.cut fun m hm => ?_⟩
    rw [← w.len]
    exact k4.refs m (k2 m hm)
  · obtain ⟨x, y⟩ := w'.hid a m
    exact ⟨fun q => x (List.mem_of_mem_take q), y⟩
end ZZ

end
section
set_option maxHeartbeats 2000000
/-! ZChk: does a text of Z say what the program's text says? -/
namespace ZZ
open PySem L2
/-- names by slot, the scope, where cells may be stored to -/
structure Sc where
  N : List Str
  sc : Scope
  fnl : Str → Bool
/-- what is known of the top: functions, classes' methods, fields -/
structure Tb where
  fn : String → Bool
  me : String → String → String → Bool
  mkr : String → String → Bool
  at_ : String → String → Bool
def visC (S : Sc) (x : Str) : Bool := match S.sc.names.lookup x with
  | some .local => true
  | some .cell => true
  | some .free => true
  | _ => false
def glC (S : Sc) (x : Str) : Bool := decide (S.sc.names.lookup x = some .globalImplicit) && !(x == ("__debug__" : Str))
def stC (S : Sc) (x : Str) : Bool := match S.sc.names.lookup x with
  | some .local => true
  | some .cell => S.fnl x
  | _ => false
def nameC (S : Sc) (i : Nat) (x : Str) : Bool := decide (S.N[i]? = some x) && visC S x && !(x == ("__debug__" : Str)) && !(x == ("__classdict__" : Str))
def ownOf (N : List Str) (ws : List Nat) : List (Str × Nat) := ws.filterMap fun i => N[i]?.map fun x => (x, i)
def blkS (S : Sc) (scope : Scope) : Sc := ⟨S.N, relS scope S.sc, fun x => decide (scope.names.lookup x = some .cell)⟩
def notStar : Expr → Bool
  | .Starred _ _ => false
  | _ => true
def notSlice : Expr → Bool
  | .Slice _ _ _ _ => false
  | _ => true
def notSet : Expr → Bool
  | .Set _ _ _ => false
  | _ => true
mutual
def chkT (S : Sc) : T → Expr → Bool
  | .v i, .Name x _ => decide (S.N[i]? = some x) && stC S x
  | .tup ts, .Tuple xs _ _ => chkTs S ts xs
  | _, _ => false
def chkTs (S : Sc) : List T → List Expr → Bool
  | [], [] => true
  | t :: ts, x :: xs => notStar x && chkT S t x && chkTs S ts xs
  | _, _ => false
end
mutual
def T.slots : T → List Nat
  | .v i => [i]
  | .tup ts => slotsL ts
def slotsL : List T → List Nat
  | [] => []
  | t :: ts => t.slots ++ slotsL ts
end
def strOkC (x : Str) (s : List Nat) : Bool := decide (x.cps.toList = s) && decide (s.length ≤ 1000) && s.all (fun c => decide (c < 1114112))
def tyName (T : String) : Bool := T == "int" || T == "bool" || T == "str" || T == "list" || T == "tuple"
def chkTy (S : Sc) (T : String) : Expr → Bool
  | .Name y _ => decide (y = Str.ofString T) && glC S y && tyName T
  | _ => false
def chkTys (S : Sc) : List String → List Expr → Bool
  | [], [] => true
  | T :: Ts, x :: xs => chkTy S T x && chkTys S Ts xs
  | _, _ => false
/-- one class, or a tuple of some -/
def chkTyX (S : Sc) (Ts : List String) : Expr → Bool
  | .Tuple xs _ _ => chkTys S Ts xs
  | x => (match Ts with
    | [T] => chkTy S T x
    | _ => false)
def bmName : BM → String
  | .append => "append" | .pop => "pop" | .popAt => "pop" | .extend => "extend" | .insert => "insert" | .reverse => "reverse"
def bmArgs : BM → Nat
  | .append => 1 | .pop => 0 | .popAt => 1 | .extend => 1 | .insert => 2 | .reverse => 0
def smName : SM → String
  | .join => "join"
/-- no form of its own as a test -/
def plainT : Expr → Bool
  | .UnaryOp .Not _ _ => false
  | .BoolOp _ _ _ => false
  | .IfExp _ _ _ _ => false
  | .Compare _ _ _ _ => false
  | _ => true
def noCall : Expr → Bool
  | .Call _ _ _ _ => false
  | _ => true
section
variable (tb : Tb)
mutual
def chkE (S : Sc) : E → Expr → Bool
  | .v i, x => (match x with
    | .Name x _ => nameC S i x
    | _ => false)
  | .g f, x => (match x with
    | .Name x _ => decide (x = Str.ofString f) && glC S x
    | _ => false)
  | .n i, x => (match x with
    | .Constant (.int j) _ _ => decide (i = j)
    | _ => false)
  | .s s, x => (match x with
    | .Constant (.str x) _ _ => strOkC x s
    | _ => false)
  | .t b, x => (match x with
    | .Constant (.bool c) _ _ => decide (b = c)
    | _ => false)
  | .non, x => (match x with
    | .Constant .none _ _ => true
    | _ => false)
  | .bin o a b, x => (match x with
    | .BinOp x op y _ => decide (op = bopOf o) && chkE S a x && chkE S b y
    | _ => false)
  | .neg a, x => (match x with
    | .UnaryOp .USub x _ => chkE S a x
    | _ => false)
  | .nt a, x => (match x with
    | .UnaryOp .Not x _ => chkE S a x
    | _ => false)
  | .cmp o a b, x => (match x with
    | .Compare x [op] [y] _ => decide (op = copOf o) && !(behindInMarks op y) && chkE S a x && chkE S b y
    | _ => false)
  | .ch o p a b c, x => (match x with
    | .Compare x [o1, o2] [y, z] _ => decide (o1 = copOf o) && decide (o2 = copOf p) && !(lastMarks [o1, o2] [y, z]) && chkE S a x && chkE S b y && chkE S c z
    | _ => false)
  | .an a b, x => (match x with
    | .BoolOp .And (x :: y :: r) p => chkE S a x && (match r with
      | [] => chkE S b y
      | _ :: _ => chkE S b (.BoolOp .And (y :: r) p))
    | _ => false)
  | .or a b, x => (match x with
    | .BoolOp .Or (x :: y :: r) p => chkE S a x && (match r with
      | [] => chkE S b y
      | _ :: _ => chkE S b (.BoolOp .Or (y :: r) p))
    | _ => false)
  | .ite c a b, x => (match x with
    | .IfExp t x y _ => chkE S c t && chkE S a x && chkE S b y
    | _ => false)
  | .lst _ es, x => (match x with
    | .List xs _ => decide (es.length ≤ 1000) && chkL S es xs
    | _ => false)
  | .tup es, x => (match x with
    | .Tuple xs _ _ => decide (es.length ≤ 1000) && chkL S es xs
    | _ => false)
  | .lc _ ws e t i c, x => (match x with
    | .ListComp elt [⟨tg, it, ifs, 0⟩] scope _ => notSet it && chkI S i it tg && blkC S.N S.sc scope (ownOf S.N ws) && decide ((ownOf S.N ws).map (·.2) = ws) &&
      t.slots.all (fun i => decide (i ∈ ws)) && chkT (blkS S scope) t tg && chkE (blkS S scope) e elt && chkC (blkS S scope) c ifs
    | _ => false)
  | .lc2 _ ws ws2 e t i t2 i2 c, x => (match x with
    | .ListComp elt [⟨tg, it, [], 0⟩, ⟨tg2, it2, ifs, 0⟩] scope _ => notSet it && notSet it2 && chkI S i it tg && blkC S.N S.sc scope (ownOf S.N ws) && decide ((ownOf S.N ws).map (·.2) = ws) && ws2.all (fun i => decide (i ∈ ws)) &&
      t.slots.all (fun i => decide (i ∈ ws)) && t2.slots.all (fun i => decide (i ∈ ws2)) && chkT (blkS S scope) t tg && chkI (blkS S scope) i2 it2 tg2 && chkT (blkS S scope) t2 tg2 && chkE (blkS S scope) e elt && chkC (blkS S scope) c ifs
    | _ => false)
  | .ix a i, x => (match x with
    | .Subscript x y _ => notSlice y && chkE S a x && chkE S i y
    | _ => false)
  | .sl _ a lo hi, x => (match x with
    | .Subscript x (.Slice l h none _) _ => chkE S a x && chkO S lo l && chkO S hi h
    | _ => false)
  | .rv _ a, x => (match x with
    | .Subscript x (.Slice none none (some (.UnaryOp .USub (.Constant (.int 1) _ _) _)) _) _ => chkE S a x
    | _ => false)
  | .fd a c f, x => (match x with
    | .Attribute x g _ => decide (g = Str.ofString f) && noCall x && tb.at_ c f && chkE S a x
    | _ => false)
  | .call f es kes ks, x => (match x with
    | .Call (.Name x _) args kws _ => decide (x = Str.ofString f) && glC S x && tb.fn f && chkL S es args && chkK S kes ks kws
    | _ => false)
  | .me cl m q o es kes ks, x => (match x with
    | .Call (.Attribute x g ap) args kws p => decide (g = Str.ofString m) && decide (ap.endLine = p.line) && noCall x && decide (args.length + kws.length < 20) && tb.me cl m q && chkE S o x && chkL S es args && chkK S kes ks kws
    | _ => false)
  | .mk _ cl q es kes ks, x => (match x with
    | .Call (.Name x _) args kws _ => decide (x = Str.ofString cl) && glC S x && tb.mkr cl q && chkL S es args && chkK S kes ks kws
    | _ => false)
  | .bf _ f es, x => (match x with
    | .Call (.Name x _) (y :: ys) [] _ => decide (x = Str.ofString (bfName f)) && glC S x && chkL S es (y :: ys)
    | _ => false)
  | .isi a Ts, x => (match x with
    | .Call (.Name x _) [y, z] [] _ => decide (x = Str.ofString "isinstance") && glC S x && notStar y && decide (Ts ≠ []) && decide (Ts.length ≤ 10) && chkE S a y && chkTyX S Ts z
    | _ => false)
  | .bm m o es, x => (match x with
    | .Call (.Attribute x g ap) args [] p => decide (g = Str.ofString (bmName m)) && decide (ap.endLine = p.line) && noCall x && decide (args.length = bmArgs m) && chkE S o x && chkL S es args
    | _ => false)
  | .fz a, x => plainT x && chkE S a x
  | .sm m o es, x => (match x with
    | .Call (.Attribute x g ap) [y] [] p => decide (g = Str.ofString (smName m)) && decide (ap.endLine = p.line) && noCall x && notStar y && chkE S o x && chkL S es [y]
    | _ => false)
  | .tz a b, x => (match x with
    | .Call (.Name f _) [.Call (.Name r _) [y, z] [] _] [] _ => decide (f = Str.ofString "tuple") && glC S f && decide (r = Str.ofString "zip") && glC S r && notStar y && notStar z && chkE S a y && chkE S b z
    | _ => false)
  | .lrg t _ es, x => (match x with
    | .Call (.Name f _) [.Call (.Name r _) args [] _] [] _ => decide (f = Str.ofString (if t then "tuple" else "list")) && glC S f && decide (r = Str.ofString "range") && glC S r && (decide (es.length = 1) || decide (es.length = 2)) && chkL S es args
    | _ => false)
def chkL (S : Sc) : List E → List Expr → Bool
  | [], [] => true
  | e :: es, x :: xs => notStar x && chkE S e x && chkL S es xs
  | _, _ => false
def chkK (S : Sc) : List E → List String → List Keyword → Bool
  | [], [], [] => true
  | e :: es, k :: ks, ⟨some n, x, _⟩ :: xs => decide (n = Str.ofString k) && chkE S e x && chkK S es ks xs
  | _, _, _ => false
def chkO (S : Sc) : Option E → Option Expr → Bool
  | none, none => true
  | some e, some x => chkE S e x
  | _, _ => false
def chkC (S : Sc) : Option E → List Expr → Bool
  | none, [] => true
  | some e, [x] => chkE S e x
  | _, _ => false
def chkI (S : Sc) : I → Expr → Expr → Bool
  | .e a, x, _ => chkE S a x
  | .rng es, x, _ => (match x with
    | .Call (.Name x _) args [] _ => decide (x = Str.ofString "range") && glC S x && (decide (es.length = 1) || decide (es.length = 2)) && chkL S es args
    | _ => false)
  | .enum a, x, t => (match x, t with
    | .Call (.Name x _) [y] [] _, .Tuple _ _ _ => decide (x = Str.ofString "enumerate") && glC S x && notStar y && chkE S a y
    | _, _ => false)
  | .zip a b, x, t => (match x, t with
    | .Call (.Name x _) [y, z] [] _, .Tuple _ _ _ => decide (x = Str.ofString "zip") && glC S x && notStar y && notStar z && chkE S a y && chkE S b z
    | _, _ => false)
end
end
end ZZ

end
section
set_option maxHeartbeats 2000000
/-! ZSnd: what a text of Z gives, the program's text gives: the parts. -/
namespace ZZ
open PySem PySem.Spec PyProof.Rows L2
structure Cf where
  K : PySem.W.Frag
  F : FT
  G : String → Option Z
  b : Nat
/-- the frame's slots -/
def RepE (K : PySem.W.Frag) (ρ : Ro) (H : Hp) (en : En) (σ : L2.St) : Prop := en.length = σ.length ∧ ∀ (i : Nat) (z : Z), en[i]? = some (some z) → ∃ v, σ[i]? = some (some v) ∧ Rep K ρ H z v
theorem RepE.evo {K : PySem.W.Frag} {ρ ρ' : Ro} {H H' : Hp} {en : En} {σ : L2.St} (r : RepE K ρ H en σ) (e : Evo ρ H ρ' H') : RepE K ρ' H' en σ :=
  ⟨r.1, fun i z h => let ⟨v, h1, h2⟩ := r.2 i z h; ⟨v, h1, h2.evo e⟩⟩
theorem RepE.set {K : PySem.W.Frag} {ρ : Ro} {H : Hp} {en : En} {σ : L2.St} {z : Z} {v : V} (r : RepE K ρ H en σ) (h : Rep K ρ H z v) (i : Nat) : RepE K ρ H (en.set i (some z)) (σ.set i (some v)) := by
  refine ⟨by simp [r.1], fun j y e => ?_⟩
  by_cases q : i = j
  · subst q
    by_cases l : i < en.length
    · rw [List.getElem?_set_self l] at e
      cases e
      exact ⟨v, by rw [List.getElem?_set_self (by rw [← r.1]; exact l)], h⟩
    · rw [List.getElem?_eq_none (by simpa using l)] at e
      cases e
  · rw [List.getElem?_set_ne q] at e
    obtain ⟨u, h1, h2⟩ := r.2 j y e
    exact ⟨u, by rw [List.getElem?_set_ne q]; exact h1, h2⟩
/-- readings: an expression, its truth, several, a part of a slice -/
def TZ (c : Cf) (e : E) : TE := fun σ H Q => ∃ en ρ st, RepE c.K ρ H en σ ∧ Wd c.K ρ st H ∧ RSat c.K c.b ρ H st (ev c.F c.G c.b e en st) (PK c.K Q)
def TZt (c : Cf) (e : E) : TT := fun σ H Q => ∃ en ρ st, RepE c.K ρ H en σ ∧ Wd c.K ρ st H ∧ RSat c.K c.b ρ H st ((ev c.F c.G c.b e en st).bind fun z st => ofO (ztru st z) st) (fun k _ _ H' => Q k H')
def TZs (c : Cf) (es : List E) : TA := fun σ H Q => ∃ en ρ st, RepE c.K ρ H en σ ∧ Wd c.K ρ st H ∧ RSat c.K c.b ρ H st (evs c.F c.G c.b es en st) (fun zs _ ρ' H' => ∀ vs, RepL c.K ρ' H' zs vs → Q vs H')
def TZo (c : Cf) (e : Option E) : TO := fun σ H Q => ∃ en ρ st, RepE c.K ρ H en σ ∧ Wd c.K ρ st H ∧ RSat c.K c.b ρ H st (evo c.F c.G c.b e en st) (fun k _ _ H' => Q k H')
def TZc (c : Cf) (e : Option E) : TT := fun σ H Q => ∃ en ρ st, RepE c.K ρ H en σ ∧ Wd c.K ρ st H ∧ RSat c.K c.b ρ H st (evc c.F c.G c.b e en st) (fun k _ _ H' => Q k H')
theorem pe_imp {X : Cx} {e : Expr} {t t' : TE} (h : PE X e t) (k : ∀ σ H Q, t' σ H Q → t σ H Q) : PE X e t' := ⟨fun pins s σ H Q I q => h.run pins s σ H Q I (k σ H Q q)⟩
theorem pt_imp {X : Cx} {e : Expr} {t t' : TT} (h : PT X e t) (k : ∀ σ H Q, t' σ H Q → t σ H Q) : PT X e t' := ⟨fun pins s σ H Q I q => h.run pins s σ H Q I (k σ H Q q)⟩
theorem pw_imp {X : Cx} {e : Expr} {t t' : TT} (h : PW X e t) (k : ∀ σ H Q, t' σ H Q → t σ H Q) : PW X e t' := ⟨fun wh pins s σ H Q I q => h.run wh pins s σ H Q I (k σ H Q q)⟩
theorem pa_imp {X : Cx} {e : List Expr} {t t' : TA} (h : PA X e t) (k : ∀ σ H Q, t' σ H Q → t σ H Q) : PA X e t' := ⟨fun p pins s σ H Q I q => h.run p pins s σ H Q I (k σ H Q q)⟩
theorem po_imp {X : Cx} {e : Option Expr} {t t' : TO} (h : PO X e t) (k : ∀ σ H Q, t' σ H Q → t σ H Q) : PO X e t' := ⟨fun pins s σ H Q I q => h.run pins s σ H Q I (k σ H Q q)⟩
theorem pts_imp {X : Cx} {e : List Expr} {t t' : TT} (h : PTs X e t) (k : ∀ σ H Q, t' σ H Q → t σ H Q) : PTs X e t' := ⟨fun pins s σ H Q I q => h.run pins s σ H Q I (k σ H Q q)⟩
theorem pkw_imp {X : Cx} {e : List Keyword} {t t' : TA} (h : L2.PK X e t) (k : ∀ σ H Q, t' σ H Q → t σ H Q) : L2.PK X e t' := ⟨fun p pins s σ H Q I q => h.run p pins s σ H Q I (k σ H Q q)⟩
theorem pi_imp {X : Cx} {tg e : Expr} {t t' : TI} (h : PI X tg e t) (k : ∀ σ H Q, t' σ H Q → t σ H Q) : PI X tg e t' := ⟨fun pins s σ H Q I q => h.run pins s σ H Q I (k σ H Q q)⟩
/-- the builtins that are asked for by name -/
def bis : List String := ["len", "abs", "min", "max", "int", "sum", "list", "tuple", "all", "any", "isinstance", "bool", "str", "range", "enumerate", "zip", "sorted", "repr", "set", "dict"]
/-- what a function promises: its run G' -/
def spZ (K : PySem.W.Frag) (n : Nat) (G' : List Z → Nat → Sto → R Z) : Sp := fun vs H Q _ => ∃ zs ρ st b, zs.length = n ∧ RepL K ρ H zs vs ∧ Wd K ρ st H ∧ RSat K b ρ H st (G' zs b st) (PK K Q)
/-- how its arguments are bound -/
def BindOk (K : PySem.W.Frag) (fd : FuncData) (d : FnD) : Prop := ∀ (zs as : List Z) (ks : List String), bindZ d zs ks = some as → ∀ (ρ : Ro) (H : Hp) (st : Sto) (vs : List V) (us ws : List Value), Wd K ρ st H → RepL K ρ H zs vs → Vals vs (us ++ ws) → ws.length = ks.length →
  ∀ s : Shared, K.In s.heap → ∃ us' vs', BindsTo s fd ⟨us, (ks.map Str.ofString).zip ws⟩ ((d.ps.map fun p => Str.ofString p.1).zip us') ∧ Vals vs' us' ∧ RepL K ρ H as vs' ∧ as.length = d.ps.length
structure FnC (c : Cf) (X : Cx) (f : String) (a : Addr) (fd : FuncData) (d : FnD) (G' : List Z → Nat → Sto → R Z) (k : Nat) : Prop where
  run : ∀ zs ks b st, c.F f zs ks b st = match bindZ d zs ks with
    | some as => G' as b st
    | none => .no
  bind : BindOk c.K fd d
  ok : FnOk X.prog X.w X.K X.mg X.base CX0 k a fd (d.ps.map fun p => Str.ofString p.1) (spZ c.K d.ps.length G')
  kp : PySem.W.keepIn X.K (.ref a) = true
structure Gd (tb : Tb) (c : Cf) (X : Cx) (S : Sc) : Prop where
  k : X.K = c.K
  n : X.N = S.N
  sc : X.env.scope = S.sc
  fnl : ∀ x, S.fnl x = true → X.fn x = true
  calm : X.calm = true
  nd : X.N.Nodup
  u : X.A.units + 65 < cLine
  bi : ∀ x ∈ bis, X.mg (Str.ofString x) = none
  g : ∀ x z, c.G x = some z → ∃ u v, X.mg (Str.ofString x) = some u ∧ RelV v u ∧ ∀ ρ H st, Wd c.K ρ st H → Rep c.K ρ H z v
  fn : ∀ f, tb.fn f = true → ∃ a fd d G' k, X.mg (Str.ofString f) = some (.ref a) ∧ Room k X.A ∧ FnC c X f a fd d G' k
  at_ : ∀ cl f, tb.at_ cl f = true → Cls X.K (He.ga X.K cl) ∧ NoAttr X.K (He.ga X.K cl) (Str.ofString f)
  me : ∀ cl m q, tb.me cl m q = true → Cls X.K (He.ga X.K cl) ∧ ∃ a fd d G' k, Meth X.K (He.ga X.K cl) (Str.ofString m) a ∧ Room k X.A ∧ FnC c X q a fd d G' k
  mkr : ∀ cl q, tb.mkr cl q = true → X.mg (Str.ofString cl) = some (.ref (He.ga X.K cl)) ∧ ∃ a fd d G' k, Mk X.K (He.ga X.K cl) a ∧ Room (k + 1) X.A ∧ FnC c X q a fd d G' k
section
variable {tb : Tb} {c : Cf} {X : Cx} {S : Sc}
theorem and_t {a b : Bool} (h : (a && b) = true) : a = true ∧ b = true := Bool.and_eq_true_iff.mp h
theorem visC_ok {x : Str} (h : visC S x = true) : Vis S.sc x := by
  unfold visC at h
  unfold Vis
  split at h <;> first | cases h | skip
  · rename_i e; exact .inl e
  · rename_i e; exact .inr (.inl e)
  · rename_i e; exact .inr (.inr e)
theorem glC_ok (g : Gd tb c X S) {x : Str} (h : glC S x = true) : Gl X x ∧ (x == ("__debug__" : Str)) = false := by
  unfold glC at h
  obtain ⟨h1, h2⟩ := and_t h
  refine ⟨?_, by simpa using h2⟩
  show X.env.scope.names.lookup x = some .globalImplicit
  rw [g.sc]
  exact of_decide_eq_true h1
theorem stC_ok (g : Gd tb c X S) {x : Str} (h : stC S x = true) : L2.Loc X.env.scope x ∧ (X.fn x = true ∨ X.env.scope.names.lookup x = some .local) := by
  unfold stC at h
  unfold L2.Loc
  rw [g.sc]
  split at h
  · rename_i e; exact ⟨.inl e, .inr e⟩
  · rename_i e; exact ⟨.inr e, .inl (g.fnl x h)⟩
  · cases h
/-! ### leaves -/
theorem s_var (g : Gd tb c X S) {i : Nat} {x : Str} {p : Pos} (h : nameC S i x = true) : PE X (.Name x p) (TZ c (.v i)) := by
  unfold nameC at h
  obtain ⟨h, h4⟩ := and_t h
  obtain ⟨h, h3⟩ := and_t h
  obtain ⟨h1, h2⟩ := and_t h
  refine pe_imp (pe_var (i := i) (by rw [g.n]; exact of_decide_eq_true h1) (by rw [g.sc]; exact visC_ok h2) (by simpa using h3) (by simpa using h4)) fun σ H Q ⟨en, ρ, st, r, w, q⟩ => ?_
  unfold ev at q
  split at q
  · rename_i z e
    obtain ⟨v, e1, e2⟩ := r.2 i z e
    exact ⟨v, e1, q.ok_inv w v e2⟩
  · exact q.elim
theorem s_glob (g : Gd tb c X S) {f : String} {p : Pos} (h : glC S (Str.ofString f) = true) : PE X (.Name (Str.ofString f) p) (TZ c (.g f)) := by
  obtain ⟨h1, h2⟩ := glC_ok g h
  refine ⟨fun pins s σ H Q I ⟨en, ρ, st, r, w, q⟩ => ?_⟩
  unfold ev at q
  obtain ⟨z, e, q⟩ := q.ofO_inv w
  obtain ⟨u, v, m, rv, hr⟩ := g.g f z e
  exact (pe_glob h1 m rv h2).run pins s σ H Q I (q v (hr ρ H st w))
theorem s_const {e : E} {x : Expr} {z : Z} {v : V} (hx : PE X x (tC v)) (he : ∀ en st, ev c.F c.G c.b e en st = .ok z st) (hz : ∀ ρ H, Rep c.K ρ H z v) : PE X x (TZ c e) :=
  pe_imp hx fun σ H Q ⟨en, ρ, st, r, w, q⟩ => by
    rw [he] at q
    exact q.ok_inv w v (hz ρ H)
theorem strOkC_ok {x : Str} {s : List Nat} (h : strOkC x s = true) : x = ⟨s.toArray⟩ ∧ s.length ≤ sizeL ∧ ∀ d ∈ s, d < 0x110000 := by
  unfold strOkC at h
  obtain ⟨h, h3⟩ := and_t h
  obtain ⟨h1, h2⟩ := and_t h
  have h1 := of_decide_eq_true h1
  have h2 := of_decide_eq_true h2
  refine ⟨?_, by unfold sizeL; omega, fun d hd => ?_⟩
  · cases x with
    | mk a => subst h1; simp
  · exact of_decide_eq_true (List.all_eq_true.mp h3 d hd)
/-! ### two in a row -/
theorem tz_next {e : E} {σ : L2.St} {H : Hp} {en : En} {ρ : Ro} {st : Sto} {Q : VK} (r : RepE c.K ρ H en σ) (w : Wd c.K ρ st H) {α : Type} {f : Z → Sto → R α} {P : α → Sto → Ro → Hp → Prop}
    (q : RSat c.K c.b ρ H st ((ev c.F c.G c.b e en st).bind f) P)
    (k : ∀ z st1 ρ1 H1 v, Evo ρ H ρ1 H1 → Sub c.b st st1 → Wd c.K ρ1 st1 H1 → RepE c.K ρ1 H1 en σ → Rep c.K ρ1 H1 z v → RSat c.K c.b ρ1 H1 st1 (f z st1) P → Q v H1) : TZ c e σ H Q :=
  ⟨en, ρ, st, r, w, q.bind.mono fun z st1 ρ1 H1 e1 s1 w1 q1 v hv => k z st1 ρ1 H1 v e1 s1 w1 (r.evo e1) hv q1⟩
theorem s_bin {o : BOp} {a b : E} {x y : Expr} {p : Pos} (g : Gd tb c X S) (ha : PE X x (TZ c a)) (hb : PE X y (TZ c b)) : PE X (.BinOp x (bopOf o) y p) (TZ c (.bin o a b)) := by
  refine pe_imp (pe_op (vArith_op o) ha hb) fun σ H Q ⟨en, ρ, st, r, w, q⟩ => ?_
  unfold ev at q
  refine tz_next r w q fun z st1 ρ1 H1 v e1 s1 w1 r1 hv q1 => ?_
  refine tz_next r1 w1 q1 fun z2 st2 ρ2 H2 v2 e2 s2 w2 r2 hv2 q2 => ?_
  obtain ⟨y, ey, q3⟩ := q2.ofO_inv w2
  rw [g.k]
  rw [ey] at q2
  exact vArith_ok o ρ2 H2 st2 v v2 z z2 y Q w2 (hv.evo e2) hv2 ey fun ρ' H' u e' w' hu => q2 ρ' H' e' .refl w' u hu
theorem s_neg {a : E} {x : Expr} {p : Pos} (ha : PE X x (TZ c a)) : PE X (.UnaryOp .USub x p) (TZ c (.neg a)) := by
  refine pe_imp (pe_un un_neg ha) fun σ H Q ⟨en, ρ, st, r, w, q⟩ => ?_
  unfold ev at q
  refine tz_next r w q fun z st1 ρ1 H1 v e1 s1 w1 r1 hv q1 => ?_
  cases z with
  | int i => exact ⟨i, rep_int.mp hv, q1.ok_inv w1 _ (rep_int.mpr rfl)⟩
  | _ => exact q1.elim
/-- truth -/
theorem ztru_ok {K : PySem.W.Frag} {ρ : Ro} {H : Hp} {st : Sto} {z : Z} {v : V} {k : Bool} (w : Wd K ρ st H) (h : Rep K ρ H z v) (e : ztru st z = some k) : TruV K v H k := by
  unfold ztru at e
  cases hd : dr st z with
  | non =>
    rw [hd] at e; cases e
    cases z with
    | non => rw [rep_non.mp h]; rfl
    | cel n => rw [dr_cel] at hd; cases q : st[n]? with
      | none => rw [q] at hd; cases hd
      | some c => rw [q] at hd; cases c <;> cases hd
    | _ => cases hd
  | bl b =>
    rw [hd] at e; cases e
    cases z with
    | bl b => cases hd; rw [rep_bl.mp h]; rfl
    | cel n => rw [dr_cel] at hd; cases q : st[n]? with
      | none => rw [q] at hd; cases hd
      | some c => rw [q] at hd; cases c <;> cases hd
    | _ => cases hd
  | int i => rw [hd] at e; cases e; have := dr_int_at hd; subst this; rw [rep_int.mp h]; rfl
  | str s =>
    rw [hd] at e; cases e
    have := dr_str_at hd; subst this
    obtain ⟨rfl, l, _⟩ := rep_str.mp h
    refine ⟨by rw [str_len, sizeL_eq]; exact l, ?_⟩
    rw [str_len]
    cases s with
    | nil => rfl
    | cons a l =>
      simp
      omega
  | lst zs =>
    rw [hd] at e; cases e
    obtain ⟨a, vs, rfl, h1, _, h4⟩ := dr_lst_at w h hd
    refine .inl ⟨vs, h1, ?_⟩
    have := repL_nil_iff h4
    cases zs <;> cases vs <;> simp_all
  | tup zs =>
    rw [hd] at e; cases e
    obtain ⟨a, vs, rfl, h1, _, h4, _⟩ := dr_tup_at w h hd
    refine .inr (.inl ⟨vs, h1, ?_⟩)
    have := repL_nil_iff h4
    cases zs <;> cases vs <;> simp_all
  | dic ks vs =>
    exfalso
    cases z with
    | dic _ _ => unfold Rep at h; exact h
    | cel n =>
      rw [dr_cel] at hd
      cases q : st[n]? with
      | none => rw [q] at hd; cases hd
      | some c =>
        rw [q] at hd
        cases c with
        | dic _ _ => obtain ⟨o, _, e2⟩ := w.at_ n _ q; exact e2
        | _ => cases hd
    | _ => cases hd
  | ins _ _ _ => rw [hd] at e; cases e
  | scr _ => rw [hd] at e; cases e
  | cel _ => rw [hd] at e; cases e
/-- an expression whose test is its value's truth -/
theorem s_truth {e : E} {x : Expr} (g : Gd tb c X S) (h : PE X x (TZ c e)) (he : ∀ whole, isTrue x X.env whole = (do let v ← whole; standAt x.pos; holding [v] (truthy v))) : PT X x (TZt c e) := by
  refine pt_imp (pt_truth h he) fun σ H Q ⟨en, ρ, st, r, w, q⟩ => ?_
  refine tz_next r w q fun z st1 ρ1 H1 v e1 s1 w1 r1 hv q1 => ?_
  obtain ⟨k, ek, q2⟩ := q1.ofO_inv w1
  rw [g.k]
  exact ⟨k, ztru_ok w1 hv ek, q2⟩
theorem tzt_next {e : E} {σ : L2.St} {H : Hp} {en : En} {ρ : Ro} {st : Sto} {Q : Bool → Hp → Prop} (r : RepE c.K ρ H en σ) (w : Wd c.K ρ st H) {α : Type} {f : Z → Bool → Sto → R α} {P : α → Sto → Ro → Hp → Prop}
    (q : RSat c.K c.b ρ H st ((ev c.F c.G c.b e en st).bind fun z st => (ofO (ztru st z) st).bind fun k st => f z k st) P)
    (k : ∀ z b st1 ρ1 H1, Evo ρ H ρ1 H1 → Sub c.b st st1 → Wd c.K ρ1 st1 H1 → RepE c.K ρ1 H1 en σ → ztru st1 z = some b → RSat c.K c.b ρ1 H1 st1 (f z b st1) P → Q b H1) : TZt c e σ H Q := by
  refine ⟨en, ρ, st, r, w, ?_⟩
  cases h : ev c.F c.G c.b e en st with
  | ok z st1 =>
    rw [h] at q
    show RSat _ _ _ _ _ (ofO (ztru st1 z) st1) _
    have q : RSat c.K c.b ρ H st ((ofO (ztru st1 z) st1).bind fun k st => f z k st) P := q
    cases h2 : ztru st1 z with
    | none => rw [h2] at q; exact q.elim
    | some b =>
      rw [h2] at q
      have q : RSat c.K c.b ρ H st (f z b st1) P := q
      intro ρ1 H1 e1 s1 w1
      refine k z b st1 ρ1 H1 e1 s1 w1 (r.evo e1) h2 ?_
      cases h3 : f z b st1 with
      | ok y st2 => rw [h3] at q; exact fun ρ2 H2 e2 s2 w2 => q ρ2 H2 (e1.trans e2) (s1.trans s2) w2
      | exn _ _ _ => rw [h3] at q; exact q.elim
      | no => rw [h3] at q; exact q.elim
  | exn _ _ _ => rw [h] at q; exact q.elim
  | no => rw [h] at q; exact q.elim
theorem s_not {a : E} {x : Expr} {p : Pos} (g : Gd tb c X S) (ha : PE X x (TZ c a)) : PE X (.UnaryOp .Not x p) (TZ c (.nt a)) := by
  refine pe_imp (pe_notT ha) fun σ H Q ⟨en, ρ, st, r, w, q⟩ => ?_
  unfold ev at q
  refine tz_next r w q fun z st1 ρ1 H1 v e1 s1 w1 r1 hv q1 => ?_
  cases h : ztru st1 z with
  | none => rw [h] at q1; exact q1.elim
  | some k =>
    rw [h] at q1
    rw [g.k]
    exact ⟨k, ztru_ok w1 hv h, q1.ok_inv w1 _ (rep_bl.mpr rfl)⟩
theorem s_notT {a : E} {x : Expr} {p : Pos} (ha : PT X x (TZt c a)) : PT X (.UnaryOp .Not x p) (TZt c (.nt a)) := by
  refine pt_imp (pt_not ha) fun σ H Q ⟨en, ρ, st, r, w, q⟩ => ?_
  refine ⟨en, ρ, st, r, w, ?_⟩
  unfold ev at q
  cases h : ev c.F c.G c.b a en st with
  | ok z st1 =>
    rw [h] at q
    show RSat _ _ _ _ _ (ofO (ztru st1 z) st1) _
    cases h2 : ztru st1 z with
    | none => simp only [R.bind_ok, h2] at q; exact q.elim
    | some b =>
      simp only [R.bind_ok, h2] at q
      exact q
  | exn _ _ _ => rw [h] at q; exact q.elim
  | no => rw [h] at q; exact q.elim
theorem cmp_of {o : COp} {ρ : Ro} {H : Hp} {st : Sto} {x y : V} {zx zy : Z} {Q : VK} (g : Gd tb c X S) (w : Wd c.K ρ st H) (hx : Rep c.K ρ H zx x) (hy : Rep c.K ρ H zy y) {b : Bool} (e : zcmp o st zx zy = some b) (q : Q (.bl b) H) : vCmp X.K o x y H Q := by
  rw [g.k]
  exact vCmp_ok o ρ H st x y zx zy b Q w hx hy e q
theorem s_cmp {o : COp} {a b : E} {x y : Expr} {p : Pos} (g : Gd tb c X S) (hm : behindInMarks (copOf o) y = false) (ha : PE X x (TZ c a)) (hb : PE X y (TZ c b)) : PE X (.Compare x [copOf o] [y] p) (TZ c (.cmp o a b)) := by
  refine pe_imp (pe_cmpR (vCmp_op g.u o) ha hb hm) fun σ H Q ⟨en, ρ, st, r, w, q⟩ => ?_
  unfold ev at q
  refine tz_next r w q fun z st1 ρ1 H1 v e1 s1 w1 r1 hv q1 => ?_
  refine tz_next r1 w1 q1 fun z2 st2 ρ2 H2 v2 e2 s2 w2 r2 hv2 q2 => ?_
  cases h : zcmp o st2 z z2 with
  | none => rw [h] at q2; exact q2.elim
  | some k =>
    rw [h] at q2
    exact cmp_of g w2 (hv.evo e2) hv2 h (q2.ok_inv w2 _ (rep_bl.mpr rfl))
theorem s_cmpT {o : COp} {a b : E} {x y : Expr} {p : Pos} (g : Gd tb c X S) (hm : behindInMarks (copOf o) y = false) (ha : PE X x (TZ c a)) (hb : PE X y (TZ c b)) : PT X (.Compare x [copOf o] [y] p) (TZt c (.cmp o a b)) := by
  refine pt_imp (pt_cmpR (vCmp_op g.u o) ha hb hm) fun σ H Q ⟨en, ρ, st, r, w, q⟩ => ?_
  unfold ev at q
  rw [R.bind_assoc] at q
  refine tz_next r w q fun z st1 ρ1 H1 v e1 s1 w1 r1 hv q1 => ?_
  rw [R.bind_assoc] at q1
  refine tz_next r1 w1 q1 fun z2 st2 ρ2 H2 v2 e2 s2 w2 r2 hv2 q2 => ?_
  cases h : zcmp o st2 z z2 with
  | none => rw [h] at q2; exact q2.elim
  | some k =>
    rw [h] at q2
    exact cmp_of g w2 (hv.evo e2) hv2 h ⟨k, rfl, q2 ρ2 H2 .refl .refl w2⟩
theorem s_ch {o o' : COp} {a b d : E} {x y z : Expr} {p : Pos} (g : Gd tb c X S) (hm : lastMarks [copOf o, copOf o'] [y, z] = false) (ha : PE X x (TZ c a)) (hb : PE X y (TZ c b)) (hd : PE X z (TZ c d)) : PE X (.Compare x [copOf o, copOf o'] [y, z] p) (TZ c (.ch o o' a b d)) := by
  refine pe_imp (pe_chain (vCmp_op g.u o) (vCmp_op g.u o') ha hb hd hm) fun σ H Q ⟨en, ρ, st, r, w, q⟩ => ?_
  unfold ev at q
  refine tz_next r w q fun z st1 ρ1 H1 v e1 s1 w1 r1 hv q1 => ?_
  refine tz_next r1 w1 q1 fun z2 st2 ρ2 H2 v2 e2 s2 w2 r2 hv2 q2 => ?_
  cases h : zcmp o st2 z z2 with
  | none => rw [h] at q2; exact q2.elim
  | some k =>
    rw [h] at q2
    refine cmp_of g w2 (hv.evo e2) hv2 h ⟨k, rfl, ?_⟩
    cases k with
    | false =>
      rw [if_neg Bool.false_ne_true]
      exact q2 ρ2 H2 .refl .refl w2 _ (rep_bl.mpr rfl)
    | true =>
      rw [if_pos rfl]
      have q2 : RSat c.K c.b ρ2 H2 st2 ((ev c.F c.G c.b d en st2).bind fun z st => ofO ((zcmp o' st z2 z).map .bl) st) (PK c.K Q) := q2
      refine tz_next r2 w2 q2 fun z3 st3 ρ3 H3 v3 e3 s3 w3 r3 hv3 q3 => ?_
      cases h : zcmp o' st3 z2 z3 with
      | none => rw [h] at q3; exact q3.elim
      | some k =>
        rw [h] at q3
        exact cmp_of g w3 (hv2.evo e3) hv3 h (q3 ρ3 H3 .refl .refl w3 _ (rep_bl.mpr rfl))
theorem s_chT {o o' : COp} {a b d : E} {x y z : Expr} {p : Pos} (g : Gd tb c X S) (hm : lastMarks [copOf o, copOf o'] [y, z] = false) (ha : PE X x (TZ c a)) (hb : PE X y (TZ c b)) (hd : PE X z (TZ c d)) : PT X (.Compare x [copOf o, copOf o'] [y, z] p) (TZt c (.ch o o' a b d)) := by
  refine pt_imp (pt_chain (vCmp_op g.u o) (vCmp_op g.u o') ha hb hd hm) fun σ H Q ⟨en, ρ, st, r, w, q⟩ => ?_
  unfold ev at q
  rw [R.bind_assoc] at q
  refine tz_next r w q fun z st1 ρ1 H1 v e1 s1 w1 r1 hv q1 => ?_
  rw [R.bind_assoc] at q1
  refine tz_next r1 w1 q1 fun z2 st2 ρ2 H2 v2 e2 s2 w2 r2 hv2 q2 => ?_
  cases h : zcmp o st2 z z2 with
  | none => rw [h] at q2; exact q2.elim
  | some k =>
    rw [h] at q2
    refine cmp_of g w2 (hv.evo e2) hv2 h ⟨k, rfl, ?_⟩
    cases k with
    | false =>
      rw [if_neg Bool.false_ne_true]
      exact ⟨false, rfl, q2 ρ2 H2 .refl .refl w2⟩
    | true =>
      rw [if_pos rfl]
      have q2 : RSat c.K c.b ρ2 H2 st2 (((ev c.F c.G c.b d en st2).bind fun z st => ofO ((zcmp o' st z2 z).map .bl) st).bind fun z st => ofO (ztru st z) st) (fun k _ _ H' => Q k H') := q2
      rw [R.bind_assoc] at q2
      refine tz_next r2 w2 q2 fun z3 st3 ρ3 H3 v3 e3 s3 w3 r3 hv3 q3 => ?_
      cases h : zcmp o' st3 z2 z3 with
      | none => rw [h] at q3; exact q3.elim
      | some k =>
        rw [h] at q3
        exact cmp_of g w3 (hv2.evo e3) hv3 h ⟨k, rfl, q3 ρ3 H3 .refl .refl w3⟩
end
end ZZ

end
section
set_option maxHeartbeats 2000000
/-! ZSnd2: further parts. -/
namespace ZZ
open PySem PySem.Spec PyProof.Rows L2
theorem ofString_inj {s t : String} (h : Str.ofString s = Str.ofString t) : s = t := by
  rw [Str.ofString_eq_toList, Str.ofString_eq_toList] at h
  injection h with h
  have h : s.toList.map Char.toNat = t.toList.map Char.toNat := by simpa using h
  have inj : ∀ l m : List Char, l.map Char.toNat = m.map Char.toNat → l = m := by
    intro l
    induction l with
    | nil => intro m e; cases m with
      | nil => rfl
      | cons _ _ => cases e
    | cons a l ih => intro m e; cases m with
      | nil => cases e
      | cons b m =>
        rw [List.map_cons, List.map_cons] at e
        injection e with e1 e2
        have : a = b := Char.toNat_inj.mp e1
        rw [this, ih m e2]
  exact String.toList_inj.mp (inj _ _ h)
theorem star_cons {x : Expr} {xs : List Expr} {env : Env} (h : notStar x = true) : starEach (x :: xs) env = (false, eval x env) :: starEach xs env := by
  cases x <;> first | rfl | cases h
theorem star_any : ∀ {xs : List Expr} {env : Env} {pos : Pos}, xs.all notStar = true → (backTo pos (starEach xs env)).any (·.1) = false
  | [], _, _, _ => rfl
  | x :: xs, env, pos, h => by
    rw [List.all_cons] at h
    obtain ⟨h1, h2⟩ := and_t h
    rw [star_cons h1]
    show (false || (backTo pos (starEach xs env)).any (·.1)) = false
    rw [star_any h2]
    rfl
theorem star_len : ∀ {xs : List Expr} {env : Env}, xs.all notStar = true → (starEach xs env).length = xs.length
  | [], _, _ => rfl
  | x :: xs, env, h => by
    rw [List.all_cons] at h
    obtain ⟨h1, h2⟩ := and_t h
    rw [star_cons h1, List.length_cons, List.length_cons, star_len h2]
section
variable {tb : Tb} {c : Cf} {X : Cx} {S : Sc}
/-! ### and, or -/
theorem rs_if {α : Type} {ρ : Ro} {H : Hp} {st : Sto} {k : Bool} {x y : R α} {P : α → Sto → Ro → Hp → Prop} (q : RSat c.K c.b ρ H st (if k = true then x else y) P) : if k = true then RSat c.K c.b ρ H st x P else RSat c.K c.b ρ H st y P := by
  cases k with
  | true => exact q
  | false => exact q
theorem tz_tru {e : E} {σ : L2.St} {H : Hp} {en : En} {ρ : Ro} {st : Sto} {Q : VK} (r : RepE c.K ρ H en σ) (w : Wd c.K ρ st H) {α : Type} {f : Z → Bool → Sto → R α} {P : α → Sto → Ro → Hp → Prop}
    (q : RSat c.K c.b ρ H st ((ev c.F c.G c.b e en st).bind fun z st => (ofO (ztru st z) st).bind fun k st => f z k st) P)
    (k : ∀ z v b st1 ρ1 H1, Evo ρ H ρ1 H1 → Sub c.b st st1 → Wd c.K ρ1 st1 H1 → RepE c.K ρ1 H1 en σ → Rep c.K ρ1 H1 z v → TruV c.K v H1 b → ztru st1 z = some b → RSat c.K c.b ρ1 H1 st1 (f z b st1) P → Q v H1) : TZ c e σ H Q :=
  tz_next r w q fun z st1 ρ1 H1 v e1 s1 w1 r1 hv q1 => by
    cases h : ztru st1 z with
    | none => rw [h] at q1; exact q1.elim
    | some b => rw [h] at q1; exact k z v b st1 ρ1 H1 e1 s1 w1 r1 hv (ztru_ok w1 hv h) h q1
theorem s_and {a b : E} {x y : Expr} {r : List Expr} {p : Pos} (g : Gd tb c X S) (ha : PE X x (TZ c a)) (hb : PE X (.BoolOp .And (y :: r) p) (TZ c b)) : PE X (.BoolOp .And (x :: y :: r) p) (TZ c (.an a b)) := by
  refine pe_imp (pe_andT ha hb) fun σ H Q ⟨en, ρ, st, r, w, q⟩ => ?_
  unfold ev at q
  refine tz_tru r w q fun z v k st1 ρ1 H1 e1 s1 w1 r1 hv ht he q1 => ?_
  rw [g.k]
  refine ⟨k, ht, ?_⟩
  cases k with
  | true => exact ⟨en, ρ1, st1, r1, w1, q1⟩
  | false => exact q1.ok_inv w1 v hv
theorem s_or {a b : E} {x y : Expr} {r : List Expr} {p : Pos} (g : Gd tb c X S) (ha : PE X x (TZ c a)) (hb : PE X (.BoolOp .Or (y :: r) p) (TZ c b)) : PE X (.BoolOp .Or (x :: y :: r) p) (TZ c (.or a b)) := by
  refine pe_imp (pe_orT ha hb) fun σ H Q ⟨en, ρ, st, r, w, q⟩ => ?_
  unfold ev at q
  refine tz_tru r w q fun z v k st1 ρ1 H1 e1 s1 w1 r1 hv ht he q1 => ?_
  rw [g.k]
  refine ⟨k, ht, ?_⟩
  cases k with
  | false => exact ⟨en, ρ1, st1, r1, w1, q1⟩
  | true => exact q1.ok_inv w1 v hv
theorem s_andT {a b : E} {x y : Expr} {r : List Expr} {p : Pos} (ha : PT X x (TZt c a)) (hb : PW X (.BoolOp .And (y :: r) p) (TZt c b)) : PW X (.BoolOp .And (x :: y :: r) p) (TZt c (.an a b)) := by
  refine pw_imp (pw_and ha hb) fun σ H Q ⟨en, ρ, st, r, w, q⟩ => ?_
  unfold ev at q
  rw [R.bind_assoc] at q
  have q : RSat c.K c.b ρ H st ((ev c.F c.G c.b a en st).bind fun z st => (ofO (ztru st z) st).bind fun k st => if k = true then (ev c.F c.G c.b b en st).bind fun z st => ofO (ztru st z) st else ofO (ztru st z) st) (fun k _ _ H' => Q k H') := by
    refine cast (congrArg (fun t => RSat c.K c.b ρ H st t _) ?_) q
    congr 1
    funext z st
    rw [R.bind_assoc]
    congr 1
    funext k st
    cases k <;> rfl
  refine tzt_next r w q fun z k st1 ρ1 H1 e1 s1 w1 r1 he q1 => ?_
  cases k with
  | true => exact ⟨en, ρ1, st1, r1, w1, q1⟩
  | false =>
    have q1 : RSat c.K c.b ρ1 H1 st1 (ofO (ztru st1 z) st1) (fun k _ _ H' => Q k H') := q1
    rw [he] at q1
    exact q1 ρ1 H1 .refl .refl w1
theorem s_orT {a b : E} {x y : Expr} {r : List Expr} {p : Pos} (ha : PT X x (TZt c a)) (hb : PW X (.BoolOp .Or (y :: r) p) (TZt c b)) : PW X (.BoolOp .Or (x :: y :: r) p) (TZt c (.or a b)) := by
  refine pw_imp (pw_or ha hb) fun σ H Q ⟨en, ρ, st, r, w, q⟩ => ?_
  unfold ev at q
  rw [R.bind_assoc] at q
  have q : RSat c.K c.b ρ H st ((ev c.F c.G c.b a en st).bind fun z st => (ofO (ztru st z) st).bind fun k st => if k = true then ofO (ztru st z) st else (ev c.F c.G c.b b en st).bind fun z st => ofO (ztru st z) st) (fun k _ _ H' => Q k H') := by
    refine cast (congrArg (fun t => RSat c.K c.b ρ H st t _) ?_) q
    congr 1
    funext z st
    rw [R.bind_assoc]
    congr 1
    funext k st
    cases k <;> rfl
  refine tzt_next r w q fun z k st1 ρ1 H1 e1 s1 w1 r1 he q1 => ?_
  cases k with
  | false => exact ⟨en, ρ1, st1, r1, w1, q1⟩
  | true =>
    have q1 : RSat c.K c.b ρ1 H1 st1 (ofO (ztru st1 z) st1) (fun k _ _ H' => Q k H') := q1
    rw [he] at q1
    exact q1 ρ1 H1 .refl .refl w1
theorem s_ite {d a b : E} {t x y : Expr} {p : Pos} (hd : PT X t (TZt c d)) (ha : PE X x (TZ c a)) (hb : PE X y (TZ c b)) : PE X (.IfExp t x y p) (TZ c (.ite d a b)) := by
  refine pe_imp (pe_ifExp hd ha hb) fun σ H Q ⟨en, ρ, st, r, w, q⟩ => ?_
  unfold ev at q
  refine tzt_next (f := fun _ k st => if k = true then ev c.F c.G c.b a en st else ev c.F c.G c.b b en st) r w q fun z k st1 ρ1 H1 e1 s1 w1 r1 he q1 => ?_
  cases k with
  | true => exact ⟨en, ρ1, st1, r1, w1, q1⟩
  | false => exact ⟨en, ρ1, st1, r1, w1, q1⟩
/-! ### several -/
theorem evs_len {F : FT} {gv : String → Option Z} {b : Nat} : ∀ {es : List E} {en : En} {st st' : Sto} {zs : List Z}, evs F gv b es en st = .ok zs st' → zs.length = es.length
  | [], en, st, st', zs, h => by unfold evs at h; cases h; rfl
  | e :: es, en, st, st', zs, h => by
    unfold evs at h
    cases h1 : ev F gv b e en st with
    | ok z st1 =>
      rw [h1] at h
      simp only [R.bind_ok] at h
      cases h2 : evs F gv b es en st1 with
      | ok ys st2 =>
        rw [h2] at h
        cases h
        rw [List.length_cons, List.length_cons, evs_len h2]
      | exn _ _ _ => rw [h2] at h; cases h
      | no => rw [h2] at h; cases h
    | exn _ _ _ => rw [h1] at h; cases h
    | no => rw [h1] at h; cases h
theorem tzs_next {es : List E} {σ : L2.St} {H : Hp} {en : En} {ρ : Ro} {st : Sto} {Q : List V → Hp → Prop} (r : RepE c.K ρ H en σ) (w : Wd c.K ρ st H) {α : Type} {f : List Z → Sto → R α} {P : α → Sto → Ro → Hp → Prop}
    (q : RSat c.K c.b ρ H st ((evs c.F c.G c.b es en st).bind f) P)
    (k : ∀ zs st1 ρ1 H1 vs, Evo ρ H ρ1 H1 → Sub c.b st st1 → Wd c.K ρ1 st1 H1 → RepE c.K ρ1 H1 en σ → RepL c.K ρ1 H1 zs vs → zs.length = es.length → RSat c.K c.b ρ1 H1 st1 (f zs st1) P → Q vs H1) : TZs c es σ H Q := by
  refine ⟨en, ρ, st, r, w, ?_⟩
  have q := q.bind
  cases h : evs c.F c.G c.b es en st with
  | ok zs st1 =>
    rw [h] at q
    exact fun ρ1 H1 e1 s1 w1 vs hv => k zs st1 ρ1 H1 vs e1 s1 w1 (r.evo e1) hv (evs_len h) (q ρ1 H1 e1 s1 w1)
  | exn _ _ _ => rw [h] at q; exact q.elim
  | no => rw [h] at q; exact q.elim
theorem s_nil : PA X [] (TZs c []) := pa_imp pa_nil fun σ H Q ⟨en, ρ, st, r, w, q⟩ => by
  unfold evs at q
  exact q.ok_inv w [] (repL_nil.mpr rfl)
theorem s_cons {e : E} {es : List E} {x : Expr} {xs : List Expr} (hx : PE X x (TZ c e)) (hxs : PA X xs (TZs c es)) (ns : notStar x = true) : PA X (x :: xs) (TZs c (e :: es)) := by
  refine pa_imp (pa_cons hx hxs (star_cons ns)) fun σ H Q ⟨en, ρ, st, r, w, q⟩ => ?_
  unfold evs at q
  refine tz_next r w q fun z st1 ρ1 H1 v e1 s1 w1 r1 hv q1 => ?_
  refine tzs_next r1 w1 q1 fun zs st2 ρ2 H2 vs e2 s2 w2 r2 hvs _ q2 => ?_
  exact q2.ok_inv w2 _ (repL_cons.mpr ⟨v, vs, rfl, hv.evo e2, hvs⟩)
theorem s_knil : L2.PK X [] (TZs c []) := pkw_imp pk_nil fun σ H Q ⟨en, ρ, st, r, w, q⟩ => by
  unfold evs at q
  exact q.ok_inv w [] (repL_nil.mpr rfl)
theorem s_kcons {e : E} {es : List E} {x : Expr} {n : Option Str} {p : Pos} {xs : List Keyword} (hx : PE X x (TZ c e)) (hxs : L2.PK X xs (TZs c es)) : L2.PK X (⟨n, x, p⟩ :: xs) (TZs c (e :: es)) := by
  refine pkw_imp (pk_cons hx hxs) fun σ H Q ⟨en, ρ, st, r, w, q⟩ => ?_
  unfold evs at q
  refine tz_next r w q fun z st1 ρ1 H1 v e1 s1 w1 r1 hv q1 => ?_
  refine tzs_next r1 w1 q1 fun zs st2 ρ2 H2 vs e2 s2 w2 r2 hvs _ q2 => ?_
  exact q2.ok_inv w2 _ (repL_cons.mpr ⟨v, vs, rfl, hv.evo e2, hvs⟩)
theorem s_tup {es : List E} {xs : List Expr} {k : Nat} {p : Pos} (hl : es.length ≤ 1000) (h : PA X xs (TZs c es)) : PE X (.Tuple xs k p) (TZ c (.tup es)) := by
  refine pe_imp (pe_tup h) fun σ H Q ⟨en, ρ, st, r, w, q⟩ => ?_
  unfold ev at q
  refine tzs_next r w q fun zs st1 ρ1 H1 vs e1 s1 w1 r1 hvs lz q1 => ?_
  refine ⟨by rw [hvs.length, lz, sizeL_eq]; unfold sizeL; omega, ?_⟩
  exact new_tup w1 hvs (by rw [lz]; unfold sizeL; omega) fun ρ' H' v e' w' r' => q1 ρ' H' e' .refl w' v r'
theorem s_lst {k : Bool} {es : List E} {xs : List Expr} {p : Pos} (hl : es.length ≤ 1000) (h : PA X xs (TZs c es)) : PE X (.List xs p) (TZ c (.lst k es)) := by
  refine pe_imp (pe_lst h) fun σ H Q ⟨en, ρ, st, r, w, q⟩ => ?_
  unfold ev at q
  refine tzs_next r w q fun zs st1 ρ1 H1 vs e1 s1 w1 r1 hvs lz q1 => ?_
  refine ⟨by rw [hvs.length, lz, sizeL_eq]; unfold sizeL; omega, ?_⟩
  exact new_k w1 hvs (by rw [lz]; unfold sizeL; omega) q1
/-! ### subscripts, slices, fields -/
theorem plainIx {y : Expr} (h : notSlice y = true) : PlainIx y := fun o i => by
  cases y <;> first | rfl | cases h
theorem s_ix {a i : E} {x y : Expr} {p : Pos} (g : Gd tb c X S) (hn : notSlice y = true) (ha : PE X x (TZ c a)) (hi : PE X y (TZ c i)) : PE X (.Subscript x y p) (TZ c (.ix a i)) := by
  refine pe_imp (pe_ix ix_seq ha hi (plainIx hn)) fun σ H Q ⟨en, ρ, st, r, w, q⟩ => ?_
  unfold ev at q
  refine tz_next r w q fun z st1 ρ1 H1 v e1 s1 w1 r1 hv q1 => ?_
  refine tz_next r1 w1 q1 fun z2 st2 ρ2 H2 v2 e2 s2 w2 r2 hv2 q2 => ?_
  obtain ⟨u, eu, q3⟩ := q2.ofO_inv w2
  rw [g.k]
  exact zix_ok w2 (hv.evo e2) hv2 eu q3
theorem tzo_next {e : Option E} {σ : L2.St} {H : Hp} {en : En} {ρ : Ro} {st : Sto} {Q : Option Int → Hp → Prop} (r : RepE c.K ρ H en σ) (w : Wd c.K ρ st H) {α : Type} {f : Option Int → Sto → R α} {P : α → Sto → Ro → Hp → Prop}
    (q : RSat c.K c.b ρ H st ((evo c.F c.G c.b e en st).bind f) P)
    (k : ∀ i st1 ρ1 H1, Evo ρ H ρ1 H1 → Sub c.b st st1 → Wd c.K ρ1 st1 H1 → RepE c.K ρ1 H1 en σ → RSat c.K c.b ρ1 H1 st1 (f i st1) P → Q i H1) : TZo c e σ H Q :=
  ⟨en, ρ, st, r, w, q.bind.mono fun i st1 ρ1 H1 e1 s1 w1 q1 => k i st1 ρ1 H1 e1 s1 w1 (r.evo e1) q1⟩
theorem s_onone : PO X none (TZo c none) := po_imp po_none fun σ H Q ⟨en, ρ, st, r, w, q⟩ => by
  unfold evo at q
  exact q.ok_inv w
theorem s_osome {e : E} {x : Expr} (h : PE X x (TZ c e)) : PO X (some x) (TZo c (some e)) := by
  refine po_imp (po_some h) fun σ H Q ⟨en, ρ, st, r, w, q⟩ => ?_
  unfold evo at q
  refine tz_next r w q fun z st1 ρ1 H1 v e1 s1 w1 r1 hv q1 => ?_
  cases z with
  | int i => exact ⟨i, rep_int.mp hv, q1.ok_inv w1⟩
  | _ => exact q1.elim
theorem s_sl {k : Bool} {a : E} {lo hi : Option E} {x : Expr} {l h : Option Expr} {p p2 : Pos} (g : Gd tb c X S) (ha : PE X x (TZ c a)) (hl : PO X l (TZo c lo)) (hh : PO X h (TZo c hi)) : PE X (.Subscript x (.Slice l h none p2) p) (TZ c (.sl k a lo hi)) := by
  refine pe_imp (pe_slice vSl_op ha hl hh) fun σ H Q ⟨en, ρ, st, r, w, q⟩ => ?_
  unfold ev at q
  refine tz_next r w q fun z st1 ρ1 H1 v e1 s1 w1 r1 hv q1 => ?_
  refine tzo_next r1 w1 q1 fun i st2 ρ2 H2 e2 s2 w2 r2 q2 => ?_
  refine tzo_next r2 w2 q2 fun j st3 ρ3 H3 e3 s3 w3 r3 q3 => ?_
  have q3 := q3.bind
  cases hz : zsl st3 z i j with
  | none => rw [hz] at q3; exact q3.elim
  | some u =>
    rw [hz] at q3
    rw [g.k]
    exact zsl_ok (k := k) w3 ((hv.evo e2).evo e3) hz (q3.ok_inv w3)
theorem s_rv {k : Bool} {a : E} {x : Expr} {n : Nat} {p1 p2 p3 p : Pos} (g : Gd tb c X S) (ha : PE X x (TZ c a)) : PE X (.Subscript x (.Slice none none (some (.UnaryOp .USub (.Constant (.int 1) n p1) p2)) p3) p) (TZ c (.rv k a)) := by
  refine pe_imp (pe_revL ha) fun σ H Q ⟨en, ρ, st, r, w, q⟩ => ?_
  unfold ev at q
  refine tz_next r w q fun z st1 ρ1 H1 v e1 s1 w1 r1 hv q1 => ?_
  cases hd : dr st1 z with
  | lst xs =>
    rw [hd] at q1
    obtain ⟨a, vs, rfl, h1, l, h4⟩ := dr_lst_at w1 hv hd
    rw [g.k]
    exact ⟨a, vs, rfl, h1, new_k w1 h4.reverse (by rw [List.length_reverse]; exact l) q1⟩
  | _ => rw [hd] at q1; exact q1.elim
theorem getF_rep {K : PySem.W.Frag} {ρ : Ro} {H : Hp} {f : String} : ∀ {fs : List String} {zs : List Z} {vs : List V} {z : Z}, getF f fs zs = some z → RepL K ρ H zs vs → ∃ v, (fz fs vs).lookup (Str.ofString f) = some v ∧ Rep K ρ H z v
  | [], _, _, _, e, _ => by cases e
  | g :: gs, [], _, _, e, _ => by cases e
  | g :: gs, y :: zs, vs, z, e, r => by
    obtain ⟨v, us, rfl, h1, h2⟩ := repL_cons.mp r
    unfold getF at e
    show ∃ v', List.lookup (Str.ofString f) ((Str.ofString g, v) :: (gs.map Str.ofString).zip us) = some v' ∧ _
    by_cases q : f = g
    · subst q
      rw [if_pos (beq_self_eq_true f)] at e
      cases e
      exact ⟨v, by simp [List.lookup], h1⟩
    · have qb : (f == g) = false := by simpa using q
      rw [if_neg (by rw [qb]; exact Bool.false_ne_true)] at e
      by_cases q2 : Str.ofString f = Str.ofString g
      · exact absurd (ofString_inj q2) q
      · have qb2 : (Str.ofString f == Str.ofString g) = false := by simpa using q2
        obtain ⟨v', e1, e2⟩ := getF_rep e h2
        exact ⟨v', by rw [List.lookup_cons, qb2]; exact e1, e2⟩
theorem s_fd {a : E} {cl f : String} {x : Expr} {p : Pos} (g : Gd tb c X S) (hc : noCall x = true) (h : tb.at_ cl f = true) (ha : PE X x (TZ c a)) : PE X (.Attribute x (Str.ofString f) p) (TZ c (.fd a cl f)) := by
  have hb : attributeBase x (Str.ofString f) X.env (eval x X.env) = eval x X.env := by cases x <;> first | rfl | cases hc
  refine pe_imp (pe_fld ha hb) fun σ H Q ⟨en, ρ, st, r, w, q⟩ => ?_
  unfold ev at q
  refine tz_next r w q fun z st1 ρ1 H1 v e1 s1 w1 r1 hv q1 => ?_
  obtain ⟨u, eu, q2⟩ := q1.ofO_inv w1
  obtain ⟨c1, c2⟩ := g.at_ cl f h
  unfold zfd at eu
  cases hd : dr st1 z with
  | ins c' fs zs =>
    rw [hd] at eu
    by_cases hcc : (c' == cl) = true
    · have e : c' = cl := by simpa using hcc
      subst e
      simp only [beq_self_eq_true, if_true] at eu
      obtain ⟨a, dx, vs, rfl, h1, h2, h3⟩ := dr_ins_at w1 hv hd
      obtain ⟨v', l1, l2⟩ := getF_rep eu h3
      rw [g.k]
      rw [g.k] at c1 c2
      exact ⟨a, _, dx, _, v', rfl, h1, c1, c2, l1, q2 v' l2⟩
    · simp only [if_neg hcc] at eu
      cases eu
  | _ => rw [hd] at eu; cases eu
end
end ZZ

end
section
set_option maxHeartbeats 2000000
/-! ZSnd3: calls. -/
namespace ZZ
open PySem PySem.Spec PyProof.Rows L2
section
variable {tb : Tb} {c : Cf} {X : Cx} {S : Sc}
theorem boot_bf (f : BF) : bootBuiltins (Str.ofString (bfName f)) = some (bfVal f) := by cases f <;> decide +kernel
theorem bf_names (f : BF) : bfName f ∈ bis := by cases f <;> decide
theorem bf_nn (f : BF) : Str.ofString (bfName f) ≠ "__name__" := by cases f <;> decide
theorem s_bf {k : Bool} {f : BF} {es : List E} {x : Expr} {xs : List Expr} {p p2 : Pos} (g : Gd tb c X S) (hg : glC S (Str.ofString (bfName f)) = true) (hs : (x :: xs).all notStar = true) (ha : PA X (x :: xs) (TZs c es)) : PE X (.Call (.Name (Str.ofString (bfName f)) p) (x :: xs) [] p2) (TZ c (.bf k f es)) := by
  obtain ⟨h1, h2⟩ := glC_ok g hg
  rw [List.all_cons] at hs
  obtain ⟨hs1, hs2⟩ := and_t hs
  have key : ∀ σ H Q, TZ c (.bf k f es) σ H Q → tCB (vBf X.K f) (TZs c es) σ H Q := fun σ H Q ⟨en, ρ, st, r, w, q⟩ => by
    unfold ev at q
    refine tzs_next r w q fun zs st1 ρ1 H1 vs e1 s1 w1 r1 hvs lz q1 => ?_
    have q2 := q1.bind
    cases hz : zbf f st1 zs with
    | none => rw [hz] at q2; exact q2.elim
    | some z =>
      rw [hz] at q2
      rw [g.k]
      exact zbf_ok (k := k) w1 hvs hz (q2.ok_inv w1)
  refine ⟨fun pins s σ H Q I h => ?_⟩
  refine wpAny_Call_Name_kw (ld_blt I h1 (g.bi _ (bf_names f)) (boot_bf f) ?_ (bf_nn f) h2)
  have op : CallR X (bfVal f) (vBf X.K f) := vBf_op g.calm f
  have h := key σ H Q h
  have fin : wpAny (model X.prog X.w) X.A (spliced (backTo p2 (starEach (x :: xs) X.env))) (fun us s1 => wpAny (model X.prog X.w) X.A (PySem.call (bfVal f) us) (EP X pins σ Q) X.xe s1) X.xe s :=
    thn (ha.run p2 pins s σ H _ I h) fun us s1 ⟨vs, H1, I1, r1, q1⟩ => op pins s1 σ H1 vs us Q I1 r1 q1
  cases f with
  | toInt => exact PyProof.Rows.callWith_type1 fin (star_cons hs1) (star_any hs2)
  | list => exact PyProof.Rows.callWith_type1 fin (star_cons hs1) (star_any hs2)
  | tuple => exact PyProof.Rows.callWith_type1 fin (star_cons hs1) (star_any hs2)
  | _ => exact PyProof.Rows.callWith_builtin1 fin (star_cons hs1) (star_any hs2)
/-! ### isinstance -/
theorem tyName_cases {T : String} (h : tyName T = true) : T = "int" ∨ T = "bool" ∨ T = "str" ∨ T = "list" ∨ T = "tuple" := by
  unfold tyName at h
  simp only [Bool.or_eq_true, beq_iff_eq] at h
  rcases h with (((h | h) | h) | h) | h
  · exact .inl h
  · exact .inr (.inl h)
  · exact .inr (.inr (.inl h))
  · exact .inr (.inr (.inr (.inl h)))
  · exact .inr (.inr (.inr (.inr h)))
theorem boot_ty {T : String} (h : tyName T = true) : bootBuiltins (Str.ofString T) = some (.type T) := by
  rcases tyName_cases h with rfl | rfl | rfl | rfl | rfl <;> decide +kernel
theorem ty_bis {T : String} (h : tyName T = true) : T ∈ bis ∧ Str.ofString T ≠ "__name__" := by
  rcases tyName_cases h with rfl | rfl | rfl | rfl | rfl <;> decide
theorem kit_is {K : PySem.W.Frag} {T t : String} (h : tyName T = true) (ht : t = "NoneType" ∨ t = "bool" ∨ t = "int" ∨ t = "str" ∨ t = "list" ∨ t = "tuple") : PySem.W.kitOne K (.type t) (.type T) = some (isTy T t) := by
  refine kit_ty ?_
  rcases tyName_cases h with rfl | rfl | rfl | rfl | rfl <;> rcases ht with rfl | rfl | rfl | rfl | rfl | rfl <;> decide +kernel
theorem s_tyname {T : String} {x : Expr} (g : Gd tb c X S) (h : chkTy S T x = true) : PE X x (tC (.ty T)) ∧ tyName T = true := by
  unfold chkTy at h
  split at h
  · rename_i y p
    obtain ⟨h, h3⟩ := and_t h
    obtain ⟨h1, h2⟩ := and_t h
    have h1 := of_decide_eq_true h1
    subst h1
    obtain ⟨q1, q2⟩ := glC_ok g h2
    exact ⟨pe_bltn q1 (g.bi _ (ty_bis h3).1) (boot_ty h3) rfl (ty_bis h3).2 q2, h3⟩
  · cases h
/-- what a value's kind is -/
theorem tyX_of {K : PySem.W.Frag} {ρ : Ro} {H : Hp} {st : Sto} {z : Z} {v : V} {t : String} (w : Wd K ρ st H) (h : Rep K ρ H z v) (e : tyOf (dr st z) = some t) :
    TyX K H v (.type t) ∧ (t = "NoneType" ∨ t = "bool" ∨ t = "int" ∨ t = "str" ∨ t = "list" ∨ t = "tuple") := by
  cases hd : dr st z with
  | non =>
    rw [hd] at e; cases e
    cases z with
    | non => rw [rep_non.mp h]; exact ⟨.base .non, .inl rfl⟩
    | cel n => rw [dr_cel] at hd; cases q : st[n]? with
      | none => rw [q] at hd; cases hd
      | some c => rw [q] at hd; cases c <;> cases hd
    | _ => cases hd
  | bl b =>
    rw [hd] at e; cases e
    cases z with
    | bl b => cases hd; rw [rep_bl.mp h]; exact ⟨.base (.bl _), .inr (.inl rfl)⟩
    | cel n => rw [dr_cel] at hd; cases q : st[n]? with
      | none => rw [q] at hd; cases hd
      | some c => rw [q] at hd; cases c <;> cases hd
    | _ => cases hd
  | int i => rw [hd] at e; cases e; have := dr_int_at hd; subst this; rw [rep_int.mp h]; exact ⟨.base (.int _), .inr (.inr (.inl rfl))⟩
  | str s =>
    rw [hd] at e; cases e
    have := dr_str_at hd; subst this
    obtain ⟨rfl, l, _⟩ := rep_str.mp h
    exact ⟨.base (.str _), .inr (.inr (.inr (.inl rfl)))⟩
  | lst zs =>
    rw [hd] at e; cases e
    obtain ⟨a, vs, rfl, h1, _, h4⟩ := dr_lst_at w h hd
    refine ⟨?_, .inr (.inr (.inr (.inr (.inl rfl))))⟩
    rcases h1 with (h1 | ⟨o, h1⟩) | ⟨o, its, n, h1, h2, _⟩
    · exact .base (.lst h1)
    · exact .base (.frz h1)
    · exact .kList h1 h2
  | tup zs =>
    rw [hd] at e; cases e
    obtain ⟨a, vs, rfl, h1, _, h4, _⟩ := dr_tup_at w h hd
    refine ⟨?_, .inr (.inr (.inr (.inr (.inr rfl))))⟩
    rcases h1 with (h1 | ⟨o, h1⟩) | ⟨o, its, n, h1, h2, _⟩
    · exact .base (.tup h1)
    · exact .fTuple h1
    · exact .kTuple h1 h2
  | dic ks vs =>
    exfalso
    cases z with
    | dic _ _ => unfold Rep at h; exact h
    | cel n =>
      rw [dr_cel] at hd
      cases q : st[n]? with
      | none => rw [q] at hd; cases hd
      | some c =>
        rw [q] at hd
        cases c with
        | dic _ _ => obtain ⟨o, _, e2⟩ := w.at_ n _ q; exact e2
        | _ => cases hd
    | _ => cases hd
  | ins _ _ _ => rw [hd] at e; cases e
  | scr _ => rw [hd] at e; cases e
  | cel _ => rw [hd] at e; cases e
theorem kitAny_of {K : PySem.W.Frag} {t : String} : ∀ {Ts : List String}, Ts ≠ [] → (∀ T ∈ Ts, PySem.W.kitOne K (.type t) (.type T) = some (isTy T t)) → PySem.W.kitAny K (.type t) (Ts.map Value.type) = some (Ts.any fun T => isTy T t)
  | [], h, _ => absurd rfl h
  | T :: Ts, _, h => by
    have h1 := h T List.mem_cons_self
    rw [List.any_cons]
    cases hT : isTy T t with
    | true =>
      rw [hT] at h1
      rw [Bool.true_or]
      refine kitAny_cons h1 (fun z => by cases z) fun _ => rfl
    | false =>
      rw [hT] at h1
      rw [Bool.false_or]
      refine kitAny_cons h1 (fun _ => ?_) fun z => by cases z
      cases Ts with
      | nil => rfl
      | cons U Us => exact kitAny_of (by simp) fun T hT => h T (List.mem_cons_of_mem _ hT)
theorem chkTys_ok (g : Gd tb c X S) : ∀ {Ts : List String} {xs : List Expr}, chkTys S Ts xs = true → (∀ T ∈ Ts, tyName T = true) ∧ ∃ t, PA X xs t ∧ (∀ σ H (Q : List V → Hp → Prop), Q (Ts.map V.ty) H → t σ H Q) ∧ xs.all notStar = true
  | [], [], _ => ⟨fun _ h => (by cases h), _, pa_nil, (fun _ _ _ q => q), rfl⟩
  | T :: Ts, x :: xs, h => by
    unfold chkTys at h
    obtain ⟨h1, h2⟩ := and_t h
    obtain ⟨p1, n1⟩ := s_tyname g h1
    obtain ⟨n2, t, p2, k, st⟩ := chkTys_ok g h2
    have ns : notStar x = true := by
      unfold chkTy at h1
      split at h1
      · rfl
      · cases h1
    refine ⟨fun U hU => ?_, _, pa_cons p1 p2 (star_cons ns), fun σ H Q q => k σ H _ q, by rw [List.all_cons, ns, st]; rfl⟩
    rcases List.mem_cons.mp hU with rfl | hU
    · exact n1
    · exact n2 U hU
  | [], _ :: _, h => by cases h
  | _ :: _, [], h => by cases h
theorem paired_tys : ∀ Ts : List String, Paired ClsV (Ts.map V.ty) (Ts.map Value.type)
  | [] => .nil
  | T :: Ts => .cons (.ty T) (paired_tys Ts)
theorem s_isi {a : E} {Ts : List String} {x y : Expr} {p p2 : Pos} (g : Gd tb c X S) (hg : glC S (Str.ofString "isinstance") = true) (hn : notStar x = true) (hT : Ts ≠ []) (hl : Ts.length ≤ 10) (ha : PE X x (TZ c a)) (hy : chkTyX S Ts y = true) : PE X (.Call (.Name (Str.ofString "isinstance") p) [x, y] [] p2) (TZ c (.isi a Ts)) := by
  obtain ⟨h1, h2⟩ := glC_ok g hg
  have call {r : List V → Hp → VK → Prop} {ty : TE} (hy : PE X y ty) (ny : notStar y = true) (hc : CallR X (.builtin "isinstance") r) : PE X (.Call (.Name (Str.ofString "isinstance") p) [x, y] [] p2) (tCB r (tCons (TZ c a) (tCons ty tNil))) :=
    pe_callB hc h1 (g.bi _ (by decide)) (by decide +kernel) (pa_cons ha (pa_cons hy pa_nil (star_cons ny)) (star_cons hn)) (by decide) h2 (star_cons hn) (star_any (by rw [List.all_cons, ny]; rfl))
  have fin : ∀ (σ : L2.St) (H : Hp) (Q : VK), TZ c (.isi a Ts) σ H Q → TZ c a σ H fun v H1 => ∃ t, TyX c.K H1 v (.type t) ∧ (t = "NoneType" ∨ t = "bool" ∨ t = "int" ∨ t = "str" ∨ t = "list" ∨ t = "tuple") ∧ Q (.bl (Ts.any fun T => isTy T t)) H1 ∧
      ∀ p, H1 p = none → ∃ ρ st, Wd c.K ρ st H1 ∧ RSat c.K c.b ρ H1 st (.ok (.bl (Ts.any fun T => isTy T t)) st) (PK c.K Q) ∧ ∃ z, Rep c.K ρ H1 z v ∧ tyOf (dr st z) = some t := by
    intro σ H Q ⟨en, ρ, st, r, w, q⟩
    unfold ev at q
    refine tz_next r w q fun z st1 ρ1 H1 v e1 s1 w1 r1 hv q1 => ?_
    cases ht : tyOf (dr st1 z) with
    | none => rw [ht] at q1; exact q1.elim
    | some t =>
      rw [ht] at q1
      obtain ⟨t1, t2⟩ := tyX_of w1 hv ht
      exact ⟨t, t1, t2, q1 ρ1 H1 .refl .refl w1 _ (rep_bl.mpr rfl), fun p hp => ⟨ρ1, st1, w1, q1, z, hv, ht⟩⟩
  have one : ∀ T, Ts = [T] → chkTy S T y = true → PE X (.Call (.Name (Str.ofString "isinstance") p) [x, y] [] p2) (TZ c (.isi a Ts)) := by
    intro T eT hT2
    subst eT
    obtain ⟨p1, n1⟩ := s_tyname g hT2
    have ns : notStar y = true := by
      unfold chkTy at hT2
      split at hT2
      · rfl
      · cases hT2
    refine pe_imp (call p1 ns call_isi) fun σ H Q h => ?_
    obtain ⟨en, ρ, st, r, w, q⟩ := fin σ H Q h
    refine ⟨en, ρ, st, r, w, q.mono fun z st1 ρ1 H1 e1 s1 w1 q v hv => ?_⟩
    obtain ⟨t, t1, t2, q3, _⟩ := q v hv
    rw [g.k]
    refine ⟨v, .ty T, .type t, .type T, _, rfl, .ty T, t1, kit_is n1 t2, ?_⟩
    simpa using q3
  unfold chkTyX at hy
  split at hy
  · rename_i xs k1 tp
    obtain ⟨n1, t, p1, k, stx⟩ := chkTys_ok g hy
    · have hp : PE X (.Tuple xs k1 tp) (tTup t) := pe_tup p1
      refine pe_imp (call hp rfl call_isiT) fun σ H Q h => ?_
      obtain ⟨en, ρ, st, r, w, q⟩ := fin σ H Q h
      refine ⟨en, ρ, st, r, w, q.mono fun z st1 ρ1 H1 e1 s1 w1 q v hv => ?_⟩
      obtain ⟨ty, t1, t2, q3, q4⟩ := q v hv
      refine k σ H1 _ ⟨by rw [List.length_map, sizeL_eq]; unfold sizeL; omega, fun pp hp => ?_⟩
      obtain ⟨ρ2, st2, w2, q5, z2, hv2, ht2⟩ := q4 pp hp
      rw [g.k]
      have e2 := evo_new (ρ := ρ2) (o := .tup (Ts.map V.ty)) hp
      obtain ⟨t3, t4⟩ := tyX_of (w2.new (o := .tup (Ts.map V.ty)) hp) (hv2.evo e2) ht2
      exact ⟨v, pp, _, _, _, _, rfl, upd_same, paired_tys Ts, t3, kitAny_of hT fun T hT' => kit_is (n1 T hT') t4, q5 ρ2 _ e2 .refl (w2.new hp) _ (rep_bl.mpr rfl)⟩
  · split at hy
    · exact one _ rfl hy
    · cases hy
/-! ### own functions -/
theorem evs_nil {F : FT} {gv : String → Option Z} {b : Nat} {en : En} {st : Sto} : evs F gv b [] en st = .ok [] st := by unfold evs; rfl
theorem kw_names : ∀ {kws : List Keyword} {es : List E} {ks : List String} {env : Env} {pos : Pos}, chkK tb S es ks kws = true →
    (backToKw pos (keywordEach kws env)).all (·.1.isSome) = true ∧ (backToKw pos (keywordEach kws env)).filterMap (·.1) = ks.map Str.ofString ∧ (backToKw pos (keywordEach kws env)).any (·.1.isNone) = false ∧ es.length = ks.length
  | [], [], [], _, _, _ => ⟨rfl, rfl, rfl, rfl⟩
  | [], [], _ :: _, _, _, h => by unfold chkK at h; cases h
  | [], _ :: _, [], _, _, h => by unfold chkK at h; cases h
  | [], _ :: _, _ :: _, _, _, h => by unfold chkK at h; cases h
  | ⟨none, x, p⟩ :: kws, [], [], _, _, h => by unfold chkK at h; cases h
  | ⟨none, x, p⟩ :: kws, [], _ :: _, _, _, h => by unfold chkK at h; cases h
  | ⟨none, x, p⟩ :: kws, _ :: _, [], _, _, h => by unfold chkK at h; cases h
  | ⟨none, x, p⟩ :: kws, _ :: _, _ :: _, _, _, h => by unfold chkK at h; cases h
  | ⟨some n, x, p⟩ :: kws, [], [], _, _, h => by unfold chkK at h; cases h
  | ⟨some n, x, p⟩ :: kws, [], _ :: _, _, _, h => by unfold chkK at h; cases h
  | ⟨some n, x, p⟩ :: kws, _ :: _, [], _, _, h => by unfold chkK at h; cases h
  | ⟨some n, x, p⟩ :: kws, e :: es, k :: ks, env, pos, h => by
    unfold chkK at h
    obtain ⟨h, h3⟩ := and_t h
    obtain ⟨h1, h2⟩ := and_t h
    have h1 := of_decide_eq_true h1
    subst h1
    obtain ⟨q1, q2, q3, q4⟩ := kw_names (env := env) (pos := pos) h3
    refine ⟨?_, ?_, ?_, by rw [List.length_cons, List.length_cons, q4]⟩
    · show (true && (backToKw pos (keywordEach kws env)).all (·.1.isSome)) = true
      rw [q1]; rfl
    · show Str.ofString k :: (backToKw pos (keywordEach kws env)).filterMap (·.1) = _
      rw [q2]; rfl
    · show (false || (backToKw pos (keywordEach kws env)).any (·.1.isNone)) = false
      rw [q3]; rfl
/-- the callee runs -/
theorem run_z {f : String} {a : Addr} {fd : FuncData} {d : FnD} {G' : List Z → Nat → Sto → R Z} {k : Nat} {pins : List (Addr × Obj)} {σ : L2.St} {H : Hp} {s : Shared} {Q : VK} {zs : List Z} {vs : List V} {us ws : List Value} {ks : List String} {ρ : Ro} {st : Sto}
    (fc : FnC c X f a fd d G' k) (gk : X.K = c.K) (hr : Room k X.A) (I : Inv X pins σ H s) (w : Wd c.K ρ st H) (hv : RepL c.K ρ H zs vs) (rv : Vals vs (us ++ ws)) (lw : ws.length = ks.length)
    (q : RSat c.K c.b ρ H st (c.F f zs ks c.b st) (PK c.K Q)) : wpAny (model X.prog X.w) X.A (PySem.call (.ref a) us ((ks.map Str.ofString).zip ws)) (EP X pins σ Q) X.xe s := by
  rw [fc.run] at q
  cases hb : bindZ d zs ks with
  | none => rw [hb] at q; exact q.elim
  | some as =>
    rw [hb] at q
    obtain ⟨us', vs', b1, b2, b3, b4⟩ := fc.bind zs as ks hb ρ H st vs us ws w hv rv lw s (by rw [← gk]; exact I.kIn)
    refine wpAny_call (codeAny_mono (fc.ok.run X.A X.stack s H ⟨us, (ks.map Str.ofString).zip ws⟩ us' vs' Q (fun _ _ _ => False) hr I.env0 b1 b2 ⟨as, ρ, st, c.b, b4, b3, w, q⟩) fun r s' hq => ?_)
    cases r with
    | error e => exact hq.elim
    | ok fl =>
      cases fl with
      | ret u => exact I.after hq
      | next => exact False.elim hq
      | brk => exact False.elim hq
      | cont => exact False.elim hq
theorem s_call {f : String} {es kes : List E} {ks : List String} {xs : List Expr} {kws : List Keyword} {p p2 : Pos} (g : Gd tb c X S) (hg : glC S (Str.ofString f) = true) (hf : tb.fn f = true) (hs : xs.all notStar = true) (hn : xs = [] → es = []) (ha : PA X xs (TZs c es)) (hk : L2.PK X kws (TZs c kes)) (hkk : chkK tb S kes ks kws = true) :
    PE X (.Call (.Name (Str.ofString f) p) xs kws p2) (TZ c (.call f es kes ks)) := by
  obtain ⟨h1, h2⟩ := glC_ok g hg
  obtain ⟨a, fd, d, G', k, m, hr, fc⟩ := g.fn f hf
  obtain ⟨k1, k2, k3, k4⟩ := kw_names (env := X.env) (pos := p2) hkk
  refine ⟨fun pins s σ H Q I ⟨en, ρ, st, r, w, q⟩ => ?_⟩
  unfold ev at q
  refine wpAny_Call_Name_kw (ld_glob I h1 m ?_ h2)
  have args : wpAny (model X.prog X.w) X.A (spliced (backTo p2 (starEach xs X.env))) (fun us s1 => wpAny (model X.prog X.w) X.A (evalAll ((backToKw p2 (keywordEach kws X.env)).map (·.2)))
      (fun wz s2 => X.K.In s2.heap ∧ wpAny (model X.prog X.w) X.A (PySem.call (.ref a) ([] ++ us) (((backToKw p2 (keywordEach kws X.env)).filterMap (·.1)).zip wz)) (EP X pins σ Q) X.xe s2) X.xe s1) X.xe s := by
    have q1 : TZs c es σ H fun vs H1 => TZs c kes σ H1 fun us H2 => ∃ zs ys ρ2 st2, Wd c.K ρ2 st2 H2 ∧ RepL c.K ρ2 H2 zs vs ∧ RepL c.K ρ2 H2 ys us ∧ ys.length = kes.length ∧ RSat c.K c.b ρ2 H2 st2 (c.F f (zs ++ ys) ks c.b st2) (PK c.K Q) := by
      refine tzs_next r w q fun zs st1 ρ1 H1 vs e1 s1 w1 r1 hv _ q1 => ?_
      refine tzs_next r1 w1 q1 fun ys st2 ρ2 H2 us e2 s2 w2 r2 hu ly q2 => ?_
      exact ⟨zs, ys, ρ2, st2, w2, RepL.evo e2 _ _ hv, hu, ly, q2⟩
    refine thn (ha.run p2 pins s σ H _ I q1) fun us s1 ⟨vs, H1, I1, r1, q2⟩ => ?_
    refine thn (hk.run p2 pins s1 σ H1 _ I1 q2) fun wz s2 ⟨zs2, H2, I2, rz, zs, ys, ρ2, st2, w2, hv, hu, ly, q3⟩ => ⟨I2.kIn, ?_⟩
    rw [k2]
    exact run_z fc g.k hr I2 w2 (hv.append hu) (r1.append rz) (by rw [← rz.length, hu.length, ly, k4]) q3
  cases xs with
  | nil =>
    refine PySem.W.callWith_KW0 (h₀ := X.base) I.ok.mod.kin fc.kp k1 ?_ (by rw [k3]; rfl)
    have e0 := hn rfl
    subst e0
    rw [evs_nil] at q
    have q : RSat c.K c.b ρ H st ((evs c.F c.G c.b kes en st).bind fun ys st => c.F f ([] ++ ys) ks c.b st) (PK c.K Q) := q
    have q1 : TZs c kes σ H fun us H2 => ∃ ys ρ2 st2, Wd c.K ρ2 st2 H2 ∧ RepL c.K ρ2 H2 ys us ∧ ys.length = kes.length ∧ RSat c.K c.b ρ2 H2 st2 (c.F f ([] ++ ys) ks c.b st2) (PK c.K Q) :=
      tzs_next r w q fun ys st2 ρ2 H2 us e2 s2 w2 r2 hu ly q2 => ⟨ys, ρ2, st2, w2, hu, ly, q2⟩
    refine thn (hk.run p2 pins s σ H _ I q1) fun wz s2 ⟨zs2, H2, I2, rz, ys, ρ2, st2, w2, hu, ly, q3⟩ => ⟨I2.kIn, ?_⟩
    rw [k2]
    exact run_z (us := []) fc g.k hr I2 w2 hu rz (by rw [← rz.length, hu.length, ly, k4]) q3
  | cons x xs =>
    rw [List.all_cons] at hs
    obtain ⟨hs1, hs2⟩ := and_t hs
    refine PySem.W.callWith_KW (h₀ := X.base) I.ok.mod.kin fc.kp k1 args (by rw [k3, star_any (by rw [List.all_cons, hs1, hs2]; rfl)]; rfl) (star_cons hs1)
/-! ### methods of lists -/
def rInsertZ : V → List V → Hp → VK → Prop := fun x vs H Q => ∃ (l : Addr) (xs : List V) (i : Int) (y : V), x = .ref l ∧ vs = [.int i, y] ∧ H l = some (.lst xs) ∧ xs.length < sizeLine ∧ 0 ≤ i ∧ i < 2 ^ 63 ∧
    Q .non (upd H l (.lst (xs.take i.toNat ++ [y] ++ xs.drop i.toNat)))
def vBm : BM → V → List V → Hp → VK → Prop
  | .append => rAppend | .pop => rPop | .popAt => rPopAt | .extend => rExtend | .insert => rInsertZ | .reverse => rReverse
theorem okW_inv {n : Nat} {z : Z} {st : Sto} {cl : Cl} {y : Z} {b : Nat} {K : PySem.W.Frag} {ρ : Ro} {H : Hp} {P : Z → Sto → Ro → Hp → Prop} (q : RSat K b ρ H st (okW b n z st cl y) P) : mayW b n z = true ∧ RSat K b ρ H st (.ok y (st.set n cl)) P := by
  unfold okW at q
  by_cases h : mayW b n z = true
  · rw [if_pos h] at q; exact ⟨h, q⟩
  · rw [if_neg h] at q; exact q.elim
theorem refsL_append : ∀ (a b : List Z), refsL (a ++ b) = refsL a ++ refsL b
  | [], b => by rw [List.nil_append]; unfold refsL; rfl
  | z :: a, b => by
    rw [List.cons_append, refsL, refsL, refsL_append a b, List.append_assoc]
theorem mem_refsL : ∀ {a : List Z} {z : Z} {m : Nat}, z ∈ a → m ∈ z.refs → m ∈ refsL a
  | [], _, _, h, _ => by cases h
  | y :: a, z, m, h, g => by
    unfold refsL
    rcases List.mem_cons.mp h with rfl | h
    · exact List.mem_append_left _ g
    · exact List.mem_append_right _ (mem_refsL h g)
theorem of_refsL : ∀ {a : List Z} {m : Nat}, m ∈ refsL a → ∃ z ∈ a, m ∈ z.refs
  | [], m, h => by unfold refsL at h; cases h
  | y :: a, m, h => by
    unfold refsL at h
    rcases List.mem_append.mp h with h | h
    · exact ⟨y, List.mem_cons_self, h⟩
    · obtain ⟨z, h1, h2⟩ := of_refsL h
      exact ⟨z, List.mem_cons_of_mem _ h1, h2⟩
/-- a list's cell gets other items -/
theorem put_lst {n : Nat} {zs zs' : List Z} {a : Addr} {vs' : List V} {K : PySem.W.Frag} {ρ : Ro} {H : Hp} {st : Sto} {b : Nat} {y : Z} {P : Z → Sto → Ro → Hp → Prop}
    (w : Wd K ρ st H) (hn : ρ.c[n]? = some (some a)) (l : zs'.length ≤ sizeL) (r : RepL K ρ H zs' vs') (hs : n < b → ∀ m ∈ refsL zs', m ∈ refsL zs) (hc : st[n]? = some (.lst zs))
    (q : RSat K b ρ H st (.ok y (st.set n (.lst zs'))) P) : P y (st.set n (.lst zs')) ρ (upd H a (.lst vs')) := by
  have e := evo_put (H := H) (o := .lst vs') hn
  refine q ρ _ e (sub_set fun c0 h0 hb m hm => ?_) (w.put hn ⟨a, vs', rfl, upd_same, l, RepL.evo e _ _ r⟩)
  rw [hc] at h0; cases h0
  exact hs hb m hm
theorem seqIx {i : Int} {n : Nat} (h : 0 ≤ i ∧ i < n) : seqIndex? i n = some i.toNat := seqIndex_of h.1 h.2
theorem zbm_ok {m : BM} {K : PySem.W.Frag} {ρ : Ro} {H : Hp} {st : Sto} {b : Nat} {o : Z} {x : V} {zs : List Z} {vs : List V} {Q : VK} (w : Wd K ρ st H) (ho : Rep K ρ H o x) (hz : RepL K ρ H zs vs) (q : RSat K b ρ H st (zbm m b st o zs) (PK K Q)) : vBm m x vs H Q := by
  unfold zbm at q
  split at q
  · rename_i n
    split at q
    · rename_i xs hc
      obtain ⟨a, rfl, hn, ⟨a', us, e1, e2, e3, e4⟩⟩ := cel_at w hc ho (by intro z; cases z)
      cases e1
      split at q
      · rename_i z
        obtain ⟨v, rfl, hv⟩ := repL_one hz
        by_cases hl : xs.length < sizeL
        · rw [if_pos hl] at q
          obtain ⟨mw, q⟩ := okW_inv q
          refine ⟨a, us, v, rfl, rfl, e2, by rw [e4.length, sizeL_eq]; exact hl, ?_⟩
          refine put_lst (b := b) w hn (by rw [List.length_append]; exact hl) (e4.append (repL_cons.mpr ⟨v, [], rfl, hv, repL_nil.mpr rfl⟩)) (fun hb m hm => ?_) hc q _ (rep_non.mpr rfl)
          rw [refsL_append] at hm
          rcases List.mem_append.mp hm with k | k
          · exact k
          · unfold mayW at mw
            rw [Bool.or_eq_true, decide_eq_true_eq] at mw
            rcases mw with mw | mw
            · omega
            · unfold Z.clo at mw
              unfold refsL at k
              have k' : m ∈ z.refs := by
                rcases List.mem_append.mp k with k | k
                · exact k
                · unfold refsL at k; cases k
              rw [List.isEmpty_iff.mp mw] at k'
              cases k'
        · rw [if_neg hl] at q; exact q.elim
      · split at q
        · rename_i y hy
          rw [repL_nil.mp hz]
          obtain ⟨v, h1, h2⟩ := e4.get hy
          refine ⟨a, us, v, rfl, rfl, e2, by rw [e4.length]; exact h1, ?_⟩
          have hd : us.dropLast = us.take (xs.length - 1) := by rw [List.dropLast_eq_take, e4.length]
          have hd2 : xs.dropLast = xs.take (xs.length - 1) := List.dropLast_eq_take
          have e5 : RepL K ρ H xs.dropLast us.dropLast := by rw [hd, hd2]; exact e4.take _
          have hq := put_lst (b := b) w hn (Nat.le_trans (by rw [List.length_dropLast]; omega) e3) e5 (fun hb m hm => ?_) hc q v (h2.evo (evo_put hn))
          · exact hq
          · obtain ⟨z, z1, z2⟩ := of_refsL hm
            exact mem_refsL (List.mem_of_mem_take (by rw [hd2] at z1; exact z1)) z2
        · exact q.elim
      · rename_i i
        split at q
        · rename_i hi
          split at q
          · rename_i y hy
            obtain ⟨v, rfl, hv⟩ := repL_one hz
            rw [rep_int.mp hv]
            obtain ⟨u, h1, h2⟩ := e4.get hy
            refine ⟨a, us, i, i.toNat, u, rfl, rfl, e2, by omega, ?_, ?_, h1, ?_⟩
            · have : xs.length ≤ sizeL := e3
              unfold sizeL at this
              omega
            · rw [e4.length]; exact seqIx hi
            · have hq := put_lst (b := b) w hn (Nat.le_trans (List.length_eraseIdx_le ..) e3) (e4.eraseIdx i.toNat) (fun hb m hm => ?_) hc q u (h2.evo (evo_put hn))
              · exact hq
              · obtain ⟨z, z1, z2⟩ := of_refsL hm
                exact mem_refsL (List.mem_of_mem_eraseIdx z1) z2
          · exact q.elim
        · exact q.elim
      · rename_i z
        split at q
        · rename_i ys hd
          split at q
          · rename_i hcc
            obtain ⟨c1, c2, c3⟩ := hcc
            obtain ⟨v, rfl, hv⟩ := repL_one hz
            obtain ⟨p2, us2, rfl, h2, l2, r2⟩ := dr_lst_trk w hv hd (not_scr c2)
            refine ⟨a, p2, us, us2, rfl, rfl, e2, h2, by rw [e4.length, r2.length, sizeL_eq]; exact c1, ?_⟩
            refine put_lst (b := b) w hn (by rw [List.length_append]; exact c1) (e4.append r2) (fun hb m hm => ?_) hc q _ (rep_non.mpr rfl)
            rw [refsL_append] at hm
            rcases List.mem_append.mp hm with k | k
            · exact k
            · rcases c3 with c3 | c3
              · omega
              · rw [c3] at k; cases k
          · exact q.elim
        · exact q.elim
      · rename_i i z
        split at q
        · rename_i hcc
          obtain ⟨c1, c2, c3⟩ := hcc
          obtain ⟨v1, v2, rfl, hv1, hv2⟩ := repL_two hz
          rw [rep_int.mp hv1]
          obtain ⟨mw, q⟩ := okW_inv q
          refine ⟨a, us, i, v2, rfl, rfl, e2, by rw [e4.length, sizeL_eq]; exact c1, c2, c3, ?_⟩
          refine put_lst (b := b) w hn (by simp; omega) (((e4.take _).append (repL_cons.mpr ⟨v2, [], rfl, hv2, repL_nil.mpr rfl⟩)).append (e4.drop _)) (fun hb m hm => ?_) hc q _ (rep_non.mpr rfl)
          rw [refsL_append, refsL_append] at hm
          rcases List.mem_append.mp hm with k | k
          · rcases List.mem_append.mp k with k | k
            · obtain ⟨z, z1, z2⟩ := of_refsL k
              exact mem_refsL (List.mem_of_mem_take z1) z2
            · unfold mayW at mw
              rw [Bool.or_eq_true, decide_eq_true_eq] at mw
              rcases mw with mw | mw
              · omega
              · unfold Z.clo at mw
                unfold refsL at k
                have k' : m ∈ z.refs := by
                  rcases List.mem_append.mp k with k | k
                  · exact k
                  · unfold refsL at k; cases k
                rw [List.isEmpty_iff.mp mw] at k'
                cases k'
          · obtain ⟨z, z1, z2⟩ := of_refsL k
            exact mem_refsL (List.mem_of_mem_drop z1) z2
        · exact q.elim
      · rw [repL_nil.mp hz]
        refine ⟨a, us, rfl, rfl, e2, ?_⟩
        refine put_lst (b := b) w hn (by rw [List.length_reverse]; exact e3) e4.reverse (fun hb m hm => ?_) hc q _ (rep_non.mpr rfl)
        obtain ⟨z, z1, z2⟩ := of_refsL hm
        exact mem_refsL (List.mem_reverse.mp z1) z2
      · exact q.elim
    · exact q.elim
  · exact q.elim
theorem s_bm {m : BM} {o : E} {es : List E} {x : Expr} {xs : List Expr} {ap p2 : Pos} (g : Gd tb c X S) (hc : noCall x = true) (hl : ap.endLine = p2.line) (hn : xs.length = bmArgs m) (hs : xs.all notStar = true) (ho : PE X x (TZ c o)) (ha : PA X xs (TZs c es)) (h0 : xs = [] → es = []) :
    PE X (.Call (.Attribute x (Str.ofString (bmName m)) ap) xs [] p2) (TZ c (.bm m o es)) := by
  have hb : ∀ f, attributeBase x f X.env (eval x X.env) = eval x X.env := fun f => by cases x <;> first | rfl | cases hc
  have hline : (ap.endLine == p2.line) = true := by rw [hl]; exact beq_self_eq_true _
  have key : ∀ σ H Q, TZ c (.bm m o es) σ H Q → TZ c o σ H fun v H1 => tyV X.K "list" v H1 ∧ TZs c es σ H1 fun vs H2 => vBm m v vs H2 Q := by
    intro σ H Q ⟨en, ρ, st, r, w, q⟩
    unfold ev at q
    refine tz_next r w q fun z st1 ρ1 H1 v e1 s1 w1 r1 hv q1 => ?_
    cases hd : dr st1 z with
    | lst ys =>
      rw [hd] at q1
      obtain ⟨a, us, rfl, h1, _, _⟩ := dr_lst_at w1 hv hd
      refine ⟨.inl ⟨rfl, us, by rw [g.k]; exact h1⟩, ?_⟩
      have q1 : RSat c.K c.b ρ1 H1 st1 ((evs c.F c.G c.b es en st1).bind fun zs st => zbm m c.b st z zs) (PK c.K Q) := q1
      exact tzs_next r1 w1 q1 fun zs st2 ρ2 H2 vs e2 s2 w2 r2 hvs _ q2 => zbm_ok w2 (hv.evo e2) hvs q2
    | _ => rw [hd] at q1; exact q1.elim
  have k0 : ∀ σ H Q, es = [] → TZ c (.bm m o es) σ H Q → TZ c o σ H fun v H1 => tyV X.K "list" v H1 ∧ vBm m v [] H1 Q := by
    intro σ H Q he ⟨en, ρ, st, r, w, q⟩
    subst he
    unfold ev at q
    refine tz_next r w q fun z st1 ρ1 H1 v e1 s1 w1 r1 hv q1 => ?_
    cases hd : dr st1 z with
    | lst ys =>
      rw [hd] at q1
      obtain ⟨a, us, rfl, h1, _, _⟩ := dr_lst_at w1 hv hd
      refine ⟨.inl ⟨rfl, us, by rw [g.k]; exact h1⟩, ?_⟩
      have q1 : RSat c.K c.b ρ1 H1 st1 ((evs c.F c.G c.b [] en st1).bind fun zs st => zbm m c.b st z zs) (PK c.K Q) := q1
      rw [evs_nil] at q1
      exact zbm_ok (zs := []) w1 hv (repL_nil.mpr rfl) q1
    | _ => rw [hd] at q1; exact q1.elim
  cases m with
  | append =>
    cases xs with
    | nil => cases hn
    | cons y ys =>
      rw [List.all_cons] at hs
      obtain ⟨hs1, hs2⟩ := and_t hs
      have hy : ys = [] := by
        have : (y :: ys).length = 1 := hn
        cases ys with
        | nil => rfl
        | cons _ _ => cases this
      subst hy
      refine pe_imp (pe_bm PySem.F.plainAttrs_list PySem.F.slot_list_append PySem.F.type_list_append mt_append ho ha (hb _) ?_ hline (star_cons hs1) (star_any hs2)) key
      rw [star_cons hs1]
      rfl
  | pop =>
    cases xs with
    | nil => exact pe_imp (pe_bm0 PySem.F.plainAttrs_list PySem.F.slot_list_pop PySem.F.type_list_pop mt_pop ho (hb _) hline) fun σ H Q h => k0 σ H Q (h0 rfl) h
    | cons _ _ => cases hn
  | popAt =>
    cases xs with
    | nil => cases hn
    | cons y ys =>
      rw [List.all_cons] at hs
      obtain ⟨hs1, hs2⟩ := and_t hs
      have hy : ys = [] := by
        have : (y :: ys).length = 1 := hn
        cases ys with
        | nil => rfl
        | cons _ _ => cases this
      subst hy
      refine pe_imp (pe_bm PySem.F.plainAttrs_list PySem.F.slot_list_pop PySem.F.type_list_pop mt_popAt ho ha (hb _) ?_ hline (star_cons hs1) (star_any hs2)) key
      rw [star_cons hs1]
      rfl
  | extend =>
    cases xs with
    | nil => cases hn
    | cons y ys =>
      rw [List.all_cons] at hs
      obtain ⟨hs1, hs2⟩ := and_t hs
      have hy : ys = [] := by
        have : (y :: ys).length = 1 := hn
        cases ys with
        | nil => rfl
        | cons _ _ => cases this
      subst hy
      refine pe_imp (pe_bm PySem.F.plainAttrs_list PySem.F.slot_list_extend PySem.F.type_list_extend mt_extend ho ha (hb _) ?_ hline (star_cons hs1) (star_any hs2)) key
      rw [star_cons hs1]
      rfl
  | insert =>
    match xs, hn, hs, ha, h0 with
    | [y1, y2], _, hs, ha, h0 =>
      rw [List.all_cons] at hs
      obtain ⟨hs1, hs2⟩ := and_t hs
      have hs3 := hs2
      rw [List.all_cons] at hs2
      obtain ⟨hs2, _⟩ := and_t hs2
      refine pe_imp (pe_bm PySem.F.plainAttrs_list PySem.F.slot_list_insert PySem.F.type_list_insert mt_insert ho ha (hb _) ?_ hline (star_cons hs1) (star_any hs3)) key
      rw [star_cons hs1, star_cons hs2]
      rfl
  | reverse =>
    cases xs with
    | nil => exact pe_imp (pe_bm0 PySem.F.plainAttrs_list PySem.F.slot_list_reverse PySem.F.type_list_reverse mt_reverse ho (hb _) hline) fun σ H Q h => k0 σ H Q (h0 rfl) h
    | cons _ _ => cases hn
/-- a cell becomes a tree, and what is in it -/
theorem kill_lst {K : PySem.W.Frag} {ρ : Ro} {H : Hp} {st : Sto} {n : Nat} {xs : List Z} {v : V} (w : Wd K ρ st H) (h : Rep K ρ H (.cel n) v) (hc : st[n]? = some (.lst xs)) :
    ∃ a vs, v = .ref a ∧ H a = some (.lst vs) ∧ (ρ.kill n).out a ∧ xs.length ≤ sizeL ∧ RepL K (ρ.kill n) H xs vs ∧ Wd K (ρ.kill n) (st.set n .dead) H := by
  obtain ⟨a, rfl, hn, ⟨a', us, e1, e2, e3, e4⟩⟩ := cel_at w hc h (by intro z; cases z)
  cases e1
  have ek : Evo ρ H (ρ.kill n) H := evo_kill
  have hnl : n < ρ.c.length := (List.getElem?_eq_some_iff.mp hn).1
  refine ⟨a, us, rfl, e2, ⟨fun hm => ?_, fun hm => (w.hid a hm).1 (List.mem_of_getElem? hn)⟩, e3, RepL.evo ek _ _ e4, w.kill n⟩
  obtain ⟨j, hj⟩ := List.getElem?_of_mem hm
  have hjl : j < ρ.c.length := by have := (List.getElem?_eq_some_iff.mp hj).1; simpa [Ro.kill] using this
  have hj2 := ek.old j a hjl hj
  have e := w.inj j n a hj2 hn
  subst e
  have hj : (ρ.c.set j none)[j]? = some (some a) := hj
  rw [List.getElem?_set_self hnl] at hj
  cases hj
theorem zfzL_len {d : Nat} : ∀ {zs ys : List Z} {st st' : Sto}, zfzL d zs st = .ok ys st' → ys.length = zs.length
  | [], ys, st, st', h => by unfold zfzL at h; cases h; rfl
  | z :: zs, ys, st, st', h => by
    unfold zfzL at h
    cases h1 : zfzD d z st with
    | ok y st1 =>
      rw [h1] at h
      simp only [R.bind_ok] at h
      cases h2 : zfzL d zs st1 with
      | ok ys' st2 =>
        rw [h2] at h
        cases h
        rw [List.length_cons, List.length_cons, zfzL_len h2]
      | exn _ _ _ => rw [h2] at h; cases h
      | no => rw [h2] at h; cases h
    | exn _ _ _ => rw [h1] at h; cases h
    | no => rw [h1] at h; cases h
def FzOk (K : PySem.W.Frag) (d : Nat) : Prop := ∀ (b : Nat) (ρ : Ro) (H : Hp) (st st' : Sto) (z z' : Z) (v : V), Wd K ρ st H → Rep K ρ H z v → zfzD d z st = .ok z' st' → ∃ ρ', Evo ρ H ρ' H ∧ Sub b st st' ∧ Wd K ρ' st' H ∧ Rep K ρ' H z' v
theorem zfzL_ok {K : PySem.W.Frag} {d : Nat} (hd : FzOk K d) (b : Nat) : ∀ (zs ys : List Z) (ρ : Ro) (H : Hp) (st st' : Sto) (vs : List V), Wd K ρ st H → RepL K ρ H zs vs → zfzL d zs st = .ok ys st' → ∃ ρ', Evo ρ H ρ' H ∧ Sub b st st' ∧ Wd K ρ' st' H ∧ RepL K ρ' H ys vs
  | [], ys, ρ, H, st, st', vs, w, r, h => by
    unfold zfzL at h
    cases h
    exact ⟨ρ, .refl, .refl, w, r⟩
  | z :: zs, ys, ρ, H, st, st', vs, w, r, h => by
    unfold zfzL at h
    obtain ⟨v, us, rfl, r1, r2⟩ := repL_cons.mp r
    cases h1 : zfzD d z st with
    | ok y st1 =>
      rw [h1] at h
      simp only [R.bind_ok] at h
      cases h2 : zfzL d zs st1 with
      | ok ys' st2 =>
        rw [h2] at h
        cases h
        obtain ⟨ρ1, e1, s1, w1, q1⟩ := hd b ρ H st st1 z y v w r1 h1
        obtain ⟨ρ2, e2, s2, w2, q2⟩ := zfzL_ok hd b zs ys' ρ1 H st1 st' us w1 (RepL.evo e1 _ _ r2) h2
        exact ⟨ρ2, e1.trans e2, s1.trans s2, w2, repL_cons.mpr ⟨v, us, rfl, q1.evo e2, q2⟩⟩
      | exn _ _ _ => rw [h2] at h; cases h
      | no => rw [h2] at h; cases h
    | exn _ _ _ => rw [h1] at h; cases h
    | no => rw [h1] at h; cases h
theorem zfzL_inv {d : Nat} {zs : List Z} {st st' : Sto} {z' : Z} {f : List Z → Z} (h : ((zfzL d zs st).bind fun ys st => .ok (f ys) st) = .ok z' st') : ∃ ys, zfzL d zs st = .ok ys st' ∧ z' = f ys := by
  cases h2 : zfzL d zs st with
  | ok ys st1 => rw [h2] at h; cases h; exact ⟨ys, rfl, rfl⟩
  | exn _ _ _ => rw [h2] at h; cases h
  | no => rw [h2] at h; cases h
theorem zfzD_ok {K : PySem.W.Frag} : ∀ d, FzOk K d
  | 0 => fun b ρ H st st' z z' v w r h => by
    unfold zfzD at h
    cases h
    exact ⟨ρ, .refl, .refl, w, r⟩
  | d + 1 => fun b ρ H st st' z z' v w r h => by
    cases z with
    | cel n =>
      unfold zfzD at h
      split at h
      · rename_i xs hc
        obtain ⟨ys, h2, rfl⟩ := zfzL_inv h
        obtain ⟨a, us, rfl, e2, hout, l, r2, w2⟩ := kill_lst w r hc
        obtain ⟨ρ2, e3, s3, w3, q3⟩ := zfzL_ok (zfzD_ok d) b xs ys _ H _ st' us w2 r2 h2
        exact ⟨ρ2, evo_kill.trans e3, Sub.trans (sub_set fun c0 h0 hb m hm => by cases hm) s3, w3, rep_lst.mpr ⟨a, us, rfl, e2, e3.out e2 hout, by rw [zfzL_len h2]; exact l, q3⟩⟩
      · cases h
    | lst xs =>
      unfold zfzD at h
      obtain ⟨ys, h2, rfl⟩ := zfzL_inv h
      obtain ⟨a, us, rfl, e2, hout, l, r2⟩ := rep_lst.mp r
      obtain ⟨ρ2, e3, s3, w3, q3⟩ := zfzL_ok (zfzD_ok d) b xs ys ρ H st st' us w r2 h2
      exact ⟨ρ2, e3, s3, w3, rep_lst.mpr ⟨a, us, rfl, e2, e3.out e2 hout, by rw [zfzL_len h2]; exact l, q3⟩⟩
    | tup xs =>
      unfold zfzD at h
      obtain ⟨ys, h2, rfl⟩ := zfzL_inv h
      obtain ⟨a, us, rfl, e2, l, r2⟩ := rep_tup.mp r
      obtain ⟨ρ2, e3, s3, w3, q3⟩ := zfzL_ok (zfzD_ok d) b xs ys ρ H st st' us w r2 h2
      refine ⟨ρ2, e3, s3, w3, rep_tup.mpr ⟨a, us, rfl, ?_, by rw [zfzL_len h2]; exact l, q3⟩⟩
      rcases e2 with ⟨e2, e4⟩ | e2
      · exact .inl ⟨e2, e3.out e2 e4⟩
      · exact .inr e2
    | _ => unfold zfzD at h; cases h; exact ⟨ρ, .refl, .refl, w, r⟩
theorem zfz_sat {K : PySem.W.Frag} {b : Nat} {ρ : Ro} {H : Hp} {st : Sto} {z : Z} {v : V} {P : Z → Sto → Ro → Hp → Prop} (w : Wd K ρ st H) (r : Rep K ρ H z v) (q : RSat K b ρ H st (zfz st z) P) : ∃ z' st' ρ', P z' st' ρ' H ∧ Wd K ρ' st' H ∧ Rep K ρ' H z' v ∧ Evo ρ H ρ' H ∧ Sub b st st' ∧ zfz st z = .ok z' st' := by
  cases h : zfz st z with
  | ok z' st' =>
    rw [h] at q
    obtain ⟨ρ', e, s, w', r'⟩ := zfzD_ok 4 b ρ H st st' z z' v w r h
    exact ⟨z', st', ρ', q ρ' H e s w', w', r', e, s, rfl⟩
  | exn _ _ _ => rw [h] at q; exact q.elim
  | no => rw [h] at q; exact q.elim
theorem s_fz {a : E} {x : Expr} (ha : PE X x (TZ c a)) : PE X x (TZ c (.fz a)) := by
  refine pe_imp ha fun σ H Q ⟨en, ρ, st, r, w, q⟩ => ?_
  unfold ev at q
  refine tz_next r w q fun z st1 ρ1 H1 v e1 s1 w1 r1 hv q1 => ?_
  obtain ⟨z', st', ρ', p, _, r', _⟩ := zfz_sat w1 hv q1
  exact p v r'
/-! ### methods that change nothing -/
theorem repL_strs_inv {K : PySem.W.Frag} {ρ : Ro} {H : Hp} : ∀ {zs : List Z} {ss : List (List Nat)} {vs : List V}, zstrs zs = some ss → RepL K ρ H zs vs → vs = (ss.map (fun s : List Nat => (⟨s.toArray⟩ : Str))).map V.str ∧ (∀ s ∈ ss, ∀ c ∈ s, c < 0x110000)
  | [], _, _, e, h => by
    have e' : some [] = some _ := e
    cases e'
    rw [repL_nil] at h
    exact ⟨h, fun s m => by cases m⟩
  | .str i :: r, ns, vs, e, h => by
    obtain ⟨v, us, rfl, h1, h2⟩ := repL_cons.mp h
    have e' : (zstrs r).map (i :: ·) = some ns := e
    cases q : zstrs r with
    | none => rw [q] at e'; cases e'
    | some ms =>
      rw [q] at e'
      cases e'
      obtain ⟨k1, k2, k3⟩ := rep_str.mp h1
      obtain ⟨j1, j2⟩ := repL_strs_inv q h2
      refine ⟨by rw [k1, j1]; rfl, fun s m => ?_⟩
      rcases List.mem_cons.mp m with rfl | m
      · exact k3
      · exact j2 s m
  | .non :: _, _, _, e, _ => by cases e
  | .bl _ :: _, _, _, e, _ => by cases e
  | .int _ :: _, _, _, e, _ => by cases e
  | .lst _ :: _, _, _, e, _ => by cases e
  | .tup _ :: _, _, _, e, _ => by cases e
  | .dic _ _ :: _, _, _, e, _ => by cases e
  | .ins _ _ _ :: _, _, _, e, _ => by cases e
  | .scr _ :: _, _, _, e, _ => by cases e
  | .cel _ :: _, _, _, e, _ => by cases e
theorem joinL_mem {a : List Nat} : ∀ {ss : List (List Nat)} {c : Nat}, c ∈ TL.joinL a ss → c ∈ a ∨ ∃ s ∈ ss, c ∈ s
  | [], c, h => by unfold TL.joinL at h; cases h
  | [s], c, h => by unfold TL.joinL at h; exact .inr ⟨s, List.mem_cons_self, h⟩
  | s :: t :: r, c, h => by
    unfold TL.joinL at h
    rcases List.mem_append.mp h with h | h
    · exact .inr ⟨s, List.mem_cons_self, h⟩
    · rcases List.mem_append.mp h with h | h
      · exact .inl h
      · rcases joinL_mem h with h | ⟨u, m, h⟩
        · exact .inl h
        · exact .inr ⟨u, List.mem_cons_of_mem _ m, h⟩
theorem joinL_len {a : List Nat} : ∀ {ss : List (List Nat)}, (TL.joinL a ss).length ≤ (ss.map (·.length)).sum + ss.length * a.length
  | [] => by simp [TL.joinL]
  | [s] => by simp [TL.joinL]
  | s :: t :: r => by
    have ih := @joinL_len a (t :: r)
    unfold TL.joinL
    simp only [List.length_append, List.map_cons, List.sum_cons, List.length_cons, Nat.succ_mul] at ih ⊢
    omega
theorem s_sm {m : SM} {o : E} {es : List E} {x y : Expr} {ap p2 : Pos} (g : Gd tb c X S) (hc : noCall x = true) (hl : ap.endLine = p2.line) (hs : notStar y = true) (ho : PE X x (TZ c o)) (ha : PA X [y] (TZs c es)) :
    PE X (.Call (.Attribute x (Str.ofString (smName m)) ap) [y] [] p2) (TZ c (.sm m o es)) := by
  have hb : ∀ f, attributeBase x f X.env (eval x X.env) = eval x X.env := fun f => by cases x <;> first | rfl | cases hc
  have hline : (ap.endLine == p2.line) = true := by rw [hl]; exact beq_self_eq_true _
  cases m with
  | join =>
    refine pe_imp (pe_bm PySem.F.plainAttrs_str PySem.F.slot_str_join PySem.F.type_str_join mt_join ho ha (hb _) ?_ hline (star_cons hs) (star_any rfl)) fun σ H Q ⟨en, ρ, st, r, w, q⟩ => ?_
    · rw [star_cons hs]; rfl
    · unfold ev at q
      refine tz_next r w q fun z st1 ρ1 H1 v e1 s1 w1 r1 hv q1 => ?_
      have q2 : RSat c.K c.b ρ1 H1 st1 ((evs c.F c.G c.b es en st1).bind fun zs st => ofO (zsm .join st z zs) st) (PK c.K Q) := by
        split at q1
        · exact q1
        · exact q1.elim
      have hz : ∃ a, z = .str a := by
        cases hE : evs c.F c.G c.b es en st1 with
        | ok zs st2 =>
          rw [hE] at q2
          have q2 : RSat c.K c.b ρ1 H1 st1 (ofO (zsm .join st2 z zs) st2) (PK c.K Q) := q2
          cases z <;> first | exact ⟨_, rfl⟩ | exact q2.elim
        | exn _ _ _ => rw [hE] at q2; exact q2.elim
        | no => rw [hE] at q2; exact q2.elim
      obtain ⟨a, rfl⟩ := hz
      obtain ⟨rfl, l0, g0⟩ := rep_str.mp hv
      refine ⟨rfl, ?_⟩
      refine tzs_next r1 w1 q2 fun zs st2 ρ2 H2 vs e2 s2 w2 r2 hvs _ q3 => ?_
      obtain ⟨u, eu, q4⟩ := q3.ofO_inv w2
      match zs, eu with
      | [y], eu =>
        obtain ⟨v, rfl, hy⟩ := repL_one hvs
        have eu : (seqv st2 y).bind (fun ys => (zstrs ys).bind fun ss => if (ss.map (·.length)).sum + ss.length * a.length ≤ sizeL then some (Z.str (TL.joinL a ss)) else none) = some u := eu
        cases hs1 : seqv st2 y with
        | none => rw [hs1] at eu; cases eu
        | some ys =>
          rw [hs1] at eu
          have eu : (zstrs ys).bind (fun ss => if (ss.map (·.length)).sum + ss.length * a.length ≤ sizeL then some (Z.str (TL.joinL a ss)) else none) = some u := eu
          cases hs2 : zstrs ys with
          | none => rw [hs2] at eu; cases eu
          | some ss =>
            rw [hs2] at eu
            have eu : (if (ss.map (·.length)).sum + ss.length * a.length ≤ sizeL then some (Z.str (TL.joinL a ss)) else none) = some u := eu
            split at eu
            · rename_i hsz
              cases eu
              obtain ⟨p, us, rfl, h1, _, h4⟩ := seqv_at w2 hy hs1
              obtain ⟨k1, k2⟩ := repL_strs_inv hs2 h4
              subst k1
              rw [g.k]
              refine ⟨_, p, ss.map (fun s : List Nat => (⟨s.toArray⟩ : Str)), rfl, rfl, h1.imp id And.left, ?_, ?_⟩
              · rw [List.map_map, List.length_map, str_len]
                have : (ss.map ((fun x : Str => x.length) ∘ fun s : List Nat => (⟨s.toArray⟩ : Str))) = ss.map (·.length) := List.map_congr_left fun s _ => str_len
                rw [this]
                exact hsz
              · have ej : Txt.join (⟨a.toArray⟩ : Str) (ss.map fun s : List Nat => (⟨s.toArray⟩ : Str)) = ⟨(TL.joinL a ss).toArray⟩ := SX.join_S a ss
                rw [ej]
                refine q4 _ (rep_str.mpr ⟨rfl, Nat.le_trans joinL_len hsz, fun ch hch => ?_⟩)
                rcases joinL_mem hch with h | ⟨s, m, h⟩
                · exact g0 ch h
                · exact k2 s m ch h
            · cases eu
      | [], eu => cases eu
      | _ :: _ :: _, eu => cases eu
/-! ### list(range(..)), tuple(range(..)) -/
theorem rgB_ok {i j : Int} (h : rgB i j = true) : RgOk i j := by
  unfold rgB at h
  simp only [Bool.and_eq_true, decide_eq_true_eq] at h
  obtain ⟨⟨⟨⟨h1, h2⟩, h3⟩, h4⟩, h5⟩ := h
  exact ⟨h1, h2, h3, h4, h5⟩
theorem rgV_rep {K : PySem.W.Frag} {ρ : Ro} {H : Hp} {i j : Int} : RepL K ρ H ((List.range (j - i).toNat).map fun (k : Nat) => Z.int (i + k)) (rgV i j) := by
  have e1 : ((List.range (j - i).toNat).map fun (k : Nat) => Z.int (i + k)) = ((List.range (j - i).toNat).map fun (k : Nat) => i + (k : Int)).map Z.int := by rw [List.map_map]; rfl
  have e2 : rgV i j = ((List.range (j - i).toNat).map fun (k : Nat) => i + (k : Int)).map V.int := by unfold rgV; rw [List.map_map]; rfl
  rw [e1, e2]
  exact repL_ints
theorem rgL_at {K : PySem.W.Frag} {ρ : Ro} {H : Hp} {zs ys : List Z} {vs : List V} (hr : RepL K ρ H zs vs) (e : rgL zs = some ys) : (∃ j, vs = [.int j] ∧ RgOk 0 j ∧ RepL K ρ H ys (rgV 0 j) ∧ ys.length = (j - 0).toNat) ∨ (∃ i j, vs = [.int i, .int j] ∧ RgOk i j ∧ RepL K ρ H ys (rgV i j) ∧ ys.length = (j - i).toNat) := by
  match zs, e with
  | [.int j], e =>
    obtain ⟨v, rfl, hv⟩ := repL_one hr
    have e : (if rgB 0 j then some ((List.range j.toNat).map fun (k : Nat) => Z.int k) else none) = some ys := e
    split at e
    · rename_i hb
      cases e
      refine .inl ⟨j, by rw [rep_int.mp hv], rgB_ok hb, ?_, by simp⟩
      have := rgV_rep (K := K) (ρ := ρ) (H := H) (i := 0) (j := j)
      simpa using this
    · cases e
  | [.int i, .int j], e =>
    obtain ⟨v, u, rfl, hv, hu⟩ := repL_two hr
    have e : (if rgB i j then some ((List.range (j - i).toNat).map fun (k : Nat) => Z.int (i + k)) else none) = some ys := e
    split at e
    · rename_i hb
      cases e
      exact .inr ⟨i, j, by rw [rep_int.mp hv, rep_int.mp hu], rgB_ok hb, rgV_rep, by simp⟩
    · cases e
theorem s_lrg {t k : Bool} {es : List E} {args : List Expr} {p p2 p3 p4 : Pos} (g : Gd tb c X S) (hg1 : glC S (Str.ofString (if t then "tuple" else "list")) = true) (hg2 : glC S (Str.ofString "range") = true) (hes : es.length = 1 ∨ es.length = 2) (hs : args.all notStar = true) (hal : args.length = es.length) (ha : PA X args (TZs c es)) :
    PE X (.Call (.Name (Str.ofString (if t then "tuple" else "list")) p) [.Call (.Name (Str.ofString "range") p2) args [] p3] [] p4) (TZ c (.lrg t k es)) := by
  obtain ⟨h1, _⟩ := glC_ok g hg1
  obtain ⟨h2, _⟩ := glC_ok g hg2
  have hr : PRg X (.Call (.Name (Str.ofString "range") p2) args [] p3) (fun σ H Q => TZs c es σ H fun vs H1 => (∃ j, vs = [.int j] ∧ Q 0 j H1) ∨ ∃ i j, vs = [.int i, .int j] ∧ Q i j H1) := by
    match args, hs, hal, ha with
    | [], _, hal, _ => simp at hal; omega
    | a :: rest, hs, hal, ha =>
      rw [List.all_cons] at hs
      obtain ⟨na, nr⟩ := and_t hs
      intro pins s σ H Q I h
      refine Call_ (ld_blt I h2 (g.bi _ (by decide)) boot_range (PyProof.Rows.callWith_type1 (thn (ha.run p3 pins s σ H _ I h) fun us s1 ⟨vs, H1, I1, r1, q1⟩ => ?_) (star_cons na) (star_any nr)))
      rcases q1 with ⟨j, rfl, q1⟩ | ⟨i, j, rfl, q1⟩
      · obtain ⟨u, rfl, t, rfl⟩ : ∃ u, us = [u] ∧ ∃ t, u = Value.int j t := by
          cases r1 with
          | cons r0 rr => cases rr; obtain ⟨t, rfl⟩ := r0; exact ⟨_, rfl, t, rfl⟩
        exact call_range_1 ⟨_, 0, j, _, _, _, H1, rfl, IsRange.new _ _ _ _ _ _ _, I1.kept fun b u e => Heap.get?_push_of_some _ e, q1⟩
      · obtain ⟨u1, u2, rfl, t1, t2, rfl, rfl⟩ : ∃ u1 u2, us = [u1, u2] ∧ ∃ t1 t2, u1 = Value.int i t1 ∧ u2 = Value.int j t2 := by
          cases r1 with
          | cons r0 rr => cases rr with
            | cons r2 rr => cases rr; obtain ⟨t, rfl⟩ := r0; obtain ⟨t2, rfl⟩ := r2; exact ⟨_, _, rfl, t, t2, rfl, rfl⟩
        exact call_range_2 ⟨_, i, j, _, _, _, H1, rfl, IsRange.new _ _ _ _ _ _ _, I1.kept fun b u e => Heap.get?_push_of_some _ e, q1⟩
  have len_ok : ∀ {i j : Int}, RgOk i j → (j - i).toNat ≤ sizeL := fun h => by
    have := h.2.2.2.2
    unfold sizeL
    omega
  cases t with
  | false =>
    refine pe_imp (pe_listRg g.calm h1 (g.bi _ (by decide)) hr) fun σ H Q ⟨en, ρ, st, r, w, q⟩ => ?_
    unfold ev at q
    refine tzs_next r w q fun zs st1 ρ1 H1 vs e1 s1 w1 r1 hvs _ q1 => ?_
    have q2 := q1.bind
    obtain ⟨ys, ey, q3⟩ := q2.ofO_inv w1
    have q3 : RSat c.K c.b ρ1 H1 st1 (mkL k ys st1) (PK c.K Q) := q3
    rcases rgL_at hvs ey with ⟨j, rfl, ok, rr, hl⟩ | ⟨i, j, rfl, ok, rr, hl⟩
    · exact .inl ⟨j, rfl, ok, fun p hp => new_k w1 rr (by rw [hl]; exact len_ok ok) q3 p hp⟩
    · exact .inr ⟨i, j, rfl, ok, fun p hp => new_k w1 rr (by rw [hl]; exact len_ok ok) q3 p hp⟩
  | true =>
    refine pe_imp (pe_tupRg g.calm h1 (g.bi _ (by decide)) hr) fun σ H Q ⟨en, ρ, st, r, w, q⟩ => ?_
    unfold ev at q
    refine tzs_next r w q fun zs st1 ρ1 H1 vs e1 s1 w1 r1 hvs _ q1 => ?_
    have q2 := q1.bind
    obtain ⟨ys, ey, q3⟩ := q2.ofO_inv w1
    have q3 : RSat c.K c.b ρ1 H1 st1 (.ok (.tup ys) st1) (PK c.K Q) := q3
    rcases rgL_at hvs ey with ⟨j, rfl, ok, rr, hl⟩ | ⟨i, j, rfl, ok, rr, hl⟩
    · exact .inl ⟨j, rfl, ok, new_tup w1 rr (by rw [hl]; exact len_ok ok) fun ρ' H' v e' w' r' => q3 ρ' H' e' .refl w' v r'⟩
    · exact .inr ⟨i, j, rfl, ok, new_tup w1 rr (by rw [hl]; exact len_ok ok) fun ρ' H' v e' w' r' => q3 ρ' H' e' .refl w' v r'⟩
end
end ZZ

end
section
set_option maxHeartbeats 2000000
namespace ZZ
open PySem PySem.Spec PyProof.Rows L2
section
variable {tb : Tb} {c : Cf} {X : Cx} {S : Sc}
/-! ### methods of own classes -/
theorem fz_lookup {m : String} : ∀ {fs : List String} {vs : List V}, (fs.any fun f => f == m) = false → (fz fs vs).lookup (Str.ofString m) = none
  | [], _, _ => rfl
  | f :: fs, [], _ => rfl
  | f :: fs, v :: vs, h => by
    rw [List.any_cons] at h
    obtain ⟨h1, h2⟩ := Bool.or_eq_false_iff.mp h
    show List.lookup (Str.ofString m) ((Str.ofString f, v) :: (fs.map Str.ofString).zip vs) = none
    have hb : (Str.ofString m == Str.ofString f) = false := by
      apply Bool.eq_false_iff.mpr
      intro q
      have := ofString_inj (beq_iff_eq.mp q)
      subst this
      simp at h1
    rw [List.lookup_cons, hb]
    exact fz_lookup h2
theorem insM_ok {cl m : String} {z : Z} (h : insM cl m z = true) : ∃ fs vs, z = .ins cl fs vs ∧ (fs.any fun f => f == m) = false := by
  unfold insM at h
  split at h
  · rename_i c' fs vs
    obtain ⟨h1, h2⟩ := and_t h
    have h1 : c' = cl := by simpa using h1
    subst h1
    exact ⟨fs, vs, rfl, by simpa using h2⟩
  · cases h
theorem s_me {cl m q : String} {o : E} {es kes : List E} {ks : List String} {x : Expr} {xs : List Expr} {kws : List Keyword} {ap p2 : Pos} (g : Gd tb c X S) (hc : noCall x = true) (hl : ap.endLine = p2.line) (hlen : xs.length + kws.length < 20) (hm : tb.me cl m q = true) (hs : xs.all notStar = true) (hn : xs = [] → es = []) (ho : PE X x (TZ c o)) (ha : PA X xs (TZs c es)) (hk : L2.PK X kws (TZs c kes)) (hkk : chkK tb S kes ks kws = true) :
    PE X (.Call (.Attribute x (Str.ofString m) ap) xs kws p2) (TZ c (.me cl m q o es kes ks)) := by
  obtain ⟨hcl, a, fd, d, G', k, hmt, hr, fc⟩ := g.me cl m q hm
  obtain ⟨k1, k2, k3, k4⟩ := kw_names (env := X.env) (pos := p2) hkk
  have hb : attributeBase x (Str.ofString m) X.env (eval x X.env) = eval x X.env := by cases x <;> first | rfl | cases hc
  have hf : methodCallForm (xs.length + kws.length) (backTo p2 (starEach xs X.env)) (backToKw p2 (keywordEach kws X.env)) = true := by
    unfold methodCallForm
    rw [k1]
    have : (backTo p2 (starEach xs X.env)).all (!·.1) = true := by
      rw [List.all_eq_not_any_not]
      simp only [Bool.not_not]
      rw [star_any hs]; rfl
    rw [this]
    simp only [Bool.true_and, decide_eq_true_eq]
    split <;> omega
  have hline : (ap.endLine == p2.line) = true := by rw [hl]; exact beq_self_eq_true _
  refine ⟨fun pins s σ H Q I ⟨en, ρ, st, r, w, qq⟩ => ?_⟩
  have qq := qq
  unfold ev at qq
  rw [arm_eval_Call, hb]
  have key : TZ c o σ H fun v H1 => ∃ dx fs a0, v = .ref a0 ∧ H1 a0 = some (.ins (He.ga c.K cl) dx fs) ∧ fs.lookup (Str.ofString m) = none ∧ ∃ z ρ1 st1, RepE c.K ρ1 H1 en σ ∧ Wd c.K ρ1 st1 H1 ∧ Rep c.K ρ1 H1 z v ∧
      RSat c.K c.b ρ1 H1 st1 ((evs c.F c.G c.b es en st1).bind fun zs st => (evs c.F c.G c.b kes en st).bind fun ys st => c.F q (z :: (zs ++ ys)) ks c.b st) (PK c.K Q) := by
    refine tz_next r w qq fun z st1 ρ1 H1 v e1 s1 w1 r1 hv q1 => ?_
    by_cases hi : insM cl m (dr st1 z) = true
    · rw [if_pos hi] at q1
      obtain ⟨fs, vs, hd, hnf⟩ := insM_ok hi
      obtain ⟨a0, dx, us, rfl, h1, h2, h3⟩ := dr_ins_at w1 hv hd
      exact ⟨dx, _, a0, rfl, h1, fz_lookup hnf, z, ρ1, st1, r1, w1, hv, q1⟩
    · rw [if_neg hi] at q1; exact q1.elim
  refine wpAny_bind (thn (ho.run pins s σ H _ I key) fun u s1 ⟨v, H1, I1, rx, dx, fs, a0, ev0, ea, lf, z, ρ1, st1, r1, w1, hv, q1⟩ => ?_)
  subst ev0
  obtain rfl : u = Value.ref a0 := rx
  refine wpAny_bind (wpAny_standAt ?_)
  rw [mcall_line hf hline]
  refine wpAny_bind (wpAny_holding (getmeth_ok I1 (by rw [← g.k] at ea; exact ea) hcl hmt lf ?_))
  show wpAny _ _ (callWith p2 (.ref a) [.ref a0] (backTo p2 (starEach xs X.env)) (backToKw p2 (keywordEach kws X.env))) _ _ _
  cases xs with
  | nil =>
    refine PySem.W.callWith_KW0 (h₀ := X.base) I1.ok.mod.kin fc.kp k1 ?_ (by rw [k3]; rfl)
    have e0 := hn rfl
    subst e0
    rw [evs_nil] at q1
    have q1 : RSat c.K c.b ρ1 H1 st1 ((evs c.F c.G c.b kes en st1).bind fun ys st => c.F q (z :: ([] ++ ys)) ks c.b st) (PK c.K Q) := q1
    have q2 : TZs c kes σ H1 fun us H2 => ∃ ys ρ2 st2, Wd c.K ρ2 st2 H2 ∧ Rep c.K ρ2 H2 z (.ref a0) ∧ RepL c.K ρ2 H2 ys us ∧ ys.length = kes.length ∧ RSat c.K c.b ρ2 H2 st2 (c.F q (z :: ([] ++ ys)) ks c.b st2) (PK c.K Q) :=
      tzs_next r1 w1 q1 fun ys st2 ρ2 H2 us e2 s2 w2 r2 hu ly q2 => ⟨ys, ρ2, st2, w2, hv.evo e2, hu, ly, q2⟩
    refine thn (hk.run p2 pins s1 σ H1 _ I1 q2) fun wz s2 ⟨zs2, H2, I2, rz, ys, ρ2, st2, w2, hv2, hu, ly, q3⟩ => ⟨I2.kIn, ?_⟩
    rw [k2]
    refine run_z (us := [.ref a0]) (vs := .ref a0 :: zs2) fc g.k hr I2 w2 (repL_cons.mpr ⟨_, _, rfl, hv2, hu⟩) (.cons rfl rz) (by rw [← rz.length, hu.length, ly, k4]) q3
  | cons y ys =>
    rw [List.all_cons] at hs
    obtain ⟨hs1, hs2⟩ := and_t hs
    have q2 : TZs c es σ H1 fun vs H2 => TZs c kes σ H2 fun us H3 => ∃ zs ys ρ2 st2, Wd c.K ρ2 st2 H3 ∧ Rep c.K ρ2 H3 z (.ref a0) ∧ RepL c.K ρ2 H3 zs vs ∧ RepL c.K ρ2 H3 ys us ∧ ys.length = kes.length ∧ RSat c.K c.b ρ2 H3 st2 (c.F q (z :: (zs ++ ys)) ks c.b st2) (PK c.K Q) := by
      refine tzs_next r1 w1 q1 fun zs st2 ρ2 H2 vs e2 s2 w2 r2 hvs _ q2 => ?_
      refine tzs_next r2 w2 q2 fun ys st3 ρ3 H3 us e3 s3 w3 r3 hu ly q3 => ?_
      exact ⟨zs, ys, ρ3, st3, w3, (hv.evo e2).evo e3, RepL.evo e3 _ _ hvs, hu, ly, q3⟩
    refine PySem.W.callWith_KW (h₀ := X.base) I1.ok.mod.kin fc.kp k1 (thn (ha.run p2 pins s1 σ H1 _ I1 q2) fun us s2 ⟨vs, H2, I2, rr, q3⟩ => ?_) (by rw [k3, star_any (by rw [List.all_cons, hs1, hs2]; rfl)]; rfl) (star_cons hs1)
    refine thn (hk.run p2 pins s2 σ H2 _ I2 q3) fun wz s3 ⟨zs2, H3, I3, rz, zs, ys', ρ2, st2, w2, hv2, hz, hu, ly, q4⟩ => ⟨I3.kIn, ?_⟩
    rw [k2]
    exact run_z (us := .ref a0 :: us) (vs := .ref a0 :: (vs ++ zs2)) fc g.k hr I3 w2 (repL_cons.mpr ⟨_, _, rfl, hv2, hz.append hu⟩) (.cons rfl (rr.append rz)) (by rw [← rz.length, hu.length, ly, k4]) q4
end
end ZZ

end
section
set_option maxHeartbeats 200000
namespace ZZ
open PySem PySem.Spec PyProof.Rows L2
section
variable {tb : Tb} {c : Cf} {X : Cx} {S : Sc}
/-! ### instances made -/
theorem run_mk {cl q : String} {a : Addr} {fd : FuncData} {d : FnD} {G' : List Z → Nat → Sto → R Z} {j : Nat} {kk : Bool} {pins : List (Addr × Obj)} {σ : L2.St} {H : Hp} {s : Shared} {Q : VK} {zs : List Z} {vs : List V} {us ws : List Value} {ks : List String} {ρ : Ro} {st : Sto}
    (M : Mk X.K (He.ga X.K cl) a) (fc : FnC c X q a fd d G' j) (gk : X.K = c.K) (hr : Room (j + 1) X.A) (I : Inv X pins σ H s) (w : Wd c.K ρ st H) (hv : RepL c.K ρ H zs vs) (rv : Vals vs (us ++ ws)) (lw : ws.length = ks.length)
    (qq : RSat c.K c.b ρ H st ((c.F q (.cel st.length :: zs) ks (if kk then c.b else max c.b (st.length + 1)) (st ++ [.ins cl [] []])).bind fun y st1 => mkEnd kk cl st.length y st1) (PK c.K Q)) :
    wpAny (model X.prog X.w) X.A (PySem.call (.ref (He.ga X.K cl)) us ((ks.map Str.ofString).zip ws)) (EP X pins σ Q) X.xe s := by
  have hx : H (s.heap.objs.size + 1) = none := I.hok.fresh (Nat.le_succ _)
  have hdx : H s.heap.objs.size = none := I.hok.fresh (Nat.le_refl _)
  generalize hX : s.heap.objs.size + 1 = x at hx
  generalize hD : s.heap.objs.size = dx at hdx
  have hne : dx ≠ x := by rw [← hX, ← hD]; exact Nat.ne_of_lt (Nat.lt_succ_self _)
  have I2 := Inv.made (C := He.ga X.K cl) I
  rw [hX, hD] at I2
  have e0 := evo_new (ρ := ρ) (o := HO.own x) hdx
  have w0 := w.new (o := HO.own x) hdx
  have hx0 : upd H dx (.own x) x = none := by rw [upd_ne (Ne.symm hne)]; exact hx
  have e1 := evo_cell (ρ := ρ) (o := HO.ins (He.ga c.K cl) dx []) hx0
  have w1 : Wd c.K (ρ.add x) (st ++ [.ins cl [] []]) (upd (upd H dx (.own x)) x (.ins (He.ga c.K cl) dx [])) := w0.cell hx0 ⟨x, dx, [], rfl, by rw [upd_same]; rfl, rfl, by decide, repL_nil.mpr rfl⟩
  have e2 := e0.trans e1
  have hcn : (ρ.add x).c[st.length]? = some (some x) := by
    show (ρ.c ++ [some x])[st.length]? = _
    rw [← w.len]; simp
  have rc : Rep c.K (ρ.add x) (upd (upd H dx (.own x)) x (.ins (He.ga c.K cl) dx [])) (.cel st.length) (.ref x) := rep_cel.mpr ⟨by show st.length < (ρ.c ++ [some x]).length; rw [← w.len]; simp, fun b h => by rw [hcn] at h; cases h; rfl⟩
  generalize hB : (if kk then c.b else max c.b (st.length + 1)) = B at qq
  have key : RSat c.K B (ρ.add x) (upd (upd H dx (.own x)) x (.ins (He.ga c.K cl) dx [])) (st ++ [.ins cl [] []]) (c.F q (.cel st.length :: zs) ks B (st ++ [.ins cl [] []])) (PK c.K fun v H2 => v = .non ∧ Q (.ref x) H2) := by
    cases hF : c.F q (.cel st.length :: zs) ks B (st ++ [.ins cl [] []]) with
    | exn _ _ _ => rw [hF] at qq; exact qq.elim
    | no => rw [hF] at qq; exact qq.elim
    | ok y st1 =>
      rw [hF] at qq
      have qq : RSat c.K c.b ρ H st (mkEnd kk cl st.length y st1) (PK c.K Q) := qq
      intro ρ3 H3 e3 s3 w3 v hv3
      unfold mkEnd at qq
      cases y with
      | non =>
        refine ⟨rep_non.mp hv3, ?_⟩
        cases kk with
        | true =>
          have hB : c.b = B := hB
          simp only [if_true] at qq
          exact qq ρ3 H3 (e2.trans e3) (sub_app.trans (hB ▸ s3)) w3 _ (rc.evo e3)
        | false =>
          have hB : max c.b (st.length + 1) = B := hB
          simp only [Bool.false_eq_true, if_false] at qq
          split at qq
          · rename_i c' fs vs' hc
            split at qq
            · rename_i hcond
              obtain ⟨h1, h2⟩ := and_t hcond
              have h1 : c' = cl := by simpa using h1
              subst h1
              have hcl : refsL vs' = [] := List.isEmpty_iff.mp h2
              have sB : Sub B st st1 := sub_app.trans s3
              obtain ⟨e4, s4, w4⟩ := cut_all (b := c.b) w (e2.trans e3) (sB.mono (by omega)) w3
              obtain ⟨a4, hr4, b4, a5, dx4, us4, k1, k2, k3, k5, k4⟩ := cel_at w3 hc (rc.evo e3) (by intro z; cases z)
              cases k1
              cases hr4
              refine qq _ H3 e4 s4 w4 _ (rep_ins.mpr ⟨x, dx4, us4, rfl, k2, ⟨fun m => ?_, fun m => ?_⟩, k3, RepL.cut _ _ (fun m hm => by rw [hcl] at hm; cases hm) k4⟩)
              · obtain ⟨i, hi⟩ := List.getElem?_of_mem m
                have hil : i < st.length := by
                  have : i < (ρ3.c.take st.length).length := (List.getElem?_eq_some_iff.mp hi).1
                  rw [List.length_take] at this
                  omega
                have := w3.inj i st.length x (cut_at hil hi) b4
                omega
              · exact (w3.hid x m).1 (List.mem_of_getElem? b4)
            · exact qq.elim
          · exact qq.elim
      | _ => exact qq.elim
  rw [fc.run] at key
  cases hb : bindZ d (.cel st.length :: zs) ks with
  | none => rw [hb] at key; exact key.elim
  | some as =>
    rw [hb] at key
    have r1 : Vals (V.ref x :: vs) ((Value.ref x :: us) ++ ws) := .cons rfl rv
    obtain ⟨us', vs', b1, b2, b3, b4⟩ := fc.bind (.cel st.length :: zs) as ks hb (ρ.add x) _ (st ++ [.ins cl [] []]) (.ref x :: vs) (.ref x :: us) ws w1 (repL_cons.mpr ⟨_, _, rfl, rc, RepL.evo e2 _ _ hv⟩) r1 lw _ (by rw [← gk]; exact I2.kIn)
    subst hX hD
    refine wpAny_call (make_map (f := a) I.kIn M.makes M.init (beq_iff_eq.mp M.fn) (codeAny_mono (fc.ok.run _ X.stack _ _ ⟨Value.ref (s.heap.objs.size + 1) :: us, (ks.map Str.ofString).zip ws⟩ us' vs' _ (fun _ _ _ => False) (hr.make (He.ga X.K cl) us ((ks.map Str.ofString).zip ws))
      (I2.env0.make (He.ga X.K cl) us ((ks.map Str.ofString).zip ws)) b1 b2 ⟨as, _, _, B, b4, by rw [gk]; exact b3, by rw [gk]; exact w1, by rw [gk]; exact key⟩) fun r s' hq' => ?_))
    cases r with
    | error e => exact hq'.elim
    | ok fl =>
      cases fl with
      | ret u =>
        obtain ⟨v, H', I3, rv, ev, q3⟩ := I2.after hq'
        subst ev
        exact ⟨rv, ⟨V.ref (s.heap.objs.size + 1), H', I3, rfl, q3⟩⟩
      | next => exact False.elim hq'
      | brk => exact False.elim hq'
      | cont => exact False.elim hq'
theorem s_mk {kk : Bool} {cl q : String} {es kes : List E} {ks : List String} {xs : List Expr} {kws : List Keyword} {p p2 : Pos} (g : Gd tb c X S) (hg : glC S (Str.ofString cl) = true) (hf : tb.mkr cl q = true) (hs : xs.all notStar = true) (hn : xs = [] → es = []) (ha : PA X xs (TZs c es)) (hk : L2.PK X kws (TZs c kes)) (hkk : chkK tb S kes ks kws = true) :
    PE X (.Call (.Name (Str.ofString cl) p) xs kws p2) (TZ c (.mk kk cl q es kes ks)) := by
  obtain ⟨h1, h2⟩ := glC_ok g hg
  obtain ⟨m, a, fd, d, G', k, M, hr, fc⟩ := g.mkr cl q hf
  obtain ⟨k1, k2, k3, k4⟩ := kw_names (env := X.env) (pos := p2) hkk
  refine ⟨fun pins s σ H Q I ⟨en, ρ, st, r, w, qq⟩ => ?_⟩
  unfold ev at qq
  refine wpAny_Call_Name_kw (ld_glob I h1 m ?_ h2)
  cases xs with
  | nil =>
    refine PySem.W.callWith_KW0 (h₀ := X.base) I.ok.mod.kin M.kp k1 ?_ (by rw [k3]; rfl)
    have e0 := hn rfl
    subst e0
    rw [evs_nil] at qq
    have q1 : TZs c kes σ H fun us H2 => ∃ ys ρ2 st2, Wd c.K ρ2 st2 H2 ∧ RepL c.K ρ2 H2 ys us ∧ ys.length = kes.length ∧ RSat c.K c.b ρ2 H2 st2 ((c.F q (.cel st2.length :: ([] ++ ys)) ks (if kk then c.b else max c.b (st2.length + 1)) (st2 ++ [.ins cl [] []])).bind fun y st1 => mkEnd kk cl st2.length y st1) (PK c.K Q) :=
      tzs_next r w (show RSat c.K c.b ρ H st ((evs c.F c.G c.b kes en st).bind fun ys st => _) _ from qq) fun ys st2 ρ2 H2 us e2 s2 w2 r2 hu ly q2 => ⟨ys, ρ2, st2, w2, hu, ly, q2⟩
    refine thn (hk.run p2 pins s σ H _ I q1) fun wz s2 ⟨zs2, H2, I2, rz, ys, ρ2, st2, w2, hu, ly, q3⟩ => ⟨I2.kIn, ?_⟩
    rw [k2]
    exact run_mk (us := []) M fc g.k hr I2 w2 hu rz (by rw [← rz.length, hu.length, ly, k4]) q3
  | cons y ys =>
    rw [List.all_cons] at hs
    obtain ⟨hs1, hs2⟩ := and_t hs
    have q1 : TZs c es σ H fun vs H1 => TZs c kes σ H1 fun us H2 => ∃ zs ys ρ2 st2, Wd c.K ρ2 st2 H2 ∧ RepL c.K ρ2 H2 zs vs ∧ RepL c.K ρ2 H2 ys us ∧ ys.length = kes.length ∧ RSat c.K c.b ρ2 H2 st2 ((c.F q (.cel st2.length :: (zs ++ ys)) ks (if kk then c.b else max c.b (st2.length + 1)) (st2 ++ [.ins cl [] []])).bind fun y st1 => mkEnd kk cl st2.length y st1) (PK c.K Q) := by
      refine tzs_next r w qq fun zs st1 ρ1 H1 vs e1 s1 w1 r1 hv _ q1 => ?_
      refine tzs_next r1 w1 q1 fun ys st2 ρ2 H2 us e2 s2 w2 r2 hu ly q2 => ?_
      exact ⟨zs, ys, ρ2, st2, w2, RepL.evo e2 _ _ hv, hu, ly, q2⟩
    refine PySem.W.callWith_KW (h₀ := X.base) I.ok.mod.kin M.kp k1 (thn (ha.run p2 pins s σ H _ I q1) fun us s1 ⟨vs, H1, I1, rr, q2⟩ => ?_) (by rw [k3, star_any (by rw [List.all_cons, hs1, hs2]; rfl)]; rfl) (star_cons hs1)
    refine thn (hk.run p2 pins s1 σ H1 _ I1 q2) fun wz s2 ⟨zs2, H2, I2, rz, zs, ys', ρ2, st2, w2, hv, hu, ly, q3⟩ => ⟨I2.kIn, ?_⟩
    rw [k2]
    exact run_mk M fc g.k hr I2 w2 (hv.append hu) (rr.append rz) (by rw [← rz.length, hu.length, ly, k4]) q3
end
end ZZ

end
section
set_option maxHeartbeats 400000
/-! ZTz: tuple(zip(a, b)). -/
namespace ZZ
open PySem PySem.Spec PyProof.Rows L2
theorem tz_len : typeLookup (.type "zip") "__len__" = pure none := am_miss_of_fast (by decide +kernel)
theorem tz_hint : typeLookup (.type "zip") "__length_hint__" = pure none := am_miss_of_fast (by decide +kernel)
/-- the zip object, i items drawn; S: where the items go -/
def ZSt (xs ys : Array Value) (z TI TO i1 i2 l1 l2 S : Addr) (i : Nat) (h : Heap) : Prop := IsPair h TI (.ref i1) (.ref i2) ∧ h.IsListIter i1 l1 i ∧ h.IsListIter i2 l2 i ∧ h.IsList l1 xs ∧ h.IsList l2 ys ∧
  ((IsZip h z TI TO .none ∧ ∃ a b, IsPair h TO a b) ∨ ∃ T f oT, IsZipHeld h z TI TO T f ∧ h.get? T = some oT ∧ T ≠ z ∧ T ≠ i1 ∧ T ≠ i2 ∧ T ≠ S)
section
variable {prog : Program} {w : World} {A : Around} {E : Value → Shared → Prop} {s : Shared} {xs ys : Array Value} {z TI TO i1 i2 l1 l2 S : Addr} {i : Nat}
theorem ZSt.zobj {h : Heap} (st : ZSt xs ys z TI TO i1 i2 l1 l2 S i h) : ∃ o, h.get? z = some o ∧ o.cls = .type "zip" := by
  obtain ⟨_, _, _, _, _, hz⟩ := st
  rcases hz with ⟨hz, _⟩ | ⟨T, f, oT, hz, _⟩
  · exact ⟨_, hz, rfl⟩
  · exact ⟨_, hz, rfl⟩
theorem ZSt.frame {h h' : Heap} (D : ZipApart z TI TO i1 i2 l1 l2) (st : ZSt xs ys z TI TO i1 i2 l1 l2 S i h) (hs : ∀ c ∈ [z, TI, TO, i1, i2, l1, l2], c ≠ S) (k : ∀ b o, b ≠ S → h.get? b = some o → h'.get? b = some o) : ZSt xs ys z TI TO i1 i2 l1 l2 S i h' := by
  obtain ⟨hTI, h1, h2, hl1, hl2, hz⟩ := st
  refine ⟨k _ _ (hs _ (by simp)) hTI, h1.at fun o e => k _ o (hs _ (by simp)) e, h2.at fun o e => k _ o (hs _ (by simp)) e, hl1.at fun o e => k _ o (hs _ (by simp)) e, hl2.at fun o e => k _ o (hs _ (by simp)) e, ?_⟩
  rcases hz with ⟨hz, a, b, hTO⟩ | ⟨T, f, oT, hz, hT, r1, r2, r3, r4⟩
  · exact .inl ⟨k _ _ (hs _ (by simp)) hz, a, b, k _ _ (hs _ (by simp)) hTO⟩
  · exact .inr ⟨T, f, oT, k _ _ (hs _ (by simp)) hz, k _ _ r4 hT, r1, r2, r3, r4⟩
theorem zst_item {Q : Option Value → Shared → Prop} {x y : Value} (D : ZipApart z TI TO i1 i2 l1 l2) (st : ZSt xs ys z TI TO i1 i2 l1 l2 S i s.heap) (ex : xs[i]? = some x) (ey : ys[i]? = some y) (hS : S < s.heap.objs.size)
    (hQ : ∀ h', ZSt xs ys z TI TO i1 i2 l1 l2 S (i + 1) h' → IsPair h' s.heap.objs.size x y → h'.objs.size = s.heap.objs.size + 1 → (∀ c o, c ∉ [z, TO, i1, i2] → s.heap.get? c = some o → h'.get? c = some o) → Q (some (.ref s.heap.objs.size)) { s with heap := h' }) :
    wpAny (model prog w) A (pyNext (.ref z)) Q E s := by
  obtain ⟨hTI, h1, h2, hl1, hl2, hz⟩ := st
  have lt : ∀ {c o}, s.heap.get? c = some o → s.heap.objs.size ≠ c := fun e => Nat.ne_of_gt (Heap.lt_size e)
  have n1 : s.heap.objs.size ≠ i1 := let ⟨_, e, _⟩ := h1; lt e
  have n2 : s.heap.objs.size ≠ i2 := let ⟨_, e, _⟩ := h2; lt e
  rcases hz with ⟨hz, a, b, hTO⟩ | ⟨T, f, oT, hz, hT, r1, r2, r3, r4⟩
  · refine wpAny_pyNext_zip_item D hz hTI hTO h1 h2 hl1 hl2 ex ey fun h' a1 a2 a3 a4 a5 a6 hk => ?_
    exact hQ h' ⟨hk _ _ D.TIz D.TITO D.TIi1 D.TIi2 hTI, a3, a4, hl1.at fun o e => hk _ o D.l1z D.l1TO D.l1i1 D.l1i2 e, hl2.at fun o e => hk _ o D.l2z D.l2TO D.l2i1 D.l2i2 e,
        .inr ⟨s.heap.objs.size, false, _, a1, a5, lt hz, n1, n2, Nat.ne_of_gt hS⟩⟩ a5 a6 fun c o hc e => hk c o (fun x => hc (by simp [x])) (fun x => hc (by simp [x])) (fun x => hc (by simp [x])) (fun x => hc (by simp [x])) e
  · refine wpAny_pyNext_zip_item_held D hz hT hTI h1 h2 hl1 hl2 ex ey fun h' a1 a3 a4 a5 a6 hk => ?_
    exact hQ h' ⟨hk _ _ D.TIz D.TIi1 D.TIi2 hTI, a3, a4, hl1.at fun o e => hk _ o D.l1z D.l1i1 D.l1i2 e, hl2.at fun o e => hk _ o D.l2z D.l2i1 D.l2i2 e,
        .inr ⟨T, true, oT, a1, hk _ _ r1 r2 r3 hT, r1, r2, r3, r4⟩⟩ a5 a6 fun c o hc e => hk c o (fun x => hc (by simp [x])) (fun x => hc (by simp [x])) (fun x => hc (by simp [x])) e
theorem zst_done {Q : Option Value → Shared → Prop} (hh : A.handled = none) (D : ZipApart z TI TO i1 i2 l1 l2) (st : ZSt xs ys z TI TO i1 i2 l1 l2 S i s.heap) (hend : xs[i]? = none ∨ ys[i]? = none)
    (hQ : ∀ h', (∀ c o, c ∉ [z, TO, i1, i2] → s.heap.get? c = some o → h'.get? c = some o) → Q none { s with heap := h' }) : wpAny (model prog w) A (pyNext (.ref z)) Q E s := by
  obtain ⟨hTI, h1, h2, hl1, hl2, hz⟩ := st
  rcases hz with ⟨hz, a, b, hTO⟩ | ⟨T, f, oT, hz, hT, r1, r2, r3, r4⟩
  · exact wpAny_pyNext_zip_end hh D hz hTI hTO h1 h2 hl1 hl2 hend fun h' hk => hQ h' fun c o hc e => hk c o (fun x => hc (by simp [x])) (fun x => hc (by simp [x])) (fun x => hc (by simp [x])) (fun x => hc (by simp [x])) e
  · exact wpAny_pyNext_zip_end_held hh D hz hT hTI h1 h2 hl1 hl2 hend fun h' hk => hQ h' fun c o hc e => hk c o (fun x => hc (by simp [x])) (fun x => hc (by simp [x])) (fun x => hc (by simp [x])) e
end
section
variable {X : Cx} {pins : List (Addr × Obj)} {σ : L2.St} {K : PySem.W.Frag} {A : Around} {E : Value → Shared → Prop}
abbrev listObj (acc : Array Value) (c : Nat) : Obj := { cls := .type "list", dict := none, data := .seq acc c, slots := #[] }
/-- what stands behind i items: the cells' heap, and what has been told of the items -/
structure ZAcc (X : Cx) (pins : List (Addr × Obj)) (σ : L2.St) (K : PySem.W.Frag) (ρ : Ro) (st : Sto) (H0 : Hp) (a b : Addr) (va vb : List V) (za zb : List Z) (ch : List Addr) (i : Nat) (acc : Array Value) (s : Shared) (H : Hp) : Prop where
  inv : L2.Inv X pins σ H s
  fp : ∀ c ∈ ch, FpOk X pins H c ∧ c < s.heap.objs.size
  wd : Wd K ρ st H
  evo : Evo ρ H0 ρ H
  ha : SqL K H a va
  hb : SqL K H b vb
  rl : ∃ vs, RepL K ρ H ((zipZ za zb).take i) vs ∧ Vals vs acc.toList
  ra : RepL K ρ H za va
  rb : RepL K ρ H zb vb
theorem zip_take {za zb : List Z} {x y : Z} {i : Nat} (hx : za[i]? = some x) (hy : zb[i]? = some y) : (zipZ za zb).take (i + 1) = (zipZ za zb).take i ++ [.tup [x, y]] := by
  have : ∀ (za zb : List Z) (i : Nat), za[i]? = some x → zb[i]? = some y → (zipZ za zb)[i]? = some (.tup [x, y]) := by
    intro za
    induction za with
    | nil => intro zb i h; simp at h
    | cons a za ih =>
      intro zb i h g
      cases zb with
      | nil => simp at g
      | cons b zb =>
        unfold zipZ
        cases i with
        | zero => simp at h g; subst h; subst g; rfl
        | succ i => exact ih zb i (by simpa using h) (by simpa using g)
  rw [List.take_add_one, this za zb i hx hy]
  rfl
theorem zipZ_len0 : ∀ {xs ys : List Z}, (zipZ xs ys).length = min xs.length ys.length
  | [], _ => by unfold zipZ; simp
  | _ :: _, [] => by unfold zipZ; simp
  | x :: xs, y :: ys => by unfold zipZ; simp [zipZ_len0]
theorem rd_new {H : Hp} {p a : Addr} {o u : HO} (h : Rd H a u) (hp : H p = none) : Rd (upd H p o) a u := by
  rcases h with h | ⟨o', h⟩
  · exact .inl (by rw [upd_ne (ne_of_none h hp)]; exact h)
  · exact .inr ⟨o', by rw [upd_ne (ne_of_none h hp)]; exact h⟩
theorem sqL_new {K : PySem.W.Frag} {H : Hp} {p a : Addr} {o : HO} {xs : List V} (h : SqL K H a xs) (hp : H p = none) : SqL K (upd H p o) a xs := by
  rcases h with h | h
  · exact .inl (rd_new h hp)
  · exact .inr h
theorem ext_loop {R : Result → Shared → Prop} {z TI TO i1 i2 a b S : Addr} {its its2 : List Value} {va vb : List V} {za zb : List Z} {ρ : Ro} {st : Sto} {H0 : Hp} (hh : A.in1.handled = none) (D : ZipApart z TI TO i1 i2 a b) (rva : Vals va its) (rvb : Vals vb its2)
    (hs : ∀ c ∈ [z, TI, TO, i1, i2, a, b], c ≠ S) (hn : min za.length zb.length ≤ sizeLine) (res : Value) :
    ∀ (k i : Nat) (s : Shared) (acc : Array Value) (c : Nat) (H : Hp), min za.length zb.length - i = k → i ≤ min za.length zb.length → ZSt its.toArray its2.toArray z TI TO i1 i2 a b S i s.heap → s.heap.get? S = some (listObj acc c) →
    ZAcc X pins σ K ρ st H0 a b va vb za zb [z, TO, i1, i2, S] i acc s H → acc.size = i →
    (∀ s' H' acc' c', s'.heap.get? S = some (listObj acc' c') → L2.Inv X pins σ H' s' → Wd K ρ st H' → Evo ρ H0 ρ H' → (∃ vs, RepL K ρ H' (zipZ za zb) vs ∧ Vals vs acc'.toList) → acc'.size = min za.length zb.length → R (.ok (.ret res)) s') →
    codeAny (model X.prog X.w) A (.builtin "list.extend.loop" ⟨[.ref S, .ref z, res], []⟩) R s := by
  have hSc : S ∉ [z, TO, i1, i2] := fun h => by
    simp only [List.mem_cons, List.not_mem_nil, or_false] at h
    rcases h with h | h | h | h
    · exact hs z (by simp) h.symm
    · exact hs TO (by simp) h.symm
    · exact hs i1 (by simp) h.symm
    · exact hs i2 (by simp) h.symm
  intro k
  induction k with
  | zero =>
    intro i s acc c H hk hi zst hS Z hsz hR
    have hin : i = min za.length zb.length := by omega
    refine codeAny_builtin F.entry_extend_loop ?_
    rw [Around.under_plainId F.plain_extend_loop _]
    show wpAny _ A.in1 (pyNext (.ref z) >>= _) _ _ s
    have la := Z.ra.length
    have lb := Z.rb.length
    have ta := rva.length
    have tb := rvb.length
    refine wpAny_bind (zst_done hh D zst ?_ fun h' hk' => ?_)
    · by_cases h : za.length ≤ zb.length
      · exact .inl (Array.getElem?_eq_none (by rw [List.size_toArray]; omega))
      · exact .inr (Array.getElem?_eq_none (by rw [List.size_toArray]; omega))
    · refine wpAny_pure (hR _ H acc c (hk' _ _ hSc hS) (Z.inv.turnedL (t' := s.toks) (ch := [z, TO, i1, i2, S]) (fun c o hc e => hk' c o (fun m => hc (by
        simp only [List.mem_cons, List.not_mem_nil, or_false] at m ⊢
        rcases m with m | m | m | m
        · exact .inl m
        · exact .inr (.inl m)
        · exact .inr (.inr (.inl m))
        · exact .inr (.inr (.inr (.inl m))))) e) (fun c hc => (Z.fp c hc).1)) Z.wd Z.evo ?_ (by omega))
      obtain ⟨vs, r1, r2⟩ := Z.rl
      refine ⟨vs, ?_, r2⟩
      rw [hin, List.take_of_length_le (by rw [zipZ_len0]; exact Nat.le_refl _)] at r1
      exact r1
  | succ k ih =>
    intro i s acc c H hk hi zst hS Z hsz hR
    have hlt : i < min za.length zb.length := by omega
    refine codeAny_builtin F.entry_extend_loop ?_
    rw [Around.under_plainId F.plain_extend_loop _]
    show wpAny _ A.in1 (pyNext (.ref z) >>= _) _ _ s
    have hza : za[i]? = some za[i] := List.getElem?_eq_getElem (by omega)
    have hzb : zb[i]? = some zb[i] := List.getElem?_eq_getElem (by omega)
    obtain ⟨x, hx, rx⟩ := Z.ra.get hza
    obtain ⟨y, hy, ry⟩ := Z.rb.get hzb
    obtain ⟨u, hu, ru⟩ := rva.get hx
    obtain ⟨u2, hu2, ru2⟩ := rvb.get hy
    have hSl : S < s.heap.objs.size := Heap.lt_size hS
    refine wpAny_bind (zst_item D zst (by simpa using hu) (by simpa using hu2) hSl fun h' zst' hp hsz' hk' => ?_)
    have hS' := hk' _ _ hSc hS
    show wpAny _ A.in1 (updateSeq S (·.push (.ref s.heap.objs.size)) >>= _) _ _ _
    refine wpAny_bind ?_
    have hTn : s.heap.objs.size ≠ S := Nat.ne_of_gt hSl
    have oth : ∀ b o, b ≠ S → h'.get? b = some o → (h'.update S (Obj.mapSeq (·.push (Value.ref s.heap.objs.size)))).get? b = some o := fun b o hb e => (Heap.get?_update_other _ _ (Ne.symm hb)).trans e
    have hH : H s.heap.objs.size = none := Z.inv.hok.fresh (Nat.le_refl _)
    have new : ObjOk X.prog X.w (upd H s.heap.objs.size (.tup [x, y])) (h'.update S (Obj.mapSeq (·.push (Value.ref s.heap.objs.size)))) s.heap.objs.size (.tup [x, y]) :=
      ⟨by show 2 ≤ sizeLine; decide, [u, u2], .cons ru (.cons ru2 .nil), ⟨_, oth _ _ hTn hp, rfl, _, rfl⟩⟩
    refine wpAny_updateSeq hS' rfl (wpAny_pure ⟨plainId_quiet F.plain_extend_loop _, ih (i + 1) _ (acc.push (.ref s.heap.objs.size)) _ (upd H s.heap.objs.size (.tup [x, y])) (by omega) hlt (zst'.frame D hs fun b o hb e => oth b o hb e) (Heap.get?_update_self _ hS' rfl) ?_ (by rw [Array.size_push, hsz]) hR⟩)
      (by rw [hsz]; omega) (by show (acc.push _).size ≤ sizeLine + 1; rw [Array.size_push, hsz]; omega)
    have e1 := evo_new (ρ := ρ) (o := HO.tup [x, y]) hH
    have w1 := Z.wd.new (o := HO.tup [x, y]) hH
    have I1 : L2.Inv X pins σ (upd H s.heap.objs.size (.tup [x, y])) { s with heap := h'.update S (Obj.mapSeq (·.push (Value.ref s.heap.objs.size))) } :=
      Z.inv.turnedNew (t' := s.toks) (ch := [z, TO, i1, i2, S]) (fun c o hc e => oth c o (fun q => hc (by simp [q])) (hk' c o (fun m => hc (by
        simp only [List.mem_cons, List.not_mem_nil, or_false] at m ⊢
        rcases m with m | m | m | m
        · exact .inl m
        · exact .inr (.inl m)
        · exact .inr (.inr (.inl m))
        · exact .inr (.inr (.inr (.inl m))))) e)) (fun c hc => (Z.fp c hc).1) (Nat.le_refl _) new
    obtain ⟨vs, r1, r2⟩ := Z.rl
    refine ⟨I1, fun c hc => ?_, w1, Z.evo.trans e1, ?_, ?_, ⟨vs ++ [.ref s.heap.objs.size], ?_, ?_⟩, RepL.evo e1 _ _ Z.ra, RepL.evo e1 _ _ Z.rb⟩
    · obtain ⟨⟨f1, f2⟩, f3⟩ := Z.fp c hc
      refine ⟨⟨?_, f2⟩, ?_⟩
      · rw [upd_ne (Nat.ne_of_lt f3)]
        exact f1
      · show c < (h'.update S _).objs.size
        rw [Heap.size_update, hsz']
        exact Nat.lt_succ_of_lt f3
    · exact sqL_new Z.ha hH
    · exact sqL_new Z.hb hH
    · rw [zip_take hza hzb]
      refine (RepL.evo e1 _ _ r1).append (repL_cons.mpr ⟨_, [], rfl, ?_, repL_nil.mpr rfl⟩)
      exact rep_tup.mpr ⟨_, _, rfl, .inl ⟨upd_same, Z.wd.notin hH⟩, by show 2 ≤ sizeL; decide, repL_cons.mpr ⟨x, _, rfl, rx.evo e1, repL_cons.mpr ⟨y, [], rfl, ry.evo e1, repL_nil.mpr rfl⟩⟩⟩
    · rw [Array.toList_push]
      exact r2.append (.cons rfl .nil)
/-- list(it) and the like: all items of a zip, in order -/
theorem collect_zip {z TI TO i1 i2 a b : Addr} {its its2 : List Value} {va vb : List V} {za zb : List Z} {ρ : Ro} {st : Sto} {H : Hp} {s : Shared} {Q : List Value → Shared → Prop} (hh : A.in1.handled = none) (D : ZipApart z TI TO i1 i2 a b) (rva : Vals va its) (rvb : Vals vb its2)
    (hn : min za.length zb.length ≤ sizeLine) (zst : ∀ S, (∀ c ∈ [z, TI, TO, i1, i2, a, b], c ≠ S) → ZSt its.toArray its2.toArray z TI TO i1 i2 a b S 0 s.heap) (hlt : ∀ c ∈ [z, TI, TO, i1, i2, a, b], c < s.heap.objs.size)
    (I : L2.Inv X pins σ H s) (hf : ∀ c ∈ [z, TO, i1, i2], FpOk X pins H c) (wd : Wd K ρ st H) (ha : SqL K H a va) (hb : SqL K H b vb) (ra : RepL K ρ H za va) (rb : RepL K ρ H zb vb)
    (hQ : ∀ s' H' acc, L2.Inv X pins σ H' s' → Wd K ρ st H' → Evo ρ H ρ H' → (∃ vs, RepL K ρ H' (zipZ za zb) vs ∧ Vals vs acc) → acc.length = min za.length zb.length → Q acc s') : wpAny (model X.prog X.w) A (collect (.ref z)) Q E s := by
  have hs : ∀ c ∈ [z, TI, TO, i1, i2, a, b], c ≠ s.heap.objs.size := fun c hc => Nat.ne_of_lt (hlt c hc)
  have zst0 := zst _ hs
  have hSz : s.heap.objs.size ≠ z := Ne.symm (hs z (by simp))
  unfold collect
  refine wpAny_bind (wpAny_runValue (codeAny_builtin F.entry_proto_collect ?_))
  rw [Around.under_plainId F.plain_proto_collect _]
  show wpAny _ A.in1 (newList [] >>= fun l => again (.builtin "list.__iadd__" ⟨[l, .ref z], []⟩)) _ _ s
  refine wpAny_bind (wpAny_newObj_type ?_)
  refine wpAny_pure ⟨plainId_quiet F.plain_list_iadd _, codeAny_builtin F.entry_list_iadd ?_⟩
  rw [Around.under_plainId F.plain_list_iadd _]
  have zst1 : ZSt its.toArray its2.toArray z TI TO i1 i2 a b s.heap.objs.size 0 (s.heap.push { cls := .type "list", data := .seq ([] : List Value).toArray }) := zst0.frame D hs fun c o _ e => Heap.get?_push_of_some _ e
  have hT : ∀ (s' : Shared), ZSt its.toArray its2.toArray z TI TO i1 i2 a b s.heap.objs.size 0 s'.heap → s'.TypeIs (.ref z) "zip" := fun s' h => let ⟨o, e, c⟩ := h.zobj; ⟨o, e, c⟩
  show wpAny _ A.in1 (Builtin.List.listExtendWith (.ref s.heap.objs.size) (.ref z) (.ref s.heap.objs.size)) _ _ _
  unfold Builtin.List.listExtendWith
  refine wpAny_bind (wpAny_typeOf (hT _ zst1) ?_)
  have h1 : Builtin.List.listSameRef (.ref s.heap.objs.size) (.ref z) = false := by simp [Builtin.List.listSameRef, hSz]
  simp only [h1, show (Value.type "zip" == Value.type "list") = false by decide, show (Value.type "zip" == Value.type "tuple") = false by decide, Bool.or_false, Bool.false_eq_true, if_false]
  have it1 : ∀ {Q' : Value → Shared → Prop} {s' : Shared}, ZSt its.toArray its2.toArray z TI TO i1 i2 a b s.heap.objs.size 0 s'.heap → Q' (.ref z) s' → wpAny (model X.prog X.w) A.in1 (pyIter (.ref z)) Q' E s' := by
    intro Q' s' h q
    obtain ⟨_, _, _, _, _, hz⟩ := h
    rcases hz with ⟨hz, _⟩ | ⟨T, f, oT, hz, _⟩
    · exact wpAny_pyIter_zip hz q
    · refine wpAny_pyIter_slot (⟨_, hz, rfl⟩ : s'.TypeIs (.ref z) "zip") F.slot_zip_iter (wpAny_call_entry F.slot_zip_iter (⟨_, hz, rfl⟩ : s'.TypeIs (.ref z) "zip") F.entry_zip_iter ?_ (F.args_zip_iter_1 _))
      show wpAny _ _ (ret (.ref z)) _ _ s'
      exact wpAny_pure ⟨_, rfl, "zip", _, ⟨_, hz, rfl⟩, F.slot_zip_next.lookup, q⟩
  refine wpAny_bind (wpAny_mono (it1 zst1 ?_) (fun _ _ h => h) (fun _ _ h => h))
  refine wpAny_bind (wpAny_holding ?_)
  unfold Builtin.List.listLengthHint
  refine wpAny_bind (wpAny_specialOf (hT _ zst1) tz_len ?_)
  show wpAny _ A.in1 (specialOf (Value.ref z) (Str.ofString "__length_hint__") >>= _) _ _ _
  refine wpAny_bind (wpAny_specialOf (hT _ zst1) tz_hint ?_)
  refine wpAny_pure ?_
  show wpAny _ A.in1 (rule "list.extend.makes-room" >>= fun _ => Builtin.List.listTouch (.ref s.heap.objs.size) >>= fun _ =>
    again (.builtin "list.extend.loop" ⟨[.ref s.heap.objs.size, .ref z, .ref s.heap.objs.size], []⟩)) _ _ _
  refine wpAny_bind (wpAny_rule ?_)
  have hS₁ : (s.heap.push { cls := .type "list", data := .seq ([] : List Value).toArray }).get? s.heap.objs.size = some { cls := .type "list", data := .seq ([] : List Value).toArray } := Heap.get?_push_size _ rfl
  refine wpAny_bind ?_
  show wpAny _ A.in1 (updateSeq s.heap.objs.size (·.push .none) >>= fun _ => updateSeq s.heap.objs.size (·.pop)) _ _ _
  refine wpAny_bind (wpAny_updateSeq hS₁ rfl ?_)
  have hS₂ := Heap.get?_update_self (Obj.mapSeq (·.push Value.none)) hS₁ rfl
  refine wpAny_updateSeq hS₂ rfl ?_
  have hS₃ := Heap.get?_update_self (Obj.mapSeq (·.pop)) hS₂ rfl
  have oth : ∀ b o, b ≠ s.heap.objs.size → (s.heap.push { cls := .type "list", data := .seq ([] : List Value).toArray }).get? b = some o →
      (((s.heap.push { cls := .type "list", data := .seq ([] : List Value).toArray }).update s.heap.objs.size (Obj.mapSeq (·.push Value.none))).update s.heap.objs.size (Obj.mapSeq (·.pop))).get? b = some o :=
    fun b o hb e => (Heap.get?_update_other _ _ (Ne.symm hb)).trans ((Heap.get?_update_other _ _ (Ne.symm hb)).trans e)
  have hH : H s.heap.objs.size = none := I.hok.fresh (Nat.le_refl _)
  have fpS : FpOk X pins H s.heap.objs.size := I.fpOk (Nat.le_refl _) hH
  refine wpAny_pure ⟨plainId_quiet F.plain_extend_loop _, ext_loop (X := X) (pins := pins) (σ := σ) (K := K) (ρ := ρ) (st := st) (H0 := H) (va := va) (vb := vb) (za := za) (zb := zb) (a := a) (b := b) (its := its) (its2 := its2) hh D rva rvb hs hn _ (min za.length zb.length - 0) 0 _ _ _ H rfl (Nat.zero_le _) (zst1.frame D hs oth) hS₃ ?_ rfl fun s' H' acc' c' hS' I' wd' ev' rl' hl' => ?_⟩
  · refine ⟨I.kept (t' := s.toks) fun c o e => oth c o (Nat.ne_of_lt (Heap.lt_size e)) (Heap.get?_push_of_some _ e), fun c hc => ?_, wd, .refl, ha, hb, ⟨[], by rw [List.take_zero]; exact repL_nil.mpr rfl, .nil⟩, ra, rb⟩
    have sz : (((s.heap.push { cls := .type "list", data := .seq ([] : List Value).toArray }).update s.heap.objs.size (Obj.mapSeq (·.push Value.none))).update s.heap.objs.size (Obj.mapSeq (·.pop))).objs.size = s.heap.objs.size + 1 := by
      rw [Heap.size_update, Heap.size_update, Heap.size_push]
    have hc' : c ∈ [z, TO, i1, i2] ∨ c = s.heap.objs.size := by
      simp only [List.mem_cons, List.not_mem_nil, or_false] at hc ⊢
      rcases hc with m | m | m | m | m
      · exact .inl (.inl m)
      · exact .inl (.inr (.inl m))
      · exact .inl (.inr (.inr (.inl m)))
      · exact .inl (.inr (.inr (.inr m)))
      · exact .inr m
    rcases hc' with m | m
    · refine ⟨hf c m, ?_⟩
      show c < Array.size _
      rw [sz]
      have : c ∈ [z, TI, TO, i1, i2, a, b] := by
        simp only [List.mem_cons, List.not_mem_nil, or_false] at m ⊢
        rcases m with m | m | m | m
        · exact .inl m
        · exact .inr (.inr (.inl m))
        · exact .inr (.inr (.inr (.inl m)))
        · exact .inr (.inr (.inr (.inr (.inl m))))
      exact Nat.lt_succ_of_lt (hlt c this)
    · subst m
      refine ⟨fpS, ?_⟩
      show s.heap.objs.size < Array.size _
      rw [sz]
      exact Nat.lt_succ_self _
  · show wpAny _ A (load s.heap.objs.size >>= _) _ _ s'
    refine wpAny_bind (wpAny_load hS' ?_)
    exact wpAny_pure (hQ s' H' acc'.toList I' wd' ev' rl' (by simpa using hl'))
theorem code_tuple_new_zip {z TI TO i1 i2 a b : Addr} {its its2 : List Value} {va vb : List V} {za zb : List Z} {ρ : Ro} {st : Sto} {H : Hp} {s : Shared} {Q₁ : Value → Shared → Prop} (hh : A.in1.handled = none) (D : ZipApart z TI TO i1 i2 a b) (rva : Vals va its) (rvb : Vals vb its2)
    (hn : min za.length zb.length ≤ sizeLine) (zst : ∀ S, (∀ c ∈ [z, TI, TO, i1, i2, a, b], c ≠ S) → ZSt its.toArray its2.toArray z TI TO i1 i2 a b S 0 s.heap) (hlt : ∀ c ∈ [z, TI, TO, i1, i2, a, b], c < s.heap.objs.size)
    (I : L2.Inv X pins σ H s) (hf : ∀ c ∈ [z, TO, i1, i2], FpOk X pins H c) (wd : Wd K ρ st H) (ha : SqL K H a va) (hb : SqL K H b vb) (ra : RepL K ρ H za va) (rb : RepL K ρ H zb vb)
    (h : ∀ (s' : Shared) H' acc, L2.Inv X pins σ H' s' → Wd K ρ st H' → Evo ρ H ρ H' → (∃ vs, RepL K ρ H' (zipZ za zb) vs ∧ Vals vs acc) → acc.length = min za.length zb.length →
      Q₁ (.ref s'.heap.objs.size) { s' with heap := s'.heap.push { cls := .type "tuple", data := .seq acc.toArray } }) :
    codeAny (model X.prog X.w) A (.call (.builtin "tuple.__new__") ⟨[.type "tuple", .ref z], []⟩) (wants Q₁ E) s := by
  refine codeAny_of_tree ?_
  show wpAny _ A.in1 (do checkBuiltinCall "tuple.__new__" ⟨[.type "tuple", .ref z], []⟩; again (.builtin "tuple.__new__" ⟨[.type "tuple", .ref z], []⟩)) _ _ s
  refine wpAny_bind (wpAny_of_eq (F.newCall_tuple_1 _) (wpAny_pure ⟨plainId_quiet F.plain_tuple_new _, codeAny_builtin F.entry_tuple_new ?_⟩))
  rw [Around.under_plainId F.plain_tuple_new _]
  have hsub := sub_tuple_self
  have hinit := init_tuple_lookup
  have hmh := madeHere_tuple
  obtain ⟨oz, ez, cz⟩ := (zst s.heap.objs.size fun c hc => Nat.ne_of_lt (hlt c hc)).zobj
  have hTI : s.TypeIs (.ref z) "zip" := ⟨oz, ez, cz⟩
  have hh1 : A.in1.in1.handled = none := hh
  wp_walk using wpAny_typeOf hTI, collect_zip (A := A.in1) hh1 D rva rvb hn zst hlt I hf wd ha hb ra rb
  intro s' H' acc I' wd' ev' rl' hl'
  show wpAny _ _ (Builtin.Tuple.tupleExact acc.toArray >>= fun v => ret v) _ _ _
  unfold Builtin.Tuple.tupleExact
  refine wpAny_bind (wpAny_newObj_type ?_ (by show acc.toArray.size ≤ sizeLine; rw [List.size_toArray, hl']; exact hn))
  refine wpAny_pure ?_
  exact h s' H' acc I' wd' ev' rl' hl'
theorem call_tuple_zip {z TI TO i1 i2 a b : Addr} {its its2 : List Value} {va vb : List V} {za zb : List Z} {ρ : Ro} {st : Sto} {H : Hp} {s : Shared} {Q : Value → Shared → Prop} (hh : A.in1.handled = none) (D : ZipApart z TI TO i1 i2 a b) (rva : Vals va its) (rvb : Vals vb its2)
    (hn : min za.length zb.length ≤ sizeLine) (zst : ∀ S, (∀ c ∈ [z, TI, TO, i1, i2, a, b], c ≠ S) → ZSt its.toArray its2.toArray z TI TO i1 i2 a b S 0 s.heap) (hlt : ∀ c ∈ [z, TI, TO, i1, i2, a, b], c < s.heap.objs.size)
    (I : L2.Inv X pins σ H s) (hf : ∀ c ∈ [z, TO, i1, i2], FpOk X pins H c) (wd : Wd K ρ st H) (ha : SqL K H a va) (hb : SqL K H b vb) (ra : RepL K ρ H za va) (rb : RepL K ρ H zb vb)
    (h : ∀ (s' : Shared) H' acc, L2.Inv X pins σ H' s' → Wd K ρ st H' → Evo ρ H ρ H' → (∃ vs, RepL K ρ H' (zipZ za zb) vs ∧ Vals vs acc) → acc.length = min za.length zb.length →
      Q (.ref s'.heap.objs.size) { s' with heap := s'.heap.push { cls := .type "tuple", data := .seq acc.toArray } }) :
    wpAny (model X.prog X.w) A (call (.type "tuple") [.ref z]) Q E s := by
  refine callType_codes (Q₁ := fun obj s₁ => s₁.TypeIs obj "tuple" ∧ Q obj s₁) F.called_tuple (F.typeCall_tuple_1 _) F.entry_object_init
    (code_tuple_new_zip (A := A.in1) hh D rva rvb hn zst hlt I hf wd ha hb ra rb fun s' H' acc I' wd' ev' rl' hl' => ⟨⟨_, Heap.get?_push_size _ rfl, rfl⟩, h s' H' acc I' wd' ev' rl' hl'⟩) fun obj s₁ h₁ => ?_
  exact ⟨h₁.1, F.args_object_init_2 obj _, object_init_meets F.called_tuple.init.lookup F.called_tuple.made (by decide) X.prog X.w A.in1 _ s₁ ⟨h₁.1, rfl, h₁.2⟩⟩
end
section
variable {tb : Tb} {c : Cf} {X : Cx} {S : Sc}
theorem tz_tcons {ta tb : TE} {σ : L2.St} {H : Hp} {P : V → V → Hp → Prop} (h : ta σ H fun v H1 => tb σ H1 fun u H2 => P v u H2) (m1 : ∀ {Q Q' : VK}, (∀ v H, Q v H → Q' v H) → ta σ H Q → ta σ H Q') (m2 : ∀ {H1 : Hp} {Q Q' : VK}, (∀ v H, Q v H → Q' v H) → tb σ H1 Q → tb σ H1 Q') : tCons ta (tCons tb tNil) σ H (fun vs H2 => ∃ v u, vs = [v, u] ∧ P v u H2) :=
  m1 (fun v H1 q => m2 (fun u H2 q2 => ⟨v, u, rfl, q2⟩) q) h
theorem TZ.imp {a : E} {σ : L2.St} {H : Hp} {Q Q' : VK} (k : ∀ v H, Q v H → Q' v H) (h : TZ c a σ H Q) : TZ c a σ H Q' :=
  let ⟨en, ρ, st, r, w, q⟩ := h
  ⟨en, ρ, st, r, w, q.mono fun _ _ _ _ _ _ _ q v hv => k v _ (q v hv)⟩
theorem s_tz {a b : E} {x y : Expr} {p p2 p3 p4 : Pos} (g : Gd tb c X S) (hg1 : glC S (Str.ofString "tuple") = true) (hg2 : glC S (Str.ofString "zip") = true) (hn : notStar x = true) (hn2 : notStar y = true) (ha : PE X x (TZ c a)) (hb : PE X y (TZ c b)) :
    PE X (.Call (.Name (Str.ofString "tuple") p) [.Call (.Name (Str.ofString "zip") p2) [x, y] [] p3] [] p4) (TZ c (.tz a b)) := by
  obtain ⟨h1, _⟩ := glC_ok g hg1
  obtain ⟨h2, _⟩ := glC_ok g hg2
  refine ⟨fun pins s σ H Q I ⟨en, ρ, st, r, w, q⟩ => ?_⟩
  unfold ev at q
  have q1 : TZ c a σ H fun v H1 => TZ c b σ H1 fun u H2 => ∃ p1 p2 va vb za zb ρ2 st2, v = .ref p1 ∧ u = .ref p2 ∧ SqL c.K H2 p1 va ∧ SqL c.K H2 p2 vb ∧ za.length ≤ sizeL ∧ RepL c.K ρ2 H2 za va ∧ RepL c.K ρ2 H2 zb vb ∧ Wd c.K ρ2 st2 H2 ∧ RSat c.K c.b ρ2 H2 st2 (.ok (.tup (zipZ za zb)) st2) (PK c.K Q) := by
    refine tz_next r w q fun z1 st1 ρ1 H1 v e1 s1 w1 r1 hv q1 => ?_
    refine tz_next r1 w1 q1 fun z2 st2 ρ2 H2 u e2 s2 w2 r2 hu q2 => ?_
    cases hd1 : dr st2 z1 with
    | lst za =>
      cases hd2 : dr st2 z2 with
      | lst zb =>
        rw [hd1, hd2] at q2
        obtain ⟨p1, va, rfl, k1, l1, k2⟩ := dr_lst_at w2 (hv.evo e2) hd1
        obtain ⟨p2, vb, rfl, k3, _, k4⟩ := dr_lst_at w2 hu hd2
        exact ⟨p1, p2, va, vb, za, zb, ρ2, st2, rfl, rfl, k1, k3, l1, k2, k4, w2, q2⟩
      | _ => rw [hd1, hd2] at q2; exact q2.elim
    | _ => rw [hd1] at q2; exact q2.elim
  refine Call_ (ld_blt I h1 (g.bi _ (by decide)) boot_tuple (PyProof.Rows.callWith_type1 (args_cons ?_ rfl) rfl))
  refine Call_ (ld_blt I h2 (g.bi _ (by decide)) PyProof.Rows.boot_zip (PyProof.Rows.callWith_type1 (thn ((pa_cons ha (pa_cons hb pa_nil (star_cons hn2)) (star_cons hn)).run p3 pins s σ H (fun vs H2 => ∃ v u, vs = [v, u] ∧ ∃ p1 p2 va vb za zb ρ2 st2, v = .ref p1 ∧ u = .ref p2 ∧ SqL c.K H2 p1 va ∧ SqL c.K H2 p2 vb ∧ za.length ≤ sizeL ∧ RepL c.K ρ2 H2 za va ∧ RepL c.K ρ2 H2 zb vb ∧ Wd c.K ρ2 st2 H2 ∧ RSat c.K c.b ρ2 H2 st2 (.ok (.tup (zipZ za zb)) st2) (PK c.K Q)) I (tz_tcons q1 (fun k h => TZ.imp k h) (fun k h => TZ.imp k h))) fun us s2 ⟨vs, H2, I2, rv, v', u', hvs, q3⟩ => ?_) (star_cons hn) (by rw [star_cons hn2]; rfl)))
  subst hvs
  obtain ⟨p1, p2, va, vb, za, zb, ρ2, st2, rfl, rfl, k1, k2, l1, k3, k4, w2, q4⟩ := q3
  rw [← g.k] at k1 k2
  obtain ⟨v, u, rfl, rv1, ru⟩ : ∃ v u, us = [v, u] ∧ RelV (.ref p1) v ∧ RelV (.ref p2) u := by
    cases rv with
    | cons r0 rr => cases rr with
      | cons r2 rr => cases rr; exact ⟨_, _, rfl, r0, r2⟩
  obtain rfl : v = Value.ref p1 := rv1
  obtain rfl : u = Value.ref p2 := ru
  obtain ⟨its, rva, pa, _⟩ := I2.list k1
  obtain ⟨its2, rvb, pb, _⟩ := I2.list k2
  obtain ⟨oa, ea, _⟩ := pa.isList
  obtain ⟨ob, eb, _⟩ := pb.isList
  have la := Heap.lt_size ea
  have lb := Heap.lt_size eb
  refine call_zip_2 pa.isList pb.isList fun h' hz hTI hTO hi1 hi2 hsz hk => args_nil ?_
  have D := zipApart_new (n := s2.heap.objs.size) la lb
  have I3 : Inv X pins σ H2 { s2 with heap := h' } := I2.kept (t' := s2.toks) hk
  have hn0 : min za.length zb.length ≤ sizeLine := by rw [sizeL_eq]; omega
  rw [g.k] at k1 k2
  refine call_tuple_zip (K := c.K) (va := va) (vb := vb) (I2.ok.hd g.calm) D rva rvb hn0 (fun S hS => ⟨hTI, hi1, hi2, pa.isList.at fun o e => hk _ o e, pb.isList.at fun o e => hk _ o e, .inl ⟨hz, _, _, hTO⟩⟩) (fun cc hc => ?_) I3 (fun cc hc => ?_) w2 k1 k2 k3 k4 fun s' H' acc I' wd' ev' rl' hl' => ?_
  · show cc < h'.objs.size
    rw [hsz]
    have e' : cc = s2.heap.objs.size + 4 ∨ cc = s2.heap.objs.size + 2 ∨ cc = s2.heap.objs.size + 3 ∨ cc = s2.heap.objs.size ∨ cc = s2.heap.objs.size + 1 ∨ cc = p1 ∨ cc = p2 := by simpa using hc
    rcases e' with q | q | q | q | q | q | q
    · rw [q]; exact Nat.lt_succ_self _
    · rw [q]; exact Nat.add_lt_add_left (by decide) _
    · rw [q]; exact Nat.add_lt_add_left (by decide) _
    · rw [q]; exact Nat.lt_add_of_pos_right (by decide)
    · rw [q]; exact Nat.add_lt_add_left (by decide) _
    · rw [q]; exact Nat.lt_of_lt_of_le la (Nat.le_add_right _ _)
    · rw [q]; exact Nat.lt_of_lt_of_le lb (Nat.le_add_right _ _)
  · have e' : cc = s2.heap.objs.size + 4 ∨ cc = s2.heap.objs.size + 3 ∨ cc = s2.heap.objs.size ∨ cc = s2.heap.objs.size + 1 := by simpa using hc
    have hle : s2.heap.objs.size ≤ cc := by
      rcases e' with z | z | z | z
      · rw [z]; exact Nat.le_add_right _ _
      · rw [z]; exact Nat.le_add_right _ _
      · rw [z]; exact Nat.le_refl _
      · rw [z]; exact Nat.le_add_right _ _
    exact I2.fpOk hle (I2.hok.fresh hle)
  · obtain ⟨vs, r1, r2⟩ := rl'
    have hn1 : H' s'.heap.objs.size = none := I'.hok.fresh (Nat.le_refl _)
    have lvs : vs.length = min za.length zb.length := by rw [r1.length, zipZ_len0]
    refine ⟨.ref s'.heap.objs.size, upd H' s'.heap.objs.size (.tup vs), I'.laid (t' := s'.toks) (fun b o e => Heap.get?_push_of_some _ e) (Nat.le_refl _) (show ObjOk X.prog X.w _ _ _ (.tup vs) from ⟨by rw [lvs]; exact hn0, acc, r2, IsTup.new _ _⟩), rfl, ?_⟩
    have e1 := evo_new (ρ := ρ2) (o := HO.tup vs) hn1
    exact q4 ρ2 _ (ev'.trans e1) .refl (wd'.new hn1) _ (rep_tup.mpr ⟨_, _, rfl, .inl ⟨upd_same, wd'.notin hn1⟩, by rw [zipZ_len0]; omega, RepL.evo e1 _ _ r1⟩)
end
end ZZ

end
section
set_option maxHeartbeats 2000000
/-! ZIt: what is walked. -/
namespace ZZ
open PySem PySem.Spec PyProof.Rows L2
theorem stays_iff {hs : List Z} {s0 s1 : Sto} : stays hs s0 s1 = true ↔ ∀ h ∈ hs, dr s1 h = dr s0 h := by
  unfold stays
  simp only [decide_eq_true_eq]
/-- J walks the items of w, begun at (ρ0, H0, st0) -/
structure JOk (K : PySem.W.Frag) (J : It) (ρ0 : Ro) (H0 : Hp) (st0 : Sto) (w : Wk) : Prop where
  goes : ∀ i ρ H st, i < w.items.length → EvoL ρ0 H0 ρ H → Wd K ρ st H → stays w.held st0 st = true → J.go i H
  stops : ∀ ρ H st, EvoL ρ0 H0 ρ H → Wd K ρ st H → stays w.held st0 st = true → J.stop w.items.length H
  yields : ∀ i ρ H st x H', i < w.items.length → EvoL ρ0 H0 ρ H → Wd K ρ st H → stays w.held st0 st = true → J.yld i H x H' → ∃ z, w.items[i]? = some z ∧ Evo ρ H ρ H' ∧ Wd K ρ st H' ∧ Rep K ρ H' z x
def TZI (c : Cf) (i : I) : TI := fun σ H R => ∃ en ρ st, RepE c.K ρ H en σ ∧ Wd c.K ρ st H ∧ RSat c.K c.b ρ H st (evI c.F c.G c.b i en st) (fun w st' ρ' H' => ∀ J, w.items.length ≤ sizeL → JOk c.K J ρ' H' st' w → R J H')
theorem jok_list {K : PySem.W.Frag} {ρ0 : Ro} {H0 : Hp} {st0 : Sto} {z : Z} {zs : List Z} {a : Addr} (h : Rep K ρ0 H0 z (.ref a)) (e : dr st0 z = .lst zs) : JOk K (Itl K a) ρ0 H0 st0 ⟨zs, [z]⟩ := by
  have at_ : ∀ {ρ H st}, EvoL ρ0 H0 ρ H → Wd K ρ st H → stays [z] st0 st = true → ∃ vs, SqL K H a vs ∧ RepL K ρ H zs vs := fun {ρ H st} e1 w s => by
    have d := stays_iff.mp s z List.mem_cons_self
    rw [e] at d
    obtain ⟨b, vs, q1, q2, _, q4⟩ := dr_lst_at w (h.evoL e1) d
    cases q1
    exact ⟨vs, q2, q4⟩
  refine ⟨fun i ρ H st hi e1 w s => ?_, fun ρ H st e1 w s => ?_, fun i ρ H st x H' hi e1 w s y => ?_⟩
  · obtain ⟨vs, q2, q4⟩ := at_ e1 w s
    have hl : i < vs.length := by rw [q4.length]; exact hi
    exact ⟨vs, vs[i], q2, by simp [hl]⟩
  · obtain ⟨vs, q2, q4⟩ := at_ e1 w s
    exact ⟨vs, q2, Nat.le_of_eq q4.length⟩
  · obtain ⟨vs, q2, q4⟩ := at_ e1 w s
    obtain ⟨rfl, y⟩ := y
    have hl : i < zs.length := hi
    have hz : zs[i]? = some zs[i] := by simp [hl]
    obtain ⟨v, g1, g2⟩ := q4.get hz
    have := y vs q2
    rw [g1] at this; cases this
    exact ⟨zs[i], hz, .refl, w, g2⟩
theorem jok_tup {K : PySem.W.Frag} {ρ0 : Ro} {H0 : Hp} {st0 : Sto} {zs : List Z} {a : Addr} (h : Rep K ρ0 H0 (.tup zs) (.ref a)) : JOk K (Itt K a) ρ0 H0 st0 ⟨zs, [.tup zs]⟩ := by
  have at_ : ∀ {ρ H st}, EvoL ρ0 H0 ρ H → Wd K ρ st H → ∃ vs, SqT K H a vs ∧ RepL K ρ H zs vs := fun {ρ H st} e1 w => by
    obtain ⟨b, vs, q1, q2, _, q4, _⟩ := dr_tup_at (st := st) (zs := zs) w (h.evoL e1) rfl
    cases q1
    exact ⟨vs, q2, q4⟩
  refine ⟨fun i ρ H st hi e1 w s => ?_, fun ρ H st e1 w s => ?_, fun i ρ H st x H' hi e1 w s y => ?_⟩
  · obtain ⟨vs, q2, q4⟩ := at_ e1 w
    have hl : i < vs.length := by rw [q4.length]; exact hi
    exact ⟨vs, vs[i], q2, by simp [hl]⟩
  · obtain ⟨vs, q2, q4⟩ := at_ e1 w
    exact ⟨vs, q2, Nat.le_of_eq q4.length⟩
  · obtain ⟨vs, q2, q4⟩ := at_ e1 w
    obtain ⟨rfl, y⟩ := y
    have hl : i < zs.length := hi
    have hz : zs[i]? = some zs[i] := by simp [hl]
    obtain ⟨v, g1, g2⟩ := q4.get hz
    have := y vs q2
    rw [g1] at this; cases this
    exact ⟨zs[i], hz, .refl, w, g2⟩
theorem jok_str {K : PySem.W.Frag} {ρ0 : Ro} {H0 : Hp} {st0 : Sto} {s : List Nat} {z : Z} (g : ∀ c ∈ s, c < 0x110000) : JOk K (Its ⟨s.toArray⟩) ρ0 H0 st0 ⟨s.map fun c => .str [c], [z]⟩ := by
  refine ⟨fun i ρ H st hi e1 w _ => ?_, fun ρ H st e1 w _ => ?_, fun i ρ H st x H' hi e1 w _ y => ?_⟩
  · show i < s.toArray.size
    have : i < (s.map fun c => Z.str [c]).length := hi
    simpa using this
  · show s.toArray.size ≤ (s.map fun c => Z.str [c]).length
    simp
  · obtain ⟨rfl, d, y1, rfl⟩ := y
    have y1 : s[i]? = some d := by
      have : s.toArray[i]? = some d := y1
      simpa using this
    refine ⟨.str [d], ?_, .refl, w, rep_str.mpr ⟨rfl, by simp [sizeL], fun k hk => ?_⟩⟩
    · show (s.map fun c => Z.str [c])[i]? = _
      rw [List.getElem?_map, y1]
      rfl
    · have : k = d := by simpa using hk
      rw [this]
      exact g d (List.mem_of_getElem? y1)
theorem jok_rng {K : PySem.W.Frag} {ρ0 : Ro} {H0 : Hp} {st0 : Sto} {lo : Int} {n : Nat} : JOk K (Itr lo n) ρ0 H0 st0 ⟨(List.range n).map fun (k : Nat) => Z.int (lo + k), []⟩ := by
  refine ⟨fun i ρ H st hi e1 w _ => ?_, fun ρ H st e1 w _ => ?_, fun i ρ H st x H' hi e1 w _ y => ?_⟩
  · show i < n
    have : i < ((List.range n).map fun (k : Nat) => Z.int (lo + k)).length := hi
    simpa using this
  · show n ≤ ((List.range n).map fun (k : Nat) => Z.int (lo + k)).length
    simp
  · have hn : i < n := by
      have : i < ((List.range n).map fun (k : Nat) => Z.int (lo + k)).length := hi
      simpa using this
    obtain ⟨rfl, rfl⟩ := y
    refine ⟨.int (lo + i), ?_, .refl, w, rep_int.mpr rfl⟩
    show ((List.range n).map fun (k : Nat) => Z.int (lo + k))[i]? = _
    rw [List.getElem?_map, List.getElem?_range hn]
    rfl
theorem enumZ_len : ∀ {n : Nat} {zs : List Z}, (enumZ n zs).length = zs.length
  | _, [] => rfl
  | n, z :: zs => by unfold enumZ; rw [List.length_cons, List.length_cons, enumZ_len]
theorem enumZ_get : ∀ {n i : Nat} {zs : List Z} {z : Z}, zs[i]? = some z → (enumZ n zs)[i]? = some (.tup [.int ((n + i : Nat) : Int), z])
  | n, 0, z :: zs, y, h => by simp at h; subst h; unfold enumZ; simp
  | n, i + 1, z :: zs, y, h => by
    have h' : zs[i]? = some y := by simpa using h
    unfold enumZ
    rw [List.getElem?_cons_succ, enumZ_get h']
    congr 5
    omega
  | _, _, [], _, h => by simp at h
theorem rep_pair {K : PySem.W.Frag} {ρ : Ro} {H : Hp} {st : Sto} {x y : Z} {v u : V} {t : Addr} (w : Wd K ρ st H) (ht : H t = none) (hx : Rep K ρ H x v) (hy : Rep K ρ H y u) : Rep K ρ (upd H t (.tup [v, u])) (.tup [x, y]) (.ref t) :=
  rep_tup.mpr ⟨t, _, rfl, .inl ⟨upd_same, w.notin ht⟩, by show 2 ≤ sizeL; decide, repL_cons.mpr ⟨v, _, rfl, hx.evo (evo_new ht), repL_cons.mpr ⟨u, [], rfl, hy.evo (evo_new ht), repL_nil.mpr rfl⟩⟩⟩
theorem jok_enum {K : PySem.W.Frag} {ρ0 : Ro} {H0 : Hp} {st0 : Sto} {z : Z} {zs : List Z} {a : Addr} (h : Rep K ρ0 H0 z (.ref a)) (e : dr st0 z = .lst zs) : JOk K (Ite K a) ρ0 H0 st0 ⟨enumZ 0 zs, [z]⟩ := by
  have at_ : ∀ {ρ H st}, EvoL ρ0 H0 ρ H → Wd K ρ st H → stays [z] st0 st = true → ∃ vs, SqL K H a vs ∧ RepL K ρ H zs vs := fun {ρ H st} e1 w s => by
    have d := stays_iff.mp s z List.mem_cons_self
    rw [e] at d
    obtain ⟨b, vs, q1, q2, _, q4⟩ := dr_lst_at w (h.evoL e1) d
    cases q1
    exact ⟨vs, q2, q4⟩
  refine ⟨fun i ρ H st hi e1 w s => ?_, fun ρ H st e1 w s => ?_, fun i ρ H st x H' hi e1 w s y => ?_⟩
  · obtain ⟨vs, q2, q4⟩ := at_ e1 w s
    have hl : i < vs.length := by rw [q4.length, ← enumZ_len (n := 0)]; exact hi
    exact ⟨vs, vs[i], q2, by simp [hl]⟩
  · obtain ⟨vs, q2, q4⟩ := at_ e1 w s
    exact ⟨vs, q2, by show vs.length ≤ (enumZ 0 zs).length; rw [enumZ_len, q4.length]; exact Nat.le_refl _⟩
  · obtain ⟨vs, q2, q4⟩ := at_ e1 w s
    obtain ⟨t, x', rfl, ht, rfl, y⟩ := y
    have hl : i < zs.length := by rw [← enumZ_len (n := 0)]; exact hi
    have hz : zs[i]? = some zs[i] := by simp [hl]
    obtain ⟨v, g1, g2⟩ := q4.get hz
    have := y vs q2
    rw [g1] at this; cases this
    refine ⟨_, enumZ_get hz, evo_new ht, w.new ht, ?_⟩
    rw [Nat.zero_add]
    exact rep_pair w ht (rep_int.mpr rfl) g2
theorem zipZ_len : ∀ {xs ys : List Z}, (zipZ xs ys).length = min xs.length ys.length
  | [], _ => by unfold zipZ; simp
  | _ :: _, [] => by unfold zipZ; simp
  | x :: xs, y :: ys => by unfold zipZ; simp [zipZ_len]
theorem zipZ_get : ∀ {i : Nat} {xs ys : List Z} {x y : Z}, xs[i]? = some x → ys[i]? = some y → (zipZ xs ys)[i]? = some (.tup [x, y])
  | 0, a :: xs, b :: ys, x, y, h, g => by simp at h g; subst h; subst g; unfold zipZ; simp
  | i + 1, a :: xs, b :: ys, x, y, h, g => by
    unfold zipZ
    rw [List.getElem?_cons_succ]
    exact zipZ_get (by simpa using h) (by simpa using g)
  | _, [], _, _, _, h, _ => by simp at h
  | _, _ :: _, [], _, _, _, g => by simp at g
/-- the thing at a holds the items zs as long as z stays -/
def Src (K : PySem.W.Frag) (P : Hp → Addr → List V → Prop) (ρ0 : Ro) (H0 : Hp) (st0 : Sto) (z : Z) (zs : List Z) (a : Addr) : Prop :=
  ∀ ρ H st, EvoL ρ0 H0 ρ H → Wd K ρ st H → dr st z = dr st0 z → ∃ vs, P H a vs ∧ RepL K ρ H zs vs
theorem src_list {K : PySem.W.Frag} {ρ0 : Ro} {H0 : Hp} {st0 : Sto} {z : Z} {zs : List Z} {a : Addr} (h : Rep K ρ0 H0 z (.ref a)) (e : dr st0 z = .lst zs) : Src K (SqL K) ρ0 H0 st0 z zs a := fun ρ H st e1 w d => by
  rw [e] at d
  obtain ⟨b, vs, q1, q2, _, q4⟩ := dr_lst_at w (h.evoL e1) d
  cases q1
  exact ⟨vs, q2, q4⟩
theorem src_tup {K : PySem.W.Frag} {ρ0 : Ro} {H0 : Hp} {st0 : Sto} {z : Z} {zs : List Z} {a : Addr} (h : Rep K ρ0 H0 z (.ref a)) (e : dr st0 z = .tup zs) : Src K (SqT K) ρ0 H0 st0 z zs a := fun ρ H st e1 w d => by
  rw [e] at d
  obtain ⟨b, vs, q1, q2, _, q4, _⟩ := dr_tup_at w (h.evoL e1) d
  cases q1
  exact ⟨vs, q2, q4⟩
/-- pairs of two sources: the walker's three sides, whatever the sources are -/
def ItP (P P' : Hp → Addr → List V → Prop) (a b : Addr) : It :=
  ⟨fun i H => ∃ (xs ys : List V) (x y : V), P H a xs ∧ P' H b ys ∧ xs[i]? = some x ∧ ys[i]? = some y,
    fun i H v H' => ∃ T x y, v = .ref T ∧ H T = none ∧ H' = upd H T (.tup [x, y]) ∧ (∀ xs, P H a xs → xs[i]? = some x) ∧ ∀ ys, P' H b ys → ys[i]? = some y,
    fun i H => ∃ xs ys : List V, P H a xs ∧ P' H b ys ∧ i = min xs.length ys.length⟩
theorem jok_pair {K : PySem.W.Frag} {P P' : Hp → Addr → List V → Prop} {ρ0 : Ro} {H0 : Hp} {st0 : Sto} {z z' : Z} {zs zs' : List Z} {a b : Addr} (h : Src K P ρ0 H0 st0 z zs a) (h' : Src K P' ρ0 H0 st0 z' zs' b) :
    JOk K (ItP P P' a b) ρ0 H0 st0 ⟨zipZ zs zs', [z, z']⟩ := by
  refine ⟨fun i ρ H st hi e1 w s => ?_, fun ρ H st e1 w s => ?_, fun i ρ H st x H' hi e1 w s y => ?_⟩
  all_goals
    have s1 := stays_iff.mp s z List.mem_cons_self
    have s2 := stays_iff.mp s z' (List.mem_cons_of_mem _ List.mem_cons_self)
    obtain ⟨xs, p1, r1⟩ := h ρ H st e1 w s1
    obtain ⟨ys, p2, r2⟩ := h' ρ H st e1 w s2
  · have hi : i < (zipZ zs zs').length := hi
    rw [zipZ_len] at hi
    have l1 : i < xs.length := by rw [r1.length]; omega
    have l2 : i < ys.length := by rw [r2.length]; omega
    exact ⟨xs, ys, xs[i], ys[i], p1, p2, by simp [l1], by simp [l2]⟩
  · refine ⟨xs, ys, p1, p2, ?_⟩
    show (zipZ zs zs').length = _
    rw [zipZ_len, r1.length, r2.length]
  · have hi : i < (zipZ zs zs').length := hi
    rw [zipZ_len] at hi
    have l1 : i < zs.length := by omega
    have l2 : i < zs'.length := by omega
    obtain ⟨t, u, v, rfl, ht, rfl, y1, y2⟩ := y
    have hz1 : zs[i]? = some zs[i] := by simp [l1]
    have hz2 : zs'[i]? = some zs'[i] := by simp [l2]
    obtain ⟨v1, g1, g2⟩ := r1.get hz1
    obtain ⟨v2, k1, k2⟩ := r2.get hz2
    have q1 := y1 xs p1
    have q2 := y2 ys p2
    rw [g1] at q1; cases q1
    rw [k1] at q2; cases q2
    exact ⟨_, zipZ_get hz1 hz2, evo_new ht, w.new ht, rep_pair w ht g2 k2⟩
/-! ### zip over lists and tuples of any mix -/
def SqK (k : Bool) (K : PySem.W.Frag) : Hp → Addr → List V → Prop := if k then SqT K else SqL K
def ItK (k : Bool) (h : Heap) (it a : Addr) (i : Nat) : Prop := if k then h.IsTupleIter it a i else h.IsListIter it a i
def AtK (k : Bool) (h : Heap) (a : Addr) (its : Array Value) : Prop := if k then h.IsTuple a its else h.IsList a its
def objK (k : Bool) (a : Addr) : Obj := { cls := .type (if k then "tuple_iterator" else "list_iterator"), data := .fields #[.ref a, .int 0 0] }
theorem draws_k {prog : Program} {w : World} {A : Around} (hh : A.handled = none) (k : Bool) (it a : Addr) (hne : a ≠ it) (items : Array Value) :
    Draws prog w A it [it, a] items.size (fun i v => items[i]? = some v) (fun i h => ItK k h it a i ∧ AtK k h a items) := by
  cases k
  · exact Draws.list hh it a hne items
  · exact Draws.tuple hh it a hne items
theorem begins_k (k : Bool) (a : Addr) (items : Array Value) : Begins (.ref a) (objK k a) fun h => AtK k h a items := by
  cases k
  · exact begins_list a items
  · exact begins_tuple a items
section
variable {X : Cx} {pins : List (Addr × Obj)} {σ : L2.St} {H : Hp} {s : Shared}
theorem inv_at {k : Bool} {a : Addr} {xs : List V} (I : Inv X pins σ H s) (h : SqK k X.K H a xs) : ∃ its : List Value, Vals xs its ∧ AtK k s.heap a its.toArray := by
  cases k
  · obtain ⟨its, r, p, _⟩ := I.list (show SqL X.K H a xs from h)
    exact ⟨its, r, p.isList⟩
  · obtain ⟨its, r, p, _⟩ := I.tuple (show SqT X.K H a xs from h)
    exact ⟨its, r, p⟩
theorem inv_inj {k : Bool} {a : Addr} {xs ys : List V} (I : Inv X pins σ H s) (h : SqK k X.K H a xs) (h' : SqK k X.K H a ys) : xs = ys := by
  cases k
  · exact I.list_inj h h'
  · exact I.tuple_inj h h'
theorem itK_at {k : Bool} {h h' : Heap} {it a : Addr} {i : Nat} (p : ItK k h it a i) (f : ∀ o, h.get? it = some o → h'.get? it = some o) : ItK k h' it a i := by
  cases k
  · exact Heap.IsListIter.at p f
  · exact Heap.IsTupleIter.at p f
theorem itK_obj {k : Bool} {h : Heap} {it a : Addr} {i : Nat} (p : ItK k h it a i) : ∃ o, h.get? it = some o ∧ ∀ v, o.data ≠ .cell v := by
  cases k
  · obtain ⟨o, e, _, d⟩ := p; exact ⟨o, e, fun v q => by rw [d] at q; cases q⟩
  · obtain ⟨o, e, _, d⟩ := p; exact ⟨o, e, fun v q => by rw [d] at q; cases q⟩
theorem itK_new {k : Bool} {h : Heap} {it a : Addr} (p : h.get? it = some (objK k a)) : ItK k h it a 0 := by
  cases k
  · exact ⟨_, p, rfl, rfl⟩
  · exact ⟨_, p, rfl, rfl⟩
theorem atK_lt {k : Bool} {h : Heap} {a : Addr} {its : Array Value} (p : AtK k h a its) : a < h.objs.size := by
  cases k
  · obtain ⟨o, e, _⟩ := p; exact Heap.lt_size e
  · obtain ⟨o, e, _⟩ := p; exact Heap.lt_size e
end
theorem hd_in1 {X : Cx} {pins : List (Addr × Obj)} {σ : L2.St} {H : Hp} {s : Shared} (I : Inv X pins σ H s) (hc : X.calm = true) : X.A.in1.handled = none := I.ok.hd hc
section
variable {prog : Program} {w : World} {A : Around} {E : Value → Shared → Prop} {s : Shared} {z TI TO i1 i2 : Addr} {fp1 fp2 : List Addr} {n1 n2 i : Nat} {P1 P2 : Nat → Value → Prop} {St1 St2 : Nat → Heap → Prop} {a1 a2 : Value}
theorem pyNext_zipD_item {Q : Option Value → Shared → Prop} (S : ZipSep2 z TI TO i1 i2 fp1 fp2) (D1 : Draws prog w A.in1 i1 fp1 n1 P1 St1) (D2 : Draws prog w A.in1 i2 fp2 n2 P2 St2)
    (hz : IsZip s.heap z TI TO .none) (hTI : IsTupOf2 s.heap TI (.ref i1) (.ref i2)) (hTO : IsTupOf2 s.heap TO a1 a2) (st1 : St1 i s.heap) (st2 : St2 i s.heap) (hlt1 : i < n1) (hlt2 : i < n2)
    (hQ : ∀ x1 x2 h' tk, P1 i x1 → P2 i x2 → IsZip h' z TI TO (rawInt s.heap.objs.size) → IsTupOf2 h' TO x1 x2 → St1 (i + 1) h' → St2 (i + 1) h' → IsTupOf2 h' s.heap.objs.size x1 x2 → h'.objs.size = s.heap.objs.size + 1 →
      (∀ c o, c ≠ z → c ≠ TO → c ≠ i1 → c ≠ i2 → s.heap.get? c = some o → h'.get? c = some o) → Q (some (.ref s.heap.objs.size)) { s with heap := h', toks := tk }) :
    wpAny (model prog w) A (pyNext (.ref z)) Q E s := by
  have hT : s.TypeIs (.ref z) "zip" := ⟨_, hz, rfl⟩
  unfold pyNext
  exact wpAny_bind (wpAny_attempt (wpAny_callSpecial?_slot (name := Str.ofString "__next__") hT F.slot_zip_next
    (wpAny_call_entry F.slot_zip_next hT F.entry_zip_next
      (zipD2_next_item S D1 D2 hz hTI hTO st1 st2 hlt1 hlt2 fun x1 x2 h' tk a1 a2 a3 a4 a5 a6 a7 a8 a9 => wpAny_pure (hQ x1 x2 h' tk a1 a2 a3 a4 a5 a6 a7 a8 a9)) (F.args_zip_next_1 _))))
theorem pyNext_zipD_end {Q : Option Value → Shared → Prop} (S : ZipSep2 z TI TO i1 i2 fp1 fp2) (D1 : Draws prog w A.in1 i1 fp1 n1 P1 St1) (D2 : Draws prog w A.in1 i2 fp2 n2 P2 St2)
    (hz : IsZip s.heap z TI TO .none) (hTI : IsTupOf2 s.heap TI (.ref i1) (.ref i2)) (hTO : IsTupOf2 s.heap TO a1 a2) (st1 : St1 i s.heap) (st2 : St2 i s.heap) (hle1 : i ≤ n1) (hle2 : i ≤ n2) (hend : i = n1 ∨ i = n2)
    (hQ : ∀ h' tk, (∀ c o, c ≠ z → c ≠ TO → c ≠ i1 → c ≠ i2 → s.heap.get? c = some o → h'.get? c = some o) → Q none { s with heap := h', toks := tk }) :
    wpAny (model prog w) A (pyNext (.ref z)) Q E s := by
  have hT : s.TypeIs (.ref z) "zip" := ⟨_, hz, rfl⟩
  unfold pyNext
  refine wpAny_bind (wpAny_attempt (wpAny_callSpecial?_slot (name := Str.ofString "__next__") hT F.slot_zip_next
    (wpAny_call_entry F.slot_zip_next hT F.entry_zip_next (zipD2_next_end S D1 D2 hz hTI hTO st1 st2 hle1 hle2 hend fun h' tk e hk he => ?_) (F.args_zip_next_1 _))))
  obtain ⟨o, ho, hc⟩ := he
  refine wpAny_bind (wpAny_isInstance (T := "StopIteration") (b := true) ⟨o, ho, hc⟩ isSubtype_stop ?_)
  exact wpAny_pure (hQ _ _ hk)
end
theorem turn_zipK {P : Program} {w : World} {K : PySem.W.Frag} {elts : List Expr} {kk : Nat} {tpos : Pos} {k1 k2 : Bool} {a b z TI TO i1 i2 : Addr} (D : ZipSep2 z TI TO i1 i2 [i1, a] [i2, b]) (na : a ≠ i1) (nb : b ≠ i2) :
    Turn P w K (.Tuple elts kk tpos) (ItP (SqK k1 K) (SqK k2 K) a b) [z, TI, TO, i1, i2] z (fun i h => IsZip h z TI TO .none ∧ IsTupOf2 h TI (.ref i1) (.ref i2) ∧ (∃ x y, IsTupOf2 h TO x y) ∧ ItK k1 h i1 a i ∧ ItK k2 h i2 b i) where
  mem := by simp
  obj := fun i h st c hc => by
    obtain ⟨hz, hTI, ⟨x, y, hTO⟩, h1, h2⟩ := st
    have e' : c = z ∨ c = TI ∨ c = TO ∨ c = i1 ∨ c = i2 := by simpa using hc
    rcases e' with q | q | q | q | q
    · rw [q]; exact ⟨_, hz, fun v q => nomatch q⟩
    · rw [q]; exact ⟨_, hTI, fun v q => nomatch q⟩
    · rw [q]; exact ⟨_, hTO, fun v q => nomatch q⟩
    · rw [q]; exact itK_obj h1
    · rw [q]; exact itK_obj h2
  keep := fun i h h' st k => by
    obtain ⟨hz, hTI, ⟨x, y, hTO⟩, h1, h2⟩ := st
    exact ⟨k z (by simp) _ hz, k TI (by simp) _ hTI, ⟨x, y, k TO (by simp) _ hTO⟩, itK_at h1 fun o q => k i1 (by simp) o q, itK_at h2 fun o q => k i2 (by simp) o q⟩
  item := by
    intro X hP hw hK hc i pins s σ H E I hf st hg
    subst hP hw hK
    obtain ⟨hz, hTI, ⟨x0, y0, hTO⟩, h1, h2⟩ := st
    obtain ⟨xs, ys, x, y, hqx, hqy, hx, hy⟩ := hg
    obtain ⟨its, rv, p⟩ := inv_at I hqx
    obtain ⟨its2, rv2, p2⟩ := inv_at I hqy
    obtain ⟨u, hu, ru⟩ := rv.get hx
    obtain ⟨u2, hu2, ru2⟩ := rv2.get hy
    have hzl : z < s.heap.objs.size := Heap.lt_size hz
    have D1 := draws_k (prog := X.prog) (w := X.w) (A := X.A.in1) (hd_in1 I hc) k1 i1 a na its.toArray
    have D2 := draws_k (prog := X.prog) (w := X.w) (A := X.A.in1) (hd_in1 I hc) k2 i2 b nb its2.toArray
    have hl1 : i < its.toArray.size := by have := (List.getElem?_eq_some_iff.mp hu).1; simpa using this
    have hl2 : i < its2.toArray.size := by have := (List.getElem?_eq_some_iff.mp hu2).1; simpa using this
    refine pyNext_zipD_item D D1 D2 hz hTI hTO ⟨h1, p⟩ ⟨h2, p2⟩ hl1 hl2 fun u' u2' h' tk e1 e2 z' TO' h1' h2' hT hsz hk => ?_
    have e1 : its.toArray[i]? = some u' := e1
    have e2 : its2.toArray[i]? = some u2' := e2
    have q1 : u' = u := by
      have : its[i]? = some u' := by simpa using e1
      rw [hu] at this; injection this with this; exact this.symm
    have q2 : u2' = u2 := by
      have : its2[i]? = some u2' := by simpa using e2
      rw [hu2] at this; injection this with this; exact this.symm
    subst q1 q2
    refine ⟨_, rfl, wpAny_letOwnedTupleGo_zip (s := { s with heap := h', toks := tk }) z' fun h'' z'' sb => ?_⟩
    have hT2 : h''.get? s.heap.objs.size = some { cls := .type "tuple", data := .seq #[u', u2'] } := (sb.2 _ (Nat.ne_of_gt hzl)).trans hT
    have new : ObjOk X.prog X.w (upd H s.heap.objs.size (.tup [x, y])) h'' s.heap.objs.size (.tup [x, y]) :=
      ⟨by show 2 ≤ sizeLine; decide, [u', u2'], .cons ru (.cons ru2 .nil), ⟨_, hT2, rfl, _, rfl⟩⟩
    have I1 : Inv X pins σ (upd H s.heap.objs.size (.tup [x, y])) { s with heap := h'', toks := tk } :=
      I.turnedNew (t' := tk) (ch := [z, TI, TO, i1, i2]) (fun c o hb q => (sb.2 c (fun q' => hb (by simp [q']))).trans (hk c o (fun q' => hb (by simp [q'])) (fun q' => hb (by simp [q'])) (fun q' => hb (by simp [q'])) (fun q' => hb (by simp [q'])) q)) hf (Nat.le_refl _) new
    refine ⟨.ref s.heap.objs.size, _, I1, rfl, ⟨_, x, y, rfl, I.hok.fresh (Nat.le_refl _), rfl, fun l hl => by rw [inv_inj I hl hqx]; exact hx, fun l hl => by rw [inv_inj I hl hqy]; exact hy⟩, ⟨z'', ?_, ⟨u', u2', ?_⟩, ?_, ?_⟩, fun c hcm => ?_⟩
    · exact (sb.2 _ D.TIz).trans (hk _ _ D.TIz D.TITO D.TIi1 D.TIi2 hTI)
    · exact (sb.2 _ D.TOz).trans TO'
    · exact itK_at h1'.1 fun o q => (sb.2 _ D.zi1.symm).trans q
    · exact itK_at h2'.1 fun o q => (sb.2 _ D.zi2.symm).trans q
    · have hlt : c < s.heap.objs.size := by
        have e' : c = z ∨ c = TI ∨ c = TO ∨ c = i1 ∨ c = i2 := by simpa using hcm
        rcases e' with q | q | q | q | q
        · rw [q]; exact hzl
        · rw [q]; exact Heap.lt_size hTI
        · rw [q]; exact Heap.lt_size hTO
        · rw [q]; obtain ⟨_, e1, _⟩ := itK_obj h1; exact Heap.lt_size e1
        · rw [q]; obtain ⟨_, e2, _⟩ := itK_obj h2; exact Heap.lt_size e2
      rw [upd_ne (Nat.ne_of_lt hlt)]
      exact (hf c hcm).1
  done := by
    intro X hP hw hK hc i pins s σ H E I hf st hg
    subst hP hw hK
    obtain ⟨hz, hTI, ⟨x0, y0, hTO⟩, h1, h2⟩ := st
    obtain ⟨xs, ys, hqx, hqy, hend⟩ := hg
    obtain ⟨its, rv, p⟩ := inv_at I hqx
    obtain ⟨its2, rv2, p2⟩ := inv_at I hqy
    have l1 := rv.length
    have l2 := rv2.length
    have D1 := draws_k (prog := X.prog) (w := X.w) (A := X.A.in1) (hd_in1 I hc) k1 i1 a na its.toArray
    have D2 := draws_k (prog := X.prog) (w := X.w) (A := X.A.in1) (hd_in1 I hc) k2 i2 b nb its2.toArray
    refine pyNext_zipD_end D D1 D2 hz hTI hTO ⟨h1, p⟩ ⟨h2, p2⟩ (by rw [List.size_toArray]; omega) (by rw [List.size_toArray]; omega) (by rw [List.size_toArray, List.size_toArray]; omega) fun h' tk hk => ?_
    exact ⟨rfl, I.turnedL (t' := tk) (ch := [z, TI, TO, i1, i2]) (fun c o hb q =>
      hk c o (fun q' => hb (by simp [q'])) (fun q' => hb (by simp [q'])) (fun q' => hb (by simp [q'])) (fun q' => hb (by simp [q'])) q) hf⟩
  self := fun A i s Q E st h => wpAny_pyIter_zip st.1 h
section
variable {tb : Tb} {c : Cf} {X : Cx} {S : Sc}
theorem s_ie {a : E} {tg x : Expr} (g : Gd tb c X S) (ha : PE X x (TZ c a)) : PI X tg x (TZI c (.e a)) := by
  refine ⟨fun pins s σ H R I ⟨en, ρ, st, r, w, q⟩ => ?_⟩
  unfold evI at q
  cases he : ev c.F c.G c.b a en st with
  | ok z st1 =>
    have q0 := q
    rw [he] at q
    have q : RSat c.K c.b ρ H st (match dr st1 z with
      | .lst xs => .ok ⟨xs, [z]⟩ st1
      | .tup xs => .ok ⟨xs, [z]⟩ st1
      | .str xs => .ok ⟨xs.map fun c => .str [c], [z]⟩ st1
      | _ => .no) (fun w st' ρ' H' => ∀ J, w.items.length ≤ sizeL → JOk c.K J ρ' H' st' w → R J H') := q
    have go : ∀ {t : V → Hp → Prop}, (∀ ρ1 H1 v, Evo ρ H ρ1 H1 → Sub c.b st st1 → Wd c.K ρ1 st1 H1 → Rep c.K ρ1 H1 z v → t v H1) → TZ c a σ H t := fun {t} k =>
      ⟨en, ρ, st, r, w, by rw [he]; exact fun ρ1 H1 e1 s1 w1 v hv => k ρ1 H1 v e1 s1 w1 hv⟩
    cases hd : dr st1 z with
    | lst xs =>
      rw [hd] at q
      refine (pi_list ha).run pins s σ H R I (go fun ρ1 H1 v e1 s1 w1 hv => ?_)
      obtain ⟨b, vs, rfl, h1, l, h4⟩ := dr_lst_at w1 hv hd
      rw [g.k]
      exact ⟨b, rfl, ⟨vs, h1⟩, q ρ1 H1 e1 s1 w1 _ l (jok_list hv hd)⟩
    | tup xs =>
      rw [hd] at q
      refine (pi_tup ha).run pins s σ H R I (go fun ρ1 H1 v e1 s1 w1 hv => ?_)
      obtain ⟨b, vs, rfl, h1, l, h4, rfl⟩ := dr_tup_at w1 hv hd
      rw [g.k]
      exact ⟨b, rfl, ⟨vs, h1⟩, q ρ1 H1 e1 s1 w1 _ l (jok_tup hv)⟩
    | str xs =>
      rw [hd] at q
      refine (pi_str ha).run pins s σ H R I (go fun ρ1 H1 v e1 s1 w1 hv => ?_)
      have hz := dr_str_at hd
      subst hz
      obtain ⟨rfl, l, gg⟩ := rep_str.mp hv
      exact ⟨_, rfl, q ρ1 H1 e1 s1 w1 _ (by show (xs.map _).length ≤ _; rw [List.length_map]; exact l) (jok_str gg)⟩
    | _ => rw [hd] at q; exact q.elim
  | exn _ _ _ => rw [he] at q; exact q.elim
  | no => rw [he] at q; exact q.elim
theorem s_ienum {a : E} {x : Expr} {elts : List Expr} {kk : Nat} {tp p p2 : Pos} (g : Gd tb c X S) (hg : glC S (Str.ofString "enumerate") = true) (hn : notStar x = true) (ha : PE X x (TZ c a)) : PI X (.Tuple elts kk tp) (.Call (.Name (Str.ofString "enumerate") p) [x] [] p2) (TZI c (.enum a)) := by
  obtain ⟨h1, h2⟩ := glC_ok g hg
  refine pi_imp (pi_enum h1 (g.bi _ (by decide)) (pa_cons ha pa_nil (star_cons hn)) (star_cons hn)) fun σ H R ⟨en, ρ, st, r, w, q⟩ => ?_
  unfold evI at q
  refine tz_next r w q fun z st1 ρ1 H1 v e1 s1 w1 r1 hv q1 => ?_
  cases hd : dr st1 z with
  | lst xs =>
    rw [hd] at q1
    obtain ⟨b, vs, rfl, h1, l, h4⟩ := dr_lst_at w1 hv hd
    rw [g.k]
    exact ⟨b, vs, rfl, h1, q1.ok_inv w1 _ (by show (enumZ 0 xs).length ≤ _; rw [enumZ_len]; exact l) (jok_enum hv hd)⟩
  | _ => rw [hd] at q1; exact q1.elim
theorem s_irng1 {e : E} {x : Expr} {tg : Expr} {p p2 : Pos} (g : Gd tb c X S) (hg : glC S (Str.ofString "range") = true) (hn : notStar x = true) (ha : PA X [x] (TZs c [e])) : PI X tg (.Call (.Name (Str.ofString "range") p) [x] [] p2) (TZI c (.rng [e])) := by
  obtain ⟨h1, h2⟩ := glC_ok g hg
  refine pi_imp (pi_range1 h1 (g.bi _ (by decide)) ha (star_cons hn)) fun σ H R ⟨en, ρ, st, r, w, q⟩ => ?_
  unfold evI at q
  refine tzs_next r w q fun zs st1 ρ1 H1 vs e1 s1 w1 r1 hvs lz q1 => ?_
  cases zs with
  | nil => cases lz
  | cons z zs =>
    cases zs with
    | cons _ _ => cases lz
    | nil =>
      obtain ⟨v, rfl, hv⟩ := repL_one hvs
      cases z with
      | int j =>
        rw [rep_int.mp hv]
        by_cases hj : j ≤ 1000000 ∧ -(10 ^ 9) ≤ j
        · have q2 : RSat c.K c.b ρ1 H1 st1 (ofO ((if j ≤ 1000000 ∧ -(10 ^ 9) ≤ j then some ((List.range j.toNat).map fun (k : Nat) => Z.int k) else none).map fun xs => (⟨xs, []⟩ : Wk)) st1) _ := q1
          rw [if_pos hj] at q2
          have q3 := q2.ok_inv w1
          refine ⟨j, rfl, by omega, by omega, q3 _ ?_ ?_⟩
          · show ((List.range j.toNat).map _).length ≤ _
            rw [List.length_map, List.length_range]; unfold sizeL; omega
          · have := jok_rng (K := c.K) (ρ0 := ρ1) (H0 := H1) (st0 := st1) (lo := 0) (n := j.toNat)
            simpa using this
        · have q2 : RSat c.K c.b ρ1 H1 st1 (ofO ((if j ≤ 1000000 ∧ -(10 ^ 9) ≤ j then some ((List.range j.toNat).map fun (k : Nat) => Z.int k) else none).map fun xs => (⟨xs, []⟩ : Wk)) st1) _ := q1
          rw [if_neg hj] at q2
          exact q2.elim
      | _ => exact q1.elim
theorem s_irng2 {e f : E} {x y : Expr} {tg : Expr} {p p2 : Pos} (g : Gd tb c X S) (hg : glC S (Str.ofString "range") = true) (hn : notStar x = true) (hn2 : notStar y = true) (ha : PA X [x, y] (TZs c [e, f])) : PI X tg (.Call (.Name (Str.ofString "range") p) [x, y] [] p2) (TZI c (.rng [e, f])) := by
  obtain ⟨h1, h2⟩ := glC_ok g hg
  refine pi_imp (pi_range2 h1 (g.bi _ (by decide)) ha (by rw [star_cons hn, star_cons hn2]; rfl) (star_cons hn2)) fun σ H R ⟨en, ρ, st, r, w, q⟩ => ?_
  unfold evI at q
  refine tzs_next r w q fun zs st1 ρ1 H1 vs e1 s1 w1 r1 hvs lz q1 => ?_
  match zs, lz, hvs, q1 with
  | [z, y], _, hvs, q1 =>
    obtain ⟨v, u, rfl, hv, hu⟩ := repL_two hvs
    cases z with
    | int i => cases y with
      | int j =>
        rw [rep_int.mp hv, rep_int.mp hu]
        by_cases hj : j - i ≤ 1000000 ∧ -(10 ^ 9) ≤ i ∧ i ≤ 10 ^ 9 ∧ -(10 ^ 9) ≤ j
        · have q2 : RSat c.K c.b ρ1 H1 st1 (ofO ((if j - i ≤ 1000000 ∧ -(10 ^ 9) ≤ i ∧ i ≤ 10 ^ 9 ∧ -(10 ^ 9) ≤ j then some ((List.range (j - i).toNat).map fun (k : Nat) => Z.int (i + k)) else none).map fun xs => (⟨xs, []⟩ : Wk)) st1) _ := q1
          rw [if_pos hj] at q2
          have q3 := q2.ok_inv w1
          refine ⟨i, j, rfl, by omega, q3 _ ?_ ?_⟩
          · show ((List.range (j - i).toNat).map _).length ≤ _
            rw [List.length_map, List.length_range]; unfold sizeL; omega
          · exact jok_rng
        · have q2 : RSat c.K c.b ρ1 H1 st1 (ofO ((if j - i ≤ 1000000 ∧ -(10 ^ 9) ≤ i ∧ i ≤ 10 ^ 9 ∧ -(10 ^ 9) ≤ j then some ((List.range (j - i).toNat).map fun (k : Nat) => Z.int (i + k)) else none).map fun xs => (⟨xs, []⟩ : Wk)) st1) _ := q1
          rw [if_neg hj] at q2
          exact q2.elim
      | _ => exact q1.elim
    | _ => exact q1.elim
/-- what zip is asked of: the kinds of its two sources come with the values -/
def iZipK (K : PySem.W.Frag) (ta : TA) : TI := fun σ H R => ta σ H fun vs H1 => ∃ k1 k2 a b xs ys, vs = [.ref a, .ref b] ∧ SqK k1 K H1 a xs ∧ SqK k2 K H1 b ys ∧ R (ItP (SqK k1 K) (SqK k2 K) a b) H1
theorem pi_zipK {e e2 : Expr} {ta : TA} {p pos tpos : Pos} {elts : List Expr} {kk : Nat} (hg : Gl X "zip") (hm : X.mg "zip" = none) (ha : PA X [e, e2] ta)
    (hs : starEach [e, e2] X.env = (false, eval e X.env) :: starEach [e2] X.env := by rfl) (hpl : (backTo pos (starEach [e2] X.env)).any (·.1) = false := by rfl) :
    PI X (.Tuple elts kk tpos) (.Call (.Name "zip" p) [e, e2] [] pos) (iZipK X.K ta) := by
  refine ⟨fun pins s σ H R I h => ?_⟩
  refine Call_ (ld_blt I hg hm PyProof.Rows.boot_zip (PyProof.Rows.callWith_type1 (thn (ha.run pos pins s σ H _ I h) fun us s1 ⟨vs, H1, I1, r1, q1⟩ => ?_) hs hpl))
  obtain ⟨k1, k2, a, b, xs, ys, ex, hqx, hqy, q⟩ := q1
  subst ex
  cases r1 with
  | cons r rr =>
    cases rr with
    | cons r' rr =>
      cases rr
      cases r
      cases r'
      have fresh5 : ∀ c, c ∈ [s1.heap.objs.size + 4, s1.heap.objs.size + 2, s1.heap.objs.size + 3, s1.heap.objs.size, s1.heap.objs.size + 1] → FpOk X pins H1 c := fun c hcm => by
        have e' : c = s1.heap.objs.size + 4 ∨ c = s1.heap.objs.size + 2 ∨ c = s1.heap.objs.size + 3 ∨ c = s1.heap.objs.size ∨ c = s1.heap.objs.size + 1 := by simpa using hcm
        have hle : s1.heap.objs.size ≤ c := by
          rcases e' with z | z | z | z | z
          · rw [z]; exact Nat.le_add_right _ _
          · rw [z]; exact Nat.le_add_right _ _
          · rw [z]; exact Nat.le_add_right _ _
          · rw [z]; exact Nat.le_refl _
          · rw [z]; exact Nat.le_add_right _ _
        exact I1.fpOk hle (I1.hok.fresh hle)
      obtain ⟨its, rv, p1⟩ := inv_at I1 hqx
      obtain ⟨its2, rv2, p2⟩ := inv_at I1 hqy
      have l1 := atK_lt p1
      have l2 := atK_lt p2
      refine zip_begins2 (begins_k k1 a its.toArray) (begins_k k2 b its2.toArray) p1 p2 fun h' hz hTI hTO h1 h2 hsz hk => wpAny_pyIter_zip hz ?_
      have I2 : Inv X pins σ H1 { s1 with heap := h' } := I1.kept (t' := s1.toks) hk
      exact ⟨s1.heap.objs.size + 4, [s1.heap.objs.size + 4, s1.heap.objs.size + 2, s1.heap.objs.size + 3, s1.heap.objs.size, s1.heap.objs.size + 1], _, _, H1, rfl, I2,
        turn_zipK (zip_sep2 (fp1 := [a]) (fp2 := [b]) (fun c hc => by rw [List.mem_singleton.mp hc]; exact l1) (fun c hc => by rw [List.mem_singleton.mp hc]; exact l2)) (Nat.ne_of_lt l1) (Nat.ne_of_lt (Nat.lt_succ_of_lt l2)),
        ⟨hz, hTI, ⟨_, _, hTO⟩, itK_new h1, itK_new h2⟩, fresh5, q⟩
/-- a list or a tuple, with its kind -/
theorem src_k {K : PySem.W.Frag} {ρ : Ro} {H : Hp} {st : Sto} {z : Z} {v : V} {zs : List Z} (w : Wd K ρ st H) (h : Rep K ρ H z v) (e : seqv st z = some zs) : ∃ k a xs, v = .ref a ∧ SqK k K H a xs ∧ zs.length ≤ sizeL ∧ Src K (SqK k K) ρ H st z zs a := by
  unfold seqv at e
  cases hd : dr st z with
  | lst xs =>
    rw [hd] at e
    cases e
    obtain ⟨b, vs, rfl, h1, l, h4⟩ := dr_lst_at w h hd
    exact ⟨false, b, vs, rfl, h1, l, src_list h hd⟩
  | tup xs =>
    rw [hd] at e
    cases e
    obtain ⟨b, vs, rfl, h1, l, h4, _⟩ := dr_tup_at w h hd
    exact ⟨true, b, vs, rfl, h1, l, src_tup h hd⟩
  | _ => rw [hd] at e; cases e
/-- a pair of sources, lists or tuples -/
theorem s_izip {a b : E} {x y : Expr} {elts : List Expr} {kk : Nat} {tp p p2 : Pos} (g : Gd tb c X S) (hg : glC S (Str.ofString "zip") = true) (hn : notStar x = true) (hn2 : notStar y = true) (ha : PE X x (TZ c a)) (hb : PE X y (TZ c b)) : PI X (.Tuple elts kk tp) (.Call (.Name (Str.ofString "zip") p) [x, y] [] p2) (TZI c (.zip a b)) := by
  obtain ⟨h1, h2⟩ := glC_ok g hg
  refine pi_imp (pi_zipK h1 (g.bi _ (by decide)) (pa_cons ha (pa_cons hb pa_nil (star_cons hn2)) (star_cons hn)) (star_cons hn) (by rw [star_cons hn2]; rfl)) fun σ H R ⟨en, ρ, st, r, w, q⟩ => ?_
  unfold evI at q
  refine tz_next r w q fun z st1 ρ1 H1 v e1 s1 w1 r1 hv q1 => ?_
  refine tz_next r1 w1 q1 fun z2 st2 ρ2 H2 v2 e2 s2 w2 r2 hv2 q2 => ?_
  rw [g.k]
  cases hs1 : seqv st2 z with
  | none => rw [hs1] at q2; exact q2.elim
  | some xs =>
    cases hs2 : seqv st2 z2 with
    | none => rw [hs1, hs2] at q2; exact q2.elim
    | some ys =>
      rw [hs1, hs2] at q2
      obtain ⟨k1, a1, vs1, rfl, p1, l1, s1⟩ := src_k w2 (hv.evo e2) hs1
      obtain ⟨k2, a2, vs2, rfl, p2, l2, s2⟩ := src_k w2 hv2 hs2
      exact ⟨k1, k2, a1, a2, vs1, vs2, rfl, p1, p2, q2.ok_inv w2 _ (by show (zipZ xs ys).length ≤ _; rw [zipZ_len]; omega) (jok_pair s1 s2)⟩
end
end ZZ

end
section
set_option maxHeartbeats 2000000
/-! ZLc: targets, comprehensions. -/
namespace ZZ
open PySem PySem.Spec PyProof.Rows L2
/-! ### targets -/
def TZg (c : Cf) (t : T) : TG := fun v σ H Q => ∃ z en en' ρ st, Rep c.K ρ H z v ∧ RepE c.K ρ H en σ ∧ Wd c.K ρ st H ∧ bindT t z en = some en' ∧
  ∀ σ', RepE c.K ρ H en' σ' → (∀ vs, (∀ i ∈ t.slots, i ∈ vs) → wipe σ' vs = wipe σ vs) → Q σ' H
def TZgs (c : Cf) (ts : List T) : TGs := fun vs σ H Q => ∃ zs en en' ρ st, RepL c.K ρ H zs vs ∧ RepE c.K ρ H en σ ∧ Wd c.K ρ st H ∧ bindTs ts zs en = some en' ∧
  ∀ σ', RepE c.K ρ H en' σ' → (∀ vs, (∀ i ∈ slotsL ts, i ∈ vs) → wipe σ' vs = wipe σ vs) → Q σ' H
theorem pg_imp {X : Cx} {e : Expr} {t t' : TG} (h : PG X e t) (k : ∀ v σ H Q, t' v σ H Q → t v σ H Q) : PG X e t' := ⟨fun pins s σ H v u Q I r q => h.run pins s σ H v u Q I r (k v σ H Q q)⟩
theorem pgs_imp {X : Cx} {e : List Expr} {t t' : TGs} (h : PGs X e t) (k : ∀ v σ H Q, t' v σ H Q → t v σ H Q) : PGs X e t' := ⟨fun pins s σ H v u Q I r q => h.run pins s σ H v u Q I r (k v σ H Q q)⟩
theorem wipe_set {σ : L2.St} {i : Nat} {x : Option V} : ∀ {vs : List Nat}, i ∈ vs → wipe (σ.set i x) vs = wipe σ vs
  | [], h => by cases h
  | v :: vs, h => by
    unfold wipe
    by_cases e : i ∈ vs
    · rw [wipe_set e]
    · have e2 : i = v := by
        rcases List.mem_cons.mp h with q | q
        · exact q
        · exact absurd q e
      subst e2
      have : ∀ {vs : List Nat}, i ∉ vs → wipe (σ.set i x) vs = (wipe σ vs).set i x := by
        intro vs
        induction vs with
        | nil => intro _; rfl
        | cons w ws ih =>
          intro hn
          unfold wipe
          rw [ih (fun q => hn (List.mem_cons_of_mem _ q)), List.set_comm _ _ (fun q => hn (by rw [q]; exact List.mem_cons_self))]
      rw [this e, List.set_set]
theorem starA_cons {x : Expr} {xs : List Expr} {env : Env} (h : notStar x = true) : assignEach (x :: xs) env = (false, assign x env) :: assignEach xs env := by
  cases x <;> first | rfl | cases h
theorem starA_idx : ∀ {xs : List Expr} {env : Env}, xs.all notStar = true → (assignEach xs env).findIdx? (·.1) = none ∧ (assignEach xs env).length = xs.length
  | [], _, _ => ⟨rfl, rfl⟩
  | x :: xs, env, h => by
    rw [List.all_cons] at h
    obtain ⟨h1, h2⟩ := and_t h
    rw [starA_cons h1]
    obtain ⟨q1, q2⟩ := starA_idx (env := env) h2
    exact ⟨by rw [List.findIdx?_cons, q1]; rfl, by rw [List.length_cons, List.length_cons, q2]⟩
theorem chkTs_star {S : Sc} : ∀ {ts : List T} {xs : List Expr}, chkTs S ts xs = true → xs.all notStar = true ∧ xs.length = ts.length
  | [], [], _ => ⟨rfl, rfl⟩
  | [], _ :: _, h => by unfold chkTs at h; cases h
  | _ :: _, [], h => by unfold chkTs at h; cases h
  | t :: ts, x :: xs, h => by
    unfold chkTs at h
    obtain ⟨h, h3⟩ := and_t h
    obtain ⟨h1, h2⟩ := and_t h
    obtain ⟨q1, q2⟩ := chkTs_star h3
    exact ⟨by rw [List.all_cons, h1, q1]; rfl, by rw [List.length_cons, List.length_cons, q2]⟩
theorem bindTs_len : ∀ {ts : List T} {zs : List Z} {en en' : En}, bindTs ts zs en = some en' → zs.length = ts.length
  | [], [], _, _, _ => rfl
  | [], _ :: _, _, _, h => by unfold bindTs at h; cases h
  | _ :: _, [], _, _, h => by unfold bindTs at h; cases h
  | t :: ts, z :: zs, en, en', h => by
    unfold bindTs at h
    cases h1 : bindT t z en with
    | none => rw [h1] at h; cases h
    | some e1 => rw [h1] at h; rw [List.length_cons, List.length_cons, bindTs_len h]
theorem pg_or {X : Cx} {e : Expr} {t t' : TG} (h : PG X e t) (h' : PG X e t') : PG X e (fun v σ H Q => t v σ H Q ∨ t' v σ H Q) := ⟨fun pins s σ H v u Q I r q => q.elim (h.run pins s σ H v u Q I r) (h'.run pins s σ H v u Q I r)⟩
section
variable {tb : Tb} {c : Cf} {X : Cx} {S : Sc}
mutual
theorem s_tg (g : Gd tb c X S) : ∀ (t : T) (x : Expr), chkT S t x = true → PG X x (TZg c t)
  | .v i, x, h => by
    unfold chkT at h
    split at h <;> first | cases h | skip
    · rename_i heq; injection heq with heq; subst heq
      obtain ⟨h1, h2⟩ := and_t h
      obtain ⟨l1, l2⟩ := stC_ok g h2
      refine pg_imp (pg_name g.nd (by rw [g.n]; exact of_decide_eq_true h1) l1 l2) fun v σ H Q ⟨z, en, en', ρ, st, hv, r, w, e, q⟩ => ?_
      unfold bindT at e
      cases e
      exact q _ (r.set hv _) fun vs hs => wipe_set (hs _ (by unfold T.slots; exact List.mem_singleton.mpr rfl))
    · rename_i heq; cases heq
  | .tup ts, x, h => by
    unfold chkT at h
    split at h <;> first | cases h | skip
    · rename_i heq; cases heq
    · rename_i heq; injection heq with heq; subst heq
      obtain ⟨h1, h2⟩ := chkTs_star h
      obtain ⟨q1, q2⟩ := starA_idx (env := X.env) h1
      refine pg_imp (pg_or (pg_tup (n := ts.length) g.calm (s_tgs g ts _ h) (by rw [q2, h2]) q1) (pg_unl (n := ts.length) g.calm (s_tgs g ts _ h) (by rw [q2, h2]) q1)) fun v σ H Q ⟨z, en, en', ρ, st, hv, r, w, e, q⟩ => ?_
      cases z with
      | lst zs =>
        unfold bindT at e
        obtain ⟨a, vs, rfl, k1, _, k2⟩ := dr_lst_at (st := st) (zs := zs) w hv rfl
        exact .inr ⟨a, vs, rfl, by rw [g.k]; exact k1, by rw [k2.length, bindTs_len e], zs, en, en', ρ, st, k2, r, w, e, fun σ' r' hs => q σ' r' fun ws hw => hs ws fun i hi => hw i (by unfold T.slots; exact hi)⟩
      | tup zs =>
        unfold bindT at e
        obtain ⟨a, vs, rfl, k1, _, k2, _⟩ := dr_tup_at (st := st) (zs := zs) w hv rfl
        exact .inl ⟨a, vs, rfl, by rw [g.k]; exact k1, by rw [k2.length, bindTs_len e], zs, en, en', ρ, st, k2, r, w, e, fun σ' r' hs => q σ' r' fun ws hw => hs ws fun i hi => hw i (by unfold T.slots; exact hi)⟩
      | _ => unfold bindT at e; cases e
theorem s_tgs (g : Gd tb c X S) : ∀ (ts : List T) (xs : List Expr), chkTs S ts xs = true → PGs X xs (TZgs c ts)
  | [], [], h => pgs_imp pgs_nil fun vs σ H Q ⟨zs, en, en', ρ, st, hv, r, w, e, q⟩ => by
    cases zs with
    | nil =>
      unfold bindTs at e
      cases e
      exact ⟨repL_nil.mp hv, q σ r fun _ _ => rfl⟩
    | cons _ _ => unfold bindTs at e; cases e
  | [], _ :: _, h => by unfold chkTs at h; cases h
  | _ :: _, [], h => by unfold chkTs at h; cases h
  | t :: ts, x :: xs, h => by
    unfold chkTs at h
    obtain ⟨h, h3⟩ := and_t h
    obtain ⟨h1, h2⟩ := and_t h
    refine pgs_imp (pgs_cons (s_tg g t x h2) (s_tgs g ts xs h3) (by rw [starA_cons h1]; rfl)) fun vs σ H Q ⟨zs, en, en', ρ, st, hv, r, w, e, q⟩ => ?_
    cases zs with
    | nil => unfold bindTs at e; cases e
    | cons z zs =>
      obtain ⟨v, us, rfl, v1, v2⟩ := repL_cons.mp hv
      unfold bindTs at e
      cases h4 : bindT t z en with
      | none => rw [h4] at e; cases e
      | some e1 =>
        rw [h4] at e
        refine ⟨v, us, rfl, z, en, e1, ρ, st, v1, r, w, h4, fun σ1 r1 hs1 => ⟨zs, e1, en', ρ, st, v2, r1, w, e, fun σ2 r2 hs2 => q σ2 r2 fun ws hw => ?_⟩⟩
        rw [hs2 ws fun i hi => hw i (by unfold slotsL; exact List.mem_append.mpr (.inr hi)), hs1 ws fun i hi => hw i (by unfold slotsL; exact List.mem_append.mpr (.inl hi))]
end
end
/-! ### forgetting slots -/
theorem wipeE_length (en : En) : ∀ vs : List Nat, (wipeE en vs).length = en.length
  | [] => rfl
  | v :: vs => by unfold wipeE; rw [List.length_set, wipeE_length en vs]
theorem wipeE_some {en : En} {i : Nat} {z : Z} : ∀ {vs : List Nat}, (wipeE en vs)[i]? = some (some z) → en[i]? = some (some z) ∧ i ∉ vs
  | [], h => ⟨h, by simp⟩
  | v :: vs, h => by
    unfold wipeE at h
    by_cases hi : v = i
    · subst hi
      by_cases hv : v < (wipeE en vs).length
      · rw [List.getElem?_set_self hv] at h; cases h
      · rw [List.getElem?_eq_none (by simpa using hv)] at h; cases h
    · rw [List.getElem?_set_ne hi] at h
      obtain ⟨h1, h2⟩ := wipeE_some h
      exact ⟨h1, by simp only [List.mem_cons, not_or]; exact ⟨fun e => hi e.symm, h2⟩⟩
theorem wipe_keep {σ : L2.St} {i : Nat} : ∀ {vs : List Nat}, i ∉ vs → (wipe σ vs)[i]? = σ[i]?
  | [], _ => rfl
  | v :: vs, h => by
    unfold wipe
    rw [List.getElem?_set_ne (fun e => h (by rw [e]; exact List.mem_cons_self)), wipe_keep (fun q => h (List.mem_cons_of_mem _ q))]
theorem RepE.wipe {K : PySem.W.Frag} {ρ : Ro} {H : Hp} {en : En} {σ : L2.St} (r : RepE K ρ H en σ) (vs : List Nat) : RepE K ρ H (wipeE en vs) (L2.wipe σ vs) := by
  refine ⟨by rw [wipeE_length, wipe_length]; exact r.1, fun i z h => ?_⟩
  obtain ⟨h1, h2⟩ := wipeE_some h
  obtain ⟨v, q1, q2⟩ := r.2 i z h1
  exact ⟨v, by rw [wipe_keep h2]; exact q1, q2⟩
/-! ### a list being made, hidden -/
def Ro.hide (ρ : Ro) (D : Addr) : Ro := ⟨ρ.c, D :: ρ.h⟩
def Ro.bare (ρ : Ro) (D : Addr) : Ro := ⟨ρ.c, ρ.h.filter (fun x => decide (x ≠ D))⟩
section
variable {K : PySem.W.Frag} {ρ ρ' : Ro} {H H' : Hp} {st : Sto} {D : Addr}
mutual
theorem Rep.hput {o : HO} (hD : D ∈ ρ.h) : ∀ (z : Z) (v : V), Rep K ρ H z v → Rep K ρ (upd H D o) z v
  | .non, _, h => by unfold Rep at h ⊢; exact h
  | .bl _, _, h => by unfold Rep at h ⊢; exact h
  | .int _, _, h => by unfold Rep at h ⊢; exact h
  | .str _, _, h => by unfold Rep at h ⊢; exact h
  | .lst zs, _, h => by
    unfold Rep at h ⊢
    obtain ⟨a, vs, e1, e2, e3, e4, e5⟩ := h
    exact ⟨a, vs, e1, by rw [upd_ne (fun q => e3.2 (by rw [q]; exact hD))]; exact e2, e3, e4, RepL.hput hD zs vs e5⟩
  | .tup zs, _, h => by
    unfold Rep at h ⊢
    obtain ⟨a, vs, e1, e2, e4, e5⟩ := h
    refine ⟨a, vs, e1, ?_, e4, RepL.hput hD zs vs e5⟩
    rcases e2 with ⟨e2, e3⟩ | e2
    · exact .inl ⟨by rw [upd_ne (fun q => e3.2 (by rw [q]; exact hD))]; exact e2, e3⟩
    · exact .inr e2
  | .dic _ _, _, h => by unfold Rep at h; exact h.elim
  | .ins c fs zs, _, h => by
    unfold Rep at h ⊢
    obtain ⟨a, dx, vs, e1, e2, e3, e4, e5⟩ := h
    exact ⟨a, dx, vs, e1, by rw [upd_ne (fun q => e3.2 (by rw [q]; exact hD))]; exact e2, e3, e4, RepL.hput hD zs vs e5⟩
  | .scr ns, _, h => by
    unfold Rep at h ⊢
    obtain ⟨a, e1, e2, e4⟩ := h
    refine ⟨a, e1, ?_, e4⟩
    rcases e2 with ⟨e2, e3⟩ | e2
    · have ne : a ≠ D := fun q => e3.2 (by rw [q]; exact hD)
      rcases e2 with e2 | ⟨o, e2⟩
      · exact .inl ⟨.inl (by rw [upd_ne ne]; exact e2), e3⟩
      · exact .inl ⟨.inr ⟨o, by rw [upd_ne ne]; exact e2⟩, e3⟩
    · exact .inr e2
  | .cel n, _, h => by unfold Rep at h ⊢; exact h
theorem RepL.hput {o : HO} (hD : D ∈ ρ.h) : ∀ (zs : List Z) (vs : List V), RepL K ρ H zs vs → RepL K ρ (upd H D o) zs vs
  | [], _, h => by unfold RepL at h ⊢; exact h
  | z :: zs, _, h => by
    unfold RepL at h ⊢
    obtain ⟨v, r, e1, e2, e3⟩ := h
    exact ⟨v, r, e1, Rep.hput hD z v e2, RepL.hput hD zs r e3⟩
end
/-- what is hidden is written -/
theorem Wd.hput {o : HO} (w : Wd K ρ st H) (hD : D ∈ ρ.h) : Wd K ρ st (upd H D o) := by
  have nD := (w.hid D hD).1
  refine ⟨w.len, w.inj, fun n c e => ?_, fun a m => ?_⟩
  · obtain ⟨u, e1, e2⟩ := w.at_ n c e
    refine ⟨u, e1, ?_⟩
    cases c with
    | lst zs =>
      obtain ⟨a, vs, q1, q2, q3, q4⟩ := e2
      exact ⟨a, vs, q1, by rw [upd_ne (fun q => nD (by rw [← q, ← q1]; exact List.mem_of_getElem? e1))]; exact q2, q3, RepL.hput hD _ _ q4⟩
    | dic _ _ => exact e2.elim
    | ins c fs zs =>
      obtain ⟨a, dx, vs, q1, q2, q3, q5, q4⟩ := e2
      exact ⟨a, dx, vs, q1, by rw [upd_ne (fun q => nD (by rw [← q, ← q1]; exact List.mem_of_getElem? e1))]; exact q2, q3, q5, RepL.hput hD _ _ q4⟩
    | dead => exact e2
  · obtain ⟨x, u, y⟩ := w.hid a m
    exact ⟨x, upd_ther y⟩
theorem evo_hput {ρ0 : Ro} {H0 : Hp} {o : HO} (e : Evo ρ0 H0 ρ H) (hn : H0 D = none) : Evo ρ0 H0 ρ (upd H D o) :=
  ⟨fun a u h n => by rw [upd_ne (ne_of_none h hn)]; exact e.keep a u h n, e.fresh, e.len, e.old, e.hidn, e.hido, fun a u h => let ⟨o', h'⟩ := e.ther a u h; upd_ther h'⟩
theorem evo_hide {o : HO} (hn : H D = none) : Evo ρ H (ρ.hide D) (upd H D o) :=
  ⟨fun a u h _ => by rw [upd_ne (ne_of_none h hn)]; exact h, fun _ m => .inl m, Nat.le_refl _, fun _ _ _ e => e, fun a m => by
    rcases List.mem_cons.mp m with q | q
    · rw [q]; exact .inr hn
    · exact .inl q, fun a m => List.mem_cons_of_mem _ m, fun a u h => upd_ther h⟩
theorem Wd.hide {o : HO} (w : Wd K ρ st H) (hn : H D = none) : Wd K (ρ.hide D) st (upd H D o) := by
  refine ⟨w.len, w.inj, fun n c e => ?_, fun a m => ?_⟩
  · obtain ⟨u, e1, e2⟩ := w.at_ n c e
    exact ⟨u, e1, e2.evo (evo_hide hn) fun b x _ hb => by rw [upd_ne (ne_of_none hb hn)]; exact hb⟩
  · rcases List.mem_cons.mp m with q | q
    · rw [q]; exact ⟨w.notinc hn, _, upd_same⟩
    · obtain ⟨x, u, y⟩ := w.hid a q
      exact ⟨x, upd_ther y⟩
/-! what was hidden comes to light: nothing reaches it yet -/
mutual
theorem Rep.ro (h1 : ∀ a, ρ.out a → ρ'.out a) (h2 : ρ.c.length ≤ ρ'.c.length) (h3 : ∀ n a, n < ρ.c.length → ρ'.c[n]? = some (some a) → ρ.c[n]? = some (some a)) : ∀ (z : Z) (v : V), Rep K ρ H z v → Rep K ρ' H z v
  | .non, _, h => by unfold Rep at h ⊢; exact h
  | .bl _, _, h => by unfold Rep at h ⊢; exact h
  | .int _, _, h => by unfold Rep at h ⊢; exact h
  | .str _, _, h => by unfold Rep at h ⊢; exact h
  | .lst zs, _, h => by
    unfold Rep at h ⊢
    obtain ⟨a, vs, e1, e2, e3, e4, e5⟩ := h
    exact ⟨a, vs, e1, e2, h1 a e3, e4, RepL.ro h1 h2 h3 zs vs e5⟩
  | .tup zs, _, h => by
    unfold Rep at h ⊢
    obtain ⟨a, vs, e1, e2, e4, e5⟩ := h
    refine ⟨a, vs, e1, ?_, e4, RepL.ro h1 h2 h3 zs vs e5⟩
    rcases e2 with ⟨e2, e3⟩ | e2
    · exact .inl ⟨e2, h1 a e3⟩
    · exact .inr e2
  | .dic _ _, _, h => by unfold Rep at h; exact h.elim
  | .ins c fs zs, _, h => by
    unfold Rep at h ⊢
    obtain ⟨a, dx, vs, e1, e2, e3, e4, e5⟩ := h
    exact ⟨a, dx, vs, e1, e2, h1 a e3, e4, RepL.ro h1 h2 h3 zs vs e5⟩
  | .scr ns, _, h => by
    unfold Rep at h ⊢
    obtain ⟨a, e1, e2, e4⟩ := h
    refine ⟨a, e1, ?_, e4⟩
    rcases e2 with ⟨e2, e3⟩ | e2
    · exact .inl ⟨e2, h1 a e3⟩
    · exact .inr e2
  | .cel n, _, h => by unfold Rep at h ⊢; exact ⟨Nat.lt_of_lt_of_le h.1 h2, fun a q => h.2 a (h3 n a h.1 q)⟩
theorem RepL.ro (h1 : ∀ a, ρ.out a → ρ'.out a) (h2 : ρ.c.length ≤ ρ'.c.length) (h3 : ∀ n a, n < ρ.c.length → ρ'.c[n]? = some (some a) → ρ.c[n]? = some (some a)) : ∀ (zs : List Z) (vs : List V), RepL K ρ H zs vs → RepL K ρ' H zs vs
  | [], _, h => by unfold RepL at h ⊢; exact h
  | z :: zs, _, h => by
    unfold RepL at h ⊢
    obtain ⟨v, r, e1, e2, e3⟩ := h
    exact ⟨v, r, e1, Rep.ro h1 h2 h3 z v e2, RepL.ro h1 h2 h3 zs r e3⟩
end
theorem ClAt.ro (h1 : ∀ a, ρ.out a → ρ'.out a) (h2 : ρ.c.length ≤ ρ'.c.length) (h3 : ∀ n a, n < ρ.c.length → ρ'.c[n]? = some (some a) → ρ.c[n]? = some (some a)) {u : Option Addr} {c : Cl} (e2 : ClAt K ρ H u c) : ClAt K ρ' H u c := by
  cases c with
  | lst zs =>
    obtain ⟨a, vs, q1, q2, q3, q4⟩ := e2
    exact ⟨a, vs, q1, q2, q3, RepL.ro h1 h2 h3 _ _ q4⟩
  | dic _ _ => exact e2.elim
  | ins c fs zs =>
    obtain ⟨a, dx, vs, q1, q2, q3, q5, q4⟩ := e2
    exact ⟨a, dx, vs, q1, q2, q3, q5, RepL.ro h1 h2 h3 _ _ q4⟩
  | dead => exact e2
theorem bare_mono (a : Addr) (h : ρ.out a) : (ρ.bare D).out a := ⟨h.1, fun q => h.2 (List.mem_filter.mp q).1⟩
theorem RepL.bare (zs : List Z) (vs : List V) (h : RepL K ρ H zs vs) : RepL K (ρ.bare D) H zs vs := RepL.ro bare_mono (Nat.le_refl _) (fun _ _ _ e => e) zs vs h
/-- .. as a cell -/
def Ro.lit (ρ : Ro) (D : Addr) : Ro := ⟨ρ.c ++ [some D], ρ.h.filter (fun x => decide (x ≠ D))⟩
theorem lit_mono (hD : D ∈ ρ.h) (a : Addr) (h : ρ.out a) : (ρ.lit D).out a := ⟨fun m => by
  rcases List.mem_append.mp m with q | q
  · exact h.1 q
  · have q' : some a = some D := by simpa using q
    cases q'
    exact h.2 hD, fun q => h.2 (List.mem_filter.mp q).1⟩
theorem lit_old (n : Nat) (a : Addr) (h : n < ρ.c.length) (e : (ρ.lit D).c[n]? = some (some a)) : ρ.c[n]? = some (some a) := by
  have e : (ρ.c ++ [some D])[n]? = some (some a) := e
  rw [List.getElem?_append_left h] at e; exact e
theorem lit_len : ρ.c.length ≤ (ρ.lit D).c.length := by simp [Ro.lit]
theorem RepL.lit (hD : D ∈ ρ.h) (zs : List Z) (vs : List V) (h : RepL K ρ H zs vs) : RepL K (ρ.lit D) H zs vs := RepL.ro (lit_mono hD) lit_len lit_old zs vs h
theorem Wd.lit {c : Cl} (w : Wd K ρ st H) (hD : D ∈ ρ.h) (hc : ClAt K (ρ.lit D) H (some D) c) : Wd K (ρ.lit D) (st ++ [c]) H := by
  have na := (w.hid D hD).1
  refine ⟨by simp [w.len, Ro.lit], fun n m b e1 e2 => ?_, fun n d e => ?_, fun b m => ?_⟩
  · have e1 : (ρ.c ++ [some D])[n]? = some (some b) := e1
    have e2 : (ρ.c ++ [some D])[m]? = some (some b) := e2
    by_cases hn : n < ρ.c.length
    · rw [List.getElem?_append_left hn] at e1
      by_cases hm : m < ρ.c.length
      · rw [List.getElem?_append_left hm] at e2
        exact w.inj n m b e1 e2
      · rw [List.getElem?_append_right (by omega)] at e2
        have q : m - ρ.c.length = 0 := by
          have := (List.getElem?_eq_some_iff.mp e2).1
          simpa using this
        rw [q] at e2
        have e2' : D = b := by simpa using e2
        subst e2'
        exact absurd (List.mem_of_getElem? e1) na
    · rw [List.getElem?_append_right (by omega)] at e1
      have q : n - ρ.c.length = 0 := by
        have := (List.getElem?_eq_some_iff.mp e1).1
        simpa using this
      rw [q] at e1
      have e1' : D = b := by simpa using e1
      subst e1'
      by_cases hm : m < ρ.c.length
      · rw [List.getElem?_append_left hm] at e2
        exact absurd (List.mem_of_getElem? e2) na
      · rw [List.getElem?_append_right (by omega)] at e2
        have q2 : m - ρ.c.length = 0 := by
          have := (List.getElem?_eq_some_iff.mp e2).1
          simpa using this
        omega
  · by_cases hn : n < st.length
    · rw [List.getElem?_append_left hn] at e
      obtain ⟨u, e1, e2⟩ := w.at_ n d e
      exact ⟨u, by show (ρ.c ++ [some D])[n]? = _; rw [List.getElem?_append_left (by rw [w.len]; exact hn)]; exact e1, e2.ro (lit_mono hD) lit_len lit_old⟩
    · rw [List.getElem?_append_right (by omega)] at e
      have q : n - st.length = 0 := by
        have := (List.getElem?_eq_some_iff.mp e).1
        simpa using this
      rw [q] at e
      have e' : c = d := by simpa using e
      subst e'
      refine ⟨some D, ?_, hc⟩
      show (ρ.c ++ [some D])[n]? = _
      rw [List.getElem?_append_right (by rw [w.len]; omega), w.len, q]
      rfl
  · have mm := List.mem_filter.mp m
    obtain ⟨x, y⟩ := w.hid b mm.1
    refine ⟨fun z => ?_, y⟩
    rcases List.mem_append.mp (show some b ∈ ρ.c ++ [some D] from z) with q | q
    · exact x q
    · have q' : some b = some D := by simpa using q
      cases q'
      simpa using mm.2
theorem evo_lit {ρ0 : Ro} {H0 : Hp} (e : Evo ρ0 H0 ρ H) (hn : H0 D = none) (hh : D ∉ ρ0.h) : Evo ρ0 H0 (ρ.lit D) H :=
  ⟨e.keep, fun a m => by
    rcases List.mem_append.mp (show some a ∈ ρ.c ++ [some D] from m) with q | q
    · exact e.fresh a q
    · have q' : some a = some D := by simpa using q
      cases q'
      exact .inr hn, Nat.le_trans e.len lit_len, fun n a h q => e.old n a h (lit_old n a (Nat.lt_of_lt_of_le h e.len) q), fun a m => e.hidn a (List.mem_filter.mp m).1, fun a m => List.mem_filter.mpr ⟨e.hido a m, by
    simp only [decide_eq_true_eq]
    exact fun q => hh (by rw [← q]; exact m)⟩, e.ther⟩
theorem Wd.bare (w : Wd K ρ st H) : Wd K (ρ.bare D) st H :=
  ⟨w.len, w.inj, fun n c e => let ⟨u, e1, e2⟩ := w.at_ n c e; ⟨u, e1, e2.ro bare_mono (Nat.le_refl _) (fun _ _ _ e => e)⟩, fun a m => w.hid a (List.mem_filter.mp m).1⟩
theorem evo_bare {ρ0 : Ro} {H0 : Hp} (e : Evo ρ0 H0 ρ H) (hn : D ∉ ρ0.h) : Evo ρ0 H0 (ρ.bare D) H :=
  ⟨e.keep, e.fresh, e.len, e.old, fun a m => e.hidn a (List.mem_filter.mp m).1, fun a m => List.mem_filter.mpr ⟨e.hido a m, by
    simp only [decide_eq_true_eq]
    exact fun q => hn (by rw [← q]; exact m)⟩, e.ther⟩
theorem bare_out (h : some D ∉ ρ.c) : (ρ.bare D).out D := ⟨h, fun m => by simpa using (List.mem_filter.mp m).2⟩
/-- the list that was made stands at D: what was asked of a new list holds of it -/
theorem made {b : Nat} {ρ0 : Ro} {H0 : Hp} {st0 : Sto} {k : Bool} {zs : List Z} {vs : List V} {Q : VK} (e : Evo ρ0 H0 ρ H) (s : Sub b st0 st) (w0 : Wd K ρ0 st0 H0) (w : Wd K ρ st H) (hn : H0 D = none) (hD : D ∈ ρ.h) (hv : H D = some (.lst vs)) (r : RepL K ρ H zs vs) (l : zs.length ≤ sizeL)
    (q : RSat K b ρ0 H0 st0 (mkL k zs st) (PK K Q)) : Q (.ref D) H := by
  have hh : D ∉ ρ0.h := fun m => by
    obtain ⟨_, o, x⟩ := w0.hid D m
    rw [hn] at x; cases x
  have na := (w.hid D hD).1
  cases k with
  | false => exact q _ H (evo_bare e hh) s w.bare _ (rep_lst.mpr ⟨D, vs, rfl, hv, bare_out na, l, RepL.bare _ _ r⟩)
  | true =>
    refine q _ H (evo_lit e hn hh) (s.trans sub_app) (w.lit hD ⟨D, vs, rfl, hv, l, RepL.lit hD _ _ r⟩) _ (rep_cel.mpr ⟨by rw [← w.len]; simp [Ro.lit], fun a h => ?_⟩)
    rw [← w.len] at h
    have h' : some (some D) = some (some a) := by simpa [Ro.lit] using h
    cases h'
    rfl
end
theorem wipe_wipe {σ : L2.St} : ∀ {us vs : List Nat}, (∀ i ∈ us, i ∈ vs) → wipe (wipe σ us) vs = wipe σ vs
  | [], vs, _ => rfl
  | u :: us, vs, h => by
    show wipe ((wipe σ us).set u none) vs = _
    rw [wipe_set (h u List.mem_cons_self), wipe_wipe fun i m => h i (List.mem_cons_of_mem _ m)]
theorem goC_eq {c : Sto → Bool} {f : Z → Sto → R (List Z)} {z : Z} {zs : List Z} {st : Sto} {α : Type} {g : List Z → Sto → R α} : (goC c f (z :: zs) st).bind g = if c st = true then (f z st).bind fun o st1 => (goC c f zs st1).bind fun r st2 => g (o ++ r) st2 else .no := by
  show (if c st = true then _ else R.no).bind g = _
  cases c st with
  | false => rfl
  | true =>
    rw [if_pos rfl, if_pos rfl, R.bind_assoc]
    congr 1
    funext o st1
    rw [R.bind_assoc]
    congr 1
section
variable {c : Cf}
theorem lc_read {k : Bool} {ws : List Nat} {e : E} {t : T} {i : I} {cd : Option E} (hsl : ∀ j ∈ t.slots, j ∈ ws) : ∀ σ H Q, TZ c (.lc k ws e t i cd) σ H Q → tLc (TZI c i) (TZg c t) (TZc c cd) (TZ c e) ws σ H Q := by
  intro σ H Q ⟨en, ρ, st, r, w, q⟩
  unfold ev at q
  refine ⟨en, ρ, st, r, w, q.bind.mono fun wk st1 ρ1 H1 e1 s1 w1 q1 J hl hJ => ?_⟩
  intro D hD
  have r1 := r.evo e1
  generalize hf : (fun (z : Z) (st1 : Sto) => (match bindT t z (wipeE en ws) with
      | some en1 => (evc c.F c.G c.b cd en1 st1).calm.bind fun k st2 => if k then (ev c.F c.G c.b e en1 st2).calm.bind fun y st3 => R.ok [y] st3 else R.ok [] st2
      | none => R.no)) = f at q1
  have hfe : ∀ z st en1, bindT t z (wipeE en ws) = some en1 → f z st = (evc c.F c.G c.b cd en1 st).calm.bind fun k st2 => if k then (ev c.F c.G c.b e en1 st2).calm.bind fun y st3 => R.ok [y] st3 else R.ok [] st2 := fun z st en1 he => by
    rw [← hf]
    show (match bindT t z (wipeE en ws) with
      | some en1 => _
      | none => _) = _
    rw [he]
  have hfn : ∀ z st, bindT t z (wipeE en ws) = none → f z st = .no := fun z st he => by
    rw [← hf]
    show (match bindT t z (wipeE en ws) with
      | some en1 => _
      | none => _) = _
    rw [he]
  clear hf
  let Pv : Nat → Hp → Prop := fun i Hi => ∃ ρi sti zs vs, Evo ρ1 H1 ρi Hi ∧ Sub c.b st1 sti ∧ Wd c.K ρi sti Hi ∧ D ∈ ρi.h ∧ Hi D = some (.lst vs) ∧ RepL c.K ρi Hi zs vs ∧ zs.length ≤ i ∧
    RSat c.K c.b ρ1 H1 st1 ((goC (stays wk.held st1) f (wk.items.drop i) sti).bind fun r st => mkL k (zs ++ r) st) (PK c.K Q)
  refine ⟨fun i m Hi => m = wk.items.length - i ∧ i ≤ wk.items.length ∧ Pv i Hi, ⟨wk.items.length, by simp, Nat.zero_le _, ρ1.hide D, st1, [], [], evo_hide hD, .refl, w1.hide hD, List.mem_cons_self, upd_same, repL_nil.mpr rfl, Nat.zero_le _, ?_⟩, ?_⟩
  · exact q1
  rintro i m Hi ⟨rfl, hi, ρi, sti, zs, vs, ei, si, wi, hDi, hv, rz, lz, qi⟩
  have nD := (wi.hid D hDi).1
  by_cases hlt : i < wk.items.length
  · have hd : wk.items.drop i = wk.items[i] :: wk.items.drop (i + 1) := List.drop_eq_getElem_cons hlt
    rw [hd, goC_eq] at qi
    by_cases hs : stays wk.held st1 sti = true
    · rw [if_pos hs] at qi
      refine .inr ⟨hJ.goes i ρi Hi sti hlt ei.l wi hs, Pv (i + 1), fun H' p' => ⟨wk.items.length - (i + 1), by omega, rfl, hlt, p'⟩, fun x H' y => ?_⟩
      obtain ⟨z, hz, ez, wz, rx⟩ := hJ.yields i ρi Hi sti x H' hlt ei.l wi hs y
      have hz2 : wk.items[i] = z := by rw [List.getElem?_eq_getElem hlt] at hz; injection hz
      rw [hz2] at qi
      have e2 := ei.trans ez
      cases hb : bindT t z (wipeE en ws) with
      | none => rw [hfn z sti hb] at qi; exact qi.elim
      | some en1 =>
        rw [hfe z sti en1 hb] at qi
        refine ⟨z, wipeE en ws, en1, ρi, sti, rx, (r1.evo e2).wipe ws, wz, hb, fun σ' r' hs' => ⟨?_, en1, ρi, sti, r', wz, ?_⟩⟩
        · rw [hs' ws hsl, wipe_wipe fun _ m => m]
        cases hc : evc c.F c.G c.b cd en1 sti with
        | ok kk st2 =>
          rw [hc, R.calm_ok, R.bind_ok] at qi
          intro ρ3 H3 e3 s3 w3
          have hv3 : H3 D = some (.lst vs) := e3.keep D _ (ez.keep D _ hv nD) nD
          cases kk with
          | false =>
            simp only [Bool.false_eq_true, if_false] at qi ⊢
            exact ⟨ρ3, st2, zs, vs, e2.trans e3, si.trans s3, w3, e3.hido D hDi, hv3, (rz.evo ez _ _).evo e3 _ _, by omega, qi⟩
          | true =>
            simp only [if_true] at qi ⊢
            refine ⟨en1, ρ3, st2, r'.evo e3, w3, ?_⟩
            cases he : ev c.F c.G c.b e en1 st2 with
            | ok y st3 =>
              rw [he, R.calm_ok, R.bind_ok, R.bind_ok] at qi
              intro ρ4 H4 e4 s4 w4 v rv
              have hD3 := e3.hido D hDi
              have hv4 : H4 D = some (.lst vs) := e4.keep D _ hv3 (w3.hid D hD3).1
              have hD4 := e4.hido D hD3
              have rz4 := ((rz.evo ez _ _).evo e3 _ _).evo e4 _ _
              refine ⟨vs, hv4, by rw [rz4.length, sizeL_eq]; omega, ρ4, st3, zs ++ [y], vs ++ [v], evo_hput ((e2.trans e3).trans e4) hD, (si.trans s3).trans s4, w4.hput hD4, hD4, upd_same, RepL.hput hD4 _ _ (rz4.append (repL_cons.mpr ⟨v, [], rfl, rv, repL_nil.mpr rfl⟩)), by rw [List.length_append]; simp; omega, ?_⟩
              simp only [List.append_assoc]
              exact qi
            | exn _ _ _ => rw [he] at qi; exact qi.elim
            | no => rw [he] at qi; exact qi.elim
        | exn _ _ _ => rw [hc] at qi; exact qi.elim
        | no => rw [hc] at qi; exact qi.elim
    · rw [if_neg hs] at qi; exact qi.elim
  · have e : i = wk.items.length := by omega
    subst e
    rw [List.drop_length] at qi
    have q2 : RSat c.K c.b ρ1 H1 st1 ((if stays wk.held st1 sti = true then R.ok [] sti else R.no : R (List Z)).bind fun r st => mkL k (zs ++ r) st) (PK c.K Q) := qi
    by_cases hs : stays wk.held st1 sti = true
    · rw [if_pos hs, R.bind_ok, List.append_nil] at q2
      exact .inl ⟨hJ.stops ρi Hi sti ei.l wi hs, made ei si w1 wi hD hDi hv rz (by omega) q2⟩
    · rw [if_neg hs] at q2; exact q2.elim
theorem goN_eq {c : Sto → Bool} {f : Nat → Z → Sto → R (List Z)} {n : Nat} {z : Z} {zs : List Z} {st : Sto} {α : Type} {g : List Z → Sto → R α} : (goN c f n (z :: zs) st).bind g = if c st = true then (f n z st).bind fun o st1 => (goN c f (n + o.length) zs st1).bind fun r st2 => g (o ++ r) st2 else .no := by
  show (if c st = true then _ else R.no).bind g = _
  cases c st with
  | false => rfl
  | true =>
    rw [if_pos rfl, if_pos rfl, R.bind_assoc]
    congr 1
    funext o st1
    rw [R.bind_assoc]
    congr 1
theorem yes_if {p q : Prop} (h : p) : if true = true then p else q := by rw [if_pos rfl]; exact h
theorem lc2_read {k : Bool} {ws ws2 : List Nat} {e : E} {t t2 : T} {i i2 : I} {cd : Option E} (hsl : ∀ j ∈ t.slots, j ∈ ws) (hsl2 : ∀ j ∈ t2.slots, j ∈ ws2) : ∀ σ H Q, TZ c (.lc2 k ws ws2 e t i t2 i2 cd) σ H Q → tLc2 (TZI c i) (TZg c t) tYes (TZI c i2) (TZg c t2) (TZc c cd) (TZ c e) ws ws2 σ H Q := by
  intro σ H Q ⟨en, ρ, st, r, w, q⟩
  unfold ev at q
  refine ⟨en, ρ, st, r, w, q.bind.mono fun wk st1 ρ1 H1 e1 s1 w1 q1 J hl hJ => ?_⟩
  intro D hD
  have r1 := r.evo e1
  generalize hf2 : (fun (en1 : En) (n : Nat) (z2 : Z) (st3 : Sto) => (match bindT t2 z2 (wipeE en1 ws2) with
        | some en2 => (evc c.F c.G c.b cd en2 st3).calm.bind fun k st4 => if k then (ev c.F c.G c.b e en2 st4).calm.bind fun y st5 => if n < sizeL then R.ok [y] st5 else R.no else R.ok [] st4
        | none => R.no)) = f2 at q1
  generalize hf : (fun (n : Nat) (z : Z) (st1 : Sto) => (match bindT t z (wipeE en ws) with
      | some en1 => (evI c.F c.G c.b i2 en1 st1).calm.bind fun w2 st2 => goN (stays w2.held st2) (f2 en1) n w2.items st2
      | none => R.no)) = f
  have q1 : RSat c.K c.b ρ1 H1 st1 ((goN (stays wk.held st1) f 0 wk.items st1).bind fun zs st => mkL k zs st) (PK c.K Q) := by
    subst hf2
    subst hf
    exact q1
  have hfe : ∀ n z st en1, bindT t z (wipeE en ws) = some en1 → f n z st = (evI c.F c.G c.b i2 en1 st).calm.bind fun w2 st2 => goN (stays w2.held st2) (f2 en1) n w2.items st2 := fun n z st en1 he => by
    rw [← hf]
    simp only [he]
  have hfn : ∀ n z st, bindT t z (wipeE en ws) = none → f n z st = .no := fun n z st he => by
    rw [← hf]
    simp only [he]
  have hge : ∀ en1 n z st en2, bindT t2 z (wipeE en1 ws2) = some en2 → f2 en1 n z st = (evc c.F c.G c.b cd en2 st).calm.bind fun k st4 => if k then (ev c.F c.G c.b e en2 st4).calm.bind fun y st5 => if n < sizeL then R.ok [y] st5 else R.no else R.ok [] st4 := fun en1 n z st en2 he => by
    rw [← hf2]
    simp only [he]
  have hgn : ∀ en1 n z st, bindT t2 z (wipeE en1 ws2) = none → f2 en1 n z st = .no := fun en1 n z st he => by
    rw [← hf2]
    simp only [he]
  clear hf hf2
  let Pv : Nat → Hp → Prop := fun i Hi => ∃ ρi sti zs vs, Evo ρ1 H1 ρi Hi ∧ Sub c.b st1 sti ∧ Wd c.K ρi sti Hi ∧ D ∈ ρi.h ∧ Hi D = some (.lst vs) ∧ RepL c.K ρi Hi zs vs ∧ zs.length ≤ sizeL ∧
    RSat c.K c.b ρ1 H1 st1 ((goN (stays wk.held st1) f zs.length (wk.items.drop i) sti).bind fun r st => mkL k (zs ++ r) st) (PK c.K Q)
  refine ⟨fun i m Hi => m = wk.items.length - i ∧ i ≤ wk.items.length ∧ Pv i Hi, ⟨wk.items.length, by simp, Nat.zero_le _, ρ1.hide D, st1, [], [], evo_hide hD, .refl, w1.hide hD, List.mem_cons_self, upd_same, repL_nil.mpr rfl, Nat.zero_le _, ?_⟩, ?_⟩
  · exact q1
  rintro i m Hi ⟨rfl, hi, ρi, sti, zs, vs, ei, si, wi, hDi, hv, rz, lz, qi⟩
  have nD := (wi.hid D hDi).1
  by_cases hlt : i < wk.items.length
  · have hd : wk.items.drop i = wk.items[i] :: wk.items.drop (i + 1) := List.drop_eq_getElem_cons hlt
    rw [hd, goN_eq] at qi
    by_cases hs : stays wk.held st1 sti = true
    · rw [if_pos hs] at qi
      refine .inr ⟨hJ.goes i ρi Hi sti hlt ei.l wi hs, Pv (i + 1), fun H' p' => ⟨wk.items.length - (i + 1), by omega, rfl, hlt, p'⟩, fun x H' y => ?_⟩
      obtain ⟨z, hz, ez, wz, rx⟩ := hJ.yields i ρi Hi sti x H' hlt ei.l wi hs y
      have hz2 : wk.items[i] = z := by rw [List.getElem?_eq_getElem hlt] at hz; injection hz
      rw [hz2] at qi
      have e2 := ei.trans ez
      have hvz := ez.keep D _ hv nD
      cases hb : bindT t z (wipeE en ws) with
      | none => rw [hfn _ z sti hb] at qi; exact qi.elim
      | some en1 =>
        rw [hfe _ z sti en1 hb] at qi
        refine ⟨z, wipeE en ws, en1, ρi, sti, rx, (r1.evo e2).wipe ws, wz, hb, fun σ' r' hs' => ⟨?_, ?_⟩⟩
        · rw [hs' ws hsl, wipe_wipe fun _ m => m]
        refine yes_if (q := Pv (i + 1) H') ?_
        refine ⟨en1, ρi, sti, r', wz, ?_⟩
        cases hc : evI c.F c.G c.b i2 en1 sti with
        | ok w2 st2 =>
          rw [hc, R.calm_ok, R.bind_ok] at qi
          intro ρ2 H2 e3 s3 ww2 J1 hl1 hJ1
          have hD2 := e3.hido D hDi
          have hv2 : H2 D = some (.lst vs) := e3.keep D _ hvz nD
          have r2 := r'.evo e3
          have e23 := e2.trans e3
          let Pw : Nat → Hp → Prop := fun j Hj => ∃ ρj stj ys us, EvoL ρ2 H2 ρj Hj ∧ Evo ρ1 H1 ρj Hj ∧ Sub c.b st1 stj ∧ Wd c.K ρj stj Hj ∧ D ∈ ρj.h ∧ Hj D = some (.lst us) ∧ RepL c.K ρj Hj (zs ++ ys) us ∧ (zs ++ ys).length ≤ sizeL ∧
            RSat c.K c.b ρ1 H1 st1 ((goN (stays w2.held st2) (f2 en1) (zs ++ ys).length (w2.items.drop j) stj).bind fun o st => (goN (stays wk.held st1) f (zs.length + (ys ++ o).length) (wk.items.drop (i + 1)) st).bind fun r st => mkL k (zs ++ ((ys ++ o) ++ r)) st) (PK c.K Q)
          refine ⟨fun j m Hj => m = w2.items.length - j ∧ j ≤ w2.items.length ∧ Pw j Hj, ⟨w2.items.length, by simp, Nat.zero_le _, ρ2, st2, [], vs, Evo.l .refl, e23, si.trans s3, ww2, hD2, hv2, by rw [List.append_nil]; exact (rz.evo ez _ _).evo e3 _ _, by rw [List.append_nil]; exact lz, ?_⟩, ?_⟩
          · rw [List.append_nil]
            exact qi
          rintro j mm Hj ⟨rfl, hj, ρj, stj, ys, us, ej, ek, sj, wj, hDj, hvj, rj, lj, qj⟩
          have nDj := (wj.hid D hDj).1
          by_cases hlt2 : j < w2.items.length
          · have hd2 : w2.items.drop j = w2.items[j] :: w2.items.drop (j + 1) := List.drop_eq_getElem_cons hlt2
            rw [hd2, goN_eq] at qj
            by_cases hs2 : stays w2.held st2 stj = true
            · rw [if_pos hs2] at qj
              refine .inr ⟨hJ1.goes j ρj Hj stj hlt2 ej wj hs2, Pw (j + 1), fun H' p' => ⟨w2.items.length - (j + 1), by omega, rfl, hlt2, p'⟩, fun x2 Hk y2 => ?_⟩
              obtain ⟨z2, hz3, ez2, wz2, rx2⟩ := hJ1.yields j ρj Hj stj x2 Hk hlt2 ej wj hs2 y2
              have hz4 : w2.items[j] = z2 := by rw [List.getElem?_eq_getElem hlt2] at hz3; injection hz3
              rw [hz4] at qj
              have eL := ej.trans ez2.l
              have eK := ek.trans ez2
              have rk : RepE c.K ρj Hk en1 σ' := ⟨r2.1, fun i z h => let ⟨v, h1, h2⟩ := r2.2 i z h; ⟨v, h1, Rep.evoL eL _ _ h2⟩⟩
              cases hb2 : bindT t2 z2 (wipeE en1 ws2) with
              | none => rw [hgn en1 _ z2 stj hb2] at qj; exact qj.elim
              | some en2 =>
                rw [hge en1 _ z2 stj en2 hb2] at qj
                refine ⟨z2, wipeE en1 ws2, en2, ρj, stj, rx2, rk.wipe ws2, wz2, hb2, fun σ3 r3 hs3 => ⟨?_, en2, ρj, stj, r3, wz2, ?_⟩⟩
                · rw [hs3 ws2 hsl2, wipe_wipe fun _ m => m]
                cases hcc : evc c.F c.G c.b cd en2 stj with
                | ok kk st4 =>
                  rw [hcc, R.calm_ok, R.bind_ok] at qj
                  intro ρ4 H4 e4 s4 w4
                  have hv4 : H4 D = some (.lst us) := e4.keep D _ (ez2.keep D _ hvj nDj) nDj
                  have hD4 := e4.hido D hDj
                  cases kk with
                  | false =>
                    simp only [Bool.false_eq_true, if_false] at qj ⊢
                    refine ⟨ρ4, st4, ys, us, eL.trans e4.l, eK.trans e4, sj.trans s4, w4, hD4, hv4, (rj.evo ez2 _ _).evo e4 _ _, lj, ?_⟩
                    exact qj
                  | true =>
                    simp only [if_true] at qj ⊢
                    refine ⟨en2, ρ4, st4, r3.evo e4, w4, ?_⟩
                    cases he : ev c.F c.G c.b e en2 st4 with
                    | ok y st5 =>
                      rw [he, R.calm_ok, R.bind_ok] at qj
                      by_cases hlen : (zs ++ ys).length < sizeL
                      · rw [if_pos hlen, R.bind_ok] at qj
                        intro ρ5 H5 e5 s5 w5 v rv
                        have hv5 : H5 D = some (.lst us) := e5.keep D _ hv4 (w4.hid D hD4).1
                        have hD5 := e5.hido D hD4
                        have rz5 := ((rj.evo ez2 _ _).evo e4 _ _).evo e5 _ _
                        refine ⟨us, hv5, by rw [rz5.length, sizeL_eq]; omega, ρ5, st5, ys ++ [y], us ++ [v], ((eL.trans e4.l).trans e5.l).hput (.inl hD2), evo_hput ((eK.trans e4).trans e5) hD, (sj.trans s4).trans s5, w5.hput hD5, hD5, upd_same, ?_, ?_, ?_⟩
                        · rw [← List.append_assoc]
                          exact RepL.hput hD5 _ _ (rz5.append (repL_cons.mpr ⟨v, [], rfl, rv, repL_nil.mpr rfl⟩))
                        · rw [← List.append_assoc, List.length_append]; exact hlen
                        · have h1 : (zs ++ (ys ++ [y])).length = (zs ++ ys).length + [y].length := by rw [← List.append_assoc, List.length_append]
                          rw [h1]
                          simp only [List.append_assoc] at qj ⊢
                          exact qj
                      · rw [if_neg hlen] at qj; exact qj.elim
                    | exn _ _ _ => rw [he] at qj; exact qj.elim
                    | no => rw [he] at qj; exact qj.elim
                | exn _ _ _ => rw [hcc] at qj; exact qj.elim
                | no => rw [hcc] at qj; exact qj.elim
            · rw [if_neg hs2] at qj; exact qj.elim
          · have ee : j = w2.items.length := by omega
            subst ee
            rw [List.drop_length] at qj
            have q2 : RSat c.K c.b ρ1 H1 st1 ((if stays w2.held st2 stj = true then R.ok [] stj else R.no : R (List Z)).bind fun o st => (goN (stays wk.held st1) f (zs.length + (ys ++ o).length) (wk.items.drop (i + 1)) st).bind fun r st => mkL k (zs ++ ((ys ++ o) ++ r)) st) (PK c.K Q) := qj
            by_cases hs2 : stays w2.held st2 stj = true
            · rw [if_pos hs2, R.bind_ok, List.append_nil] at q2
              refine .inl ⟨hJ1.stops ρj Hj stj ej wj hs2, ρj, stj, zs ++ ys, us, ek, sj, wj, hDj, hvj, rj, lj, ?_⟩
              rw [List.length_append]
              simp only [List.append_assoc]
              exact q2
            · rw [if_neg hs2] at q2; exact q2.elim
        | exn _ _ _ => rw [hc] at qi; exact qi.elim
        | no => rw [hc] at qi; exact qi.elim
    · rw [if_neg hs] at qi; exact qi.elim
  · have e : i = wk.items.length := by omega
    subst e
    rw [List.drop_length] at qi
    have q2 : RSat c.K c.b ρ1 H1 st1 ((if stays wk.held st1 sti = true then R.ok [] sti else R.no : R (List Z)).bind fun r st => mkL k (zs ++ r) st) (PK c.K Q) := qi
    by_cases hs : stays wk.held st1 sti = true
    · rw [if_pos hs, R.bind_ok, List.append_nil] at q2
      exact .inl ⟨hJ.stops ρi Hi sti ei.l wi hs, made ei si w1 wi hD hDi hv rz lz q2⟩
    · rw [if_neg hs] at q2; exact q2.elim
end
end ZZ

end
section
set_option maxHeartbeats 4000000
/-! ZAll: the induction over expressions. -/
namespace ZZ
open PySem PySem.Spec PyProof.Rows L2
theorem and3 {a b c : Bool} (h : (a && b && c) = true) : a = true ∧ b = true ∧ c = true := by
  obtain ⟨h, h3⟩ := and_t h
  obtain ⟨h1, h2⟩ := and_t h
  exact ⟨h1, h2, h3⟩
theorem ntrue {b : Bool} (h : (!b) = true) : b = false := by cases b <;> first | rfl | cases h
theorem plain_is {x : Expr} (h : plainT x = true) (env : Env) (whole : Sem Value) : isTrue x env whole = (do let v ← whole; standAt x.pos; holding [v] (truthy v)) := by
  cases x with
  | UnaryOp op a p => cases op <;> first | rfl | cases h
  | _ => first | rfl | cases h
structure Snd (c : Cf) (X : Cx) (x : Expr) (e : E) : Prop where
  pe : PE X x (TZ c e)
  pt : PT X x (TZt c e)
  pw : ∀ o ys p, x = .BoolOp o ys p → PW X x (TZt c e)
section
variable {tb : Tb} {c : Cf} {X : Cx} {S : Sc}
theorem Snd.plain {x : Expr} {e : E} (g : Gd tb c X S) (h : plainT x = true) (hp : PE X x (TZ c e)) : Snd c X x e :=
  ⟨hp, s_truth g hp (plain_is h _), fun o ys p q => by subst q; cases h⟩
theorem pt_ifT {t x y : Expr} {p : Pos} {tA tx ty : TT} (hc : PT X t tA) (hx : PT X x tx) (hy : PT X y ty) : PT X (.IfExp t x y p) (fun σ H Q => tA σ H fun k H1 => if k = true then tx σ H1 Q else ty σ H1 Q) := by
  refine ⟨fun pins s σ H Q I h => ?_⟩
  show wpAny _ _ (do if ← isTrue t X.env (eval t X.env) then isTrue x X.env (eval x X.env) else isTrue y X.env (eval y X.env)) _ _ _
  refine wpAny_bind (thn (hc.run pins s σ H _ I h) fun d s1 ⟨H1, I1, q1⟩ => ?_)
  cases d with
  | true => exact hx.run pins s1 σ H1 Q I1 q1
  | false => exact hy.run pins s1 σ H1 Q I1 q1
theorem s_iteT {d a b : E} {t x y : Expr} {p : Pos} (hd : PT X t (TZt c d)) (ha : PT X x (TZt c a)) (hb : PT X y (TZt c b)) : PT X (.IfExp t x y p) (TZt c (.ite d a b)) := by
  refine pt_imp (pt_ifT hd ha hb) fun σ H Q ⟨en, ρ, st, r, w, q⟩ => ?_
  unfold ev at q
  rw [R.bind_assoc] at q
  have q : RSat c.K c.b ρ H st ((ev c.F c.G c.b d en st).bind fun z st => (ofO (ztru st z) st).bind fun k st => if k = true then (ev c.F c.G c.b a en st).bind fun z st => ofO (ztru st z) st else (ev c.F c.G c.b b en st).bind fun z st => ofO (ztru st z) st) (fun k _ _ H' => Q k H') := by
    refine cast (congrArg (fun t => RSat c.K c.b ρ H st t _) ?_) q
    congr 1
    funext z st
    rw [R.bind_assoc]
    congr 1
    funext k st
    cases k <;> rfl
  refine tzt_next r w q fun z k st1 ρ1 H1 e1 s1 w1 r1 he q1 => ?_
  cases k with
  | true => exact ⟨en, ρ1, st1, r1, w1, q1⟩
  | false => exact ⟨en, ρ1, st1, r1, w1, q1⟩
/-- a block of a good context is good -/
theorem Gd.blk (g : Gd tb c X S) (s : Shared) (H : Hp) (scope : Scope) (cl : List (Str × Addr)) (C : Addr) (fp : List Addr) : Gd tb c (X.blk s H scope (compEnvC scope cl C X.env) fp) (blkS S scope) where
  k := g.k
  n := g.n
  sc := by
    show relS scope X.env.scope = relS scope S.sc
    rw [g.sc]
  fnl := fun x h => by
    show (scope.names.lookup x == some .cell) = true
    have := of_decide_eq_true h
    rw [this]
    rfl
  calm := g.calm
  nd := g.nd
  u := g.u
  bi := g.bi
  g := g.g
  fn := fun f h => let ⟨a, fd, d, G', k, m, r, fc⟩ := g.fn f h; ⟨a, fd, d, G', k, m, r, ⟨fc.run, fc.bind, fc.ok, fc.kp⟩⟩
  at_ := g.at_
  me := fun cl m q h => let ⟨c1, a, fd, d, G', k, m, r, fc⟩ := g.me cl m q h; ⟨c1, a, fd, d, G', k, m, r, ⟨fc.run, fc.bind, fc.ok, fc.kp⟩⟩
  mkr := fun cl q h => let ⟨c1, a, fd, d, G', k, m, r, fc⟩ := g.mkr cl q h; ⟨c1, a, fd, d, G', k, m, r, ⟨fc.run, fc.bind, fc.ok, fc.kp⟩⟩
theorem fold_ok {x : Expr} {env : Env} (h : notSet x = true) (v : Value) : foldedSetIterable x env v = pure v := by
  cases x <;> first | rfl | cases h
theorem chkL_star : ∀ {es : List E} {xs : List Expr}, chkL tb S es xs = true → xs.all notStar = true ∧ xs.length = es.length
  | [], [], _ => ⟨rfl, rfl⟩
  | [], _ :: _, h => by unfold chkL at h; cases h
  | _ :: _, [], h => by unfold chkL at h; cases h
  | e :: es, x :: xs, h => by
    unfold chkL at h
    obtain ⟨h1, h2, h3⟩ := and3 h
    obtain ⟨q1, q2⟩ := chkL_star h3
    exact ⟨by rw [List.all_cons, h1, q1]; rfl, by rw [List.length_cons, List.length_cons, q2]⟩
theorem chkL_nil {es : List E} {xs : List Expr} (h : chkL tb S es xs = true) : xs = [] → es = [] := fun e => by
  have := (chkL_star h).2
  rw [e] at this
  cases es with
  | nil => rfl
  | cons _ _ => cases this
end
section
variable {tb : Tb} {c : Cf} {X : Cx} {S : Sc}
theorem rng_1 {es : List E} {args : List Expr} {tg : Expr} {p p2 : Pos} (g : Gd tb c X S) (hg : glC S (Str.ofString "range") = true) (h : es.length = 1) (l : args.all notStar = true ∧ args.length = es.length) (pa : PA X args (TZs c es)) : PI X tg (.Call (.Name (Str.ofString "range") p) args [] p2) (TZI c (.rng es)) := by
  match es, args, h, l, pa with
  | [e], [y], _, l, pa =>
    have := l.1
    simp only [List.all_cons, List.all_nil, Bool.and_true] at this
    exact s_irng1 g hg this pa
  | [e], [], _, l, _ => cases l.2
  | [e], _ :: _ :: _, _, l, _ => cases l.2
theorem rng_2 {es : List E} {args : List Expr} {tg : Expr} {p p2 : Pos} (g : Gd tb c X S) (hg : glC S (Str.ofString "range") = true) (h : es.length = 2) (l : args.all notStar = true ∧ args.length = es.length) (pa : PA X args (TZs c es)) : PI X tg (.Call (.Name (Str.ofString "range") p) args [] p2) (TZI c (.rng es)) := by
  match es, args, h, l, pa with
  | [e, f], [y, z], _, l, pa =>
    have := l.1
    simp only [List.all_cons, List.all_nil, Bool.and_true] at this
    obtain ⟨l1, l2⟩ := and_t this
    exact s_irng2 g hg l1 l2 pa
  | [e, f], [], _, l, _ => cases l.2
  | [e, f], [_], _, l, _ => cases l.2
  | [e, f], _ :: _ :: _ :: _, _, l, _ => cases l.2
end
section
variable {tb : Tb} {c : Cf}
mutual
theorem snd_e : ∀ (e : E) (x : Expr) (X : Cx) (S : Sc), Gd tb c X S → chkE tb S e x = true → Snd c X x e
  | .v i, x, X, S, g, h => by
    unfold chkE at h
    split at h <;> first | cases h | skip
    exact .plain g rfl (s_var g h)
  | .g f, x, X, S, g, h => by
    unfold chkE at h
    split at h <;> first | cases h | skip
    obtain ⟨h1, h2⟩ := and_t h
    have h1 := of_decide_eq_true h1
    subst h1
    exact .plain g rfl (s_glob g h2)
  | .n i, x, X, S, g, h => by
    unfold chkE at h
    split at h <;> first | cases h | skip
    have h := of_decide_eq_true h
    subst h
    exact .plain g rfl (s_const pe_int (fun en st => by unfold ev; rfl) fun ρ H => rep_int.mpr rfl)
  | .s s, x, X, S, g, h => by
    unfold chkE at h
    split at h <;> first | cases h | skip
    obtain ⟨rfl, h2⟩ := strOkC_ok h
    exact .plain g rfl (s_const pe_str (fun en st => by unfold ev; rfl) fun ρ H => rep_str.mpr ⟨rfl, h2⟩)
  | .t b, x, X, S, g, h => by
    unfold chkE at h
    split at h <;> first | cases h | skip
    have h := of_decide_eq_true h
    subst h
    exact .plain g rfl (s_const pe_bl (fun en st => by unfold ev; rfl) fun ρ H => rep_bl.mpr rfl)
  | .non, x, X, S, g, h => by
    unfold chkE at h
    split at h <;> first | cases h | skip
    exact .plain g rfl (s_const pe_non (fun en st => by unfold ev; rfl) fun ρ H => rep_non.mpr rfl)
  | .bin o a b, x, X, S, g, h => by
    unfold chkE at h
    split at h <;> first | cases h | skip
    obtain ⟨h1, h2, h3⟩ := and3 h
    have h1 := of_decide_eq_true h1
    subst h1
    exact .plain g rfl (s_bin g (snd_e a _ X S g h2).pe (snd_e b _ X S g h3).pe)
  | .neg a, x, X, S, g, h => by
    unfold chkE at h
    split at h <;> first | cases h | skip
    exact .plain g rfl (s_neg (snd_e a _ X S g h).pe)
  | .nt a, x, X, S, g, h => by
    unfold chkE at h
    split at h <;> first | cases h | skip
    have q := snd_e a _ X S g h
    exact ⟨s_not g q.pe, s_notT q.pt, fun _ _ _ e => nomatch e⟩
  | .cmp o a b, x, X, S, g, h => by
    unfold chkE at h
    split at h <;> first | cases h | skip
    obtain ⟨h, h4⟩ := and_t h
    obtain ⟨h1, h2, h3⟩ := and3 h
    have h1 := of_decide_eq_true h1
    subst h1
    have qa := (snd_e a _ X S g h3).pe
    have qb := (snd_e b _ X S g h4).pe
    exact ⟨s_cmp g (ntrue h2) qa qb, s_cmpT g (ntrue h2) qa qb, fun _ _ _ e => nomatch e⟩
  | .ch o p a b d, x, X, S, g, h => by
    unfold chkE at h
    split at h <;> first | cases h | skip
    obtain ⟨h, h6⟩ := and_t h
    obtain ⟨h, h5⟩ := and_t h
    obtain ⟨h, h4⟩ := and_t h
    obtain ⟨h1, h2, h3⟩ := and3 h
    have h1 := of_decide_eq_true h1
    have h2 := of_decide_eq_true h2
    subst h1
    subst h2
    have qa := (snd_e a _ X S g h4).pe
    have qb := (snd_e b _ X S g h5).pe
    have qd := (snd_e d _ X S g h6).pe
    exact ⟨s_ch g (ntrue h3) qa qb qd, s_chT g (ntrue h3) qa qb qd, fun _ _ _ e => nomatch e⟩
  | .an a b, x, X, S, g, h => by
    unfold chkE at h
    split at h <;> first | cases h | skip
    obtain ⟨h1, h2⟩ := and_t h
    have qa := snd_e a _ X S g h1
    split at h2
    · have qb := snd_e b _ X S g h2
      have w := fun p => s_andT (p := p) qa.pt (pw_and1 (pos := p) qb.pt)
      exact ⟨s_and g qa.pe (pe_one qb.pe), (w _).pt, fun _ _ _ _ => w _⟩
    · have qb := snd_e b _ X S g h2
      have w := s_andT qa.pt (qb.pw _ _ _ rfl)
      exact ⟨s_and g qa.pe qb.pe, w.pt, fun _ _ _ _ => w⟩
  | .or a b, x, X, S, g, h => by
    unfold chkE at h
    split at h <;> first | cases h | skip
    obtain ⟨h1, h2⟩ := and_t h
    have qa := snd_e a _ X S g h1
    split at h2
    · have qb := snd_e b _ X S g h2
      have w := fun p => s_orT (p := p) qa.pt (pw_or1 (pos := p) qb.pt)
      exact ⟨s_or g qa.pe (pe_one qb.pe), (w _).pt, fun _ _ _ _ => w _⟩
    · have qb := snd_e b _ X S g h2
      have w := s_orT qa.pt (qb.pw _ _ _ rfl)
      exact ⟨s_or g qa.pe qb.pe, w.pt, fun _ _ _ _ => w⟩
  | .ite d a b, x, X, S, g, h => by
    unfold chkE at h
    split at h <;> first | cases h | skip
    obtain ⟨h1, h2, h3⟩ := and3 h
    have qd := snd_e d _ X S g h1
    have qa := snd_e a _ X S g h2
    have qb := snd_e b _ X S g h3
    exact ⟨s_ite qd.pt qa.pe qb.pe, s_iteT qd.pt qa.pt qb.pt, fun _ _ _ e => nomatch e⟩
  | .lst k es, x, X, S, g, h => by
    unfold chkE at h
    split at h <;> first | cases h | skip
    obtain ⟨h1, h2⟩ := and_t h
    exact .plain g rfl (s_lst (of_decide_eq_true h1) (snd_l es _ X S g h2))
  | .tup es, x, X, S, g, h => by
    unfold chkE at h
    split at h <;> first | cases h | skip
    obtain ⟨h1, h2⟩ := and_t h
    exact .plain g rfl (s_tup (of_decide_eq_true h1) (snd_l es _ X S g h2))
  | .lc k ws e t i cd, x, X, S, g, h => by
    unfold chkE at h
    split at h <;> first | cases h | skip
    obtain ⟨h, h8⟩ := and_t h
    obtain ⟨h, h7⟩ := and_t h
    obtain ⟨h, h6⟩ := and_t h
    obtain ⟨h, h5⟩ := and_t h
    obtain ⟨h, h4⟩ := and_t h
    obtain ⟨h1, h2, h3⟩ := and3 h
    have h4 := of_decide_eq_true h4
    refine .plain g rfl (pe_imp (pe_lc g.calm g.nd (snd_i i _ _ X S g h2) (blkOk_by (own := ownOf S.N ws) (by rw [g.n, g.sc]; exact h3))
      (fun s H C cl fp => s_tg (g.blk s H _ cl C fp) t _ h6) (fun s H C cl fp => snd_c cd _ _ _ (g.blk s H _ cl C fp) h8)
      (fun s H C cl fp => (snd_e e _ _ _ (g.blk s H _ cl C fp) h7).pe) (fold_ok h1)) fun σ H Q q => ?_)
    rw [h4]
    exact lc_read (fun j hj => of_decide_eq_true (List.all_eq_true.mp h5 j hj)) σ H Q q
  | .lc2 k ws ws2 e t i t2 i2 cd, x, X, S, g, h => by
    unfold chkE at h
    split at h <;> first | cases h | skip
    obtain ⟨h, h13⟩ := and_t h
    obtain ⟨h, h12⟩ := and_t h
    obtain ⟨h, h11⟩ := and_t h
    obtain ⟨h, h10⟩ := and_t h
    obtain ⟨h, h9⟩ := and_t h
    obtain ⟨h, h8⟩ := and_t h
    obtain ⟨h, h7⟩ := and_t h
    obtain ⟨h, h6⟩ := and_t h
    obtain ⟨h, h5⟩ := and_t h
    obtain ⟨h, h4⟩ := and_t h
    obtain ⟨h1, h2, h3⟩ := and3 h
    have h5 := of_decide_eq_true h5
    refine .plain g rfl (pe_imp (pe_lc2 (vs1 := ws2) g.calm g.nd (snd_i i _ _ X S g h3) (blkOk_by (own := ownOf S.N ws) (by rw [g.n, g.sc]; exact h4)) (fun i hi => by rw [h5]; exact of_decide_eq_true (List.all_eq_true.mp h6 i hi))
      (fun s H C cl fp => s_tg (g.blk s H _ cl C fp) t _ h9) (fun s H C cl fp => pts_nil)
      (fun s H C cl fp => snd_i i2 _ _ _ _ (g.blk s H _ cl C fp) h10) (fun s H C cl fp => s_tg (g.blk s H _ cl C fp) t2 _ h11) (fun s H C cl fp => snd_c cd _ _ _ (g.blk s H _ cl C fp) h13)
      (fun s H C cl fp => (snd_e e _ _ _ (g.blk s H _ cl C fp) h12).pe) (fold_ok h1) (fun env v => fold_ok h2 v)) fun σ H Q q => ?_)
    rw [h5]
    exact lc2_read (fun j hj => of_decide_eq_true (List.all_eq_true.mp h7 j hj)) (fun j hj => of_decide_eq_true (List.all_eq_true.mp h8 j hj)) σ H Q q
  | .ix a i, x, X, S, g, h => by
    unfold chkE at h
    split at h <;> first | cases h | skip
    obtain ⟨h1, h2, h3⟩ := and3 h
    exact .plain g rfl (s_ix g h1 (snd_e a _ X S g h2).pe (snd_e i _ X S g h3).pe)
  | .sl k a lo hi, x, X, S, g, h => by
    unfold chkE at h
    split at h <;> first | cases h | skip
    obtain ⟨h1, h2, h3⟩ := and3 h
    exact .plain g rfl (s_sl g (snd_e a _ X S g h1).pe (snd_o lo _ X S g h2) (snd_o hi _ X S g h3))
  | .rv k a, x, X, S, g, h => by
    unfold chkE at h
    split at h <;> first | cases h | skip
    exact .plain g rfl (s_rv g (snd_e a _ X S g h).pe)
  | .fd a cl f, x, X, S, g, h => by
    unfold chkE at h
    split at h <;> first | cases h | skip
    obtain ⟨h, h4⟩ := and_t h
    obtain ⟨h1, h2, h3⟩ := and3 h
    have h1 := of_decide_eq_true h1
    subst h1
    exact .plain g rfl (s_fd g h2 h3 (snd_e a _ X S g h4).pe)
  | .call f es kes ks, x, X, S, g, h => by
    unfold chkE at h
    split at h <;> first | cases h | skip
    obtain ⟨h, h5⟩ := and_t h
    obtain ⟨h, h4⟩ := and_t h
    obtain ⟨h1, h2, h3⟩ := and3 h
    have h1 := of_decide_eq_true h1
    subst h1
    exact .plain g rfl (s_call g h2 h3 (chkL_star h4).1 (chkL_nil h4) (snd_l es _ X S g h4) (snd_k kes ks _ X S g h5) h5)
  | .me cl m q o es kes ks, x, X, S, g, h => by
    unfold chkE at h
    split at h <;> first | cases h | skip
    obtain ⟨h, h8⟩ := and_t h
    obtain ⟨h, h7⟩ := and_t h
    obtain ⟨h, h6⟩ := and_t h
    obtain ⟨h, h5⟩ := and_t h
    obtain ⟨h, h4⟩ := and_t h
    obtain ⟨h1, h2, h3⟩ := and3 h
    have h1 := of_decide_eq_true h1
    subst h1
    exact .plain g rfl (s_me g h3 (of_decide_eq_true h2) (of_decide_eq_true h4) h5 (chkL_star h7).1 (chkL_nil h7) (snd_e o _ X S g h6).pe (snd_l es _ X S g h7) (snd_k kes ks _ X S g h8) h8)
  | .mk kk cl q es kes ks, x, X, S, g, h => by
    unfold chkE at h
    split at h <;> first | cases h | skip
    obtain ⟨h, h5⟩ := and_t h
    obtain ⟨h, h4⟩ := and_t h
    obtain ⟨h1, h2, h3⟩ := and3 h
    have h1 := of_decide_eq_true h1
    subst h1
    exact .plain g rfl (s_mk g h2 h3 (chkL_star h4).1 (chkL_nil h4) (snd_l es _ X S g h4) (snd_k kes ks _ X S g h5) h5)
  | .bf k f es, x, X, S, g, h => by
    unfold chkE at h
    split at h <;> first | cases h | skip
    obtain ⟨h1, h2, h3⟩ := and3 h
    have h1 := of_decide_eq_true h1
    subst h1
    exact .plain g rfl (s_bf g h2 (chkL_star h3).1 (snd_l es _ X S g h3))
  | .isi a Ts, x, X, S, g, h => by
    unfold chkE at h
    split at h <;> first | cases h | skip
    obtain ⟨h, h7⟩ := and_t h
    obtain ⟨h, h6⟩ := and_t h
    obtain ⟨h, h5⟩ := and_t h
    obtain ⟨h, h4⟩ := and_t h
    obtain ⟨h1, h2, h3⟩ := and3 h
    have h1 := of_decide_eq_true h1
    subst h1
    exact .plain g rfl (s_isi g h2 h3 (of_decide_eq_true h4) (of_decide_eq_true h5) (snd_e a _ X S g h6).pe h7)
  | .bm m o es, x, X, S, g, h => by
    unfold chkE at h
    split at h <;> first | cases h | skip
    obtain ⟨h, h6⟩ := and_t h
    obtain ⟨h, h5⟩ := and_t h
    obtain ⟨h, h4⟩ := and_t h
    obtain ⟨h1, h2, h3⟩ := and3 h
    have h1 := of_decide_eq_true h1
    subst h1
    exact .plain g rfl (s_bm g h3 (of_decide_eq_true h2) (of_decide_eq_true h4) (chkL_star h6).1 (snd_e o _ X S g h5).pe (snd_l es _ X S g h6) (chkL_nil h6))
  | .fz a, x, X, S, g, h => by
    unfold chkE at h
    obtain ⟨h1, h2⟩ := and_t h
    exact .plain g h1 (s_fz (snd_e a _ X S g h2).pe)
  | .sm m o es, x, X, S, g, h => by
    unfold chkE at h
    split at h <;> first | cases h | skip
    obtain ⟨h, h6⟩ := and_t h
    obtain ⟨h, h5⟩ := and_t h
    obtain ⟨h, h4⟩ := and_t h
    obtain ⟨h1, h2, h3⟩ := and3 h
    have h1 := of_decide_eq_true h1
    subst h1
    exact .plain g rfl (s_sm g h3 (of_decide_eq_true h2) h4 (snd_e o _ X S g h5).pe (snd_l es _ X S g h6))
  | .tz a b, x, X, S, g, h => by
    unfold chkE at h
    split at h <;> first | cases h | skip
    obtain ⟨h, h8⟩ := and_t h
    obtain ⟨h, h7⟩ := and_t h
    obtain ⟨h, h6⟩ := and_t h
    obtain ⟨h, h5⟩ := and_t h
    obtain ⟨h, h4⟩ := and_t h
    obtain ⟨h1, h2, h3⟩ := and3 h
    have h1 := of_decide_eq_true h1
    have h3 := of_decide_eq_true h3
    subst h1 h3
    exact .plain g rfl (s_tz g h2 h4 h5 h6 (snd_e a _ X S g h7).pe (snd_e b _ X S g h8).pe)
  | .lrg t k es, x, X, S, g, h => by
    unfold chkE at h
    split at h <;> first | cases h | skip
    obtain ⟨h, h6⟩ := and_t h
    obtain ⟨h, h5⟩ := and_t h
    obtain ⟨h, h4⟩ := and_t h
    obtain ⟨h1, h2, h3⟩ := and3 h
    have h1 := of_decide_eq_true h1
    have h3 := of_decide_eq_true h3
    subst h1 h3
    refine .plain g rfl (s_lrg g h2 h4 ?_ (chkL_star h6).1 (chkL_star h6).2 (snd_l es _ X S g h6))
    rcases Bool.or_eq_true_iff.mp h5 with h | h
    · exact .inl (of_decide_eq_true h)
    · exact .inr (of_decide_eq_true h)
theorem snd_l : ∀ (es : List E) (xs : List Expr) (X : Cx) (S : Sc), Gd tb c X S → chkL tb S es xs = true → PA X xs (TZs c es)
  | [], [], X, S, g, h => s_nil
  | [], _ :: _, X, S, g, h => by unfold chkL at h; cases h
  | _ :: _, [], X, S, g, h => by unfold chkL at h; cases h
  | e :: es, x :: xs, X, S, g, h => by
    unfold chkL at h
    obtain ⟨h1, h2, h3⟩ := and3 h
    exact s_cons (snd_e e x X S g h2).pe (snd_l es xs X S g h3) h1
theorem snd_k : ∀ (es : List E) (ks : List String) (xs : List Keyword) (X : Cx) (S : Sc), Gd tb c X S → chkK tb S es ks xs = true → L2.PK X xs (TZs c es)
  | [], [], [], X, S, g, h => s_knil
  | [], _ :: _, _, X, S, g, h => by unfold chkK at h; cases h
  | [], [], _ :: _, X, S, g, h => by unfold chkK at h; cases h
  | e :: es, [], _, X, S, g, h => by unfold chkK at h; cases h
  | e :: es, k :: ks, [], X, S, g, h => by unfold chkK at h; cases h
  | e :: es, k :: ks, ⟨none, x, p⟩ :: xs, X, S, g, h => by unfold chkK at h; cases h
  | e :: es, k :: ks, ⟨some n, x, p⟩ :: xs, X, S, g, h => by
    unfold chkK at h
    obtain ⟨h1, h2, h3⟩ := and3 h
    exact s_kcons (snd_e e x X S g h2).pe (snd_k es ks xs X S g h3)
theorem snd_o : ∀ (o : Option E) (x : Option Expr) (X : Cx) (S : Sc), Gd tb c X S → chkO tb S o x = true → PO X x (TZo c o)
  | none, none, X, S, g, h => s_onone
  | none, some _, X, S, g, h => by unfold chkO at h; cases h
  | some _, none, X, S, g, h => by unfold chkO at h; cases h
  | some e, some x, X, S, g, h => by
    unfold chkO at h
    exact s_osome (snd_e e x X S g h).pe
theorem snd_c : ∀ (o : Option E) (x : List Expr) (X : Cx) (S : Sc), Gd tb c X S → chkC tb S o x = true → PTs X x (TZc c o)
  | none, [], X, S, g, h => pts_imp pts_nil fun σ H Q ⟨en, ρ, st, r, w, q⟩ => by
    unfold evc at q
    exact q.ok_inv w
  | none, _ :: _, X, S, g, h => by unfold chkC at h; cases h
  | some e, [], X, S, g, h => by unfold chkC at h; cases h
  | some e, _ :: _ :: _, X, S, g, h => by unfold chkC at h; cases h
  | some e, [x], X, S, g, h => by
    unfold chkC at h
    refine pts_imp (pts_one (snd_e e x X S g h).pt) fun σ H Q ⟨en, ρ, st, r, w, q⟩ => ?_
    unfold evc at q
    exact ⟨en, ρ, st, r, w, q⟩
theorem snd_i : ∀ (i : I) (x tg : Expr) (X : Cx) (S : Sc), Gd tb c X S → chkI tb S i x tg = true → PI X tg x (TZI c i)
  | .e a, x, tg, X, S, g, h => by
    unfold chkI at h
    exact s_ie g (snd_e a x X S g h).pe
  | .rng es, x, tg, X, S, g, h => by
    unfold chkI at h
    split at h <;> first | cases h | skip
    obtain ⟨h, h4⟩ := and_t h
    obtain ⟨h1, h2, h3⟩ := and3 h
    have h1 := of_decide_eq_true h1
    subst h1
    rcases Bool.or_eq_true_iff.mp h3 with h3 | h3
    · exact rng_1 g h2 (of_decide_eq_true h3) (chkL_star h4) (snd_l es _ X S g h4)
    · exact rng_2 g h2 (of_decide_eq_true h3) (chkL_star h4) (snd_l es _ X S g h4)
  | .enum a, x, tg, X, S, g, h => by
    unfold chkI at h
    split at h <;> first | cases h | skip
    obtain ⟨h, h4⟩ := and_t h
    obtain ⟨h1, h2, h3⟩ := and3 h
    have h1 := of_decide_eq_true h1
    subst h1
    exact s_ienum g h2 h3 (snd_e a _ X S g h4).pe
  | .zip a b, x, tg, X, S, g, h => by
    unfold chkI at h
    split at h <;> first | cases h | skip
    obtain ⟨h, h6⟩ := and_t h
    obtain ⟨h, h5⟩ := and_t h
    obtain ⟨h, h4⟩ := and_t h
    obtain ⟨h1, h2, h3⟩ := and3 h
    have h1 := of_decide_eq_true h1
    subst h1
    exact s_izip g h2 h3 h4 (snd_e a _ X S g h5).pe (snd_e b _ X S g h6).pe
end
end
end ZZ

end
section
set_option maxHeartbeats 4000000
/-! ZStm: statements. -/
namespace ZZ
open PySem PySem.Spec PyProof.Rows L2
/-! ### the checks -/
def namesAt (sc : Scope) (line : Nat) (ts : List Expr) : List Str := ts.filterMap fun
    | .Name id pos => if sc.names.lookup id == some .local && pos.line == line then some id else none
    | _ => none
def isStar : Expr → Bool
  | .Starred .. => true
  | _ => false
def lineOf (ts : List Expr) : Nat := (ts.head?.map (fun (x : Expr) => x.pos.line)).getD 0
def swSt (S : Sc) (ts vs : List Expr) : Option (Option (List Str)) :=
  if !(ts.length == 2 || ts.length == 3) || vs.length != ts.length then some none else
  if vs.any isStar then some none else
  let names := namesAt S.sc (lineOf ts) ts
  if names.length != ts.length || names.eraseDups.length != names.length then some none else
  if vs.all (foldedForSure 8) then some none else
  if vs.all (constantsAlone 8) then none else some (some names)
theorem swSt_ok {S : Sc} {ts vs : List Expr} {r : Option (List Str)} {env : Env} {a c : Nat} {b d : Pos} (hs : env.scope = S.sc) (hk : env.scope.kind = .function) (h : swSt S ts vs = some r) : swappedStores [.Tuple ts a b] (.Tuple vs c d) env = pure r := by
  have hb : env.blockKind = .function := by unfold Env.blockKind; rw [hk]; rfl
  unfold swSt at h
  unfold swappedStores
  simp only [hb]
  change (if (!(ts.length == 2 || ts.length == 3) || vs.length != ts.length || ScopeKind.function != ScopeKind.function) = true then pure none else
    if vs.any isStar = true then pure none else
    if ((namesAt env.scope (lineOf ts) ts).length != ts.length || (namesAt env.scope (lineOf ts) ts).eraseDups.length != (namesAt env.scope (lineOf ts) ts).length) = true then pure none else
    if vs.all (foldedForSure 8) = true then pure none else
    if vs.all (constantsAlone 8) = true then (do unsupported "assign.tuple-of-constant-expressions:order-of-the-stores"; pure (some (namesAt env.scope (lineOf ts) ts))) else pure (some (namesAt env.scope (lineOf ts) ts))) = pure r
  rw [hs]
  by_cases c1 : (!(ts.length == 2 || ts.length == 3) || vs.length != ts.length) = true
  · rw [if_pos c1] at h
    cases h
    rw [if_pos (by rw [c1]; rfl)]
  · rw [if_neg c1] at h
    rw [if_neg (by
      intro q
      rcases Bool.or_eq_true_iff.mp q with q | q
      · exact c1 q
      · cases q)]
    by_cases c2 : vs.any isStar = true
    · rw [if_pos c2] at h ⊢
      cases h; rfl
    · rw [if_neg c2] at h ⊢
      by_cases c3 : ((namesAt S.sc (lineOf ts) ts).length != ts.length || (namesAt S.sc (lineOf ts) ts).eraseDups.length != (namesAt S.sc (lineOf ts) ts).length) = true
      · simp only [c3, if_true] at h ⊢
        cases h; rfl
      · simp only [c3] at h ⊢
        by_cases c4 : vs.all (foldedForSure 8) = true
        · simp only [c4, if_true] at h ⊢
          simp at h
          rw [← h]
          rfl
        · simp only [c4] at h ⊢
          by_cases c5 : vs.all (constantsAlone 8) = true
          · simp [c5] at h
          · simp only [c5] at h ⊢
            simp at h
            rw [← h]
            rfl
def isComp : Expr → Bool
  | .ListComp _ _ _ _ => true
  | .SetComp _ _ _ _ => true
  | .DictComp _ _ _ _ _ => true
  | _ => false
theorem noSw {v : Expr} {t : Option Expr} {l : Nat} {env : Env} (h : isComp v = false) : swapsWith v t l env = pure false := by
  cases v <;> first | rfl | cases h
def notTup : Expr → Bool
  | .Tuple _ _ _ => false
  | _ => true
def notName : Expr → Bool
  | .Name _ _ => false
  | _ => true
theorem noSwT {v t : Expr} {l : Nat} {env : Env} (h : notName t = true) : swapsWithSole [t] v l env = pure false := by
  show swapsWith v (some t) l env = pure false
  cases v <;> cases t <;> first | rfl | cases h
/-- the list made by a comprehension on the name's own line goes to the name at once -/
def swB (S : Sc) (y : Str) (py : Pos) (pos : Pos) (scope : Scope) : Bool := decide (S.sc.names.lookup y = some .local) && (py.line == pos.line) && !(scope.names.any fun (n, k) => n == y && (k == .local || k == .cell))
theorem swB_ok {S : Sc} {env : Env} {y : Str} {py pos : Pos} {scope : Scope} {elt : Expr} {gs : List Comprehension} {l : Nat} (hs : env.scope = S.sc) (hk : env.scope.kind = .function) : swapsWith (.ListComp elt gs scope pos) (some (.Name y py)) l env = pure (swB S y py pos scope) := by
  have hb : env.blockKind = .function := by unfold Env.blockKind; rw [hk]; rfl
  have hy : env.kindOf y = S.sc.names.lookup y := by unfold Env.kindOf; rw [hs]
  unfold swapsWith swB
  simp only [hb, hy, Expr.pos]
  show pure _ = pure _
  congr 1
  cases h : S.sc.names.lookup y with
  | none => rfl
  | some k => cases k <;> simp
def lcPos : Expr → Option (Pos × Scope)
  | .ListComp _ _ s p => some (p, s)
  | _ => none
def augOk : BOp → Bool
  | .add => true
  | .sub => true
  | _ => false
section
variable (tb : Tb)
/-- to a name -/
def chkSet (S : Sc) (i : Nat) (e : E) (y : Str) (py : Pos) (v : Expr) : Bool := decide (S.N[i]? = some y) && stC S y && chkE tb S e v && (match lcPos v with
  | some (p, s) => (swB S y py p s && (match e with
    | .lc _ _ _ _ _ _ => true
    | .lc2 _ _ _ _ _ _ _ _ _ => true
    | _ => false)) || !(swB S y py p s)
  | none => !(isComp v))
/-- to a tuple of targets -/
def chkTupA (S : Sc) (ts : List Expr) (v : Expr) : Bool := match v with
  | .Tuple vs _ _ => (match swSt S ts vs with
    | some none => true
    | _ => false)
  | _ => true
/-- plain names, stored from the right -/
def chkPar (S : Sc) (ts : List T) (es : List E) (tgs vs : List Expr) : Bool := match ts, es, tgs, vs with
  | [.v i, .v j], [a, b], [.Name x _, .Name y _], [v, w] => decide (S.N[i]? = some x) && decide (S.N[j]? = some y) && decide (i ≠ j) && decide (S.sc.names.lookup x = some .local) && decide (S.sc.names.lookup y = some .local) && chkL tb S [a, b] [v, w] && decide (swSt S tgs vs = some (some [x, y]))
  | [.v i, .v j, .v l], [a, b, d], [.Name x _, .Name y _, .Name z _], [v, w, u] => decide (S.N[i]? = some x) && decide (S.N[j]? = some y) && decide (S.N[l]? = some z) && decide (i ≠ j) && decide (i ≠ l) && decide (j ≠ l) && decide (S.sc.names.lookup x = some .local) && decide (S.sc.names.lookup y = some .local) && decide (S.sc.names.lookup z = some .local) && chkL tb S [a, b, d] [v, w, u] && decide (swSt S tgs vs = some (some [x, y, z]))
  | _, _, _, _ => false
/-- self.f = .. targets -/
def chkFs (S : Sc) (i : Nat) (c : String) : List String → List Expr → Bool
  | [], [] => true
  | f :: fs, .Attribute (.Name x _) g _ :: xs => decide (g = Str.ofString f) && nameC S i x && tb.at_ c f && chkFs S i c fs xs
  | _, _ => false
/-- a, *b, c = .. targets: j is how far the starred one is -/
def chkStarN (S : Sc) : List Nat → List Expr → Bool
  | [], xs => xs.isEmpty
  | i :: is, xs => (match xs with
    | .Name x _ :: xs => decide (S.N[i]? = some x) && stC S x && chkStarN S is xs
    | _ => false)
def chkStar (S : Sc) : List Nat → Nat → List Expr → Bool
  | [], _, _ => false
  | i :: is, 0, xs => (match xs with
    | .Starred (.Name x _) _ :: xs => decide (S.N[i]? = some x) && stC S x && chkStarN S is xs
    | _ => false)
  | i :: is, j + 1, xs => (match xs with
    | .Name x _ :: xs => decide (S.N[i]? = some x) && stC S x && chkStar S is j xs
    | _ => false)
mutual
def chkS (S : Sc) : ZZ.S → Stmt → Bool
  | .asg (.t (.v i)) e, x => (match x with
    | .Assign [.Name y py] v _ => chkSet tb S i e y py v
    | _ => false)
  | .asg (.t (.tup ts)) e, x => (match x with
    | .Assign [.Tuple tgs k tp] v _ => (chkTupA S tgs v && chkT S (.tup ts) (.Tuple tgs k tp) && chkE tb S e v) || (match e, v with
      | .tup es, .Tuple vs _ _ => chkPar tb S ts es tgs vs
      | _, _ => false)
    | _ => false)
  | .asg (.ix a i) e, x => (match x with
    | .Assign [.Subscript o j _] v _ => notSlice j && chkE tb S a o && chkE tb S i j && chkE tb S e v
    | _ => false)
  | .asg (.fd _ _ _) _, _ => false
  | .asgS _ is i e, x => (match x with
    | .Assign [.Tuple tgs _ _] v _ => chkStar S is i tgs && decide (i < is.length) && notTup v && chkE tb S e v
    | _ => false)
  | .asgF i cl fs es, x => (match x with
    | .Assign [.Attribute (.Name y py) g gp] v _ => (match fs, es with
      | [f], [e] => chkFs tb S i cl [f] [.Attribute (.Name y py) g gp] && chkE tb S e v
      | _, _ => false)
    | .Assign [.Tuple tgs _ _] (.Tuple vs _ _) _ => chkTupA S tgs (.Tuple vs 0 ⟨0, 0, 0, 0⟩) && decide (es.length ≤ 1000) && chkFs tb S i cl fs tgs && chkL tb S es vs
    | _ => false)
  | .aug i o e, x => (match x with
    | .AugAssign (.Name y _) op v _ => decide (op = bopOf o) && augOk o && decide (S.N[i]? = some y) && stC S y && chkE tb S e v
    | _ => false)
  | .augix _ _ _ _, _ => false
  | .ex e, x => (match x with
    | .Expr v _ => !(isComp v) && chkE tb S e v
    | _ => false)
  | .ret none, x => (match x with
    | .Return none _ => true
    | _ => false)
  | .ret (some e), x => (match x with
    | .Return (some v) _ => chkE tb S e v
    | _ => false)
  | .ife e a b, x => (match x with
    | .If c xs ys _ => chkE tb S e c && chkSs S a xs && chkSs S b ys
    | _ => false)
  | .fo t i b, x => (match x with
    | .For tg it body [] _ => notSet it && chkI tb S i it tg && chkT S t tg && chkSs S b body
    | _ => false)
  | .wh e b, x => (match x with
    | .While c body [] _ => chkE tb S e c && chkSs S b body
    | _ => false)
  | .brk, x => (match x with
    | .Break _ => true
    | _ => false)
  | .cont, x => (match x with
    | .Continue _ => true
    | _ => false)
  | .pass, x => (match x with
    | .Pass _ => true
    | _ => false)
  | .fz _, _ => false
  | .raise _ _, _ => true
  | .never, _ => true
def chkSs (S : Sc) : List ZZ.S → List Stmt → Bool
  | [], [] => true
  | .fz _ :: ss, xs => chkSs S ss xs
  | s :: ss, xs => (match xs with
    | x :: xs => chkS S s x && chkSs S ss xs
    | [] => false)
  | [], _ :: _ => false
end
end
end ZZ

end
section
set_option maxHeartbeats 4000000
/-! ZStm2: what the statements' checks give. -/
namespace ZZ
open PySem PySem.Spec PyProof.Rows L2
def EndsZ (c : Cf) (D : Ends) (fl : Fl) (_ : Sto) (ρ : Ro) (H : Hp) : Prop := match fl with
  | .nx en => ∀ σ, RepE c.K ρ H en σ → D.nx σ H
  | .rt z => ∀ v, Rep c.K ρ H z v → D.rt v H
  | .bk en => ∀ σ, RepE c.K ρ H en σ → D.bk σ H
  | .ct en => ∀ σ, RepE c.K ρ H en σ → D.ct σ H
def TS1 (c : Cf) (N : Nat) (s : S) : TS := fun D σ H => ∃ en ρ st, RepE c.K ρ H en σ ∧ Wd c.K ρ st H ∧ RSat c.K c.b ρ H st (ex c.F c.G c.b N s en st) (EndsZ c D)
def TSs (c : Cf) (N : Nat) (s : List S) : TS := fun D σ H => ∃ en ρ st, RepE c.K ρ H en σ ∧ Wd c.K ρ st H ∧ RSat c.K c.b ρ H st (exs c.F c.G c.b N s en st) (EndsZ c D)
theorem ps_imp {X : Cx} {e : Stmt} {t t' : TS} (h : PS X e t) (k : ∀ D σ H, t' D σ H → t D σ H) : PS X e t' := ⟨fun pins s σ H D I q => h.run pins s σ H D I (k D σ H q)⟩
theorem pss_imp {X : Cx} {e : List Stmt} {t t' : TS} (h : PSs X e t) (k : ∀ D σ H, t' D σ H → t D σ H) : PSs X e t' := ⟨fun pins s σ H D I q => h.run pins s σ H D I (k D σ H q)⟩
/-- an Inv at hand -/
theorem ps_inv {X : Cx} {e : Stmt} {t : TS} (h : X.env.scope.kind = .function → PS X e t) : PS X e t := ⟨fun pins s σ H D I q => (h I.ok.kind).run pins s σ H D I q⟩
theorem RSat.base {α : Type} {K : PySem.W.Frag} {b : Nat} {ρ ρ1 : Ro} {H H1 : Hp} {st st1 : Sto} {r : R α} {P : α → Sto → Ro → Hp → Prop} (h : RSat K b ρ H st r P) (e : Evo ρ H ρ1 H1) (s : Sub b st st1) : RSat K b ρ1 H1 st1 r P := by
  cases r with
  | ok a st2 => exact fun ρ2 H2 e2 s2 w2 => h ρ2 H2 (e.trans e2) (s.trans s2) w2
  | exn _ _ _ => exact h.elim
  | no => exact h.elim
section
variable {tb : Tb} {c : Cf} {X : Cx} {S : Sc} {N : Nat}
theorem rd_set {i : Nat} {e : E} : ∀ D σ H, TS1 c N (.asg (.t (.v i)) e) D σ H → tAsg (TZ c e) (gName i) D σ H := by
  intro D σ H ⟨en, ρ, st, r, w, q⟩
  unfold ex at q
  show TZ c e σ H fun x H1 => D.nx (σ.set i (some x)) H1
  refine tz_next r w q fun z st1 ρ1 H1 v e1 s1 w1 r1 hv q1 => ?_
  have q2 : RSat c.K c.b ρ1 H1 st1 (.ok (.nx (en.set i (some z))) st1) (EndsZ c D) := by
    have q1 := q1
    unfold bindT at q1
    exact q1
  exact q2.ok_inv w1 _ (r1.set hv i)
theorem rd_asg {t : T} {e : E} : ∀ D σ H, TS1 c N (.asg (.t t) e) D σ H → tAsg (TZ c e) (TZg c t) D σ H := by
  intro D σ H ⟨en, ρ, st, r, w, q⟩
  unfold ex at q
  refine tz_next r w q fun z st1 ρ1 H1 v e1 s1 w1 r1 hv q1 => ?_
  have q1 : RSat c.K c.b ρ1 H1 st1 (ofO ((bindT t z en).map .nx) st1) (EndsZ c D) := q1
  cases h : bindT t z en with
  | none => rw [h] at q1; exact q1.elim
  | some en1 =>
    rw [h] at q1
    have q2 : RSat c.K c.b ρ1 H1 st1 (.ok (.nx en1) st1) (EndsZ c D) := q1
    exact ⟨z, en, en1, ρ1, st1, hv, r1, w1, h, fun σ' r' _ => q2.ok_inv w1 σ' r'⟩
theorem s_set_lc {i : Nat} {k : Bool} {ws : List Nat} {e : E} {t : T} {ii : I} {cd : Option E} {y : Str} {py p pp : Pos} {elt : Expr} {gs : List Comprehension} {ss : Scope} (g : Gd tb c X S) (h1 : X.N[i]? = some y) (hyl : X.env.scope.names.lookup y = some .local)
    (sw : ∀ l, swapsWith (.ListComp elt gs ss pp) (some (.Name y py)) l X.env = pure true) (h3 : chkE tb S (.lc k ws e t ii cd) (.ListComp elt gs ss pp) = true) : PS X (.Assign [.Name y py] (.ListComp elt gs ss pp) p) (TS1 c N (.asg (.t (.v i)) (.lc k ws e t ii cd))) := by
  unfold chkE at h3
  split at h3 <;> first | cases h3 | skip
  rename_i heq
  injection heq with q1 q2 q3 q4
  subst q1 q2 q3 q4
  obtain ⟨h, h8⟩ := and_t h3
  obtain ⟨h, h7⟩ := and_t h
  obtain ⟨h, h6⟩ := and_t h
  obtain ⟨h, h5⟩ := and_t h
  obtain ⟨h, h4⟩ := and_t h
  obtain ⟨g1, g2, g3⟩ := and3 h
  have h4 := of_decide_eq_true h4
  refine ps_imp (ps_setLc g.calm g.nd h1 hyl (sw _) (snd_i ii _ _ X S g g2) (blkOk_by (own := ownOf S.N ws) (by rw [g.n, g.sc]; exact g3))
    (fun s H C cl fp => s_tg (g.blk s H _ cl C fp) t _ h6) (fun s H C cl fp => snd_c cd _ _ _ (g.blk s H _ cl C fp) h8)
    (fun s H C cl fp => (snd_e e _ _ _ (g.blk s H _ cl C fp) h7).pe) (fold_ok g1)) fun D σ H q => ?_
  rw [h4]
  exact lc_read (fun j hj => of_decide_eq_true (List.all_eq_true.mp h5 j hj)) σ H _ (rd_set D σ H q)
theorem s_set_lc2 {i : Nat} {k : Bool} {ws ws2 : List Nat} {e : E} {t t2 : T} {ii i2 : I} {cd : Option E} {y : Str} {py p pp : Pos} {elt : Expr} {gs : List Comprehension} {ss : Scope} (g : Gd tb c X S) (h1 : X.N[i]? = some y) (hyl : X.env.scope.names.lookup y = some .local)
    (sw : ∀ l, swapsWith (.ListComp elt gs ss pp) (some (.Name y py)) l X.env = pure true) (h3 : chkE tb S (.lc2 k ws ws2 e t ii t2 i2 cd) (.ListComp elt gs ss pp) = true) : PS X (.Assign [.Name y py] (.ListComp elt gs ss pp) p) (TS1 c N (.asg (.t (.v i)) (.lc2 k ws ws2 e t ii t2 i2 cd))) := by
  unfold chkE at h3
  split at h3 <;> first | cases h3 | skip
  rename_i heq
  injection heq with q1 q2 q3 q4
  subst q1 q2 q3 q4
  obtain ⟨h, h13⟩ := and_t h3
  obtain ⟨h, h12⟩ := and_t h
  obtain ⟨h, h11⟩ := and_t h
  obtain ⟨h, h10⟩ := and_t h
  obtain ⟨h, h9⟩ := and_t h
  obtain ⟨h, h8⟩ := and_t h
  obtain ⟨h, h7⟩ := and_t h
  obtain ⟨h, h6⟩ := and_t h
  obtain ⟨h, h5⟩ := and_t h
  obtain ⟨h, h4⟩ := and_t h
  obtain ⟨g1, g2, g3⟩ := and3 h
  have h5 := of_decide_eq_true h5
  refine ps_imp (ps_setLc2 (vs1 := ws2) g.calm g.nd h1 hyl (sw _) (snd_i ii _ _ X S g g3) (blkOk_by (own := ownOf S.N ws) (by rw [g.n, g.sc]; exact h4)) (fun i hi => by rw [h5]; exact of_decide_eq_true (List.all_eq_true.mp h6 i hi))
    (fun s H C cl fp => s_tg (g.blk s H _ cl C fp) t _ h9) (fun s H C cl fp => pts_nil)
    (fun s H C cl fp => snd_i i2 _ _ _ _ (g.blk s H _ cl C fp) h10) (fun s H C cl fp => s_tg (g.blk s H _ cl C fp) t2 _ h11) (fun s H C cl fp => snd_c cd _ _ _ (g.blk s H _ cl C fp) h13)
    (fun s H C cl fp => (snd_e e _ _ _ (g.blk s H _ cl C fp) h12).pe) (fold_ok g1) (fun env v => fold_ok g2 v)) fun D σ H q => ?_
  rw [h5]
  exact lc2_read (fun j hj => of_decide_eq_true (List.all_eq_true.mp h7 j hj)) (fun j hj => of_decide_eq_true (List.all_eq_true.mp h8 j hj)) σ H _ (rd_set D σ H q)
theorem s_set {i : Nat} {e : E} {y : Str} {py p : Pos} {v : Expr} (g : Gd tb c X S) (h : chkSet tb S i e y py v = true) : PS X (.Assign [.Name y py] v p) (TS1 c N (.asg (.t (.v i)) e)) := by
  unfold chkSet at h
  obtain ⟨h, h4⟩ := and_t h
  obtain ⟨h1, h2, h3⟩ := and3 h
  have h1 : X.N[i]? = some y := by rw [g.n]; exact of_decide_eq_true h1
  obtain ⟨l1, l2⟩ := stC_ok g h2
  have sn := snd_e (c := c) e v X S g h3
  refine ps_inv fun hk => ?_
  split at h4
  · rename_i pp ss hp
    have hv : ∃ elt gs, v = .ListComp elt gs ss pp := by
      cases v with
      | ListComp elt gs s p =>
        have hp : some (p, s) = some (pp, ss) := hp
        cases hp
        exact ⟨elt, gs, rfl⟩
      | _ => cases hp
    obtain ⟨elt, gs, rfl⟩ := hv
    have sw := fun l => swB_ok (S := S) (env := X.env) (y := y) (py := py) (pos := pp) (scope := ss) (elt := elt) (gs := gs) (l := l) g.sc hk
    rcases Bool.or_eq_true_iff.mp h4 with h4 | h4
    · obtain ⟨h5, h6⟩ := and_t h4
      rw [h5] at sw
      have hyl : X.env.scope.names.lookup y = some .local := by
        unfold swB at h5
        rw [g.sc]
        exact of_decide_eq_true (and3 h5).1
      cases e with
      | lc k ws e t ii cd => exact s_set_lc g h1 hyl sw h3
      | lc2 k ws ws2 e t ii t2 i2 cd => exact s_set_lc2 g h1 hyl sw h3
      | _ => cases h6
    · rw [ntrue h4] at sw
      exact ps_imp (ps_set g.nd h1 l1 sn.pe (sw _) l2) rd_set
  · exact ps_imp (ps_set g.nd h1 l1 sn.pe (noSw (ntrue h4)) l2) rd_set
theorem swNot {tg v : Expr} {env : Env} (h : ∀ ts k p, tg ≠ .Tuple ts k p) (h2 : ∀ ts p, tg ≠ .List ts p) : swappedStores [tg] v env = pure none := by
  cases tg <;> first | rfl | exact absurd rfl (h _ _ _) | exact absurd rfl (h2 _ _)
theorem swNot2 {ts : List Expr} {k : Nat} {p : Pos} {v : Expr} {env : Env} (h : ∀ vs a b, v ≠ .Tuple vs a b) : swappedStores [.Tuple ts k p] v env = pure none := by
  cases v <;> first | rfl | exact absurd rfl (h _ _ _)
theorem s_asgT {ts : List T} {e : E} {tgs : List Expr} {k : Nat} {tp p : Pos} {v : Expr} (g : Gd tb c X S) (h1 : chkTupA S tgs v = true) (h2 : chkT S (.tup ts) (.Tuple tgs k tp) = true) (h3 : chkE tb S e v = true) : PS X (.Assign [.Tuple tgs k tp] v p) (TS1 c N (.asg (.t (.tup ts)) e)) := by
  refine ps_inv fun hk => ?_
  refine ps_imp (ps_asg (snd_e e v X S g h3).pe (s_tg g _ _ h2) (noSwT rfl) ?_ rfl) rd_asg
  unfold chkTupA at h1
  split at h1
  · split at h1 <;> first | cases h1 | skip
    rename_i hs
    exact swSt_ok g.sc hk hs
  · rename_i hn
    exact swNot2 fun vs a b e => hn vs a b e
theorem s_par2 {i j : Nat} {a b : E} {x y : Str} {px py tp p p2 : Pos} {k k2 : Nat} {v w : Expr} (g : Gd tb c X S) (h1 : S.N[i]? = some x) (h2 : S.N[j]? = some y) (h3 : i ≠ j) (h4 : S.sc.names.lookup x = some .local) (h5 : S.sc.names.lookup y = some .local) (h6 : chkL tb S [a, b] [v, w] = true) (h7 : swSt S [.Name x px, .Name y py] [v, w] = some (some [x, y])) :
    PS X (.Assign [.Tuple [.Name x px, .Name y py] k tp] (.Tuple [v, w] k2 p2) p) (TS1 c N (.asg (.t (.tup [.v i, .v j])) (.tup [a, b]))) := by
  refine ps_inv fun hk => ?_
  refine ps_imp (ps_par g.calm g.nd (by rw [g.n]; exact h1) (by rw [g.n]; exact h2) h3 (by rw [g.sc]; exact h4) (by rw [g.sc]; exact h5) (snd_l [a, b] [v, w] X S g h6) (swSt_ok g.sc hk h7) (noSwT rfl)) fun D σ H ⟨en, ρ, st, r, w, q⟩ => ?_
  unfold ex at q
  unfold ev at q
  rw [R.bind_assoc] at q
  refine tzs_next r w q fun zs st1 ρ1 H1 vs e1 s1 w1 r1 hv lz q1 => ?_
  match zs, lz, hv, q1 with
  | [z1, z2], _, hv, q1 =>
    obtain ⟨v1, v2, rfl, k1, k2⟩ := repL_two hv
    have q2 : RSat c.K c.b ρ1 H1 st1 (.ok (.nx ((en.set i (some z1)).set j (some z2))) st1) (EndsZ c D) := q1
    exact ⟨v1, v2, rfl, q2.ok_inv w1 _ ((r1.set k1 i).set k2 j)⟩
theorem repL_three {K : PySem.W.Frag} {ρ : Ro} {H : Hp} {x y z : Z} {vs : List V} (h : RepL K ρ H [x, y, z] vs) : ∃ a b d, vs = [a, b, d] ∧ Rep K ρ H x a ∧ Rep K ρ H y b ∧ Rep K ρ H z d := by
  obtain ⟨a, r, rfl, h1, h2⟩ := repL_cons.mp h
  obtain ⟨b, d, rfl, h3, h4⟩ := repL_two h2
  exact ⟨a, b, d, rfl, h1, h3, h4⟩
theorem s_par3 {i j l : Nat} {a b d : E} {x y z : Str} {px py pz tp p p2 : Pos} {k k2 : Nat} {v w u : Expr} (g : Gd tb c X S) (h1 : S.N[i]? = some x) (h2 : S.N[j]? = some y) (h2' : S.N[l]? = some z) (h3 : i ≠ j) (h3' : i ≠ l) (h3'' : j ≠ l) (h4 : S.sc.names.lookup x = some .local) (h5 : S.sc.names.lookup y = some .local) (h5' : S.sc.names.lookup z = some .local)
    (h6 : chkL tb S [a, b, d] [v, w, u] = true) (h7 : swSt S [.Name x px, .Name y py, .Name z pz] [v, w, u] = some (some [x, y, z])) :
    PS X (.Assign [.Tuple [.Name x px, .Name y py, .Name z pz] k tp] (.Tuple [v, w, u] k2 p2) p) (TS1 c N (.asg (.t (.tup [.v i, .v j, .v l])) (.tup [a, b, d]))) := by
  refine ps_inv fun hk => ?_
  refine ps_imp (ps_par3 g.calm g.nd (by rw [g.n]; exact h1) (by rw [g.n]; exact h2) (by rw [g.n]; exact h2') h3 h3' h3'' (by rw [g.sc]; exact h4) (by rw [g.sc]; exact h5) (by rw [g.sc]; exact h5') (snd_l [a, b, d] [v, w, u] X S g h6) (swSt_ok g.sc hk h7) (noSwT rfl)) fun D σ H ⟨en, ρ, st, r, w, q⟩ => ?_
  unfold ex at q
  unfold ev at q
  rw [R.bind_assoc] at q
  refine tzs_next r w q fun zs st1 ρ1 H1 vs e1 s1 w1 r1 hv lz q1 => ?_
  match zs, lz, hv, q1 with
  | [z1, z2, z3], _, hv, q1 =>
    obtain ⟨v1, v2, v3, rfl, k1, k2, k3⟩ := repL_three hv
    have q2 : RSat c.K c.b ρ1 H1 st1 (.ok (.nx (((en.set i (some z1)).set j (some z2)).set l (some z3))) st1) (EndsZ c D) := q1
    exact ⟨v1, v2, v3, rfl, q2.ok_inv w1 _ (((r1.set k1 i).set k2 j).set k3 l)⟩
theorem s_parA {ts : List T} {es : List E} {tgs vs : List Expr} {k k2 : Nat} {tp p p2 : Pos} (g : Gd tb c X S) (h : chkPar tb S ts es tgs vs = true) : PS X (.Assign [.Tuple tgs k tp] (.Tuple vs k2 p2) p) (TS1 c N (.asg (.t (.tup ts)) (.tup es))) := by
  unfold chkPar at h
  split at h <;> first | cases h | skip
  · obtain ⟨h, h7⟩ := and_t h
    obtain ⟨h, h6⟩ := and_t h
    obtain ⟨h, h5⟩ := and_t h
    obtain ⟨h, h4⟩ := and_t h
    obtain ⟨h1, h2, h3⟩ := and3 h
    exact s_par2 g (of_decide_eq_true h1) (of_decide_eq_true h2) (of_decide_eq_true h3) (of_decide_eq_true h4) (of_decide_eq_true h5) h6 (of_decide_eq_true h7)
  · obtain ⟨h, h11⟩ := and_t h
    obtain ⟨h, h10⟩ := and_t h
    obtain ⟨h, h9⟩ := and_t h
    obtain ⟨h, h8⟩ := and_t h
    obtain ⟨h, h7⟩ := and_t h
    obtain ⟨h, h6⟩ := and_t h
    obtain ⟨h, h5⟩ := and_t h
    obtain ⟨h, h4⟩ := and_t h
    obtain ⟨h1, h2, h3⟩ := and3 h
    exact s_par3 g (of_decide_eq_true h1) (of_decide_eq_true h2) (of_decide_eq_true h3) (of_decide_eq_true h4) (of_decide_eq_true h5) (of_decide_eq_true h6) (of_decide_eq_true h7) (of_decide_eq_true h8) (of_decide_eq_true h9) h10 (of_decide_eq_true h11)
theorem zput_ok {K : PySem.W.Frag} {ρ : Ro} {H : Hp} {st : Sto} {b : Nat} {o i z : Z} {ov iv v : V} {P : Z → Sto → Ro → Hp → Prop} {Q : Hp → Prop} (w : Wd K ρ st H) (ho : Rep K ρ H o ov) (hi : Rep K ρ H i iv) (hz : Rep K ρ H z v) (q : RSat K b ρ H st (zput b st o i z) P)
    (k : ∀ y st' H', P y st' ρ H' → Evo ρ H ρ H' → Wd K ρ st' H' → Q H') : rSetL ov iv v H Q := by
  unfold zput at q
  split at q
  · rename_i n j
    split at q
    · rename_i xs hc
      obtain ⟨a, rfl, hn, ⟨a', us, e1, e2, e3, e4⟩⟩ := cel_at w hc ho (by intro z; cases z)
      cases e1
      by_cases hj : 0 ≤ j ∧ j < xs.length
      · rw [if_pos hj] at q
        obtain ⟨mw, q⟩ := okW_inv q
        have hlu : us.length = xs.length := e4.length
        refine ⟨a, us, j, j.toNat, rfl, rep_int.mp hi, e2, ?_, ?_⟩
        · unfold ixN
          rw [if_pos hj.1, if_pos (by rw [hlu]; exact hj.2)]
        · have r' := RepL.set j.toNat e4 hz
          have ev := evo_put (H := H) (o := .lst (us.set j.toNat v)) hn
          have wd := w.put (o := .lst (us.set j.toNat v)) (c := .lst (xs.set j.toNat z)) hn ⟨a, _, rfl, upd_same, by rw [List.length_set]; exact e3, RepL.evo ev _ _ r'⟩
          refine k _ _ _ (put_lst w hn (by rw [List.length_set]; exact e3) r' (fun hb m hm => ?_) hc q) ev wd
          obtain ⟨y, hy, hm2⟩ := of_refsL hm
          rcases List.mem_or_eq_of_mem_set hy with hy | hy
          · exact mem_refsL hy hm2
          · subst hy
            unfold mayW at mw
            rcases Bool.or_eq_true_iff.mp mw with mw | mw
            · have := of_decide_eq_true mw
              omega
            · unfold Z.clo at mw
              rw [List.isEmpty_iff.mp mw] at hm2
              cases hm2
      · rw [if_neg hj] at q; exact q.elim
    · exact q.elim
  · exact q.elim
theorem s_asgI {a i e : E} {o j v : Expr} {p p2 : Pos} (g : Gd tb c X S) (h1 : notSlice j = true) (h2 : chkE tb S a o = true) (h3 : chkE tb S i j = true) (h4 : chkE tb S e v = true) : PS X (.Assign [.Subscript o j p] v p2) (TS1 c N (.asg (.ix a i) e)) := by
  have ha : ∀ v, assign (.Subscript o j p) X.env v = (do
      let ov ← holding [v] (eval o X.env)
      let iv ← holding [v, ov] (eval j X.env)
      standAt p
      holding [v, ov, iv] (setItem ov iv v)
      release [v, ov, iv] []) := fun v => by cases j <;> first | rfl | cases h1
  refine ps_imp (ps_asg (snd_e e v X S g h4).pe (pg_sub (snd_e a o X S g h2).pe (snd_e i j X S g h3).pe set_list ha) (noSwT rfl) (swNot (fun _ _ _ e => nomatch e) (fun _ _ e => nomatch e)) rfl) fun D σ H ⟨en, ρ, st, r, w, q⟩ => ?_
  unfold ex at q
  refine tz_next r w q fun z st1 ρ1 H1 v e1 s1 w1 r1 hv q1 => ?_
  refine tz_next r1 w1 q1 fun zo st2 ρ2 H2 vo e2 s2 w2 r2 ho q2 => ?_
  refine tz_next r2 w2 q2 fun zi st3 ρ3 H3 vi e3 s3 w3 r3 hi q3 => ?_
  exact zput_ok w3 (ho.evo e3) hi ((hv.evo e2).evo e3) q3.bind fun y st' H' p ev wd => RSat.ok_inv wd p σ (r3.evo ev)
/-! ### fields stored -/
def gFld (K : PySem.W.Frag) (to : TE) (f : Str) : TG := fun v σ H Q => to σ H fun x H1 => ∃ a C dx fs, x = .ref a ∧ H1 a = some (.ins C dx fs) ∧ Cls K C ∧ NoAttr K C f ∧ fs.length < 1000 ∧ Q σ (upd H1 a (.ins C dx (putF f v fs)))
theorem pg_fld {X : Cx} {o : Expr} {f : Str} {pos : Pos} {to : TE} (ho : PE X o to) : PG X (.Attribute o f pos) (gFld X.K to f) := by
  refine ⟨fun pins s σ H v u Q I r h => ?_⟩
  have ha : ∀ v, assign (.Attribute o f pos) X.env v = (do
    let ov ← holding [v] (eval o X.env)
    standAt pos.atName
    holding [v, ov] (setAttr ov f v)
    release [v, ov] []) := by intro _; rfl
  rw [ha]
  refine wpAny_bind (wpAny_holding (thn (ho.run pins s σ H _ I h) fun ov s1 ⟨x, H1, I1, r1, a, C, dx, fs, ex, ea, cl, na, l, q⟩ => ?_))
  subst ex
  obtain rfl : ov = Value.ref a := r1
  refine wpAny_bind (wpAny_standAt (wpAny_bind (wpAny_holding (setattr_ok I1 ea cl na l r fun s3 I3 => ?_))))
  exact wpAny_release ⟨σ, _, I3, q⟩
theorem putG_len {f : String} {z : Z} : ∀ {gs : List String} {vs : List Z}, gs.length = vs.length → (putG f z gs vs).1.length = (putG f z gs vs).2.length ∧ (putG f z gs vs).1.length ≤ gs.length + 1
  | [], [], _ => by unfold putG; simp
  | [], _ :: _, h => by cases h
  | _ :: _, [], h => by cases h
  | g :: gs, v :: vs, h => by
    unfold putG
    split
    · simp at h ⊢; omega
    · obtain ⟨h1, h2⟩ := putG_len (f := f) (z := z) (gs := gs) (vs := vs) (by simpa using h)
      simp [h1]
      omega
theorem putG_rep {K : PySem.W.Frag} {ρ : Ro} {H : Hp} {f : String} {z : Z} {v : V} (hz : Rep K ρ H z v) : ∀ {gs : List String} {zs : List Z} {us : List V}, gs.length = zs.length → RepL K ρ H zs us → ∃ us', RepL K ρ H (putG f z gs zs).2 us' ∧ fz (putG f z gs zs).1 us' = putF (Str.ofString f) v (fz gs us)
  | [], [], us, _, r => by
    rw [repL_nil.mp r]
    exact ⟨[v], repL_cons.mpr ⟨v, [], rfl, hz, repL_nil.mpr rfl⟩, rfl⟩
  | [], _ :: _, _, h, _ => by cases h
  | _ :: _, [], _, h, _ => by cases h
  | g :: gs, y :: zs, us, h, r => by
    obtain ⟨u, us, rfl, r1, r2⟩ := repL_cons.mp r
    unfold putG
    by_cases q : (g == f) = true
    · rw [if_pos q]
      have e : g = f := by simpa using q
      subst e
      refine ⟨v :: us, repL_cons.mpr ⟨v, us, rfl, hz, r2⟩, ?_⟩
      show (Str.ofString g, v) :: fz gs us = putF (Str.ofString g) v ((Str.ofString g, u) :: fz gs us)
      unfold putF
      rw [if_pos rfl]
    · rw [if_neg q]
      obtain ⟨us', k1, k2⟩ := putG_rep hz (by simpa using h) r2
      refine ⟨u :: us', repL_cons.mpr ⟨u, us', rfl, r1, k1⟩, ?_⟩
      show (Str.ofString g, u) :: fz _ us' = putF (Str.ofString f) v ((Str.ofString g, u) :: fz gs us)
      unfold putF
      rw [if_neg (fun e => q (by simpa using ofString_inj e)), k2]
theorem putG_refs {f : String} {z : Z} {m : Nat} : ∀ {gs : List String} {vs : List Z}, m ∈ refsL (putG f z gs vs).2 → m ∈ z.refs ∨ m ∈ refsL vs
  | [], vs, h => by
    unfold putG at h
    unfold refsL at h
    rcases List.mem_append.mp h with h | h
    · exact .inl h
    · unfold refsL at h; cases h
  | _ :: _, [], h => by
    unfold putG at h
    unfold refsL at h
    rcases List.mem_append.mp h with h | h
    · exact .inl h
    · unfold refsL at h; cases h
  | g :: gs, v :: vs, h => by
    unfold putG at h
    split at h
    · unfold refsL at h
      rcases List.mem_append.mp h with h | h
      · exact .inl h
      · exact .inr (by unfold refsL; exact List.mem_append_right _ h)
    · unfold refsL at h
      rcases List.mem_append.mp h with h | h
      · exact .inr (by unfold refsL; exact List.mem_append_left _ h)
      · rcases putG_refs h with h | h
        · exact .inl h
        · exact .inr (by unfold refsL; exact List.mem_append_right _ h)
theorem zputF_ok {K : PySem.W.Frag} {ρ : Ro} {H : Hp} {st : Sto} {b : Nat} {x z : Z} {vx v : V} {cl f : String} {P : Z → Sto → Ro → Hp → Prop} (w : Wd K ρ st H) (hx : Rep K ρ H x vx) (hz : Rep K ρ H z v) (q : RSat K b ρ H st (zputF b st x cl f z) P) :
    ∃ a dx fs st', vx = .ref a ∧ H a = some (.ins (He.ga K cl) dx fs) ∧ fs.length < 1000 ∧ Evo ρ H ρ (upd H a (.ins (He.ga K cl) dx (putF (Str.ofString f) v fs))) ∧ Sub b st st' ∧ Wd K ρ st' (upd H a (.ins (He.ga K cl) dx (putF (Str.ofString f) v fs))) ∧
      P .non st' ρ (upd H a (.ins (He.ga K cl) dx (putF (Str.ofString f) v fs))) := by
  unfold zputF at q
  split at q
  · rename_i n
    split at q
    · rename_i c' gs vs hc
      split at q
      · rename_i hcond
        obtain ⟨c1, c2⟩ := and_t hcond
        have c1 : c' = cl := by simpa using c1
        have c2 := of_decide_eq_true c2
        subst c1
        obtain ⟨mw, q⟩ := okW_inv q
        obtain ⟨a, rfl, hn, a', dx, us, e1, e2, e3, e5, e4⟩ := cel_at w hc hx (by intro z; cases z)
        cases e1
        obtain ⟨us', k1, k2⟩ := putG_rep (f := f) hz e3 e4
        obtain ⟨l1, l2⟩ := putG_len (f := f) (z := z) e3
        have ev := evo_put (H := H) (o := .ins (He.ga K c') dx (putF (Str.ofString f) v (fz gs us))) hn
        have sb : Sub b st (st.set n (.ins c' (putG f z gs vs).1 (putG f z gs vs).2)) := sub_set fun c0 h0 hb m hm => by
          rw [hc] at h0; cases h0
          have hm : m ∈ refsL (putG f z gs vs).2 := hm
          rcases putG_refs hm with h | h
          · unfold mayW at mw
            rw [Bool.or_eq_true, decide_eq_true_eq] at mw
            rcases mw with mw | mw
            · omega
            · unfold Z.clo at mw
              rw [List.isEmpty_iff.mp mw] at h
              cases h
          · exact h
        have wd := w.put (c := .ins c' (putG f z gs vs).1 (putG f z gs vs).2) (o := .ins (He.ga K c') dx (putF (Str.ofString f) v (fz gs us))) hn ⟨a, dx, us', rfl, by rw [upd_same, k2], l1, by omega, RepL.evo ev _ _ k1⟩
        refine ⟨a, dx, fz gs us, _, rfl, e2, ?_, ev, sb, wd, q ρ _ ev sb wd⟩
        show ((gs.map Str.ofString).zip us).length < 1000
        rw [List.length_zip, List.length_map]
        omega
      · exact q.elim
    · exact q.elim
  · exact q.elim
def TZfs (c : Cf) (i : Nat) (cl : String) (fs : List String) : TGs := fun vs σ H Q => ∃ zs en ρ st x, RepL c.K ρ H zs vs ∧ en[i]? = some (some x) ∧ RepE c.K ρ H en σ ∧ Wd c.K ρ st H ∧ RSat c.K c.b ρ H st (putFs c.b x cl fs zs st) (fun _ _ ρ' H' => ∀ σ', RepE c.K ρ' H' en σ' → Q σ' H')
theorem putFs_len {b : Nat} {x : Z} {cl : String} : ∀ {fs : List String} {zs : List Z} {st : Sto} {K : PySem.W.Frag} {B : Nat} {ρ : Ro} {H : Hp} {P : Z → Sto → Ro → Hp → Prop}, RSat K B ρ H st (putFs b x cl fs zs st) P → fs.length = zs.length
  | [], [], _, _, _, _, _, _, _ => rfl
  | [], _ :: _, _, _, _, _, _, _, h => by unfold putFs at h; exact h.elim
  | _ :: _, [], _, _, _, _, _, _, h => by unfold putFs at h; exact h.elim
  | f :: fs, z :: zs, st, K, B, ρ, H, P, h => by
    unfold putFs at h
    cases e : zputF b st x cl f z with
    | ok y st1 =>
      rw [e] at h
      have h : RSat K B ρ H st (putFs b x cl fs zs st1) P := h
      have : fs.length = zs.length := by
        cases e2 : putFs b x cl fs zs st1 with
        | ok y2 st2 =>
          exact putFs_len (st := st1) (K := K) (B := B) (ρ := ρ) (H := H) (P := fun _ _ _ _ => True) (by rw [e2]; exact fun _ _ _ _ _ => trivial)
        | exn _ _ _ => rw [e2] at h; exact h.elim
        | no => rw [e2] at h; exact h.elim
      simp [this]
    | exn _ _ _ => rw [e] at h; exact h.elim
    | no => rw [e] at h; exact h.elim
theorem s_fs (g : Gd tb c X S) {i : Nat} {cl : String} : ∀ (fs : List String) (xs : List Expr), chkFs tb S i cl fs xs = true → PGs X xs (TZfs c i cl fs) ∧ xs.all notStar = true ∧ xs.length = fs.length
  | [], [], h => ⟨pgs_imp pgs_nil fun vs σ H Q ⟨zs, en, ρ, st, x, hv, hx, r, w, q⟩ => by
    cases zs with
    | nil =>
      unfold putFs at q
      exact ⟨repL_nil.mp hv, q.ok_inv w σ r⟩
    | cons _ _ => unfold putFs at q; exact q.elim, rfl, rfl⟩
  | [], _ :: _, h => by unfold chkFs at h; cases h
  | _ :: _, [], h => by unfold chkFs at h; cases h
  | f :: fs, x :: xs, h => by
    unfold chkFs at h
    split at h
    · rename_i e1 e2; cases e1
    · rename_i heq1 heq2
      injection heq1 with a1 a2
      injection heq2 with a3 a4
      subst a1 a2 a3 a4
      obtain ⟨h, h4⟩ := and_t h
      obtain ⟨h1, h2, h3⟩ := and3 h
      have h1 := of_decide_eq_true h1
      subst h1
      obtain ⟨p1, p2, p3⟩ := s_fs g fs xs h4
      obtain ⟨c1, c2⟩ := g.at_ cl f h3
      refine ⟨pgs_imp (pgs_cons (pg_fld (s_var g h2)) p1 (by rw [starA_cons rfl]; rfl)) fun vs σ H Q ⟨zs, en, ρ, st, x, hv, hx, r, w, q⟩ => ?_, by rw [List.all_cons, p2]; rfl, by rw [List.length_cons, List.length_cons, p3]⟩
      cases zs with
      | nil => unfold putFs at q; exact q.elim
      | cons z zs =>
        obtain ⟨v, us, rfl, v1, v2⟩ := repL_cons.mp hv
        unfold putFs at q
        refine ⟨v, us, rfl, en, ρ, st, r, w, ?_⟩
        have he : ev c.F c.G c.b (.v i) en st = .ok x st := by unfold ev; rw [hx]
        rw [he]
        intro ρ1 H1 e1 s1 w1 vx hvx
        obtain ⟨a, dx, fs0, st', k1, k2, k3, k4, k5, k6, k7⟩ := zputF_ok w1 hvx (v1.evo e1) ((q.base e1 s1).bind)
        refine ⟨a, _, dx, fs0, k1, by rw [g.k]; exact k2, c1, c2, k3, zs, en, ρ1, st', x, ?_, hx, (r.evo e1).evo (by rw [g.k]; exact k4), by rw [g.k]; exact k6, by rw [g.k]; exact k7⟩
        rw [g.k]
        exact RepL.evo (e1.trans k4) _ _ v2
    · cases h
theorem s_asgF1 {i : Nat} {cl f : String} {e : E} {x : Expr} {v : Expr} {p : Pos} (g : Gd tb c X S) (h1 : chkFs tb S i cl [f] [x] = true) (h2 : chkE tb S e v = true) (hx : notName x = true) (ht : ∀ ts k p, x ≠ .Tuple ts k p) (ht2 : ∀ ts p, x ≠ .List ts p) (hns : notStar x = true) : PS X (.Assign [x] v p) (TS1 c N (.asgF i cl [f] [e])) := by
  have pg : PG X x (fun v σ H Q => TZfs c i cl [f] [v] σ H Q) := by
    obtain ⟨q1, _, _⟩ := s_fs (c := c) g [f] [x] h1
    refine ⟨fun pins s σ H v u Q I r h => ?_⟩
    have := q1.run pins s σ H [v] [u] Q I (.cons r .nil) h
    have e0 : (assignEach [x] X.env).map (·.2) = [assign x X.env] := by rw [starA_cons hns]; rfl
    rw [e0] at this
    have e1 : assignInOrder [assign x X.env] [u] = (do assign x X.env u; assignInOrder [] []) := rfl
    rw [e1] at this
    have e2 : (do assign x X.env u; assignInOrder [] [] : Sem Unit) = assign x X.env u := by
      show (assign x X.env u >>= fun _ => pure ()) = _
      exact bind_pure (assign x X.env u)
    rw [e2] at this
    exact this
  refine ps_imp (ps_asg (snd_e e v X S g h2).pe pg (noSwT hx) (swNot ht ht2) (by rw [starA_cons hns]; rfl)) fun D σ H ⟨en, ρ, st, r, w, q⟩ => ?_
  unfold ex at q
  unfold evs at q
  rw [R.bind_assoc] at q
  refine tz_next r w q fun z st1 ρ1 H1 v e1 s1 w1 r1 hv q1 => ?_
  unfold evs at q1
  simp only [R.bind_ok] at q1
  split at q1
  · rename_i xx hxx
    exact ⟨[z], en, ρ1, st1, xx, repL_cons.mpr ⟨v, [], rfl, hv, repL_nil.mpr rfl⟩, hxx, r1, w1, q1.bind.mono fun _ _ _ _ _ _ w2 q2 σ' r' => RSat.ok_inv w2 q2 σ' r'⟩
  · exact q1.elim
theorem s_asgFT {i : Nat} {cl : String} {fs : List String} {es : List E} {tgs vs : List Expr} {k k2 : Nat} {tp p p2 : Pos} (g : Gd tb c X S) (h0 : chkTupA S tgs (.Tuple vs 0 ⟨0, 0, 0, 0⟩) = true) (hl : es.length ≤ 1000) (h1 : chkFs tb S i cl fs tgs = true) (h2 : chkL tb S es vs = true) : PS X (.Assign [.Tuple tgs k tp] (.Tuple vs k2 p2) p) (TS1 c N (.asgF i cl fs es)) := by
  obtain ⟨q1, q2, q3⟩ := s_fs (c := c) g fs tgs h1
  obtain ⟨i1, i2⟩ := starA_idx (env := X.env) q2
  refine ps_inv fun hk => ?_
  refine ps_imp (ps_asg (s_tup hl (snd_l es vs X S g h2)) (pg_tup (n := fs.length) g.calm q1 (by rw [i2, q3]) i1) (noSwT rfl) ?_ rfl) fun D σ H ⟨en, ρ, st, r, w, q⟩ => ?_
  · unfold chkTupA at h0
    simp only at h0
    split at h0 <;> first | cases h0 | skip
    rename_i hs
    exact swSt_ok g.sc hk hs
  · unfold ex at q
    have key : TZ c (.tup es) σ H fun x H1 => gTup c.K fs.length (TZfs c i cl fs) x σ H1 D.nx := by
      refine ⟨en, ρ, st, r, w, ?_⟩
      unfold ev
      cases he : evs c.F c.G c.b es en st with
      | ok zs st1 =>
        rw [he] at q
        have q : RSat c.K c.b ρ H st (match en[i]? with
          | some (some x) => (putFs c.b x cl fs zs st1).bind fun _ st => .ok (.nx en) st
          | _ => .no) (EndsZ c D) := q
        intro ρ1 H1 e1 s1 w1 v hv
        have q := q.base e1 s1
        split at q
        · rename_i xx hxx
          obtain ⟨a, us, rfl, k1, k2, k3, _⟩ := dr_tup_at (st := st1) (zs := zs) w1 hv rfl
          have hlen := putFs_len q.bind
          exact ⟨a, us, rfl, k1, by rw [k3.length, hlen], zs, en, ρ1, st1, xx, k3, hxx, r.evo e1, w1, q.bind.mono fun _ _ _ _ _ _ w2 q2 σ' r' => RSat.ok_inv w2 q2 σ' r'⟩
        · exact q.elim
      | exn _ _ _ => rw [he] at q; exact q.elim
      | no => rw [he] at q; exact q.elim
    rw [g.k]
    exact key
/-! ### name op= .. -/
def augOp : BOp → Int → Int → Int
  | .sub => fun i j => i - j
  | _ => fun i j => i + j
theorem aug_ip {X : Cx} {o : BOp} (h : augOk o = true) : PIp X (bopOf o) (ipI (augOp o)) := by
  cases o <;> first | exact ip_add | exact ip_sub | cases h
theorem zbin_aug {o : BOp} {st : Sto} {a : Int} {y z : Z} (h : augOk o = true) (e : zbin o st (.int a) y = some z) : ∃ b, y = .int b ∧ z = .int (augOp o a b) := by
  cases o <;> first | cases h | skip
  all_goals
    unfold zbin at e
    cases hy : dr st y with
    | int b =>
      rw [hy] at e
      have := dr_int_at hy
      subst this
      cases e
      exact ⟨b, rfl, rfl⟩
    | _ => rw [hy] at e; cases e
theorem s_aug {i : Nat} {o : BOp} {e : E} {y : Str} {py p : Pos} {v : Expr} (g : Gd tb c X S) (h0 : augOk o = true) (h1 : S.N[i]? = some y) (h2 : stC S y = true) (h3 : chkE tb S e v = true) : PS X (.AugAssign (.Name y py) (bopOf o) v p) (TS1 c N (.aug i o e)) := by
  obtain ⟨l1, l2⟩ := stC_ok g h2
  refine ps_imp (ps_aug g.nd (by rw [g.n]; exact h1) l1 (snd_e e v X S g h3).pe (aug_ip h0) l2) fun D σ H ⟨en, ρ, st, r, w, q⟩ => ?_
  unfold ex at q
  split at q
  · rename_i x he
    obtain ⟨vx, k1, k2⟩ := r.2 i x he
    refine ⟨vx, k1, ?_⟩
    refine tz_next r w q fun z st1 ρ1 H1 v e1 s1 w1 r1 hv q1 => ?_
    split at q1
    · rename_i a hd
      have := dr_int_at hd
      subst this
      have q2 := q1.bind
      obtain ⟨y, ey, q3⟩ := q2.ofO_inv w1
      obtain ⟨b, rfl, rfl⟩ := zbin_aug h0 ey
      exact ⟨a, b, rep_int.mp k2, rep_int.mp hv, q3.ok_inv w1 _ (r1.set (rep_int.mpr rfl) i)⟩
    · exact q1.elim
  · exact q.elim
/-! ### loops -/
theorem rd_for {t : T} {i : I} {b : List ZZ.S} : ∀ D σ H, TS1 c N (.fo t i b) D σ H → tFor (TZI c i) (TZg c t) (TSs c N b) D σ H := by
  intro D σ H ⟨en, ρ, st, r, w, q⟩
  unfold ex at q
  refine ⟨en, ρ, st, r, w, q.bind.mono fun wk st1 ρ1 H1 e1 s1 w1 q1 J hl hJ => ?_⟩
  generalize hf : (fun (z : Z) (en : En) (st1 : Sto) => (match bindT t z en with
      | some en1 => exs c.F c.G c.b N b en1 st1
      | none => R.no)) = f at q1
  have hfe : ∀ z en st en1, bindT t z en = some en1 → f z en st = exs c.F c.G c.b N b en1 st := fun z en st en1 he => by
    rw [← hf]
    simp only [he]
  have hfn : ∀ z en st, bindT t z en = none → f z en st = .no := fun z en st he => by
    rw [← hf]
    simp only [he]
  clear hf
  let Pv : Nat → L2.St → Hp → Prop := fun i σi Hi => ∃ ρi sti eni, EvoL ρ1 H1 ρi Hi ∧ Wd c.K ρi sti Hi ∧ RepE c.K ρi Hi eni σi ∧ RSat c.K c.b ρi Hi sti (goF (stays wk.held st1) f (wk.items.drop i) eni sti) (EndsZ c D)
  refine ⟨fun i m σi Hi => m = wk.items.length - i ∧ i ≤ wk.items.length ∧ Pv i σi Hi, ⟨wk.items.length, by simp, Nat.zero_le _, ρ1, st1, en, Evo.l .refl, w1, r.evo e1, q1⟩, ?_⟩
  rintro i m σi Hi ⟨rfl, hi, ρi, sti, eni, ei, wi, ri, qi⟩
  by_cases hlt : i < wk.items.length
  · have hd : wk.items.drop i = wk.items[i] :: wk.items.drop (i + 1) := List.drop_eq_getElem_cons hlt
    rw [hd] at qi
    have qi : RSat c.K c.b ρi Hi sti (if stays wk.held st1 sti = true then (f wk.items[i] eni sti).bind fun r st1' => (match r with
      | .nx en1 => goF (stays wk.held st1) f (wk.items.drop (i + 1)) en1 st1'
      | .ct en1 => goF (stays wk.held st1) f (wk.items.drop (i + 1)) en1 st1'
      | .bk en1 => .ok (.nx en1) st1'
      | .rt v => .ok (.rt v) st1') else .no) (EndsZ c D) := qi
    by_cases hs : stays wk.held st1 sti = true
    · rw [if_pos hs] at qi
      refine .inr ⟨hJ.goes i ρi Hi sti hlt ei wi hs, Pv (i + 1), fun σ' H' p' => ⟨wk.items.length - (i + 1), by omega, rfl, hlt, p'⟩, fun x H' y => ?_⟩
      obtain ⟨z, hz, ez, wz, rx⟩ := hJ.yields i ρi Hi sti x H' hlt ei wi hs y
      have hz2 : wk.items[i] = z := by rw [List.getElem?_eq_getElem hlt] at hz; injection hz
      rw [hz2] at qi
      have eL := ei.trans ez.l
      cases hb : bindT t z eni with
      | none => rw [hfn z eni sti hb] at qi; exact qi.elim
      | some en1 =>
        rw [hfe z eni sti en1 hb] at qi
        refine ⟨z, eni, en1, ρi, sti, rx, ri.evo ez, wz, hb, fun σ' r' _ => ⟨en1, ρi, sti, r', wz, ?_⟩⟩
        refine ((qi.base ez .refl).bind).mono fun fl st2 ρ2 H2 e2 s2 w2 q2 => ?_
        cases fl with
        | nx en2 => exact fun σ2 r2 => ⟨ρ2, st2, en2, eL.trans e2.l, w2, r2, q2⟩
        | ct en2 => exact fun σ2 r2 => ⟨ρ2, st2, en2, eL.trans e2.l, w2, r2, q2⟩
        | bk en2 => exact fun σ2 r2 => RSat.ok_inv w2 q2 σ2 r2
        | rt v => exact fun v2 r2 => RSat.ok_inv w2 q2 v2 r2
    · rw [if_neg hs] at qi; exact qi.elim
  · have e : i = wk.items.length := by omega
    subst e
    rw [List.drop_length] at qi
    have q2 : RSat c.K c.b ρi Hi sti (if stays wk.held st1 sti = true then R.ok (.nx eni) sti else R.no : R Fl) (EndsZ c D) := qi
    by_cases hs : stays wk.held st1 sti = true
    · rw [if_pos hs] at q2
      exact .inl ⟨hJ.stops ρi Hi sti ei wi hs, q2.ok_inv wi σi ri⟩
    · rw [if_neg hs] at q2; exact q2.elim
theorem rd_while {e : E} {b : List ZZ.S} : ∀ D σ H, TS1 c N (.wh e b) D σ H → tWhile (TZt c e) (TSs c N b) D σ H := by
  intro D σ H ⟨en, ρ, st, r, w, q⟩
  unfold ex at q
  refine ⟨fun m σi Hi => ∃ ρi sti eni, Wd c.K ρi sti Hi ∧ RepE c.K ρi Hi eni σi ∧ RSat c.K c.b ρi Hi sti (goW (fun en st => (ev c.F c.G c.b e en st).bind fun z st => ofO (ztru st z) st) (exs c.F c.G c.b N b) m eni sti) (EndsZ c D), ⟨N, ρ, st, en, w, r, q⟩, ?_⟩
  rintro m σi Hi ⟨ρi, sti, eni, wi, ri, qi⟩
  cases m with
  | zero => exact qi.elim
  | succ m =>
    refine ⟨eni, ρi, sti, ri, wi, ?_⟩
    have qi : RSat c.K c.b ρi Hi sti (((ev c.F c.G c.b e eni sti).bind fun z st => ofO (ztru st z) st).bind fun k st1 => if k then (exs c.F c.G c.b N b eni st1).bind fun r st2 => (match r with
      | .nx en1 => goW (fun en st => (ev c.F c.G c.b e en st).bind fun z st => ofO (ztru st z) st) (exs c.F c.G c.b N b) m en1 st2
      | .ct en1 => goW (fun en st => (ev c.F c.G c.b e en st).bind fun z st => ofO (ztru st z) st) (exs c.F c.G c.b N b) m en1 st2
      | .bk en1 => .ok (.nx en1) st2
      | .rt v => .ok (.rt v) st2) else .ok (.nx eni) st1) (EndsZ c D) := qi
    refine qi.bind.mono fun k st1 ρ1 H1 e1 s1 w1 q1 => ?_
    cases k with
    | false =>
      rw [if_neg (by decide)] at q1 ⊢
      exact q1.ok_inv w1 σi (ri.evo e1)
    | true =>
      rw [if_pos rfl] at q1 ⊢
      refine ⟨fun σ' H' => ∃ ρi sti eni, Wd c.K ρi sti H' ∧ RepE c.K ρi H' eni σ' ∧ RSat c.K c.b ρi H' sti (goW (fun en st => (ev c.F c.G c.b e en st).bind fun z st => ofO (ztru st z) st) (exs c.F c.G c.b N b) m eni sti) (EndsZ c D), fun σ' H' p => ⟨m, Nat.lt_succ_self m, p⟩, eni, ρ1, st1, ri.evo e1, w1, ?_⟩
      refine q1.bind.mono fun fl st2 ρ2 H2 e2 s2 w2 q2 => ?_
      cases fl with
      | nx en2 => exact fun σ2 r2 => ⟨ρ2, st2, en2, w2, r2, q2⟩
      | ct en2 => exact fun σ2 r2 => ⟨ρ2, st2, en2, w2, r2, q2⟩
      | bk en2 => exact fun σ2 r2 => RSat.ok_inv w2 q2 σ2 r2
      | rt v => exact fun v2 r2 => RSat.ok_inv w2 q2 v2 r2
theorem rd_fz {i : Nat} {ss : List ZZ.S} : ∀ D σ H, TSs c N (.fz i :: ss) D σ H → TSs c N ss D σ H := by
  intro D σ H ⟨en, ρ, st, r, w, q⟩
  unfold exs at q
  unfold ex at q
  split at q
  · rename_i z he
    rw [R.bind_assoc] at q
    have q1 := q.bind
    obtain ⟨v, k1, k2⟩ := r.2 i z he
    obtain ⟨z', st', ρ', p, w', r', e', s', _⟩ := zfz_sat w k2 q1
    refine ⟨en.set i (some z'), ρ', st', ?_, w', p⟩
    have := (r.evo e').set r' i
    have hσ : σ.set i (some v) = σ := by
      apply List.ext_getElem?
      intro j
      by_cases h : i = j
      · subst h
        rw [List.getElem?_set_self (List.getElem?_eq_some_iff.mp k1).1, k1]
      · rw [List.getElem?_set_ne h]
    rw [hσ] at this
    exact this
  · exact q.elim
end
/-! ### a, *b, c = .. -/
section
variable {prog : Program} {w : World} {A : Around} {E : Value → Shared → Prop} {s : Shared}
theorem star_list {l : Addr} {items : Array Value} {n i : Nat} {Q : List Value → Shared → Prop} (hl : s.heap.IsList l items) (hh : A.handled = none) (hi : i < n) (hn : n ≤ items.size + 1) (hz : items.size ≤ 16384)
    (h : ∀ (h' : Heap) (tk : Nat), (∀ b o, s.heap.get? b = some o → h'.get? b = some o) → Q (starF items.toList i ++ [.ref h'.objs.size] ++ starE items.toList i n) { s with heap := h'.push { cls := .type "list", data := .seq (starM items.toList i n).toArray }, toks := tk }) : wpAny (model prog w) A (unpackItems (.ref l) n (some i)) Q E s := by
  have hlt : l ≠ s.heap.objs.size := by obtain ⟨o, ho, _⟩ := hl; exact Nat.ne_of_lt (Heap.lt_size ho)
  have hll : l < s.heap.objs.size := by obtain ⟨o, ho, _⟩ := hl; exact Heap.lt_size ho
  unfold unpackItems
  refine wpAny_bind ?_
  unfold notIterableAtAll
  refine wpAny_bind (wpAny_specialOf hl.typeIs PySem.F.slot_list_iter.lookup ?_)
  refine wpAny_pure ?_
  simp only [Bool.false_eq_true, if_false]
  refine wpAny_bind (wpAny_holding (wpAny_pyIter_list hl ?_))
  refine wpAny_bind (wpAny_holding (PySem.W.kun_draw hlt i 0 _ _ ⟨_, Heap.get?_push_size _ rfl, rfl, rfl⟩ (hl.push _) (by omega) fun h₁ hit₁ hs₁ => ?_))
  have hl₁ : h₁.IsList l items := (hl.push _).extBut hs₁.extBut hlt
  rw [Nat.zero_add] at hit₁
  have hit₁' := hit₁
  obtain ⟨oi, hoi, _⟩ := hit₁'
  have hl₁' := hl₁
  obtain ⟨ol, hol, _⟩ := hl₁'
  rw [List.drop_zero]
  have hfl : (items.toList.take i).length = i := by rw [List.length_take, Array.length_toList]; omega
  rw [if_neg (show ¬ ((items.toList.take i).length < i) by rw [hfl]; omega)]
  refine wpAny_bind (wpAny_holding (PySem.W.kun_collect (s := { s with heap := h₁ }) (T := "list_iterator") (.inr (.inr (.inl rfl))) (Walks.list (A := A.in1) hh s.heap.objs.size l hlt items) (fun j u st => st.1.typeIs) (k := i) (by omega) ⟨hit₁, hl₁⟩ (Heap.lt_size hoi) (Heap.lt_size hol) (fun h₂ tk hk => ?_) (by rw [sizeLine_eq]; omega)))
  have hrl : (items.toList.drop i).length = items.size - i := by rw [List.length_drop, Array.length_toList]
  have hmid : (items.toList.drop i).length - (n - 1 - i) = items.toList.length + 1 - n := by rw [hrl, Array.length_toList]; omega
  show wpAny _ _ (if (items.toList.drop i).length < n - 1 - i then _ else _) _ _ _
  rw [if_neg (by rw [hrl]; omega)]
  show wpAny _ _ (newList ((items.toList.drop i).take ((items.toList.drop i).length - (n - 1 - i))) >>= fun d => pure (items.toList.take i ++ [d] ++ (items.toList.drop i).drop ((items.toList.drop i).length - (n - 1 - i)))) _ _ _
  rw [hmid]
  refine wpAny_bind (wpAny_newObj_type ?_ (by show Array.size _ ≤ _; rw [List.size_toArray, List.length_take, hrl, sizeLine_eq]; omega))
  exact wpAny_pure (h h₂ tk fun b o e => hk b o (Nat.ne_of_lt (Heap.lt_size e)) (hs₁.extBut b o (Nat.ne_of_lt (Heap.lt_size e)) (Heap.get?_push_of_some _ e)))
theorem star_tup {l : Addr} {items : Array Value} {n i : Nat} {Q : List Value → Shared → Prop} (hl : IsTup s.heap l items) (hh : A.handled = none) (hi : i < n) (hn : n ≤ items.size + 1) (hz : items.size ≤ 16384)
    (h : ∀ (h' : Heap) (tk : Nat), (∀ b o, s.heap.get? b = some o → h'.get? b = some o) → Q (starF items.toList i ++ [.ref h'.objs.size] ++ starE items.toList i n) { s with heap := h'.push { cls := .type "list", data := .seq (starM items.toList i n).toArray }, toks := tk }) : wpAny (model prog w) A (unpackItems (.ref l) n (some i)) Q E s := by
  have hlt : l ≠ s.heap.objs.size := by obtain ⟨o, ho, _⟩ := hl; exact Nat.ne_of_lt (Heap.lt_size ho)
  have hll : l < s.heap.objs.size := by obtain ⟨o, ho, _⟩ := hl; exact Heap.lt_size ho
  unfold unpackItems
  refine wpAny_bind ?_
  unfold notIterableAtAll
  refine wpAny_bind (wpAny_specialOf hl.typeIs PySem.F.slot_tuple_iter.lookup ?_)
  refine wpAny_pure ?_
  simp only [Bool.false_eq_true, if_false]
  refine wpAny_bind (wpAny_holding (iter_tuple hl ?_))
  refine wpAny_bind (wpAny_holding (draw_tuple hlt i 0 _ _ ⟨_, Heap.get?_push_size _ rfl, rfl, rfl⟩ (hl.push _) (by omega) fun h₁ hit₁ hs₁ => ?_))
  have hl₁ : IsTup h₁ l items := (hl.push _).extBut hs₁.extBut hlt
  rw [Nat.zero_add] at hit₁
  have hit₁' := hit₁
  obtain ⟨oi, hoi, _⟩ := hit₁'
  have hl₁' := hl₁
  obtain ⟨ol, hol, _⟩ := hl₁'
  rw [List.drop_zero]
  have hfl : (items.toList.take i).length = i := by rw [List.length_take, Array.length_toList]; omega
  rw [if_neg (show ¬ ((items.toList.take i).length < i) by rw [hfl]; omega)]
  refine wpAny_bind (wpAny_holding (PySem.W.kun_collect (s := { s with heap := h₁ }) (T := "tuple_iterator") (.inr (.inr (.inr rfl))) (Walks.tuple (A := A.in1) hh s.heap.objs.size l hlt items) (fun j u st => st.1.typeIs) (k := i) (by omega) ⟨hit₁, hl₁⟩ (Heap.lt_size hoi) (Heap.lt_size hol) (fun h₂ tk hk => ?_) (by rw [sizeLine_eq]; omega)))
  have hrl : (items.toList.drop i).length = items.size - i := by rw [List.length_drop, Array.length_toList]
  have hmid : (items.toList.drop i).length - (n - 1 - i) = items.toList.length + 1 - n := by rw [hrl, Array.length_toList]; omega
  show wpAny _ _ (if (items.toList.drop i).length < n - 1 - i then _ else _) _ _ _
  rw [if_neg (by rw [hrl]; omega)]
  show wpAny _ _ (newList ((items.toList.drop i).take ((items.toList.drop i).length - (n - 1 - i))) >>= fun d => pure (items.toList.take i ++ [d] ++ (items.toList.drop i).drop ((items.toList.drop i).length - (n - 1 - i)))) _ _ _
  rw [hmid]
  refine wpAny_bind (wpAny_newObj_type ?_ (by show Array.size _ ≤ _; rw [List.size_toArray, List.length_take, hrl, sizeLine_eq]; omega))
  exact wpAny_pure (h h₂ tk fun b o e => hk b o (Nat.ne_of_lt (Heap.lt_size e)) (hs₁.extBut b o (Nat.ne_of_lt (Heap.lt_size e)) (Heap.get?_push_of_some _ e)))
end
def gStar (K : PySem.W.Frag) (n i : Nat) (t : TGs) : TG := fun v σ H Q => ∃ a xs, v = .ref a ∧ (SqL K H a xs ∨ SqT K H a xs) ∧ i < n ∧ n ≤ xs.length + 1 ∧ xs.length ≤ 16384 ∧ ∀ D, H D = none → t (starF xs i ++ [.ref D] ++ starE xs i n) σ (upd H D (.lst (starM xs i n))) Q
theorem valsTk {xs : List V} {us : List Value} (h : Vals xs us) : ∀ n, Vals (xs.take n) (us.take n) := by
  induction h with
  | nil => intro n; cases n <;> exact .nil
  | cons r _ ih => intro n; cases n with
    | zero => exact .nil
    | succ n => exact .cons r (ih n)
theorem valsDp {xs : List V} {us : List Value} (h : Vals xs us) : ∀ n, Vals (xs.drop n) (us.drop n) := by
  induction h with
  | nil => intro n; cases n <;> exact .nil
  | cons r t ih => intro n; cases n with
    | zero => exact .cons r t
    | succ n => exact ih n
theorem pg_star {X : Cx} {es : List Expr} {k n i : Nat} {pos : Pos} {t : TGs} (hc : X.calm = true) (h : PGs X es t) (hn : (assignEach es X.env).length = n) (hst : (assignEach es X.env).findIdx? (·.1) = some i) : PG X (.Tuple es k pos) (gStar X.K n i t) := by
  refine ⟨fun pins s σ H v u Q I r hw => ?_⟩
  obtain ⟨a, xs, rfl, hq, hi, hn2, hz, hw⟩ := hw
  cases r
  rw [PyProof.Rows.assign_Tuple]
  refine wpAny_bind (wpAny_standAt ?_)
  unfold unpack
  rw [hn, hst]
  have fin : ∀ (its : List Value), Vals xs its → ∀ (h' : Heap) (tk : Nat), (∀ b o, s.heap.get? b = some o → h'.get? b = some o) → wpAny (model X.prog X.w) X.A (assignInOrder ((assignEach es X.env).map (·.2)) (starF its i ++ [.ref h'.objs.size] ++ starE its i n)) (fun _ s' => ∃ σ' H', Inv X pins σ' H' s' ∧ Q σ' H') X.xe { s with heap := h'.push { cls := .type "list", data := .seq (starM its i n).toArray }, toks := tk } := by
    intro its rv h' tk hk
    have I1 : Inv X pins σ H { s with heap := h', toks := tk } := I.kept hk
    have hf : H h'.objs.size = none := I1.hok.fresh (Nat.le_refl _)
    have lx := rv.length
    have rm : Vals (starM xs i n) (starM its i n) := by unfold starM; rw [lx]; exact valsTk (valsDp rv _) _
    have I2 : Inv X pins σ (upd H h'.objs.size (.lst (starM xs i n))) { s with heap := h'.push { cls := .type "list", data := .seq (starM its i n).toArray }, toks := tk } :=
      I1.laid (t' := tk) (fun b o e => Heap.get?_push_of_some _ e) (Nat.le_refl _) (show ObjOk X.prog X.w _ _ _ (.lst (starM xs i n)) from ⟨by unfold starM; rw [List.length_take, List.length_drop, sizeLine_eq]; omega, starM its i n, 0, rm, Heap.get?_push_size _ rfl⟩)
    have rr : Vals (starF xs i ++ [.ref h'.objs.size] ++ starE xs i n) (starF its i ++ [.ref h'.objs.size] ++ starE its i n) := by
      unfold starF starE
      rw [lx]
      exact ((valsTk rv _).append (.cons (show RelV (V.ref h'.objs.size) (Value.ref h'.objs.size) from rfl) .nil)).append (valsDp (valsDp rv _) _)
    exact h.run pins _ σ _ _ _ Q I2 rr (hw _ hf)
  rcases hq with hq | hq
  · obtain ⟨its, rv, pl, _⟩ := I.list hq
    have hl : s.heap.IsList a its.toArray := by
      obtain ⟨o, m, e, c, d, q⟩ := pl
      exact ⟨o, e, c, m, q⟩
    have lx := rv.length
    refine wpAny_bind (wpAny_holding (star_list hl (I.ok.hd hc) hi (by rw [List.size_toArray]; omega) (by rw [List.size_toArray]; omega) fun h' tk hk => ?_))
    exact fin its rv h' tk hk
  · obtain ⟨its, rv, pl, _⟩ := I.tuple hq
    have lx := rv.length
    refine wpAny_bind (wpAny_holding (star_tup pl (I.ok.hd hc) hi (by rw [List.size_toArray]; omega) (by rw [List.size_toArray]; omega) fun h' tk hk => ?_))
    exact fin its rv h' tk hk
def setV : List Nat → List V → L2.St → L2.St
  | i :: is, v :: vs, σ => setV is vs (σ.set i (some v))
  | _, _, σ => σ
def gNs (is : List Nat) : TGs := fun vs σ H Q => vs.length = is.length ∧ Q (setV is vs σ) H
section
variable {tb : Tb} {c : Cf} {X : Cx} {S : Sc} {N : Nat}
theorem gns_cons {i : Nat} {is : List Nat} : ∀ vs σ H Q, gNs (i :: is) vs σ H Q → gCons (gName i) (gNs is) vs σ H Q := by
  intro vs σ H Q ⟨h1, h2⟩
  cases vs with
  | nil => cases h1
  | cons v vs => exact ⟨v, vs, rfl, by simpa using h1, h2⟩
theorem s_starN (g : Gd tb c X S) : ∀ (is : List Nat) (xs : List Expr), chkStarN S is xs = true → PGs X xs (gNs is) ∧ xs.all notStar = true ∧ xs.length = is.length
  | [], xs, h => by
    unfold chkStarN at h
    have hx := List.isEmpty_iff.mp h
    subst hx
    refine ⟨pgs_imp pgs_nil fun vs σ H Q ⟨h1, h2⟩ => ?_, rfl, rfl⟩
    cases vs with
    | nil => exact ⟨rfl, h2⟩
    | cons _ _ => cases h1
  | i :: is, xs, h => by
    unfold chkStarN at h
    split at h
    · obtain ⟨h1, h2, h3⟩ := and3 h
      obtain ⟨l1, l2⟩ := stC_ok g h2
      obtain ⟨p1, p2, p3⟩ := s_starN g _ _ h3
      exact ⟨pgs_imp (pgs_cons (pg_name g.nd (by rw [g.n]; exact of_decide_eq_true h1) l1 l2) p1 (by rw [starA_cons rfl]; rfl)) gns_cons, by rw [List.all_cons, p2]; rfl, by rw [List.length_cons, List.length_cons, p3]⟩
    · cases h
theorem pgs_starred {e : Expr} {p : Pos} {es : List Expr} {t : TG} {u : TGs} (h1 : PG X e t) (h2 : PGs X es u) : PGs X (.Starred e p :: es) (gCons t u) := by
  refine ⟨fun pins s σ H vs us Q I r h => ?_⟩
  obtain ⟨v, vr, e1, h⟩ := h
  subst e1
  cases r with
  | cons r rr =>
    show wpAny _ _ (assignInOrder (assign e X.env :: (assignEach es X.env).map (·.2)) _) _ _ _
    refine assignInOrder_cons (thn (h1.run pins s σ H _ _ _ I r h) fun _ s1 ⟨σ1, H1, I1, q1⟩ => ?_)
    exact h2.run pins s1 σ1 H1 _ _ Q I1 rr q1
theorem s_starL (g : Gd tb c X S) : ∀ (is : List Nat) (j : Nat) (xs : List Expr), chkStar S is j xs = true → j < is.length → PGs X xs (gNs is) ∧ (assignEach xs X.env).findIdx? (·.1) = some j ∧ (assignEach xs X.env).length = is.length
  | [], _, _, _, h => by cases h
  | i :: is, 0, xs, h, _ => by
    unfold chkStar at h
    split at h
    · obtain ⟨h1, h2, h3⟩ := and3 h
      obtain ⟨l1, l2⟩ := stC_ok g h2
      obtain ⟨p1, p2, p3⟩ := s_starN (X := X) g _ _ h3
      obtain ⟨q1, q2⟩ := starA_idx (env := X.env) p2
      refine ⟨pgs_imp (pgs_starred (pg_name g.nd (by rw [g.n]; exact of_decide_eq_true h1) l1 l2) p1) gns_cons, rfl, ?_⟩
      show (assignEach _ X.env).length + 1 = _
      rw [q2, p3]; rfl
    · cases h
  | i :: is, j + 1, xs, h, hj => by
    unfold chkStar at h
    split at h
    · obtain ⟨h1, h2, h3⟩ := and3 h
      obtain ⟨l1, l2⟩ := stC_ok g h2
      obtain ⟨p1, p2, p3⟩ := s_starL g _ _ _ h3 (by simpa using hj)
      refine ⟨pgs_imp (pgs_cons (pg_name g.nd (by rw [g.n]; exact of_decide_eq_true h1) l1 l2) p1 (by rw [starA_cons rfl]; rfl)) gns_cons, ?_, ?_⟩
      · rw [starA_cons rfl, List.findIdx?_cons, p2]; rfl
      · rw [starA_cons rfl, List.length_cons, p3]; rfl
    · cases h
theorem setL_rep {K : PySem.W.Frag} {ρ : Ro} {H : Hp} : ∀ {is : List Nat} {zs : List Z} {vs : List V} {en : En} {σ : L2.St}, RepL K ρ H zs vs → RepE K ρ H en σ → RepE K ρ H (setL is zs en) (setV is vs σ)
  | [], _, _, _, _, _, r => by unfold setL setV; exact r
  | i :: is, [], vs, en, σ, h, r => by rw [repL_nil.mp h]; unfold setL setV; exact r
  | i :: is, z :: zs, vs, en, σ, h, r => by
    obtain ⟨v, us, rfl, h1, h2⟩ := repL_cons.mp h
    unfold setL setV
    exact setL_rep h2 (r.set h1 i)
theorem s_asgS {k : Bool} {is : List Nat} {i : Nat} {e : E} {tgs : List Expr} {kk : Nat} {tp p : Pos} {v : Expr} (g : Gd tb c X S) (h1 : chkStar S is i tgs = true) (hi : i < is.length) (hv : notTup v = true) (h2 : chkE tb S e v = true) : PS X (.Assign [.Tuple tgs kk tp] v p) (TS1 c N (.asgS k is i e)) := by
  obtain ⟨q1, q2, q3⟩ := s_starL (c := c) g is i tgs h1 hi
  refine ps_imp (ps_asg (snd_e e v X S g h2).pe (pg_star g.calm q1 q3 q2) (noSwT rfl) (swNot2 fun vs a b he => by subst he; cases hv) rfl) fun D σ H ⟨en, ρ, st, r, w, q⟩ => ?_
  unfold ex at q
  have key : TZ c e σ H fun x H1 => gStar c.K is.length i (gNs is) x σ H1 D.nx := by
    refine tz_next r w q fun z st1 ρ1 H1 v e1 s1 w1 r1 hv q1 => ?_
    cases hs : seqv st1 z with
    | none => rw [hs] at q1; exact q1.elim
    | some zs =>
      rw [hs] at q1
      simp only at q1
      split at q1
      · rename_i hc
        obtain ⟨c1, c2, c3⟩ := hc
        obtain ⟨a, vs, rfl, k1, l, k4⟩ := seqv_at w1 hv hs
        have lv := k4.length
        refine ⟨a, vs, rfl, k1.imp id And.left, c1, by omega, by omega, fun Da hD => ⟨?_, ?_⟩⟩
        · unfold starF starE
          simp only [List.length_append, List.length_take, List.length_drop, List.length_cons, List.length_nil]
          omega
        · have rm : RepL c.K ρ1 H1 (starM zs i is.length) (starM vs i is.length) := by unfold starM; rw [lv]; exact (k4.drop _).take _
          have lm : (starM zs i is.length).length ≤ sizeL := by unfold starM sizeL; rw [List.length_take, List.length_drop]; omega
          have fin : ∀ m st2 ρ2, Evo ρ1 H1 ρ2 (upd H1 Da (.lst (starM vs i is.length))) → Wd c.K ρ2 st2 (upd H1 Da (.lst (starM vs i is.length))) → Rep c.K ρ2 (upd H1 Da (.lst (starM vs i is.length))) m (.ref Da) →
              RSat c.K c.b ρ2 (upd H1 Da (.lst (starM vs i is.length))) st2 (.ok (.nx (setL is (starF zs i ++ [m] ++ starE zs i is.length) en)) st2) (EndsZ c D) → D.nx (setV is (starF vs i ++ [.ref Da] ++ starE vs i is.length) σ) (upd H1 Da (.lst (starM vs i is.length))) := by
            intro m st2 ρ2 e2 w2 rm2 qq
            refine qq.ok_inv w2 _ (setL_rep ?_ (r1.evo e2))
            unfold starF starE
            rw [lv]
            exact ((RepL.evo e2 _ _ (k4.take _)).append (repL_cons.mpr ⟨_, [], rfl, rm2, repL_nil.mpr rfl⟩)).append (RepL.evo e2 _ _ ((k4.drop _).drop _))
          cases k with
          | false =>
            have q2 : RSat c.K c.b ρ1 H1 st1 (.ok (.nx (setL is (starF zs i ++ [.lst (starM zs i is.length)] ++ starE zs i is.length) en)) st1) (EndsZ c D) := q1
            exact fin _ st1 ρ1 (evo_new hD) (w1.new hD) (rep_lst.mpr ⟨Da, _, rfl, upd_same, w1.notin hD, lm, RepL.evo (evo_new hD) _ _ rm⟩) (q2.base (evo_new hD) .refl)
          | true =>
            have q2 : RSat c.K c.b ρ1 H1 st1 (.ok (.nx (setL is (starF zs i ++ [.cel st1.length] ++ starE zs i is.length) en)) (st1 ++ [.lst (starM zs i is.length)])) (EndsZ c D) := q1
            have e2 := evo_cell (ρ := ρ1) (o := HO.lst (starM vs i is.length)) hD
            refine fin _ (st1 ++ [.lst (starM zs i is.length)]) (ρ1.add Da) e2 (w1.cell (c := .lst (starM zs i is.length)) hD ⟨Da, _, rfl, upd_same, lm, RepL.evo e2 _ _ rm⟩) (rep_cel.mpr ⟨by rw [← w1.len]; simp [Ro.add], fun a' h => ?_⟩) (q2.base e2 sub_app)
            rw [← w1.len] at h
            have h' : some (some Da) = some (some a') := by simpa [Ro.add] using h
            cases h'
            rfl
      · exact q1.elim
  rw [g.k]
  exact key
end
section
variable {tb : Tb} {c : Cf} {N : Nat}
mutual
theorem snd_s : ∀ (s : ZZ.S) (x : Stmt) (X : Cx) (S : Sc), Gd tb c X S → PassesOwn (model X.prog X.w) X.A X.env X.xe → chkS tb S s x = true → PS X x (TS1 c N s)
  | .asg (.t (.v i)) e, x, X, S, g, hp, h => by
    unfold chkS at h
    split at h <;> first | cases h | skip
    exact s_set g h
  | .asg (.t (.tup ts)) e, x, X, S, g, hp, h => by
    unfold chkS at h
    split at h <;> first | cases h | skip
    rcases Bool.or_eq_true_iff.mp h with h | h
    · obtain ⟨h1, h2, h3⟩ := and3 h
      exact s_asgT g h1 h2 h3
    · split at h <;> first | cases h | skip
      exact s_parA g h
  | .asg (.ix a i) e, x, X, S, g, hp, h => by
    unfold chkS at h
    split at h <;> first | cases h | skip
    obtain ⟨h, h4⟩ := and_t h
    obtain ⟨h1, h2, h3⟩ := and3 h
    exact s_asgI g h1 h2 h3 h4
  | .asg (.fd _ _ _) _, x, X, S, g, hp, h => by unfold chkS at h; cases h
  | .asgS k is i e, x, X, S, g, hp, h => by
    unfold chkS at h
    split at h <;> first | cases h | skip
    obtain ⟨h, h4⟩ := and_t h
    obtain ⟨h1, h2, h3⟩ := and3 h
    exact s_asgS g h1 (of_decide_eq_true h2) h3 h4
  | .asgF i cl fs es, x, X, S, g, hp, h => by
    unfold chkS at h
    split at h <;> first | cases h | skip
    · split at h <;> first | cases h | skip
      obtain ⟨h1, h2⟩ := and_t h
      exact s_asgF1 g h1 h2 rfl (fun _ _ _ e => nomatch e) (fun _ _ e => nomatch e) rfl
    · obtain ⟨h, h4⟩ := and_t h
      obtain ⟨h1, h2, h3⟩ := and3 h
      exact s_asgFT g h1 (of_decide_eq_true h2) h3 h4
  | .aug i o e, x, X, S, g, hp, h => by
    unfold chkS at h
    split at h <;> first | cases h | skip
    obtain ⟨h, h5⟩ := and_t h
    obtain ⟨h, h4⟩ := and_t h
    obtain ⟨h1, h2, h3⟩ := and3 h
    have h1 := of_decide_eq_true h1
    subst h1
    exact s_aug g h2 (of_decide_eq_true h3) h4 h5
  | .augix _ _ _ _, x, X, S, g, hp, h => by unfold chkS at h; cases h
  | .ex e, x, X, S, g, hp, h => by
    unfold chkS at h
    split at h <;> first | cases h | skip
    obtain ⟨h1, h2⟩ := and_t h
    refine ps_imp (ps_expr (snd_e e _ X S g h2).pe (noSw (ntrue h1))) fun D σ H ⟨en, ρ, st, r, w, q⟩ => ?_
    unfold ex at q
    exact tz_next r w q fun z st1 ρ1 H1 v e1 s1 w1 r1 hv q1 => RSat.ok_inv w1 q1 σ r1
  | .ret none, x, X, S, g, hp, h => by
    unfold chkS at h
    split at h <;> first | cases h | skip
    refine ps_imp ps_retN fun D σ H ⟨en, ρ, st, r, w, q⟩ => ?_
    unfold ex at q
    exact RSat.ok_inv w q _ (rep_non.mpr rfl)
  | .ret (some e), x, X, S, g, hp, h => by
    unfold chkS at h
    split at h <;> first | cases h | skip
    refine ps_imp (ps_ret (snd_e e _ X S g h).pe) fun D σ H ⟨en, ρ, st, r, w, q⟩ => ?_
    unfold ex at q
    exact tz_next r w q fun z st1 ρ1 H1 v e1 s1 w1 r1 hv q1 => RSat.ok_inv w1 q1 v hv
  | .ife e a b, x, X, S, g, hp, h => by
    unfold chkS at h
    split at h <;> first | cases h | skip
    obtain ⟨h1, h2, h3⟩ := and3 h
    refine ps_imp (ps_if (snd_e e _ X S g h1).pt (snd_ss a _ X S g hp h2) (snd_ss b _ X S g hp h3)) fun D σ H ⟨en, ρ, st, r, w, q⟩ => ?_
    unfold ex at q
    refine tzt_next (f := fun _ k st => if k = true then exs c.F c.G c.b N a en st else exs c.F c.G c.b N b en st) r w q fun z k st1 ρ1 H1 e1 s1 w1 r1 he q1 => ?_
    cases k with
    | true => exact ⟨en, ρ1, st1, r1, w1, q1⟩
    | false => exact ⟨en, ρ1, st1, r1, w1, q1⟩
  | .fo t i b, x, X, S, g, hp, h => by
    unfold chkS at h
    split at h <;> first | cases h | skip
    obtain ⟨h, h4⟩ := and_t h
    obtain ⟨h1, h2, h3⟩ := and3 h
    exact ps_imp (ps_for hp g.calm (snd_i i _ _ X S g h2) (s_tg g t _ h3) (snd_ss b _ X S g hp h4) (fold_ok h1)) rd_for
  | .wh e b, x, X, S, g, hp, h => by
    unfold chkS at h
    split at h <;> first | cases h | skip
    obtain ⟨h1, h2⟩ := and_t h
    exact ps_imp (ps_while hp (snd_e e _ X S g h1).pt (snd_ss b _ X S g hp h2)) rd_while
  | .brk, x, X, S, g, hp, h => by
    unfold chkS at h
    split at h <;> first | cases h | skip
    refine ps_imp ps_break fun D σ H ⟨en, ρ, st, r, w, q⟩ => ?_
    unfold ex at q
    exact RSat.ok_inv w q σ r
  | .cont, x, X, S, g, hp, h => by
    unfold chkS at h
    split at h <;> first | cases h | skip
    refine ps_imp ps_continue fun D σ H ⟨en, ρ, st, r, w, q⟩ => ?_
    unfold ex at q
    exact RSat.ok_inv w q σ r
  | .pass, x, X, S, g, hp, h => by
    unfold chkS at h
    split at h <;> first | cases h | skip
    refine ps_imp ps_pass fun D σ H ⟨en, ρ, st, r, w, q⟩ => ?_
    unfold ex at q
    exact RSat.ok_inv w q σ r
  | .fz _, x, X, S, g, hp, h => by unfold chkS at h; cases h
  | .raise cc e, x, X, S, g, hp, h => ps_imp ps_never fun D σ H ⟨en, ρ, st, r, w, q⟩ => by
    unfold ex at q
    cases he : ev c.F c.G c.b e en st with
    | ok z st1 => rw [he] at q; exact q.elim
    | exn _ _ _ => rw [he] at q; exact q.elim
    | no => rw [he] at q; exact q.elim
  | .never, x, X, S, g, hp, h => ps_imp ps_never fun D σ H ⟨en, ρ, st, r, w, q⟩ => by
    unfold ex at q
    exact q.elim
theorem snd_ss : ∀ (ss : List ZZ.S) (xs : List Stmt) (X : Cx) (S : Sc), Gd tb c X S → PassesOwn (model X.prog X.w) X.A X.env X.xe → chkSs tb S ss xs = true → PSs X xs (TSs c N ss)
  | [], [], X, S, g, hp, h => pss_imp pss_nil fun D σ H ⟨en, ρ, st, r, w, q⟩ => by
    unfold exs at q
    exact RSat.ok_inv w q σ r
  | [], _ :: _, X, S, g, hp, h => by unfold chkSs at h; cases h
  | s :: ss, xs, X, S, g, hp, h => by
    by_cases hf : ∃ i, s = .fz i
    · obtain ⟨i, rfl⟩ := hf
      unfold chkSs at h
      exact pss_imp (snd_ss ss xs X S g hp h) rd_fz
    · have h2 : ∃ x r, xs = x :: r ∧ chkS tb S s x = true ∧ chkSs tb S ss r = true := by
        unfold chkSs at h
        split at h
        · rename_i heq; cases heq
        · rename_i heq; injection heq with a b; exact absurd ⟨_, a⟩ hf
        · rename_i heq
          injection heq with a b
          subst a b
          split at h <;> first | cases h | skip
          obtain ⟨h1, h2⟩ := and_t h
          exact ⟨_, _, rfl, h1, h2⟩
        · rename_i heq; cases heq
      obtain ⟨x, r, rfl, h3, h4⟩ := h2
      refine pss_imp (pss_cons (snd_s s x X S g hp h3) (snd_ss ss r X S g hp h4)) fun D σ H ⟨en, ρ, st, r, w, q⟩ => ?_
      unfold exs at q
      refine ⟨en, ρ, st, r, w, q.bind.mono fun fl st1 ρ1 H1 e1 s1 w1 q1 => ?_⟩
      cases fl with
      | nx en2 => exact fun σ2 r2 => ⟨en2, ρ1, st1, r2, w1, q1⟩
      | ct en2 => exact fun σ2 r2 => RSat.ok_inv w1 q1 σ2 r2
      | bk en2 => exact fun σ2 r2 => RSat.ok_inv w1 q1 σ2 r2
      | rt v => exact fun v2 r2 => RSat.ok_inv w1 q1 v2 r2
end
end
end ZZ

end
section
set_option maxHeartbeats 4000000
/-! ZBind: how arguments come to parameters. -/
namespace ZZ
open PySem PySem.Spec PyProof.Rows L2
open PySem.W (Looks)
theorem looks_for {α β : Type} {M : Model} {h : Heap} {f : α → β → Sem (ForInStep β)} (g : α → β → β) (I : List α → β → Prop) : ∀ (l : List α) (b : β), I l b → (∀ a r b, I (a :: r) b → Looks M h (f a b) (.yield (g a b)) ∧ I r (g a b)) → Looks M h (forIn l b f) (l.foldl (fun b a => g a b) b)
  | [], b, _, _ => by rw [List.forIn_nil]; exact Looks.now
  | a :: r, b, hi, hf => by
    rw [List.forIn_cons]
    obtain ⟨h1, h2⟩ := hf a r b hi
    exact h1.andThen (looks_for g I r _ h2 hf)
def addN (s : List (Str × Value)) (p : Str × Value) : List (Str × Value) := if (s.lookup p.1).isNone = true then s ++ [(p.1, p.2)] else s
theorem lookup_one {n : Str} {p : Str × Value} : List.lookup n [(p.1, p.2)] = if n == p.1 then some p.2 else none := by
  show (match n == p.1 with | true => some p.2 | false => List.lookup n []) = _
  cases n == p.1 <;> rfl
theorem lookup_addN {s : List (Str × Value)} {p : Str × Value} {n : Str} : (addN s p).lookup n = (s.lookup n).or (List.lookup n [(p.1, p.2)]) := by
  unfold addN
  by_cases h : (s.lookup p.1).isNone = true
  · rw [if_pos h, List.lookup_append]
  · rw [if_neg h, lookup_one]
    by_cases e : (n == p.1) = true
    · have e' : n = p.1 := by simpa using e
      subst e'
      cases q : s.lookup p.1 with
      | none => rw [q] at h; exact absurd rfl h
      | some v => rfl
    · rw [if_neg e]; cases s.lookup n <;> rfl
theorem lookup_fold {n : Str} : ∀ (dz s : List (Str × Value)), (dz.foldl addN s).lookup n = (s.lookup n).or (dz.lookup n)
  | [], s => by simp
  | p :: dz, s => by
    rw [List.foldl_cons, lookup_fold dz, lookup_addN, Option.or_assoc]
    congr 1
    rw [← List.lookup_append]
    rfl
theorem fold_kw : ∀ (kw : List (Str × Value)) (s e : List (Str × Value)), kw.foldl (fun (b : List (Str × Value) × List (Str × Value)) a => (b.1 ++ [(a.1, a.2)], b.2)) (s, e) = (s ++ kw, e)
  | [], s, e => by simp
  | p :: kw, s, e => by
    rw [List.foldl_cons, fold_kw kw]
    simp
theorem fold_ko (kd : Str → Value) : ∀ (ns : List Str) (s : List (Str × Value)) (m : List Str), ns.foldl (fun (b : List (Str × Value) × List Str) n => (addN b.1 (n, kd n), b.2)) (s, m) = ((ns.map fun n => (n, kd n)).foldl addN s, m)
  | [], _, _ => rfl
  | n :: ns, s, m => by
    rw [List.foldl_cons, fold_ko kd ns]
    rfl
theorem lookup_none_of {n : Str} {l : List (Str × Value)} (h : n ∉ l.map (·.1)) : l.lookup n = none := by
  induction l with
  | nil => rfl
  | cons p l ih =>
    rw [List.map_cons] at h
    have h1 : n ≠ p.1 := fun e => h (by rw [e]; exact List.mem_cons_self)
    have h2 : n ∉ l.map (·.1) := fun e => h (List.mem_cons_of_mem _ e)
    obtain ⟨a, b⟩ := p
    rw [List.lookup_cons]
    have : (n == a) = false := by simpa using h1
    rw [this]
    exact ih h2
section
variable {K : PySem.W.Frag} {M : Model} {h : Heap} {x qual : Str} {params : Arguments} {body : List Stmt} {scope : Scope} {dvs : List V} {kws : List (Str × V)} {dV kV doc pm cdv ct : Value} {an : Option Addr}
theorem items_of (X : K.In h) (hD : DflV K dV dvs) : ∃ its : List Value, Vals dvs its ∧ ∀ M, ∃ o : Option (Array Value), Looks M h (seqItems? dV) o ∧ (o.getD #[]).toList = its := by
  rcases hD with ⟨rfl, rfl⟩ | ⟨_, T, o, its, n, rfl, lT, oT, rT⟩
  · exact ⟨[], .nil, fun M => ⟨none, Looks.of_pure rfl, rfl⟩⟩
  · refine ⟨its, rT, fun M => ⟨some its.toArray, ?_, by simp⟩⟩
    have := looks_items (M := M) (k := fun o => pure o) (r := some its.toArray) X lT oT Looks.now
    rw [bind_pure] at this
    exact this
theorem dflt_of (hK : KwdV K kV kws) : ∃ kd : Str → Value, ∀ q ∈ kws, RelV q.2 (kd q.1) ∧ ∀ h, K.In h → ∀ M, ∃ D, kV = .ref D ∧ Looks M h (nsGet D q.1) (some (kd q.1)) := by
  rcases hK with e | ⟨D, rfl, hq⟩
  · subst e
    exact ⟨fun _ => .none, fun q hq => by cases hq⟩
  · refine ⟨fun n => ((PySem.W.nsIn K D n).getD none).getD .none, fun q hm => ?_⟩
    obtain ⟨u, e1, e2⟩ := hq q hm
    have e3 : ((PySem.W.nsIn K D q.1).getD none).getD .none = u := by rw [e1]; rfl
    refine ⟨by show RelV q.2 (((PySem.W.nsIn K D q.1).getD none).getD .none); rw [e3]; exact e2, fun h X M => ⟨D, rfl, ?_⟩⟩
    show Looks M h (nsGet D q.1) (some (((PySem.W.nsIn K D q.1).getD none).getD .none))
    rw [e3]
    exact PySem.W.looks_nsIn X e1
/-- what the binder gives, by lookups -/
theorem looks_bind (hp : params.posonlyargs = []) (hv : params.vararg = none) (hkw : params.kwarg = none) (hD : DflV K dV dvs) (hK : KwdV K kV kws) {N1 N2 : List Str} (h1 : params.args.map (·.arg) = N1) (h2 : params.kwonlyargs.map (·.arg) = N2) (us : List Value) (kw : List (Str × Value))
    (c1 : ∀ p ∈ kw, N1.contains p.1 = true ∨ N2.contains p.1 = true) (c2 : (kw.map (·.1)).Nodup) (c3 : ∀ p ∈ kw, (N1.zip us).lookup p.1 = none) (c4 : us.length ≤ N1.length) (c5 : dvs.length ≤ N1.length)
    (c6 : ∀ n ∈ N1.take (N1.length - dvs.length), ((N1.zip us) ++ kw).lookup n ≠ none) (c7 : ∀ n ∈ N2, kw.lookup n ≠ none ∨ n ∈ kws.map (·.1)) (c8 : ∀ n ∈ N2, n ∉ N1) (X : K.In h) :
    ∃ (its : List Value) (kd : Str → Value) (S : List (Str × Value)), Vals dvs its ∧ (∀ q ∈ kws, RelV q.2 (kd q.1)) ∧ (∀ n, S.lookup n = ((N1.zip us).lookup n).or ((kw.lookup n).or (((N1.drop (N1.length - dvs.length)).zip its).lookup n |>.or ((N2.map fun n => (n, kd n)).lookup n)))) ∧
      ∀ M, Looks M h (bindArgs (PySem.W.fnOf x qual params body scope dV kV doc pm an cdv ct) ⟨us, kw⟩) ((N1 ++ N2).filterMap fun n => (S.lookup n).map fun v => (n, v)) := by
  obtain ⟨its, ri, hits⟩ := items_of X hD
  obtain ⟨kd, hkd⟩ := dflt_of hK
  have li : its.length = dvs.length := ri.length.symm
  refine ⟨its, kd, (N2.map fun n => (n, kd n)).foldl addN (((N1.drop (N1.length - dvs.length)).zip its).foldl addN (N1.zip us ++ kw)), ri, fun q hq => (hkd q hq).1, fun n => ?_, fun M => ?_⟩
  · rw [lookup_fold, lookup_fold, List.lookup_append]
    simp only [Option.or_assoc]
  obtain ⟨o, lo, eo⟩ := hits M
  unfold bindArgs
  simp only [PySem.W.fnOf, hp, hv, hkw, h1, h2, List.map_nil, List.nil_append]
  refine Looks.andThen (looks_for (fun (a : Str × Value) (b : List (Str × Value) × List (Str × Value)) => (b.1 ++ [(a.1, a.2)], b.2)) (fun r b => (∀ p ∈ r, N1.contains p.1 = true ∨ N2.contains p.1 = true) ∧ (r.map (·.1)).Nodup ∧ ∀ p ∈ r, b.1.lookup p.1 = none) kw (N1.zip us, []) ⟨c1, c2, c3⟩ fun a r b hI => ?_) ?_
  · obtain ⟨i1, i2, i3⟩ := hI
    refine ⟨?_, fun p hp => i1 p (List.mem_cons_of_mem _ hp), (List.nodup_cons.mp i2).2, fun p hp => ?_⟩
    · rw [if_pos (by rw [Bool.or_eq_true]; exact i1 a List.mem_cons_self), if_neg (by rw [i3 a List.mem_cons_self]; decide)]
      exact Looks.now
    · show (b.1 ++ [(a.1, a.2)]).lookup p.1 = none
      rw [List.lookup_append, i3 p (List.mem_cons_of_mem _ hp), lookup_one, if_neg]
      · rfl
      · intro e
        have e' : p.1 = a.1 := by simpa using e
        exact (List.nodup_cons.mp i2).1 (List.mem_map.mpr ⟨p, hp, e'⟩)
  rw [fold_kw]
  refine Looks.andThen lo ?_
  simp only [eo]
  have e1 : (decide (us.length > N1.length) && (none : Option Arg).isNone) = false := by
    rw [decide_eq_false (by omega)]; rfl
  have e2 : dvs.length - N1.length = 0 := by omega
  have e3 : N1.length - (List.drop 0 its).length = N1.length - dvs.length := by rw [List.drop_zero, li]
  have e4 : (!(List.filter (fun n => (List.lookup n (N1.zip us ++ kw)).isNone) (List.take (N1.length - dvs.length) N1)).isEmpty) = false := by
    have : List.filter (fun n => (List.lookup n (N1.zip us ++ kw)).isNone) (List.take (N1.length - dvs.length) N1) = [] := by
      rw [List.filter_eq_nil_iff]
      intro n hn
      have := c6 n hn
      cases q : List.lookup n (N1.zip us ++ kw) with
      | none => exact absurd q this
      | some _ => simp
    rw [this]; rfl
  simp only [e1, e2, List.drop_zero, li, e4, Bool.false_eq_true, if_false]
  refine Looks.andThen (looks_for (fun (a : Str × Value) (b : List (Str × Value)) => addN b a) (fun _ _ => True) _ _ trivial fun a r b _ => ⟨?_, trivial⟩) ?_
  · unfold addN
    by_cases q : (List.lookup a.1 b).isNone = true
    · rw [if_pos q, if_pos q]; exact Looks.now
    · rw [if_neg q, if_neg q]; exact Looks.now
  generalize hS2 : List.foldl (fun b a => addN b a) (N1.zip us ++ kw) ((List.drop (N1.length - dvs.length) N1).zip its) = S2
  have hS2' : ((N1.drop (N1.length - dvs.length)).zip its).foldl addN (N1.zip us ++ kw) = S2 := hS2
  have kl : ∀ n, kw.lookup n ≠ none → S2.lookup n ≠ none := fun n hn => by
    rw [← hS2', lookup_fold, List.lookup_append]
    cases (N1.zip us).lookup n with
    | some v => simp
    | none => cases q : kw.lookup n with
      | none => exact absurd q hn
      | some v => simp
  refine Looks.andThen (looks_for (fun (n : Str) (b : List (Str × Value) × List Str) => (addN b.1 (n, kd n), b.2)) (fun r b => (∀ n ∈ r, b.1.lookup n ≠ none ∨ n ∈ kws.map (·.1))) N2 (S2, []) (fun n hn => ?_) fun a r b hI => ⟨?_, fun n hn => ?_⟩) ?_
  · rcases c7 n hn with q | q
    · exact .inl (kl n q)
    · exact .inr q
  · by_cases q : (List.lookup a b.1).isNone = true
    · have q0 : List.lookup a b.1 = none := by simpa using q
      rcases hI a List.mem_cons_self with z | z
      · exact absurd q0 z
      · obtain ⟨p, hp, rfl⟩ := List.mem_map.mp z
        obtain ⟨D, eD, lD⟩ := (hkd p hp).2 h X M
        subst eD
        rw [if_pos q]
        have : addN b.1 (p.1, kd p.1) = b.1 ++ [(p.1, kd p.1)] := by unfold addN; rw [if_pos q]
        rw [this]
        exact Looks.andThen lD Looks.now
    · rw [if_neg q]
      have : addN b.1 (a, kd a) = b.1 := by unfold addN; rw [if_neg q]
      rw [this]
      exact Looks.now
  · rcases hI n (List.mem_cons_of_mem _ hn) with z | z
    · refine .inl ?_
      rw [lookup_addN]
      cases q : b.1.lookup n with
      | none => exact absurd q z
      | some v => simp
    · exact .inr z
  rw [fold_ko]
  exact Looks.now
end
/-! ### names told apart; values in the parameters' order -/
inductive Two {α β : Type} (P : α → β → Prop) : List α → List β → Prop
  | nil : Two P [] []
  | cons {a : α} {b : β} {as : List α} {bs : List β} (h : P a b) (t : Two P as bs) : Two P (a :: as) (b :: bs)
theorem Two.app {α β : Type} {P : α → β → Prop} : ∀ {as : List α} {bs : List β} {as' : List α} {bs' : List β}, Two P as bs → Two P as' bs' → Two P (as ++ as') (bs ++ bs')
  | _, _, _, _, .nil, h => h
  | _, _, _, _, .cons a t, h => .cons a (t.app h)
theorem Two.imp {α β : Type} {P Q : α → β → Prop} : ∀ {as : List α} {bs : List β}, Two P as bs → (∀ a b, a ∈ as → P a b → Q a b) → Two Q as bs
  | _, _, .nil, _ => .nil
  | _, _, .cons a t, h => .cons (h _ _ List.mem_cons_self a) (t.imp fun a b m => h a b (List.mem_cons_of_mem _ m))
theorem zip_of_lookups {S : List (Str × Value)} : ∀ {ps : List Str} {us : List Value}, Two (fun n u => S.lookup n = some u) ps us → (ps.filterMap fun n => (S.lookup n).map fun v => (n, v)) = ps.zip us
  | [], _, .nil => rfl
  | n :: ps, _, .cons h1 h2 => by
    rw [List.filterMap_cons, h1]
    simp only [Option.map_some]
    rw [zip_of_lookups h2]
    rfl
theorem zip_two : ∀ {N : List Str} {us : List Value}, N.Nodup → us.length ≤ N.length → Two (fun n u => (N.zip us).lookup n = some u) (N.take us.length) us
  | _, [], _, _ => by rw [List.length_nil, List.take_zero]; exact .nil
  | [], _ :: _, _, h => by simp at h
  | n :: N, u :: us, hn, h => by
    rw [List.length_cons, List.take_succ_cons]
    obtain ⟨h1, h2⟩ := List.nodup_cons.mp hn
    refine .cons (by rw [List.zip_cons_cons, List.lookup_cons_self]) ((zip_two (N := N) (us := us) h2 (by simpa using h)).imp fun a b m e => ?_)
    rw [List.zip_cons_cons, List.lookup_cons]
    have : (a == n) = false := by
      have : a ≠ n := fun q => h1 (by rw [← q]; exact List.mem_of_mem_take m)
      simpa using this
    rw [this]
    exact e
theorem zip_at : ∀ {N : List Str} {us : List Value} {j : Nat} {n : Str} {u : Value}, N.Nodup → N[j]? = some n → us[j]? = some u → (N.zip us).lookup n = some u
  | [], _, _, _, _, _, h, _ => by simp at h
  | _ :: _, [], _, _, _, _, _, h => by simp at h
  | m :: N, w :: us, 0, n, u, hn, h, g => by
    simp at h g
    subst h; subst g
    rw [List.zip_cons_cons, List.lookup_cons_self]
  | m :: N, w :: us, j + 1, n, u, hn, h, g => by
    obtain ⟨h1, h2⟩ := List.nodup_cons.mp hn
    have h' : N[j]? = some n := by simpa using h
    rw [List.zip_cons_cons, List.lookup_cons]
    have : (n == m) = false := by
      have : n ≠ m := fun q => h1 (by rw [← q]; exact List.mem_of_getElem? h')
      simpa using this
    rw [this]
    exact zip_at h2 h' (by simpa using g)
theorem zip_out {N : List Str} {us : List Value} {n : Str} (h : n ∉ N.take us.length) : (N.zip us).lookup n = none := by
  refine lookup_none_of fun m => h ?_
  have : (N.zip us).map (·.1) = N.take us.length := by
    induction N generalizing us with
    | nil => simp
    | cons a N ih => cases us with
      | nil => simp
      | cons u us =>
        rw [List.zip_cons_cons, List.map_cons, List.length_cons, List.take_succ_cons]
        congr 1
        exact ih (fun q => h (by rw [List.length_cons, List.take_succ_cons]; exact List.mem_cons_of_mem _ q)) (by
          rw [List.zip_cons_cons, List.map_cons] at m
          rcases List.mem_cons.mp m with q | q
          · exact absurd (by rw [List.length_cons, List.take_succ_cons, q]; exact List.mem_cons_self) h
          · exact q)
  rw [← this]
  exact m
def DefRel (K : PySem.W.Frag) (z : Z) (v : V) : Prop := ∀ (ρ : Ro) (H : Hp) (st : Sto), Wd K ρ st H → Rep K ρ H z v
abbrev nm (p : String × Option Z) : Str := Str.ofString p.1
/-- what is asked of a def's parameters: nd defaults of the places, kn the names with keyword defaults -/
def bindC (params : Arguments) (nd : Nat) (kn : List Str) (d : FnD) : Bool :=
  params.posonlyargs.isEmpty && params.vararg.isNone && params.kwarg.isNone && decide (params.args.map (·.arg) = (d.ps.take d.np).map nm) && decide (params.kwonlyargs.map (·.arg) = (d.ps.drop d.np).map nm) && decide (d.np ≤ d.ps.length) && decide ((d.ps.map nm).Nodup) &&
    decide (nd ≤ d.np) && ((d.ps.take (d.np - nd)).all fun p => p.2.isNone) && ((d.ps.drop d.np).all fun p => p.2.isNone || kn.contains (nm p))
structure Dfl (K : PySem.W.Frag) (d : FnD) (dvs : List V) (kws : List (Str × V)) : Prop where
  pl : ∀ (j : Nat) (x : String) (z : Z), ((d.ps.take d.np).drop (d.np - dvs.length))[j]? = some (x, some z) → ∃ v : V, dvs[j]? = some v ∧ DefRel K z v
  kw : ∀ (x : String) (z : Z), (x, some z) ∈ d.ps.drop d.np → ∃ v, (Str.ofString x, v) ∈ kws ∧ DefRel K z v
section
variable {K : PySem.W.Frag}
theorem getF_kw {ρ : Ro} {H : Hp} {x : String} : ∀ {ks : List String} {kv : List Z} {vk : List V} {ws : List Value}, RepL K ρ H kv vk → Vals vk ws → ws.length = ks.length →
    (∀ z, getF x ks kv = some z → ∃ v u, ((ks.map Str.ofString).zip ws).lookup (Str.ofString x) = some u ∧ RelV v u ∧ Rep K ρ H z v) ∧ (getF x ks kv = none → ((ks.map Str.ofString).zip ws).lookup (Str.ofString x) = none)
  | [], kv, vk, ws, r, v, l => ⟨(fun z e => by unfold getF at e; cases e), fun _ => rfl⟩
  | k :: ks, [], vk, ws, r, v, l => by
    rw [repL_nil.mp r] at v
    cases v
    cases l
  | k :: ks, z :: kv, vk, ws, r, v, l => by
    obtain ⟨a, r', rfl, h1, h2⟩ := repL_cons.mp r
    cases v with
    | cons v1 v2 =>
      rename_i u ws
      obtain ⟨i1, i2⟩ := getF_kw (x := x) (ks := ks) h2 v2 (by simpa using l)
      rw [List.map_cons, List.zip_cons_cons]
      by_cases e : x = k
      · subst e
        refine ⟨fun y hy => ?_, fun hy => ?_⟩
        · unfold getF at hy
          rw [if_pos (beq_self_eq_true x)] at hy
          cases hy
          exact ⟨a, u, by rw [List.lookup_cons_self], v1, h1⟩
        · unfold getF at hy
          rw [if_pos (beq_self_eq_true x)] at hy
          cases hy
      · have eb : (x == k) = false := by simpa using e
        have eb2 : (Str.ofString x == Str.ofString k) = false := by
          have : Str.ofString x ≠ Str.ofString k := fun q => e (ofString_inj q)
          simpa using this
        have g : getF x (k :: ks) (z :: kv) = getF x ks kv := by
          show (if (x == k) = true then _ else _) = _
          rw [eb]; rfl
        rw [g, List.lookup_cons, eb2]
        exact ⟨i1, i2⟩
theorem bindRest_each {ks : List String} {kv : List Z} : ∀ {qs : List (String × Option Z)} {as : List Z}, bindRest ks kv qs = some as → ∀ q ∈ qs, getF q.1 ks kv ≠ none ∨ q.2 ≠ none
  | [], _, _, q, m => by cases m
  | (x, d) :: qs, as, h, q, m => by
    unfold bindRest at h
    cases g : getF x ks kv with
    | some z =>
      rw [g] at h
      cases hr : bindRest ks kv qs with
      | none => rw [hr] at h; cases h
      | some r =>
        rcases List.mem_cons.mp m with e | e
        · subst e; exact .inl (by rw [g]; exact fun q => by cases q)
        · exact bindRest_each hr q e
    | none =>
      rw [g] at h
      cases d with
      | none => cases h
      | some z =>
        cases hr : bindRest ks kv qs with
        | none => rw [hr] at h; cases h
        | some r =>
          rcases List.mem_cons.mp m with e | e
          · subst e; exact .inr fun q => by cases q
          · exact bindRest_each hr q e
theorem bindRest_ok {ρ : Ro} {H : Hp} {ks : List String} {kv : List Z} {S : List (Str × Value)} : ∀ {qs : List (String × Option Z)} {as : List Z}, bindRest ks kv qs = some as →
    (∀ q ∈ qs, ∀ z, getF q.1 ks kv = some z → ∃ v u, S.lookup (nm q) = some u ∧ RelV v u ∧ Rep K ρ H z v) → (∀ q ∈ qs, getF q.1 ks kv = none → ∀ z, q.2 = some z → ∃ v u, S.lookup (nm q) = some u ∧ RelV v u ∧ Rep K ρ H z v) →
    ∃ us vs, Two (fun n u => S.lookup n = some u) (qs.map nm) us ∧ Vals vs us ∧ RepL K ρ H as vs
  | [], as, h, _, _ => by
    unfold bindRest at h
    cases h
    exact ⟨[], [], .nil, .nil, repL_nil.mpr rfl⟩
  | (x, d) :: qs, as, h, h1, h2 => by
    unfold bindRest at h
    have go : ∀ z, (bindRest ks kv qs).map (z :: ·) = some as → (∃ v u, S.lookup (Str.ofString x) = some u ∧ RelV v u ∧ Rep K ρ H z v) → ∃ us vs, Two (fun n u => S.lookup n = some u) (((x, d) :: qs).map nm) us ∧ Vals vs us ∧ RepL K ρ H as vs := fun z hz ⟨v, u, e1, e2, e3⟩ => by
      cases hr : bindRest ks kv qs with
      | none => rw [hr] at hz; cases hz
      | some r =>
        rw [hr] at hz
        cases hz
        obtain ⟨us, vs, t, vv, rr⟩ := bindRest_ok hr (fun q m => h1 q (List.mem_cons_of_mem _ m)) (fun q m => h2 q (List.mem_cons_of_mem _ m))
        exact ⟨u :: us, v :: vs, .cons e1 t, .cons e2 vv, repL_cons.mpr ⟨v, vs, rfl, e3, rr⟩⟩
    cases g : getF x ks kv with
    | some z =>
      rw [g] at h
      exact go z h (h1 (x, d) List.mem_cons_self z g)
    | none =>
      rw [g] at h
      cases d with
      | none => cases h
      | some z => exact go z h (h2 (x, some z) List.mem_cons_self g z rfl)
theorem vals_len {vs : List V} {us : List Value} (h : Vals vs us) : vs.length = us.length := h.length
theorem vals_take {vs : List V} : ∀ {us ws : List Value}, Vals vs (us ++ ws) → Vals (vs.take us.length) us ∧ Vals (vs.drop us.length) ws := fun {us ws} h => by
  induction us generalizing vs with
  | nil => exact ⟨by rw [List.length_nil, List.take_zero]; exact .nil, h⟩
  | cons u us ih =>
    cases h with
    | cons a b =>
      obtain ⟨h1, h2⟩ := ih b
      exact ⟨by rw [List.length_cons, List.take_succ_cons]; exact .cons a h1, by rw [List.length_cons, List.drop_succ_cons]; exact h2⟩
theorem vals_app {vs ws : List V} {us ts : List Value} (h : Vals vs us) (g : Vals ws ts) : Vals (vs ++ ws) (us ++ ts) := h.append g
theorem bind_ok {x qual : Str} {params : Arguments} {body : List Stmt} {scope : Scope} {dvs : List V} {kws : List (Str × V)} {f : Addr} {fd : FuncData} {d : FnD} (F : FunD K x qual params body scope dvs kws f fd) (hc : bindC params dvs.length (kws.map (·.1)) d = true) (hd : Dfl K d dvs kws) : BindOk K fd d := by
  unfold bindC at hc
  obtain ⟨hc, b10⟩ := and_t hc
  obtain ⟨hc, b9⟩ := and_t hc
  obtain ⟨hc, b8⟩ := and_t hc
  obtain ⟨hc, b7⟩ := and_t hc
  obtain ⟨hc, b6⟩ := and_t hc
  obtain ⟨hc, b5⟩ := and_t hc
  obtain ⟨hc, b4⟩ := and_t hc
  obtain ⟨b1, b2, b3⟩ := and3 hc
  have b1 := List.isEmpty_iff.mp b1
  have b2 : params.vararg = none := by simpa using b2
  have b3 : params.kwarg = none := by simpa using b3
  have b4 := of_decide_eq_true b4
  have b5 := of_decide_eq_true b5
  have b6 := of_decide_eq_true b6
  have b7 := of_decide_eq_true b7
  have b8 := of_decide_eq_true b8
  have b9 := List.all_eq_true.mp b9
  have b10 := List.all_eq_true.mp b10
  obtain ⟨oc, od, dV, kV, doc, pm, an, cdv, ct, osl, rfl, lk, hcd, hD, hK⟩ := F.ex
  intro zs as ks hb ρ H st vs us ws w r v lw s X
  -- the values by place, by name
  have lz : zs.length = us.length + ws.length := by rw [← r.length, vals_len v, List.length_append]
  have ln : zs.length - ks.length = us.length := by omega
  have key : us.length ≤ d.np ∧ (∀ k ∈ ks, ∃ p ∈ d.ps.drop us.length, p.1 = k) ∧ ks.Nodup ∧ ∃ as', bindRest ks (zs.drop us.length) (d.ps.drop us.length) = some as' ∧ as = zs.take us.length ++ as' := by
    unfold bindZ at hb
    split at hb
    · rename_i h0
      obtain ⟨h1, h2, h3⟩ := and3 h0
      have h1 := List.isEmpty_iff.mp h1
      have h2 : zs.length = d.ps.length := by simpa using h2
      have h3 : d.np = d.ps.length := by simpa using h3
      subst h1
      cases hb
      have hw : us.length = zs.length := by simpa using ln.symm
      refine ⟨by omega, (fun k hk => by cases hk), List.nodup_nil, [], ?_, ?_⟩
      · rw [hw, h2, List.drop_length]
        unfold bindRest
        rfl
      · rw [hw, List.take_length, List.append_nil]
    · simp only [ln] at hb
      split at hb
      · rename_i h0
        obtain ⟨h0, h5⟩ := and_t h0
        obtain ⟨h0, h4⟩ := and_t h0
        obtain ⟨h1, h2, h3⟩ := and3 h0
        refine ⟨of_decide_eq_true h2, fun k hk => ?_, of_decide_eq_true h5, ?_⟩
        · have := List.all_eq_true.mp h4 k hk
          obtain ⟨p, p1, p2⟩ := List.any_eq_true.mp this
          exact ⟨p, p1, by simpa using p2⟩
        · cases hr : bindRest ks (zs.drop us.length) (d.ps.drop us.length) with
          | none => rw [hr] at hb; cases hb
          | some as' => rw [hr] at hb; cases hb; exact ⟨as', rfl, rfl⟩
      · cases hb
  obtain ⟨k1, k2, k3, as', hbr, rfl⟩ := key
  obtain ⟨va, vb⟩ := vals_take v
  have ra : RepL K ρ H (zs.take us.length) (vs.take us.length) := RepL.take _ r
  have rb : RepL K ρ H (zs.drop us.length) (vs.drop us.length) := RepL.drop _ r
  -- names
  have nmN : d.ps.map nm = (d.ps.take d.np).map nm ++ (d.ps.drop d.np).map nm := by rw [← List.map_append, List.take_append_drop]
  generalize hN1 : (d.ps.take d.np).map nm = N1 at *
  generalize hN2 : (d.ps.drop d.np).map nm = N2 at *
  have lN1 : N1.length = d.np := by rw [← hN1, List.length_map, List.length_take]; omega
  have ndAll : (N1 ++ N2).Nodup := by rw [← nmN]; exact b7
  have nd1 : N1.Nodup := (List.nodup_append.mp ndAll).1
  have disj : ∀ a ∈ N1, ∀ b ∈ N2, a ≠ b := (List.nodup_append.mp ndAll).2.2
  have takeN : (d.ps.take us.length).map nm = N1.take us.length := by
    rw [← hN1, ← List.map_take, List.take_take, Nat.min_eq_left k1]
  have psSplit : d.ps.map nm = N1.take us.length ++ (d.ps.drop us.length).map nm := by
    rw [← takeN, ← List.map_append, List.take_append_drop]
  have outN : ∀ p ∈ d.ps.drop us.length, nm p ∉ N1.take us.length := fun p hp m => by
    rw [psSplit] at b7
    exact (List.nodup_append.mp b7).2.2 _ m _ (List.mem_map.mpr ⟨p, hp, rfl⟩) rfl
  have kwN : ((ks.map Str.ofString).zip ws).map (·.1) = ks.map Str.ofString := by
    rw [List.map_fst_zip]
    rw [List.length_map, lw]
    exact Nat.le_refl _
  have kwMem : ∀ p ∈ (ks.map Str.ofString).zip ws, ∃ q ∈ d.ps.drop us.length, nm q = p.1 := fun p hp => by
    have : p.1 ∈ ks.map Str.ofString := by rw [← kwN]; exact List.mem_map.mpr ⟨p, hp, rfl⟩
    obtain ⟨k, hk, e⟩ := List.mem_map.mp this
    obtain ⟨q, hq, e2⟩ := k2 k hk
    exact ⟨q, hq, by rw [← e, ← e2]⟩
  have each := bindRest_each hbr
  have gk := fun x => getF_kw (K := K) (ρ := ρ) (H := H) (x := x) rb vb lw
  have found : ∀ q ∈ d.ps.drop us.length, getF q.1 ks (zs.drop us.length) ≠ none → ((ks.map Str.ofString).zip ws).lookup (nm q) ≠ none := fun q hq h => by
    cases g : getF q.1 ks (zs.drop us.length) with
    | none => exact absurd g h
    | some z =>
      obtain ⟨v, u, e, _⟩ := (gk q.1).1 z g
      rw [e]
      exact fun q => by cases q
  obtain ⟨its, kd, S, ri, rk, hS, lb⟩ := looks_bind (K := K) (h := s.heap) (x := x) (qual := qual) (body := body) (scope := scope) (doc := doc) (pm := pm) (cdv := cdv) (ct := ct) (an := an) b1 b2 b3 hD hK b4 b5 us ((ks.map Str.ofString).zip ws)
    (fun p hp => by
      obtain ⟨q, hq, e⟩ := kwMem p hp
      have : nm q ∈ N1 ++ N2 := by rw [← nmN]; exact List.mem_map.mpr ⟨q, List.mem_of_mem_drop hq, rfl⟩
      rw [e] at this
      rcases List.mem_append.mp this with m | m
      · exact .inl (List.contains_iff_mem.mpr m)
      · exact .inr (List.contains_iff_mem.mpr m))
    (by rw [kwN]; exact List.Pairwise.map Str.ofString (fun a b ne e => ne (ofString_inj e)) k3)
    (fun p hp => by
      obtain ⟨q, hq, e⟩ := kwMem p hp
      rw [← e]
      exact zip_out (outN q hq))
    (by rw [lN1]; exact k1) (by rw [lN1]; exact b8)
    (fun n hn => by
      rw [lN1] at hn
      by_cases hm : n ∈ N1.take us.length
      · rw [List.lookup_append]
        have := zip_two (N := N1) (us := us) nd1 (by rw [lN1]; exact k1)
        have : ∀ {as : List Str} {bs : List Value}, Two (fun n u => (N1.zip us).lookup n = some u) as bs → n ∈ as → ∃ u, (N1.zip us).lookup n = some u := by
          intro as bs t
          induction t with
          | nil => intro m; cases m
          | cons h t ih =>
            intro m
            rcases List.mem_cons.mp m with e | e
            · rw [e]; exact ⟨_, h⟩
            · exact ih e
        obtain ⟨u, e⟩ := this (zip_two (N := N1) (us := us) nd1 (by rw [lN1]; exact k1)) hm
        rw [e]
        simp
      · have h1 : n ∈ (d.ps.take (d.np - dvs.length)).map nm := by
          have : N1.take (d.np - dvs.length) = (d.ps.take (d.np - dvs.length)).map nm := by
            rw [← hN1, ← List.map_take, List.take_take, Nat.min_eq_left (Nat.sub_le _ _)]
          rw [← this]; exact hn
        obtain ⟨q, hq, rfl⟩ := List.mem_map.mp h1
        have hno : q.2 = none := by simpa using b9 q hq
        have hqd : q ∈ d.ps.drop us.length := by
          have hq2 : q ∈ d.ps := List.mem_of_mem_take hq
          rw [← List.take_append_drop us.length d.ps] at hq2
          rcases List.mem_append.mp hq2 with m | m
          · exact absurd (by rw [← takeN]; exact List.mem_map.mpr ⟨q, m, rfl⟩) hm
          · exact m
        rcases each q hqd with g | g
        · rw [List.lookup_append, zip_out (outN q hqd)]
          exact fun e => found q hqd g (by simpa using e)
        · exact absurd hno g)
    (fun n hn => by
      rw [← hN2] at hn
      obtain ⟨q, hq, rfl⟩ := List.mem_map.mp hn
      have hqd : q ∈ d.ps.drop us.length := by
        have e : d.ps.drop d.np = (d.ps.drop us.length).drop (d.np - us.length) := by rw [List.drop_drop]; congr 1; omega
        rw [e] at hq
        exact List.mem_of_mem_drop hq
      rcases each q hqd with g | g
      · exact .inl (found q hqd g)
      · have := b10 q hq
        rcases Bool.or_eq_true_iff.mp this with z | z
        · exact absurd (by simpa using z) g
        · exact .inr (List.contains_iff_mem.mp z))
    (fun n h2 h1 => disj n h1 n h2 rfl) X
  -- the values
  have nd2 : N2.Nodup := (List.nodup_append.mp ndAll).2.1
  have one : ∃ us' vs', Two (fun n u => S.lookup n = some u) (d.ps.map nm) us' ∧ Vals vs' us' ∧ RepL K ρ H (zs.take us.length ++ as') vs' := by
    have h1 := fun hA hB => bindRest_ok (K := K) (ρ := ρ) (H := H) (S := S) hbr hA hB
    obtain ⟨us2, vs2, t2, v2, r2⟩ := h1 (fun q hq z g => by
        obtain ⟨v, u, e, e2, e3⟩ := (gk q.1).1 z g
        refine ⟨v, u, ?_, e2, e3⟩
        rw [hS, zip_out (outN q hq), e]
        simp) (fun q hq g z hz => by
        have hkn := (gk q.1).2 g
        have lz1 : (N1.zip us).lookup (nm q) = none := zip_out (outN q hq)
        have hqa : q ∈ d.ps := List.mem_of_mem_drop hq
        rw [← List.take_append_drop d.np d.ps] at hqa
        rcases List.mem_append.mp hqa with m | m
        · -- by place
          rw [← List.take_append_drop (d.np - dvs.length) (d.ps.take d.np)] at m
          rcases List.mem_append.mp m with m | m
          · rw [List.take_take, Nat.min_eq_left (Nat.sub_le _ _)] at m
            have := b9 q m
            rw [hz] at this
            cases this
          · obtain ⟨j, hj⟩ := List.getElem?_of_mem m
            have hj' : ((d.ps.take d.np).drop (d.np - dvs.length))[j]? = some (q.1, some z) := by rw [hj, ← hz]
            obtain ⟨v, e1, e2⟩ := hd.pl j q.1 z hj'
            obtain ⟨u, e3, e4⟩ := ri.get e1
            refine ⟨v, u, ?_, e4, e2 ρ H st w⟩
            have hn : (N1.drop (N1.length - dvs.length))[j]? = some (nm q) := by
              rw [lN1, ← hN1, ← List.map_drop, List.getElem?_map, hj]
              rfl
            have hz2 := zip_at (us := its) ((List.drop_sublist (N1.length - dvs.length) N1).nodup nd1) hn e3
            rw [hS, lz1, hkn, hz2]
            simp
        · -- by name
          obtain ⟨v, e1, e2⟩ := hd.kw q.1 z (by rw [← hz]; exact m)
          refine ⟨v, kd (nm q), ?_, rk _ e1, e2 ρ H st w⟩
          have hq2 : nm q ∈ N2 := by rw [← hN2]; exact List.mem_map.mpr ⟨q, m, rfl⟩
          have hn1 : nm q ∉ N1 := fun q1 => disj _ q1 _ hq2 rfl
          have d1 : ((N1.drop (N1.length - dvs.length)).zip its).lookup (nm q) = none := zip_out fun q => hn1 (List.mem_of_mem_drop (List.mem_of_mem_take q))
          have d2 : (N2.map fun n => (n, kd n)).lookup (nm q) = some (kd (nm q)) := by
            have : ∀ l : List Str, nm q ∈ l → (l.map fun n => (n, kd n)).lookup (nm q) = some (kd (nm q)) := by
              intro l
              induction l with
              | nil => intro m; cases m
              | cons a l ih =>
                intro m
                rw [List.map_cons, List.lookup_cons]
                by_cases e : nm q = a
                · have : (nm q == a) = true := by simpa using e
                  rw [this, ← e]
                · have : (nm q == a) = false := by simpa using e
                  rw [this]
                  rcases List.mem_cons.mp m with h | h
                  · exact absurd h e
                  · exact ih h
            exact this _ hq2
          rw [hS, lz1, hkn, d1, d2]
          simp)
    · refine ⟨us ++ us2, vs.take us.length ++ vs2, ?_, vals_app va v2, ra.append r2⟩
      rw [psSplit]
      refine Two.app ((zip_two (N := N1) (us := us) nd1 (by rw [lN1]; exact k1)).imp fun a b m e => ?_) t2
      rw [hS, e]
      simp
  obtain ⟨us', vs', t, v', r'⟩ := one
  refine ⟨us', vs', ?_, v', r', ?_⟩
  · refine BindsTo.of_looks fun M => ?_
    have := lb M
    rw [← nmN, zip_of_lookups t] at this
    exact this
  · have tl : ∀ {as : List Str} {bs : List Value}, Two (fun n u => S.lookup n = some u) as bs → as.length = bs.length := by
      intro as bs t
      induction t with
      | nil => rfl
      | cons h t ih => rw [List.length_cons, List.length_cons, ih]
    have := tl t
    rw [List.length_map] at this
    rw [this, ← vals_len v', r'.length]
end
end ZZ

end
section
set_option maxHeartbeats 4000000
/-! ZFun: a table of functions. -/
namespace ZZ
open PySem PySem.Spec PyProof.Rows L2
/-! ### what a function's run gives -/
section
variable (tab : String → Option FnD) (gv : String → Option Z) (N : Nat)
noncomputable def runA (k : Nat) (d : FnD) (as : List Z) (b : Nat) (st : Sto) : R Z := match k with
  | 0 => .no
  | k + 1 => finF d.keep st (exs (run tab gv N k) gv (if d.keep then b else st.length) N d.body (startE d.ns as) st)
theorem run_runA {k : Nat} {f : String} {d : FnD} (h : tab f = some d) (zs : List Z) (ks : List String) (b : Nat) (st : Sto) : run tab gv N k f zs ks b st = match bindZ d zs ks with
    | some as => runA tab gv N k d as b st
    | none => .no := by
  cases k with
  | zero =>
    unfold run
    cases bindZ d zs ks <;> rfl
  | succ k =>
    show (match tab f with
      | some d => _
      | none => R.no) = _
    rw [h]
    rfl
end
theorem repE_start {K : PySem.W.Frag} {ρ : Ro} {H : Hp} {zs : List Z} {vs : List V} {Nn : List Str} (r : RepL K ρ H zs vs) : RepE K ρ H (startE Nn.length zs) (L2.start Nn vs) := by
  unfold startE L2.start
  refine ⟨by simp [r.length], fun i z h => ?_⟩
  by_cases hi : i < zs.length
  · rw [List.getElem?_append_left (by rw [List.length_map]; exact hi), List.getElem?_map] at h
    cases e : zs[i]? with
    | none => rw [e] at h; cases h
    | some y =>
      rw [e] at h
      have h : y = z := by simpa using h
      subst h
      obtain ⟨v, e1, e2⟩ := r.get e
      refine ⟨v, ?_, e2⟩
      rw [List.getElem?_append_left (by rw [List.length_map, r.length]; exact hi), List.getElem?_map, e1]
      rfl
  · rw [List.getElem?_append_right (by rw [List.length_map]; omega), List.getElem?_replicate] at h
    split at h
    · cases h
    · cases h
theorem fin_ok {K : PySem.W.Frag} {F : FT} {gv : String → Option Z} {N : Nat} {d : FnD} {ρ : Ro} {H : Hp} {st : Sto} {b : Nat} {zs : List Z} {Q : VK} (w : Wd K ρ st H)
    (q : RSat K b ρ H st (finF d.keep st (exs F gv (if d.keep then b else st.length) N d.body (startE d.ns zs) st)) (PK K Q)) :
    RSat K (if d.keep then b else st.length) ρ H st (exs F gv (if d.keep then b else st.length) N d.body (startE d.ns zs) st) (EndsZ ⟨K, F, gv, if d.keep then b else st.length⟩ { nx := fun _ H' => Q .non H', rt := Q }) := by
  cases hk : d.keep with
  | true =>
    rw [hk] at q
    simp only [if_true] at q ⊢
    cases he : exs F gv b N d.body (startE d.ns zs) st with
    | ok fl st1 =>
      rw [he] at q
      intro ρ' H' e s w'
      cases fl with
      | nx en => exact fun σ _ => q ρ' H' e s w' .non (rep_non.mpr rfl)
      | rt z => exact fun v hv => q ρ' H' e s w' v hv
      | bk _ => exact q.elim
      | ct _ => exact q.elim
    | exn _ _ _ => rw [he] at q; exact q.elim
    | no => rw [he] at q; exact q.elim
  | false =>
    rw [hk] at q
    simp only [Bool.false_eq_true, if_false] at q ⊢
    cases he : exs F gv st.length N d.body (startE d.ns zs) st with
    | ok fl st1 =>
      rw [he] at q
      intro ρ' H' e s w'
      obtain ⟨e2, s2, w2⟩ := cut_all (b := b) w e s w'
      cases fl with
      | nx en => exact fun σ _ => (show RSat K b ρ H st (.ok .non (st1.take st.length)) (PK K Q) from q) _ H' e2 s2 w2 .non (rep_non.mpr rfl)
      | rt z =>
        have q : RSat K b ρ H st (if z.refs.all (fun n => decide (n < st.length)) then .ok z (st1.take st.length) else .no) (PK K Q) := q
        by_cases hz : z.refs.all (fun n => decide (n < st.length)) = true
        · rw [if_pos hz] at q
          exact fun v hv => q _ H' e2 s2 w2 v (Rep.cut z v (fun m hm => of_decide_eq_true (List.all_eq_true.mp hz m hm)) hv)
        · rw [if_neg hz] at q; exact q.elim
      | bk _ => exact q.elim
      | ct _ => exact q.elim
    | exn _ _ _ => rw [he] at q; exact q.elim
    | no => rw [he] at q; exact q.elim
/-! ### the table -/
structure Fz where
  f : String
  d : FnD
  N : List Str
  cm : Option (String × String) := none
def fzOf (T : List Fz) (f : String) : Option Fz := T.find? fun x => x.f == f
def tabOf (T : List Fz) (f : String) : Option FnD := (fzOf T f).map (·.d)
def Fz.pl (x : Fz) : Str × Option Str := match x.cm with
  | none => (Str.ofString x.f, none)
  | some p => (Str.ofString p.1, some (Str.ofString p.2))
def fGlo (fa : List He.Fa) (x : String) : Bool := fa.any fun | .glo y => decide (y = Str.ofString x) | _ => false
def fFree (fa : List He.Fa) (x : String) : Bool := fa.any fun | .free y => decide (y = Str.ofString x) | _ => false
def fCls (fa : List He.Fa) (x : String) : Bool := fa.any fun | .cls y => decide (y = Str.ofString x) | _ => false
def fMkr (fa : List He.Fa) (x : String) : Bool := fa.any fun | .mkr y => decide (y = Str.ofString x) | _ => false
def fNoat (fa : List He.Fa) (x f : String) : Bool := fa.any fun | .noat y g => decide (y = Str.ofString x) && decide (g = Str.ofString f) | _ => false
def fMeth (fa : List He.Fa) (x f : String) : Bool := fa.any fun | .meth y g => decide (y = Str.ofString x) && decide (g = Str.ofString f) | _ => false
theorem fGlo_ok {fa : List He.Fa} {x : String} (h : fGlo fa x = true) : He.Fa.glo (Str.ofString x) ∈ fa := by
  obtain ⟨y, m, e⟩ := List.any_eq_true.mp h
  cases y <;> first | cases e | skip
  rw [← of_decide_eq_true e]; exact m
theorem fFree_ok {fa : List He.Fa} {x : String} (h : fFree fa x = true) : He.Fa.free (Str.ofString x) ∈ fa := by
  obtain ⟨y, m, e⟩ := List.any_eq_true.mp h
  cases y <;> first | cases e | skip
  rw [← of_decide_eq_true e]; exact m
theorem fCls_ok {fa : List He.Fa} {x : String} (h : fCls fa x = true) : He.Fa.cls (Str.ofString x) ∈ fa := by
  obtain ⟨y, m, e⟩ := List.any_eq_true.mp h
  cases y <;> first | cases e | skip
  rw [← of_decide_eq_true e]; exact m
theorem fMkr_ok {fa : List He.Fa} {x : String} (h : fMkr fa x = true) : He.Fa.mkr (Str.ofString x) ∈ fa := by
  obtain ⟨y, m, e⟩ := List.any_eq_true.mp h
  cases y <;> first | cases e | skip
  rw [← of_decide_eq_true e]; exact m
theorem fNoat_ok {fa : List He.Fa} {x f : String} (h : fNoat fa x f = true) : He.Fa.noat (Str.ofString x) (Str.ofString f) ∈ fa := by
  obtain ⟨y, m, e⟩ := List.any_eq_true.mp h
  cases y <;> first | cases e | skip
  obtain ⟨e1, e2⟩ := and_t e
  rw [← of_decide_eq_true e1, ← of_decide_eq_true e2]; exact m
theorem fMeth_ok {fa : List He.Fa} {x f : String} (h : fMeth fa x f = true) : He.Fa.meth (Str.ofString x) (Str.ofString f) ∈ fa := by
  obtain ⟨y, m, e⟩ := List.any_eq_true.mp h
  cases y <;> first | cases e | skip
  obtain ⟨e1, e2⟩ := and_t e
  rw [← of_decide_eq_true e1, ← of_decide_eq_true e2]; exact m
def scC (N ps : List Str) (sc : Scope) : Bool := (match sc.kind with | .function => true | _ => false) && !sc.isCoroutine && !sc.isGenerator && decide N.Nodup && decide (N.take ps.length = ps) &&
  (ps.all fun x => decide (sc.names.lookup x = some .local) || decide (sc.names.lookup x = some .cell)) && (sc.names.all fun y => decide (y.2 ≠ .free))
theorem scC_ok {N ps : List Str} {sc : Scope} (h : scC N ps sc = true) : FnScope N ps sc := by
  unfold scC at h
  obtain ⟨h, h7⟩ := and_t h
  obtain ⟨h, h6⟩ := and_t h
  obtain ⟨h, h5⟩ := and_t h
  obtain ⟨h, h4⟩ := and_t h
  obtain ⟨h1, h2, h3⟩ := and3 h
  refine ⟨?_, ntrue h2, ntrue h3, of_decide_eq_true h4, of_decide_eq_true h5, fun x hx => ?_, fun y hy => of_decide_eq_true (List.all_eq_true.mp h7 y hy)⟩
  · split at h1
    · assumption
    · cases h1
  · rcases Bool.or_eq_true_iff.mp (List.all_eq_true.mp h6 x hx) with q | q
    · exact .inl (of_decide_eq_true q)
    · exact .inr (of_decide_eq_true q)
/-- defaults that are plain -/
def dvOk : Option Z → He.Dv → Bool
  | some .non, .non => true
  | some (.bl a), .bl b => decide (a = b)
  | some (.int a), .int b => decide (a = b)
  | some (.str s), .str x => strOkC x s
  | none, _ => true
  | _, _ => false
theorem dvOk_rel {K : PySem.W.Frag} {z : Z} {v : He.Dv} (h : dvOk (some z) v = true) : DefRel K z (v.v K) := by
  intro ρ H st w
  cases z <;> cases v <;> first | cases h | skip
  · exact rep_non.mpr rfl
  · have h := of_decide_eq_true h; subst h; exact rep_bl.mpr rfl
  · have h := of_decide_eq_true h; subst h; exact rep_int.mpr rfl
  · obtain ⟨rfl, h2⟩ := strOkC_ok h
    exact rep_str.mpr ⟨rfl, h2⟩
def dflC (d : FnD) (dfl : List He.Dv) (kwd : List (Str × He.Dv)) : Bool :=
  (((d.ps.take d.np).drop (d.np - dfl.length)).zipIdx.all fun p => match p.1.2 with
    | none => true
    | some z => (match dfl[p.2]? with
      | some v => dvOk (some z) v
      | none => false)) && ((d.ps.drop d.np).all fun p => match p.2 with
    | none => true
    | some z => (match kwd.find? (fun q => decide (q.1 = nm p)) with
      | some q => dvOk (some z) q.2
      | none => false))
theorem dflC_ok {K : PySem.W.Frag} {d : FnD} {dfl : List He.Dv} {kwd : List (Str × He.Dv)} (h : dflC d dfl kwd = true) : Dfl K d (dfl.map (He.Dv.v K)) (kwd.map fun q => (q.1, q.2.v K)) := by
  unfold dflC at h
  obtain ⟨h1, h2⟩ := and_t h
  refine ⟨fun j x z e => ?_, fun x z m => ?_⟩
  · rw [List.length_map] at e
    have := List.all_eq_true.mp h1 ((x, some z), j) (by
      rw [List.mem_zipIdx_iff_getElem?]
      exact e)
    simp only at this
    split at this
    · rename_i v hv
      exact ⟨v.v K, by rw [List.getElem?_map, hv]; rfl, dvOk_rel this⟩
    · cases this
  · have := List.all_eq_true.mp h2 (x, some z) m
    simp only at this
    split at this
    · rename_i q hq
      have hm := List.mem_of_find?_eq_some hq
      have he : q.1 = nm (x, some z) := of_decide_eq_true (List.find?_some (p := fun q : Str × He.Dv => decide (q.1 = nm (x, some z))) hq)
      exact ⟨q.2.v K, List.mem_map.mpr ⟨q, hm, by rw [he]⟩, dvOk_rel this⟩
    · cases this
def chkFn (tb : Tb) (x : Fz) (D : He.DefD) : Bool := decide (D.at_ = x.pl) && bindC D.params D.dfl.length (D.kwd.map (·.1)) x.d && dflC x.d D.dfl D.kwd && scC x.N (x.d.ps.map nm) D.scope && decide (x.d.ns = x.N.length) && chkSs tb ⟨x.N, D.scope, fun _ => true⟩ x.d.body D.body
def tbOf (T : List Fz) (fa : List He.Fa) : Tb := ⟨fun f => (match fzOf T f with
  | some x => x.cm.isNone && fGlo fa f
  | none => false), fun cl m q => (match fzOf T q with
  | some x => decide (x.cm = some (cl, m)) && fCls fa cl && fMeth fa cl m
  | none => false), fun cl q => (match fzOf T q with
  | some x => decide (x.cm = some (cl, "__init__")) && fMkr fa cl && fGlo fa cl
  | none => false), fun cl f => fCls fa cl && fNoat fa cl f⟩
def chkAll (T : List Fz) (fa : List He.Fa) (fn : List He.DefD) : Bool := decide (T.length ≤ fn.length) && (T.zipIdx.all fun p => match fn[p.2]? with
  | some D => chkFn (tbOf T fa) p.1 D
  | none => false) && bis.all (fFree fa)
theorem fz_at {T : List Fz} {f : String} {x : Fz} (h : fzOf T f = some x) : ∃ (i : Nat), T[i]? = some x ∧ x.f = f := by
  have hm := List.mem_of_find?_eq_some h
  have hf := List.find?_some h
  obtain ⟨i, hi⟩ := List.getElem?_of_mem hm
  exact ⟨i, hi, by simpa using hf⟩
theorem tab_fz {T : List Fz} {f : String} {d : FnD} (h : tabOf T f = some d) : ∃ x, fzOf T f = some x ∧ x.d = d := by
  unfold tabOf at h
  cases e : fzOf T f with
  | none => rw [e] at h; cases h
  | some x => rw [e] at h; exact ⟨x, rfl, by simpa using h⟩
structure Env1 (P : Program) (w : World) (K : PySem.W.Frag) (mg : Str → Option Value) (base : Heap) (fa : List He.Fa) (fn : List He.DefD) (T : List Fz) (gv : String → Option Z) : Prop where
  kin : K.In base
  ns : base.Ns mainGlobals mg
  says : He.SaysD fa fn K
  chk : chkAll T fa fn = true
  gl : ∀ x z, gv x = some z → ∃ u v, mg (Str.ofString x) = some u ∧ RelV v u ∧ ∀ ρ H st, Wd K ρ st H → Rep K ρ H z v
section
variable {P : Program} {w : World} {K : PySem.W.Frag} {mg : Str → Option Value} {base : Heap} {fa : List He.Fa} {fn : List He.DefD} {T : List Fz} {gv : String → Option Z} {N : Nat}
theorem fact_of (c : He.SaysD fa fn K) {f : He.Fa} (h : f ∈ fa) : f.ok K = true := by
  obtain ⟨i, hi⟩ := List.getElem?_of_mem h
  exact c.fact i hi
theorem fun_at {x qual : Str} {params : Arguments} {body : List Stmt} {scope : Scope} {dvs : List V} {kws : List (Str × V)} {f : Addr} {fd : FuncData} (F : FunD K x qual params body scope dvs kws f fd) : ∃ oc od osl, K.lookup f = some ⟨oc, od, .func fd, osl⟩ := by
  obtain ⟨oc, od, dV, kV, doc, pm, an, cdv, ct, osl, _, lk, _⟩ := F.ex
  exact ⟨oc, od, osl, lk⟩
theorem fn_all (E1 : Env1 P w K mg base fa fn T gv) : ∀ k, ∀ f x, fzOf T f = some x → ∃ fd, PySem.W.keepIn K (.ref (He.fAd K x.pl)) = true ∧ (∃ oc od osl, K.lookup (He.fAd K x.pl) = some ⟨oc, od, .func fd, osl⟩) ∧ BindOk K fd x.d ∧
    FnOk P w K mg base CX0 (2 * k) (He.fAd K x.pl) fd (x.d.ps.map nm) (spZ K x.d.ps.length (runA (tabOf T) gv N k x.d)) := by
  have hc := E1.chk
  unfold chkAll at hc
  obtain ⟨⟨hc0, hc1⟩, hfr⟩ := and_t hc |>.imp and_t id
  intro k
  induction k with
  | zero =>
    intro f x h
    obtain ⟨i, hi, rfl⟩ := fz_at h
    have hc2 := List.all_eq_true.mp hc1 (x, i) (by rw [List.mem_zipIdx_iff_getElem?]; exact hi)
    simp only at hc2
    split at hc2
    · rename_i D hD
      unfold chkFn at hc2
      obtain ⟨hc2, c6⟩ := and_t hc2
      obtain ⟨hc2, c5⟩ := and_t hc2
      obtain ⟨hc2, c4⟩ := and_t hc2
      obtain ⟨c1, c2, c3⟩ := and3 hc2
      have c1 := of_decide_eq_true c1
      obtain ⟨fd, F⟩ := E1.says.def_ i hD
      rw [c1] at F
      refine ⟨fd, F.kp, fun_at F, bind_ok F (by rw [He.DefD.dvs, List.length_map, He.DefD.kws, List.map_map]; exact c2) (dflC_ok c3), ⟨fun vs H Q E h => ?_, fun A outer s H args us vs Q E hr he hb hv hs => ?_⟩⟩
      · obtain ⟨zs, ρ, st, b, hl, r, _⟩ := h
        rw [r.length, hl, List.length_map]
      · obtain ⟨zs, ρ, st, b, hl, r, w, q⟩ := hs
        exact q.elim
    · cases hc2
  | succ k ih =>
    intro f x h
    obtain ⟨i, hi, rfl⟩ := fz_at h
    have hc2 := List.all_eq_true.mp hc1 (x, i) (by rw [List.mem_zipIdx_iff_getElem?]; exact hi)
    simp only at hc2
    split at hc2
    · rename_i D hD
      unfold chkFn at hc2
      obtain ⟨hc2, c6⟩ := and_t hc2
      obtain ⟨hc2, c5⟩ := and_t hc2
      obtain ⟨hc2, c4⟩ := and_t hc2
      obtain ⟨c1, c2, c3⟩ := and3 hc2
      have c1 := of_decide_eq_true c1
      have c5 := of_decide_eq_true c5
      obtain ⟨fd, F⟩ := E1.says.def_ i hD
      rw [c1] at F
      refine ⟨fd, F.kp, fun_at F, bind_ok F (by rw [He.DefD.dvs, List.length_map, He.DefD.kws, List.map_map]; exact c2) (dflC_ok c3), ?_⟩
      have key := F.ok (P := P) (w := w) (mg := mg) (base := base) (CX := CX0) (k := 2 * k + 1) (sp := spZ K x.d.ps.length (runA (tabOf T) gv N (k + 1) x.d)) (scC_ok c4) (fun vs H Q E h => ?_) fun cdv A outer s H vs Q E hr hsp => ?_
      · exact key
      · obtain ⟨zs, ρ, st, b, hl, r, _⟩ := h
        rw [r.length, hl, List.length_map]
      · obtain ⟨zs, ρ, st, b, hl, r, w0, q⟩ := hsp
        refine ⟨TSs ⟨K, run (tabOf T) gv N k, gv, if x.d.keep then b else st.length⟩ N x.d.body, PSs.nox (snd_ss x.d.body D.body _ ⟨x.N, D.scope, fun _ => true⟩ ?_ PassesOwn.never c6), ?_⟩
        · refine ⟨rfl, rfl, rfl, fun _ _ => rfl, rfl, of_decide_eq_true ?_, ?_, fun y hy => ?_, E1.gl, fun f hf => ?_, fun cl f hf => ?_, fun cl m q hf => ?_, fun cl q hf => ?_⟩
          · exact decide_eq_true (scC_ok c4).nd
          · have := hr.un
            show (A.deeper _).units + 65 < cLine
            omega
          · exact He.free_ok E1.kin E1.ns (fact_of E1.says (fFree_ok (List.all_eq_true.mp hfr y hy)))
          · unfold tbOf at hf
            simp only at hf
            split at hf
            · rename_i x' hx'
              obtain ⟨g1, g2⟩ := and_t hf
              obtain ⟨fd', kp', lk', b', ok'⟩ := ih f x' hx'
              have hpl : x'.pl = (Str.ofString f, none) := by
                unfold Fz.pl
                rw [Option.isNone_iff_eq_none.mp g1]
                obtain ⟨_, _, e⟩ := fz_at hx'
                simp only [e]
              refine ⟨He.fAd K x'.pl, fd', x'.d, _, 2 * k, ?_, hr.mono (by omega), ⟨fun zs ks b st => run_runA (tabOf T) gv N (show tabOf T f = some x'.d by unfold tabOf; rw [hx']; rfl) zs ks b st, b', ok', kp'⟩⟩
              rw [hpl]
              exact He.glo_ok E1.kin E1.ns (fact_of E1.says (fGlo_ok g2))
            · cases hf
          · obtain ⟨g1, g2⟩ := and_t hf
            exact ⟨He.cls_ok (fact_of E1.says (fCls_ok g1)), He.noat_ok (fact_of E1.says (fNoat_ok g2))⟩
          · unfold tbOf at hf
            simp only at hf
            split at hf
            · rename_i x' hx'
              obtain ⟨g1, g2, g3⟩ := and3 hf
              have g1 := of_decide_eq_true g1
              obtain ⟨fd', kp', lk', b', ok'⟩ := ih q x' hx'
              have hpl : x'.pl = (Str.ofString cl, some (Str.ofString m)) := by unfold Fz.pl; rw [g1]
              refine ⟨He.cls_ok (fact_of E1.says (fCls_ok g2)), He.fAd K x'.pl, fd', x'.d, _, 2 * k, ?_, hr.mono (by omega), ⟨fun zs ks b st => run_runA (tabOf T) gv N (show tabOf T q = some x'.d by unfold tabOf; rw [hx']; rfl) zs ks b st, b', ok', kp'⟩⟩
              rw [hpl]
              exact He.meth_ok (fact_of E1.says (fMeth_ok g3))
            · cases hf
          · unfold tbOf at hf
            simp only at hf
            split at hf
            · rename_i x' hx'
              obtain ⟨g1, g2, g3⟩ := and3 hf
              have g1 := of_decide_eq_true g1
              obtain ⟨fd', kp', lk', b', ok'⟩ := ih q x' hx'
              have hpl : x'.pl = (Str.ofString cl, some (Str.ofString "__init__")) := by unfold Fz.pl; rw [g1]
              refine ⟨He.glo_ok E1.kin E1.ns (fact_of E1.says (fGlo_ok g3)), He.fAd K x'.pl, fd', x'.d, _, 2 * k, ?_, hr, ⟨fun zs ks b st => run_runA (tabOf T) gv N (show tabOf T q = some x'.d by unfold tabOf; rw [hx']; rfl) zs ks b st, b', ok', kp'⟩⟩
              rw [hpl]
              exact He.mkr_ok (fact_of E1.says (fMkr_ok g2))
            · cases hf
        · refine ⟨startE x.d.ns zs, ρ, st, ?_, w0, fin_ok w0 q⟩
          rw [c5]
          exact repE_start r
    · cases hc2
end
end ZZ

end
section
set_option maxHeartbeats 4000000
/-! ZEnd: a law told over a table. -/
namespace ZZ
open PySem PySem.Spec PyProof.Rows L2
theorem wd_nil {K : PySem.W.Frag} {H : Hp} : Wd K ⟨[], []⟩ [] H := ⟨rfl, fun n m a h _ => by simp at h, fun n c h => by simp at h, fun a m => by cases m⟩
theorem rep_script {K : PySem.W.Frag} {H : Hp} {a : Addr} {ns : List Int} (h : SqL K H a (ns.map V.int)) (l : ns.length ≤ sizeL) : RepL K ⟨[], []⟩ H [.scr ns] [.ref a] := by
  refine repL_cons.mpr ⟨.ref a, [], rfl, rep_scr.mpr ⟨a, rfl, ?_, l⟩, repL_nil.mpr rfl⟩
  rcases h with h | ⟨o, its, n, h1, h2, h3, h4, h5, h6⟩
  · exact .inl ⟨h, ⟨fun m => (by cases m), fun m => (by cases m)⟩⟩
  · exact .inr ⟨o, its, n, h1, h2, h3, h4, h5, h6⟩
/-! ### constants -/
def exC (ct : List (String × List He.Dv)) (K : PySem.W.Frag) : Bool := ct.all fun p => He.tupB K (Str.ofString p.1) p.2
def zDv : He.Dv → Option Z
  | .non => some .non
  | .bl b => some (.bl b)
  | .int i => some (.int i)
  | .str x => if decide (x.cps.toList.length ≤ 1000) && x.cps.toList.all (fun c => decide (c < 1114112)) then some (.str x.cps.toList) else none
  | _ => none
def zDvs : List He.Dv → Option (List Z)
  | [] => some []
  | d :: ds => (zDv d).bind fun z => (zDvs ds).map (z :: ·)
def gvFa (x : String) : List He.Fa → Option Z
  | [] => none
  | .int y i :: r => if decide (y = Str.ofString x) then some (.int i) else gvFa x r
  | .str y z :: r => if decide (y = Str.ofString x) then zDv (.str z) else gvFa x r
  | _ :: r => gvFa x r
def gvOf (fa : List He.Fa) (ct : List (String × List He.Dv)) (x : String) : Option Z := match ct.find? (fun p => p.1 == x) with
  | some p => if decide (p.2.length ≤ 1000) && fGlo fa x then (zDvs p.2).map .tup else none
  | none => gvFa x fa
theorem zDv_rep {K : PySem.W.Frag} {ρ : Ro} {H : Hp} {d : He.Dv} {z : Z} (h : zDv d = some z) : Rep K ρ H z (d.v K) := by
  cases d <;> first | cases h | skip
  · exact rep_non.mpr rfl
  · exact rep_bl.mpr rfl
  · exact rep_int.mpr rfl
  · rename_i x
    have h : (if decide (x.cps.toList.length ≤ 1000) && x.cps.toList.all (fun c => decide (c < 1114112)) then some (Z.str x.cps.toList) else none) = some z := h
    split at h
    · rename_i hc
      cases h
      obtain ⟨h1, h2⟩ := and_t hc
      have h1 := of_decide_eq_true h1
      refine rep_str.mpr ⟨?_, by unfold sizeL; omega, fun c hm => of_decide_eq_true (List.all_eq_true.mp h2 c hm)⟩
      show V.str x = _
      cases x with
      | mk a => simp
    · cases h
theorem zDvs_rep {K : PySem.W.Frag} {ρ : Ro} {H : Hp} : ∀ {ds : List He.Dv} {zs : List Z}, zDvs ds = some zs → RepL K ρ H zs (ds.map (He.Dv.v K)) ∧ zs.length = ds.length
  | [], zs, h => by cases h; exact ⟨repL_nil.mpr rfl, rfl⟩
  | d :: ds, zs, h => by
    unfold zDvs at h
    cases e : zDv d with
    | none => rw [e] at h; cases h
    | some z =>
      rw [e] at h
      have h : (zDvs ds).map (z :: ·) = some zs := h
      cases e2 : zDvs ds with
      | none => rw [e2] at h; cases h
      | some ys =>
        rw [e2] at h
        cases h
        obtain ⟨r, l⟩ := zDvs_rep (K := K) (ρ := ρ) (H := H) e2
        exact ⟨repL_cons.mpr ⟨_, _, rfl, zDv_rep e, r⟩, by simp [l]⟩
theorem gvFa_ok {K : PySem.W.Frag} {mg : Str → Option Value} {h : Heap} (X : K.In h) (G : h.Ns mainGlobals mg) {x : String} {z : Z} : ∀ {fa : List He.Fa}, (∀ f ∈ fa, f.ok K = true) → gvFa x fa = some z → ∃ u v, mg (Str.ofString x) = some u ∧ RelV v u ∧ ∀ ρ H, Rep K ρ H z v
  | [], _, e => by cases e
  | f :: fa, hf, e => by
    have ih := gvFa_ok X G (x := x) (z := z) (fa := fa) fun g m => hf g (List.mem_cons_of_mem _ m)
    have h0 := hf f List.mem_cons_self
    cases f with
    | int y i =>
      unfold gvFa at e
      split at e
      · rename_i hy
        have hy := of_decide_eq_true hy
        subst hy
        cases e
        obtain ⟨t, ht⟩ := He.int_ok X G h0
        exact ⟨_, .int i, ht, ⟨t, rfl⟩, fun ρ H => rep_int.mpr rfl⟩
      · exact ih e
    | str y s =>
      unfold gvFa at e
      split at e
      · rename_i hy
        have hy := of_decide_eq_true hy
        subst hy
        obtain ⟨t, ht⟩ := He.str_ok X G h0
        exact ⟨_, .str s, ht, ⟨t, rfl⟩, fun ρ H => zDv_rep e⟩
      · exact ih e
    | _ => exact ih e
theorem gvOf_ok {K : PySem.W.Frag} {mg : Str → Option Value} {h : Heap} {fa : List He.Fa} {fn : List He.DefD} {ct : List (String × List He.Dv)} (X : K.In h) (G : h.Ns mainGlobals mg) (c : He.SaysD fa fn K) (ex : exC ct K = true) {x : String} {z : Z} (e : gvOf fa ct x = some z) :
    ∃ u v, mg (Str.ofString x) = some u ∧ RelV v u ∧ ∀ ρ H, Rep K ρ H z v := by
  unfold gvOf at e
  split at e
  · rename_i p hp
    split at e
    · rename_i hc
      obtain ⟨h1, h2⟩ := and_t hc
      have h1 := of_decide_eq_true h1
      have hm := List.mem_of_find?_eq_some hp
      have hx : p.1 = x := by simpa using List.find?_some hp
      subst hx
      have tb := List.all_eq_true.mp ex p hm
      cases e2 : zDvs p.2 with
      | none => rw [e2] at e; cases e
      | some zs =>
        rw [e2] at e
        cases e
        refine ⟨_, .ref (He.ga K (Str.ofString p.1)), He.glo_ok X G (c.facts (fGlo_ok h2)), rfl, fun ρ H => ?_⟩
        obtain ⟨r, l⟩ := zDvs_rep (K := K) (ρ := ρ) (H := H) e2
        refine rep_tup.mpr ⟨_, _, rfl, .inr ?_, by rw [l]; unfold sizeL; omega, r⟩
        have := He.tupB_ok tb (fun _ => none)
        rcases this with h | h
        · rcases h with h | ⟨o, h⟩ <;> cases h
        · exact h
    · cases e
  · exact gvFa_ok X G (fun f m => c.facts m) e
theorem zlaw {l : PySem.W.OpenLaw} {n k N : Nat} {q : Program} {loose : List Str} {XP : (Str → Option Value) → Heap → Prop} {d : DefRec} {x : String} {fa : List He.Fa} {fn : List He.DefD} {T : List Fz} {ct : List (String × List He.Dv)} {D : He.DefD} {dl : FnD} {xl : Fz} {i m : Nat}
    (hn : l.most = some n) (hn2 : n ≤ sizeLine) (hdf : d.params.defaults = []) (hr : Room (2 * k) callerA) (hname : d.name = ("law" : Str))
    (hlawg : fGlo fa "law" = true) (chk : chkAll T fa fn = true)
    (hD : fn[i]? = some D) (hat : D.at_ = (("law" : Str), none)) (hdfl : D.dfl = []) (ht : fzOf T "law" = some xl) (hxl : xl.d = dl) (hxc : xl.cm = none) (hps : dl.ps = [(x, none)])
    (hb : ∀ (kV doc pm : Value) (an : Option Addr) (cdv ct : Value) (u : Value), bindArgs (PySem.W.fnOf D.name D.qual D.params D.body D.scope .none kV doc pm an cdv ct) ⟨[u], []⟩ = pure [(Str.ofString x, u)])
    (pure : ∀ ns : List Int, ns.length ≤ n → (∀ z ∈ ns, Builtin.Int.intBits z ≤ 1048576) → ∃ st, runA (tabOf T) (gvOf fa ct) N k dl [.scr ns] 0 [] = .ok (.bl true) st) :
    PySem.W.WalkO q loose XP (He.hookX m fa fn [] [] (exC ct)).says l.row.toRowW d [] (fun f vs => PySem.call f vs) := by
  refine Att.attach_callB hn hdf fun w s₀ s₁ mg mb fw o pm cd doc a vs ns G Y ho hd hcd hmg hobj hints hlen hbits hg => ?_
  obtain ⟨K, KX, cx⟩ := Y
  have c : He.SaysD fa fn K := cx.t.d
  obtain ⟨fd, F⟩ := c.def_ i hD
  have nsl : ns.length ≤ sizeL := by rw [← sizeL_eq]; exact Nat.le_trans hlen hn2
  rw [hname] at hmg
  have all := fun (base : Heap) (kb : K.In base) (nb : base.Ns mainGlobals mg) => fn_all (P := l.prog) (w := w) (N := N) ⟨kb, nb, c, chk, fun x z e => let ⟨u, v, h1, h2, h3⟩ := gvOf_ok kb nb c cx.more e; ⟨u, v, h1, h2, fun ρ H st _ => h3 ρ H⟩⟩ k "law" xl ht
  have hpl : xl.pl = (Str.ofString "law", none) := by
    unfold Fz.pl
    rw [hxc]
    obtain ⟨_, _, e⟩ := fz_at ht
    simp only [e]
  -- the function object is the one the row names
  have hfa : fw = He.fAd K D.at_ := by
    have m2 : mg (Str.ofString "law") = some (.ref fw) := hmg
    have m3 := He.glo_ok KX G.T.g (c.facts (fGlo_ok hlawg))
    rw [m2] at m3
    rw [hat]
    injection m3 with m3
    injection m3
  subst hfa
  have bA : ∀ (s : Shared) (u : Value), BindsTo s fd ⟨[u], []⟩ [(Str.ofString x, u)] := by
    have F' := F
    rw [He.DefD.dvs, hdfl] at F'
    have := FunD.bindsA (ps := [Str.ofString x]) F' fun kV doc pm an cdv ct us hl => by
      match us, hl with
      | [u], _ => exact hb kV doc pm an cdv ct u
    exact fun s u => this s [u] rfl
  refine law_call KX G.T.g G.T.b G.T.builtins G.T.nolimit hg hobj hints (Nat.le_trans hlen hn2) hr (K := K) (CX := CX0) (sp := fun vs H Q _ => ∃ (a : Addr) (ns : List Int), vs = [.ref a] ∧ ns.length ≤ n ∧ (∀ z ∈ ns, Builtin.Int.intBits z ≤ 1048576) ∧ SqL K H a (ns.map V.int) ∧ ∀ H', Q (.bl true) H') (fd := fd) (x := Str.ofString x) (fun base kb nb => ?_) bA
    (fun H hO hS => ⟨a, ns, rfl, hlen, hbits, hS, fun _ => rfl⟩) fun H e s' h => h
  obtain ⟨fd', kp', ⟨oc, od, osl, lk⟩, b', ok'⟩ := all base kb nb
  rw [hpl, ← hat] at lk ok'
  have ef : fd' = fd := by
    obtain ⟨oc2, od2, osl2, lk2⟩ := fun_at F
    rw [lk2] at lk
    cases lk
    rfl
  subst ef
  rw [hxl, hps] at ok'
  refine ok'.imp fun vs H Q E h => ?_
  obtain ⟨a, ns, rfl, h1, h2, h3, h4⟩ := h
  obtain ⟨st, hst⟩ := pure ns h1 h2
  have nsl : ns.length ≤ sizeL := by rw [← sizeL_eq]; exact Nat.le_trans h1 hn2
  refine ⟨[.scr ns], ⟨[], []⟩, [], 0, rfl, rep_script h3 nsl, wd_nil, ?_⟩
  rw [hst]
  intro ρ' H' e s w' v hv
  rw [rep_bl.mp hv]
  exact h4 H'
end ZZ

end
section
set_option maxHeartbeats 2000000
/-! ZLaw: the laws' own helpers, told in Z, and what they do. -/
namespace ZZ
def b__law_tape : List ZZ.S := [.asg (.t (.v 2)) (.ite (.cmp .lt (.v 1) (.bf false .len [.v 0])) (.ix (.v 0) (.v 1)) (.n 0)), .ret (some (.lst true [.bin .mul (.bf false .abs [.v 2]) (.bf false .toInt [.cmp .ge (.bf false .abs [.v 2]) (.bin .pow (.n 10) (.n 18))]), .bin .add (.bin .add (.bin .mod (.v 2) (.n 2305843009213693951)) (.bin .mul (.n 39373) (.v 1))) (.n 17), .n 0]))]
def d__law_tape : FnD := ⟨[("_law_script", none), ("_law_k", none)], 2, 3, b__law_tape, true⟩
def b__law_draw : List ZZ.S := [.ife (.cmp .gt (.ix (.v 0) (.n 0)) (.n 0)) [.asg (.t (.v 5)) (.bin .mod (.ix (.v 0) (.n 0)) (.v 1)), .asg (.ix (.v 0) (.n 0)) (.bin .fdiv (.ix (.v 0) (.n 0)) (.v 1)), .ret (some (.v 5))] [], .asg (.ix (.v 0) (.n 2)) (.bin .add (.ix (.v 0) (.n 2)) (.n 1)), .asg (.t (.v 2)) (.bin .mod (.bin .pow (.bin .add (.ix (.v 0) (.n 1)) (.bin .mul (.n 39373) (.ix (.v 0) (.n 2)))) (.n 5)) (.n 2147483647)), .asg (.t (.v 3)) (.bin .mod (.bin .mul (.bin .add (.v 2) (.ix (.v 0) (.n 2))) (.bin .add (.bin .add (.bin .mod (.v 2) (.n 40009)) (.n 7)) (.ix (.v 0) (.n 2)))) (.n 2147483629)), .asg (.t (.v 4)) (.bin .mod (.bin .add (.bin .add (.bin .fdiv (.ix (.v 0) (.n 1)) (.n 2147483647)) (.bin .mul (.v 3) (.n 40009))) (.ix (.v 0) (.n 2))) (.n 2305843009213693951)), .ret (some (.bin .mod (.bin .fdiv (.bin .mod (.bin .add (.bin .add (.bin .mul (.v 3) (.n 48271)) (.bin .mul (.v 4) (.n 39373))) (.v 2)) (.n 2305843009213693921)) (.n 64)) (.v 1)))]
def d__law_draw : FnD := ⟨[("_law_tape_here", none), ("_law_many", none)], 2, 6, b__law_draw, false⟩
def b__law_same : List ZZ.S := [.ife (.isi (.v 1) ["list", "tuple"]) [.ife (.or (.cmp .ne (.isi (.v 0) ["list"]) (.isi (.v 1) ["list"])) (.cmp .ne (.isi (.v 0) ["tuple"]) (.isi (.v 1) ["tuple"]))) [.ret (some (.t false))] [], .ret (some (.an (.cmp .eq (.bf false .len [.v 0]) (.bf false .len [.v 1])) (.bf false .all [.lc false [2, 3] (.call "_law_same" [.v 2, .v 3] [] []) (.tup [.v 2, .v 3]) (.zip (.v 0) (.v 1)) none])))] [], .ife (.or (.cmp .isn (.v 1) (.non)) (.isi (.v 1) ["str", "bool"])) [.ret (some (.an (.cmp .eq (.isi (.v 0) ["bool"]) (.isi (.v 1) ["bool"])) (.cmp .eq (.v 0) (.v 1))))] [], .ret (some (.an (.isi (.v 0) ["int"]) (.an (.nt (.isi (.v 0) ["bool"])) (.cmp .eq (.v 0) (.v 1)))))]
def d__law_same : FnD := ⟨[("_law_found", none), ("_law_due", none)], 2, 4, b__law_same, false⟩
variable {tab : String → Option FnD} {gv : String → Option Z} {N : Nat}
/-- .. under any names of their parameters -/
def dTape (p1 p2 : String) : FnD := ⟨[(p1, none), (p2, none)], 2, 3, b__law_tape, true⟩
def dDraw (p1 p2 : String) : FnD := ⟨[(p1, none), (p2, none)], 2, 6, b__law_draw, false⟩
theorem run_succ {k : Nat} {f : String} {d : FnD} {zs as : List Z} {ks : List String} {b : Nat} {st : Sto} (h : tab f = some d) (hb : bindZ d zs ks = some as) :
    run tab gv N (k + 1) f zs ks b st = finF d.keep st (exs (run tab gv N k) gv (if d.keep then b else st.length) N d.body (startE d.ns as) st) := by
  show (match tab f with
    | some d => _
    | none => R.no) = _
  rw [h]
  simp only [hb]
section
variable {F : FT} {b : Nat} {s : S} {ss : List S} {en en1 : En} {st st1 : Sto}
theorem exs_step (h : ex F gv b N s en st = .ok (.nx en1) st1) : exs F gv b N (s :: ss) en st = exs F gv b N ss en1 st1 := by
  conv => lhs; unfold exs
  rw [h]
  rfl
theorem exs_ret {z : Z} (h : ex F gv b N s en st = .ok (.rt z) st1) : exs F gv b N (s :: ss) en st = .ok (.rt z) st1 := by
  conv => lhs; unfold exs
  rw [h]
  rfl
theorem exs_nil : exs F gv b N [] en st = .ok (.nx en) st := by unfold exs; rfl
theorem set_v {i : Nat} {e : E} {z : Z} (h : ev F gv b e en st = .ok z st1) : ex F gv b N (.asg (.t (.v i)) e) en st = .ok (.nx (en.set i (some z))) st1 := by
  unfold ex
  rw [h]
  rfl
theorem ex_ret {e : E} {z : Z} (h : ev F gv b e en st = .ok z st1) : ex F gv b N (.ret (some e)) en st = .ok (.rt z) st1 := by
  unfold ex
  rw [h]
  rfl
end
theorem zix_cel {st : Sto} {n : Nat} {xs : List Z} {i : Int} (e : st[n]? = some (.lst xs)) : zix st (.cel n) (.int i) = L2.atI xs i := by
  unfold zix
  rw [dr_cel, e]
  rfl
theorem zput_cel {b : Nat} {st : Sto} {n : Nat} {xs : List Z} {i : Int} {z : Z} (e : st[n]? = some (.lst xs)) (h0 : 0 ≤ i) (h1 : i < xs.length) (hz : mayW b n z = true) : zput b st (.cel n) (.int i) z = .ok .non (st.set n (.lst (xs.set i.toNat z))) := by
  unfold zput
  simp only [e, h0, h1, true_and, and_self, if_true, okW, hz]
theorem take_set {st : Sto} {n : Nat} {c : Cl} : (List.set st n c).take (List.length st) = List.set st n c := List.take_of_length_le (by simp)
theorem mulOk_l {i j : Int} (h1 : -(2 ^ 64) < i) (h2 : i < 2 ^ 64) : mulOk i j = true := by
  unfold mulOk small64
  rw [decide_eq_true h1, decide_eq_true h2]; rfl
theorem mulOk_r {i j : Int} (h1 : -(2 ^ 64) < j) (h2 : j < 2 ^ 64) : mulOk i j = true := by
  unfold mulOk small64
  rw [decide_eq_true h1, decide_eq_true h2, Bool.and_self, Bool.or_true]; rfl
theorem zbin_mul {st : Sto} {i j : Int} (h : mulOk i j = true) : zbin .mul st (.int i) (.int j) = some (.int (i * j)) := by
  unfold zbin; simp [h]
theorem zbin_add {st : Sto} {i j : Int} : zbin .add st (.int i) (.int j) = some (.int (i + j)) := by unfold zbin; rfl
theorem zbin_sub {st : Sto} {i j : Int} : zbin .sub st (.int i) (.int j) = some (.int (i - j)) := by unfold zbin; rfl
theorem zbin_mod {st : Sto} {i j : Int} (h : 0 < j) : zbin .mod st (.int i) (.int j) = some (.int (i % j)) := by unfold zbin; simp [h]
theorem log2_lt {j : Int} (h0 : 0 < j) (h : j < 2 ^ 64) : j.natAbs.log2 < 9000 := by
  have : j.natAbs < 2 ^ 64 := by omega
  have := (Nat.log2_lt (by omega)).mpr this
  omega
theorem zbin_fdiv {st : Sto} {i j : Int} (h : 0 < j) (h2 : j < 2 ^ 64) : zbin .fdiv st (.int i) (.int j) = some (.int (i / j)) := by unfold zbin; simp [h, log2_lt h h2]
theorem zbin_pow {st : Sto} {i j : Int} (h : 0 ≤ j) (h1 : j ≤ 1000000) (h2 : small64 i = true) : zbin .pow st (.int i) (.int j) = some (.int (i ^ j.toNat)) := by unfold zbin; simp [h, h1, h2]
def Tape (st : Sto) (n : Nat) (B : Int) : Prop := ∃ a b c : Int, st[n]? = some (.lst [.int a, .int b, .int c]) ∧ 0 ≤ a ∧ 0 ≤ b ∧ b < 2 ^ 62 ∧ 0 ≤ c ∧ c ≤ B
theorem draw_ok {p1 p2 : String} (h : tab "_law_draw" = some (dDraw p1 p2)) {k b n : Nat} {st : Sto} {B m : Int} (t : Tape st n B) (hB : B < 1000000000) (hm : 0 < m) (hm2 : m < 2 ^ 64) :
    ∃ v a b' c : Int, 0 ≤ v ∧ v < m ∧ run tab gv N (k + 1) "_law_draw" [.cel n, .int m] [] b st = .ok (.int v) (st.set n (.lst [.int a, .int b', .int c])) ∧ Tape (st.set n (.lst [.int a, .int b', .int c])) n (B + 1) := by
  obtain ⟨a, b', c, e, h1, h2, h3, h4, h5⟩ := t
  rw [run_succ h (as := [.cel n, .int m]) rfl]
  have hn : n < st.length := (List.getElem?_eq_some_iff.mp e).1
  show ∃ v a b'' c : Int, 0 ≤ v ∧ v < m ∧ finF false st (exs _ gv st.length N b__law_draw [some (.cel n), some (.int m), none, none, none, none] st) = _ ∧ _
  generalize hF : run tab gv N k = F
  have i0 : zix st (.cel n) (.int 0) = some (.int a) := by rw [zix_cel e]; rfl
  have i1 : zix st (.cel n) (.int 1) = some (.int b') := by rw [zix_cel e]; rfl
  have i2 : zix st (.cel n) (.int 2) = some (.int c) := by rw [zix_cel e]; rfl
  by_cases ha : 0 < a
  · refine ⟨a % m, a / m, b', c, Int.emod_nonneg _ (by omega), Int.emod_lt_of_pos _ hm, ?_, ⟨a / m, b', c, by simp [hn], Int.ediv_nonneg h1 (by omega), h2, h3, h4, by omega⟩⟩
    have pt : zput st.length st (.cel n) (.int 0) (.int (a / m)) = .ok .non (st.set n (.lst [.int (a / m), .int b', .int c])) := by
      rw [zput_cel e (by decide) (by simp) (by unfold mayW Z.clo Z.refs; simp)]; rfl
    unfold b__law_draw
    have s1 : ex F gv st.length N (.ife (.cmp .gt (.ix (.v 0) (.n 0)) (.n 0)) [.asg (.t (.v 5)) (.bin .mod (.ix (.v 0) (.n 0)) (.v 1)), .asg (.ix (.v 0) (.n 0)) (.bin .fdiv (.ix (.v 0) (.n 0)) (.v 1)), .ret (some (.v 5))] []) [some (.cel n), some (.int m), none, none, none, none] st = .ok (.rt (.int (a % m))) (st.set n (.lst [.int (a / m), .int b', .int c])) := by
      simp [ex, exs, ev, i0, zcmp, ztru, ha, zbin_mod hm, zbin_fdiv hm hm2, bindT, pt]
    rw [exs_ret s1]
    simp [finF, Z.refs, take_set]
  · have ha0 : a = 0 := by omega
    subst ha0
    have pt : zput st.length st (.cel n) (.int 2) (.int (c + 1)) = .ok .non (st.set n (.lst [.int 0, .int b', .int (c + 1)])) := by
      rw [zput_cel e (by decide) (by simp) (by unfold mayW Z.clo Z.refs; simp)]; rfl
    have e2 : (st.set n (.lst [.int 0, .int b', .int (c + 1)]))[n]? = some (.lst [.int 0, .int b', .int (c + 1)]) := by simp [hn]
    generalize hst : st.set n (.lst [.int 0, .int b', .int (c + 1)]) = st1 at pt e2
    have hl : st1.length = st.length := by rw [← hst]; simp
    have j1 : zix st1 (.cel n) (.int 1) = some (.int b') := by rw [zix_cel e2]; rfl
    have j2 : zix st1 (.cel n) (.int 2) = some (.int (c + 1)) := by rw [zix_cel e2]; rfl
    unfold b__law_draw
    have s1 : ex F gv st.length N (.ife (.cmp .gt (.ix (.v 0) (.n 0)) (.n 0)) [.asg (.t (.v 5)) (.bin .mod (.ix (.v 0) (.n 0)) (.v 1)), .asg (.ix (.v 0) (.n 0)) (.bin .fdiv (.ix (.v 0) (.n 0)) (.v 1)), .ret (some (.v 5))] []) [some (.cel n), some (.int m), none, none, none, none] st = .ok (.nx [some (.cel n), some (.int m), none, none, none, none]) st := by
      simp [ex, exs, ev, i0, zcmp, ztru]
    rw [exs_step s1]
    have s2 : ex F gv st.length N (.asg (.ix (.v 0) (.n 2)) (.bin .add (.ix (.v 0) (.n 2)) (.n 1))) [some (.cel n), some (.int m), none, none, none, none] st = .ok (.nx [some (.cel n), some (.int m), none, none, none, none]) st1 := by
      simp [ex, ev, i2, zbin_add, pt]
    rw [exs_step s2]
    have sm : small64 (b' + 39373 * (c + 1)) = true := by
      unfold small64
      rw [decide_eq_true (by omega), decide_eq_true (by omega)]; rfl
    have m1 := fun j => zbin_mul (st := st1) (mulOk_l (i := 39373) (j := j) (by decide) (by decide))
    rw [exs_step (set_v (z := .int ((b' + 39373 * (c + 1)) ^ (5 : Int).toNat % 2147483647)) (st1 := st1) (by
      simp [ev, j1, j2, zbin_add, m1, zbin_pow (i := b' + 39373 * (c + 1)) (j := 5) (by decide) (by decide) sm, zbin_mod]))]
    have o0 := Int.emod_nonneg ((b' + 39373 * (c + 1)) ^ (5 : Int).toNat) (show (2147483647 : Int) ≠ 0 by decide)
    have o1 := Int.emod_lt_of_pos ((b' + 39373 * (c + 1)) ^ (5 : Int).toNat) (show (0 : Int) < 2147483647 by decide)
    generalize (b' + 39373 * (c + 1)) ^ (5 : Int).toNat % 2147483647 = O at o0 o1
    have m2 := zbin_mul (st := st1) (mulOk_l (i := O + (c + 1)) (j := O % 40009 + 7 + (c + 1)) (by omega) (by omega))
    rw [exs_step (set_v (z := .int ((O + (c + 1)) * (O % 40009 + 7 + (c + 1)) % 2147483629)) (st1 := st1) (by
      simp [ev, j2, zbin_add, m2, zbin_mod]))]
    have w0 := Int.emod_nonneg ((O + (c + 1)) * (O % 40009 + 7 + (c + 1))) (show (2147483629 : Int) ≠ 0 by decide)
    have w1 := Int.emod_lt_of_pos ((O + (c + 1)) * (O % 40009 + 7 + (c + 1))) (show (0 : Int) < 2147483629 by decide)
    generalize (O + (c + 1)) * (O % 40009 + 7 + (c + 1)) % 2147483629 = W at w0 w1
    have m3 := fun i => zbin_mul (st := st1) (mulOk_r (i := i) (j := 40009) (by decide) (by decide))
    rw [exs_step (set_v (z := .int ((b' / 2147483647 + W * 40009 + (c + 1)) % 2305843009213693951)) (st1 := st1) (by
      simp [ev, j1, j2, zbin_add, m3, zbin_mod, zbin_fdiv]))]
    generalize (b' / 2147483647 + W * 40009 + (c + 1)) % 2305843009213693951 = U
    have m4 := fun i => zbin_mul (st := st1) (mulOk_r (i := i) (j := 48271) (by decide) (by decide))
    have m5 := fun i => zbin_mul (st := st1) (mulOk_r (i := i) (j := 39373) (by decide) (by decide))
    rw [exs_ret (ex_ret (z := .int ((W * 48271 + U * 39373 + O) % 2305843009213693921 / 64 % m)) (st1 := st1) (by
      simp [ev, zbin_add, m4, m5, zbin_mod hm, zbin_mod, zbin_fdiv]))]
    refine ⟨(W * 48271 + U * 39373 + O) % 2305843009213693921 / 64 % m, 0, b', c + 1, Int.emod_nonneg _ (by omega), Int.emod_lt_of_pos _ hm, ?_, ⟨0, b', c + 1, by rw [hst]; exact e2, by decide, h2, h3, by omega, by omega⟩⟩
    rw [hst]
    simp [finF, Z.refs, ← hl]
/-- nothing but the cell n changes -/
def Onl (n : Nat) (st st' : Sto) : Prop := st'.length = st.length ∧ ∀ m, m ≠ n → st'[m]? = st[m]?
theorem Onl.refl {n : Nat} {st : Sto} : Onl n st st := ⟨rfl, fun _ _ => rfl⟩
theorem Onl.trans {n : Nat} {a b c : Sto} (h : Onl n a b) (g : Onl n b c) : Onl n a c := ⟨g.1.trans h.1, fun m hm => (g.2 m hm).trans (h.2 m hm)⟩
theorem onl_set {n : Nat} {st : Sto} {c : Cl} : Onl n st (st.set n c) := ⟨by simp, fun m hm => List.getElem?_set_ne (Ne.symm hm)⟩
theorem Tape.mono {st : Sto} {n : Nat} {B B' : Int} (t : Tape st n B) (h : B ≤ B') : Tape st n B' := by
  obtain ⟨a, b, c, e, h1, h2, h3, h4, h5⟩ := t
  exact ⟨a, b, c, e, h1, h2, h3, h4, by omega⟩
theorem Tape.keep {st st' : Sto} {n : Nat} {B : Int} (t : Tape st n B) (h : st'[n]? = st[n]?) : Tape st' n B := by
  obtain ⟨a, b, c, e, r⟩ := t
  exact ⟨a, b, c, h.trans e, r⟩
theorem Tape.lt {st : Sto} {n : Nat} {B : Int} (t : Tape st n B) : n < st.length := by
  obtain ⟨a, b, c, e, _⟩ := t
  exact (List.getElem?_eq_some_iff.mp e).1
theorem Tape.app {st l : Sto} {n : Nat} {B : Int} (t : Tape st n B) : Tape (st ++ l) n B := t.keep (List.getElem?_append_left t.lt)
theorem draw {p1 p2 : String} (h : tab "_law_draw" = some (dDraw p1 p2)) {k b n : Nat} {st : Sto} {B m : Int} (t : Tape st n B) (hB : B < 1000000000) (hm : 0 < m) (hm2 : m < 2 ^ 64) :
    ∃ v st', 0 ≤ v ∧ v < m ∧ run tab gv N (k + 1) "_law_draw" [.cel n, .int m] [] b st = .ok (.int v) st' ∧ Tape st' n (B + 1) ∧ Onl n st st' := by
  obtain ⟨v, a, b', c, h1, h2, h3, h4⟩ := draw_ok (gv := gv) (N := N) h (k := k) (b := b) t hB hm hm2
  exact ⟨v, _, h1, h2, h3, h4, onl_set⟩
theorem tape_ok {p1 p2 : String} (h : tab "_law_tape" = some (dTape p1 p2)) {k b : Nat} {st : Sto} {ns : List Int} {i : Int} (h0 : 0 ≤ i) (h1 : i ≤ 5) :
    ∃ c, run tab gv N (k + 1) "_law_tape" [.scr ns, .int i] [] b st = .ok (.cel st.length) (st ++ [c]) ∧ Tape (st ++ [c]) st.length 0 := by
  rw [run_succ h (as := [.scr ns, .int i]) rfl]
  show ∃ c, finF true st (exs _ gv b N b__law_tape [some (.scr ns), some (.int i), none] st) = _ ∧ _
  generalize run tab gv N k = F
  unfold b__law_tape
  have s1 : ∃ x : Int, ev F gv b (.ite (.cmp .lt (.v 1) (.bf false .len [.v 0])) (.ix (.v 0) (.v 1)) (.n 0)) [some (.scr ns), some (.int i), none] st = .ok (.int x) st := by
    by_cases hl : i < ns.length
    · have hx : i.toNat < ns.length := by omega
      refine ⟨ns[i.toNat], ?_⟩
      have q : zix st (.scr ns) (.int i) = some (.int ns[i.toNat]) := by
        unfold zix L2.atI L2.ixN
        simp [h0, hl, hx]
      simp [ev, evs, zbf, zbf1, zlen, zcmp, ztru, hl, q]
    · refine ⟨0, ?_⟩
      simp [ev, evs, zbf, zbf1, zlen, zcmp, ztru, hl]
  obtain ⟨x, s1⟩ := s1
  rw [exs_step (set_v s1)]
  have m1 := fun j => zbin_mul (st := st) (mulOk_l (i := 39373) (j := j) (by decide) (by decide))
  have a0 : (0 : Int) ≤ if x < 0 then -x else x := by split <;> omega
  generalize hA : (if x < 0 then -x else x) = A at a0
  have m2 : ∀ t : Bool, zbin .mul st (.int A) (.int (if t then 1 else 0)) = some (.int (A * if t then 1 else 0)) := fun t => zbin_mul (mulOk_r (by cases t <;> decide) (by cases t <;> decide))
  have p1 : zbin .pow st (.int 10) (.int 18) = some (.int (10 ^ (18 : Int).toNat)) := zbin_pow (by decide) (by decide) (by decide)
  have s2 : ∃ t : Bool, ev F gv b (.lst true [.bin .mul (.bf false .abs [.v 2]) (.bf false .toInt [.cmp .ge (.bf false .abs [.v 2]) (.bin .pow (.n 10) (.n 18))]), .bin .add (.bin .add (.bin .mod (.v 2) (.n 2305843009213693951)) (.bin .mul (.n 39373) (.v 1))) (.n 17), .n 0]) [some (.scr ns), some (.int i), some (.int x)] st =
      .ok (.cel st.length) (st ++ [.lst [.int (A * if t then 1 else 0), .int (x % 2305843009213693951 + 39373 * i + 17), .int 0]]) := by
    refine ⟨decide (10 ^ (18 : Int).toNat ≤ A), ?_⟩
    simp only [ev, evs, List.getElem?_cons_succ, List.getElem?_cons_zero, R.bind_ok, zbf, zbf1, zabs, ofO_some, asK_f, hA, p1, zcmp, Option.map_some, zint, m2, zbin_mod (show (0 : Int) < 2305843009213693951 by decide), m1, zbin_add, mkL_t]
  obtain ⟨t, s2⟩ := s2
  refine ⟨_, ?_, A * (if t then 1 else 0), x % 2305843009213693951 + 39373 * i + 17, 0, List.getElem?_concat_length, ?_, ?_, ?_, by decide, by decide⟩
  · show finF true st (exs F gv b N [_] [some (.scr ns), some (.int i), some (.int x)] st) = _
    rw [exs_ret (ex_ret s2)]
    rfl
  · cases t <;> simp [a0]
  · have := Int.emod_nonneg x (show (2305843009213693951 : Int) ≠ 0 by decide)
    omega
  · have := Int.emod_lt_of_pos x (show (0 : Int) < 2305843009213693951 by decide)
    omega
/-! ### rules for loops and comprehensions -/
theorem stays_nil {st st' : Sto} : stays [] st st' = true := stays_iff.mpr fun h m => by cases m
theorem stays_one {z : Z} {st st' : Sto} (h : dr st' z = dr st z) : stays [z] st st' = true := stays_iff.mpr fun x m => by rw [List.mem_singleton.mp m]; exact h
theorem stays_two {z y : Z} {st st' : Sto} (h : dr st' z = dr st z) (g : dr st' y = dr st y) : stays [z, y] st st' = true := stays_iff.mpr fun x m => by
  rcases List.mem_cons.mp m with q | q
  · rw [q]; exact h
  · rw [List.mem_singleton.mp q]; exact g
theorem stays_self {hs : List Z} {st : Sto} : stays hs st st = true := stays_iff.mpr fun _ _ => rfl
section
variable {F : FT} {b : Nat}
theorem goC_inv {c : Sto → Bool} {f : Z → Sto → R (List Z)} (I : Nat → Sto → Prop) (P : Nat → Z → Prop) : ∀ (zs : List Z) (i : Nat) (st : Sto), I i st →
    (∀ j (hj : j < zs.length) st, I (i + j) st → c st = true ∧ ∃ y st', f zs[j] st = .ok [y] st' ∧ I (i + j + 1) st' ∧ P (i + j) y) → (∀ st, I (i + zs.length) st → c st = true) →
    ∃ ys st', goC c f zs st = .ok ys st' ∧ I (i + zs.length) st' ∧ ys.length = zs.length ∧ ∀ j y, ys[j]? = some y → P (i + j) y
  | [], i, st, h0, hs, he => by
    refine ⟨[], st, ?_, h0, rfl, fun j y e => by simp at e⟩
    show (if c st then _ else _) = _
    rw [if_pos (he st h0)]
  | z :: zs, i, st, h0, hs, he => by
    obtain ⟨c1, y, st1, e1, i1, p1⟩ := hs 0 (by simp) st h0
    obtain ⟨ys, st2, e2, i2, l2, p2⟩ := goC_inv I P zs (i + 1) st1 i1 (fun j hj st hI => by
      have := hs (j + 1) (by simpa using hj) st (by rw [show i + (j + 1) = i + 1 + j by omega]; exact hI)
      rw [show i + (j + 1) = i + 1 + j by omega] at this
      exact this) (fun st hI => he st (by rw [List.length_cons, show i + (zs.length + 1) = i + 1 + zs.length by omega]; exact hI))
    refine ⟨y :: ys, st2, ?_, by rw [List.length_cons, show i + (zs.length + 1) = i + 1 + zs.length by omega]; exact i2, by simp [l2], fun j x e => ?_⟩
    · show (if c st then _ else _) = _
      rw [if_pos c1]
      have e1 : f z st = .ok [y] st1 := e1
      rw [e1, R.bind_ok, e2, R.bind_ok]
      rfl
    · cases j with
      | zero => simp at e; subst e; exact p1
      | succ j =>
        have := p2 j x (by simpa using e)
        rw [show i + (j + 1) = i + 1 + j by omega]
        exact this
theorem lc_inv {k : Bool} {ws : List Nat} {e : E} {t : T} {i : I} {en : En} {st st1 : Sto} {w : Wk} (I : Nat → Sto → Prop) (P : Nat → Z → Prop) (hI : evI F gv b i en st = .ok w st1) (h0 : I 0 st1)
    (hs : ∀ j (hj : j < w.items.length) st, I j st → stays w.held st1 st = true ∧ ∃ en1 y st', bindT t w.items[j] (wipeE en ws) = some en1 ∧ ev F gv b e en1 st = .ok y st' ∧ I (j + 1) st' ∧ P j y) (he : ∀ st, I w.items.length st → stays w.held st1 st = true) :
    ∃ ys st', ev F gv b (.lc k ws e t i none) en st = mkL k ys st' ∧ I w.items.length st' ∧ ys.length = w.items.length ∧ ∀ j y, ys[j]? = some y → P j y := by
  obtain ⟨ys, st2, e2, i2, l2, p2⟩ := goC_inv (c := stays w.held st1) (f := fun z st1 => (match bindT t z (wipeE en ws) with
      | some en1 => (evc F gv b none en1 st1).calm.bind fun k st2 => if k then (ev F gv b e en1 st2).calm.bind fun y st3 => .ok [y] st3 else .ok [] st2
      | none => .no)) I P w.items 0 st1 h0 (fun j hj st hI => by
        rw [Nat.zero_add] at hI ⊢
        obtain ⟨c1, en1, y, st', b1, e1, i1, p1⟩ := hs j hj st hI
        refine ⟨c1, y, st', ?_, i1, p1⟩
        simp only [b1]
        unfold evc
        simp only [R.calm_ok, R.bind_ok, if_true, e1]) (fun st hI => he st (by rw [Nat.zero_add] at hI; exact hI))
  rw [Nat.zero_add] at i2
  refine ⟨ys, st2, ?_, i2, l2, fun j y hy => by have := p2 j y hy; rwa [Nat.zero_add] at this⟩
  conv => lhs; unfold ev
  rw [hI, R.bind_ok]
  exact congrArg (fun r => R.bind r (fun zs st => mkL k zs st)) e2
theorem goF_inv {c : Sto → Bool} {f : Z → En → Sto → R Fl} (I : Nat → En → Sto → Prop) : ∀ (zs : List Z) (i : Nat) (en : En) (st : Sto), I i en st →
    (∀ j (hj : j < zs.length) en st, I (i + j) en st → c st = true ∧ ∃ en' st', f zs[j] en st = .ok (.nx en') st' ∧ I (i + j + 1) en' st') → (∀ en st, I (i + zs.length) en st → c st = true) →
    ∃ en' st', goF c f zs en st = .ok (.nx en') st' ∧ I (i + zs.length) en' st'
  | [], i, en, st, h0, hs, he => by
    refine ⟨en, st, ?_, h0⟩
    show (if c st then _ else _) = _
    rw [if_pos (he en st h0)]
  | z :: zs, i, en, st, h0, hs, he => by
    obtain ⟨c1, en1, st1, e1, i1⟩ := hs 0 (by simp) en st h0
    obtain ⟨en2, st2, e2, i2⟩ := goF_inv I zs (i + 1) en1 st1 i1 (fun j hj en st hI => by
      have := hs (j + 1) (by simpa using hj) en st (by rw [show i + (j + 1) = i + 1 + j by omega]; exact hI)
      rw [show i + (j + 1) = i + 1 + j by omega] at this
      exact this) (fun en st hI => he en st (by rw [List.length_cons, show i + (zs.length + 1) = i + 1 + zs.length by omega]; exact hI))
    refine ⟨en2, st2, ?_, by rw [List.length_cons, show i + (zs.length + 1) = i + 1 + zs.length by omega]; exact i2⟩
    show (if c st then _ else _) = _
    rw [if_pos c1]
    have e1 : f z en st = .ok (.nx en1) st1 := e1
    rw [e1, R.bind_ok]
    exact e2
theorem fo_inv {t : T} {i : I} {x : List S} {en : En} {st st1 : Sto} {w : Wk} (I : Nat → En → Sto → Prop) (hI : evI F gv b i en st = .ok w st1) (h0 : I 0 en st1)
    (hs : ∀ j (hj : j < w.items.length) en st, I j en st → stays w.held st1 st = true ∧ ∃ en1 en2 st', bindT t w.items[j] en = some en1 ∧ exs F gv b N x en1 st = .ok (.nx en2) st' ∧ I (j + 1) en2 st') (he : ∀ en st, I w.items.length en st → stays w.held st1 st = true) :
    ∃ en' st', ex F gv b N (.fo t i x) en st = .ok (.nx en') st' ∧ I w.items.length en' st' := by
  obtain ⟨en2, st2, e2, i2⟩ := goF_inv (c := stays w.held st1) (f := fun z en st1 => (match bindT t z en with
      | some en1 => exs F gv b N x en1 st1
      | none => .no)) I w.items 0 en st1 h0 (fun j hj en st hI => by
        rw [Nat.zero_add] at hI ⊢
        obtain ⟨c1, en1, en2, st', b1, e1, i1⟩ := hs j hj en st hI
        refine ⟨c1, en2, st', ?_, i1⟩
        simp only [b1]
        exact e1) (fun en st hI => he en st (by rw [Nat.zero_add] at hI; exact hI))
  rw [Nat.zero_add] at i2
  refine ⟨en2, st2, ?_, i2⟩
  conv => lhs; unfold ex
  rw [hI, R.bind_ok]
  exact e2
/-- a comprehension that leaves the cells as they are -/
theorem lc_pure {k : Bool} {ws : List Nat} {e : E} {t : T} {i : I} {en : En} {st st1 : Sto} {w : Wk} (g : Z → Z) (hI : evI F gv b i en st = .ok w st1) (hs : ∀ z ∈ w.items, ∃ en1, bindT t z (wipeE en ws) = some en1 ∧ ev F gv b e en1 st1 = .ok (g z) st1) :
    ev F gv b (.lc k ws e t i none) en st = mkL k (w.items.map g) st1 := by
  obtain ⟨ys, st', e1, i1, l1, p1⟩ := lc_inv (k := k) (ws := ws) (e := e) (t := t) (i := i) (en := en) (fun _ s => s = st1) (fun j y => ∃ z, w.items[j]? = some z ∧ y = g z) hI rfl (fun j hj s hs' => by
    subst hs'
    obtain ⟨en1, b1, e1⟩ := hs w.items[j] (List.getElem_mem hj)
    exact ⟨stays_self, en1, _, s, b1, e1, rfl, _, List.getElem?_eq_getElem hj, rfl⟩) (fun s hs' => by subst hs'; exact stays_self)
  subst i1
  have : ys = w.items.map g := by
    apply List.ext_getElem?
    intro j
    rw [List.getElem?_map]
    cases h : ys[j]? with
    | none =>
      have := List.getElem?_eq_none_iff.mp h
      rw [List.getElem?_eq_none (by omega)]
      rfl
    | some y =>
      obtain ⟨z, h1, h2⟩ := p1 j y h
      rw [h1, h2]
      rfl
  rw [← this]
  exact e1
theorem goN_pure {c : Sto → Bool} {f : Nat → Z → Sto → R (List Z)} {st : Sto} (g : Z → List Z) (M : Nat) (hc : c st = true) : ∀ (zs : List Z) (n : Nat), n + (zs.flatMap g).length ≤ M → (∀ n, ∀ z ∈ zs, n + (g z).length ≤ M → f n z st = .ok (g z) st) → goN c f n zs st = .ok (zs.flatMap g) st
  | [], n, _, _ => by
    show (if c st then _ else _) = _
    rw [if_pos hc]
    rfl
  | z :: zs, n, hM, hf => by
    rw [List.flatMap_cons, List.length_append] at hM
    show (if c st then _ else _) = _
    rw [if_pos hc, hf n z List.mem_cons_self (by omega), R.bind_ok, goN_pure g M hc zs _ (by omega) (fun n z m => hf n z (List.mem_cons_of_mem _ m)), R.bind_ok, List.flatMap_cons]
theorem lc2_pure {k : Bool} {ws ws2 : List Nat} {e : E} {t t2 : T} {i i2 : I} {en : En} {st st1 : Sto} {w : Wk} (w2 : Z → Wk) (g : Z → Z → Z) (hI : evI F gv b i en st = .ok w st1)
    (hM : (w.items.flatMap fun z => (w2 z).items.map (g z)).length ≤ sizeL)
    (hs : ∀ z ∈ w.items, ∃ en1, bindT t z (wipeE en ws) = some en1 ∧ evI F gv b i2 en1 st1 = .ok (w2 z) st1 ∧ ∀ y ∈ (w2 z).items, ∃ en2, bindT t2 y (wipeE en1 ws2) = some en2 ∧ ev F gv b e en2 st1 = .ok (g z y) st1) :
    ev F gv b (.lc2 k ws ws2 e t i t2 i2 none) en st = mkL k (w.items.flatMap fun z => (w2 z).items.map (g z)) st1 := by
  conv => lhs; unfold ev
  rw [hI, R.bind_ok]
  rw [goN_pure (fun z => (w2 z).items.map (g z)) sizeL stays_self w.items 0 (by omega) (fun n z hz hn => by
    obtain ⟨en1, b1, e1, h1⟩ := hs z hz
    simp only [b1, e1, R.calm_ok, R.bind_ok]
    have : (w2 z).items.map (g z) = (w2 z).items.flatMap fun y => [g z y] := by
      induction (w2 z).items with
      | nil => rfl
      | cons a l ih => rw [List.map_cons, List.flatMap_cons, ih]; rfl
    rw [this] at hn ⊢
    refine goN_pure (fun y => [g z y]) sizeL stays_self _ n hn fun m y hy hm => ?_
    obtain ⟨en2, b2, e2⟩ := h1 y hy
    simp only [b2]
    unfold evc
    simp only [R.calm_ok, R.bind_ok, if_true, e2]
    rw [if_pos (by simp at hm; omega)]), R.bind_ok]
end
end ZZ

end
section
set_option maxHeartbeats 2000000
/-! ZWp: runs, step by step. -/
namespace ZZ
universe u
/-- what simp is to leave alone -/
class Tg {α : Sort u} (x : α) : Type where
instance iTg {α : Sort u} (x : α) : Tg x := ⟨⟩
/-- the run ends, and Q holds of what it gives -/
def Wp {α : Type} (r : R α) (Q : α → Sto → Prop) [Tg Q] : Prop := match r with
  | .ok a st => Q a st
  | _ => False
theorem Wp_ok {α : Type} {a : α} {st : Sto} {Q : α → Sto → Prop} : Wp (.ok a st) Q = Q a st := (rfl)
theorem Wp_no {α : Type} {Q : α → Sto → Prop} : Wp (.no : R α) Q = False := (rfl)
theorem Wp_exn {α : Type} {c : String} {w : Z} {st : Sto} {Q : α → Sto → Prop} : Wp (.exn c w st : R α) Q = False := (rfl)
theorem Wp_bind {α β : Type} {r : R α} {f : α → Sto → R β} {Q : β → Sto → Prop} : Wp (r.bind f) Q = Wp r (fun a st => Wp (f a st) Q) := by cases r <;> exact (rfl)
theorem Wp.mono {α : Type} {r : R α} {Q Q' : α → Sto → Prop} (h : Wp r Q) (k : ∀ a st, Q a st → Q' a st) : Wp r Q' := by
  cases r with
  | ok a st => exact k a st h
  | exn _ _ _ => exact h.elim
  | no => exact h.elim
theorem Wp_ext {α : Type} {r : R α} {Q Q' : α → Sto → Prop} (h : ∀ a st, Q a st = Q' a st) : Wp r Q = Wp r Q' := by
  have : Q = Q' := funext fun a => funext fun st => h a st
  subst this
  rfl
theorem Wp_bx {α β : Type} {r : R α} {f : α → Sto → R β} {Q : β → Sto → Prop} {Q' : α → Sto → Prop} (h : ∀ a st, Wp (f a st) Q = Q' a st) : Wp (r.bind f) Q = Wp r Q' := by rw [Wp_bind]; exact Wp_ext h
theorem Wp.ex {α : Type} {r : R α} {Q : α → Sto → Prop} (h : Wp r Q) : ∃ a st, r = .ok a st ∧ Q a st := by
  cases r with
  | ok a st => exact ⟨a, st, rfl, h⟩
  | exn _ _ _ => exact h.elim
  | no => exact h.elim
theorem Wp.of_eq {α : Type} {r : R α} {Q : α → Sto → Prop} {a : α} {st : Sto} (h : r = .ok a st) (q : Q a st) : Wp r Q := by rw [h]; exact q
theorem Wp.eq {α : Type} {r : R α} {a : α} {st : Sto} (h : Wp r fun x s => x = a ∧ s = st) : r = .ok a st := by
  obtain ⟨x, s, e, rfl, rfl⟩ := h.ex
  exact e
theorem calm_Wp {α : Type} {r : R α} {Q : α → Sto → Prop} : Wp r.calm Q = Wp r Q := by cases r <;> exact (rfl)
/-- two ways -/
def Br (c : Prop) (p q : Prop) [Tg p] [Tg q] : Prop := (c → p) ∧ (¬ c → q)
theorem Br_true {p q : Prop} : Br True p q = p := by simp [Br]
theorem Br_false {p q : Prop} : Br False p q = q := by simp [Br]
theorem Br.mk' {c p q : Prop} (h : c → p) (g : ¬ c → q) : Br c p q := ⟨h, g⟩
theorem Br.t {c p q : Prop} (hc : c) (h : p) : Br c p q := ⟨fun _ => h, fun n => absurd hc n⟩
theorem Br.f {c p q : Prop} (hc : ¬ c) (h : q) : Br c p q := ⟨fun n => absurd n hc, fun _ => h⟩
theorem Wp_ite {α : Type} {c : Prop} [Decidable c] {a b : R α} {Q : α → Sto → Prop} : Wp (if c then a else b) Q = Br c (Wp a Q) (Wp b Q) := by
  unfold Br
  by_cases h : c <;> simp [h]
theorem Br_not {c p q : Prop} : Br (¬ c) p q = Br c q p := by
  unfold Br
  by_cases h : c <;> simp [h]
theorem ofO_Wp {α : Type} {a : α} {st : Sto} {Q : α → Sto → Prop} : Wp (ofO (some a) st) Q = Q a st := (rfl)
/-- and, held back -/
def An (p q : Prop) [Tg q] : Prop := p ∧ q
theorem An_true {q : Prop} : An True q = q := by simp [An]
theorem Wp_ifno {α : Type} {c : Prop} [Decidable c] {a : R α} {Q : α → Sto → Prop} : Wp (if c then a else .no) Q = An c (Wp a Q) := by
  unfold An
  by_cases h : c <;> simp [h, Wp]
theorem rbind_ok {α β : Type} {a : α} {st : Sto} {f : α → Sto → R β} : (R.ok a st).bind f = f a st := (rfl)
theorem mkLf {zs : List Z} {st : Sto} : mkL false zs st = .ok (.lst zs) st := (rfl)
theorem mkLt {zs : List Z} {st : Sto} : mkL true zs st = .ok (.cel st.length) (st ++ [.lst zs]) := (rfl)
theorem asKf {z : Z} {st : Sto} : asK false z st = .ok z st := (rfl)
theorem asKt {zs : List Z} {st : Sto} : asK true (.lst zs) st = .ok (.cel st.length) (st ++ [.lst zs]) := (rfl)
/-! ### operators -/
section
variable {st s : Sto} {Q : Z → Sto → Prop} {i j : Int}
theorem w_add : zbin .add st (.int i) (.int j) = some (.int (i + j)) := zbin_add
theorem w_sub : zbin .sub st (.int i) (.int j) = some (.int (i - j)) := zbin_sub
theorem w_mul : Wp (ofO (zbin .mul st (.int i) (.int j)) s) Q = An (mulOk i j = true) (Q (.int (i * j)) s) := by
  unfold zbin An
  by_cases h : mulOk i j = true <;> simp [h, Wp]
theorem w_mod : Wp (ofO (zbin .mod st (.int i) (.int j)) s) Q = An (0 < j) (Q (.int (i % j)) s) := by
  unfold zbin An
  by_cases h : 0 < j <;> simp [h, Wp]
theorem w_fdiv : Wp (ofO (zbin .fdiv st (.int i) (.int j)) s) Q = An (0 < j ∧ j.natAbs.log2 < 9000) (Q (.int (i / j)) s) := by
  unfold zbin An
  by_cases h : 0 < j
  · by_cases h2 : j.natAbs.log2 < 9000 <;> simp [h, h2, Wp]
  · simp [h, Wp]
theorem w_pow : Wp (ofO (zbin .pow st (.int i) (.int j)) s) Q = An (0 ≤ j ∧ j ≤ 1000000 ∧ small64 i = true) (Q (.int (i ^ j.toNat)) s) := by
  unfold zbin An
  by_cases h : 0 ≤ j
  · by_cases h2 : j ≤ 1000000
    · by_cases h3 : small64 i = true <;> simp [h, h2, h3, Wp]
    · simp [h2, Wp]
  · simp [h, Wp]
theorem w_strs {a b : List Nat} : Wp (ofO (zbin .add st (.str a) (.str b)) s) Q = An (a.length + b.length ≤ sizeL) (Q (.str (a ++ b)) s) := by
  unfold zbin An
  by_cases h : a.length + b.length ≤ sizeL <;> simp [h, Wp]
theorem w_tups {a b : List Z} : Wp (ofO (zbin .add st (.tup a) (.tup b)) s) Q = An (a.length + b.length ≤ sizeL) (Q (.tup (a ++ b)) s) := by
  unfold zbin An
  by_cases h : a.length + b.length ≤ sizeL <;> simp [h, Wp]
theorem w_lsts {a b : List Z} : Wp (ofO (zbin .add st (.lst a) (.lst b)) s) Q = An (a.length + b.length ≤ sizeL) (Q (.lst (a ++ b)) s) := by
  unfold zbin An
  by_cases h : a.length + b.length ≤ sizeL <;> simp [h, Wp, Z.isScr]
/-! comparisons -/
theorem c_lt : zcmp .lt st (.int i) (.int j) = some (decide (i < j)) := (rfl)
theorem c_le : zcmp .le st (.int i) (.int j) = some (decide (i ≤ j)) := (rfl)
theorem c_gt : zcmp .gt st (.int i) (.int j) = some (decide (j < i)) := (rfl)
theorem c_ge : zcmp .ge st (.int i) (.int j) = some (decide (j ≤ i)) := (rfl)
theorem c_eqi : zcmp .eq st (.int i) (.int j) = some (decide (i = j)) := by simp [zcmp, zeqB, Z.pd, Z.dep, zeqv]; rfl
theorem c_nei : zcmp .ne st (.int i) (.int j) = some (!decide (i = j)) := by simp [zcmp, zeqB, Z.pd, Z.dep, zeqv]; rfl
theorem c_eqs {x y : List Nat} : zcmp .eq st (.str x) (.str y) = some (decide (x = y)) := by simp [zcmp, zeqB, Z.pd, Z.dep, zeqv]; rw [Bool.eq_iff_iff]; simp
theorem c_nes {x y : List Nat} : zcmp .ne st (.str x) (.str y) = some (!decide (x = y)) := by simp [zcmp, zeqB, Z.pd, Z.dep, zeqv]; rw [Bool.eq_iff_iff]; simp
theorem c_eqb {x y : Bool} : zcmp .eq st (.bl x) (.bl y) = some (x == y) := by simp [zcmp, zeqB, Z.pd, Z.dep, zeqv]
theorem c_neb {x y : Bool} : zcmp .ne st (.bl x) (.bl y) = some (!(x == y)) := by simp [zcmp, zeqB, Z.pd, Z.dep, zeqv]
theorem c_isn {x : Z} : zcmp .isn st x .non = x.nonQ := (rfl)
theorem c_notn {x : Z} : zcmp .notn st x .non = x.nonQ.map (!·) := (rfl)
theorem nq_non : Z.nonQ .non = some true := (rfl)
theorem nq_int : Z.nonQ (.int i) = some false := (rfl)
theorem nq_bl {b : Bool} : Z.nonQ (.bl b) = some false := (rfl)
theorem nq_str {x : List Nat} : Z.nonQ (.str x) = some false := (rfl)
theorem nq_lst {x : List Z} : Z.nonQ (.lst x) = some false := (rfl)
theorem nq_tup {x : List Z} : Z.nonQ (.tup x) = some false := (rfl)
theorem nq_ins {c : String} {f : List String} {x : List Z} : Z.nonQ (.ins c f x) = some false := (rfl)
/-! truth -/
theorem t_non : ztru st .non = some false := (rfl)
theorem t_bl {b : Bool} : ztru st (.bl b) = some b := (rfl)
theorem t_int : ztru st (.int i) = some (!decide (i = 0)) := (rfl)
theorem t_lst {xs : List Z} : ztru st (.lst xs) = some (!xs.isEmpty) := (rfl)
theorem t_tup {xs : List Z} : ztru st (.tup xs) = some (!xs.isEmpty) := (rfl)
end
/-! items -/
theorem ix_0 {st : Sto} {a : Z} {r : List Z} : zix st (.tup (a :: r)) (.int 0) = some a := by unfold zix L2.atI L2.ixN; simp
theorem ix_l0 {st : Sto} {a : Z} {r : List Z} : zix st (.lst (a :: r)) (.int 0) = some a := by unfold zix L2.atI L2.ixN; simp
theorem atI_nat {α : Type} {xs : List α} {n : Nat} : L2.atI xs (n : Int) = xs[n]? := by
  unfold L2.atI L2.ixN
  by_cases h : (n : Int) < xs.length
  · simp [h]
  · simp [h]
    omega
theorem atI_pos {α : Type} {xs : List α} {i : Int} (h : 0 ≤ i) : L2.atI xs i = xs[i.toNat]? := by
  obtain ⟨n, rfl⟩ : ∃ n : Nat, i = n := ⟨i.toNat, by omega⟩
  rw [atI_nat, Int.toNat_natCast]
theorem atI_lit {α : Type} {xs : List α} {n : Nat} : L2.atI xs (OfNat.ofNat n) = xs[n]? := atI_nat (n := n)
theorem ix_tup {st : Sto} {xs : List Z} {i : Int} : zix st (.tup xs) (.int i) = L2.atI xs i := (rfl)
theorem ix_lst {st : Sto} {xs : List Z} {i : Int} : zix st (.lst xs) (.int i) = L2.atI xs i := (rfl)
theorem ix_scr {st : Sto} {xs : List Int} {i : Int} : zix st (.scr xs) (.int i) = L2.atI (xs.map .int) i := (rfl)
theorem ix_cel {st : Sto} {n : Nat} {xs : List Z} {i : Int} (e : st[n]? = some (.lst xs)) : zix st (.cel n) (.int i) = L2.atI xs i := zix_cel e
theorem dr_at {st : Sto} {n : Nat} {xs : List Z} (e : st[n]? = some (.lst xs)) : dr st (.cel n) = .lst xs := by rw [dr_cel, e]; rfl
theorem dr_ati {st : Sto} {n : Nat} {c : String} {fs : List String} {xs : List Z} (e : st[n]? = some (.ins c fs xs)) : dr st (.cel n) = .ins c fs xs := by rw [dr_cel, e]; rfl
/-! ### statements -/
section
variable {F : FT} {gv : String → Option Z} {b N : Nat} {s : S} {ss : List S} {en : En} {st : Sto} {Q : Fl → Sto → Prop}
/-- what comes behind a statement -/
def Cn (F : FT) (gv : String → Option Z) (b N : Nat) (ss : List S) (Q : Fl → Sto → Prop) (r : Fl) (st : Sto) : Prop := match r with
  | .nx en => Wp (exs F gv b N ss en st) Q
  | .bk en => Q (.bk en) st
  | .ct en => Q (.ct en) st
  | .rt v => Q (.rt v) st
theorem Cn_nx : Cn F gv b N ss Q (.nx en) st = Wp (exs F gv b N ss en st) Q := (rfl)
theorem Cn_bk : Cn F gv b N ss Q (.bk en) st = Q (.bk en) st := (rfl)
theorem Cn_ct : Cn F gv b N ss Q (.ct en) st = Q (.ct en) st := (rfl)
theorem Cn_rt {v : Z} : Cn F gv b N ss Q (.rt v) st = Q (.rt v) st := (rfl)
theorem w_nil : Wp (exs F gv b N [] en st) Q = Q (.nx en) st := by unfold exs; rfl
theorem w_cons : Wp (exs F gv b N (s :: ss) en st) Q = Wp (ex F gv b N s en st) (Cn F gv b N ss Q) := by
  conv => lhs; unfold exs
  cases h : ex F gv b N s en st with
  | ok r st1 => cases r <;> rfl
  | exn _ _ _ => rfl
  | no => rfl
theorem w_asg {t : T} {e : E} : Wp (ex F gv b N (.asg (.t t) e) en st) Q = Wp (ev F gv b e en st) (fun z st1 => Wp (ofO (bindT t z en) st1) fun en1 st1 => Q (.nx en1) st1) := by
  conv => lhs; unfold ex
  cases h : ev F gv b e en st with
  | ok z st1 =>
    simp only [R.bind_ok, Wp_ok]
    cases bindT t z en <;> rfl
  | exn _ _ _ => rfl
  | no => rfl
theorem w_ex {e : E} : Wp (ex F gv b N (.ex e) en st) Q = Wp (ev F gv b e en st) (fun _ st1 => Q (.nx en) st1) := by
  conv => lhs; unfold ex
  cases h : ev F gv b e en st <;> rfl
theorem w_ret {e : E} : Wp (ex F gv b N (.ret (some e)) en st) Q = Wp (ev F gv b e en st) (fun z st1 => Q (.rt z) st1) := by
  conv => lhs; unfold ex
  cases h : ev F gv b e en st <;> rfl
theorem w_retN : Wp (ex F gv b N (.ret none) en st) Q = Q (.rt .non) st := by unfold ex; rfl
theorem w_ife {c : E} {x y : List S} : Wp (ex F gv b N (.ife c x y) en st) Q = Wp (ev F gv b c en st) (fun z st1 => Wp (ofO (ztru st1 z) st1) fun k st1 => Br (k = true) (Wp (exs F gv b N x en st1) Q) (Wp (exs F gv b N y en st1) Q)) := by
  conv => lhs; unfold ex
  cases h : ev F gv b c en st with
  | ok z st1 =>
    simp only [R.bind_ok, Wp_ok]
    cases ztru st1 z with
    | none => rfl
    | some k => simp only [ofO_some, R.bind_ok, Wp_ok, Wp_ite]
  | exn _ _ _ => rfl
  | no => rfl
theorem w_ix {a i e : E} : Wp (ex F gv b N (.asg (.ix a i) e) en st) Q = Wp (ev F gv b e en st) (fun z st1 => Wp (ev F gv b a en st1) fun x st2 => Wp (ev F gv b i en st2) fun y st3 => Wp (zput b st3 x y z) fun _ st4 => Q (.nx en) st4) := by
  conv => lhs; unfold ex
  exact Wp_bx fun _ _ => Wp_bx fun _ _ => Wp_bx fun _ _ => Wp_bx fun _ _ => rfl
theorem w_aug {i : Nat} {o : BOp} {e : E} {x : Int} (h : en[i]? = some (some (.int x))) : Wp (ex F gv b N (.aug i o e) en st) Q = Wp (ev F gv b e en st) (fun y st1 => Wp (ofO (zbin o st1 (.int x) y) st1) fun z st1 => Q (.nx (en.set i (some z))) st1) := by
  conv => lhs; unfold ex
  rw [h]
  exact Wp_bx fun _ _ => Wp_bx fun _ _ => rfl
theorem w_fz {i : Nat} {z : Z} (h : en[i]? = some (some z)) : Wp (ex F gv b N (.fz i) en st) Q = Wp (zfz st z) (fun z st1 => Q (.nx (en.set i (some z))) st1) := by
  conv => lhs; unfold ex
  rw [h]
  exact Wp_bx fun _ _ => rfl
end
/-! more of expressions -/
section
variable {F : FT} {gv : String → Option Z} {b N : Nat} {en : En} {st : Sto} {Q : Z → Sto → Prop}
theorem isi_Wp {a : E} {Ts : List String} : Wp (ev F gv b (.isi a Ts) en st) Q = Wp (ev F gv b a en st) fun x st => Wp (ofO (tyOf (dr st x)) st) fun t st => Q (.bl (Ts.any fun T => isTy T t)) st := by
  conv => lhs; unfold ev
  cases h : ev F gv b a en st with
  | ok x st1 =>
    simp only [R.bind_ok, Wp_ok]
    cases tyOf (dr st1 x) <;> rfl
  | exn _ _ _ => rfl
  | no => rfl
theorem me_ok {x : Z} {c m : String} {fs : List String} {vs : List Z} : insM c m (.ins c fs vs) = !(fs.any fun f => f == m) := by unfold insM; simp
theorem atI_0 {α : Type} {xs : List α} : L2.atI xs 0 = xs[0]? := atI_nat (n := 0)
end
/-! ### functions -/
/-- a function without defaults -/
def fnd (ps : List String) (ns : Nat) (b : List S) (keep : Bool) : FnD := ⟨ps.map fun x => (x, none), ps.length, ns, b, keep⟩
/-- how a function's run is told by its body's -/
def Rt (keep : Bool) (st0 : Sto) (Q : Z → Sto → Prop) (r : Fl) (st : Sto) : Prop := match r with
  | .rt z => if keep then Q z st else (z.refs.all fun n => decide (n < st0.length)) = true ∧ Q z (st.take st0.length)
  | .nx _ => if keep then Q .non st else Q .non (st.take st0.length)
  | _ => False
section
variable {tab : String → Option FnD} {gv : String → Option Z} {N : Nat}
theorem wp_run {k : Nat} {f : String} {d : FnD} {zs as : List Z} {ks : List String} {b : Nat} {st : Sto} {Q : Z → Sto → Prop} (h : tab f = some d) (hb : bindZ d zs ks = some as)
    (w : Wp (exs (run tab gv N k) gv (if d.keep then b else st.length) N d.body (startE d.ns as) st) (Rt d.keep st Q)) : Wp (run tab gv N (k + 1) f zs ks b st) Q := by
  rw [run_succ h hb]
  obtain ⟨r, st1, e, q⟩ := w.ex
  unfold finF
  rw [e]
  cases r with
  | rt z =>
    unfold Rt at q
    show Wp (if d.keep then .ok z st1 else if z.refs.all (fun n => decide (n < st.length)) then .ok z (st1.take st.length) else .no) Q
    cases hk : d.keep with
    | true => rw [hk] at q; exact q
    | false =>
      rw [hk] at q
      simp only [Bool.false_eq_true, if_false] at q ⊢
      rw [if_pos q.1]
      exact q.2
  | nx en =>
    unfold Rt at q
    show Wp (if d.keep then .ok .non st1 else .ok .non (st1.take st.length)) Q
    cases hk : d.keep with
    | true => rw [hk] at q; exact q
    | false => rw [hk] at q; exact q
  | bk _ => exact q.elim
  | ct _ => exact q.elim
theorem fnd_bind {ps : List String} {ns : Nat} {body : List S} {keep : Bool} {zs : List Z} (h : zs.length = ps.length) : bindZ (fnd ps ns body keep) zs [] = some zs := by
  unfold bindZ fnd
  simp [h]
/-- a plain function called by place; no cell of its own lives on -/
theorem wp_fn {k ns : Nat} {f : String} {ps : List String} {body : List S} {zs : List Z} {b : Nat} {st : Sto} {Q : Z → Sto → Prop} (h : tab f = some (fnd ps ns body false)) (hl : zs.length = ps.length)
    (w : Wp (exs (run tab gv N k) gv st.length N body (startE ns zs) st) (Rt false st Q)) : Wp (run tab gv N (k + 1) f zs [] b st) Q :=
  wp_run h (fnd_bind hl) w
theorem wp_fnk {k ns : Nat} {f : String} {ps : List String} {body : List S} {zs : List Z} {b : Nat} {st : Sto} {Q : Z → Sto → Prop} (h : tab f = some (fnd ps ns body true)) (hl : zs.length = ps.length)
    (w : Wp (exs (run tab gv N k) gv b N body (startE ns zs) st) (Rt true st Q)) : Wp (run tab gv N (k + 1) f zs [] b st) Q :=
  wp_run h (fnd_bind hl) w
theorem Rt_f {st0 st : Sto} {Q : Z → Sto → Prop} {z : Z} : Rt false st0 Q (.rt z) st = An ((z.refs.all fun n => decide (n < st0.length)) = true) (Q z (st.take st0.length)) := (rfl)
theorem Rt_fn {st0 st : Sto} {Q : Z → Sto → Prop} {en : En} : Rt false st0 Q (.nx en) st = Q .non (st.take st0.length) := (rfl)
theorem Rt_t {st0 st : Sto} {Q : Z → Sto → Prop} {z : Z} : Rt true st0 Q (.rt z) st = Q z st := (rfl)
end
/-! ### loops, comprehensions -/
section
variable {F : FT} {gv : String → Option Z} {b N : Nat}
theorem wp_goF {c : Sto → Bool} {f : Z → En → Sto → R Fl} {Q : Fl → Sto → Prop} (I : Nat → En → Sto → Prop) : ∀ (zs : List Z) (i : Nat) (en : En) (st : Sto), I i en st →
    (∀ j (hj : j < zs.length) en st, I (i + j) en st → c st = true ∧ Wp (f zs[j] en st) fun r st' => match r with
      | .nx e => I (i + j + 1) e st'
      | .ct e => I (i + j + 1) e st'
      | .bk e => Q (.nx e) st'
      | .rt z => Q (.rt z) st') → (∀ en st, I (i + zs.length) en st → c st = true ∧ Q (.nx en) st) → Wp (goF c f zs en st) Q
  | [], i, en, st, h0, hs, he => by
    obtain ⟨h1, h2⟩ := he en st h0
    show Wp (if c st then .ok (.nx en) st else .no) Q
    rw [if_pos h1]
    exact h2
  | z :: zs, i, en, st, h0, hs, he => by
    obtain ⟨c1, w1⟩ := hs 0 (by simp) en st h0
    show Wp (if c st then (f z en st).bind _ else .no) Q
    rw [if_pos c1, Wp_bind]
    refine Wp.mono w1 fun r st1 q => ?_
    have next : ∀ e, I (i + 0 + 1) e st1 → Wp (goF c f zs e st1) Q := fun e hI => wp_goF I zs (i + 1) e st1 hI (fun j hj en st hI => by
      have := hs (j + 1) (by simpa using hj) en st (by rw [show i + (j + 1) = i + 1 + j by omega]; exact hI)
      rw [show i + (j + 1) = i + 1 + j by omega] at this
      exact this) (fun en st hI => he en st (by rw [List.length_cons, show i + (zs.length + 1) = i + 1 + zs.length by omega]; exact hI))
    cases r with
    | nx e => exact next e q
    | ct e => exact next e q
    | bk e => exact q
    | rt z => exact q
/-- what a loop's turn comes to -/
def Tn (I : En → Sto → Prop) (Q : Fl → Sto → Prop) (r : Fl) (st : Sto) : Prop := match r with
  | .nx e => I e st
  | .ct e => I e st
  | .bk e => Q (.nx e) st
  | .rt z => Q (.rt z) st
theorem Tn_nx {I : En → Sto → Prop} {Q : Fl → Sto → Prop} {e : En} {st : Sto} : Tn I Q (.nx e) st = I e st := (rfl)
theorem Tn_ct {I : En → Sto → Prop} {Q : Fl → Sto → Prop} {e : En} {st : Sto} : Tn I Q (.ct e) st = I e st := (rfl)
theorem Tn_bk {I : En → Sto → Prop} {Q : Fl → Sto → Prop} {e : En} {st : Sto} : Tn I Q (.bk e) st = Q (.nx e) st := (rfl)
theorem Tn_rt {I : En → Sto → Prop} {Q : Fl → Sto → Prop} {z : Z} {st : Sto} : Tn I Q (.rt z) st = Q (.rt z) st := (rfl)
/-- for: zs the items, hs what must stay -/
theorem wp_fo {t : T} {i : I} {x : List S} {en : En} {st st1 : Sto} {zs hs : List Z} {Q : Fl → Sto → Prop} (I : Nat → En → Sto → Prop) (hI : Wp (evI F gv b i en st) fun w s => w = ⟨zs, hs⟩ ∧ s = st1) (h0 : I 0 en st1)
    (step : ∀ j (hj : j < zs.length) en s, I j en s → stays hs st1 s = true ∧ ∃ en1, bindT t zs[j] en = some en1 ∧ Wp (exs F gv b N x en1 s) (Tn (I (j + 1)) Q))
    (fin : ∀ en s, I zs.length en s → stays hs st1 s = true ∧ Q (.nx en) s) : Wp (ex F gv b N (.fo t i x) en st) Q := by
  obtain ⟨w, s, e, rfl, rfl⟩ := hI.ex
  conv => arg 1; unfold ex
  rw [e, R.bind_ok]
  refine wp_goF I zs 0 en s h0 (fun j hj en st hI => ?_) (fun en st hI => fin en st (by rw [Nat.zero_add] at hI; exact hI))
  rw [Nat.zero_add] at hI ⊢
  obtain ⟨c1, en1, b1, w1⟩ := step j hj en st hI
  refine ⟨c1, ?_⟩
  simp only [b1]
  exact w1.mono fun r s q => by cases r <;> exact q
theorem wp_while {c : E} {x : List S} {en : En} {st : Sto} {Q : Fl → Sto → Prop} (I : Nat → En → Sto → Prop) (m : Nat) (hm : m < N) (h0 : I m en st)
    (step : ∀ j en s, I j en s → Wp (ev F gv b c en s) fun z s1 => Wp (ofO (ztru s1 z) s1) fun k s2 => Br (k = true) (0 < j ∧ Wp (exs F gv b N x en s2) (Tn (fun e s => ∃ i, i < j ∧ I i e s) Q)) (Q (.nx en) s2)) : Wp (ex F gv b N (.wh c x) en st) Q := by
  conv => arg 1; unfold ex
  have key : ∀ (n m : Nat) en st, m < n → I m en st → Wp (goW (fun en st => (ev F gv b c en st).bind fun z st => ofO (ztru st z) st) (exs F gv b N x) n en st) Q := by
    intro n
    induction n with
    | zero => intro m en st hm; omega
    | succ n ih =>
      intro m en st hm hI
      show Wp (((ev F gv b c en st).bind fun z st => ofO (ztru st z) st).bind _) Q
      rw [Wp_bind, Wp_bind]
      refine (step m en st hI).mono fun z s1 q => q.mono fun k s2 q => ?_
      rw [Wp_ite]
      refine Br.mk' (fun hk => ?_) (fun hk => q.2 hk)
      obtain ⟨h1, h2⟩ := q.1 hk
      rw [Wp_bind]
      refine h2.mono fun r s3 q => ?_
      cases r with
      | nx e => obtain ⟨i, hi, hI⟩ := q; exact ih i e s3 (by omega) hI
      | ct e => obtain ⟨i, hi, hI⟩ := q; exact ih i e s3 (by omega) hI
      | bk e => exact q
      | rt z => exact q
  exact key N m en st hm h0
/-- a comprehension with draws and the like -/
theorem wp_lci {β : Type} {k : Bool} {ws : List Nat} {e : E} {t : T} {i : I} {en : En} {st st1 : Sto} {zs hs : List Z} {Q : Z → Sto → Prop} (I : Nat → Sto → Prop) (r : β → Z) (P : Nat → β → Prop) (hI : Wp (evI F gv b i en st) fun w s => w = ⟨zs, hs⟩ ∧ s = st1) (h0 : I 0 st1)
    (step : ∀ j (hj : j < zs.length) s, I j s → stays hs st1 s = true ∧ ∃ en1, bindT t zs[j] (wipeE en ws) = some en1 ∧ Wp (ev F gv b e en1 s) fun y s' => I (j + 1) s' ∧ ∃ x, y = r x ∧ P j x)
    (fin : ∀ s, I zs.length s → stays hs st1 s = true) (q : ∀ (ys : List β) s, I zs.length s → ys.length = zs.length → (∀ j x, ys[j]? = some x → P j x) → Wp (mkL k (ys.map r) s) Q) : Wp (ev F gv b (.lc k ws e t i none) en st) Q := by
  obtain ⟨w, s, e0, rfl, rfl⟩ := hI.ex
  obtain ⟨ys, st2, e2, i2, l2, p2⟩ := lc_inv (k := k) (ws := ws) (e := e) (t := t) I (fun j y => ∃ x, y = r x ∧ P j x) e0 h0 (fun j hj s hI => by
    obtain ⟨c1, en1, b1, w1⟩ := step j hj s hI
    obtain ⟨y, s', e1, i1, p1⟩ := w1.ex
    exact ⟨c1, en1, y, s', b1, e1, i1, p1⟩) fin
  have : ∃ xs : List β, ys = xs.map r ∧ ∀ j x, xs[j]? = some x → P j x := by
    have gen : ∀ (ys : List Z) (n : Nat), (∀ j y, ys[j]? = some y → ∃ x, y = r x ∧ P (n + j) x) → ∃ xs : List β, ys = xs.map r ∧ ∀ j x, xs[j]? = some x → P (n + j) x := by
      intro ys
      induction ys with
      | nil => intro n _; exact ⟨[], rfl, fun j x e => by simp at e⟩
      | cons y ys ih =>
        intro n h
        obtain ⟨x, hx, px⟩ := h 0 y rfl
        obtain ⟨xs, hxs, pxs⟩ := ih (n + 1) fun j y hy => by
          have := h (j + 1) y (by simpa using hy)
          rw [show n + 1 + j = n + (j + 1) by omega]; exact this
        refine ⟨x :: xs, by rw [hx, hxs]; rfl, fun j x' e => ?_⟩
        cases j with
        | zero => simp at e; subst e; exact px
        | succ j =>
          have := pxs j x' (by simpa using e)
          rw [show n + 1 + j = n + (j + 1) by omega] at this; exact this
    obtain ⟨xs, h1, h2⟩ := gen ys 0 fun j y hy => by have := p2 j y hy; rw [Nat.zero_add]; exact this
    exact ⟨xs, h1, fun j x e => by have := h2 j x e; rwa [Nat.zero_add] at this⟩
  obtain ⟨xs, rfl, px⟩ := this
  rw [e2]
  exact q xs st2 i2 (by simpa using l2) px
/-- .. that leaves all cells as they are -/
theorem wp_lcp {α : Type} {k : Bool} {ws : List Nat} {e : E} {t : T} {i : I} {en : En} {st st1 : Sto} {xs : List α} {hs : List Z} {Q : Z → Sto → Prop} (f g : α → Z) (hI : Wp (evI F gv b i en st) fun w s => w = ⟨xs.map f, hs⟩ ∧ s = st1)
    (step : ∀ x ∈ xs, ∃ en1, bindT t (f x) (wipeE en ws) = some en1 ∧ Wp (ev F gv b e en1 st1) fun y s' => y = g x ∧ s' = st1) (q : Wp (mkL k (xs.map g) st1) Q) : Wp (ev F gv b (.lc k ws e t i none) en st) Q := by
  obtain ⟨w, s, e0, rfl, rfl⟩ := hI.ex
  refine wp_lci (β := Z) (fun _ s' => s' = s) id (fun j y => ∃ x, xs[j]? = some x ∧ y = g x) (Wp.of_eq e0 ⟨rfl, rfl⟩) rfl (fun j hj s' hs' => ?_) (fun s' hs' => by subst hs'; exact stays_self) fun ys s' hs' hl hp => ?_
  · subst hs'
    have hj' : j < xs.length := by simpa using hj
    obtain ⟨en1, b1, w1⟩ := step xs[j] (List.getElem_mem hj')
    refine ⟨stays_self, en1, by simpa using b1, w1.mono fun y s2 ⟨h1, h2⟩ => ⟨h2, y, rfl, xs[j], List.getElem?_eq_getElem hj', h1⟩⟩
  · subst hs'
    have : ys = xs.map g := by
      apply List.ext_getElem?
      intro j
      rw [List.getElem?_map]
      cases h : ys[j]? with
      | none =>
        have := List.getElem?_eq_none_iff.mp h
        rw [List.getElem?_eq_none (by simp at hl; omega)]
        rfl
      | some y =>
        obtain ⟨x, h1, h2⟩ := hp j y h
        rw [h1, h2]
        rfl
    rw [List.map_id, this]
    exact q
end
/-! cells at the end of the store -/
section
variable {st : Sto} {c d e x : Cl} {k : Nat}
theorem la1 : (st ++ [c]).length = st.length + 1 := by simp
theorem sa0 (h : st.length = k) : (st ++ [c])[k]? = some c := by subst h; simp
theorem sa1 (h : st.length = k) : (st ++ [c] ++ [d])[k]? = some c := by subst h; simp
theorem sa2 (h : st.length = k) : (st ++ [c] ++ [d] ++ [e])[k]? = some c := by subst h; simp
theorem sa11 (h : st.length = k) : (st ++ [c] ++ [d])[k + 1]? = some d := by subst h; simp
theorem sa21 (h : st.length = k) : (st ++ [c] ++ [d] ++ [e])[k + 1]? = some d := by subst h; simp
theorem sa22 (h : st.length = k) : (st ++ [c] ++ [d] ++ [e])[k + 1 + 1]? = some e := by
  have : (st ++ [c] ++ [d]).length = k + 1 + 1 := by simp; omega
  exact sa0 this
theorem ss0 (h : st.length = k) : (st ++ [c]).set k x = st ++ [x] := by subst h; simp
theorem ss1 (h : st.length = k) : (st ++ [c] ++ [d]).set k x = st ++ [x] ++ [d] := by subst h; simp
theorem ss11 (h : st.length = k) : (st ++ [c] ++ [d]).set (k + 1) x = st ++ [c] ++ [x] := by subst h; simp
theorem st0 (h : st.length = k) : (st ++ [c]).take k = st := by subst h; simp
theorem st1 (h : st.length = k) : (st ++ [c] ++ [d]).take k = st := by subst h; simp
theorem st2 (h : st.length = k) : (st ++ [c] ++ [d] ++ [e]).take k = st := by subst h; simp
theorem stn (h : st.length = k) : st.take k = st := by subst h; simp
end
/-- what the list in a cell does -/
def Ap (o : Option Cl) (f : List Z → Prop) [Tg f] : Prop := match o with
  | some (.lst xs) => f xs
  | _ => False
theorem Ap_lst {xs : List Z} {f : List Z → Prop} : Ap (some (.lst xs)) f = f xs := (rfl)
theorem w_append {b n : Nat} {st : Sto} {z : Z} {Q : Z → Sto → Prop} : Wp (zbm .append b st (.cel n) [z]) Q = Ap st[n]? fun xs => An (xs.length < sizeL ∧ mayW b n z = true) (Q .non (st.set n (.lst (xs ++ [z])))) := by
  unfold zbm Ap An
  cases h : st[n]? with
  | none => simp [Wp, h]
  | some c =>
    cases c with
    | lst xs =>
      by_cases h1 : xs.length < sizeL
      · by_cases h2 : mayW b n z = true
        · simp [h, h1, h2, Wp, okW]
        · simp [h, h1, h2, Wp, okW]
      · simp [h, h1, Wp]
    | _ => simp [h, Wp]
theorem w_put {b n : Nat} {st : Sto} {i : Int} {z : Z} {Q : Z → Sto → Prop} : Wp (zput b st (.cel n) (.int i) z) Q = Ap st[n]? fun xs => An (0 ≤ i ∧ i < xs.length ∧ mayW b n z = true) (Q .non (st.set n (.lst (xs.set i.toNat z)))) := by
  unfold zput Ap An
  cases h : st[n]? with
  | none => simp [Wp, h]
  | some c =>
    cases c with
    | lst xs =>
      by_cases h1 : 0 ≤ i ∧ i < xs.length
      · by_cases h2 : mayW b n z = true
        · simp [h, h1, h2, Wp, okW]
        · simp [h, h1, h2, Wp, okW]
      · simp only [h, h1, if_false]
        simp [Wp]
        intro a b
        exact absurd ⟨a, b⟩ h1
    | _ => simp [h, Wp]
theorem mayW_int {b n : Nat} {i : Int} : mayW b n (.int i) = true := by simp [mayW, Z.clo, Z.refs]
theorem mayW_str {b n : Nat} {i : List Nat} : mayW b n (.str i) = true := by simp [mayW, Z.clo, Z.refs]
theorem mayW_bl {b n : Nat} {i : Bool} : mayW b n (.bl i) = true := by simp [mayW, Z.clo, Z.refs]
theorem mayW_self {n : Nat} {z : Z} : mayW n n z = true := by simp [mayW]
/-- freezing -/
theorem w_fzc {n : Nat} {st : Sto} {Q : Z → Sto → Prop} : Wp (zfz st (.cel n)) Q = Ap st[n]? fun xs => Wp (zfzL 3 xs (st.set n .dead)) fun ys st => Q (.lst ys) st := by
  show Wp (zfzD 4 _ _) Q = _
  unfold zfzD Ap
  cases h : st[n]? with
  | none => simp [Wp]
  | some c => cases c <;> simp [Wp, R.bind] <;> (cases zfzL 3 _ _ <;> rfl)
theorem zfzD_int {d : Nat} {i : Int} {st : Sto} : zfzD d (.int i) st = .ok (.int i) st := by cases d <;> (unfold zfzD; rfl)
theorem zfzL_ints {d : Nat} {st : Sto} : ∀ {xs : List Int}, zfzL d (xs.map Z.int) st = .ok (xs.map Z.int) st
  | [] => by unfold zfzL; rfl
  | x :: xs => by
    rw [List.map_cons]
    unfold zfzL
    rw [zfzD_int, R.bind_ok, zfzL_ints, R.bind_ok]
/-- the number, the value in a slot -/
def Ai (o : Option (Option Z)) (f : Int → Prop) [Tg f] : Prop := match o with
  | some (some (.int i)) => f i
  | _ => False
theorem Ai_int {i : Int} {f : Int → Prop} : Ai (some (some (.int i))) f = f i := (rfl)
def Av (o : Option (Option Z)) (f : Z → Prop) [Tg f] : Prop := match o with
  | some (some z) => f z
  | _ => False
theorem Av_z {z : Z} {f : Z → Prop} : Av (some (some z)) f = f z := (rfl)
section
variable {F : FT} {gv : String → Option Z} {b N : Nat} {en : En} {st : Sto} {Q : Fl → Sto → Prop}
theorem Wp_none {α : Type} {r : R α} : (Wp r fun _ _ => False) = False := by cases r <;> exact (rfl)
theorem dr_not_int {st : Sto} {x : Z} (h : ∀ i, x ≠ .int i) : ∀ i, dr st x ≠ .int i := by
  intro i e
  cases x with
  | int j => exact h j rfl
  | cel n =>
    rw [dr_cel] at e
    unfold drc at e
    split at e <;> cases e
  | non => cases e
  | bl _ => cases e
  | str _ => cases e
  | lst _ => cases e
  | tup _ => cases e
  | dic _ _ => cases e
  | ins _ _ _ => cases e
  | scr _ => cases e
theorem w_augU {i : Nat} {o : BOp} {e : E} : Wp (ex F gv b N (.aug i o e) en st) Q = Ai en[i]? fun x => Wp (ev F gv b e en st) fun y st1 => Wp (ofO (zbin o st1 (.int x) y) st1) fun z st1 => Q (.nx (en.set i (some z))) st1 := by
  cases h : en[i]? with
  | none =>
    conv => lhs; unfold ex
    rw [h]; rfl
  | some w =>
    cases w with
    | none =>
      conv => lhs; unfold ex
      rw [h]; rfl
    | some x =>
      by_cases hx : ∃ j, x = .int j
      · obtain ⟨j, rfl⟩ := hx
        exact w_aug h
      · have hx : ∀ j, x ≠ .int j := fun j e => hx ⟨j, e⟩
        have r : (Ai (some (some x)) fun x => Wp (ev F gv b e en st) fun y st1 => Wp (ofO (zbin o st1 (.int x) y) st1) fun z st1 => Q (.nx (en.set i (some z))) st1) = False := by
          cases x with
          | int j => exact absurd rfl (hx j)
          | _ => rfl
        rw [r]
        conv => lhs; unfold ex
        rw [h]
        show Wp ((ev F gv b e en st).bind _) Q = False
        rw [Wp_bind, ← Wp_none (r := ev F gv b e en st)]
        refine Wp_ext fun y s => ?_
        show Wp (match dr s x with | .int _ => _ | _ => .no) Q = False
        split
        · rename_i hh
          exact absurd hh (dr_not_int hx _)
        · rfl
theorem w_augE {i : Nat} {o : BOp} {e : E} (x : Int) (h : en[i]? = some (some (.int x))) : Wp (ex F gv b N (.aug i o e) en st) Q = Wp (ev F gv b e en st) (fun y st1 => Wp (ofO (zbin o st1 (.int x) y) st1) fun z st1 => Q (.nx (en.set i (some z))) st1) := w_aug h
theorem w_fzv {i : Nat} : Wp (ex F gv b N (.fz i) en st) Q = Av en[i]? fun z => Wp (zfz st z) fun z st1 => Q (.nx (en.set i (some z))) st1 := by
  unfold Av
  cases h : en[i]? with
  | none => conv => lhs; unfold ex
            rw [h]; rfl
  | some o =>
    cases o with
    | none => conv => lhs; unfold ex
              rw [h]; rfl
    | some z => rw [w_fz h]
end
theorem refsL_ints : ∀ {xs : List Int}, refsL (xs.map Z.int) = []
  | [] => rfl
  | x :: xs => by
    rw [List.map_cons]
    unfold refsL Z.refs
    rw [refsL_ints]
    rfl
theorem Br_F {c p : Prop} : Br c p False = An c p := by
  unfold Br An
  by_cases h : c <;> simp [h]
theorem isL_str {xs : List Nat} : Z.isL (.str xs) = false := (rfl)
theorem isS_str {xs : List Nat} : Z.isS (.str xs) = true := (rfl)
theorem isL_lst {xs : List Z} : Z.isL (.lst xs) = true := (rfl)
section
variable {st : Sto} {c d e : Cl} {xs : List Z} {k : String} {fs : List String}
theorem ds0 {n : Nat} (h : st.length = n) : dr (st ++ [.lst xs]) (.cel n) = .lst xs := dr_at (sa0 h)
theorem ds1 {n : Nat} (h : st.length = n) : dr (st ++ [.lst xs] ++ [d]) (.cel n) = .lst xs := dr_at (sa1 h)
theorem ds2 {n : Nat} (h : st.length = n) : dr (st ++ [.lst xs] ++ [d] ++ [e]) (.cel n) = .lst xs := dr_at (sa2 h)
theorem ds11 {n : Nat} (h : st.length = n) : dr (st ++ [c] ++ [.lst xs]) (.cel (n + 1)) = .lst xs := dr_at (sa11 h)
theorem ds21 {n : Nat} (h : st.length = n) : dr (st ++ [c] ++ [.lst xs] ++ [e]) (.cel (n + 1)) = .lst xs := dr_at (sa21 h)
theorem ds22 {n : Nat} (h : st.length = n) : dr (st ++ [c] ++ [d] ++ [.lst xs]) (.cel (n + 1 + 1)) = .lst xs := dr_at (sa22 h)
theorem di0 {n : Nat} (h : st.length = n) : dr (st ++ [.ins k fs xs]) (.cel n) = .ins k fs xs := dr_ati (sa0 h)
end
end ZZ

end
section
set_option maxHeartbeats 2000000
/-! ZPl: plain lists in Z; pure comprehensions with a filter. -/
namespace ZZ
theorem zbools_map {α : Type} {p : α → Bool} : ∀ {xs : List α}, zbools (xs.map fun c => .bl (p c)) = some (xs.map p)
  | [] => rfl
  | x :: xs => by
    show (zbools (xs.map fun c => .bl (p c))).map (p x :: ·) = _
    rw [zbools_map]
    rfl
theorem zints_map {α : Type} {p : α → Int} : ∀ {xs : List α}, zints (xs.map fun c => .int (p c)) = some (xs.map p)
  | [] => rfl
  | x :: xs => by
    show (zints (xs.map fun c => .int (p c))).map (p x :: ·) = _
    rw [zints_map]
    rfl
theorem zints_int {xs : List Int} : zints (xs.map Z.int) = some xs := by rw [show (xs.map Z.int) = xs.map fun c => .int (id c) from rfl, zints_map, List.map_id]
theorem zstrs_map {α : Type} {p : α → List Nat} : ∀ {xs : List α}, zstrs (xs.map fun c => .str (p c)) = some (xs.map p)
  | [] => rfl
  | x :: xs => by
    show (zstrs (xs.map fun c => .str (p c))).map (p x :: ·) = _
    rw [zstrs_map]
    rfl
theorem all_id {α : Type} {p : α → Bool} {xs : List α} : (xs.map p).all id = xs.all p := by
  rw [List.all_map]; rfl
theorem any_id {α : Type} {p : α → Bool} {xs : List α} : (xs.map p).any id = xs.any p := by
  rw [List.any_map]; rfl
theorem zipZ_map {α β : Type} {f : α → Z} {g : β → Z} : ∀ {xs : List α} {ys : List β}, zipZ (xs.map f) (ys.map g) = (xs.zip ys).map fun p => .tup [f p.1, g p.2]
  | [], ys => by cases ys <;> rfl
  | x :: xs, [] => rfl
  | x :: xs, y :: ys => by
    rw [List.map_cons, List.map_cons, zipZ, zipZ_map]
    rfl
theorem enumZ_map {α : Type} {f : α → Z} : ∀ {xs : List α} {n : Nat}, enumZ n (xs.map f) = (xs.zipIdx n).map fun p => .tup [.int p.2, f p.1]
  | [], _ => rfl
  | x :: xs, n => by
    rw [List.map_cons, enumZ, enumZ_map]
    rfl
theorem cut_from {α : Type} {xs : List α} {n : Nat} : cut xs (some (n : Int)) none = xs.drop n := by
  unfold cut HT.sIx
  simp only [show ¬ ((n : Int) < 0) by omega, if_false, Int.toNat_natCast]
  by_cases h : n ≤ xs.length
  · rw [Nat.min_eq_left h, List.take_of_length_le (by simp)]
  · rw [Nat.min_eq_right (by omega), List.drop_of_length_le (by omega), List.drop_of_length_le (by omega)]
    simp
theorem cut_to {α : Type} {xs : List α} {n : Nat} : cut xs none (some (n : Int)) = xs.take n := by
  unfold cut HT.sIx
  simp only [show ¬ ((n : Int) < 0) by omega, if_false, Int.toNat_natCast, List.drop_zero, Nat.sub_zero]
  by_cases h : n ≤ xs.length
  · rw [Nat.min_eq_left h]
  · rw [Nat.min_eq_right (by omega), List.take_of_length_le (by omega), List.take_of_length_le (by omega)]
theorem cut_lit {α : Type} {xs : List α} {n : Nat} : cut xs (some (OfNat.ofNat n)) none = xs.drop n := cut_from
theorem cut_to_lit {α : Type} {xs : List α} {n : Nat} : cut xs none (some (OfNat.ofNat n)) = xs.take n := cut_to
theorem cut_all2 {α : Type} {xs : List α} : cut xs none none = xs := by
  unfold cut HT.sIx
  simp
theorem cut_1 {α : Type} {xs : List α} : cut xs (some 1) none = xs.drop 1 := cut_from
theorem cut_map {α β : Type} {f : α → β} {xs : List α} {lo hi : Option Int} : cut (xs.map f) lo hi = (cut xs lo hi).map f := by
  unfold cut
  rw [List.length_map, List.map_take, List.map_drop]
theorem atI_map {α β : Type} {f : α → β} {xs : List α} {i : Int} : L2.atI (xs.map f) i = (L2.atI xs i).map f := by
  unfold L2.atI
  rw [List.length_map]
  cases L2.ixN xs.length i <;> simp
theorem atI_neg1 {α : Type} {xs : List α} : L2.atI xs (-1) = xs.getLast? := by
  unfold L2.atI L2.ixN
  by_cases h : xs = []
  · subst h; rfl
  · have : 0 < xs.length := List.length_pos_iff.mpr h
    simp only [show ¬ ((0 : Int) ≤ -1) by omega, if_false, show (-(xs.length : Int) ≤ -1) by omega, if_true, Option.bind_some]
    rw [List.getLast?_eq_getElem?]
    congr 1
    omega
theorem dr_map {st : Sto} {xs : List Z} : dr st (.lst xs) = .lst xs := (rfl)
theorem zeqvL_ints : ∀ {xs ys : List Int}, zeqvL (xs.map Z.int) (ys.map Z.int) = decide (xs = ys)
  | [], [] => rfl
  | [], _ :: _ => by simp [zeqvL]
  | _ :: _, [] => by simp [zeqvL]
  | x :: xs, y :: ys => by
    rw [List.map_cons, List.map_cons, zeqvL, zeqv, zeqvL_ints, Bool.eq_iff_iff]
    simp
theorem pdL_ints : ∀ {xs : List Int}, pdL (xs.map Z.int) = true
  | [] => rfl
  | x :: xs => by rw [List.map_cons, pdL, Z.pd, pdL_ints]; rfl
theorem depL_ints : ∀ {xs : List Int}, depL (xs.map Z.int) = 0
  | [] => rfl
  | x :: xs => by
    rw [List.map_cons, depL, depL_ints]
    rfl
theorem c_eql {st : Sto} {xs ys : List Int} : zcmp .eq st (.lst (xs.map Z.int)) (.lst (ys.map Z.int)) = some (decide (xs = ys)) := by
  unfold zcmp zeqB
  simp [Z.pd, Z.dep, pdL_ints, depL_ints, zeqv, zeqvL_ints]
theorem c_nel {st : Sto} {xs ys : List Int} : zcmp .ne st (.lst (xs.map Z.int)) (.lst (ys.map Z.int)) = some (!decide (xs = ys)) := by
  unfold zcmp zeqB
  simp [Z.pd, Z.dep, pdL_ints, depL_ints, zeqv, zeqvL_ints]
section
variable {F : FT} {gv : String → Option Z} {b N : Nat}
theorem goC_pure {c : Sto → Bool} {f : Z → Sto → R (List Z)} {st : Sto} {α : Type} (fz : α → Z) (g : α → List Z) (hc : c st = true) : ∀ (xs : List α), (∀ x ∈ xs, f (fz x) st = .ok (g x) st) → goC c f (xs.map fz) st = .ok (xs.flatMap g) st
  | [], _ => by
    show (if c st then _ else _) = _
    rw [if_pos hc]
    rfl
  | x :: xs, h => by
    show (if c st then _ else _) = _
    rw [if_pos hc]
    show (f (fz x) st).bind _ = _
    rw [h x List.mem_cons_self, R.bind_ok]
    show (goC c f (xs.map fz) st).bind _ = _
    rw [goC_pure fz g hc xs (fun x m => h x (List.mem_cons_of_mem _ m)), R.bind_ok, List.flatMap_cons]
/-- a comprehension with a filter that leaves all cells as they are -/
theorem wp_lcf {α : Type} {k : Bool} {ws : List Nat} {e c : E} {t : T} {i : I} {en : En} {st st1 : Sto} {xs : List α} {hs : List Z} {Q : Z → Sto → Prop} (f : α → Z) (p : α → Bool) (g : α → Z) (hI : Wp (evI F gv b i en st) fun w s => w = ⟨xs.map f, hs⟩ ∧ s = st1)
    (step : ∀ x ∈ xs, ∃ en1, bindT t (f x) (wipeE en ws) = some en1 ∧ Wp (evc F gv b (some c) en1 st1) (fun k s => k = p x ∧ s = st1) ∧ (p x = true → Wp (ev F gv b e en1 st1) fun y s => y = g x ∧ s = st1))
    (q : Wp (mkL k ((xs.filter p).map g) st1) Q) : Wp (ev F gv b (.lc k ws e t i (some c)) en st) Q := by
  obtain ⟨w, s, e0, rfl, rfl⟩ := hI.ex
  conv => arg 1; unfold ev
  rw [e0, R.bind_ok]
  rw [goC_pure f (fun x => if p x then [g x] else []) stays_self xs fun x m => by
    obtain ⟨en1, b1, w1, w2⟩ := step x m
    obtain ⟨k, s1, e1, rfl, rfl⟩ := w1.ex
    simp only [b1, e1, R.calm_ok, R.bind_ok]
    cases hp : p x with
    | true =>
      obtain ⟨y, s2, e2, rfl, rfl⟩ := (w2 hp).ex
      simp only [e2, R.calm_ok, R.bind_ok, if_true]
    | false => simp, R.bind_ok]
  have : (xs.flatMap fun x => if p x then [g x] else []) = (xs.filter p).map g := by
    clear q step e0 hI
    induction xs with
    | nil => rfl
    | cons x xs ih =>
      rw [List.flatMap_cons, ih, List.filter_cons]
      cases p x <;> rfl
  rw [this]
  exact q
/-- two clauses, pure -/
theorem wp_lc2p {α β : Type} {k : Bool} {ws ws2 : List Nat} {e : E} {t t2 : T} {i i2 : I} {en : En} {st st1 : Sto} {xs : List α} {hs : List Z} {Q : Z → Sto → Prop} (f : α → Z) (ys : α → List β) (f2 : α → β → Z) (hs2 : α → List Z) (g : α → β → Z)
    (hI : Wp (evI F gv b i en st) fun w s => w = ⟨xs.map f, hs⟩ ∧ s = st1) (hM : (xs.flatMap fun x => ys x).length ≤ sizeL)
    (step : ∀ x ∈ xs, ∃ en1, bindT t (f x) (wipeE en ws) = some en1 ∧ Wp (evI F gv b i2 en1 st1) (fun w s => w = ⟨(ys x).map (f2 x), hs2 x⟩ ∧ s = st1) ∧ ∀ y ∈ ys x, ∃ en2, bindT t2 (f2 x y) (wipeE en1 ws2) = some en2 ∧ Wp (ev F gv b e en2 st1) fun z s => z = g x y ∧ s = st1)
    (q : Wp (mkL k (xs.flatMap fun x => (ys x).map (g x)) st1) Q) : Wp (ev F gv b (.lc2 k ws ws2 e t i t2 i2 none) en st) Q := by
  obtain ⟨w, s, e0, rfl, rfl⟩ := hI.ex
  conv => arg 1; unfold ev
  rw [e0, R.bind_ok]
  have gen : ∀ (f' : Nat → Z → Sto → R (List Z)) (M : Nat) {γ : Type} (fz : γ → Z) (G : γ → List Z) (c : Sto → Bool) (st : Sto), c st = true → ∀ (xs : List γ) (n : Nat), n + (xs.flatMap G).length ≤ M → (∀ n, ∀ z ∈ xs, n + (G z).length ≤ M → f' n (fz z) st = .ok (G z) st) → goN c f' n (xs.map fz) st = .ok (xs.flatMap G) st := by
    intro f' M γ fz G c st hc xs
    induction xs with
    | nil =>
      intro n _ _
      show (if c st then _ else _) = _
      rw [if_pos hc]; rfl
    | cons x xs ih =>
      intro n hn h
      rw [List.flatMap_cons, List.length_append] at hn
      show (if c st then _ else _) = _
      rw [if_pos hc]
      show (f' n (fz x) st).bind _ = _
      rw [h n x List.mem_cons_self (by omega), R.bind_ok]
      show (goN c f' (n + (G x).length) (xs.map fz) st).bind _ = _
      rw [ih (n + (G x).length) (by omega) (fun n z m => h n z (List.mem_cons_of_mem _ m)), R.bind_ok, List.flatMap_cons]
  have len : ∀ (l : List α), (l.flatMap fun x => (ys x).map (g x)).length = (l.flatMap fun x => ys x).length := by
    intro l
    induction l with
    | nil => rfl
    | cons x l ih => rw [List.flatMap_cons, List.flatMap_cons, List.length_append, List.length_append, ih, List.length_map]
  rw [gen _ sizeL f (fun x => (ys x).map (g x)) _ _ stays_self xs 0 (by rw [len]; omega) (fun n x hx hn => by
    obtain ⟨en1, b1, w1, h1⟩ := step x hx
    obtain ⟨w, s, e1, rfl, rfl⟩ := w1.ex
    simp only [b1, e1, R.calm_ok, R.bind_ok]
    have : (ys x).map (g x) = (ys x).flatMap fun y => [g x y] := by
      induction ys x with
      | nil => rfl
      | cons a l ih => rw [List.map_cons, List.flatMap_cons, ih]; rfl
    rw [this] at hn ⊢
    refine gen _ sizeL (f2 x) (fun y => [g x y]) _ _ stays_self _ n hn fun m y hy hm => ?_
    obtain ⟨en2, b2, w2⟩ := h1 y hy
    obtain ⟨z, s2, e2, rfl, rfl⟩ := w2.ex
    simp only [b2]
    unfold evc
    simp only [R.calm_ok, R.bind_ok, if_true, e2]
    rw [if_pos (by simp at hm; omega)]), R.bind_ok]
  exact q
theorem rng2 {i j : Int} (h : j - i ≤ 1000000 ∧ -(10 ^ 9) ≤ i ∧ i ≤ 10 ^ 9 ∧ -(10 ^ 9) ≤ j) : rngZ [.int i, .int j] = some ((List.range (j - i).toNat).map fun (k : Nat) => Z.int (i + k)) := if_pos h
theorem rng1 {j : Int} (h : j ≤ 1000000 ∧ -(10 ^ 9) ≤ j) : rngZ [.int j] = some ((List.range j.toNat).map fun (k : Nat) => Z.int k) := if_pos h
theorem wp_lcpi {α : Type} {k : Bool} {ws : List Nat} {e : E} {t : T} {i : I} {en : En} {st st1 : Sto} {xs : List α} {hs : List Z} {Q : Z → Sto → Prop} (f : α → Z) (g : α → Int) (hI : Wp (evI F gv b i en st) fun w s => w = ⟨xs.map f, hs⟩ ∧ s = st1)
    (step : ∀ x ∈ xs, ∃ en1, bindT t (f x) (wipeE en ws) = some en1 ∧ Wp (ev F gv b e en1 st1) fun y s' => y = .int (g x) ∧ s' = st1) (q : Wp (mkL k ((xs.map g).map Z.int) st1) Q) : Wp (ev F gv b (.lc k ws e t i none) en st) Q :=
  wp_lcp f (fun x => .int (g x)) hI step (by rw [List.map_map] at q; exact q)
theorem drop_map' {α β : Type} {f : α → β} {xs : List α} {n : Nat} : (xs.map f).drop n = (xs.drop n).map f := List.map_drop.symm
theorem take_map' {α β : Type} {f : α → β} {xs : List α} {n : Nat} : (xs.map f).take n = (xs.take n).map f := List.map_take.symm
theorem nc0 : ((0 : Nat) : Int) = 0 := (rfl)
theorem nc1 : ((1 : Nat) : Int) = 1 := (rfl)
theorem nc2 : ((2 : Nat) : Int) = 2 := (rfl)
theorem nc3 : ((3 : Nat) : Int) = 3 := (rfl)
theorem nc4 : ((4 : Nat) : Int) = 4 := (rfl)
theorem nc5 : ((5 : Nat) : Int) = 5 := (rfl)
theorem nc6 : ((6 : Nat) : Int) = 6 := (rfl)
section
variable {α : Type} {xs : List α}
theorem atI_1 : L2.atI xs 1 = xs[1]? := atI_nat (n := 1)
theorem atI_2 : L2.atI xs 2 = xs[2]? := atI_nat (n := 2)
theorem atI_3 : L2.atI xs 3 = xs[3]? := atI_nat (n := 3)
theorem atI_4 : L2.atI xs 4 = xs[4]? := atI_nat (n := 4)
theorem atI_5 : L2.atI xs 5 = xs[5]? := atI_nat (n := 5)
theorem atI_6 : L2.atI xs 6 = xs[6]? := atI_nat (n := 6)
theorem atI_7 : L2.atI xs 7 = xs[7]? := atI_nat (n := 7)
theorem atI_8 : L2.atI xs 8 = xs[8]? := atI_nat (n := 8)
theorem cut_2 : cut xs (some 2) none = xs.drop 2 := cut_from
theorem cut_3 : cut xs (some 3) none = xs.drop 3 := cut_from
theorem cut_t1 : cut xs none (some 1) = xs.take 1 := cut_to
theorem cut_t2 : cut xs none (some 2) = xs.take 2 := cut_to
theorem cut_t3 : cut xs none (some 3) = xs.take 3 := cut_to
end
end
/-- the instance of the class in a cell -/
def Ac (c : String) (o : Option Cl) (f : List String → List Z → Prop) [Tg f] : Prop := match o with
  | some (.ins c' gs vs) => c' = c ∧ f gs vs
  | _ => False
theorem Ac_ins {c : String} {gs : List String} {vs : List Z} {f : List String → List Z → Prop} : Ac c (some (.ins c gs vs)) f = f gs vs := by simp [Ac]
section
variable {F : FT} {gv : String → Option Z} {b N : Nat} {en : En} {st : Sto}
theorem w_asgF {i : Nat} {c : String} {fs : List String} {es : List E} {Q : Fl → Sto → Prop} : Wp (ex F gv b N (.asgF i c fs es) en st) Q = Wp (evs F gv b es en st) fun zs st => Av en[i]? fun x => Wp (putFs b x c fs zs st) fun _ st => Q (.nx en) st := by
  conv => lhs; unfold ex
  refine Wp_bx fun zs s => ?_
  unfold Av
  cases h : en[i]? with
  | none => rfl
  | some o =>
    cases o with
    | none => rfl
    | some x => exact Wp_bx fun _ _ => rfl
theorem putFs_nil {x : Z} {c : String} : putFs b x c [] [] st = .ok .non st := (rfl)
theorem putFs_cons {n : Nat} {c f : String} {fs : List String} {z : Z} {zs : List Z} {Q : Z → Sto → Prop} : Wp (putFs b (.cel n) c (f :: fs) (z :: zs) st) Q = Ac c st[n]? fun gs vs => An (gs.length < 400 ∧ mayW b n z = true) (Wp (putFs b (.cel n) c fs zs (st.set n (.ins c (putG f z gs vs).1 (putG f z gs vs).2))) Q) := by
  unfold Ac An
  rw [putFs, Wp_bind]
  unfold zputF
  cases h : st[n]? with
  | none => simp [Wp, h]
  | some o =>
    cases o with
    | ins c' gs vs =>
      by_cases hc : c' = c
      · subst hc
        by_cases h1 : gs.length < 400
        · by_cases h2 : mayW b n z = true
          · simp [h, h1, h2, okW, Wp_ok]
          · simp [h, h1, h2, okW, Wp]
        · simp [h, h1, Wp]
      · simp [h, hc, Wp]
    | _ => simp [h, Wp]
theorem mayW_clo {n : Nat} {z : Z} (h : z.refs = []) : mayW b n z = true := by simp [mayW, Z.clo, h]
end
theorem zfd_ins {st : Sto} {c f : String} {fs : List String} {vs : List Z} : zfd st (.ins c fs vs) c f = getF f fs vs := by unfold zfd; simp
theorem insM_ins {c c' m : String} {fs : List String} {vs : List Z} : insM c m (.ins c' fs vs) = (c' == c && !(fs.any fun f => f == m)) := (rfl)
theorem refsL_map {α : Type} {f : α → Z} (hf : ∀ x, (f x).refs = []) : ∀ {ys : List α}, refsL (ys.map f) = []
  | [] => rfl
  | y :: ys => by rw [List.map_cons, refsL, hf, refsL_map hf]; rfl
theorem refsL_strs {ys : List (List Nat)} : refsL (ys.map Z.str) = [] := refsL_map fun _ => rfl
theorem eraseIdx_map' {α β : Type} (f : α → β) : ∀ (l : List α) (i : Nat), (l.map f).eraseIdx i = (l.eraseIdx i).map f
  | [], _ => rfl
  | x :: l, 0 => rfl
  | x :: l, i + 1 => by rw [List.map_cons, List.eraseIdx_cons_succ, List.eraseIdx_cons_succ, List.map_cons, eraseIdx_map' f l i]
theorem eraseIdx_perm {α : Type} : ∀ (l : List α) (i : Nat) (h : i < l.length), (l[i] :: l.eraseIdx i).Perm l
  | [], i, h => by cases h
  | x :: l, 0, h => List.Perm.refl _
  | x :: l, i + 1, h => by
    rw [List.eraseIdx_cons_succ, List.getElem_cons_succ]
    exact (List.Perm.swap x _ _).trans ((eraseIdx_perm l i (by simpa using h)).cons x)
theorem ix_str {st : Sto} {xs : List Nat} {i : Int} : zix st (.str xs) (.int i) = (L2.atI xs i).map fun c => .str [c] := (rfl)
theorem atI_in {α : Type} {xs : List α} {i : Int} (h0 : 0 ≤ i) (h1 : i < xs.length) : ∃ x, L2.atI xs i = some x ∧ x ∈ xs := by
  have : i.toNat < xs.length := by omega
  exact ⟨xs[i.toNat], by rw [atI_pos h0]; simp [this], List.getElem_mem this⟩
theorem mulOk_b {i : Int} {c : Prop} [Decidable c] : mulOk i (if c then 1 else 0) = true := mulOk_r (by split <;> decide) (by split <;> decide)
theorem rep_par {st : Sto} {a : List Nat} {k : Nat} : zbin .rep st (.str a) (.int ((k : Int) % 2)) = some (.str (if k % 2 = 0 then [] else a)) := by
  by_cases h : k % 2 = 0
  · have : (k : Int) % 2 = 0 := by omega
    rw [this, if_pos h]; rfl
  · have : (k : Int) % 2 = 1 := by omega
    rw [this, if_neg h]; rfl
theorem natmod {k l : Nat} : (k : Int) % ((l : Int) + 1) = ((k % (l + 1) : Nat) : Int) := by rw [Int.natCast_emod]; rfl
theorem nat1 {l : Nat} : (0 : Int) < (l : Int) + 1 := by omega
theorem zfzL_map {α : Type} {f : α → Z} (hf : ∀ x d st, zfzD d (f x) st = .ok (f x) st) {d : Nat} {st : Sto} : ∀ {xs : List α}, zfzL d (xs.map f) st = .ok (xs.map f) st
  | [] => by unfold zfzL; rfl
  | x :: xs => by
    rw [List.map_cons]
    unfold zfzL
    rw [hf, R.bind_ok, zfzL_map hf, R.bind_ok]
theorem zfzD_str {d : Nat} {i : List Nat} {st : Sto} : zfzD d (.str i) st = .ok (.str i) st := by cases d <;> (unfold zfzD; rfl)
theorem zfzL_strs {d : Nat} {st : Sto} {xs : List (List Nat)} : zfzL d (xs.map Z.str) st = .ok (xs.map Z.str) st := zfzL_map fun _ _ _ => zfzD_str
theorem lg2 {j : Int} (h0 : 0 < j) (h : j < 18446744073709551616) : (j.natAbs.log2 < 9000) = True := eq_true (log2_lt h0 (by omega))
theorem pick2 {a b i : Int} (h0 : 0 ≤ i) (h1 : i < 2) : ∃ x, L2.atI [Z.int a, Z.int b] i = some (.int x) ∧ (x = a ∨ x = b) := by
  have : i = 0 ∨ i = 1 := by omega
  rcases this with rfl | rfl
  · exact ⟨a, rfl, .inl rfl⟩
  · exact ⟨b, rfl, .inr rfl⟩
theorem pick3 {a b c i : Int} (h0 : 0 ≤ i) (h1 : i < 3) : ∃ x, L2.atI [Z.int a, Z.int b, Z.int c] i = some (.int x) ∧ (x = a ∨ x = b ∨ x = c) := by
  have : i = 0 ∨ i = 1 ∨ i = 2 := by omega
  rcases this with rfl | rfl | rfl
  · exact ⟨a, rfl, .inl rfl⟩
  · exact ⟨b, rfl, .inr (.inl rfl)⟩
  · exact ⟨c, rfl, .inr (.inr rfl)⟩
theorem rgL2 {i j : Int} (h : rgB i j = true) : rgL [.int i, .int j] = some ((List.range (j - i).toNat).map fun (k : Nat) => Z.int (i + k)) := if_pos h
theorem rgL1 {j : Int} (h : rgB 0 j = true) : rgL [.int j] = some ((List.range j.toNat).map fun (k : Nat) => Z.int k) := if_pos h
theorem rgB_in {i j : Int} (h1 : -1000000 ≤ i) (h2 : i ≤ 1000000) (h3 : -1000000 ≤ j) (h4 : j ≤ 1000000) : rgB i j = true := by
  unfold rgB
  simp
  omega
theorem zip_map_int {xs ys : List Int} : zipZ (xs.map Z.int) (ys.map Z.int) = (xs.zip ys).map fun p => .tup [.int p.1, .int p.2] := zipZ_map
theorem map_snoc {xs : List Int} {a : Int} : xs.map Z.int ++ [Z.int a] = (xs ++ [a]).map Z.int := by simp
theorem pw4 {st : Sto} : zbin .pow st (.int 10) (.int 4) = some (.int 10000) := (rfl)
theorem two_of {α : Type} {l : List α} (h : l.length = 2) : ∃ a b, l = [a, b] := by
  match l, h with
  | [a, b], _ => exact ⟨a, b, rfl⟩
theorem rg2 {f : Nat → Z} : (List.range (2 : Int).toNat).map f = [f 0, f 1] := (rfl)
theorem cut_9 {α : Type} {xs : List α} : cut xs (some 9) none = xs.drop 9 := cut_from
theorem cut_4 {α : Type} {xs : List α} : cut xs (some 4) none = xs.drop 4 := cut_from
theorem cut_5 {α : Type} {xs : List α} : cut xs (some 5) none = xs.drop 5 := cut_from
theorem rep_one {st : Sto} {p j : Int} (h : -1000000 ≤ j ∧ j ≤ 1000000) : zbin .rep st (.lst [.int p]) (.int j) = some (.lst ((List.replicate j.toNat p).map Z.int)) := by
  have e : (List.replicate j.toNat [Z.int p]).flatten = (List.replicate j.toNat p).map Z.int := by
    induction j.toNat with
    | zero => rfl
    | succ n ih => rw [List.replicate_succ, List.flatten_cons, ih, List.replicate_succ, List.map_cons]; rfl
  rw [← e]
  show (if Z.isScr (.lst [.int p]) = false ∧ -(2 ^ 63) ≤ j ∧ j < 2 ^ 63 ∧ ([Z.int p] : List Z).length * j.toNat ≤ sizeL then _ else _) = _
  rw [if_pos ⟨rfl, by omega, by omega, by unfold sizeL; simp; omega⟩]
theorem map_app {xs ys : List Int} : xs.map Z.int ++ ys.map Z.int = (xs ++ ys).map Z.int := by rw [List.map_append]
theorem atI_9 {α : Type} {xs : List α} : L2.atI xs 9 = xs[9]? := atI_nat (n := 9)
theorem atI_10 {α : Type} {xs : List α} : L2.atI xs 10 = xs[10]? := atI_nat (n := 10)
theorem atI_11 {α : Type} {xs : List α} : L2.atI xs 11 = xs[11]? := atI_nat (n := 11)
theorem atI_12 {α : Type} {xs : List α} : L2.atI xs 12 = xs[12]? := atI_nat (n := 12)
theorem atI_13 {α : Type} {xs : List α} : L2.atI xs 13 = xs[13]? := atI_nat (n := 13)
end ZZ

end
section
set_option maxHeartbeats 2000000
/-! ZG: draws, comprehensions that gather. -/
namespace ZZ
section
variable {F : FT} {gv : String → Option Z} {b N : Nat}
/-- what a pop takes out -/
def Po (xs : List Z) (i : Int) (f : Z → Prop) [Tg f] : Prop := ∃ y, 0 ≤ i ∧ xs[i.toNat]? = some y ∧ f y
theorem w_popAt {n : Nat} {st : Sto} {i : Int} {Q : Z → Sto → Prop} (h : ∀ xs, st[n]? = some (.lst xs) → i < xs.length) : Wp (zbm .popAt b st (.cel n) [.int i]) Q = Ap st[n]? fun xs => Po xs i fun y => Q y (st.set n (.lst (xs.eraseIdx i.toNat))) := by
  unfold zbm Ap
  cases e : st[n]? with
  | none => simp [Wp, e]
  | some c =>
    cases c with
    | lst xs =>
      unfold Po
      have h := h xs e
      by_cases h0 : 0 ≤ i
      · have : i.toNat < xs.length := by omega
        simp [e, h, h0, Wp, this]
      · simp [e, h0, Wp]
    | _ => simp [e, Wp]
theorem popAt_ok {n : Nat} {st : Sto} {i : Int} {xs : List Z} {y : Z} {Q : Z → Sto → Prop} (e : st[n]? = some (.lst xs)) (h0 : 0 ≤ i) (h : xs[i.toNat]? = some y) (q : Q y (st.set n (.lst (xs.eraseIdx i.toNat)))) : Wp (zbm .popAt b st (.cel n) [.int i]) Q := by
  have hl := (List.getElem?_eq_some_iff.mp h).1
  rw [w_popAt fun ys e' => by rw [e] at e'; cases e'; omega, e]
  exact ⟨y, h0, h, q⟩
/-- gathering -/
theorem goC_gather {β : Type} {c : Sto → Bool} {f : Z → Sto → R (List Z)} (r : β → Z) (I : List β → Sto → Prop) : ∀ (zs : List Z) (done : List β) (st : Sto), I done st →
    (∀ j (hj : j < zs.length) (ys : List β) s, ys.length = done.length + j → I ys s → c s = true ∧ ∃ x s', f zs[j] s = .ok [r x] s' ∧ I (ys ++ [x]) s') → (∀ ys s, ys.length = done.length + zs.length → I ys s → c s = true) →
    ∃ (more : List β) (s' : Sto), goC c f zs st = .ok (more.map r) s' ∧ more.length = zs.length ∧ I (done ++ more) s'
  | [], done, st, h0, hs, he => by
    refine ⟨[], st, ?_, rfl, by rw [List.append_nil]; exact h0⟩
    show (if c st then _ else _) = _
    rw [if_pos (he done st (by simp) h0)]
    rfl
  | z :: zs, done, st, h0, hs, he => by
    obtain ⟨c1, x, s', e1, i1⟩ := hs 0 (by simp) done st (by simp) h0
    obtain ⟨more, s2, e2, l2, i2⟩ := goC_gather r I zs (done ++ [x]) s' i1 (fun j hj ys s hl hI => hs (j + 1) (by simpa using hj) ys s (by rw [hl]; simp; omega) hI) (fun ys s hl hI => he ys s (by rw [hl]; simp; omega) hI)
    refine ⟨x :: more, s2, ?_, by rw [List.length_cons, l2, List.length_cons], by rw [List.append_assoc] at i2; exact i2⟩
    show (if c st then _ else _) = _
    rw [if_pos c1]
    show (f z st).bind _ = _
    rw [show f z st = _ from e1, R.bind_ok]
    show (goC c f zs s').bind _ = _
    rw [e2]
    rfl
/-- a comprehension's turns over what is walked -/
noncomputable def LcG (F : FT) (gv : String → Option Z) (b : Nat) (k : Bool) (ws : List Nat) (e : E) (t : T) (c : Option E) (en : En) (w : Wk) (st : Sto) : R Z := (goC (stays w.held st) (fun z st1 => (match bindT t z (wipeE en ws) with
      | some en1 => (evc F gv b c en1 st1).calm.bind fun k st2 => if k then (ev F gv b e en1 st2).calm.bind fun y st3 => .ok [y] st3 else .ok [] st2
      | none => .no)) w.items st).bind fun zs st => mkL k zs st
theorem wp_lcI {k : Bool} {ws : List Nat} {e : E} {t : T} {i : I} {c : Option E} {en : En} {st : Sto} {Q : Z → Sto → Prop} (h : Wp (evI F gv b i en st) fun w st1 => Wp (LcG F gv b k ws e t c en w st1) Q) : Wp (ev F gv b (.lc k ws e t i c) en st) Q := by
  conv => arg 1; unfold ev
  rw [Wp_bind]
  exact h
theorem wp_lcg {β : Type} {k : Bool} {ws : List Nat} {e : E} {t : T} {en : En} {st : Sto} {zs hs : List Z} {Q : Z → Sto → Prop} (r : β → Z) (I : List β → Sto → Prop) (h0 : I [] st)
    (step : ∀ (ys : List β) s (hj : ys.length < zs.length), I ys s → stays hs st s = true ∧ ∃ en1, bindT t (zs[ys.length]) (wipeE en ws) = some en1 ∧ Wp (ev F gv b e en1 s) fun y s' => ∃ x, y = r x ∧ I (ys ++ [x]) s')
    (fin : ∀ ys s, ys.length = zs.length → I ys s → stays hs st s = true) (q : ∀ (ys : List β) s, I ys s → ys.length = zs.length → Wp (mkL k (ys.map r) s) Q) : Wp (LcG F gv b k ws e t none en ⟨zs, hs⟩ st) Q := by
  obtain ⟨more, s2, e2, l2, i2⟩ := goC_gather r I zs [] st h0 (c := stays hs st) (f := fun z st1 => (match bindT t z (wipeE en ws) with
      | some en1 => (evc F gv b none en1 st1).calm.bind fun k st2 => if k then (ev F gv b e en1 st2).calm.bind fun y st3 => .ok [y] st3 else .ok [] st2
      | none => .no)) (fun j hj ys s2 hl hI => by
    have hl : ys.length = j := by simpa using hl
    subst hl
    obtain ⟨c1, en1, b1, w1⟩ := step ys s2 hj hI
    obtain ⟨y, s3, e3, x, rfl, i3⟩ := w1.ex
    refine ⟨c1, x, s3, ?_, i3⟩
    simp only [b1]
    unfold evc
    simp only [R.calm_ok, R.bind_ok, if_true, e3]) (fun ys s hl hI => fin ys s (by simpa using hl) hI)
  rw [List.nil_append] at i2
  refine Eq.mpr (congrArg (fun r : R (List Z) => Wp (r.bind fun zs st => mkL k zs st) Q) e2) ?_
  exact q more s2 i2 l2
theorem wp_lca {β : Type} {k : Bool} {ws : List Nat} {e : E} {t : T} {i : I} {en : En} {st st1 : Sto} {zs hs : List Z} {Q : Z → Sto → Prop} (r : β → Z) (I : List β → Sto → Prop) (hI : Wp (evI F gv b i en st) fun w s => w = ⟨zs, hs⟩ ∧ s = st1) (h0 : I [] st1)
    (step : ∀ (ys : List β) s (hj : ys.length < zs.length), I ys s → stays hs st1 s = true ∧ ∃ en1, bindT t (zs[ys.length]) (wipeE en ws) = some en1 ∧ Wp (ev F gv b e en1 s) fun y s' => ∃ x, y = r x ∧ I (ys ++ [x]) s')
    (fin : ∀ ys s, ys.length = zs.length → I ys s → stays hs st1 s = true) (q : ∀ (ys : List β) s, I ys s → ys.length = zs.length → Wp (mkL k (ys.map r) s) Q) : Wp (ev F gv b (.lc k ws e t i none) en st) Q :=
  wp_lcI (hI.mono fun w s h => by obtain ⟨rfl, rfl⟩ := h; exact wp_lcg r I h0 step fin q)
end
section
variable {tab : String → Option FnD} {gv : String → Option Z} {N : Nat}
theorem draw_w {p1 p2 : String} (h : tab "_law_draw" = some (dDraw p1 p2)) {k b n : Nat} {st : Sto} {B m : Int} {Q : Z → Sto → Prop} (t : Tape st n B) (hB : B < 1000000000) (hm : 0 < m) (hm2 : m < 2 ^ 64)
    (q : ∀ v s', 0 ≤ v → v < m → s'.length = st.length → Tape s' n (B + 1) → Onl n st s' → Q (.int v) s') : Wp (run tab gv N (k + 1) "_law_draw" [.cel n, .int m] [] b st) Q := by
  obtain ⟨v, s', h1, h2, h3, h4, h5⟩ := draw (gv := gv) (N := N) h (k := k) (b := b) t hB hm hm2
  rw [h3]
  exact q v s' h1 h2 h5.1 h4 h5
theorem draw_w1 {p1 p2 : String} (h : tab "_law_draw" = some (dDraw p1 p2)) {k b n : Nat} {st : Sto} {c : Cl} {B m : Int} {Q : Z → Sto → Prop} (t : Tape st n B) (hB : B < 1000000000) (hm : 0 < m) (hm2 : m < 2 ^ 64)
    (q : ∀ v s', 0 ≤ v → v < m → s'.length = st.length → Tape s' n (B + 1) → Onl n st s' → Q (.int v) (s' ++ [c])) : Wp (run tab gv N (k + 1) "_law_draw" [.cel n, .int m] [] b (st ++ [c])) Q := by
  obtain ⟨v, a, b', d, h1, h2, h3, h4⟩ := draw_ok (gv := gv) (N := N) h (k := k) (b := b) (t.app (l := [c])) hB hm hm2
  have hs : (st ++ [c]).set n (.lst [.int a, .int b', .int d]) = st.set n (.lst [.int a, .int b', .int d]) ++ [c] := List.set_append_left _ _ t.lt
  rw [h3, hs]
  rw [hs] at h4
  exact q v _ h1 h2 (by simp) (h4.keep (by rw [List.getElem?_append_left (by simpa using t.lt)])) onl_set
theorem draw_w2 {p1 p2 : String} (h : tab "_law_draw" = some (dDraw p1 p2)) {k b n : Nat} {st : Sto} {c c2 : Cl} {B m : Int} {Q : Z → Sto → Prop} (t : Tape st n B) (hB : B < 1000000000) (hm : 0 < m) (hm2 : m < 2 ^ 64)
    (q : ∀ v s', 0 ≤ v → v < m → s'.length = st.length → Tape s' n (B + 1) → Onl n st s' → Q (.int v) (s' ++ [c] ++ [c2])) : Wp (run tab gv N (k + 1) "_law_draw" [.cel n, .int m] [] b (st ++ [c] ++ [c2])) Q := by
  refine draw_w1 h (t.app (l := [c])) hB hm hm2 fun v s' h1 h2 h3 h4 h5 => ?_
  have hs : s' = s'.take st.length ++ [c] := by
    have h6 : s'[st.length]? = some c := by rw [h5.2 _ (Nat.ne_of_gt t.lt)]; simp
    have h7 : s'.length = st.length + 1 := by rw [h3]; simp
    apply List.ext_getElem?
    intro m
    by_cases hm : m < st.length
    · rw [List.getElem?_append_left (by rw [List.length_take, h7]; omega), List.getElem?_take_of_lt hm]
    · by_cases hm2 : m = st.length
      · subst hm2
        rw [h6, List.getElem?_append_right (by rw [List.length_take]; omega), List.length_take, h7]
        simp
      · rw [List.getElem?_eq_none (by omega), List.getElem?_eq_none (by rw [List.length_append, List.length_take, h7]; simp; omega)]
  rw [hs]
  have hlen : (s'.take st.length).length = st.length := by rw [List.length_take, h3]; simp
  refine q v _ h1 h2 hlen (h4.keep (by rw [List.getElem?_take_of_lt t.lt])) ⟨hlen, fun m hm => ?_⟩
  by_cases hml : m < st.length
  · rw [List.getElem?_take_of_lt hml, h5.2 m hm, List.getElem?_append_left hml]
  · rw [List.getElem?_eq_none (by omega), List.getElem?_eq_none (by omega)]
end
section
variable {tab : String → Option FnD} {gv : String → Option Z} {N : Nat}
theorem wp_runA {k : Nat} {d : FnD} {as : List Z} (hk : d.keep = false) (w : Wp (exs (run tab gv N k) gv 0 N d.body (startE d.ns as) []) (Rt false [] fun z _ => z = .bl true)) : ∃ st, runA tab gv N (k + 1) d as 0 [] = .ok (.bl true) st := by
  obtain ⟨r, st1, e, q⟩ := w.ex
  unfold runA finF
  rw [hk]
  simp only [Bool.false_eq_true, if_false, List.length_nil]
  rw [e]
  cases r with
  | rt z =>
    obtain ⟨q1, q2⟩ := q
    subst q2
    exact ⟨st1.take 0, rfl⟩
  | nx en => cases q
  | bk _ => exact q.elim
  | ct _ => exact q.elim
/-- how many of a script's numbers a law looks at -/
theorem first_six {F : FT} {ns : List Int} {en : En} {st : Sto} {b : Nat} {M : Int} (hM : 1 ≤ M ∧ M ≤ 6) (hen : en[0]? = some (some (.scr ns))) : ∃ m : Int, 1 ≤ m ∧ m ≤ M ∧ Wp (evI F gv b (.rng [.bf false .max2 [.n 1, .bf false .min2 [.bf false .len [.v 0], .n M]]]) en st) fun w s => w = ⟨(List.range m.toNat).map fun (k : Nat) => Z.int k, []⟩ ∧ s = st := by
  have hm : ∃ m : Int, 1 ≤ m ∧ m ≤ M ∧ (if (if M < (ns.length : Int) then M else (ns.length : Int)) > 1 then (if M < (ns.length : Int) then M else (ns.length : Int)) else 1) = m := ⟨_, by split <;> omega, by split <;> (try split) <;> omega, rfl⟩
  obtain ⟨m, h1, h2, h3⟩ := hm
  refine ⟨m, h1, h2, ?_⟩
  unfold evI
  simp only [evs, ev, hen, R.bind_ok, zbf, zbf1, zbf2, dr_scr, zlen, List.length_map, ofO_some, asK_f, h3, rng1 (show m ≤ 1000000 ∧ -(10 ^ 9) ≤ m by omega), Option.map_some]
  exact ⟨rfl, rfl⟩
end
end ZZ

end
section
set_option maxHeartbeats 2000000
/-! alike -/
namespace ZZ
theorem zipZ_self : ∀ {xs : List Z}, zipZ xs xs = xs.map fun x => .tup [x, x]
  | [] => rfl
  | x :: xs => by rw [zipZ, zipZ_self]; rfl
theorem c_eqn {st : Sto} : zcmp .eq st .non .non = some true := (rfl)
theorem pdL_mem : ∀ {xs : List Z}, pdL xs = true → ∀ x ∈ xs, x.pd = true
  | x :: xs, h, y, hy => by
    unfold pdL at h
    simp at h
    rcases List.mem_cons.mp hy with rfl | hy
    · exact h.1
    · exact pdL_mem h.2 y hy
theorem depL_mem : ∀ {xs : List Z}, ∀ x ∈ xs, x.dep ≤ depL xs
  | x :: xs, y, hy => by
    unfold depL
    rcases List.mem_cons.mp hy with rfl | hy
    · exact Nat.le_max_left _ _
    · exact Nat.le_trans (depL_mem y hy) (Nat.le_max_right _ _)
mutual
theorem zeqv_self : ∀ (z : Z), z.pd = true → zeqv z z = true
  | .non, _ => by unfold zeqv; rfl
  | .bl a, _ => by unfold zeqv; simp
  | .int a, _ => by unfold zeqv; simp
  | .str a, _ => by unfold zeqv; simp
  | .lst xs, h => by unfold zeqv; exact zeqvL_self xs h
  | .tup xs, h => by unfold zeqv; exact zeqvL_self xs h
  | .dic _ _, h => by cases h
  | .ins _ _ _, h => by cases h
  | .scr _, h => by cases h
  | .cel _, h => by cases h
theorem zeqvL_self : ∀ (xs : List Z), pdL xs = true → zeqvL xs xs = true
  | [], _ => by unfold zeqvL; rfl
  | x :: xs, h => by
    unfold pdL at h
    simp at h
    unfold zeqvL
    rw [zeqv_self x h.1, zeqvL_self xs h.2]
    rfl
end
theorem c_eq_self {st : Sto} {z : Z} (hd : dr st z = z) (h : z.pd = true) (h2 : z.dep ≤ 60) : zcmp .eq st z z = some true := by
  show zeqB st z z = some true
  unfold zeqB
  rw [hd, h, zeqv_self z h, decide_eq_true h2]
  rfl
theorem c_ne_self {st : Sto} {z : Z} (hd : dr st z = z) (h : z.pd = true) (h2 : z.dep ≤ 60) : zcmp .ne st z z = some false := by
  show (zeqB st z z).map (!·) = some false
  rw [show zeqB st z z = some true from c_eq_self hd h h2]
  rfl
section
variable {tab : String → Option FnD} {gv : String → Option Z} {N : Nat}
theorem same_eq {ps : List String} (h : tab "_law_same" = some (fnd ps 4 b__law_same false)) (hp : ps.length = 2) : ∀ (d k b : Nat) (st : Sto) (z : Z), z.pd = true → z.dep ≤ d → run tab gv N (k + d + 1) "_law_same" [z, z] [] b st = .ok (.bl true) st := by
  intro d
  induction d with
  | zero =>
    intro k b st z hz hd
    refine Wp.eq (wp_fn h (by rw [hp]; rfl) ?_)
    unfold b__law_same
    cases z with
    | non => simp -dsimp only [ev.eq_1, ev.eq_2, ev.eq_3, ev.eq_4, ev.eq_5, ev.eq_6, ev.eq_7, ev.eq_8, ev.eq_9, ev.eq_10, ev.eq_11, ev.eq_12, ev.eq_13, ev.eq_14, ev.eq_15, ev.eq_16, ev.eq_19, ev.eq_20, ev.eq_21, ev.eq_22, ev.eq_23, ev.eq_24, ev.eq_25, ev.eq_26, ev.eq_28, ev.eq_29, ev.eq_30, ev.eq_31, ev.eq_32, evs.eq_1, evs.eq_2, evo.eq_1, evo.eq_2, evc.eq_1, evc.eq_2, rbind_ok, ↓Wp_ok, ↓Wp_bind, Wp_no, Wp_exn, calm_Wp, ↓Wp_ifno, ↓Wp_ite, Br_true, Br_false, Br_not, ofO_Wp, An_true, w_add, w_sub, w_mul, w_mod, w_fdiv, w_pow, w_strs, w_tups, w_lsts, c_lt, c_le, c_gt, c_ge, c_eqi, c_nei, c_eqs, c_nes, c_eqb, c_neb, c_isn, c_notn, nq_non, nq_int, nq_bl, nq_str, nq_lst, nq_tup, nq_ins, t_non, t_bl, t_int, t_lst, t_tup, ix_tup, ix_lst, ix_scr, atI_0, ↓Cn_nx, ↓Cn_bk, ↓Cn_ct, ↓Cn_rt, ↓w_nil, ↓w_cons, w_asg, w_ex, w_ret, w_retN, w_ife, w_ix, Rt_f, Rt_fn, Rt_t, Tn_nx, Tn_ct, Tn_bk, Tn_rt, bindT.eq_1, bindT.eq_2, bindT.eq_3, bindTs.eq_1, bindTs.eq_2, sa0, sa1, sa2, sa11, sa21, sa22, ss0, ss1, ss11, st0, st1, st2, w_append, atI_9, atI_10, atI_11, atI_12, atI_13, cut_9, cut_4, cut_5, List.drop_succ_cons, List.drop_zero, pw4, lg2, zfzL_strs, refsL_strs, ix_str, zsm, seqv, asKt, la1, stn, w_asgF, Ac_ins, putFs_nil, putFs_cons, putG, Nat.reduceLT,  zbools_map, zints_map, zints_int, zstrs_map, all_id, any_id, zsl, cut_1, cut_2, cut_3, cut_t1, cut_t2, cut_t3, cut_from, cut_to, cut_map, atI_map, atI_1, atI_2, atI_3, atI_4, atI_5, atI_6, atI_7, atI_8, nc0, nc1, nc2, nc3, nc4, nc5, nc6, drop_map', take_map', atI_neg1, c_eql, c_nel, Br_F, isL_lst, isL_str, isS_str, ds0, ds1, ds2, ds11, ds21, ds22, di0, w_augU, Ai_int, w_fzv, Av_z, refsL_ints, Wp_none, w_put, Ap_lst, mayW_int, mayW_str, mayW_bl, mayW_self, w_fzc, zfzL_ints, wipeE, List.getElem?_cons_zero, List.getElem?_cons_succ, List.set_cons_zero, List.set_cons_succ, Option.map_some, Option.bind_some, Option.map_none, startE, List.map_cons, List.map_nil, List.length_cons, List.length_nil, List.nil_append, List.cons_append, List.append_nil, List.reduceReplicate, Nat.reduceAdd, Nat.reduceSub, dr_int, dr_bl, dr_non, dr_str, dr_lst, dr_tup, dr_dic, dr_ins, dr_scr, zbf, zbf1, zbf2, zlen, zabs, zint, zlst, asKf, mkLf, mkLt, Bool.not_true, Bool.not_false, Bool.not_not, Bool.and_true, Bool.true_and, Bool.and_false, Bool.false_and, decide_eq_true_eq, decide_eq_false_iff_not, decide_true, decide_false, Bool.not_eq_true', eq_self_iff_true, not_false_eq_true, not_true_eq_false, Bool.false_eq_true, reduceCtorEq, if_true, if_false, ite_true, ite_false, Z.refs, refsL, List.all_nil, List.all_cons, List.take_length, isi_Wp, tyOf, isTy, List.any_cons, List.any_nil, Bool.or_false, Bool.false_or, Bool.or_true, Bool.true_or, String.reduceEq, String.reduceBEq, beq_self_eq_true, zfd_ins, getF, insM_ins, me_ok, Int.reduceLT, Int.reduceLE, Int.reduceEq, Int.reduceNeg, Int.reduceAdd, Int.reduceSub, Int.reduceMul, gt_iff_lt, ge_iff_le, and_true, true_and, and_self, and_false, false_and, implies_true, true_implies, Prod.mk.injEq, ne_eq, bne, c_eqn]
    | bl x => simp -dsimp only [ev.eq_1, ev.eq_2, ev.eq_3, ev.eq_4, ev.eq_5, ev.eq_6, ev.eq_7, ev.eq_8, ev.eq_9, ev.eq_10, ev.eq_11, ev.eq_12, ev.eq_13, ev.eq_14, ev.eq_15, ev.eq_16, ev.eq_19, ev.eq_20, ev.eq_21, ev.eq_22, ev.eq_23, ev.eq_24, ev.eq_25, ev.eq_26, ev.eq_28, ev.eq_29, ev.eq_30, ev.eq_31, ev.eq_32, evs.eq_1, evs.eq_2, evo.eq_1, evo.eq_2, evc.eq_1, evc.eq_2, rbind_ok, ↓Wp_ok, ↓Wp_bind, Wp_no, Wp_exn, calm_Wp, ↓Wp_ifno, ↓Wp_ite, Br_true, Br_false, Br_not, ofO_Wp, An_true, w_add, w_sub, w_mul, w_mod, w_fdiv, w_pow, w_strs, w_tups, w_lsts, c_lt, c_le, c_gt, c_ge, c_eqi, c_nei, c_eqs, c_nes, c_eqb, c_neb, c_isn, c_notn, nq_non, nq_int, nq_bl, nq_str, nq_lst, nq_tup, nq_ins, t_non, t_bl, t_int, t_lst, t_tup, ix_tup, ix_lst, ix_scr, atI_0, ↓Cn_nx, ↓Cn_bk, ↓Cn_ct, ↓Cn_rt, ↓w_nil, ↓w_cons, w_asg, w_ex, w_ret, w_retN, w_ife, w_ix, Rt_f, Rt_fn, Rt_t, Tn_nx, Tn_ct, Tn_bk, Tn_rt, bindT.eq_1, bindT.eq_2, bindT.eq_3, bindTs.eq_1, bindTs.eq_2, sa0, sa1, sa2, sa11, sa21, sa22, ss0, ss1, ss11, st0, st1, st2, w_append, atI_9, atI_10, atI_11, atI_12, atI_13, cut_9, cut_4, cut_5, List.drop_succ_cons, List.drop_zero, pw4, lg2, zfzL_strs, refsL_strs, ix_str, zsm, seqv, asKt, la1, stn, w_asgF, Ac_ins, putFs_nil, putFs_cons, putG, Nat.reduceLT,  zbools_map, zints_map, zints_int, zstrs_map, all_id, any_id, zsl, cut_1, cut_2, cut_3, cut_t1, cut_t2, cut_t3, cut_from, cut_to, cut_map, atI_map, atI_1, atI_2, atI_3, atI_4, atI_5, atI_6, atI_7, atI_8, nc0, nc1, nc2, nc3, nc4, nc5, nc6, drop_map', take_map', atI_neg1, c_eql, c_nel, Br_F, isL_lst, isL_str, isS_str, ds0, ds1, ds2, ds11, ds21, ds22, di0, w_augU, Ai_int, w_fzv, Av_z, refsL_ints, Wp_none, w_put, Ap_lst, mayW_int, mayW_str, mayW_bl, mayW_self, w_fzc, zfzL_ints, wipeE, List.getElem?_cons_zero, List.getElem?_cons_succ, List.set_cons_zero, List.set_cons_succ, Option.map_some, Option.bind_some, Option.map_none, startE, List.map_cons, List.map_nil, List.length_cons, List.length_nil, List.nil_append, List.cons_append, List.append_nil, List.reduceReplicate, Nat.reduceAdd, Nat.reduceSub, dr_int, dr_bl, dr_non, dr_str, dr_lst, dr_tup, dr_dic, dr_ins, dr_scr, zbf, zbf1, zbf2, zlen, zabs, zint, zlst, asKf, mkLf, mkLt, Bool.not_true, Bool.not_false, Bool.not_not, Bool.and_true, Bool.true_and, Bool.and_false, Bool.false_and, decide_eq_true_eq, decide_eq_false_iff_not, decide_true, decide_false, Bool.not_eq_true', eq_self_iff_true, not_false_eq_true, not_true_eq_false, Bool.false_eq_true, reduceCtorEq, if_true, if_false, ite_true, ite_false, Z.refs, refsL, List.all_nil, List.all_cons, List.take_length, isi_Wp, tyOf, isTy, List.any_cons, List.any_nil, Bool.or_false, Bool.false_or, Bool.or_true, Bool.true_or, String.reduceEq, String.reduceBEq, beq_self_eq_true, zfd_ins, getF, insM_ins, me_ok, Int.reduceLT, Int.reduceLE, Int.reduceEq, Int.reduceNeg, Int.reduceAdd, Int.reduceSub, Int.reduceMul, gt_iff_lt, ge_iff_le, and_true, true_and, and_self, and_false, false_and, implies_true, true_implies, Prod.mk.injEq, ne_eq, bne, c_eqn]
    | int x => simp -dsimp only [ev.eq_1, ev.eq_2, ev.eq_3, ev.eq_4, ev.eq_5, ev.eq_6, ev.eq_7, ev.eq_8, ev.eq_9, ev.eq_10, ev.eq_11, ev.eq_12, ev.eq_13, ev.eq_14, ev.eq_15, ev.eq_16, ev.eq_19, ev.eq_20, ev.eq_21, ev.eq_22, ev.eq_23, ev.eq_24, ev.eq_25, ev.eq_26, ev.eq_28, ev.eq_29, ev.eq_30, ev.eq_31, ev.eq_32, evs.eq_1, evs.eq_2, evo.eq_1, evo.eq_2, evc.eq_1, evc.eq_2, rbind_ok, ↓Wp_ok, ↓Wp_bind, Wp_no, Wp_exn, calm_Wp, ↓Wp_ifno, ↓Wp_ite, Br_true, Br_false, Br_not, ofO_Wp, An_true, w_add, w_sub, w_mul, w_mod, w_fdiv, w_pow, w_strs, w_tups, w_lsts, c_lt, c_le, c_gt, c_ge, c_eqi, c_nei, c_eqs, c_nes, c_eqb, c_neb, c_isn, c_notn, nq_non, nq_int, nq_bl, nq_str, nq_lst, nq_tup, nq_ins, t_non, t_bl, t_int, t_lst, t_tup, ix_tup, ix_lst, ix_scr, atI_0, ↓Cn_nx, ↓Cn_bk, ↓Cn_ct, ↓Cn_rt, ↓w_nil, ↓w_cons, w_asg, w_ex, w_ret, w_retN, w_ife, w_ix, Rt_f, Rt_fn, Rt_t, Tn_nx, Tn_ct, Tn_bk, Tn_rt, bindT.eq_1, bindT.eq_2, bindT.eq_3, bindTs.eq_1, bindTs.eq_2, sa0, sa1, sa2, sa11, sa21, sa22, ss0, ss1, ss11, st0, st1, st2, w_append, atI_9, atI_10, atI_11, atI_12, atI_13, cut_9, cut_4, cut_5, List.drop_succ_cons, List.drop_zero, pw4, lg2, zfzL_strs, refsL_strs, ix_str, zsm, seqv, asKt, la1, stn, w_asgF, Ac_ins, putFs_nil, putFs_cons, putG, Nat.reduceLT,  zbools_map, zints_map, zints_int, zstrs_map, all_id, any_id, zsl, cut_1, cut_2, cut_3, cut_t1, cut_t2, cut_t3, cut_from, cut_to, cut_map, atI_map, atI_1, atI_2, atI_3, atI_4, atI_5, atI_6, atI_7, atI_8, nc0, nc1, nc2, nc3, nc4, nc5, nc6, drop_map', take_map', atI_neg1, c_eql, c_nel, Br_F, isL_lst, isL_str, isS_str, ds0, ds1, ds2, ds11, ds21, ds22, di0, w_augU, Ai_int, w_fzv, Av_z, refsL_ints, Wp_none, w_put, Ap_lst, mayW_int, mayW_str, mayW_bl, mayW_self, w_fzc, zfzL_ints, wipeE, List.getElem?_cons_zero, List.getElem?_cons_succ, List.set_cons_zero, List.set_cons_succ, Option.map_some, Option.bind_some, Option.map_none, startE, List.map_cons, List.map_nil, List.length_cons, List.length_nil, List.nil_append, List.cons_append, List.append_nil, List.reduceReplicate, Nat.reduceAdd, Nat.reduceSub, dr_int, dr_bl, dr_non, dr_str, dr_lst, dr_tup, dr_dic, dr_ins, dr_scr, zbf, zbf1, zbf2, zlen, zabs, zint, zlst, asKf, mkLf, mkLt, Bool.not_true, Bool.not_false, Bool.not_not, Bool.and_true, Bool.true_and, Bool.and_false, Bool.false_and, decide_eq_true_eq, decide_eq_false_iff_not, decide_true, decide_false, Bool.not_eq_true', eq_self_iff_true, not_false_eq_true, not_true_eq_false, Bool.false_eq_true, reduceCtorEq, if_true, if_false, ite_true, ite_false, Z.refs, refsL, List.all_nil, List.all_cons, List.take_length, isi_Wp, tyOf, isTy, List.any_cons, List.any_nil, Bool.or_false, Bool.false_or, Bool.or_true, Bool.true_or, String.reduceEq, String.reduceBEq, beq_self_eq_true, zfd_ins, getF, insM_ins, me_ok, Int.reduceLT, Int.reduceLE, Int.reduceEq, Int.reduceNeg, Int.reduceAdd, Int.reduceSub, Int.reduceMul, gt_iff_lt, ge_iff_le, and_true, true_and, and_self, and_false, false_and, implies_true, true_implies, Prod.mk.injEq, ne_eq, bne, c_eqn]
    | str x => simp -dsimp only [ev.eq_1, ev.eq_2, ev.eq_3, ev.eq_4, ev.eq_5, ev.eq_6, ev.eq_7, ev.eq_8, ev.eq_9, ev.eq_10, ev.eq_11, ev.eq_12, ev.eq_13, ev.eq_14, ev.eq_15, ev.eq_16, ev.eq_19, ev.eq_20, ev.eq_21, ev.eq_22, ev.eq_23, ev.eq_24, ev.eq_25, ev.eq_26, ev.eq_28, ev.eq_29, ev.eq_30, ev.eq_31, ev.eq_32, evs.eq_1, evs.eq_2, evo.eq_1, evo.eq_2, evc.eq_1, evc.eq_2, rbind_ok, ↓Wp_ok, ↓Wp_bind, Wp_no, Wp_exn, calm_Wp, ↓Wp_ifno, ↓Wp_ite, Br_true, Br_false, Br_not, ofO_Wp, An_true, w_add, w_sub, w_mul, w_mod, w_fdiv, w_pow, w_strs, w_tups, w_lsts, c_lt, c_le, c_gt, c_ge, c_eqi, c_nei, c_eqs, c_nes, c_eqb, c_neb, c_isn, c_notn, nq_non, nq_int, nq_bl, nq_str, nq_lst, nq_tup, nq_ins, t_non, t_bl, t_int, t_lst, t_tup, ix_tup, ix_lst, ix_scr, atI_0, ↓Cn_nx, ↓Cn_bk, ↓Cn_ct, ↓Cn_rt, ↓w_nil, ↓w_cons, w_asg, w_ex, w_ret, w_retN, w_ife, w_ix, Rt_f, Rt_fn, Rt_t, Tn_nx, Tn_ct, Tn_bk, Tn_rt, bindT.eq_1, bindT.eq_2, bindT.eq_3, bindTs.eq_1, bindTs.eq_2, sa0, sa1, sa2, sa11, sa21, sa22, ss0, ss1, ss11, st0, st1, st2, w_append, atI_9, atI_10, atI_11, atI_12, atI_13, cut_9, cut_4, cut_5, List.drop_succ_cons, List.drop_zero, pw4, lg2, zfzL_strs, refsL_strs, ix_str, zsm, seqv, asKt, la1, stn, w_asgF, Ac_ins, putFs_nil, putFs_cons, putG, Nat.reduceLT,  zbools_map, zints_map, zints_int, zstrs_map, all_id, any_id, zsl, cut_1, cut_2, cut_3, cut_t1, cut_t2, cut_t3, cut_from, cut_to, cut_map, atI_map, atI_1, atI_2, atI_3, atI_4, atI_5, atI_6, atI_7, atI_8, nc0, nc1, nc2, nc3, nc4, nc5, nc6, drop_map', take_map', atI_neg1, c_eql, c_nel, Br_F, isL_lst, isL_str, isS_str, ds0, ds1, ds2, ds11, ds21, ds22, di0, w_augU, Ai_int, w_fzv, Av_z, refsL_ints, Wp_none, w_put, Ap_lst, mayW_int, mayW_str, mayW_bl, mayW_self, w_fzc, zfzL_ints, wipeE, List.getElem?_cons_zero, List.getElem?_cons_succ, List.set_cons_zero, List.set_cons_succ, Option.map_some, Option.bind_some, Option.map_none, startE, List.map_cons, List.map_nil, List.length_cons, List.length_nil, List.nil_append, List.cons_append, List.append_nil, List.reduceReplicate, Nat.reduceAdd, Nat.reduceSub, dr_int, dr_bl, dr_non, dr_str, dr_lst, dr_tup, dr_dic, dr_ins, dr_scr, zbf, zbf1, zbf2, zlen, zabs, zint, zlst, asKf, mkLf, mkLt, Bool.not_true, Bool.not_false, Bool.not_not, Bool.and_true, Bool.true_and, Bool.and_false, Bool.false_and, decide_eq_true_eq, decide_eq_false_iff_not, decide_true, decide_false, Bool.not_eq_true', eq_self_iff_true, not_false_eq_true, not_true_eq_false, Bool.false_eq_true, reduceCtorEq, if_true, if_false, ite_true, ite_false, Z.refs, refsL, List.all_nil, List.all_cons, List.take_length, isi_Wp, tyOf, isTy, List.any_cons, List.any_nil, Bool.or_false, Bool.false_or, Bool.or_true, Bool.true_or, String.reduceEq, String.reduceBEq, beq_self_eq_true, zfd_ins, getF, insM_ins, me_ok, Int.reduceLT, Int.reduceLE, Int.reduceEq, Int.reduceNeg, Int.reduceAdd, Int.reduceSub, Int.reduceMul, gt_iff_lt, ge_iff_le, and_true, true_and, and_self, and_false, false_and, implies_true, true_implies, Prod.mk.injEq, ne_eq, bne, c_eqn]
    | lst xs => cases hd
    | tup xs => cases hd
    | dic _ _ => cases hz
    | ins _ _ _ => cases hz
    | scr _ => cases hz
    | cel _ => cases hz
  | succ d ih =>
    intro k b st z hz hd
    refine Wp.eq (wp_fn h (by rw [hp]; rfl) ?_)
    unfold b__law_same
    cases z with
    | non => simp -dsimp only [ev.eq_1, ev.eq_2, ev.eq_3, ev.eq_4, ev.eq_5, ev.eq_6, ev.eq_7, ev.eq_8, ev.eq_9, ev.eq_10, ev.eq_11, ev.eq_12, ev.eq_13, ev.eq_14, ev.eq_15, ev.eq_16, ev.eq_19, ev.eq_20, ev.eq_21, ev.eq_22, ev.eq_23, ev.eq_24, ev.eq_25, ev.eq_26, ev.eq_28, ev.eq_29, ev.eq_30, ev.eq_31, ev.eq_32, evs.eq_1, evs.eq_2, evo.eq_1, evo.eq_2, evc.eq_1, evc.eq_2, rbind_ok, ↓Wp_ok, ↓Wp_bind, Wp_no, Wp_exn, calm_Wp, ↓Wp_ifno, ↓Wp_ite, Br_true, Br_false, Br_not, ofO_Wp, An_true, w_add, w_sub, w_mul, w_mod, w_fdiv, w_pow, w_strs, w_tups, w_lsts, c_lt, c_le, c_gt, c_ge, c_eqi, c_nei, c_eqs, c_nes, c_eqb, c_neb, c_isn, c_notn, nq_non, nq_int, nq_bl, nq_str, nq_lst, nq_tup, nq_ins, t_non, t_bl, t_int, t_lst, t_tup, ix_tup, ix_lst, ix_scr, atI_0, ↓Cn_nx, ↓Cn_bk, ↓Cn_ct, ↓Cn_rt, ↓w_nil, ↓w_cons, w_asg, w_ex, w_ret, w_retN, w_ife, w_ix, Rt_f, Rt_fn, Rt_t, Tn_nx, Tn_ct, Tn_bk, Tn_rt, bindT.eq_1, bindT.eq_2, bindT.eq_3, bindTs.eq_1, bindTs.eq_2, sa0, sa1, sa2, sa11, sa21, sa22, ss0, ss1, ss11, st0, st1, st2, w_append, atI_9, atI_10, atI_11, atI_12, atI_13, cut_9, cut_4, cut_5, List.drop_succ_cons, List.drop_zero, pw4, lg2, zfzL_strs, refsL_strs, ix_str, zsm, seqv, asKt, la1, stn, w_asgF, Ac_ins, putFs_nil, putFs_cons, putG, Nat.reduceLT,  zbools_map, zints_map, zints_int, zstrs_map, all_id, any_id, zsl, cut_1, cut_2, cut_3, cut_t1, cut_t2, cut_t3, cut_from, cut_to, cut_map, atI_map, atI_1, atI_2, atI_3, atI_4, atI_5, atI_6, atI_7, atI_8, nc0, nc1, nc2, nc3, nc4, nc5, nc6, drop_map', take_map', atI_neg1, c_eql, c_nel, Br_F, isL_lst, isL_str, isS_str, ds0, ds1, ds2, ds11, ds21, ds22, di0, w_augU, Ai_int, w_fzv, Av_z, refsL_ints, Wp_none, w_put, Ap_lst, mayW_int, mayW_str, mayW_bl, mayW_self, w_fzc, zfzL_ints, wipeE, List.getElem?_cons_zero, List.getElem?_cons_succ, List.set_cons_zero, List.set_cons_succ, Option.map_some, Option.bind_some, Option.map_none, startE, List.map_cons, List.map_nil, List.length_cons, List.length_nil, List.nil_append, List.cons_append, List.append_nil, List.reduceReplicate, Nat.reduceAdd, Nat.reduceSub, dr_int, dr_bl, dr_non, dr_str, dr_lst, dr_tup, dr_dic, dr_ins, dr_scr, zbf, zbf1, zbf2, zlen, zabs, zint, zlst, asKf, mkLf, mkLt, Bool.not_true, Bool.not_false, Bool.not_not, Bool.and_true, Bool.true_and, Bool.and_false, Bool.false_and, decide_eq_true_eq, decide_eq_false_iff_not, decide_true, decide_false, Bool.not_eq_true', eq_self_iff_true, not_false_eq_true, not_true_eq_false, Bool.false_eq_true, reduceCtorEq, if_true, if_false, ite_true, ite_false, Z.refs, refsL, List.all_nil, List.all_cons, List.take_length, isi_Wp, tyOf, isTy, List.any_cons, List.any_nil, Bool.or_false, Bool.false_or, Bool.or_true, Bool.true_or, String.reduceEq, String.reduceBEq, beq_self_eq_true, zfd_ins, getF, insM_ins, me_ok, Int.reduceLT, Int.reduceLE, Int.reduceEq, Int.reduceNeg, Int.reduceAdd, Int.reduceSub, Int.reduceMul, gt_iff_lt, ge_iff_le, and_true, true_and, and_self, and_false, false_and, implies_true, true_implies, Prod.mk.injEq, ne_eq, bne, c_eqn]
    | bl x => simp -dsimp only [ev.eq_1, ev.eq_2, ev.eq_3, ev.eq_4, ev.eq_5, ev.eq_6, ev.eq_7, ev.eq_8, ev.eq_9, ev.eq_10, ev.eq_11, ev.eq_12, ev.eq_13, ev.eq_14, ev.eq_15, ev.eq_16, ev.eq_19, ev.eq_20, ev.eq_21, ev.eq_22, ev.eq_23, ev.eq_24, ev.eq_25, ev.eq_26, ev.eq_28, ev.eq_29, ev.eq_30, ev.eq_31, ev.eq_32, evs.eq_1, evs.eq_2, evo.eq_1, evo.eq_2, evc.eq_1, evc.eq_2, rbind_ok, ↓Wp_ok, ↓Wp_bind, Wp_no, Wp_exn, calm_Wp, ↓Wp_ifno, ↓Wp_ite, Br_true, Br_false, Br_not, ofO_Wp, An_true, w_add, w_sub, w_mul, w_mod, w_fdiv, w_pow, w_strs, w_tups, w_lsts, c_lt, c_le, c_gt, c_ge, c_eqi, c_nei, c_eqs, c_nes, c_eqb, c_neb, c_isn, c_notn, nq_non, nq_int, nq_bl, nq_str, nq_lst, nq_tup, nq_ins, t_non, t_bl, t_int, t_lst, t_tup, ix_tup, ix_lst, ix_scr, atI_0, ↓Cn_nx, ↓Cn_bk, ↓Cn_ct, ↓Cn_rt, ↓w_nil, ↓w_cons, w_asg, w_ex, w_ret, w_retN, w_ife, w_ix, Rt_f, Rt_fn, Rt_t, Tn_nx, Tn_ct, Tn_bk, Tn_rt, bindT.eq_1, bindT.eq_2, bindT.eq_3, bindTs.eq_1, bindTs.eq_2, sa0, sa1, sa2, sa11, sa21, sa22, ss0, ss1, ss11, st0, st1, st2, w_append, atI_9, atI_10, atI_11, atI_12, atI_13, cut_9, cut_4, cut_5, List.drop_succ_cons, List.drop_zero, pw4, lg2, zfzL_strs, refsL_strs, ix_str, zsm, seqv, asKt, la1, stn, w_asgF, Ac_ins, putFs_nil, putFs_cons, putG, Nat.reduceLT,  zbools_map, zints_map, zints_int, zstrs_map, all_id, any_id, zsl, cut_1, cut_2, cut_3, cut_t1, cut_t2, cut_t3, cut_from, cut_to, cut_map, atI_map, atI_1, atI_2, atI_3, atI_4, atI_5, atI_6, atI_7, atI_8, nc0, nc1, nc2, nc3, nc4, nc5, nc6, drop_map', take_map', atI_neg1, c_eql, c_nel, Br_F, isL_lst, isL_str, isS_str, ds0, ds1, ds2, ds11, ds21, ds22, di0, w_augU, Ai_int, w_fzv, Av_z, refsL_ints, Wp_none, w_put, Ap_lst, mayW_int, mayW_str, mayW_bl, mayW_self, w_fzc, zfzL_ints, wipeE, List.getElem?_cons_zero, List.getElem?_cons_succ, List.set_cons_zero, List.set_cons_succ, Option.map_some, Option.bind_some, Option.map_none, startE, List.map_cons, List.map_nil, List.length_cons, List.length_nil, List.nil_append, List.cons_append, List.append_nil, List.reduceReplicate, Nat.reduceAdd, Nat.reduceSub, dr_int, dr_bl, dr_non, dr_str, dr_lst, dr_tup, dr_dic, dr_ins, dr_scr, zbf, zbf1, zbf2, zlen, zabs, zint, zlst, asKf, mkLf, mkLt, Bool.not_true, Bool.not_false, Bool.not_not, Bool.and_true, Bool.true_and, Bool.and_false, Bool.false_and, decide_eq_true_eq, decide_eq_false_iff_not, decide_true, decide_false, Bool.not_eq_true', eq_self_iff_true, not_false_eq_true, not_true_eq_false, Bool.false_eq_true, reduceCtorEq, if_true, if_false, ite_true, ite_false, Z.refs, refsL, List.all_nil, List.all_cons, List.take_length, isi_Wp, tyOf, isTy, List.any_cons, List.any_nil, Bool.or_false, Bool.false_or, Bool.or_true, Bool.true_or, String.reduceEq, String.reduceBEq, beq_self_eq_true, zfd_ins, getF, insM_ins, me_ok, Int.reduceLT, Int.reduceLE, Int.reduceEq, Int.reduceNeg, Int.reduceAdd, Int.reduceSub, Int.reduceMul, gt_iff_lt, ge_iff_le, and_true, true_and, and_self, and_false, false_and, implies_true, true_implies, Prod.mk.injEq, ne_eq, bne, c_eqn]
    | int x => simp -dsimp only [ev.eq_1, ev.eq_2, ev.eq_3, ev.eq_4, ev.eq_5, ev.eq_6, ev.eq_7, ev.eq_8, ev.eq_9, ev.eq_10, ev.eq_11, ev.eq_12, ev.eq_13, ev.eq_14, ev.eq_15, ev.eq_16, ev.eq_19, ev.eq_20, ev.eq_21, ev.eq_22, ev.eq_23, ev.eq_24, ev.eq_25, ev.eq_26, ev.eq_28, ev.eq_29, ev.eq_30, ev.eq_31, ev.eq_32, evs.eq_1, evs.eq_2, evo.eq_1, evo.eq_2, evc.eq_1, evc.eq_2, rbind_ok, ↓Wp_ok, ↓Wp_bind, Wp_no, Wp_exn, calm_Wp, ↓Wp_ifno, ↓Wp_ite, Br_true, Br_false, Br_not, ofO_Wp, An_true, w_add, w_sub, w_mul, w_mod, w_fdiv, w_pow, w_strs, w_tups, w_lsts, c_lt, c_le, c_gt, c_ge, c_eqi, c_nei, c_eqs, c_nes, c_eqb, c_neb, c_isn, c_notn, nq_non, nq_int, nq_bl, nq_str, nq_lst, nq_tup, nq_ins, t_non, t_bl, t_int, t_lst, t_tup, ix_tup, ix_lst, ix_scr, atI_0, ↓Cn_nx, ↓Cn_bk, ↓Cn_ct, ↓Cn_rt, ↓w_nil, ↓w_cons, w_asg, w_ex, w_ret, w_retN, w_ife, w_ix, Rt_f, Rt_fn, Rt_t, Tn_nx, Tn_ct, Tn_bk, Tn_rt, bindT.eq_1, bindT.eq_2, bindT.eq_3, bindTs.eq_1, bindTs.eq_2, sa0, sa1, sa2, sa11, sa21, sa22, ss0, ss1, ss11, st0, st1, st2, w_append, atI_9, atI_10, atI_11, atI_12, atI_13, cut_9, cut_4, cut_5, List.drop_succ_cons, List.drop_zero, pw4, lg2, zfzL_strs, refsL_strs, ix_str, zsm, seqv, asKt, la1, stn, w_asgF, Ac_ins, putFs_nil, putFs_cons, putG, Nat.reduceLT,  zbools_map, zints_map, zints_int, zstrs_map, all_id, any_id, zsl, cut_1, cut_2, cut_3, cut_t1, cut_t2, cut_t3, cut_from, cut_to, cut_map, atI_map, atI_1, atI_2, atI_3, atI_4, atI_5, atI_6, atI_7, atI_8, nc0, nc1, nc2, nc3, nc4, nc5, nc6, drop_map', take_map', atI_neg1, c_eql, c_nel, Br_F, isL_lst, isL_str, isS_str, ds0, ds1, ds2, ds11, ds21, ds22, di0, w_augU, Ai_int, w_fzv, Av_z, refsL_ints, Wp_none, w_put, Ap_lst, mayW_int, mayW_str, mayW_bl, mayW_self, w_fzc, zfzL_ints, wipeE, List.getElem?_cons_zero, List.getElem?_cons_succ, List.set_cons_zero, List.set_cons_succ, Option.map_some, Option.bind_some, Option.map_none, startE, List.map_cons, List.map_nil, List.length_cons, List.length_nil, List.nil_append, List.cons_append, List.append_nil, List.reduceReplicate, Nat.reduceAdd, Nat.reduceSub, dr_int, dr_bl, dr_non, dr_str, dr_lst, dr_tup, dr_dic, dr_ins, dr_scr, zbf, zbf1, zbf2, zlen, zabs, zint, zlst, asKf, mkLf, mkLt, Bool.not_true, Bool.not_false, Bool.not_not, Bool.and_true, Bool.true_and, Bool.and_false, Bool.false_and, decide_eq_true_eq, decide_eq_false_iff_not, decide_true, decide_false, Bool.not_eq_true', eq_self_iff_true, not_false_eq_true, not_true_eq_false, Bool.false_eq_true, reduceCtorEq, if_true, if_false, ite_true, ite_false, Z.refs, refsL, List.all_nil, List.all_cons, List.take_length, isi_Wp, tyOf, isTy, List.any_cons, List.any_nil, Bool.or_false, Bool.false_or, Bool.or_true, Bool.true_or, String.reduceEq, String.reduceBEq, beq_self_eq_true, zfd_ins, getF, insM_ins, me_ok, Int.reduceLT, Int.reduceLE, Int.reduceEq, Int.reduceNeg, Int.reduceAdd, Int.reduceSub, Int.reduceMul, gt_iff_lt, ge_iff_le, and_true, true_and, and_self, and_false, false_and, implies_true, true_implies, Prod.mk.injEq, ne_eq, bne, c_eqn]
    | str x => simp -dsimp only [ev.eq_1, ev.eq_2, ev.eq_3, ev.eq_4, ev.eq_5, ev.eq_6, ev.eq_7, ev.eq_8, ev.eq_9, ev.eq_10, ev.eq_11, ev.eq_12, ev.eq_13, ev.eq_14, ev.eq_15, ev.eq_16, ev.eq_19, ev.eq_20, ev.eq_21, ev.eq_22, ev.eq_23, ev.eq_24, ev.eq_25, ev.eq_26, ev.eq_28, ev.eq_29, ev.eq_30, ev.eq_31, ev.eq_32, evs.eq_1, evs.eq_2, evo.eq_1, evo.eq_2, evc.eq_1, evc.eq_2, rbind_ok, ↓Wp_ok, ↓Wp_bind, Wp_no, Wp_exn, calm_Wp, ↓Wp_ifno, ↓Wp_ite, Br_true, Br_false, Br_not, ofO_Wp, An_true, w_add, w_sub, w_mul, w_mod, w_fdiv, w_pow, w_strs, w_tups, w_lsts, c_lt, c_le, c_gt, c_ge, c_eqi, c_nei, c_eqs, c_nes, c_eqb, c_neb, c_isn, c_notn, nq_non, nq_int, nq_bl, nq_str, nq_lst, nq_tup, nq_ins, t_non, t_bl, t_int, t_lst, t_tup, ix_tup, ix_lst, ix_scr, atI_0, ↓Cn_nx, ↓Cn_bk, ↓Cn_ct, ↓Cn_rt, ↓w_nil, ↓w_cons, w_asg, w_ex, w_ret, w_retN, w_ife, w_ix, Rt_f, Rt_fn, Rt_t, Tn_nx, Tn_ct, Tn_bk, Tn_rt, bindT.eq_1, bindT.eq_2, bindT.eq_3, bindTs.eq_1, bindTs.eq_2, sa0, sa1, sa2, sa11, sa21, sa22, ss0, ss1, ss11, st0, st1, st2, w_append, atI_9, atI_10, atI_11, atI_12, atI_13, cut_9, cut_4, cut_5, List.drop_succ_cons, List.drop_zero, pw4, lg2, zfzL_strs, refsL_strs, ix_str, zsm, seqv, asKt, la1, stn, w_asgF, Ac_ins, putFs_nil, putFs_cons, putG, Nat.reduceLT,  zbools_map, zints_map, zints_int, zstrs_map, all_id, any_id, zsl, cut_1, cut_2, cut_3, cut_t1, cut_t2, cut_t3, cut_from, cut_to, cut_map, atI_map, atI_1, atI_2, atI_3, atI_4, atI_5, atI_6, atI_7, atI_8, nc0, nc1, nc2, nc3, nc4, nc5, nc6, drop_map', take_map', atI_neg1, c_eql, c_nel, Br_F, isL_lst, isL_str, isS_str, ds0, ds1, ds2, ds11, ds21, ds22, di0, w_augU, Ai_int, w_fzv, Av_z, refsL_ints, Wp_none, w_put, Ap_lst, mayW_int, mayW_str, mayW_bl, mayW_self, w_fzc, zfzL_ints, wipeE, List.getElem?_cons_zero, List.getElem?_cons_succ, List.set_cons_zero, List.set_cons_succ, Option.map_some, Option.bind_some, Option.map_none, startE, List.map_cons, List.map_nil, List.length_cons, List.length_nil, List.nil_append, List.cons_append, List.append_nil, List.reduceReplicate, Nat.reduceAdd, Nat.reduceSub, dr_int, dr_bl, dr_non, dr_str, dr_lst, dr_tup, dr_dic, dr_ins, dr_scr, zbf, zbf1, zbf2, zlen, zabs, zint, zlst, asKf, mkLf, mkLt, Bool.not_true, Bool.not_false, Bool.not_not, Bool.and_true, Bool.true_and, Bool.and_false, Bool.false_and, decide_eq_true_eq, decide_eq_false_iff_not, decide_true, decide_false, Bool.not_eq_true', eq_self_iff_true, not_false_eq_true, not_true_eq_false, Bool.false_eq_true, reduceCtorEq, if_true, if_false, ite_true, ite_false, Z.refs, refsL, List.all_nil, List.all_cons, List.take_length, isi_Wp, tyOf, isTy, List.any_cons, List.any_nil, Bool.or_false, Bool.false_or, Bool.or_true, Bool.true_or, String.reduceEq, String.reduceBEq, beq_self_eq_true, zfd_ins, getF, insM_ins, me_ok, Int.reduceLT, Int.reduceLE, Int.reduceEq, Int.reduceNeg, Int.reduceAdd, Int.reduceSub, Int.reduceMul, gt_iff_lt, ge_iff_le, and_true, true_and, and_self, and_false, false_and, implies_true, true_implies, Prod.mk.injEq, ne_eq, bne, c_eqn]
    | lst xs =>
      have hm := pdL_mem (show pdL xs = true from hz)
      have hdm : ∀ x ∈ xs, x.dep ≤ d := fun x hx => Nat.le_trans (depL_mem x hx) (Nat.le_of_succ_le_succ hd)
      simp -dsimp only [ev.eq_1, ev.eq_2, ev.eq_3, ev.eq_4, ev.eq_5, ev.eq_6, ev.eq_7, ev.eq_8, ev.eq_9, ev.eq_10, ev.eq_11, ev.eq_12, ev.eq_13, ev.eq_14, ev.eq_15, ev.eq_16, ev.eq_19, ev.eq_20, ev.eq_21, ev.eq_22, ev.eq_23, ev.eq_24, ev.eq_25, ev.eq_26, ev.eq_28, ev.eq_29, ev.eq_30, ev.eq_31, ev.eq_32, evs.eq_1, evs.eq_2, evo.eq_1, evo.eq_2, evc.eq_1, evc.eq_2, rbind_ok, ↓Wp_ok, ↓Wp_bind, Wp_no, Wp_exn, calm_Wp, ↓Wp_ifno, ↓Wp_ite, Br_true, Br_false, Br_not, ofO_Wp, An_true, w_add, w_sub, w_mul, w_mod, w_fdiv, w_pow, w_strs, w_tups, w_lsts, c_lt, c_le, c_gt, c_ge, c_eqi, c_nei, c_eqs, c_nes, c_eqb, c_neb, c_isn, c_notn, nq_non, nq_int, nq_bl, nq_str, nq_lst, nq_tup, nq_ins, t_non, t_bl, t_int, t_lst, t_tup, ix_tup, ix_lst, ix_scr, atI_0, ↓Cn_nx, ↓Cn_bk, ↓Cn_ct, ↓Cn_rt, ↓w_nil, ↓w_cons, w_asg, w_ex, w_ret, w_retN, w_ife, w_ix, Rt_f, Rt_fn, Rt_t, Tn_nx, Tn_ct, Tn_bk, Tn_rt, bindT.eq_1, bindT.eq_2, bindT.eq_3, bindTs.eq_1, bindTs.eq_2, sa0, sa1, sa2, sa11, sa21, sa22, ss0, ss1, ss11, st0, st1, st2, w_append, atI_9, atI_10, atI_11, atI_12, atI_13, cut_9, cut_4, cut_5, List.drop_succ_cons, List.drop_zero, pw4, lg2, zfzL_strs, refsL_strs, ix_str, zsm, seqv, asKt, la1, stn, w_asgF, Ac_ins, putFs_nil, putFs_cons, putG, Nat.reduceLT,  zbools_map, zints_map, zints_int, zstrs_map, all_id, any_id, zsl, cut_1, cut_2, cut_3, cut_t1, cut_t2, cut_t3, cut_from, cut_to, cut_map, atI_map, atI_1, atI_2, atI_3, atI_4, atI_5, atI_6, atI_7, atI_8, nc0, nc1, nc2, nc3, nc4, nc5, nc6, drop_map', take_map', atI_neg1, c_eql, c_nel, Br_F, isL_lst, isL_str, isS_str, ds0, ds1, ds2, ds11, ds21, ds22, di0, w_augU, Ai_int, w_fzv, Av_z, refsL_ints, Wp_none, w_put, Ap_lst, mayW_int, mayW_str, mayW_bl, mayW_self, w_fzc, zfzL_ints, wipeE, List.getElem?_cons_zero, List.getElem?_cons_succ, List.set_cons_zero, List.set_cons_succ, Option.map_some, Option.bind_some, Option.map_none, startE, List.map_cons, List.map_nil, List.length_cons, List.length_nil, List.nil_append, List.cons_append, List.append_nil, List.reduceReplicate, Nat.reduceAdd, Nat.reduceSub, dr_int, dr_bl, dr_non, dr_str, dr_lst, dr_tup, dr_dic, dr_ins, dr_scr, zbf, zbf1, zbf2, zlen, zabs, zint, zlst, asKf, mkLf, mkLt, Bool.not_true, Bool.not_false, Bool.not_not, Bool.and_true, Bool.true_and, Bool.and_false, Bool.false_and, decide_eq_true_eq, decide_eq_false_iff_not, decide_true, decide_false, Bool.not_eq_true', eq_self_iff_true, not_false_eq_true, not_true_eq_false, Bool.false_eq_true, reduceCtorEq, if_true, if_false, ite_true, ite_false, Z.refs, refsL, List.all_nil, List.all_cons, List.take_length, isi_Wp, tyOf, isTy, List.any_cons, List.any_nil, Bool.or_false, Bool.false_or, Bool.or_true, Bool.true_or, String.reduceEq, String.reduceBEq, beq_self_eq_true, zfd_ins, getF, insM_ins, me_ok, Int.reduceLT, Int.reduceLE, Int.reduceEq, Int.reduceNeg, Int.reduceAdd, Int.reduceSub, Int.reduceMul, gt_iff_lt, ge_iff_le, and_true, true_and, and_self, and_false, false_and, implies_true, true_implies, Prod.mk.injEq, ne_eq, bne]
      refine wp_lcp (xs := xs) (fun x => .tup [x, x]) (fun _ => .bl true) (hs := [.lst xs, .lst xs]) (st1 := st) ?_ (fun x hx => ⟨_, rfl, ?_⟩) ?_
      · simp -dsimp only [ev.eq_1, ev.eq_2, ev.eq_3, ev.eq_4, ev.eq_5, ev.eq_6, ev.eq_7, ev.eq_8, ev.eq_9, ev.eq_10, ev.eq_11, ev.eq_12, ev.eq_13, ev.eq_14, ev.eq_15, ev.eq_16, ev.eq_19, ev.eq_20, ev.eq_21, ev.eq_22, ev.eq_23, ev.eq_24, ev.eq_25, ev.eq_26, ev.eq_28, ev.eq_29, ev.eq_30, ev.eq_31, ev.eq_32, evs.eq_1, evs.eq_2, evo.eq_1, evo.eq_2, evc.eq_1, evc.eq_2, rbind_ok, ↓Wp_ok, ↓Wp_bind, Wp_no, Wp_exn, calm_Wp, ↓Wp_ifno, ↓Wp_ite, Br_true, Br_false, Br_not, ofO_Wp, An_true, w_add, w_sub, w_mul, w_mod, w_fdiv, w_pow, w_strs, w_tups, w_lsts, c_lt, c_le, c_gt, c_ge, c_eqi, c_nei, c_eqs, c_nes, c_eqb, c_neb, c_isn, c_notn, nq_non, nq_int, nq_bl, nq_str, nq_lst, nq_tup, nq_ins, t_non, t_bl, t_int, t_lst, t_tup, ix_tup, ix_lst, ix_scr, atI_0, ↓Cn_nx, ↓Cn_bk, ↓Cn_ct, ↓Cn_rt, ↓w_nil, ↓w_cons, w_asg, w_ex, w_ret, w_retN, w_ife, w_ix, Rt_f, Rt_fn, Rt_t, Tn_nx, Tn_ct, Tn_bk, Tn_rt, bindT.eq_1, bindT.eq_2, bindT.eq_3, bindTs.eq_1, bindTs.eq_2, sa0, sa1, sa2, sa11, sa21, sa22, ss0, ss1, ss11, st0, st1, st2, w_append, atI_9, atI_10, atI_11, atI_12, atI_13, cut_9, cut_4, cut_5, List.drop_succ_cons, List.drop_zero, pw4, lg2, zfzL_strs, refsL_strs, ix_str, zsm, seqv, asKt, la1, stn, w_asgF, Ac_ins, putFs_nil, putFs_cons, putG, Nat.reduceLT,  zbools_map, zints_map, zints_int, zstrs_map, all_id, any_id, zsl, cut_1, cut_2, cut_3, cut_t1, cut_t2, cut_t3, cut_from, cut_to, cut_map, atI_map, atI_1, atI_2, atI_3, atI_4, atI_5, atI_6, atI_7, atI_8, nc0, nc1, nc2, nc3, nc4, nc5, nc6, drop_map', take_map', atI_neg1, c_eql, c_nel, Br_F, isL_lst, isL_str, isS_str, ds0, ds1, ds2, ds11, ds21, ds22, di0, w_augU, Ai_int, w_fzv, Av_z, refsL_ints, Wp_none, w_put, Ap_lst, mayW_int, mayW_str, mayW_bl, mayW_self, w_fzc, zfzL_ints, wipeE, List.getElem?_cons_zero, List.getElem?_cons_succ, List.set_cons_zero, List.set_cons_succ, Option.map_some, Option.bind_some, Option.map_none, startE, List.map_cons, List.map_nil, List.length_cons, List.length_nil, List.nil_append, List.cons_append, List.append_nil, List.reduceReplicate, Nat.reduceAdd, Nat.reduceSub, dr_int, dr_bl, dr_non, dr_str, dr_lst, dr_tup, dr_dic, dr_ins, dr_scr, zbf, zbf1, zbf2, zlen, zabs, zint, zlst, asKf, mkLf, mkLt, Bool.not_true, Bool.not_false, Bool.not_not, Bool.and_true, Bool.true_and, Bool.and_false, Bool.false_and, decide_eq_true_eq, decide_eq_false_iff_not, decide_true, decide_false, Bool.not_eq_true', eq_self_iff_true, not_false_eq_true, not_true_eq_false, Bool.false_eq_true, reduceCtorEq, if_true, if_false, ite_true, ite_false, Z.refs, refsL, List.all_nil, List.all_cons, List.take_length, isi_Wp, tyOf, isTy, List.any_cons, List.any_nil, Bool.or_false, Bool.false_or, Bool.or_true, Bool.true_or, String.reduceEq, String.reduceBEq, beq_self_eq_true, zfd_ins, getF, insM_ins, me_ok, Int.reduceLT, Int.reduceLE, Int.reduceEq, Int.reduceNeg, Int.reduceAdd, Int.reduceSub, Int.reduceMul, gt_iff_lt, ge_iff_le, and_true, true_and, and_self, and_false, false_and, implies_true, true_implies, Prod.mk.injEq, ne_eq, bne, evI, zipZ_self]
      · simp -dsimp only [ev.eq_1, ev.eq_2, ev.eq_3, ev.eq_4, ev.eq_5, ev.eq_6, ev.eq_7, ev.eq_8, ev.eq_9, ev.eq_10, ev.eq_11, ev.eq_12, ev.eq_13, ev.eq_14, ev.eq_15, ev.eq_16, ev.eq_19, ev.eq_20, ev.eq_21, ev.eq_22, ev.eq_23, ev.eq_24, ev.eq_25, ev.eq_26, ev.eq_28, ev.eq_29, ev.eq_30, ev.eq_31, ev.eq_32, evs.eq_1, evs.eq_2, evo.eq_1, evo.eq_2, evc.eq_1, evc.eq_2, rbind_ok, ↓Wp_ok, ↓Wp_bind, Wp_no, Wp_exn, calm_Wp, ↓Wp_ifno, ↓Wp_ite, Br_true, Br_false, Br_not, ofO_Wp, An_true, w_add, w_sub, w_mul, w_mod, w_fdiv, w_pow, w_strs, w_tups, w_lsts, c_lt, c_le, c_gt, c_ge, c_eqi, c_nei, c_eqs, c_nes, c_eqb, c_neb, c_isn, c_notn, nq_non, nq_int, nq_bl, nq_str, nq_lst, nq_tup, nq_ins, t_non, t_bl, t_int, t_lst, t_tup, ix_tup, ix_lst, ix_scr, atI_0, ↓Cn_nx, ↓Cn_bk, ↓Cn_ct, ↓Cn_rt, ↓w_nil, ↓w_cons, w_asg, w_ex, w_ret, w_retN, w_ife, w_ix, Rt_f, Rt_fn, Rt_t, Tn_nx, Tn_ct, Tn_bk, Tn_rt, bindT.eq_1, bindT.eq_2, bindT.eq_3, bindTs.eq_1, bindTs.eq_2, sa0, sa1, sa2, sa11, sa21, sa22, ss0, ss1, ss11, st0, st1, st2, w_append, atI_9, atI_10, atI_11, atI_12, atI_13, cut_9, cut_4, cut_5, List.drop_succ_cons, List.drop_zero, pw4, lg2, zfzL_strs, refsL_strs, ix_str, zsm, seqv, asKt, la1, stn, w_asgF, Ac_ins, putFs_nil, putFs_cons, putG, Nat.reduceLT,  zbools_map, zints_map, zints_int, zstrs_map, all_id, any_id, zsl, cut_1, cut_2, cut_3, cut_t1, cut_t2, cut_t3, cut_from, cut_to, cut_map, atI_map, atI_1, atI_2, atI_3, atI_4, atI_5, atI_6, atI_7, atI_8, nc0, nc1, nc2, nc3, nc4, nc5, nc6, drop_map', take_map', atI_neg1, c_eql, c_nel, Br_F, isL_lst, isL_str, isS_str, ds0, ds1, ds2, ds11, ds21, ds22, di0, w_augU, Ai_int, w_fzv, Av_z, refsL_ints, Wp_none, w_put, Ap_lst, mayW_int, mayW_str, mayW_bl, mayW_self, w_fzc, zfzL_ints, wipeE, List.getElem?_cons_zero, List.getElem?_cons_succ, List.set_cons_zero, List.set_cons_succ, Option.map_some, Option.bind_some, Option.map_none, startE, List.map_cons, List.map_nil, List.length_cons, List.length_nil, List.nil_append, List.cons_append, List.append_nil, List.reduceReplicate, Nat.reduceAdd, Nat.reduceSub, dr_int, dr_bl, dr_non, dr_str, dr_lst, dr_tup, dr_dic, dr_ins, dr_scr, zbf, zbf1, zbf2, zlen, zabs, zint, zlst, asKf, mkLf, mkLt, Bool.not_true, Bool.not_false, Bool.not_not, Bool.and_true, Bool.true_and, Bool.and_false, Bool.false_and, decide_eq_true_eq, decide_eq_false_iff_not, decide_true, decide_false, Bool.not_eq_true', eq_self_iff_true, not_false_eq_true, not_true_eq_false, Bool.false_eq_true, reduceCtorEq, if_true, if_false, ite_true, ite_false, Z.refs, refsL, List.all_nil, List.all_cons, List.take_length, isi_Wp, tyOf, isTy, List.any_cons, List.any_nil, Bool.or_false, Bool.false_or, Bool.or_true, Bool.true_or, String.reduceEq, String.reduceBEq, beq_self_eq_true, zfd_ins, getF, insM_ins, me_ok, Int.reduceLT, Int.reduceLE, Int.reduceEq, Int.reduceNeg, Int.reduceAdd, Int.reduceSub, Int.reduceMul, gt_iff_lt, ge_iff_le, and_true, true_and, and_self, and_false, false_and, implies_true, true_implies, Prod.mk.injEq, ne_eq, bne]
        exact Wp.of_eq (ih k st.length st x (hm x hx) (hdm x hx)) ⟨rfl, rfl⟩
      · simp -dsimp only [ev.eq_1, ev.eq_2, ev.eq_3, ev.eq_4, ev.eq_5, ev.eq_6, ev.eq_7, ev.eq_8, ev.eq_9, ev.eq_10, ev.eq_11, ev.eq_12, ev.eq_13, ev.eq_14, ev.eq_15, ev.eq_16, ev.eq_19, ev.eq_20, ev.eq_21, ev.eq_22, ev.eq_23, ev.eq_24, ev.eq_25, ev.eq_26, ev.eq_28, ev.eq_29, ev.eq_30, ev.eq_31, ev.eq_32, evs.eq_1, evs.eq_2, evo.eq_1, evo.eq_2, evc.eq_1, evc.eq_2, rbind_ok, ↓Wp_ok, ↓Wp_bind, Wp_no, Wp_exn, calm_Wp, ↓Wp_ifno, ↓Wp_ite, Br_true, Br_false, Br_not, ofO_Wp, An_true, w_add, w_sub, w_mul, w_mod, w_fdiv, w_pow, w_strs, w_tups, w_lsts, c_lt, c_le, c_gt, c_ge, c_eqi, c_nei, c_eqs, c_nes, c_eqb, c_neb, c_isn, c_notn, nq_non, nq_int, nq_bl, nq_str, nq_lst, nq_tup, nq_ins, t_non, t_bl, t_int, t_lst, t_tup, ix_tup, ix_lst, ix_scr, atI_0, ↓Cn_nx, ↓Cn_bk, ↓Cn_ct, ↓Cn_rt, ↓w_nil, ↓w_cons, w_asg, w_ex, w_ret, w_retN, w_ife, w_ix, Rt_f, Rt_fn, Rt_t, Tn_nx, Tn_ct, Tn_bk, Tn_rt, bindT.eq_1, bindT.eq_2, bindT.eq_3, bindTs.eq_1, bindTs.eq_2, sa0, sa1, sa2, sa11, sa21, sa22, ss0, ss1, ss11, st0, st1, st2, w_append, atI_9, atI_10, atI_11, atI_12, atI_13, cut_9, cut_4, cut_5, List.drop_succ_cons, List.drop_zero, pw4, lg2, zfzL_strs, refsL_strs, ix_str, zsm, seqv, asKt, la1, stn, w_asgF, Ac_ins, putFs_nil, putFs_cons, putG, Nat.reduceLT,  zbools_map, zints_map, zints_int, zstrs_map, all_id, any_id, zsl, cut_1, cut_2, cut_3, cut_t1, cut_t2, cut_t3, cut_from, cut_to, cut_map, atI_map, atI_1, atI_2, atI_3, atI_4, atI_5, atI_6, atI_7, atI_8, nc0, nc1, nc2, nc3, nc4, nc5, nc6, drop_map', take_map', atI_neg1, c_eql, c_nel, Br_F, isL_lst, isL_str, isS_str, ds0, ds1, ds2, ds11, ds21, ds22, di0, w_augU, Ai_int, w_fzv, Av_z, refsL_ints, Wp_none, w_put, Ap_lst, mayW_int, mayW_str, mayW_bl, mayW_self, w_fzc, zfzL_ints, wipeE, List.getElem?_cons_zero, List.getElem?_cons_succ, List.set_cons_zero, List.set_cons_succ, Option.map_some, Option.bind_some, Option.map_none, startE, List.map_cons, List.map_nil, List.length_cons, List.length_nil, List.nil_append, List.cons_append, List.append_nil, List.reduceReplicate, Nat.reduceAdd, Nat.reduceSub, dr_int, dr_bl, dr_non, dr_str, dr_lst, dr_tup, dr_dic, dr_ins, dr_scr, zbf, zbf1, zbf2, zlen, zabs, zint, zlst, asKf, mkLf, mkLt, Bool.not_true, Bool.not_false, Bool.not_not, Bool.and_true, Bool.true_and, Bool.and_false, Bool.false_and, decide_eq_true_eq, decide_eq_false_iff_not, decide_true, decide_false, Bool.not_eq_true', eq_self_iff_true, not_false_eq_true, not_true_eq_false, Bool.false_eq_true, reduceCtorEq, if_true, if_false, ite_true, ite_false, Z.refs, refsL, List.all_nil, List.all_cons, List.take_length, isi_Wp, tyOf, isTy, List.any_cons, List.any_nil, Bool.or_false, Bool.false_or, Bool.or_true, Bool.true_or, String.reduceEq, String.reduceBEq, beq_self_eq_true, zfd_ins, getF, insM_ins, me_ok, Int.reduceLT, Int.reduceLE, Int.reduceEq, Int.reduceNeg, Int.reduceAdd, Int.reduceSub, Int.reduceMul, gt_iff_lt, ge_iff_le, and_true, true_and, and_self, and_false, false_and, implies_true, true_implies, Prod.mk.injEq, ne_eq, bne]
        simp
    | tup xs =>
      have hm := pdL_mem (show pdL xs = true from hz)
      have hdm : ∀ x ∈ xs, x.dep ≤ d := fun x hx => Nat.le_trans (depL_mem x hx) (Nat.le_of_succ_le_succ hd)
      simp -dsimp only [ev.eq_1, ev.eq_2, ev.eq_3, ev.eq_4, ev.eq_5, ev.eq_6, ev.eq_7, ev.eq_8, ev.eq_9, ev.eq_10, ev.eq_11, ev.eq_12, ev.eq_13, ev.eq_14, ev.eq_15, ev.eq_16, ev.eq_19, ev.eq_20, ev.eq_21, ev.eq_22, ev.eq_23, ev.eq_24, ev.eq_25, ev.eq_26, ev.eq_28, ev.eq_29, ev.eq_30, ev.eq_31, ev.eq_32, evs.eq_1, evs.eq_2, evo.eq_1, evo.eq_2, evc.eq_1, evc.eq_2, rbind_ok, ↓Wp_ok, ↓Wp_bind, Wp_no, Wp_exn, calm_Wp, ↓Wp_ifno, ↓Wp_ite, Br_true, Br_false, Br_not, ofO_Wp, An_true, w_add, w_sub, w_mul, w_mod, w_fdiv, w_pow, w_strs, w_tups, w_lsts, c_lt, c_le, c_gt, c_ge, c_eqi, c_nei, c_eqs, c_nes, c_eqb, c_neb, c_isn, c_notn, nq_non, nq_int, nq_bl, nq_str, nq_lst, nq_tup, nq_ins, t_non, t_bl, t_int, t_lst, t_tup, ix_tup, ix_lst, ix_scr, atI_0, ↓Cn_nx, ↓Cn_bk, ↓Cn_ct, ↓Cn_rt, ↓w_nil, ↓w_cons, w_asg, w_ex, w_ret, w_retN, w_ife, w_ix, Rt_f, Rt_fn, Rt_t, Tn_nx, Tn_ct, Tn_bk, Tn_rt, bindT.eq_1, bindT.eq_2, bindT.eq_3, bindTs.eq_1, bindTs.eq_2, sa0, sa1, sa2, sa11, sa21, sa22, ss0, ss1, ss11, st0, st1, st2, w_append, atI_9, atI_10, atI_11, atI_12, atI_13, cut_9, cut_4, cut_5, List.drop_succ_cons, List.drop_zero, pw4, lg2, zfzL_strs, refsL_strs, ix_str, zsm, seqv, asKt, la1, stn, w_asgF, Ac_ins, putFs_nil, putFs_cons, putG, Nat.reduceLT,  zbools_map, zints_map, zints_int, zstrs_map, all_id, any_id, zsl, cut_1, cut_2, cut_3, cut_t1, cut_t2, cut_t3, cut_from, cut_to, cut_map, atI_map, atI_1, atI_2, atI_3, atI_4, atI_5, atI_6, atI_7, atI_8, nc0, nc1, nc2, nc3, nc4, nc5, nc6, drop_map', take_map', atI_neg1, c_eql, c_nel, Br_F, isL_lst, isL_str, isS_str, ds0, ds1, ds2, ds11, ds21, ds22, di0, w_augU, Ai_int, w_fzv, Av_z, refsL_ints, Wp_none, w_put, Ap_lst, mayW_int, mayW_str, mayW_bl, mayW_self, w_fzc, zfzL_ints, wipeE, List.getElem?_cons_zero, List.getElem?_cons_succ, List.set_cons_zero, List.set_cons_succ, Option.map_some, Option.bind_some, Option.map_none, startE, List.map_cons, List.map_nil, List.length_cons, List.length_nil, List.nil_append, List.cons_append, List.append_nil, List.reduceReplicate, Nat.reduceAdd, Nat.reduceSub, dr_int, dr_bl, dr_non, dr_str, dr_lst, dr_tup, dr_dic, dr_ins, dr_scr, zbf, zbf1, zbf2, zlen, zabs, zint, zlst, asKf, mkLf, mkLt, Bool.not_true, Bool.not_false, Bool.not_not, Bool.and_true, Bool.true_and, Bool.and_false, Bool.false_and, decide_eq_true_eq, decide_eq_false_iff_not, decide_true, decide_false, Bool.not_eq_true', eq_self_iff_true, not_false_eq_true, not_true_eq_false, Bool.false_eq_true, reduceCtorEq, if_true, if_false, ite_true, ite_false, Z.refs, refsL, List.all_nil, List.all_cons, List.take_length, isi_Wp, tyOf, isTy, List.any_cons, List.any_nil, Bool.or_false, Bool.false_or, Bool.or_true, Bool.true_or, String.reduceEq, String.reduceBEq, beq_self_eq_true, zfd_ins, getF, insM_ins, me_ok, Int.reduceLT, Int.reduceLE, Int.reduceEq, Int.reduceNeg, Int.reduceAdd, Int.reduceSub, Int.reduceMul, gt_iff_lt, ge_iff_le, and_true, true_and, and_self, and_false, false_and, implies_true, true_implies, Prod.mk.injEq, ne_eq, bne]
      refine wp_lcp (xs := xs) (fun x => .tup [x, x]) (fun _ => .bl true) (hs := [.tup xs, .tup xs]) (st1 := st) ?_ (fun x hx => ⟨_, rfl, ?_⟩) ?_
      · simp -dsimp only [ev.eq_1, ev.eq_2, ev.eq_3, ev.eq_4, ev.eq_5, ev.eq_6, ev.eq_7, ev.eq_8, ev.eq_9, ev.eq_10, ev.eq_11, ev.eq_12, ev.eq_13, ev.eq_14, ev.eq_15, ev.eq_16, ev.eq_19, ev.eq_20, ev.eq_21, ev.eq_22, ev.eq_23, ev.eq_24, ev.eq_25, ev.eq_26, ev.eq_28, ev.eq_29, ev.eq_30, ev.eq_31, ev.eq_32, evs.eq_1, evs.eq_2, evo.eq_1, evo.eq_2, evc.eq_1, evc.eq_2, rbind_ok, ↓Wp_ok, ↓Wp_bind, Wp_no, Wp_exn, calm_Wp, ↓Wp_ifno, ↓Wp_ite, Br_true, Br_false, Br_not, ofO_Wp, An_true, w_add, w_sub, w_mul, w_mod, w_fdiv, w_pow, w_strs, w_tups, w_lsts, c_lt, c_le, c_gt, c_ge, c_eqi, c_nei, c_eqs, c_nes, c_eqb, c_neb, c_isn, c_notn, nq_non, nq_int, nq_bl, nq_str, nq_lst, nq_tup, nq_ins, t_non, t_bl, t_int, t_lst, t_tup, ix_tup, ix_lst, ix_scr, atI_0, ↓Cn_nx, ↓Cn_bk, ↓Cn_ct, ↓Cn_rt, ↓w_nil, ↓w_cons, w_asg, w_ex, w_ret, w_retN, w_ife, w_ix, Rt_f, Rt_fn, Rt_t, Tn_nx, Tn_ct, Tn_bk, Tn_rt, bindT.eq_1, bindT.eq_2, bindT.eq_3, bindTs.eq_1, bindTs.eq_2, sa0, sa1, sa2, sa11, sa21, sa22, ss0, ss1, ss11, st0, st1, st2, w_append, atI_9, atI_10, atI_11, atI_12, atI_13, cut_9, cut_4, cut_5, List.drop_succ_cons, List.drop_zero, pw4, lg2, zfzL_strs, refsL_strs, ix_str, zsm, seqv, asKt, la1, stn, w_asgF, Ac_ins, putFs_nil, putFs_cons, putG, Nat.reduceLT,  zbools_map, zints_map, zints_int, zstrs_map, all_id, any_id, zsl, cut_1, cut_2, cut_3, cut_t1, cut_t2, cut_t3, cut_from, cut_to, cut_map, atI_map, atI_1, atI_2, atI_3, atI_4, atI_5, atI_6, atI_7, atI_8, nc0, nc1, nc2, nc3, nc4, nc5, nc6, drop_map', take_map', atI_neg1, c_eql, c_nel, Br_F, isL_lst, isL_str, isS_str, ds0, ds1, ds2, ds11, ds21, ds22, di0, w_augU, Ai_int, w_fzv, Av_z, refsL_ints, Wp_none, w_put, Ap_lst, mayW_int, mayW_str, mayW_bl, mayW_self, w_fzc, zfzL_ints, wipeE, List.getElem?_cons_zero, List.getElem?_cons_succ, List.set_cons_zero, List.set_cons_succ, Option.map_some, Option.bind_some, Option.map_none, startE, List.map_cons, List.map_nil, List.length_cons, List.length_nil, List.nil_append, List.cons_append, List.append_nil, List.reduceReplicate, Nat.reduceAdd, Nat.reduceSub, dr_int, dr_bl, dr_non, dr_str, dr_lst, dr_tup, dr_dic, dr_ins, dr_scr, zbf, zbf1, zbf2, zlen, zabs, zint, zlst, asKf, mkLf, mkLt, Bool.not_true, Bool.not_false, Bool.not_not, Bool.and_true, Bool.true_and, Bool.and_false, Bool.false_and, decide_eq_true_eq, decide_eq_false_iff_not, decide_true, decide_false, Bool.not_eq_true', eq_self_iff_true, not_false_eq_true, not_true_eq_false, Bool.false_eq_true, reduceCtorEq, if_true, if_false, ite_true, ite_false, Z.refs, refsL, List.all_nil, List.all_cons, List.take_length, isi_Wp, tyOf, isTy, List.any_cons, List.any_nil, Bool.or_false, Bool.false_or, Bool.or_true, Bool.true_or, String.reduceEq, String.reduceBEq, beq_self_eq_true, zfd_ins, getF, insM_ins, me_ok, Int.reduceLT, Int.reduceLE, Int.reduceEq, Int.reduceNeg, Int.reduceAdd, Int.reduceSub, Int.reduceMul, gt_iff_lt, ge_iff_le, and_true, true_and, and_self, and_false, false_and, implies_true, true_implies, Prod.mk.injEq, ne_eq, bne, evI, zipZ_self]
      · simp -dsimp only [ev.eq_1, ev.eq_2, ev.eq_3, ev.eq_4, ev.eq_5, ev.eq_6, ev.eq_7, ev.eq_8, ev.eq_9, ev.eq_10, ev.eq_11, ev.eq_12, ev.eq_13, ev.eq_14, ev.eq_15, ev.eq_16, ev.eq_19, ev.eq_20, ev.eq_21, ev.eq_22, ev.eq_23, ev.eq_24, ev.eq_25, ev.eq_26, ev.eq_28, ev.eq_29, ev.eq_30, ev.eq_31, ev.eq_32, evs.eq_1, evs.eq_2, evo.eq_1, evo.eq_2, evc.eq_1, evc.eq_2, rbind_ok, ↓Wp_ok, ↓Wp_bind, Wp_no, Wp_exn, calm_Wp, ↓Wp_ifno, ↓Wp_ite, Br_true, Br_false, Br_not, ofO_Wp, An_true, w_add, w_sub, w_mul, w_mod, w_fdiv, w_pow, w_strs, w_tups, w_lsts, c_lt, c_le, c_gt, c_ge, c_eqi, c_nei, c_eqs, c_nes, c_eqb, c_neb, c_isn, c_notn, nq_non, nq_int, nq_bl, nq_str, nq_lst, nq_tup, nq_ins, t_non, t_bl, t_int, t_lst, t_tup, ix_tup, ix_lst, ix_scr, atI_0, ↓Cn_nx, ↓Cn_bk, ↓Cn_ct, ↓Cn_rt, ↓w_nil, ↓w_cons, w_asg, w_ex, w_ret, w_retN, w_ife, w_ix, Rt_f, Rt_fn, Rt_t, Tn_nx, Tn_ct, Tn_bk, Tn_rt, bindT.eq_1, bindT.eq_2, bindT.eq_3, bindTs.eq_1, bindTs.eq_2, sa0, sa1, sa2, sa11, sa21, sa22, ss0, ss1, ss11, st0, st1, st2, w_append, atI_9, atI_10, atI_11, atI_12, atI_13, cut_9, cut_4, cut_5, List.drop_succ_cons, List.drop_zero, pw4, lg2, zfzL_strs, refsL_strs, ix_str, zsm, seqv, asKt, la1, stn, w_asgF, Ac_ins, putFs_nil, putFs_cons, putG, Nat.reduceLT,  zbools_map, zints_map, zints_int, zstrs_map, all_id, any_id, zsl, cut_1, cut_2, cut_3, cut_t1, cut_t2, cut_t3, cut_from, cut_to, cut_map, atI_map, atI_1, atI_2, atI_3, atI_4, atI_5, atI_6, atI_7, atI_8, nc0, nc1, nc2, nc3, nc4, nc5, nc6, drop_map', take_map', atI_neg1, c_eql, c_nel, Br_F, isL_lst, isL_str, isS_str, ds0, ds1, ds2, ds11, ds21, ds22, di0, w_augU, Ai_int, w_fzv, Av_z, refsL_ints, Wp_none, w_put, Ap_lst, mayW_int, mayW_str, mayW_bl, mayW_self, w_fzc, zfzL_ints, wipeE, List.getElem?_cons_zero, List.getElem?_cons_succ, List.set_cons_zero, List.set_cons_succ, Option.map_some, Option.bind_some, Option.map_none, startE, List.map_cons, List.map_nil, List.length_cons, List.length_nil, List.nil_append, List.cons_append, List.append_nil, List.reduceReplicate, Nat.reduceAdd, Nat.reduceSub, dr_int, dr_bl, dr_non, dr_str, dr_lst, dr_tup, dr_dic, dr_ins, dr_scr, zbf, zbf1, zbf2, zlen, zabs, zint, zlst, asKf, mkLf, mkLt, Bool.not_true, Bool.not_false, Bool.not_not, Bool.and_true, Bool.true_and, Bool.and_false, Bool.false_and, decide_eq_true_eq, decide_eq_false_iff_not, decide_true, decide_false, Bool.not_eq_true', eq_self_iff_true, not_false_eq_true, not_true_eq_false, Bool.false_eq_true, reduceCtorEq, if_true, if_false, ite_true, ite_false, Z.refs, refsL, List.all_nil, List.all_cons, List.take_length, isi_Wp, tyOf, isTy, List.any_cons, List.any_nil, Bool.or_false, Bool.false_or, Bool.or_true, Bool.true_or, String.reduceEq, String.reduceBEq, beq_self_eq_true, zfd_ins, getF, insM_ins, me_ok, Int.reduceLT, Int.reduceLE, Int.reduceEq, Int.reduceNeg, Int.reduceAdd, Int.reduceSub, Int.reduceMul, gt_iff_lt, ge_iff_le, and_true, true_and, and_self, and_false, false_and, implies_true, true_implies, Prod.mk.injEq, ne_eq, bne]
        exact Wp.of_eq (ih k st.length st x (hm x hx) (hdm x hx)) ⟨rfl, rfl⟩
      · simp -dsimp only [ev.eq_1, ev.eq_2, ev.eq_3, ev.eq_4, ev.eq_5, ev.eq_6, ev.eq_7, ev.eq_8, ev.eq_9, ev.eq_10, ev.eq_11, ev.eq_12, ev.eq_13, ev.eq_14, ev.eq_15, ev.eq_16, ev.eq_19, ev.eq_20, ev.eq_21, ev.eq_22, ev.eq_23, ev.eq_24, ev.eq_25, ev.eq_26, ev.eq_28, ev.eq_29, ev.eq_30, ev.eq_31, ev.eq_32, evs.eq_1, evs.eq_2, evo.eq_1, evo.eq_2, evc.eq_1, evc.eq_2, rbind_ok, ↓Wp_ok, ↓Wp_bind, Wp_no, Wp_exn, calm_Wp, ↓Wp_ifno, ↓Wp_ite, Br_true, Br_false, Br_not, ofO_Wp, An_true, w_add, w_sub, w_mul, w_mod, w_fdiv, w_pow, w_strs, w_tups, w_lsts, c_lt, c_le, c_gt, c_ge, c_eqi, c_nei, c_eqs, c_nes, c_eqb, c_neb, c_isn, c_notn, nq_non, nq_int, nq_bl, nq_str, nq_lst, nq_tup, nq_ins, t_non, t_bl, t_int, t_lst, t_tup, ix_tup, ix_lst, ix_scr, atI_0, ↓Cn_nx, ↓Cn_bk, ↓Cn_ct, ↓Cn_rt, ↓w_nil, ↓w_cons, w_asg, w_ex, w_ret, w_retN, w_ife, w_ix, Rt_f, Rt_fn, Rt_t, Tn_nx, Tn_ct, Tn_bk, Tn_rt, bindT.eq_1, bindT.eq_2, bindT.eq_3, bindTs.eq_1, bindTs.eq_2, sa0, sa1, sa2, sa11, sa21, sa22, ss0, ss1, ss11, st0, st1, st2, w_append, atI_9, atI_10, atI_11, atI_12, atI_13, cut_9, cut_4, cut_5, List.drop_succ_cons, List.drop_zero, pw4, lg2, zfzL_strs, refsL_strs, ix_str, zsm, seqv, asKt, la1, stn, w_asgF, Ac_ins, putFs_nil, putFs_cons, putG, Nat.reduceLT,  zbools_map, zints_map, zints_int, zstrs_map, all_id, any_id, zsl, cut_1, cut_2, cut_3, cut_t1, cut_t2, cut_t3, cut_from, cut_to, cut_map, atI_map, atI_1, atI_2, atI_3, atI_4, atI_5, atI_6, atI_7, atI_8, nc0, nc1, nc2, nc3, nc4, nc5, nc6, drop_map', take_map', atI_neg1, c_eql, c_nel, Br_F, isL_lst, isL_str, isS_str, ds0, ds1, ds2, ds11, ds21, ds22, di0, w_augU, Ai_int, w_fzv, Av_z, refsL_ints, Wp_none, w_put, Ap_lst, mayW_int, mayW_str, mayW_bl, mayW_self, w_fzc, zfzL_ints, wipeE, List.getElem?_cons_zero, List.getElem?_cons_succ, List.set_cons_zero, List.set_cons_succ, Option.map_some, Option.bind_some, Option.map_none, startE, List.map_cons, List.map_nil, List.length_cons, List.length_nil, List.nil_append, List.cons_append, List.append_nil, List.reduceReplicate, Nat.reduceAdd, Nat.reduceSub, dr_int, dr_bl, dr_non, dr_str, dr_lst, dr_tup, dr_dic, dr_ins, dr_scr, zbf, zbf1, zbf2, zlen, zabs, zint, zlst, asKf, mkLf, mkLt, Bool.not_true, Bool.not_false, Bool.not_not, Bool.and_true, Bool.true_and, Bool.and_false, Bool.false_and, decide_eq_true_eq, decide_eq_false_iff_not, decide_true, decide_false, Bool.not_eq_true', eq_self_iff_true, not_false_eq_true, not_true_eq_false, Bool.false_eq_true, reduceCtorEq, if_true, if_false, ite_true, ite_false, Z.refs, refsL, List.all_nil, List.all_cons, List.take_length, isi_Wp, tyOf, isTy, List.any_cons, List.any_nil, Bool.or_false, Bool.false_or, Bool.or_true, Bool.true_or, String.reduceEq, String.reduceBEq, beq_self_eq_true, zfd_ins, getF, insM_ins, me_ok, Int.reduceLT, Int.reduceLE, Int.reduceEq, Int.reduceNeg, Int.reduceAdd, Int.reduceSub, Int.reduceMul, gt_iff_lt, ge_iff_le, and_true, true_and, and_self, and_false, false_and, implies_true, true_implies, Prod.mk.injEq, ne_eq, bne]
        simp
    | dic _ _ => cases hz
    | ins _ _ _ => cases hz
    | scr _ => cases hz
    | cel _ => cases hz
theorem same_K {ps : List String} (h : tab "_law_same" = some (fnd ps 4 b__law_same false)) (hp : ps.length = 2) {K b : Nat} {st : Sto} {z : Z} (hz : z.pd = true) (hd : z.dep < K) : run tab gv N K "_law_same" [z, z] [] b st = .ok (.bl true) st := by
  have := same_eq (gv := gv) (N := N) h hp z.dep (K - z.dep - 1) b st z hz (Nat.le_refl _)
  rwa [show K - z.dep - 1 + z.dep + 1 = K by omega] at this
theorem flat_pd : ∀ {xs : List Z}, (xs.all Z.flat) = true → pdL xs = true ∧ depL xs = 0
  | [], _ => ⟨rfl, rfl⟩
  | x :: xs, h => by
    rw [List.all_cons, Bool.and_eq_true] at h
    obtain ⟨a, b⟩ := flat_pd h.2
    unfold pdL depL
    rw [a, b]
    cases x <;> first | exact ⟨rfl, rfl⟩ | cases h.1
theorem same_flat {ps : List String} (h : tab "_law_same" = some (fnd ps 4 b__law_same false)) (hp : ps.length = 2) {K b : Nat} {st : Sto} {xs : List Z} (hx : xs.all Z.flat = true) (hK : 1 < K) : run tab gv N K "_law_same" [.lst xs, .lst xs] [] b st = .ok (.bl true) st := by
  obtain ⟨a, c⟩ := flat_pd hx
  exact same_K h hp a (by show depL xs + 1 < K; omega)
theorem flat_ints {xs : List Int} : (xs.map Z.int).all Z.flat = true := by simp [Z.flat]
theorem same_cel {ps : List String} (h : tab "_law_same" = some (fnd ps 4 b__law_same false)) (hp : ps.length = 2) {K b n : Nat} {st : Sto} {xs : List Z} (hn : st[n]? = some (.lst xs)) (hz : pdL xs = true) (hd : depL xs + 1 < K) : run tab gv N K "_law_same" [.cel n, .lst xs] [] b st = .ok (.bl true) st := by
  obtain ⟨K, rfl⟩ : ∃ k, K = k + 1 := ⟨K - 1, by omega⟩
  refine Wp.eq (wp_fn h (by rw [hp]; rfl) ?_)
  unfold b__law_same
  have hm := pdL_mem hz
  have dn : dr st (.cel n) = .lst xs := dr_at hn
  simp -dsimp only [ev.eq_1, ev.eq_2, ev.eq_3, ev.eq_4, ev.eq_5, ev.eq_6, ev.eq_7, ev.eq_8, ev.eq_9, ev.eq_10, ev.eq_11, ev.eq_12, ev.eq_13, ev.eq_14, ev.eq_15, ev.eq_16, ev.eq_19, ev.eq_20, ev.eq_21, ev.eq_22, ev.eq_23, ev.eq_24, ev.eq_25, ev.eq_26, ev.eq_28, ev.eq_29, ev.eq_30, ev.eq_31, ev.eq_32, evs.eq_1, evs.eq_2, evo.eq_1, evo.eq_2, evc.eq_1, evc.eq_2, rbind_ok, ↓Wp_ok, ↓Wp_bind, Wp_no, Wp_exn, calm_Wp, ↓Wp_ifno, ↓Wp_ite, Br_true, Br_false, Br_not, ofO_Wp, An_true, w_add, w_sub, w_mul, w_mod, w_fdiv, w_pow, w_strs, w_tups, w_lsts, c_lt, c_le, c_gt, c_ge, c_eqi, c_nei, c_eqs, c_nes, c_eqb, c_neb, c_isn, c_notn, nq_non, nq_int, nq_bl, nq_str, nq_lst, nq_tup, nq_ins, t_non, t_bl, t_int, t_lst, t_tup, ix_tup, ix_lst, ix_scr, atI_0, ↓Cn_nx, ↓Cn_bk, ↓Cn_ct, ↓Cn_rt, ↓w_nil, ↓w_cons, w_asg, w_ex, w_ret, w_retN, w_ife, w_ix, Rt_f, Rt_fn, Rt_t, Tn_nx, Tn_ct, Tn_bk, Tn_rt, bindT.eq_1, bindT.eq_2, bindT.eq_3, bindTs.eq_1, bindTs.eq_2, sa0, sa1, sa2, sa11, sa21, sa22, ss0, ss1, ss11, st0, st1, st2, w_append, atI_9, atI_10, atI_11, atI_12, atI_13, cut_9, cut_4, cut_5, List.drop_succ_cons, List.drop_zero, pw4, lg2, zfzL_strs, refsL_strs, ix_str, zsm, seqv, asKt, la1, stn, w_asgF, Ac_ins, putFs_nil, putFs_cons, putG, Nat.reduceLT,  zbools_map, zints_map, zints_int, zstrs_map, all_id, any_id, zsl, cut_1, cut_2, cut_3, cut_t1, cut_t2, cut_t3, cut_from, cut_to, cut_map, atI_map, atI_1, atI_2, atI_3, atI_4, atI_5, atI_6, atI_7, atI_8, nc0, nc1, nc2, nc3, nc4, nc5, nc6, drop_map', take_map', atI_neg1, c_eql, c_nel, Br_F, isL_lst, isL_str, isS_str, ds0, ds1, ds2, ds11, ds21, ds22, di0, w_augU, Ai_int, w_fzv, Av_z, refsL_ints, Wp_none, w_put, Ap_lst, mayW_int, mayW_str, mayW_bl, mayW_self, w_fzc, zfzL_ints, wipeE, List.getElem?_cons_zero, List.getElem?_cons_succ, List.set_cons_zero, List.set_cons_succ, Option.map_some, Option.bind_some, Option.map_none, startE, List.map_cons, List.map_nil, List.length_cons, List.length_nil, List.nil_append, List.cons_append, List.append_nil, List.reduceReplicate, Nat.reduceAdd, Nat.reduceSub, dr_int, dr_bl, dr_non, dr_str, dr_lst, dr_tup, dr_dic, dr_ins, dr_scr, zbf, zbf1, zbf2, zlen, zabs, zint, zlst, asKf, mkLf, mkLt, Bool.not_true, Bool.not_false, Bool.not_not, Bool.and_true, Bool.true_and, Bool.and_false, Bool.false_and, decide_eq_true_eq, decide_eq_false_iff_not, decide_true, decide_false, Bool.not_eq_true', eq_self_iff_true, not_false_eq_true, not_true_eq_false, Bool.false_eq_true, reduceCtorEq, if_true, if_false, ite_true, ite_false, Z.refs, refsL, List.all_nil, List.all_cons, List.take_length, isi_Wp, tyOf, isTy, List.any_cons, List.any_nil, Bool.or_false, Bool.false_or, Bool.or_true, Bool.true_or, String.reduceEq, String.reduceBEq, beq_self_eq_true, zfd_ins, getF, insM_ins, me_ok, Int.reduceLT, Int.reduceLE, Int.reduceEq, Int.reduceNeg, Int.reduceAdd, Int.reduceSub, Int.reduceMul, gt_iff_lt, ge_iff_le, and_true, true_and, and_self, and_false, false_and, implies_true, true_implies, Prod.mk.injEq, ne_eq, bne, dn]
  refine wp_lcp (xs := xs) (fun x => .tup [x, x]) (fun _ => .bl true) (hs := [.cel n, .lst xs]) (st1 := st) ?_ (fun x hx => ⟨_, rfl, ?_⟩) ?_
  · simp -dsimp only [ev.eq_1, ev.eq_2, ev.eq_3, ev.eq_4, ev.eq_5, ev.eq_6, ev.eq_7, ev.eq_8, ev.eq_9, ev.eq_10, ev.eq_11, ev.eq_12, ev.eq_13, ev.eq_14, ev.eq_15, ev.eq_16, ev.eq_19, ev.eq_20, ev.eq_21, ev.eq_22, ev.eq_23, ev.eq_24, ev.eq_25, ev.eq_26, ev.eq_28, ev.eq_29, ev.eq_30, ev.eq_31, ev.eq_32, evs.eq_1, evs.eq_2, evo.eq_1, evo.eq_2, evc.eq_1, evc.eq_2, rbind_ok, ↓Wp_ok, ↓Wp_bind, Wp_no, Wp_exn, calm_Wp, ↓Wp_ifno, ↓Wp_ite, Br_true, Br_false, Br_not, ofO_Wp, An_true, w_add, w_sub, w_mul, w_mod, w_fdiv, w_pow, w_strs, w_tups, w_lsts, c_lt, c_le, c_gt, c_ge, c_eqi, c_nei, c_eqs, c_nes, c_eqb, c_neb, c_isn, c_notn, nq_non, nq_int, nq_bl, nq_str, nq_lst, nq_tup, nq_ins, t_non, t_bl, t_int, t_lst, t_tup, ix_tup, ix_lst, ix_scr, atI_0, ↓Cn_nx, ↓Cn_bk, ↓Cn_ct, ↓Cn_rt, ↓w_nil, ↓w_cons, w_asg, w_ex, w_ret, w_retN, w_ife, w_ix, Rt_f, Rt_fn, Rt_t, Tn_nx, Tn_ct, Tn_bk, Tn_rt, bindT.eq_1, bindT.eq_2, bindT.eq_3, bindTs.eq_1, bindTs.eq_2, sa0, sa1, sa2, sa11, sa21, sa22, ss0, ss1, ss11, st0, st1, st2, w_append, atI_9, atI_10, atI_11, atI_12, atI_13, cut_9, cut_4, cut_5, List.drop_succ_cons, List.drop_zero, pw4, lg2, zfzL_strs, refsL_strs, ix_str, zsm, seqv, asKt, la1, stn, w_asgF, Ac_ins, putFs_nil, putFs_cons, putG, Nat.reduceLT,  zbools_map, zints_map, zints_int, zstrs_map, all_id, any_id, zsl, cut_1, cut_2, cut_3, cut_t1, cut_t2, cut_t3, cut_from, cut_to, cut_map, atI_map, atI_1, atI_2, atI_3, atI_4, atI_5, atI_6, atI_7, atI_8, nc0, nc1, nc2, nc3, nc4, nc5, nc6, drop_map', take_map', atI_neg1, c_eql, c_nel, Br_F, isL_lst, isL_str, isS_str, ds0, ds1, ds2, ds11, ds21, ds22, di0, w_augU, Ai_int, w_fzv, Av_z, refsL_ints, Wp_none, w_put, Ap_lst, mayW_int, mayW_str, mayW_bl, mayW_self, w_fzc, zfzL_ints, wipeE, List.getElem?_cons_zero, List.getElem?_cons_succ, List.set_cons_zero, List.set_cons_succ, Option.map_some, Option.bind_some, Option.map_none, startE, List.map_cons, List.map_nil, List.length_cons, List.length_nil, List.nil_append, List.cons_append, List.append_nil, List.reduceReplicate, Nat.reduceAdd, Nat.reduceSub, dr_int, dr_bl, dr_non, dr_str, dr_lst, dr_tup, dr_dic, dr_ins, dr_scr, zbf, zbf1, zbf2, zlen, zabs, zint, zlst, asKf, mkLf, mkLt, Bool.not_true, Bool.not_false, Bool.not_not, Bool.and_true, Bool.true_and, Bool.and_false, Bool.false_and, decide_eq_true_eq, decide_eq_false_iff_not, decide_true, decide_false, Bool.not_eq_true', eq_self_iff_true, not_false_eq_true, not_true_eq_false, Bool.false_eq_true, reduceCtorEq, if_true, if_false, ite_true, ite_false, Z.refs, refsL, List.all_nil, List.all_cons, List.take_length, isi_Wp, tyOf, isTy, List.any_cons, List.any_nil, Bool.or_false, Bool.false_or, Bool.or_true, Bool.true_or, String.reduceEq, String.reduceBEq, beq_self_eq_true, zfd_ins, getF, insM_ins, me_ok, Int.reduceLT, Int.reduceLE, Int.reduceEq, Int.reduceNeg, Int.reduceAdd, Int.reduceSub, Int.reduceMul, gt_iff_lt, ge_iff_le, and_true, true_and, and_self, and_false, false_and, implies_true, true_implies, Prod.mk.injEq, ne_eq, bne, evI, zipZ_self, dn]
  · simp -dsimp only [ev.eq_1, ev.eq_2, ev.eq_3, ev.eq_4, ev.eq_5, ev.eq_6, ev.eq_7, ev.eq_8, ev.eq_9, ev.eq_10, ev.eq_11, ev.eq_12, ev.eq_13, ev.eq_14, ev.eq_15, ev.eq_16, ev.eq_19, ev.eq_20, ev.eq_21, ev.eq_22, ev.eq_23, ev.eq_24, ev.eq_25, ev.eq_26, ev.eq_28, ev.eq_29, ev.eq_30, ev.eq_31, ev.eq_32, evs.eq_1, evs.eq_2, evo.eq_1, evo.eq_2, evc.eq_1, evc.eq_2, rbind_ok, ↓Wp_ok, ↓Wp_bind, Wp_no, Wp_exn, calm_Wp, ↓Wp_ifno, ↓Wp_ite, Br_true, Br_false, Br_not, ofO_Wp, An_true, w_add, w_sub, w_mul, w_mod, w_fdiv, w_pow, w_strs, w_tups, w_lsts, c_lt, c_le, c_gt, c_ge, c_eqi, c_nei, c_eqs, c_nes, c_eqb, c_neb, c_isn, c_notn, nq_non, nq_int, nq_bl, nq_str, nq_lst, nq_tup, nq_ins, t_non, t_bl, t_int, t_lst, t_tup, ix_tup, ix_lst, ix_scr, atI_0, ↓Cn_nx, ↓Cn_bk, ↓Cn_ct, ↓Cn_rt, ↓w_nil, ↓w_cons, w_asg, w_ex, w_ret, w_retN, w_ife, w_ix, Rt_f, Rt_fn, Rt_t, Tn_nx, Tn_ct, Tn_bk, Tn_rt, bindT.eq_1, bindT.eq_2, bindT.eq_3, bindTs.eq_1, bindTs.eq_2, sa0, sa1, sa2, sa11, sa21, sa22, ss0, ss1, ss11, st0, st1, st2, w_append, atI_9, atI_10, atI_11, atI_12, atI_13, cut_9, cut_4, cut_5, List.drop_succ_cons, List.drop_zero, pw4, lg2, zfzL_strs, refsL_strs, ix_str, zsm, seqv, asKt, la1, stn, w_asgF, Ac_ins, putFs_nil, putFs_cons, putG, Nat.reduceLT,  zbools_map, zints_map, zints_int, zstrs_map, all_id, any_id, zsl, cut_1, cut_2, cut_3, cut_t1, cut_t2, cut_t3, cut_from, cut_to, cut_map, atI_map, atI_1, atI_2, atI_3, atI_4, atI_5, atI_6, atI_7, atI_8, nc0, nc1, nc2, nc3, nc4, nc5, nc6, drop_map', take_map', atI_neg1, c_eql, c_nel, Br_F, isL_lst, isL_str, isS_str, ds0, ds1, ds2, ds11, ds21, ds22, di0, w_augU, Ai_int, w_fzv, Av_z, refsL_ints, Wp_none, w_put, Ap_lst, mayW_int, mayW_str, mayW_bl, mayW_self, w_fzc, zfzL_ints, wipeE, List.getElem?_cons_zero, List.getElem?_cons_succ, List.set_cons_zero, List.set_cons_succ, Option.map_some, Option.bind_some, Option.map_none, startE, List.map_cons, List.map_nil, List.length_cons, List.length_nil, List.nil_append, List.cons_append, List.append_nil, List.reduceReplicate, Nat.reduceAdd, Nat.reduceSub, dr_int, dr_bl, dr_non, dr_str, dr_lst, dr_tup, dr_dic, dr_ins, dr_scr, zbf, zbf1, zbf2, zlen, zabs, zint, zlst, asKf, mkLf, mkLt, Bool.not_true, Bool.not_false, Bool.not_not, Bool.and_true, Bool.true_and, Bool.and_false, Bool.false_and, decide_eq_true_eq, decide_eq_false_iff_not, decide_true, decide_false, Bool.not_eq_true', eq_self_iff_true, not_false_eq_true, not_true_eq_false, Bool.false_eq_true, reduceCtorEq, if_true, if_false, ite_true, ite_false, Z.refs, refsL, List.all_nil, List.all_cons, List.take_length, isi_Wp, tyOf, isTy, List.any_cons, List.any_nil, Bool.or_false, Bool.false_or, Bool.or_true, Bool.true_or, String.reduceEq, String.reduceBEq, beq_self_eq_true, zfd_ins, getF, insM_ins, me_ok, Int.reduceLT, Int.reduceLE, Int.reduceEq, Int.reduceNeg, Int.reduceAdd, Int.reduceSub, Int.reduceMul, gt_iff_lt, ge_iff_le, and_true, true_and, and_self, and_false, false_and, implies_true, true_implies, Prod.mk.injEq, ne_eq, bne]
    have : x.dep ≤ depL xs := depL_mem x hx
    exact Wp.of_eq (same_K h hp (hm x hx) (by omega)) ⟨rfl, rfl⟩
  · simp -dsimp only [ev.eq_1, ev.eq_2, ev.eq_3, ev.eq_4, ev.eq_5, ev.eq_6, ev.eq_7, ev.eq_8, ev.eq_9, ev.eq_10, ev.eq_11, ev.eq_12, ev.eq_13, ev.eq_14, ev.eq_15, ev.eq_16, ev.eq_19, ev.eq_20, ev.eq_21, ev.eq_22, ev.eq_23, ev.eq_24, ev.eq_25, ev.eq_26, ev.eq_28, ev.eq_29, ev.eq_30, ev.eq_31, ev.eq_32, evs.eq_1, evs.eq_2, evo.eq_1, evo.eq_2, evc.eq_1, evc.eq_2, rbind_ok, ↓Wp_ok, ↓Wp_bind, Wp_no, Wp_exn, calm_Wp, ↓Wp_ifno, ↓Wp_ite, Br_true, Br_false, Br_not, ofO_Wp, An_true, w_add, w_sub, w_mul, w_mod, w_fdiv, w_pow, w_strs, w_tups, w_lsts, c_lt, c_le, c_gt, c_ge, c_eqi, c_nei, c_eqs, c_nes, c_eqb, c_neb, c_isn, c_notn, nq_non, nq_int, nq_bl, nq_str, nq_lst, nq_tup, nq_ins, t_non, t_bl, t_int, t_lst, t_tup, ix_tup, ix_lst, ix_scr, atI_0, ↓Cn_nx, ↓Cn_bk, ↓Cn_ct, ↓Cn_rt, ↓w_nil, ↓w_cons, w_asg, w_ex, w_ret, w_retN, w_ife, w_ix, Rt_f, Rt_fn, Rt_t, Tn_nx, Tn_ct, Tn_bk, Tn_rt, bindT.eq_1, bindT.eq_2, bindT.eq_3, bindTs.eq_1, bindTs.eq_2, sa0, sa1, sa2, sa11, sa21, sa22, ss0, ss1, ss11, st0, st1, st2, w_append, atI_9, atI_10, atI_11, atI_12, atI_13, cut_9, cut_4, cut_5, List.drop_succ_cons, List.drop_zero, pw4, lg2, zfzL_strs, refsL_strs, ix_str, zsm, seqv, asKt, la1, stn, w_asgF, Ac_ins, putFs_nil, putFs_cons, putG, Nat.reduceLT,  zbools_map, zints_map, zints_int, zstrs_map, all_id, any_id, zsl, cut_1, cut_2, cut_3, cut_t1, cut_t2, cut_t3, cut_from, cut_to, cut_map, atI_map, atI_1, atI_2, atI_3, atI_4, atI_5, atI_6, atI_7, atI_8, nc0, nc1, nc2, nc3, nc4, nc5, nc6, drop_map', take_map', atI_neg1, c_eql, c_nel, Br_F, isL_lst, isL_str, isS_str, ds0, ds1, ds2, ds11, ds21, ds22, di0, w_augU, Ai_int, w_fzv, Av_z, refsL_ints, Wp_none, w_put, Ap_lst, mayW_int, mayW_str, mayW_bl, mayW_self, w_fzc, zfzL_ints, wipeE, List.getElem?_cons_zero, List.getElem?_cons_succ, List.set_cons_zero, List.set_cons_succ, Option.map_some, Option.bind_some, Option.map_none, startE, List.map_cons, List.map_nil, List.length_cons, List.length_nil, List.nil_append, List.cons_append, List.append_nil, List.reduceReplicate, Nat.reduceAdd, Nat.reduceSub, dr_int, dr_bl, dr_non, dr_str, dr_lst, dr_tup, dr_dic, dr_ins, dr_scr, zbf, zbf1, zbf2, zlen, zabs, zint, zlst, asKf, mkLf, mkLt, Bool.not_true, Bool.not_false, Bool.not_not, Bool.and_true, Bool.true_and, Bool.and_false, Bool.false_and, decide_eq_true_eq, decide_eq_false_iff_not, decide_true, decide_false, Bool.not_eq_true', eq_self_iff_true, not_false_eq_true, not_true_eq_false, Bool.false_eq_true, reduceCtorEq, if_true, if_false, ite_true, ite_false, Z.refs, refsL, List.all_nil, List.all_cons, List.take_length, isi_Wp, tyOf, isTy, List.any_cons, List.any_nil, Bool.or_false, Bool.false_or, Bool.or_true, Bool.true_or, String.reduceEq, String.reduceBEq, beq_self_eq_true, zfd_ins, getF, insM_ins, me_ok, Int.reduceLT, Int.reduceLE, Int.reduceEq, Int.reduceNeg, Int.reduceAdd, Int.reduceSub, Int.reduceMul, gt_iff_lt, ge_iff_le, and_true, true_and, and_self, and_false, false_and, implies_true, true_implies, Prod.mk.injEq, ne_eq, bne]
    simp
end
end ZZ

end
section
set_option maxHeartbeats 2000000
/-! fractions -/
namespace ZZ
def b_common : List ZZ.S := [.wh (.cmp .ne (.v 1) (.n 0)) [.asg (.t (.tup [.v 0, .v 1])) (.tup [.v 1, .bin .mod (.v 0) (.v 1)])], .ret (some (.v 0))]
def b_part_of : List ZZ.S := [.asg (.t (.v 2)) (.call "common" [.v 1, .bf false .abs [.v 0]] [] []), .ret (some (.tup [.bin .fdiv (.v 0) (.v 2), .bin .fdiv (.v 1) (.v 2)]))]
section
variable {tab : String → Option FnD} {gv : String → Option Z} {N : Nat}
theorem common_eq {ps : List String} (h : tab "common" = some (fnd ps 2 b_common false)) (hp : ps.length = 2) {a b : Nat} (hN : b < N) {k bb : Nat} {st : Sto} : run tab gv N (k + 1) "common" [.int a, .int b] [] bb st = .ok (.int (Nat.gcd a b)) st := by
  refine Wp.eq (wp_fn h (by rw [hp]; rfl) ?_)
  unfold b_common
  simp -dsimp only [ev.eq_1, ev.eq_2, ev.eq_3, ev.eq_4, ev.eq_5, ev.eq_6, ev.eq_7, ev.eq_8, ev.eq_9, ev.eq_10, ev.eq_11, ev.eq_12, ev.eq_13, ev.eq_14, ev.eq_15, ev.eq_16, ev.eq_19, ev.eq_20, ev.eq_21, ev.eq_22, ev.eq_23, ev.eq_24, ev.eq_25, ev.eq_26, ev.eq_28, ev.eq_29, ev.eq_30, ev.eq_31, ev.eq_32, evs.eq_1, evs.eq_2, evo.eq_1, evo.eq_2, evc.eq_1, evc.eq_2, rbind_ok, ↓Wp_ok, ↓Wp_bind, Wp_no, Wp_exn, calm_Wp, ↓Wp_ifno, ↓Wp_ite, Br_true, Br_false, Br_not, ofO_Wp, An_true, w_add, w_sub, w_mul, w_mod, w_fdiv, w_pow, w_strs, w_tups, w_lsts, c_lt, c_le, c_gt, c_ge, c_eqi, c_nei, c_eqs, c_nes, c_eqb, c_neb, c_isn, c_notn, nq_non, nq_int, nq_bl, nq_str, nq_lst, nq_tup, nq_ins, t_non, t_bl, t_int, t_lst, t_tup, ix_tup, ix_lst, ix_scr, atI_0, ↓Cn_nx, ↓Cn_bk, ↓Cn_ct, ↓Cn_rt, ↓w_nil, ↓w_cons, w_asg, w_ex, w_ret, w_retN, w_ife, w_ix, Rt_f, Rt_fn, Rt_t, Tn_nx, Tn_ct, Tn_bk, Tn_rt, bindT.eq_1, bindT.eq_2, bindT.eq_3, bindTs.eq_1, bindTs.eq_2, sa0, sa1, sa2, sa11, sa21, sa22, ss0, ss1, ss11, st0, st1, st2, w_append, atI_9, atI_10, atI_11, atI_12, atI_13, cut_9, cut_4, cut_5, List.drop_succ_cons, List.drop_zero, pw4, lg2, zfzL_strs, refsL_strs, ix_str, zsm, seqv, asKt, la1, stn, w_asgF, Ac_ins, putFs_nil, putFs_cons, putG, Nat.reduceLT,  zbools_map, zints_map, zints_int, zstrs_map, all_id, any_id, zsl, cut_1, cut_2, cut_3, cut_t1, cut_t2, cut_t3, cut_from, cut_to, cut_map, atI_map, atI_1, atI_2, atI_3, atI_4, atI_5, atI_6, atI_7, atI_8, nc0, nc1, nc2, nc3, nc4, nc5, nc6, drop_map', take_map', atI_neg1, c_eql, c_nel, Br_F, isL_lst, isL_str, isS_str, ds0, ds1, ds2, ds11, ds21, ds22, di0, w_augU, Ai_int, w_fzv, Av_z, refsL_ints, Wp_none, w_put, Ap_lst, mayW_int, mayW_str, mayW_bl, mayW_self, w_fzc, zfzL_ints, wipeE, List.getElem?_cons_zero, List.getElem?_cons_succ, List.set_cons_zero, List.set_cons_succ, Option.map_some, Option.bind_some, Option.map_none, startE, List.map_cons, List.map_nil, List.length_cons, List.length_nil, List.nil_append, List.cons_append, List.append_nil, List.reduceReplicate, Nat.reduceAdd, Nat.reduceSub, dr_int, dr_bl, dr_non, dr_str, dr_lst, dr_tup, dr_dic, dr_ins, dr_scr, zbf, zbf1, zbf2, zlen, zabs, zint, zlst, asKf, mkLf, mkLt, Bool.not_true, Bool.not_false, Bool.not_not, Bool.and_true, Bool.true_and, Bool.and_false, Bool.false_and, decide_eq_true_eq, decide_eq_false_iff_not, decide_true, decide_false, Bool.not_eq_true', eq_self_iff_true, not_false_eq_true, not_true_eq_false, Bool.false_eq_true, reduceCtorEq, if_true, if_false, ite_true, ite_false, Z.refs, refsL, List.all_nil, List.all_cons, List.take_length, isi_Wp, tyOf, isTy, List.any_cons, List.any_nil, Bool.or_false, Bool.false_or, Bool.or_true, Bool.true_or, String.reduceEq, String.reduceBEq, beq_self_eq_true, zfd_ins, getF, insM_ins, me_ok, Int.reduceLT, Int.reduceLE, Int.reduceEq, Int.reduceNeg, Int.reduceAdd, Int.reduceSub, Int.reduceMul, gt_iff_lt, ge_iff_le, and_true, true_and, and_self, and_false, false_and, implies_true, true_implies, Prod.mk.injEq, ne_eq, bne]
  refine wp_while (fun j e s => s = st ∧ ∃ x : Nat, e = [some (.int x), some (.int (j : Int))] ∧ Nat.gcd x j = Nat.gcd a b) b hN ⟨rfl, a, rfl, rfl⟩ ?_
  rintro j e s ⟨rfl, x, rfl, hg⟩
  simp -dsimp only [ev.eq_1, ev.eq_2, ev.eq_3, ev.eq_4, ev.eq_5, ev.eq_6, ev.eq_7, ev.eq_8, ev.eq_9, ev.eq_10, ev.eq_11, ev.eq_12, ev.eq_13, ev.eq_14, ev.eq_15, ev.eq_16, ev.eq_19, ev.eq_20, ev.eq_21, ev.eq_22, ev.eq_23, ev.eq_24, ev.eq_25, ev.eq_26, ev.eq_28, ev.eq_29, ev.eq_30, ev.eq_31, ev.eq_32, evs.eq_1, evs.eq_2, evo.eq_1, evo.eq_2, evc.eq_1, evc.eq_2, rbind_ok, ↓Wp_ok, ↓Wp_bind, Wp_no, Wp_exn, calm_Wp, ↓Wp_ifno, ↓Wp_ite, Br_true, Br_false, Br_not, ofO_Wp, An_true, w_add, w_sub, w_mul, w_mod, w_fdiv, w_pow, w_strs, w_tups, w_lsts, c_lt, c_le, c_gt, c_ge, c_eqi, c_nei, c_eqs, c_nes, c_eqb, c_neb, c_isn, c_notn, nq_non, nq_int, nq_bl, nq_str, nq_lst, nq_tup, nq_ins, t_non, t_bl, t_int, t_lst, t_tup, ix_tup, ix_lst, ix_scr, atI_0, ↓Cn_nx, ↓Cn_bk, ↓Cn_ct, ↓Cn_rt, ↓w_nil, ↓w_cons, w_asg, w_ex, w_ret, w_retN, w_ife, w_ix, Rt_f, Rt_fn, Rt_t, Tn_nx, Tn_ct, Tn_bk, Tn_rt, bindT.eq_1, bindT.eq_2, bindT.eq_3, bindTs.eq_1, bindTs.eq_2, sa0, sa1, sa2, sa11, sa21, sa22, ss0, ss1, ss11, st0, st1, st2, w_append, atI_9, atI_10, atI_11, atI_12, atI_13, cut_9, cut_4, cut_5, List.drop_succ_cons, List.drop_zero, pw4, lg2, zfzL_strs, refsL_strs, ix_str, zsm, seqv, asKt, la1, stn, w_asgF, Ac_ins, putFs_nil, putFs_cons, putG, Nat.reduceLT,  zbools_map, zints_map, zints_int, zstrs_map, all_id, any_id, zsl, cut_1, cut_2, cut_3, cut_t1, cut_t2, cut_t3, cut_from, cut_to, cut_map, atI_map, atI_1, atI_2, atI_3, atI_4, atI_5, atI_6, atI_7, atI_8, nc0, nc1, nc2, nc3, nc4, nc5, nc6, drop_map', take_map', atI_neg1, c_eql, c_nel, Br_F, isL_lst, isL_str, isS_str, ds0, ds1, ds2, ds11, ds21, ds22, di0, w_augU, Ai_int, w_fzv, Av_z, refsL_ints, Wp_none, w_put, Ap_lst, mayW_int, mayW_str, mayW_bl, mayW_self, w_fzc, zfzL_ints, wipeE, List.getElem?_cons_zero, List.getElem?_cons_succ, List.set_cons_zero, List.set_cons_succ, Option.map_some, Option.bind_some, Option.map_none, startE, List.map_cons, List.map_nil, List.length_cons, List.length_nil, List.nil_append, List.cons_append, List.append_nil, List.reduceReplicate, Nat.reduceAdd, Nat.reduceSub, dr_int, dr_bl, dr_non, dr_str, dr_lst, dr_tup, dr_dic, dr_ins, dr_scr, zbf, zbf1, zbf2, zlen, zabs, zint, zlst, asKf, mkLf, mkLt, Bool.not_true, Bool.not_false, Bool.not_not, Bool.and_true, Bool.true_and, Bool.and_false, Bool.false_and, decide_eq_true_eq, decide_eq_false_iff_not, decide_true, decide_false, Bool.not_eq_true', eq_self_iff_true, not_false_eq_true, not_true_eq_false, Bool.false_eq_true, reduceCtorEq, if_true, if_false, ite_true, ite_false, Z.refs, refsL, List.all_nil, List.all_cons, List.take_length, isi_Wp, tyOf, isTy, List.any_cons, List.any_nil, Bool.or_false, Bool.false_or, Bool.or_true, Bool.true_or, String.reduceEq, String.reduceBEq, beq_self_eq_true, zfd_ins, getF, insM_ins, me_ok, Int.reduceLT, Int.reduceLE, Int.reduceEq, Int.reduceNeg, Int.reduceAdd, Int.reduceSub, Int.reduceMul, gt_iff_lt, ge_iff_le, and_true, true_and, and_self, and_false, false_and, implies_true, true_implies, Prod.mk.injEq, ne_eq, bne]
  refine Br.mk' (fun hj => ?_) (fun hj => ?_)
  · have j0 : j = 0 := by omega
    subst j0
    rw [Nat.gcd_zero_right] at hg
    simp -dsimp only [ev.eq_1, ev.eq_2, ev.eq_3, ev.eq_4, ev.eq_5, ev.eq_6, ev.eq_7, ev.eq_8, ev.eq_9, ev.eq_10, ev.eq_11, ev.eq_12, ev.eq_13, ev.eq_14, ev.eq_15, ev.eq_16, ev.eq_19, ev.eq_20, ev.eq_21, ev.eq_22, ev.eq_23, ev.eq_24, ev.eq_25, ev.eq_26, ev.eq_28, ev.eq_29, ev.eq_30, ev.eq_31, ev.eq_32, evs.eq_1, evs.eq_2, evo.eq_1, evo.eq_2, evc.eq_1, evc.eq_2, rbind_ok, ↓Wp_ok, ↓Wp_bind, Wp_no, Wp_exn, calm_Wp, ↓Wp_ifno, ↓Wp_ite, Br_true, Br_false, Br_not, ofO_Wp, An_true, w_add, w_sub, w_mul, w_mod, w_fdiv, w_pow, w_strs, w_tups, w_lsts, c_lt, c_le, c_gt, c_ge, c_eqi, c_nei, c_eqs, c_nes, c_eqb, c_neb, c_isn, c_notn, nq_non, nq_int, nq_bl, nq_str, nq_lst, nq_tup, nq_ins, t_non, t_bl, t_int, t_lst, t_tup, ix_tup, ix_lst, ix_scr, atI_0, ↓Cn_nx, ↓Cn_bk, ↓Cn_ct, ↓Cn_rt, ↓w_nil, ↓w_cons, w_asg, w_ex, w_ret, w_retN, w_ife, w_ix, Rt_f, Rt_fn, Rt_t, Tn_nx, Tn_ct, Tn_bk, Tn_rt, bindT.eq_1, bindT.eq_2, bindT.eq_3, bindTs.eq_1, bindTs.eq_2, sa0, sa1, sa2, sa11, sa21, sa22, ss0, ss1, ss11, st0, st1, st2, w_append, atI_9, atI_10, atI_11, atI_12, atI_13, cut_9, cut_4, cut_5, List.drop_succ_cons, List.drop_zero, pw4, lg2, zfzL_strs, refsL_strs, ix_str, zsm, seqv, asKt, la1, stn, w_asgF, Ac_ins, putFs_nil, putFs_cons, putG, Nat.reduceLT,  zbools_map, zints_map, zints_int, zstrs_map, all_id, any_id, zsl, cut_1, cut_2, cut_3, cut_t1, cut_t2, cut_t3, cut_from, cut_to, cut_map, atI_map, atI_1, atI_2, atI_3, atI_4, atI_5, atI_6, atI_7, atI_8, nc0, nc1, nc2, nc3, nc4, nc5, nc6, drop_map', take_map', atI_neg1, c_eql, c_nel, Br_F, isL_lst, isL_str, isS_str, ds0, ds1, ds2, ds11, ds21, ds22, di0, w_augU, Ai_int, w_fzv, Av_z, refsL_ints, Wp_none, w_put, Ap_lst, mayW_int, mayW_str, mayW_bl, mayW_self, w_fzc, zfzL_ints, wipeE, List.getElem?_cons_zero, List.getElem?_cons_succ, List.set_cons_zero, List.set_cons_succ, Option.map_some, Option.bind_some, Option.map_none, startE, List.map_cons, List.map_nil, List.length_cons, List.length_nil, List.nil_append, List.cons_append, List.append_nil, List.reduceReplicate, Nat.reduceAdd, Nat.reduceSub, dr_int, dr_bl, dr_non, dr_str, dr_lst, dr_tup, dr_dic, dr_ins, dr_scr, zbf, zbf1, zbf2, zlen, zabs, zint, zlst, asKf, mkLf, mkLt, Bool.not_true, Bool.not_false, Bool.not_not, Bool.and_true, Bool.true_and, Bool.and_false, Bool.false_and, decide_eq_true_eq, decide_eq_false_iff_not, decide_true, decide_false, Bool.not_eq_true', eq_self_iff_true, not_false_eq_true, not_true_eq_false, Bool.false_eq_true, reduceCtorEq, if_true, if_false, ite_true, ite_false, Z.refs, refsL, List.all_nil, List.all_cons, List.take_length, isi_Wp, tyOf, isTy, List.any_cons, List.any_nil, Bool.or_false, Bool.false_or, Bool.or_true, Bool.true_or, String.reduceEq, String.reduceBEq, beq_self_eq_true, zfd_ins, getF, insM_ins, me_ok, Int.reduceLT, Int.reduceLE, Int.reduceEq, Int.reduceNeg, Int.reduceAdd, Int.reduceSub, Int.reduceMul, gt_iff_lt, ge_iff_le, and_true, true_and, and_self, and_false, false_and, implies_true, true_implies, Prod.mk.injEq, ne_eq, bne]
    exact congrArg (fun n : Nat => Z.int n) hg
  · have j0 : 0 < j := by omega
    refine ⟨j0, ?_⟩
    simp -dsimp only [ev.eq_1, ev.eq_2, ev.eq_3, ev.eq_4, ev.eq_5, ev.eq_6, ev.eq_7, ev.eq_8, ev.eq_9, ev.eq_10, ev.eq_11, ev.eq_12, ev.eq_13, ev.eq_14, ev.eq_15, ev.eq_16, ev.eq_19, ev.eq_20, ev.eq_21, ev.eq_22, ev.eq_23, ev.eq_24, ev.eq_25, ev.eq_26, ev.eq_28, ev.eq_29, ev.eq_30, ev.eq_31, ev.eq_32, evs.eq_1, evs.eq_2, evo.eq_1, evo.eq_2, evc.eq_1, evc.eq_2, rbind_ok, ↓Wp_ok, ↓Wp_bind, Wp_no, Wp_exn, calm_Wp, ↓Wp_ifno, ↓Wp_ite, Br_true, Br_false, Br_not, ofO_Wp, An_true, w_add, w_sub, w_mul, w_mod, w_fdiv, w_pow, w_strs, w_tups, w_lsts, c_lt, c_le, c_gt, c_ge, c_eqi, c_nei, c_eqs, c_nes, c_eqb, c_neb, c_isn, c_notn, nq_non, nq_int, nq_bl, nq_str, nq_lst, nq_tup, nq_ins, t_non, t_bl, t_int, t_lst, t_tup, ix_tup, ix_lst, ix_scr, atI_0, ↓Cn_nx, ↓Cn_bk, ↓Cn_ct, ↓Cn_rt, ↓w_nil, ↓w_cons, w_asg, w_ex, w_ret, w_retN, w_ife, w_ix, Rt_f, Rt_fn, Rt_t, Tn_nx, Tn_ct, Tn_bk, Tn_rt, bindT.eq_1, bindT.eq_2, bindT.eq_3, bindTs.eq_1, bindTs.eq_2, sa0, sa1, sa2, sa11, sa21, sa22, ss0, ss1, ss11, st0, st1, st2, w_append, atI_9, atI_10, atI_11, atI_12, atI_13, cut_9, cut_4, cut_5, List.drop_succ_cons, List.drop_zero, pw4, lg2, zfzL_strs, refsL_strs, ix_str, zsm, seqv, asKt, la1, stn, w_asgF, Ac_ins, putFs_nil, putFs_cons, putG, Nat.reduceLT,  zbools_map, zints_map, zints_int, zstrs_map, all_id, any_id, zsl, cut_1, cut_2, cut_3, cut_t1, cut_t2, cut_t3, cut_from, cut_to, cut_map, atI_map, atI_1, atI_2, atI_3, atI_4, atI_5, atI_6, atI_7, atI_8, nc0, nc1, nc2, nc3, nc4, nc5, nc6, drop_map', take_map', atI_neg1, c_eql, c_nel, Br_F, isL_lst, isL_str, isS_str, ds0, ds1, ds2, ds11, ds21, ds22, di0, w_augU, Ai_int, w_fzv, Av_z, refsL_ints, Wp_none, w_put, Ap_lst, mayW_int, mayW_str, mayW_bl, mayW_self, w_fzc, zfzL_ints, wipeE, List.getElem?_cons_zero, List.getElem?_cons_succ, List.set_cons_zero, List.set_cons_succ, Option.map_some, Option.bind_some, Option.map_none, startE, List.map_cons, List.map_nil, List.length_cons, List.length_nil, List.nil_append, List.cons_append, List.append_nil, List.reduceReplicate, Nat.reduceAdd, Nat.reduceSub, dr_int, dr_bl, dr_non, dr_str, dr_lst, dr_tup, dr_dic, dr_ins, dr_scr, zbf, zbf1, zbf2, zlen, zabs, zint, zlst, asKf, mkLf, mkLt, Bool.not_true, Bool.not_false, Bool.not_not, Bool.and_true, Bool.true_and, Bool.and_false, Bool.false_and, decide_eq_true_eq, decide_eq_false_iff_not, decide_true, decide_false, Bool.not_eq_true', eq_self_iff_true, not_false_eq_true, not_true_eq_false, Bool.false_eq_true, reduceCtorEq, if_true, if_false, ite_true, ite_false, Z.refs, refsL, List.all_nil, List.all_cons, List.take_length, isi_Wp, tyOf, isTy, List.any_cons, List.any_nil, Bool.or_false, Bool.false_or, Bool.or_true, Bool.true_or, String.reduceEq, String.reduceBEq, beq_self_eq_true, zfd_ins, getF, insM_ins, me_ok, Int.reduceLT, Int.reduceLE, Int.reduceEq, Int.reduceNeg, Int.reduceAdd, Int.reduceSub, Int.reduceMul, gt_iff_lt, ge_iff_le, and_true, true_and, and_self, and_false, false_and, implies_true, true_implies, Prod.mk.injEq, ne_eq, bne, show (0 : Int) < j by omega]
    refine ⟨x % j, Nat.mod_lt _ j0, j, ?_, ?_⟩
    · rw [Int.natCast_emod]
    · rw [← hg, Nat.gcd_comm x j, Nat.gcd_rec j x, Nat.gcd_comm]
end
/-- in lowest terms -/
def lowN (n p : Int) : Int × Int := (n / (Nat.gcd p.natAbs n.natAbs : Nat), p / (Nat.gcd p.natAbs n.natAbs : Nat))
theorem dvd_up {g : Nat} {z : Int} (h : g ∣ z.natAbs) : (g : Int) ∣ z := Int.natAbs_dvd_natAbs.mp (by simpa using h)
theorem low_pos {n p : Int} (hp : 0 < p) : 0 < (lowN n p).2 ∧ (lowN n p).2 ≤ p ∧ (lowN n p).1 * p = n * (lowN n p).2 := by
  have g0 : 0 < Nat.gcd p.natAbs n.natAbs := Nat.gcd_pos_of_pos_left _ (by omega)
  obtain ⟨c, hc⟩ : ((Nat.gcd p.natAbs n.natAbs : Nat) : Int) ∣ p := dvd_up (Nat.gcd_dvd_left p.natAbs n.natAbs)
  obtain ⟨d, hd⟩ : ((Nat.gcd p.natAbs n.natAbs : Nat) : Int) ∣ n := dvd_up (Nat.gcd_dvd_right p.natAbs n.natAbs)
  unfold lowN
  generalize Nat.gcd p.natAbs n.natAbs = g at *
  have g1 : (0 : Int) < g := by omega
  subst hc hd
  simp only [Int.mul_ediv_cancel_left _ (Int.ne_of_gt g1)]
  have c0 : 0 < c := by
    by_cases h : 0 < c
    · exact h
    · have h : c ≤ 0 := by omega
      have := Int.mul_nonpos_of_nonneg_of_nonpos (Int.le_of_lt g1) h
      omega
  refine ⟨c0, ?_, ?_⟩
  · have := Int.mul_le_mul_of_nonneg_right (show (1 : Int) ≤ g by omega) (Int.le_of_lt c0)
    omega
  · rw [Int.mul_left_comm, Int.mul_assoc]
theorem low_scale {n p k : Int} (hk : 0 < k) : lowN (n * k) (p * k) = lowN n p := by
  have e : Nat.gcd (p * k).natAbs (n * k).natAbs = Nat.gcd p.natAbs n.natAbs * k.natAbs := by rw [Int.natAbs_mul, Int.natAbs_mul, Nat.gcd_mul_right]
  have e2 : ((Nat.gcd p.natAbs n.natAbs * k.natAbs : Nat) : Int) = (Nat.gcd p.natAbs n.natAbs : Nat) * k := by rw [Int.natCast_mul, Int.natAbs_of_nonneg (Int.le_of_lt hk)]
  unfold lowN
  rw [e, e2, Int.mul_ediv_mul_of_pos_left _ _ hk, Int.mul_ediv_mul_of_pos_left _ _ hk]
theorem low_eq {n p m q : Int} (hp : 0 < p) (hq : 0 < q) (h : n * q = m * p) : lowN n p = lowN m q := by
  rw [← low_scale (n := n) (p := p) hq, ← low_scale (n := m) (p := q) hp, h, Int.mul_comm p q]
def zfr (p : Int × Int) : Z := .tup [.int p.1, .int p.2]
section
variable {tab : String → Option FnD} {gv : String → Option Z} {N : Nat}
theorem gcd_small {n p : Int} (hp : 0 < p) (h : p < 2 ^ 8999) : (0 : Int) < (Nat.gcd p.natAbs n.natAbs : Nat) ∧ ((Nat.gcd p.natAbs n.natAbs : Nat) : Int).natAbs.log2 < 9000 := by
  have g0 : 0 < Nat.gcd p.natAbs n.natAbs := Nat.gcd_pos_of_pos_left _ (by omega)
  have g1 : Nat.gcd p.natAbs n.natAbs ≤ p.natAbs := Nat.le_of_dvd (by omega) (Nat.gcd_dvd_left _ _)
  refine ⟨by omega, ?_⟩
  rw [Int.natAbs_natCast]
  refine Nat.lt_trans ((Nat.log2_lt (by omega)).mpr (show Nat.gcd p.natAbs n.natAbs < 2 ^ 8999 from ?_)) (by omega)
  have : p.natAbs < 2 ^ 8999 := by
    have h2 : (p.natAbs : Int) < ((2 ^ 8999 : Nat) : Int) := by rw [Int.natAbs_of_nonneg (Int.le_of_lt hp)]; exact_mod_cast h
    exact Int.ofNat_lt.mp h2
  exact Nat.lt_of_le_of_lt g1 this
theorem part_of_eq (hc : ∃ q1 q2, tab "common" = some (fnd [q1, q2] 2 b_common false)) {p1 p2 : String} (h : tab "part_of" = some (fnd [p1, p2] 3 b_part_of false)) {n p : Int} (hp : 0 < p) (hp2 : p < 2 ^ 8999) (hn : n.natAbs < N) {k b : Nat} {st : Sto} {zs : List Z} {ks : List String} (hb : bindZ (fnd [p1, p2] 3 b_part_of false) zs ks = some [.int n, .int p]) : run tab gv N (k + 2) "part_of" zs ks b st = .ok (zfr (lowN n p)) st := by
  refine Wp.eq (wp_run h hb ?_)
  obtain ⟨q1, q2, hc⟩ := hc
  have e : run tab gv N (k + 1) "common" [.int p, .int (if n < 0 then -n else n)] [] st.length st = .ok (.int (Nat.gcd p.natAbs n.natAbs : Nat)) st := by
    have := common_eq (gv := gv) hc rfl (a := p.natAbs) (b := n.natAbs) hn (k := k) (bb := st.length) (st := st)
    rw [show ((p.natAbs : Nat) : Int) = p by omega, show ((n.natAbs : Nat) : Int) = (if n < 0 then -n else n) by split <;> omega] at this
    exact this
  unfold fnd b_part_of
  simp -dsimp only [ev.eq_1, ev.eq_2, ev.eq_3, ev.eq_4, ev.eq_5, ev.eq_6, ev.eq_7, ev.eq_8, ev.eq_9, ev.eq_10, ev.eq_11, ev.eq_12, ev.eq_13, ev.eq_14, ev.eq_15, ev.eq_16, ev.eq_19, ev.eq_20, ev.eq_21, ev.eq_22, ev.eq_23, ev.eq_24, ev.eq_25, ev.eq_26, ev.eq_28, ev.eq_29, ev.eq_30, ev.eq_31, ev.eq_32, evs.eq_1, evs.eq_2, evo.eq_1, evo.eq_2, evc.eq_1, evc.eq_2, rbind_ok, ↓Wp_ok, ↓Wp_bind, Wp_no, Wp_exn, calm_Wp, ↓Wp_ifno, ↓Wp_ite, Br_true, Br_false, Br_not, ofO_Wp, An_true, w_add, w_sub, w_mul, w_mod, w_fdiv, w_pow, w_strs, w_tups, w_lsts, c_lt, c_le, c_gt, c_ge, c_eqi, c_nei, c_eqs, c_nes, c_eqb, c_neb, c_isn, c_notn, nq_non, nq_int, nq_bl, nq_str, nq_lst, nq_tup, nq_ins, t_non, t_bl, t_int, t_lst, t_tup, ix_tup, ix_lst, ix_scr, atI_0, ↓Cn_nx, ↓Cn_bk, ↓Cn_ct, ↓Cn_rt, ↓w_nil, ↓w_cons, w_asg, w_ex, w_ret, w_retN, w_ife, w_ix, Rt_f, Rt_fn, Rt_t, Tn_nx, Tn_ct, Tn_bk, Tn_rt, bindT.eq_1, bindT.eq_2, bindT.eq_3, bindTs.eq_1, bindTs.eq_2, sa0, sa1, sa2, sa11, sa21, sa22, ss0, ss1, ss11, st0, st1, st2, w_append, atI_9, atI_10, atI_11, atI_12, atI_13, cut_9, cut_4, cut_5, List.drop_succ_cons, List.drop_zero, pw4, lg2, zfzL_strs, refsL_strs, ix_str, zsm, seqv, asKt, la1, stn, w_asgF, Ac_ins, putFs_nil, putFs_cons, putG, Nat.reduceLT,  zbools_map, zints_map, zints_int, zstrs_map, all_id, any_id, zsl, cut_1, cut_2, cut_3, cut_t1, cut_t2, cut_t3, cut_from, cut_to, cut_map, atI_map, atI_1, atI_2, atI_3, atI_4, atI_5, atI_6, atI_7, atI_8, nc0, nc1, nc2, nc3, nc4, nc5, nc6, drop_map', take_map', atI_neg1, c_eql, c_nel, Br_F, isL_lst, isL_str, isS_str, ds0, ds1, ds2, ds11, ds21, ds22, di0, w_augU, Ai_int, w_fzv, Av_z, refsL_ints, Wp_none, w_put, Ap_lst, mayW_int, mayW_str, mayW_bl, mayW_self, w_fzc, zfzL_ints, wipeE, List.getElem?_cons_zero, List.getElem?_cons_succ, List.set_cons_zero, List.set_cons_succ, Option.map_some, Option.bind_some, Option.map_none, startE, List.map_cons, List.map_nil, List.length_cons, List.length_nil, List.nil_append, List.cons_append, List.append_nil, List.reduceReplicate, Nat.reduceAdd, Nat.reduceSub, dr_int, dr_bl, dr_non, dr_str, dr_lst, dr_tup, dr_dic, dr_ins, dr_scr, zbf, zbf1, zbf2, zlen, zabs, zint, zlst, asKf, mkLf, mkLt, Bool.not_true, Bool.not_false, Bool.not_not, Bool.and_true, Bool.true_and, Bool.and_false, Bool.false_and, decide_eq_true_eq, decide_eq_false_iff_not, decide_true, decide_false, Bool.not_eq_true', eq_self_iff_true, not_false_eq_true, not_true_eq_false, Bool.false_eq_true, reduceCtorEq, if_true, if_false, ite_true, ite_false, Z.refs, refsL, List.all_nil, List.all_cons, List.take_length, isi_Wp, tyOf, isTy, List.any_cons, List.any_nil, Bool.or_false, Bool.false_or, Bool.or_true, Bool.true_or, String.reduceEq, String.reduceBEq, beq_self_eq_true, zfd_ins, getF, insM_ins, me_ok, Int.reduceLT, Int.reduceLE, Int.reduceEq, Int.reduceNeg, Int.reduceAdd, Int.reduceSub, Int.reduceMul, gt_iff_lt, ge_iff_le, and_true, true_and, and_self, and_false, false_and, implies_true, true_implies, Prod.mk.injEq, ne_eq, bne, e, gcd_small hp hp2, zfr, lowN]
end
end ZZ

end
section
set_option maxHeartbeats 2000000
/-! sums of fractions, plainly -/
namespace ZZ
def addF (t x : Int × Int) : Int × Int := lowN (t.1 * x.2 + x.1 * t.2) (t.2 * x.2)
def sumF (l : List (Int × Int)) : Int × Int := l.foldl addF (0, 1)
def wF : List (Int × Int) → Int
  | [] => 1
  | x :: l => x.2 * wF l
def aF (l : List (Int × Int)) : Int := (l.map fun x => x.1 * (wF l / x.2)).sum
theorem wF_pos : ∀ {l : List (Int × Int)}, (∀ x ∈ l, 0 < x.2) → 0 < wF l
  | [], _ => by decide
  | x :: l, h => Int.mul_pos (h x (by simp)) (wF_pos fun y hy => h y (by simp [hy]))
theorem wF_dvd : ∀ {l : List (Int × Int)}, ∀ x ∈ l, x.2 ∣ wF l
  | x :: l, y, hy => by
    rcases List.mem_cons.mp hy with rfl | hy
    · exact Int.dvd_mul_right _ _
    · exact Int.dvd_trans (wF_dvd y hy) (Int.dvd_mul_left _ _)
theorem aF_cons {x : Int × Int} {l : List (Int × Int)} (h : ∀ y ∈ x :: l, 0 < y.2) : aF (x :: l) = x.1 * wF l + x.2 * aF l := by
  have hx := h x (by simp)
  unfold aF
  rw [List.map_cons, List.sum_cons]
  congr 1
  · rw [wF, Int.mul_ediv_cancel_left _ (Int.ne_of_gt hx)]
  · have : ∀ m : List (Int × Int), (∀ y ∈ m, y ∈ l) → (m.map fun y => y.1 * (wF (x :: l) / y.2)).sum = x.2 * (m.map fun y => y.1 * (wF l / y.2)).sum := by
      intro m
      induction m with
      | nil => intro _; simp
      | cons y m ih =>
        intro hm
        rw [List.map_cons, List.sum_cons, List.map_cons, List.sum_cons, ih fun z hz => hm z (by simp [hz]), Int.mul_add]
        congr 1
        obtain ⟨c, hc⟩ := wF_dvd (l := l) y (hm y (by simp))
        have hy := h y (by simp [hm y (by simp)])
        rw [wF, hc, show x.2 * (y.2 * c) = y.2 * (x.2 * c) by rw [Int.mul_left_comm], Int.mul_ediv_cancel_left _ (Int.ne_of_gt hy), Int.mul_ediv_cancel_left _ (Int.ne_of_gt hy), Int.mul_left_comm]
    exact this l fun _ h => h
theorem low_low {n p : Int} (hp : 0 < p) : lowN (lowN n p).1 (lowN n p).2 = lowN n p := by
  obtain ⟨h1, _, h3⟩ := low_pos (n := n) hp
  exact low_eq h1 hp h3
theorem fold_low : ∀ {l : List (Int × Int)} {t : Int × Int}, (∀ y ∈ l, 0 < y.2) → 0 < t.2 → lowN t.1 t.2 = t → l.foldl addF t = lowN (t.1 * wF l + aF l * t.2) (t.2 * wF l)
  | [], t, _, _, h => by
    show t = _
    simp [wF, aF, h]
  | x :: l, t, hl, ht, _ => by
    have hx := hl x (by simp)
    have hl' : ∀ y ∈ l, 0 < y.2 := fun y hy => hl y (by simp [hy])
    have hq := Int.mul_pos ht hx
    obtain ⟨h1, _, h3⟩ := low_pos (n := t.1 * x.2 + x.1 * t.2) hq
    rw [List.foldl_cons, fold_low hl' (show 0 < (addF t x).2 from h1) (low_low hq)]
    refine low_eq (Int.mul_pos h1 (wF_pos hl')) (Int.mul_pos ht (wF_pos hl)) ?_
    rw [aF_cons hl, wF]
    show ((addF t x).1 * wF l + aF l * (addF t x).2) * (t.2 * (x.2 * wF l)) = _
    have h3 : (addF t x).1 * (t.2 * x.2) = (t.1 * x.2 + x.1 * t.2) * (addF t x).2 := h3
    generalize (addF t x).1 = u at *
    generalize (addF t x).2 = v at *
    generalize wF l = w
    generalize aF l = a
    have e : (u * w + a * v) * (t.2 * (x.2 * w)) = (u * (t.2 * x.2)) * (w * w) + a * v * (t.2 * (x.2 * w)) := by
      rw [Int.add_mul]
      congr 1
      simp only [Int.mul_assoc, Int.mul_comm, Int.mul_left_comm]
    rw [e, h3]
    simp only [Int.add_mul, Int.mul_add, Int.mul_assoc, Int.mul_comm, Int.mul_left_comm]
    omega
theorem sumF_eq {l : List (Int × Int)} (h : ∀ y ∈ l, 0 < y.2) : sumF l = lowN (aF l) (wF l) := by
  unfold sumF
  rw [fold_low h (by decide) (by decide)]
  simp
theorem wF_perm {l m : List (Int × Int)} (h : l.Perm m) : wF l = wF m := by
  induction h with
  | nil => rfl
  | cons x _ ih => rw [wF, wF, ih]
  | swap x y l => rw [wF, wF, wF, wF, Int.mul_left_comm]
  | trans _ _ a b => exact a.trans b
theorem sum_perm {l m : List Int} (h : l.Perm m) : l.sum = m.sum := by
  induction h with
  | nil => rfl
  | cons x _ ih => rw [List.sum_cons, List.sum_cons, ih]
  | swap x y l => simp only [List.sum_cons]; omega
  | trans _ _ a b => exact a.trans b
theorem aF_perm {l m : List (Int × Int)} (h : l.Perm m) : aF l = aF m := by
  unfold aF
  rw [wF_perm h]
  exact sum_perm (h.map _)
end ZZ

end
section
set_option maxHeartbeats 2000000
/-! fractions: the walks -/
namespace ZZ
theorem bd_mul {a b : Int} {i j : Nat} (ha : a.natAbs < 2 ^ i) (hb : b.natAbs < 2 ^ j) : (a * b).natAbs < 2 ^ (i + j) := by
  rw [Int.natAbs_mul, Nat.pow_add]
  exact Nat.mul_lt_mul'' ha hb
theorem bd_add {a b : Int} {i : Nat} (ha : a.natAbs < 2 ^ i) (hb : b.natAbs < 2 ^ i) : (a + b).natAbs < 2 ^ (i + 1) := by
  have := Int.natAbs_add_le a b
  rw [Nat.pow_succ]
  omega
theorem bd_mono {a : Int} {i j : Nat} (h : a.natAbs < 2 ^ i) (hij : i ≤ j) : a.natAbs < 2 ^ j := Nat.lt_of_lt_of_le h (Nat.pow_le_pow_right (by omega) hij)
theorem bd_neg {a : Int} {i : Nat} (h : a.natAbs < 2 ^ i) : (-a).natAbs < 2 ^ i := by rw [Int.natAbs_neg]; exact h
theorem bd_mulOk {a b : Int} {i j : Nat} (ha : a.natAbs < 2 ^ i) (hb : b.natAbs < 2 ^ j) (h : i + j < 1000000) : mulOk a b = true := by
  have l : ∀ (c : Int) (i : Nat), c.natAbs < 2 ^ i → c.natAbs.log2 ≤ i := fun c i hc => by
    by_cases h0 : c.natAbs = 0
    · rw [h0]; simp
    · exact Nat.le_of_lt ((Nat.log2_lt h0).mpr hc)
  have l1 := l a i ha
  have l2 := l b j hb
  unfold mulOk
  simp
  omega
theorem bd_low {n p : Int} {i : Nat} (hp : 0 < p) (hn : n.natAbs < 2 ^ i) (hpi : p.natAbs < 2 ^ i) : (lowN n p).1.natAbs < 2 ^ i ∧ (lowN n p).2.natAbs < 2 ^ i := by
  obtain ⟨h1, h2, _⟩ := low_pos (n := n) hp
  refine ⟨?_, by omega⟩
  unfold lowN
  rw [Int.natAbs_ediv_of_dvd (dvd_up (Nat.gcd_dvd_right p.natAbs n.natAbs))]
  exact Nat.lt_of_le_of_lt (Nat.div_le_self _ _) hn
/-- a fraction of some size -/
def Fr (x : Int × Int) : Prop := x.1.natAbs < 2 ^ 100 ∧ 0 < x.2 ∧ x.2.natAbs < 2 ^ 100
theorem up_nat {p : Int} {i : Nat} (h : p.natAbs < 2 ^ i) (hi : i ≤ 8999) : p < 2 ^ 8999 := by
  have h1 := bd_mono h hi
  have h2 : (p.natAbs : Int) < ((2 ^ 8999 : Nat) : Int) := Int.ofNat_lt.mpr h1
  have h3 : ((2 ^ 8999 : Nat) : Int) = (2 : Int) ^ 8999 := Int.natCast_pow 2 8999
  rw [h3] at h2
  omega
def b_sum_of : List ZZ.S := [.asg (.t (.v 1)) (.g "NOUGHT"), .fo (.tup [.v 2, .v 3]) (.e (.v 0)) [.asg (.t (.v 1)) (.call "part_of" [.bin .add (.bin .mul (.ix (.v 1) (.n 0)) (.v 3)) (.bin .mul (.v 2) (.ix (.v 1) (.n 1))), .bin .mul (.ix (.v 1) (.n 1)) (.v 3)] [] [])], .ret (some (.v 1))]
def b_less_of : List ZZ.S := [.ret (some (.call "part_of" [.bin .sub (.bin .mul (.ix (.v 0) (.n 0)) (.ix (.v 1) (.n 1))) (.bin .mul (.ix (.v 1) (.n 0)) (.ix (.v 0) (.n 1))), .bin .mul (.ix (.v 0) (.n 1)) (.ix (.v 1) (.n 1))] [] []))]
def b_is_below : List ZZ.S := [.ret (some (.cmp .lt (.bin .mul (.ix (.v 0) (.n 0)) (.ix (.v 1) (.n 1))) (.bin .mul (.ix (.v 1) (.n 0)) (.ix (.v 0) (.n 1)))))]
structure TabF (tab : String → Option FnD) (gv : String → Option Z) (N : Nat) : Prop where
  common : ∃ q1 q2, tab "common" = some (fnd [q1, q2] 2 b_common false)
  part_of : tab "part_of" = some (fnd ["number", "parts"] 3 b_part_of false)
  sum_of : tab "sum_of" = some (fnd ["some"] 4 b_sum_of false)
  less_of : tab "less_of" = some (fnd ["one", "other"] 2 b_less_of false)
  is_below : tab "is_below" = some (fnd ["one", "other"] 2 b_is_below false)
  nought : gv "NOUGHT" = some (zfr (0, 1))
  big : 2 ^ 8999 ≤ N
section
variable {tab : String → Option FnD} {gv : String → Option Z} {N : Nat}
theorem part_eq (T : TabF tab gv N) {n p : Int} {i : Nat} (hp : 0 < p) (hp2 : p.natAbs < 2 ^ i) (hn : n.natAbs < 2 ^ i) (hi : i ≤ 8999) {k b : Nat} {st : Sto} {zs : List Z} {ks : List String} (hb : bindZ (fnd ["number", "parts"] 3 b_part_of false) zs ks = some [.int n, .int p]) : run tab gv N (k + 2) "part_of" zs ks b st = .ok (zfr (lowN n p)) st :=
  part_of_eq T.common T.part_of hp (up_nat hp2 hi) (Nat.lt_of_lt_of_le (bd_mono hn hi) T.big) hb
theorem refs_zfr {x : Int × Int} : (zfr x).refs = [] := rfl
theorem sum_of_eq (T : TabF tab gv N) {l : List (Int × Int)} (hl : ∀ x ∈ l, Fr x) (h16 : l.length ≤ 16) {k b : Nat} {st : Sto} {z : Z} {ks : List String} {zs : List Z} (hz : z = .lst (l.map zfr) ∨ z = .tup (l.map zfr)) (hb : bindZ (fnd ["some"] 4 b_sum_of false) zs ks = some [z]) : run tab gv N (k + 3) "sum_of" zs ks b st = .ok (zfr (sumF l)) st := by
  refine Wp.eq (wp_run T.sum_of hb ?_)
  unfold fnd b_sum_of
  simp -dsimp only [ev.eq_1, ev.eq_2, ev.eq_3, ev.eq_4, ev.eq_5, ev.eq_6, ev.eq_7, ev.eq_8, ev.eq_9, ev.eq_10, ev.eq_11, ev.eq_12, ev.eq_13, ev.eq_14, ev.eq_15, ev.eq_16, ev.eq_19, ev.eq_20, ev.eq_21, ev.eq_22, ev.eq_23, ev.eq_24, ev.eq_25, ev.eq_26, ev.eq_28, ev.eq_29, ev.eq_30, ev.eq_31, ev.eq_32, evs.eq_1, evs.eq_2, evo.eq_1, evo.eq_2, evc.eq_1, evc.eq_2, rbind_ok, ↓Wp_ok, ↓Wp_bind, Wp_no, Wp_exn, calm_Wp, ↓Wp_ifno, ↓Wp_ite, Br_true, Br_false, Br_not, ofO_Wp, An_true, w_add, w_sub, w_mul, w_mod, w_fdiv, w_pow, w_strs, w_tups, w_lsts, c_lt, c_le, c_gt, c_ge, c_eqi, c_nei, c_eqs, c_nes, c_eqb, c_neb, c_isn, c_notn, nq_non, nq_int, nq_bl, nq_str, nq_lst, nq_tup, nq_ins, t_non, t_bl, t_int, t_lst, t_tup, ix_tup, ix_lst, ix_scr, atI_0, ↓Cn_nx, ↓Cn_bk, ↓Cn_ct, ↓Cn_rt, ↓w_nil, ↓w_cons, w_asg, w_ex, w_ret, w_retN, w_ife, w_ix, Rt_f, Rt_fn, Rt_t, Tn_nx, Tn_ct, Tn_bk, Tn_rt, bindT.eq_1, bindT.eq_2, bindT.eq_3, bindTs.eq_1, bindTs.eq_2, sa0, sa1, sa2, sa11, sa21, sa22, ss0, ss1, ss11, st0, st1, st2, w_append, atI_9, atI_10, atI_11, atI_12, atI_13, cut_9, cut_4, cut_5, List.drop_succ_cons, List.drop_zero, pw4, lg2, zfzL_strs, refsL_strs, ix_str, zsm, seqv, asKt, la1, stn, w_asgF, Ac_ins, putFs_nil, putFs_cons, putG, Nat.reduceLT,  zbools_map, zints_map, zints_int, zstrs_map, all_id, any_id, zsl, cut_1, cut_2, cut_3, cut_t1, cut_t2, cut_t3, cut_from, cut_to, cut_map, atI_map, atI_1, atI_2, atI_3, atI_4, atI_5, atI_6, atI_7, atI_8, nc0, nc1, nc2, nc3, nc4, nc5, nc6, drop_map', take_map', atI_neg1, c_eql, c_nel, Br_F, isL_lst, isL_str, isS_str, ds0, ds1, ds2, ds11, ds21, ds22, di0, w_augU, Ai_int, w_fzv, Av_z, refsL_ints, Wp_none, w_put, Ap_lst, mayW_int, mayW_str, mayW_bl, mayW_self, w_fzc, zfzL_ints, wipeE, List.getElem?_cons_zero, List.getElem?_cons_succ, List.set_cons_zero, List.set_cons_succ, Option.map_some, Option.bind_some, Option.map_none, startE, List.map_cons, List.map_nil, List.length_cons, List.length_nil, List.nil_append, List.cons_append, List.append_nil, List.reduceReplicate, Nat.reduceAdd, Nat.reduceSub, dr_int, dr_bl, dr_non, dr_str, dr_lst, dr_tup, dr_dic, dr_ins, dr_scr, zbf, zbf1, zbf2, zlen, zabs, zint, zlst, asKf, mkLf, mkLt, Bool.not_true, Bool.not_false, Bool.not_not, Bool.and_true, Bool.true_and, Bool.and_false, Bool.false_and, decide_eq_true_eq, decide_eq_false_iff_not, decide_true, decide_false, Bool.not_eq_true', eq_self_iff_true, not_false_eq_true, not_true_eq_false, Bool.false_eq_true, reduceCtorEq, if_true, if_false, ite_true, ite_false, Z.refs, refsL, List.all_nil, List.all_cons, List.take_length, isi_Wp, tyOf, isTy, List.any_cons, List.any_nil, Bool.or_false, Bool.false_or, Bool.or_true, Bool.true_or, String.reduceEq, String.reduceBEq, beq_self_eq_true, zfd_ins, getF, insM_ins, me_ok, Int.reduceLT, Int.reduceLE, Int.reduceEq, Int.reduceNeg, Int.reduceAdd, Int.reduceSub, Int.reduceMul, gt_iff_lt, ge_iff_le, and_true, true_and, and_self, and_false, false_and, implies_true, true_implies, Prod.mk.injEq, ne_eq, bne, T.nought]
  refine wp_fo (zs := l.map zfr) (hs := [z]) (st1 := st) (fun j e s => s = st ∧ ∃ t e2 e3, e = [some z, some (zfr t), e2, e3] ∧ t = (l.take j).foldl addF (0, 1) ∧ 0 < t.2 ∧ t.1.natAbs < 2 ^ (110 * (j + 1)) ∧ t.2.natAbs < 2 ^ (110 * (j + 1))) ?_ ⟨rfl, (0, 1), _, _, rfl, by simp, by decide, by decide, by decide⟩ ?_ ?_
  · rcases hz with rfl | rfl <;> simp -dsimp only [ev.eq_1, ev.eq_2, ev.eq_3, ev.eq_4, ev.eq_5, ev.eq_6, ev.eq_7, ev.eq_8, ev.eq_9, ev.eq_10, ev.eq_11, ev.eq_12, ev.eq_13, ev.eq_14, ev.eq_15, ev.eq_16, ev.eq_19, ev.eq_20, ev.eq_21, ev.eq_22, ev.eq_23, ev.eq_24, ev.eq_25, ev.eq_26, ev.eq_28, ev.eq_29, ev.eq_30, ev.eq_31, ev.eq_32, evs.eq_1, evs.eq_2, evo.eq_1, evo.eq_2, evc.eq_1, evc.eq_2, rbind_ok, ↓Wp_ok, ↓Wp_bind, Wp_no, Wp_exn, calm_Wp, ↓Wp_ifno, ↓Wp_ite, Br_true, Br_false, Br_not, ofO_Wp, An_true, w_add, w_sub, w_mul, w_mod, w_fdiv, w_pow, w_strs, w_tups, w_lsts, c_lt, c_le, c_gt, c_ge, c_eqi, c_nei, c_eqs, c_nes, c_eqb, c_neb, c_isn, c_notn, nq_non, nq_int, nq_bl, nq_str, nq_lst, nq_tup, nq_ins, t_non, t_bl, t_int, t_lst, t_tup, ix_tup, ix_lst, ix_scr, atI_0, ↓Cn_nx, ↓Cn_bk, ↓Cn_ct, ↓Cn_rt, ↓w_nil, ↓w_cons, w_asg, w_ex, w_ret, w_retN, w_ife, w_ix, Rt_f, Rt_fn, Rt_t, Tn_nx, Tn_ct, Tn_bk, Tn_rt, bindT.eq_1, bindT.eq_2, bindT.eq_3, bindTs.eq_1, bindTs.eq_2, sa0, sa1, sa2, sa11, sa21, sa22, ss0, ss1, ss11, st0, st1, st2, w_append, atI_9, atI_10, atI_11, atI_12, atI_13, cut_9, cut_4, cut_5, List.drop_succ_cons, List.drop_zero, pw4, lg2, zfzL_strs, refsL_strs, ix_str, zsm, seqv, asKt, la1, stn, w_asgF, Ac_ins, putFs_nil, putFs_cons, putG, Nat.reduceLT,  zbools_map, zints_map, zints_int, zstrs_map, all_id, any_id, zsl, cut_1, cut_2, cut_3, cut_t1, cut_t2, cut_t3, cut_from, cut_to, cut_map, atI_map, atI_1, atI_2, atI_3, atI_4, atI_5, atI_6, atI_7, atI_8, nc0, nc1, nc2, nc3, nc4, nc5, nc6, drop_map', take_map', atI_neg1, c_eql, c_nel, Br_F, isL_lst, isL_str, isS_str, ds0, ds1, ds2, ds11, ds21, ds22, di0, w_augU, Ai_int, w_fzv, Av_z, refsL_ints, Wp_none, w_put, Ap_lst, mayW_int, mayW_str, mayW_bl, mayW_self, w_fzc, zfzL_ints, wipeE, List.getElem?_cons_zero, List.getElem?_cons_succ, List.set_cons_zero, List.set_cons_succ, Option.map_some, Option.bind_some, Option.map_none, startE, List.map_cons, List.map_nil, List.length_cons, List.length_nil, List.nil_append, List.cons_append, List.append_nil, List.reduceReplicate, Nat.reduceAdd, Nat.reduceSub, dr_int, dr_bl, dr_non, dr_str, dr_lst, dr_tup, dr_dic, dr_ins, dr_scr, zbf, zbf1, zbf2, zlen, zabs, zint, zlst, asKf, mkLf, mkLt, Bool.not_true, Bool.not_false, Bool.not_not, Bool.and_true, Bool.true_and, Bool.and_false, Bool.false_and, decide_eq_true_eq, decide_eq_false_iff_not, decide_true, decide_false, Bool.not_eq_true', eq_self_iff_true, not_false_eq_true, not_true_eq_false, Bool.false_eq_true, reduceCtorEq, if_true, if_false, ite_true, ite_false, Z.refs, refsL, List.all_nil, List.all_cons, List.take_length, isi_Wp, tyOf, isTy, List.any_cons, List.any_nil, Bool.or_false, Bool.false_or, Bool.or_true, Bool.true_or, String.reduceEq, String.reduceBEq, beq_self_eq_true, zfd_ins, getF, insM_ins, me_ok, Int.reduceLT, Int.reduceLE, Int.reduceEq, Int.reduceNeg, Int.reduceAdd, Int.reduceSub, Int.reduceMul, gt_iff_lt, ge_iff_le, and_true, true_and, and_self, and_false, false_and, implies_true, true_implies, Prod.mk.injEq, ne_eq, bne, evI]
  · rintro j hj e s ⟨rfl, t, e2, e3, rfl, ht, t0, t1, t2⟩
    have hj' : j < l.length := by simpa using hj
    have hx := hl l[j] (List.getElem_mem hj')
    rw [List.getElem_map]
    have htk : l.take (j + 1) = l.take j ++ [l[j]] := (List.take_append_getElem hj').symm
    generalize l[j] = x at hx htk
    obtain ⟨x1, x2⟩ := x
    obtain ⟨f1, f2, f3⟩ := hx
    have b1 := bd_mul t1 f3
    have b2 := bd_mul f1 t2
    have b3 := bd_mul t2 f3
    rw [Nat.add_comm 100] at b2
    have b4 := bd_add b1 b2
    have hi : 110 * (j + 1) + 100 + 1 ≤ 110 * (j + 1 + 1) := by omega
    have hi2 : 110 * (j + 1 + 1) ≤ 8999 := by omega
    refine ⟨stays_self, _, rfl, ?_⟩
    unfold zfr at *
    simp -dsimp only [ev.eq_1, ev.eq_2, ev.eq_3, ev.eq_4, ev.eq_5, ev.eq_6, ev.eq_7, ev.eq_8, ev.eq_9, ev.eq_10, ev.eq_11, ev.eq_12, ev.eq_13, ev.eq_14, ev.eq_15, ev.eq_16, ev.eq_19, ev.eq_20, ev.eq_21, ev.eq_22, ev.eq_23, ev.eq_24, ev.eq_25, ev.eq_26, ev.eq_28, ev.eq_29, ev.eq_30, ev.eq_31, ev.eq_32, evs.eq_1, evs.eq_2, evo.eq_1, evo.eq_2, evc.eq_1, evc.eq_2, rbind_ok, ↓Wp_ok, ↓Wp_bind, Wp_no, Wp_exn, calm_Wp, ↓Wp_ifno, ↓Wp_ite, Br_true, Br_false, Br_not, ofO_Wp, An_true, w_add, w_sub, w_mul, w_mod, w_fdiv, w_pow, w_strs, w_tups, w_lsts, c_lt, c_le, c_gt, c_ge, c_eqi, c_nei, c_eqs, c_nes, c_eqb, c_neb, c_isn, c_notn, nq_non, nq_int, nq_bl, nq_str, nq_lst, nq_tup, nq_ins, t_non, t_bl, t_int, t_lst, t_tup, ix_tup, ix_lst, ix_scr, atI_0, ↓Cn_nx, ↓Cn_bk, ↓Cn_ct, ↓Cn_rt, ↓w_nil, ↓w_cons, w_asg, w_ex, w_ret, w_retN, w_ife, w_ix, Rt_f, Rt_fn, Rt_t, Tn_nx, Tn_ct, Tn_bk, Tn_rt, bindT.eq_1, bindT.eq_2, bindT.eq_3, bindTs.eq_1, bindTs.eq_2, sa0, sa1, sa2, sa11, sa21, sa22, ss0, ss1, ss11, st0, st1, st2, w_append, atI_9, atI_10, atI_11, atI_12, atI_13, cut_9, cut_4, cut_5, List.drop_succ_cons, List.drop_zero, pw4, lg2, zfzL_strs, refsL_strs, ix_str, zsm, seqv, asKt, la1, stn, w_asgF, Ac_ins, putFs_nil, putFs_cons, putG, Nat.reduceLT,  zbools_map, zints_map, zints_int, zstrs_map, all_id, any_id, zsl, cut_1, cut_2, cut_3, cut_t1, cut_t2, cut_t3, cut_from, cut_to, cut_map, atI_map, atI_1, atI_2, atI_3, atI_4, atI_5, atI_6, atI_7, atI_8, nc0, nc1, nc2, nc3, nc4, nc5, nc6, drop_map', take_map', atI_neg1, c_eql, c_nel, Br_F, isL_lst, isL_str, isS_str, ds0, ds1, ds2, ds11, ds21, ds22, di0, w_augU, Ai_int, w_fzv, Av_z, refsL_ints, Wp_none, w_put, Ap_lst, mayW_int, mayW_str, mayW_bl, mayW_self, w_fzc, zfzL_ints, wipeE, List.getElem?_cons_zero, List.getElem?_cons_succ, List.set_cons_zero, List.set_cons_succ, Option.map_some, Option.bind_some, Option.map_none, startE, List.map_cons, List.map_nil, List.length_cons, List.length_nil, List.nil_append, List.cons_append, List.append_nil, List.reduceReplicate, Nat.reduceAdd, Nat.reduceSub, dr_int, dr_bl, dr_non, dr_str, dr_lst, dr_tup, dr_dic, dr_ins, dr_scr, zbf, zbf1, zbf2, zlen, zabs, zint, zlst, asKf, mkLf, mkLt, Bool.not_true, Bool.not_false, Bool.not_not, Bool.and_true, Bool.true_and, Bool.and_false, Bool.false_and, decide_eq_true_eq, decide_eq_false_iff_not, decide_true, decide_false, Bool.not_eq_true', eq_self_iff_true, not_false_eq_true, not_true_eq_false, Bool.false_eq_true, reduceCtorEq, if_true, if_false, ite_true, ite_false, Z.refs, refsL, List.all_nil, List.all_cons, List.take_length, isi_Wp, tyOf, isTy, List.any_cons, List.any_nil, Bool.or_false, Bool.false_or, Bool.or_true, Bool.true_or, String.reduceEq, String.reduceBEq, beq_self_eq_true, zfd_ins, getF, insM_ins, me_ok, Int.reduceLT, Int.reduceLE, Int.reduceEq, Int.reduceNeg, Int.reduceAdd, Int.reduceSub, Int.reduceMul, gt_iff_lt, ge_iff_le, and_true, true_and, and_self, and_false, false_and, implies_true, true_implies, Prod.mk.injEq, ne_eq, bne, bd_mulOk t1 f3 (by omega), bd_mulOk f1 t2 (by omega), bd_mulOk t2 f3 (by omega), part_eq T (Int.mul_pos t0 f2) (bd_mono b3 (by omega)) (bd_mono b4 hi) hi2 (zs := [.int (t.1 * x2 + x1 * t.2), .int (t.2 * x2)]) (ks := []) rfl]
    have hb := bd_low (Int.mul_pos t0 f2) (bd_mono b4 hi) (bd_mono b3 (by omega : _ ≤ 110 * (j + 1 + 1)))
    refine ⟨_, _, _, rfl, ?_, (low_pos (Int.mul_pos t0 f2)).1, hb.1, hb.2⟩
    rw [htk, List.foldl_append, ← ht]
    rfl
  · rintro e s ⟨rfl, t, e2, e3, rfl, ht, t0, t1, t2⟩
    refine ⟨stays_self, ?_⟩
    rw [List.length_map, List.take_length] at ht
    subst ht
    simp -dsimp only [ev.eq_1, ev.eq_2, ev.eq_3, ev.eq_4, ev.eq_5, ev.eq_6, ev.eq_7, ev.eq_8, ev.eq_9, ev.eq_10, ev.eq_11, ev.eq_12, ev.eq_13, ev.eq_14, ev.eq_15, ev.eq_16, ev.eq_19, ev.eq_20, ev.eq_21, ev.eq_22, ev.eq_23, ev.eq_24, ev.eq_25, ev.eq_26, ev.eq_28, ev.eq_29, ev.eq_30, ev.eq_31, ev.eq_32, evs.eq_1, evs.eq_2, evo.eq_1, evo.eq_2, evc.eq_1, evc.eq_2, rbind_ok, ↓Wp_ok, ↓Wp_bind, Wp_no, Wp_exn, calm_Wp, ↓Wp_ifno, ↓Wp_ite, Br_true, Br_false, Br_not, ofO_Wp, An_true, w_add, w_sub, w_mul, w_mod, w_fdiv, w_pow, w_strs, w_tups, w_lsts, c_lt, c_le, c_gt, c_ge, c_eqi, c_nei, c_eqs, c_nes, c_eqb, c_neb, c_isn, c_notn, nq_non, nq_int, nq_bl, nq_str, nq_lst, nq_tup, nq_ins, t_non, t_bl, t_int, t_lst, t_tup, ix_tup, ix_lst, ix_scr, atI_0, ↓Cn_nx, ↓Cn_bk, ↓Cn_ct, ↓Cn_rt, ↓w_nil, ↓w_cons, w_asg, w_ex, w_ret, w_retN, w_ife, w_ix, Rt_f, Rt_fn, Rt_t, Tn_nx, Tn_ct, Tn_bk, Tn_rt, bindT.eq_1, bindT.eq_2, bindT.eq_3, bindTs.eq_1, bindTs.eq_2, sa0, sa1, sa2, sa11, sa21, sa22, ss0, ss1, ss11, st0, st1, st2, w_append, atI_9, atI_10, atI_11, atI_12, atI_13, cut_9, cut_4, cut_5, List.drop_succ_cons, List.drop_zero, pw4, lg2, zfzL_strs, refsL_strs, ix_str, zsm, seqv, asKt, la1, stn, w_asgF, Ac_ins, putFs_nil, putFs_cons, putG, Nat.reduceLT,  zbools_map, zints_map, zints_int, zstrs_map, all_id, any_id, zsl, cut_1, cut_2, cut_3, cut_t1, cut_t2, cut_t3, cut_from, cut_to, cut_map, atI_map, atI_1, atI_2, atI_3, atI_4, atI_5, atI_6, atI_7, atI_8, nc0, nc1, nc2, nc3, nc4, nc5, nc6, drop_map', take_map', atI_neg1, c_eql, c_nel, Br_F, isL_lst, isL_str, isS_str, ds0, ds1, ds2, ds11, ds21, ds22, di0, w_augU, Ai_int, w_fzv, Av_z, refsL_ints, Wp_none, w_put, Ap_lst, mayW_int, mayW_str, mayW_bl, mayW_self, w_fzc, zfzL_ints, wipeE, List.getElem?_cons_zero, List.getElem?_cons_succ, List.set_cons_zero, List.set_cons_succ, Option.map_some, Option.bind_some, Option.map_none, startE, List.map_cons, List.map_nil, List.length_cons, List.length_nil, List.nil_append, List.cons_append, List.append_nil, List.reduceReplicate, Nat.reduceAdd, Nat.reduceSub, dr_int, dr_bl, dr_non, dr_str, dr_lst, dr_tup, dr_dic, dr_ins, dr_scr, zbf, zbf1, zbf2, zlen, zabs, zint, zlst, asKf, mkLf, mkLt, Bool.not_true, Bool.not_false, Bool.not_not, Bool.and_true, Bool.true_and, Bool.and_false, Bool.false_and, decide_eq_true_eq, decide_eq_false_iff_not, decide_true, decide_false, Bool.not_eq_true', eq_self_iff_true, not_false_eq_true, not_true_eq_false, Bool.false_eq_true, reduceCtorEq, if_true, if_false, ite_true, ite_false, Z.refs, refsL, List.all_nil, List.all_cons, List.take_length, isi_Wp, tyOf, isTy, List.any_cons, List.any_nil, Bool.or_false, Bool.false_or, Bool.or_true, Bool.true_or, String.reduceEq, String.reduceBEq, beq_self_eq_true, zfd_ins, getF, insM_ins, me_ok, Int.reduceLT, Int.reduceLE, Int.reduceEq, Int.reduceNeg, Int.reduceAdd, Int.reduceSub, Int.reduceMul, gt_iff_lt, ge_iff_le, and_true, true_and, and_self, and_false, false_and, implies_true, true_implies, Prod.mk.injEq, ne_eq, bne, refs_zfr]
    rfl
def lessF (x y : Int × Int) : Int × Int := lowN (x.1 * y.2 - y.1 * x.2) (x.2 * y.2)
theorem bd_sub {a b : Int} {i : Nat} (ha : a.natAbs < 2 ^ i) (hb : b.natAbs < 2 ^ i) : (a - b).natAbs < 2 ^ (i + 1) := by
  rw [Int.sub_eq_add_neg]
  exact bd_add ha (bd_neg hb)
theorem less_of_eq (T : TabF tab gv N) {x y : Int × Int} (hx : Fr x) (hy : Fr y) {k b : Nat} {st : Sto} {ks : List String} {zs : List Z} (hb : bindZ (fnd ["one", "other"] 2 b_less_of false) zs ks = some [zfr x, zfr y]) : run tab gv N (k + 3) "less_of" zs ks b st = .ok (zfr (lessF x y)) st := by
  refine Wp.eq (wp_run T.less_of hb ?_)
  obtain ⟨x1, x2⟩ := x
  obtain ⟨y1, y2⟩ := y
  obtain ⟨f1, f2, f3⟩ := hx
  obtain ⟨g1, g2, g3⟩ := hy
  have b1 := bd_mul f1 g3
  have b2 := bd_mul g1 f3
  have b3 := bd_mul f3 g3
  have b4 := bd_sub b1 b2
  unfold fnd b_less_of
  unfold zfr
  simp -dsimp only [ev.eq_1, ev.eq_2, ev.eq_3, ev.eq_4, ev.eq_5, ev.eq_6, ev.eq_7, ev.eq_8, ev.eq_9, ev.eq_10, ev.eq_11, ev.eq_12, ev.eq_13, ev.eq_14, ev.eq_15, ev.eq_16, ev.eq_19, ev.eq_20, ev.eq_21, ev.eq_22, ev.eq_23, ev.eq_24, ev.eq_25, ev.eq_26, ev.eq_28, ev.eq_29, ev.eq_30, ev.eq_31, ev.eq_32, evs.eq_1, evs.eq_2, evo.eq_1, evo.eq_2, evc.eq_1, evc.eq_2, rbind_ok, ↓Wp_ok, ↓Wp_bind, Wp_no, Wp_exn, calm_Wp, ↓Wp_ifno, ↓Wp_ite, Br_true, Br_false, Br_not, ofO_Wp, An_true, w_add, w_sub, w_mul, w_mod, w_fdiv, w_pow, w_strs, w_tups, w_lsts, c_lt, c_le, c_gt, c_ge, c_eqi, c_nei, c_eqs, c_nes, c_eqb, c_neb, c_isn, c_notn, nq_non, nq_int, nq_bl, nq_str, nq_lst, nq_tup, nq_ins, t_non, t_bl, t_int, t_lst, t_tup, ix_tup, ix_lst, ix_scr, atI_0, ↓Cn_nx, ↓Cn_bk, ↓Cn_ct, ↓Cn_rt, ↓w_nil, ↓w_cons, w_asg, w_ex, w_ret, w_retN, w_ife, w_ix, Rt_f, Rt_fn, Rt_t, Tn_nx, Tn_ct, Tn_bk, Tn_rt, bindT.eq_1, bindT.eq_2, bindT.eq_3, bindTs.eq_1, bindTs.eq_2, sa0, sa1, sa2, sa11, sa21, sa22, ss0, ss1, ss11, st0, st1, st2, w_append, atI_9, atI_10, atI_11, atI_12, atI_13, cut_9, cut_4, cut_5, List.drop_succ_cons, List.drop_zero, pw4, lg2, zfzL_strs, refsL_strs, ix_str, zsm, seqv, asKt, la1, stn, w_asgF, Ac_ins, putFs_nil, putFs_cons, putG, Nat.reduceLT,  zbools_map, zints_map, zints_int, zstrs_map, all_id, any_id, zsl, cut_1, cut_2, cut_3, cut_t1, cut_t2, cut_t3, cut_from, cut_to, cut_map, atI_map, atI_1, atI_2, atI_3, atI_4, atI_5, atI_6, atI_7, atI_8, nc0, nc1, nc2, nc3, nc4, nc5, nc6, drop_map', take_map', atI_neg1, c_eql, c_nel, Br_F, isL_lst, isL_str, isS_str, ds0, ds1, ds2, ds11, ds21, ds22, di0, w_augU, Ai_int, w_fzv, Av_z, refsL_ints, Wp_none, w_put, Ap_lst, mayW_int, mayW_str, mayW_bl, mayW_self, w_fzc, zfzL_ints, wipeE, List.getElem?_cons_zero, List.getElem?_cons_succ, List.set_cons_zero, List.set_cons_succ, Option.map_some, Option.bind_some, Option.map_none, startE, List.map_cons, List.map_nil, List.length_cons, List.length_nil, List.nil_append, List.cons_append, List.append_nil, List.reduceReplicate, Nat.reduceAdd, Nat.reduceSub, dr_int, dr_bl, dr_non, dr_str, dr_lst, dr_tup, dr_dic, dr_ins, dr_scr, zbf, zbf1, zbf2, zlen, zabs, zint, zlst, asKf, mkLf, mkLt, Bool.not_true, Bool.not_false, Bool.not_not, Bool.and_true, Bool.true_and, Bool.and_false, Bool.false_and, decide_eq_true_eq, decide_eq_false_iff_not, decide_true, decide_false, Bool.not_eq_true', eq_self_iff_true, not_false_eq_true, not_true_eq_false, Bool.false_eq_true, reduceCtorEq, if_true, if_false, ite_true, ite_false, Z.refs, refsL, List.all_nil, List.all_cons, List.take_length, isi_Wp, tyOf, isTy, List.any_cons, List.any_nil, Bool.or_false, Bool.false_or, Bool.or_true, Bool.true_or, String.reduceEq, String.reduceBEq, beq_self_eq_true, zfd_ins, getF, insM_ins, me_ok, Int.reduceLT, Int.reduceLE, Int.reduceEq, Int.reduceNeg, Int.reduceAdd, Int.reduceSub, Int.reduceMul, gt_iff_lt, ge_iff_le, and_true, true_and, and_self, and_false, false_and, implies_true, true_implies, Prod.mk.injEq, ne_eq, bne, bd_mulOk f1 g3 (by omega), bd_mulOk g1 f3 (by omega), bd_mulOk f3 g3 (by omega), part_eq T (i := 201) (Int.mul_pos f2 g2) (bd_mono b3 (by omega)) b4 (by omega) (zs := [.int (x1 * y2 - y1 * x2), .int (x2 * y2)]) (ks := []) rfl]
  simp -dsimp only [ev.eq_1, ev.eq_2, ev.eq_3, ev.eq_4, ev.eq_5, ev.eq_6, ev.eq_7, ev.eq_8, ev.eq_9, ev.eq_10, ev.eq_11, ev.eq_12, ev.eq_13, ev.eq_14, ev.eq_15, ev.eq_16, ev.eq_19, ev.eq_20, ev.eq_21, ev.eq_22, ev.eq_23, ev.eq_24, ev.eq_25, ev.eq_26, ev.eq_28, ev.eq_29, ev.eq_30, ev.eq_31, ev.eq_32, evs.eq_1, evs.eq_2, evo.eq_1, evo.eq_2, evc.eq_1, evc.eq_2, rbind_ok, ↓Wp_ok, ↓Wp_bind, Wp_no, Wp_exn, calm_Wp, ↓Wp_ifno, ↓Wp_ite, Br_true, Br_false, Br_not, ofO_Wp, An_true, w_add, w_sub, w_mul, w_mod, w_fdiv, w_pow, w_strs, w_tups, w_lsts, c_lt, c_le, c_gt, c_ge, c_eqi, c_nei, c_eqs, c_nes, c_eqb, c_neb, c_isn, c_notn, nq_non, nq_int, nq_bl, nq_str, nq_lst, nq_tup, nq_ins, t_non, t_bl, t_int, t_lst, t_tup, ix_tup, ix_lst, ix_scr, atI_0, ↓Cn_nx, ↓Cn_bk, ↓Cn_ct, ↓Cn_rt, ↓w_nil, ↓w_cons, w_asg, w_ex, w_ret, w_retN, w_ife, w_ix, Rt_f, Rt_fn, Rt_t, Tn_nx, Tn_ct, Tn_bk, Tn_rt, bindT.eq_1, bindT.eq_2, bindT.eq_3, bindTs.eq_1, bindTs.eq_2, sa0, sa1, sa2, sa11, sa21, sa22, ss0, ss1, ss11, st0, st1, st2, w_append, atI_9, atI_10, atI_11, atI_12, atI_13, cut_9, cut_4, cut_5, List.drop_succ_cons, List.drop_zero, pw4, lg2, zfzL_strs, refsL_strs, ix_str, zsm, seqv, asKt, la1, stn, w_asgF, Ac_ins, putFs_nil, putFs_cons, putG, Nat.reduceLT,  zbools_map, zints_map, zints_int, zstrs_map, all_id, any_id, zsl, cut_1, cut_2, cut_3, cut_t1, cut_t2, cut_t3, cut_from, cut_to, cut_map, atI_map, atI_1, atI_2, atI_3, atI_4, atI_5, atI_6, atI_7, atI_8, nc0, nc1, nc2, nc3, nc4, nc5, nc6, drop_map', take_map', atI_neg1, c_eql, c_nel, Br_F, isL_lst, isL_str, isS_str, ds0, ds1, ds2, ds11, ds21, ds22, di0, w_augU, Ai_int, w_fzv, Av_z, refsL_ints, Wp_none, w_put, Ap_lst, mayW_int, mayW_str, mayW_bl, mayW_self, w_fzc, zfzL_ints, wipeE, List.getElem?_cons_zero, List.getElem?_cons_succ, List.set_cons_zero, List.set_cons_succ, Option.map_some, Option.bind_some, Option.map_none, startE, List.map_cons, List.map_nil, List.length_cons, List.length_nil, List.nil_append, List.cons_append, List.append_nil, List.reduceReplicate, Nat.reduceAdd, Nat.reduceSub, dr_int, dr_bl, dr_non, dr_str, dr_lst, dr_tup, dr_dic, dr_ins, dr_scr, zbf, zbf1, zbf2, zlen, zabs, zint, zlst, asKf, mkLf, mkLt, Bool.not_true, Bool.not_false, Bool.not_not, Bool.and_true, Bool.true_and, Bool.and_false, Bool.false_and, decide_eq_true_eq, decide_eq_false_iff_not, decide_true, decide_false, Bool.not_eq_true', eq_self_iff_true, not_false_eq_true, not_true_eq_false, Bool.false_eq_true, reduceCtorEq, if_true, if_false, ite_true, ite_false, Z.refs, refsL, List.all_nil, List.all_cons, List.take_length, isi_Wp, tyOf, isTy, List.any_cons, List.any_nil, Bool.or_false, Bool.false_or, Bool.or_true, Bool.true_or, String.reduceEq, String.reduceBEq, beq_self_eq_true, zfd_ins, getF, insM_ins, me_ok, Int.reduceLT, Int.reduceLE, Int.reduceEq, Int.reduceNeg, Int.reduceAdd, Int.reduceSub, Int.reduceMul, gt_iff_lt, ge_iff_le, and_true, true_and, and_self, and_false, false_and, implies_true, true_implies, Prod.mk.injEq, ne_eq, bne, refs_zfr]
  rfl
theorem is_below_eq (T : TabF tab gv N) {x y : Int × Int} (hx : Fr x) (hy : Fr y) {k b : Nat} {st : Sto} {ks : List String} {zs : List Z} (hb : bindZ (fnd ["one", "other"] 2 b_is_below false) zs ks = some [zfr x, zfr y]) : run tab gv N (k + 1) "is_below" zs ks b st = .ok (.bl (decide (x.1 * y.2 < y.1 * x.2))) st := by
  refine Wp.eq (wp_run T.is_below hb ?_)
  obtain ⟨x1, x2⟩ := x
  obtain ⟨y1, y2⟩ := y
  obtain ⟨f1, f2, f3⟩ := hx
  obtain ⟨g1, g2, g3⟩ := hy
  unfold fnd b_is_below
  unfold zfr
  simp -dsimp only [ev.eq_1, ev.eq_2, ev.eq_3, ev.eq_4, ev.eq_5, ev.eq_6, ev.eq_7, ev.eq_8, ev.eq_9, ev.eq_10, ev.eq_11, ev.eq_12, ev.eq_13, ev.eq_14, ev.eq_15, ev.eq_16, ev.eq_19, ev.eq_20, ev.eq_21, ev.eq_22, ev.eq_23, ev.eq_24, ev.eq_25, ev.eq_26, ev.eq_28, ev.eq_29, ev.eq_30, ev.eq_31, ev.eq_32, evs.eq_1, evs.eq_2, evo.eq_1, evo.eq_2, evc.eq_1, evc.eq_2, rbind_ok, ↓Wp_ok, ↓Wp_bind, Wp_no, Wp_exn, calm_Wp, ↓Wp_ifno, ↓Wp_ite, Br_true, Br_false, Br_not, ofO_Wp, An_true, w_add, w_sub, w_mul, w_mod, w_fdiv, w_pow, w_strs, w_tups, w_lsts, c_lt, c_le, c_gt, c_ge, c_eqi, c_nei, c_eqs, c_nes, c_eqb, c_neb, c_isn, c_notn, nq_non, nq_int, nq_bl, nq_str, nq_lst, nq_tup, nq_ins, t_non, t_bl, t_int, t_lst, t_tup, ix_tup, ix_lst, ix_scr, atI_0, ↓Cn_nx, ↓Cn_bk, ↓Cn_ct, ↓Cn_rt, ↓w_nil, ↓w_cons, w_asg, w_ex, w_ret, w_retN, w_ife, w_ix, Rt_f, Rt_fn, Rt_t, Tn_nx, Tn_ct, Tn_bk, Tn_rt, bindT.eq_1, bindT.eq_2, bindT.eq_3, bindTs.eq_1, bindTs.eq_2, sa0, sa1, sa2, sa11, sa21, sa22, ss0, ss1, ss11, st0, st1, st2, w_append, atI_9, atI_10, atI_11, atI_12, atI_13, cut_9, cut_4, cut_5, List.drop_succ_cons, List.drop_zero, pw4, lg2, zfzL_strs, refsL_strs, ix_str, zsm, seqv, asKt, la1, stn, w_asgF, Ac_ins, putFs_nil, putFs_cons, putG, Nat.reduceLT,  zbools_map, zints_map, zints_int, zstrs_map, all_id, any_id, zsl, cut_1, cut_2, cut_3, cut_t1, cut_t2, cut_t3, cut_from, cut_to, cut_map, atI_map, atI_1, atI_2, atI_3, atI_4, atI_5, atI_6, atI_7, atI_8, nc0, nc1, nc2, nc3, nc4, nc5, nc6, drop_map', take_map', atI_neg1, c_eql, c_nel, Br_F, isL_lst, isL_str, isS_str, ds0, ds1, ds2, ds11, ds21, ds22, di0, w_augU, Ai_int, w_fzv, Av_z, refsL_ints, Wp_none, w_put, Ap_lst, mayW_int, mayW_str, mayW_bl, mayW_self, w_fzc, zfzL_ints, wipeE, List.getElem?_cons_zero, List.getElem?_cons_succ, List.set_cons_zero, List.set_cons_succ, Option.map_some, Option.bind_some, Option.map_none, startE, List.map_cons, List.map_nil, List.length_cons, List.length_nil, List.nil_append, List.cons_append, List.append_nil, List.reduceReplicate, Nat.reduceAdd, Nat.reduceSub, dr_int, dr_bl, dr_non, dr_str, dr_lst, dr_tup, dr_dic, dr_ins, dr_scr, zbf, zbf1, zbf2, zlen, zabs, zint, zlst, asKf, mkLf, mkLt, Bool.not_true, Bool.not_false, Bool.not_not, Bool.and_true, Bool.true_and, Bool.and_false, Bool.false_and, decide_eq_true_eq, decide_eq_false_iff_not, decide_true, decide_false, Bool.not_eq_true', eq_self_iff_true, not_false_eq_true, not_true_eq_false, Bool.false_eq_true, reduceCtorEq, if_true, if_false, ite_true, ite_false, Z.refs, refsL, List.all_nil, List.all_cons, List.take_length, isi_Wp, tyOf, isTy, List.any_cons, List.any_nil, Bool.or_false, Bool.false_or, Bool.or_true, Bool.true_or, String.reduceEq, String.reduceBEq, beq_self_eq_true, zfd_ins, getF, insM_ins, me_ok, Int.reduceLT, Int.reduceLE, Int.reduceEq, Int.reduceNeg, Int.reduceAdd, Int.reduceSub, Int.reduceMul, gt_iff_lt, ge_iff_le, and_true, true_and, and_self, and_false, false_and, implies_true, true_implies, Prod.mk.injEq, ne_eq, bne, bd_mulOk f1 g3 (by omega), bd_mulOk g1 f3 (by omega)]
end
end ZZ

end
section
set_option maxHeartbeats 0
namespace ZZ
open PySem PySem.Spec PyProof.Rows L2
abbrev PW := PySem.Challenge.pw_steamhours_k01_fractions
def top (i : Nat) : Stmt := PW.main.body.getD i (.Pass ⟨0, 0, 0, 0⟩)
def inn (i j : Nat) : Stmt := match top i with
  | .ClassDef _ _ _ b _ _ _ _ _ _ _ => b.getD j (.Pass ⟨0, 0, 0, 0⟩)
  | _ => .Pass ⟨0, 0, 0, 0⟩
def fn : List He.DefD := [
  ⟨("common", none), "common", "common", defArgs (top 2), defBody (top 2), defScope (top 2), [], []⟩,
  ⟨("part_of", none), "part_of", "part_of", defArgs (top 3), defBody (top 3), defScope (top 3), [], []⟩,
  ⟨("sum_of", none), "sum_of", "sum_of", defArgs (top 4), defBody (top 4), defScope (top 4), [], []⟩,
  ⟨("less_of", none), "less_of", "less_of", defArgs (top 5), defBody (top 5), defScope (top 5), [], []⟩,
  ⟨("is_below", none), "is_below", "is_below", defArgs (top 6), defBody (top 6), defScope (top 6), [], []⟩,
  ⟨("_law_tape", none), "_law_tape", "_law_tape", defArgs (top 8), defBody (top 8), defScope (top 8), [], []⟩,
  ⟨("_law_draw", none), "_law_draw", "_law_draw", defArgs (top 9), defBody (top 9), defScope (top 9), [], []⟩,
  ⟨("_law_same", none), "_law_same", "_law_same", defArgs (top 10), defBody (top 10), defScope (top 10), [], []⟩,
  ⟨("_law_divisor", none), "_law_divisor", "_law_divisor", defArgs (top 11), defBody (top 11), defScope (top 11), [], []⟩,
  ⟨("_law_lowest", none), "_law_lowest", "_law_lowest", defArgs (top 12), defBody (top 12), defScope (top 12), [], []⟩,
  ⟨("_law_worth", none), "_law_worth", "_law_worth", defArgs (top 13), defBody (top 13), defScope (top 13), [], []⟩,
  ⟨("_law_total", none), "_law_total", "_law_total", defArgs (top 14), defBody (top 14), defScope (top 14), [], []⟩,
  ⟨("law", none), "law", "law", defArgs (top 15), defBody (top 15), defScope (top 15), [], []⟩]
def fa : List He.Fa := [.glo "NOUGHT", .glo "common", .glo "part_of", .glo "sum_of", .glo "less_of", .glo "is_below", .glo "_law_tape", .glo "_law_draw", .glo "_law_same", .glo "_law_divisor", .glo "_law_lowest", .glo "_law_worth", .glo "_law_total", .glo "law", .free "len", .free "abs", .free "min", .free "max", .free "int", .free "sum", .free "list", .free "tuple", .free "all", .free "any", .free "isinstance", .free "bool", .free "str", .free "range", .free "enumerate", .free "zip", .free "sorted", .free "repr", .free "set", .free "dict"]
def ct : List (String × List He.Dv) := [("NOUGHT", [.int 0, .int 1])]
def loose : List String := ["NOUGHT", "common", "part_of", "sum_of", "less_of", "is_below", "_law_tape", "_law_draw", "_law_same", "_law_divisor", "_law_lowest", "_law_worth", "_law_total"]
abbrev HR : PySem.W.OpenRow := PySem.W.OpenLaw.row PySem.Challenge.rw_steamhours_k01_fractions
abbrev hk : PySem.W.Hook := He.hookX 5 fa fn [] [] (exC ct)
def ob (s : PySem.W.SharedT) : He.AlX := He.obsX 5 fa fn [] [] (exC ct) (HandSHeadRun.getT s)
theorem ob_eq (s : PySem.W.SharedT) : ob s = hk.obs s.abs := He.obsX_eq (HandSHeadRun.getT_eq s)
theorem hrun (w : World) : HandSHeadRun.RunEq HR (PySem.W.view HR.prog [15]) hk ob 4000 (loose.map Str.ofString) w := by
  intro os
  kernel_rfl
end ZZ

end
section
set_option maxHeartbeats 0
namespace ZZ
open PySem PySem.Spec PyProof.Rows L2
def d_common_T : FnD := fnd ["one", "other"] 2 b_common false
def d_part_of_T : FnD := fnd ["number", "parts"] 3 b_part_of false
def d_sum_of_T : FnD := fnd ["some"] 4 b_sum_of false
def d_less_of_T : FnD := fnd ["one", "other"] 2 b_less_of false
def d_is_below_T : FnD := fnd ["one", "other"] 2 b_is_below false
def d__law_tape_T : FnD := fnd ["_law_script", "_law_k"] 3 b__law_tape true
def d__law_draw_T : FnD := fnd ["_law_tape_here", "_law_many"] 6 b__law_draw false
def d__law_same_T : FnD := fnd ["_law_found", "_law_due"] 4 b__law_same false
def b__law_divisor : List ZZ.S := [.asg (.t (.tup [.v 0, .v 1])) (.tup [.bf false .abs [.v 0], .bf false .abs [.v 1]]), .wh (.cmp .gt (.v 1) (.n 0)) [.asg (.t (.tup [.v 0, .v 1])) (.tup [.v 1, .bin .mod (.v 0) (.v 1)])], .ret (some (.v 0))]
def d__law_divisor_T : FnD := fnd ["_law_ones", "_law_others"] 2 b__law_divisor false
def b__law_lowest : List ZZ.S := [.asg (.t (.v 2)) (.call "_law_divisor" [.v 0, .v 1] [] []), .ret (some (.tup [.bin .fdiv (.v 0) (.v 2), .bin .fdiv (.v 1) (.v 2)]))]
def d__law_lowest_T : FnD := fnd ["_law_numbers", "_law_shares"] 3 b__law_lowest false
def b__law_worth : List ZZ.S := [.asg (.t (.v 1)) (.ix (.lst false [.n 0, .call "_law_draw" [.v 0, .n 9] [] [], .bin .mul (.call "_law_draw" [.v 0, .bin .pow (.n 10) (.n 12)] [] []) (.call "_law_draw" [.v 0, .bin .pow (.n 10) (.n 12)] [] [])]) (.call "_law_draw" [.v 0, .n 3] [] [])), .asg (.t (.v 2)) (.ix (.lst false [.n 1, .bin .add (.n 1) (.call "_law_draw" [.v 0, .n 12] [] []), .bin .add (.n 1) (.bin .mul (.call "_law_draw" [.v 0, .bin .pow (.n 10) (.n 9)] [] []) (.call "_law_draw" [.v 0, .bin .pow (.n 10) (.n 9)] [] []))]) (.call "_law_draw" [.v 0, .n 3] [] [])), .asg (.t (.v 3)) (.ix (.lst false [.n 1, .bin .add (.n 1) (.call "_law_draw" [.v 0, .n 30] [] [])]) (.call "_law_draw" [.v 0, .n 2] [] [])), .ret (some (.tup [.bin .mul (.bin .mul (.v 1) (.v 3)) (.ix (.lst false [.n 1, .neg (.n 1)]) (.call "_law_draw" [.v 0, .n 2] [] [])), .bin .mul (.v 2) (.v 3)]))]
def d__law_worth_T : FnD := fnd ["_law_tape_here"] 4 b__law_worth false
def b__law_total : List ZZ.S := [.asg (.t (.v 1)) (.n 1), .fo (.tup [.v 2, .v 3]) (.e (.v 0)) [.asg (.t (.v 1)) (.bin .mul (.v 1) (.v 3))], .ret (some (.call "_law_lowest" [.bf false .sum [.lc false [2, 3] (.bin .mul (.v 2) (.bin .fdiv (.v 1) (.v 3))) (.tup [.v 2, .v 3]) (.e (.v 0)) none], .v 1] [] []))]
def d__law_total_T : FnD := fnd ["_law_somes"] 4 b__law_total false
def b_law : List ZZ.S := [.fo (.v 1) (.rng [.bf false .max2 [.n 1, .bf false .min2 [.bf false .len [.v 0], .n 6]]]) [.asg (.t (.v 2)) (.call "_law_tape" [.v 0, .v 1] [] []), .asg (.t (.v 3)) (.lc false [6] (.call "_law_worth" [.v 2] [] []) (.v 6) (.rng [.n 12]) none), .asg (.t (.v 4)) (.lc false [12, 13] (.call "_law_lowest" [.v 12, .v 13] [] []) (.tup [.v 12, .v 13]) (.e (.v 3)) none), .asg (.t (.v 5)) (.lc true [12, 13] (.call "part_of" [.v 12, .v 13] [] []) (.tup [.v 12, .v 13]) (.e (.v 3)) none), .ife (.or (.nt (.call "_law_same" [.v 5, .v 4] [] [])) (.nt (.call "_law_same" [.call "part_of" [] [.ix (.ix (.v 3) (.n 0)) (.n 1), .ix (.ix (.v 3) (.n 0)) (.n 0)] ["parts", "number"], .ix (.v 4) (.n 0)] [] []))) [.ret (some (.t false))] [], .fo (.v 6) (.rng [.n 4]) [.asg (.t (.v 9)) (.lc false [14] (.ix (.v 4) (.call "_law_draw" [.v 2, .n 12] [] [])) (.v 14) (.rng [.call "_law_draw" [.v 2, .n 9] [] []]) none), .ife (.cmp .eq (.call "_law_draw" [.v 2, .n 3] [] []) (.n 0)) [.asg (.t (.v 9)) (.bin .add (.v 9) (.lc false [12, 13] (.tup [.bin .sub (.n 0) (.v 12), .v 13]) (.tup [.v 12, .v 13]) (.e (.v 9)) none))] [], .asg (.t (.v 10)) (.bf false .list [.v 9]), .ife (.or (.nt (.call "_law_same" [.lst false [.call "sum_of" [.v 9] [] [], .call "sum_of" [] [.bf false .tuple [.rv false (.v 9)]] ["some"]], .bin .rep (.lst false [.call "_law_total" [.v 9] [] []]) (.n 2)] [] [])) (.cmp .ne (.v 9) (.v 10))) [.ret (some (.t false))] []], .fo (.tup [.v 7, .v 8]) (.zip (.v 4) (.bin .add (.sl false (.v 4) (some (.n 1)) none) (.sl false (.v 4) none (some (.n 1))))) [.asg (.t (.v 11)) (.call "_law_lowest" [.bin .sub (.bin .mul (.ix (.v 7) (.n 0)) (.ix (.v 8) (.n 1))) (.bin .mul (.ix (.v 8) (.n 0)) (.ix (.v 7) (.n 1))), .bin .mul (.ix (.v 7) (.n 1)) (.ix (.v 8) (.n 1))] [] []), .asg (.t (.v 5)) (.lst true [.call "less_of" [.v 7, .v 8] [] [], .call "less_of" [] [.v 8, .v 7] ["other", "one"], .call "is_below" [.v 7, .v 8] [] []]), .ex (.bm .append (.v 5) [.call "is_below" [] [.v 7, .v 7] ["other", "one"]]), .ife (.nt (.call "_law_same" [.v 5, .lst false [.v 11, .v 11, .cmp .lt (.bin .mul (.ix (.v 7) (.n 0)) (.ix (.v 8) (.n 1))) (.bin .mul (.ix (.v 8) (.n 0)) (.ix (.v 7) (.n 1))), .t false]] [] [])) [.ret (some (.t false))] []]], .ret (some (.t true))]
def d_law_T : FnD := fnd ["_law_script"] 15 b_law false
def TT : List Fz := [⟨"common", d_common_T, ["one", "other"], none⟩, ⟨"part_of", d_part_of_T, ["number", "parts", "by"], none⟩, ⟨"sum_of", d_sum_of_T, ["some", "total", "number", "parts"], none⟩, ⟨"less_of", d_less_of_T, ["one", "other"], none⟩, ⟨"is_below", d_is_below_T, ["one", "other"], none⟩, ⟨"_law_tape", d__law_tape_T, ["_law_script", "_law_k", "_law_cell"], none⟩, ⟨"_law_draw", d__law_draw_T, ["_law_tape_here", "_law_many", "_law_once", "_law_twice", "_law_wide", "_law_found"], none⟩, ⟨"_law_same", d__law_same_T, ["_law_found", "_law_due", "_law_ones", "_law_others"], none⟩, ⟨"_law_divisor", d__law_divisor_T, ["_law_ones", "_law_others"], none⟩, ⟨"_law_lowest", d__law_lowest_T, ["_law_numbers", "_law_shares", "_law_by"], none⟩, ⟨"_law_worth", d__law_worth_T, ["_law_tape_here", "_law_numbers", "_law_shares", "_law_by"], none⟩, ⟨"_law_total", d__law_total_T, ["_law_somes", "_law_whole", "_law_numbers", "_law_shares"], none⟩, ⟨"law", d_law_T, ["_law_script", "_law_k", "_law_tape_here", "_law_worths", "_law_somes", "_law_found", "_law_turn", "_law_ones", "_law_others", "_law_row", "_law_kept", "_law_due", "_law_numbers", "_law_shares", "_law_again"], none⟩]

theorem chk_all : chkAll TT fa fn = true := by kernel_rfl
end ZZ

end
section
set_option maxHeartbeats 2000000
namespace ZZ
structure Tab01 (tab : String → Option FnD) (gv : String → Option Z) (N : Nat) : Prop where
  F : TabF tab gv N
  draw : tab "_law_draw" = some d__law_draw_T
  same : tab "_law_same" = some d__law_same_T
  tape : tab "_law_tape" = some d__law_tape_T
  divisor : tab "_law_divisor" = some d__law_divisor_T
  lowest : tab "_law_lowest" = some d__law_lowest_T
  worth : tab "_law_worth" = some d__law_worth_T
  total : tab "_law_total" = some d__law_total_T
theorem habs {n : Int} : (if n < 0 then -n else n) = ((n.natAbs : Nat) : Int) := by split <;> omega
section
variable {tab : String → Option FnD} {gv : String → Option Z} {N : Nat}
theorem divisor_eq (T : Tab01 tab gv N) {n p : Int} (hp : p.natAbs < N) {k b : Nat} {st : Sto} : run tab gv N (k + 1) "_law_divisor" [.int n, .int p] [] b st = .ok (.int (Nat.gcd p.natAbs n.natAbs : Nat)) st := by
  refine Wp.eq (wp_fn T.divisor rfl ?_)
  unfold b__law_divisor
  simp -dsimp only [ev.eq_1, ev.eq_2, ev.eq_3, ev.eq_4, ev.eq_5, ev.eq_6, ev.eq_7, ev.eq_8, ev.eq_9, ev.eq_10, ev.eq_11, ev.eq_12, ev.eq_13, ev.eq_14, ev.eq_15, ev.eq_16, ev.eq_19, ev.eq_20, ev.eq_21, ev.eq_22, ev.eq_23, ev.eq_24, ev.eq_25, ev.eq_26, ev.eq_28, ev.eq_29, ev.eq_30, ev.eq_31, ev.eq_32, evs.eq_1, evs.eq_2, evo.eq_1, evo.eq_2, evc.eq_1, evc.eq_2, rbind_ok, ↓Wp_ok, ↓Wp_bind, Wp_no, Wp_exn, calm_Wp, ↓Wp_ifno, ↓Wp_ite, Br_true, Br_false, Br_not, ofO_Wp, An_true, w_add, w_sub, w_mul, w_mod, w_fdiv, w_pow, w_strs, w_tups, w_lsts, c_lt, c_le, c_gt, c_ge, c_eqi, c_nei, c_eqs, c_nes, c_eqb, c_neb, c_isn, c_notn, nq_non, nq_int, nq_bl, nq_str, nq_lst, nq_tup, nq_ins, t_non, t_bl, t_int, t_lst, t_tup, ix_tup, ix_lst, ix_scr, atI_0, ↓Cn_nx, ↓Cn_bk, ↓Cn_ct, ↓Cn_rt, ↓w_nil, ↓w_cons, w_asg, w_ex, w_ret, w_retN, w_ife, w_ix, Rt_f, Rt_fn, Rt_t, Tn_nx, Tn_ct, Tn_bk, Tn_rt, bindT.eq_1, bindT.eq_2, bindT.eq_3, bindTs.eq_1, bindTs.eq_2, sa0, sa1, sa2, sa11, sa21, sa22, ss0, ss1, ss11, st0, st1, st2, w_append, atI_9, atI_10, atI_11, atI_12, atI_13, cut_9, cut_4, cut_5, List.drop_succ_cons, List.drop_zero, pw4, lg2, zfzL_strs, refsL_strs, ix_str, zsm, seqv, asKt, la1, stn, w_asgF, Ac_ins, putFs_nil, putFs_cons, putG, Nat.reduceLT,  zbools_map, zints_map, zints_int, zstrs_map, all_id, any_id, zsl, cut_1, cut_2, cut_3, cut_t1, cut_t2, cut_t3, cut_from, cut_to, cut_map, atI_map, atI_1, atI_2, atI_3, atI_4, atI_5, atI_6, atI_7, atI_8, nc0, nc1, nc2, nc3, nc4, nc5, nc6, drop_map', take_map', atI_neg1, c_eql, c_nel, Br_F, isL_lst, isL_str, isS_str, ds0, ds1, ds2, ds11, ds21, ds22, di0, w_augU, Ai_int, w_fzv, Av_z, refsL_ints, Wp_none, w_put, Ap_lst, mayW_int, mayW_str, mayW_bl, mayW_self, w_fzc, zfzL_ints, wipeE, List.getElem?_cons_zero, List.getElem?_cons_succ, List.set_cons_zero, List.set_cons_succ, Option.map_some, Option.bind_some, Option.map_none, startE, List.map_cons, List.map_nil, List.length_cons, List.length_nil, List.nil_append, List.cons_append, List.append_nil, List.reduceReplicate, Nat.reduceAdd, Nat.reduceSub, dr_int, dr_bl, dr_non, dr_str, dr_lst, dr_tup, dr_dic, dr_ins, dr_scr, zbf, zbf1, zbf2, zlen, zabs, zint, zlst, asKf, mkLf, mkLt, Bool.not_true, Bool.not_false, Bool.not_not, Bool.and_true, Bool.true_and, Bool.and_false, Bool.false_and, decide_eq_true_eq, decide_eq_false_iff_not, decide_true, decide_false, Bool.not_eq_true', eq_self_iff_true, not_false_eq_true, not_true_eq_false, Bool.false_eq_true, reduceCtorEq, if_true, if_false, ite_true, ite_false, Z.refs, refsL, List.all_nil, List.all_cons, List.take_length, isi_Wp, tyOf, isTy, List.any_cons, List.any_nil, Bool.or_false, Bool.false_or, Bool.or_true, Bool.true_or, String.reduceEq, String.reduceBEq, beq_self_eq_true, zfd_ins, getF, insM_ins, me_ok, Int.reduceLT, Int.reduceLE, Int.reduceEq, Int.reduceNeg, Int.reduceAdd, Int.reduceSub, Int.reduceMul, gt_iff_lt, ge_iff_le, and_true, true_and, and_self, and_false, false_and, implies_true, true_implies, Prod.mk.injEq, ne_eq, bne, habs]
  refine wp_while (fun j e s => s = st ∧ ∃ x : Nat, e = [some (.int x), some (.int (j : Int))] ∧ Nat.gcd x j = Nat.gcd p.natAbs n.natAbs) p.natAbs hp ⟨rfl, n.natAbs, rfl, Nat.gcd_comm _ _⟩ ?_
  rintro j e s ⟨rfl, x, rfl, hg⟩
  simp -dsimp only [ev.eq_1, ev.eq_2, ev.eq_3, ev.eq_4, ev.eq_5, ev.eq_6, ev.eq_7, ev.eq_8, ev.eq_9, ev.eq_10, ev.eq_11, ev.eq_12, ev.eq_13, ev.eq_14, ev.eq_15, ev.eq_16, ev.eq_19, ev.eq_20, ev.eq_21, ev.eq_22, ev.eq_23, ev.eq_24, ev.eq_25, ev.eq_26, ev.eq_28, ev.eq_29, ev.eq_30, ev.eq_31, ev.eq_32, evs.eq_1, evs.eq_2, evo.eq_1, evo.eq_2, evc.eq_1, evc.eq_2, rbind_ok, ↓Wp_ok, ↓Wp_bind, Wp_no, Wp_exn, calm_Wp, ↓Wp_ifno, ↓Wp_ite, Br_true, Br_false, Br_not, ofO_Wp, An_true, w_add, w_sub, w_mul, w_mod, w_fdiv, w_pow, w_strs, w_tups, w_lsts, c_lt, c_le, c_gt, c_ge, c_eqi, c_nei, c_eqs, c_nes, c_eqb, c_neb, c_isn, c_notn, nq_non, nq_int, nq_bl, nq_str, nq_lst, nq_tup, nq_ins, t_non, t_bl, t_int, t_lst, t_tup, ix_tup, ix_lst, ix_scr, atI_0, ↓Cn_nx, ↓Cn_bk, ↓Cn_ct, ↓Cn_rt, ↓w_nil, ↓w_cons, w_asg, w_ex, w_ret, w_retN, w_ife, w_ix, Rt_f, Rt_fn, Rt_t, Tn_nx, Tn_ct, Tn_bk, Tn_rt, bindT.eq_1, bindT.eq_2, bindT.eq_3, bindTs.eq_1, bindTs.eq_2, sa0, sa1, sa2, sa11, sa21, sa22, ss0, ss1, ss11, st0, st1, st2, w_append, atI_9, atI_10, atI_11, atI_12, atI_13, cut_9, cut_4, cut_5, List.drop_succ_cons, List.drop_zero, pw4, lg2, zfzL_strs, refsL_strs, ix_str, zsm, seqv, asKt, la1, stn, w_asgF, Ac_ins, putFs_nil, putFs_cons, putG, Nat.reduceLT,  zbools_map, zints_map, zints_int, zstrs_map, all_id, any_id, zsl, cut_1, cut_2, cut_3, cut_t1, cut_t2, cut_t3, cut_from, cut_to, cut_map, atI_map, atI_1, atI_2, atI_3, atI_4, atI_5, atI_6, atI_7, atI_8, nc0, nc1, nc2, nc3, nc4, nc5, nc6, drop_map', take_map', atI_neg1, c_eql, c_nel, Br_F, isL_lst, isL_str, isS_str, ds0, ds1, ds2, ds11, ds21, ds22, di0, w_augU, Ai_int, w_fzv, Av_z, refsL_ints, Wp_none, w_put, Ap_lst, mayW_int, mayW_str, mayW_bl, mayW_self, w_fzc, zfzL_ints, wipeE, List.getElem?_cons_zero, List.getElem?_cons_succ, List.set_cons_zero, List.set_cons_succ, Option.map_some, Option.bind_some, Option.map_none, startE, List.map_cons, List.map_nil, List.length_cons, List.length_nil, List.nil_append, List.cons_append, List.append_nil, List.reduceReplicate, Nat.reduceAdd, Nat.reduceSub, dr_int, dr_bl, dr_non, dr_str, dr_lst, dr_tup, dr_dic, dr_ins, dr_scr, zbf, zbf1, zbf2, zlen, zabs, zint, zlst, asKf, mkLf, mkLt, Bool.not_true, Bool.not_false, Bool.not_not, Bool.and_true, Bool.true_and, Bool.and_false, Bool.false_and, decide_eq_true_eq, decide_eq_false_iff_not, decide_true, decide_false, Bool.not_eq_true', eq_self_iff_true, not_false_eq_true, not_true_eq_false, Bool.false_eq_true, reduceCtorEq, if_true, if_false, ite_true, ite_false, Z.refs, refsL, List.all_nil, List.all_cons, List.take_length, isi_Wp, tyOf, isTy, List.any_cons, List.any_nil, Bool.or_false, Bool.false_or, Bool.or_true, Bool.true_or, String.reduceEq, String.reduceBEq, beq_self_eq_true, zfd_ins, getF, insM_ins, me_ok, Int.reduceLT, Int.reduceLE, Int.reduceEq, Int.reduceNeg, Int.reduceAdd, Int.reduceSub, Int.reduceMul, gt_iff_lt, ge_iff_le, and_true, true_and, and_self, and_false, false_and, implies_true, true_implies, Prod.mk.injEq, ne_eq, bne]
  refine Br.mk' (fun hj => ?_) (fun hj => ?_)
  · have j0 : 0 < j := by omega
    refine ⟨j0, ?_⟩
    simp -dsimp only [ev.eq_1, ev.eq_2, ev.eq_3, ev.eq_4, ev.eq_5, ev.eq_6, ev.eq_7, ev.eq_8, ev.eq_9, ev.eq_10, ev.eq_11, ev.eq_12, ev.eq_13, ev.eq_14, ev.eq_15, ev.eq_16, ev.eq_19, ev.eq_20, ev.eq_21, ev.eq_22, ev.eq_23, ev.eq_24, ev.eq_25, ev.eq_26, ev.eq_28, ev.eq_29, ev.eq_30, ev.eq_31, ev.eq_32, evs.eq_1, evs.eq_2, evo.eq_1, evo.eq_2, evc.eq_1, evc.eq_2, rbind_ok, ↓Wp_ok, ↓Wp_bind, Wp_no, Wp_exn, calm_Wp, ↓Wp_ifno, ↓Wp_ite, Br_true, Br_false, Br_not, ofO_Wp, An_true, w_add, w_sub, w_mul, w_mod, w_fdiv, w_pow, w_strs, w_tups, w_lsts, c_lt, c_le, c_gt, c_ge, c_eqi, c_nei, c_eqs, c_nes, c_eqb, c_neb, c_isn, c_notn, nq_non, nq_int, nq_bl, nq_str, nq_lst, nq_tup, nq_ins, t_non, t_bl, t_int, t_lst, t_tup, ix_tup, ix_lst, ix_scr, atI_0, ↓Cn_nx, ↓Cn_bk, ↓Cn_ct, ↓Cn_rt, ↓w_nil, ↓w_cons, w_asg, w_ex, w_ret, w_retN, w_ife, w_ix, Rt_f, Rt_fn, Rt_t, Tn_nx, Tn_ct, Tn_bk, Tn_rt, bindT.eq_1, bindT.eq_2, bindT.eq_3, bindTs.eq_1, bindTs.eq_2, sa0, sa1, sa2, sa11, sa21, sa22, ss0, ss1, ss11, st0, st1, st2, w_append, atI_9, atI_10, atI_11, atI_12, atI_13, cut_9, cut_4, cut_5, List.drop_succ_cons, List.drop_zero, pw4, lg2, zfzL_strs, refsL_strs, ix_str, zsm, seqv, asKt, la1, stn, w_asgF, Ac_ins, putFs_nil, putFs_cons, putG, Nat.reduceLT,  zbools_map, zints_map, zints_int, zstrs_map, all_id, any_id, zsl, cut_1, cut_2, cut_3, cut_t1, cut_t2, cut_t3, cut_from, cut_to, cut_map, atI_map, atI_1, atI_2, atI_3, atI_4, atI_5, atI_6, atI_7, atI_8, nc0, nc1, nc2, nc3, nc4, nc5, nc6, drop_map', take_map', atI_neg1, c_eql, c_nel, Br_F, isL_lst, isL_str, isS_str, ds0, ds1, ds2, ds11, ds21, ds22, di0, w_augU, Ai_int, w_fzv, Av_z, refsL_ints, Wp_none, w_put, Ap_lst, mayW_int, mayW_str, mayW_bl, mayW_self, w_fzc, zfzL_ints, wipeE, List.getElem?_cons_zero, List.getElem?_cons_succ, List.set_cons_zero, List.set_cons_succ, Option.map_some, Option.bind_some, Option.map_none, startE, List.map_cons, List.map_nil, List.length_cons, List.length_nil, List.nil_append, List.cons_append, List.append_nil, List.reduceReplicate, Nat.reduceAdd, Nat.reduceSub, dr_int, dr_bl, dr_non, dr_str, dr_lst, dr_tup, dr_dic, dr_ins, dr_scr, zbf, zbf1, zbf2, zlen, zabs, zint, zlst, asKf, mkLf, mkLt, Bool.not_true, Bool.not_false, Bool.not_not, Bool.and_true, Bool.true_and, Bool.and_false, Bool.false_and, decide_eq_true_eq, decide_eq_false_iff_not, decide_true, decide_false, Bool.not_eq_true', eq_self_iff_true, not_false_eq_true, not_true_eq_false, Bool.false_eq_true, reduceCtorEq, if_true, if_false, ite_true, ite_false, Z.refs, refsL, List.all_nil, List.all_cons, List.take_length, isi_Wp, tyOf, isTy, List.any_cons, List.any_nil, Bool.or_false, Bool.false_or, Bool.or_true, Bool.true_or, String.reduceEq, String.reduceBEq, beq_self_eq_true, zfd_ins, getF, insM_ins, me_ok, Int.reduceLT, Int.reduceLE, Int.reduceEq, Int.reduceNeg, Int.reduceAdd, Int.reduceSub, Int.reduceMul, gt_iff_lt, ge_iff_le, and_true, true_and, and_self, and_false, false_and, implies_true, true_implies, Prod.mk.injEq, ne_eq, bne, show (0 : Int) < j by omega]
    refine ⟨x % j, Nat.mod_lt _ j0, j, ?_, ?_⟩
    · rw [Int.natCast_emod]
    · rw [← hg, Nat.gcd_comm x j, Nat.gcd_rec j x, Nat.gcd_comm]
  · have j0 : j = 0 := by omega
    subst j0
    rw [Nat.gcd_zero_right] at hg
    simp -dsimp only [ev.eq_1, ev.eq_2, ev.eq_3, ev.eq_4, ev.eq_5, ev.eq_6, ev.eq_7, ev.eq_8, ev.eq_9, ev.eq_10, ev.eq_11, ev.eq_12, ev.eq_13, ev.eq_14, ev.eq_15, ev.eq_16, ev.eq_19, ev.eq_20, ev.eq_21, ev.eq_22, ev.eq_23, ev.eq_24, ev.eq_25, ev.eq_26, ev.eq_28, ev.eq_29, ev.eq_30, ev.eq_31, ev.eq_32, evs.eq_1, evs.eq_2, evo.eq_1, evo.eq_2, evc.eq_1, evc.eq_2, rbind_ok, ↓Wp_ok, ↓Wp_bind, Wp_no, Wp_exn, calm_Wp, ↓Wp_ifno, ↓Wp_ite, Br_true, Br_false, Br_not, ofO_Wp, An_true, w_add, w_sub, w_mul, w_mod, w_fdiv, w_pow, w_strs, w_tups, w_lsts, c_lt, c_le, c_gt, c_ge, c_eqi, c_nei, c_eqs, c_nes, c_eqb, c_neb, c_isn, c_notn, nq_non, nq_int, nq_bl, nq_str, nq_lst, nq_tup, nq_ins, t_non, t_bl, t_int, t_lst, t_tup, ix_tup, ix_lst, ix_scr, atI_0, ↓Cn_nx, ↓Cn_bk, ↓Cn_ct, ↓Cn_rt, ↓w_nil, ↓w_cons, w_asg, w_ex, w_ret, w_retN, w_ife, w_ix, Rt_f, Rt_fn, Rt_t, Tn_nx, Tn_ct, Tn_bk, Tn_rt, bindT.eq_1, bindT.eq_2, bindT.eq_3, bindTs.eq_1, bindTs.eq_2, sa0, sa1, sa2, sa11, sa21, sa22, ss0, ss1, ss11, st0, st1, st2, w_append, atI_9, atI_10, atI_11, atI_12, atI_13, cut_9, cut_4, cut_5, List.drop_succ_cons, List.drop_zero, pw4, lg2, zfzL_strs, refsL_strs, ix_str, zsm, seqv, asKt, la1, stn, w_asgF, Ac_ins, putFs_nil, putFs_cons, putG, Nat.reduceLT,  zbools_map, zints_map, zints_int, zstrs_map, all_id, any_id, zsl, cut_1, cut_2, cut_3, cut_t1, cut_t2, cut_t3, cut_from, cut_to, cut_map, atI_map, atI_1, atI_2, atI_3, atI_4, atI_5, atI_6, atI_7, atI_8, nc0, nc1, nc2, nc3, nc4, nc5, nc6, drop_map', take_map', atI_neg1, c_eql, c_nel, Br_F, isL_lst, isL_str, isS_str, ds0, ds1, ds2, ds11, ds21, ds22, di0, w_augU, Ai_int, w_fzv, Av_z, refsL_ints, Wp_none, w_put, Ap_lst, mayW_int, mayW_str, mayW_bl, mayW_self, w_fzc, zfzL_ints, wipeE, List.getElem?_cons_zero, List.getElem?_cons_succ, List.set_cons_zero, List.set_cons_succ, Option.map_some, Option.bind_some, Option.map_none, startE, List.map_cons, List.map_nil, List.length_cons, List.length_nil, List.nil_append, List.cons_append, List.append_nil, List.reduceReplicate, Nat.reduceAdd, Nat.reduceSub, dr_int, dr_bl, dr_non, dr_str, dr_lst, dr_tup, dr_dic, dr_ins, dr_scr, zbf, zbf1, zbf2, zlen, zabs, zint, zlst, asKf, mkLf, mkLt, Bool.not_true, Bool.not_false, Bool.not_not, Bool.and_true, Bool.true_and, Bool.and_false, Bool.false_and, decide_eq_true_eq, decide_eq_false_iff_not, decide_true, decide_false, Bool.not_eq_true', eq_self_iff_true, not_false_eq_true, not_true_eq_false, Bool.false_eq_true, reduceCtorEq, if_true, if_false, ite_true, ite_false, Z.refs, refsL, List.all_nil, List.all_cons, List.take_length, isi_Wp, tyOf, isTy, List.any_cons, List.any_nil, Bool.or_false, Bool.false_or, Bool.or_true, Bool.true_or, String.reduceEq, String.reduceBEq, beq_self_eq_true, zfd_ins, getF, insM_ins, me_ok, Int.reduceLT, Int.reduceLE, Int.reduceEq, Int.reduceNeg, Int.reduceAdd, Int.reduceSub, Int.reduceMul, gt_iff_lt, ge_iff_le, and_true, true_and, and_self, and_false, false_and, implies_true, true_implies, Prod.mk.injEq, ne_eq, bne]
    exact congrArg (fun n : Nat => Z.int n) hg
theorem lowest_eq (T : Tab01 tab gv N) {n p : Int} {i : Nat} (hp : 0 < p) (hp2 : p.natAbs < 2 ^ i) (hi : i ≤ 8999) {k b : Nat} {st : Sto} : run tab gv N (k + 2) "_law_lowest" [.int n, .int p] [] b st = .ok (zfr (lowN n p)) st := by
  refine Wp.eq (wp_fn T.lowest rfl ?_)
  unfold b__law_lowest
  simp -dsimp only [ev.eq_1, ev.eq_2, ev.eq_3, ev.eq_4, ev.eq_5, ev.eq_6, ev.eq_7, ev.eq_8, ev.eq_9, ev.eq_10, ev.eq_11, ev.eq_12, ev.eq_13, ev.eq_14, ev.eq_15, ev.eq_16, ev.eq_19, ev.eq_20, ev.eq_21, ev.eq_22, ev.eq_23, ev.eq_24, ev.eq_25, ev.eq_26, ev.eq_28, ev.eq_29, ev.eq_30, ev.eq_31, ev.eq_32, evs.eq_1, evs.eq_2, evo.eq_1, evo.eq_2, evc.eq_1, evc.eq_2, rbind_ok, ↓Wp_ok, ↓Wp_bind, Wp_no, Wp_exn, calm_Wp, ↓Wp_ifno, ↓Wp_ite, Br_true, Br_false, Br_not, ofO_Wp, An_true, w_add, w_sub, w_mul, w_mod, w_fdiv, w_pow, w_strs, w_tups, w_lsts, c_lt, c_le, c_gt, c_ge, c_eqi, c_nei, c_eqs, c_nes, c_eqb, c_neb, c_isn, c_notn, nq_non, nq_int, nq_bl, nq_str, nq_lst, nq_tup, nq_ins, t_non, t_bl, t_int, t_lst, t_tup, ix_tup, ix_lst, ix_scr, atI_0, ↓Cn_nx, ↓Cn_bk, ↓Cn_ct, ↓Cn_rt, ↓w_nil, ↓w_cons, w_asg, w_ex, w_ret, w_retN, w_ife, w_ix, Rt_f, Rt_fn, Rt_t, Tn_nx, Tn_ct, Tn_bk, Tn_rt, bindT.eq_1, bindT.eq_2, bindT.eq_3, bindTs.eq_1, bindTs.eq_2, sa0, sa1, sa2, sa11, sa21, sa22, ss0, ss1, ss11, st0, st1, st2, w_append, atI_9, atI_10, atI_11, atI_12, atI_13, cut_9, cut_4, cut_5, List.drop_succ_cons, List.drop_zero, pw4, lg2, zfzL_strs, refsL_strs, ix_str, zsm, seqv, asKt, la1, stn, w_asgF, Ac_ins, putFs_nil, putFs_cons, putG, Nat.reduceLT,  zbools_map, zints_map, zints_int, zstrs_map, all_id, any_id, zsl, cut_1, cut_2, cut_3, cut_t1, cut_t2, cut_t3, cut_from, cut_to, cut_map, atI_map, atI_1, atI_2, atI_3, atI_4, atI_5, atI_6, atI_7, atI_8, nc0, nc1, nc2, nc3, nc4, nc5, nc6, drop_map', take_map', atI_neg1, c_eql, c_nel, Br_F, isL_lst, isL_str, isS_str, ds0, ds1, ds2, ds11, ds21, ds22, di0, w_augU, Ai_int, w_fzv, Av_z, refsL_ints, Wp_none, w_put, Ap_lst, mayW_int, mayW_str, mayW_bl, mayW_self, w_fzc, zfzL_ints, wipeE, List.getElem?_cons_zero, List.getElem?_cons_succ, List.set_cons_zero, List.set_cons_succ, Option.map_some, Option.bind_some, Option.map_none, startE, List.map_cons, List.map_nil, List.length_cons, List.length_nil, List.nil_append, List.cons_append, List.append_nil, List.reduceReplicate, Nat.reduceAdd, Nat.reduceSub, dr_int, dr_bl, dr_non, dr_str, dr_lst, dr_tup, dr_dic, dr_ins, dr_scr, zbf, zbf1, zbf2, zlen, zabs, zint, zlst, asKf, mkLf, mkLt, Bool.not_true, Bool.not_false, Bool.not_not, Bool.and_true, Bool.true_and, Bool.and_false, Bool.false_and, decide_eq_true_eq, decide_eq_false_iff_not, decide_true, decide_false, Bool.not_eq_true', eq_self_iff_true, not_false_eq_true, not_true_eq_false, Bool.false_eq_true, reduceCtorEq, if_true, if_false, ite_true, ite_false, Z.refs, refsL, List.all_nil, List.all_cons, List.take_length, isi_Wp, tyOf, isTy, List.any_cons, List.any_nil, Bool.or_false, Bool.false_or, Bool.or_true, Bool.true_or, String.reduceEq, String.reduceBEq, beq_self_eq_true, zfd_ins, getF, insM_ins, me_ok, Int.reduceLT, Int.reduceLE, Int.reduceEq, Int.reduceNeg, Int.reduceAdd, Int.reduceSub, Int.reduceMul, gt_iff_lt, ge_iff_le, and_true, true_and, and_self, and_false, false_and, implies_true, true_implies, Prod.mk.injEq, ne_eq, bne, divisor_eq T (n := n) (Nat.lt_of_lt_of_le (bd_mono hp2 hi) T.F.big), gcd_small hp (up_nat hp2 hi), zfr, lowN]
theorem wF_bd : ∀ {l : List (Int × Int)}, (∀ x ∈ l, Fr x) → (wF l).natAbs < 2 ^ (100 * l.length + 1)
  | [], _ => by decide
  | x :: l, h => by
    have := bd_mul (h x (by simp)).2.2 (wF_bd (l := l) fun y hy => h y (by simp [hy]))
    rw [wF]
    exact bd_mono this (by rw [List.length_cons]; omega)
theorem total_eq (T : Tab01 tab gv N) {l : List (Int × Int)} (hl : ∀ x ∈ l, Fr x) (h16 : l.length ≤ 16) {k b : Nat} {st : Sto} : run tab gv N (k + 3) "_law_total" [.lst (l.map zfr)] [] b st = .ok (zfr (sumF l)) st := by
  refine Wp.eq (wp_fn T.total rfl ?_)
  unfold b__law_total
  simp -dsimp only [ev.eq_1, ev.eq_2, ev.eq_3, ev.eq_4, ev.eq_5, ev.eq_6, ev.eq_7, ev.eq_8, ev.eq_9, ev.eq_10, ev.eq_11, ev.eq_12, ev.eq_13, ev.eq_14, ev.eq_15, ev.eq_16, ev.eq_19, ev.eq_20, ev.eq_21, ev.eq_22, ev.eq_23, ev.eq_24, ev.eq_25, ev.eq_26, ev.eq_28, ev.eq_29, ev.eq_30, ev.eq_31, ev.eq_32, evs.eq_1, evs.eq_2, evo.eq_1, evo.eq_2, evc.eq_1, evc.eq_2, rbind_ok, ↓Wp_ok, ↓Wp_bind, Wp_no, Wp_exn, calm_Wp, ↓Wp_ifno, ↓Wp_ite, Br_true, Br_false, Br_not, ofO_Wp, An_true, w_add, w_sub, w_mul, w_mod, w_fdiv, w_pow, w_strs, w_tups, w_lsts, c_lt, c_le, c_gt, c_ge, c_eqi, c_nei, c_eqs, c_nes, c_eqb, c_neb, c_isn, c_notn, nq_non, nq_int, nq_bl, nq_str, nq_lst, nq_tup, nq_ins, t_non, t_bl, t_int, t_lst, t_tup, ix_tup, ix_lst, ix_scr, atI_0, ↓Cn_nx, ↓Cn_bk, ↓Cn_ct, ↓Cn_rt, ↓w_nil, ↓w_cons, w_asg, w_ex, w_ret, w_retN, w_ife, w_ix, Rt_f, Rt_fn, Rt_t, Tn_nx, Tn_ct, Tn_bk, Tn_rt, bindT.eq_1, bindT.eq_2, bindT.eq_3, bindTs.eq_1, bindTs.eq_2, sa0, sa1, sa2, sa11, sa21, sa22, ss0, ss1, ss11, st0, st1, st2, w_append, atI_9, atI_10, atI_11, atI_12, atI_13, cut_9, cut_4, cut_5, List.drop_succ_cons, List.drop_zero, pw4, lg2, zfzL_strs, refsL_strs, ix_str, zsm, seqv, asKt, la1, stn, w_asgF, Ac_ins, putFs_nil, putFs_cons, putG, Nat.reduceLT,  zbools_map, zints_map, zints_int, zstrs_map, all_id, any_id, zsl, cut_1, cut_2, cut_3, cut_t1, cut_t2, cut_t3, cut_from, cut_to, cut_map, atI_map, atI_1, atI_2, atI_3, atI_4, atI_5, atI_6, atI_7, atI_8, nc0, nc1, nc2, nc3, nc4, nc5, nc6, drop_map', take_map', atI_neg1, c_eql, c_nel, Br_F, isL_lst, isL_str, isS_str, ds0, ds1, ds2, ds11, ds21, ds22, di0, w_augU, Ai_int, w_fzv, Av_z, refsL_ints, Wp_none, w_put, Ap_lst, mayW_int, mayW_str, mayW_bl, mayW_self, w_fzc, zfzL_ints, wipeE, List.getElem?_cons_zero, List.getElem?_cons_succ, List.set_cons_zero, List.set_cons_succ, Option.map_some, Option.bind_some, Option.map_none, startE, List.map_cons, List.map_nil, List.length_cons, List.length_nil, List.nil_append, List.cons_append, List.append_nil, List.reduceReplicate, Nat.reduceAdd, Nat.reduceSub, dr_int, dr_bl, dr_non, dr_str, dr_lst, dr_tup, dr_dic, dr_ins, dr_scr, zbf, zbf1, zbf2, zlen, zabs, zint, zlst, asKf, mkLf, mkLt, Bool.not_true, Bool.not_false, Bool.not_not, Bool.and_true, Bool.true_and, Bool.and_false, Bool.false_and, decide_eq_true_eq, decide_eq_false_iff_not, decide_true, decide_false, Bool.not_eq_true', eq_self_iff_true, not_false_eq_true, not_true_eq_false, Bool.false_eq_true, reduceCtorEq, if_true, if_false, ite_true, ite_false, Z.refs, refsL, List.all_nil, List.all_cons, List.take_length, isi_Wp, tyOf, isTy, List.any_cons, List.any_nil, Bool.or_false, Bool.false_or, Bool.or_true, Bool.true_or, String.reduceEq, String.reduceBEq, beq_self_eq_true, zfd_ins, getF, insM_ins, me_ok, Int.reduceLT, Int.reduceLE, Int.reduceEq, Int.reduceNeg, Int.reduceAdd, Int.reduceSub, Int.reduceMul, gt_iff_lt, ge_iff_le, and_true, true_and, and_self, and_false, false_and, implies_true, true_implies, Prod.mk.injEq, ne_eq, bne]
  refine wp_fo (zs := l.map zfr) (hs := [.lst (l.map zfr)]) (st1 := st) (fun j e s => s = st ∧ ∃ w e2 e3, e = [some (.lst (l.map zfr)), some (.int w), e2, e3] ∧ w * wF (l.drop j) = wF l ∧ w.natAbs < 2 ^ (100 * j + 1)) ?_ ⟨rfl, 1, _, _, rfl, by simp, by decide⟩ ?_ ?_
  · simp -dsimp only [ev.eq_1, ev.eq_2, ev.eq_3, ev.eq_4, ev.eq_5, ev.eq_6, ev.eq_7, ev.eq_8, ev.eq_9, ev.eq_10, ev.eq_11, ev.eq_12, ev.eq_13, ev.eq_14, ev.eq_15, ev.eq_16, ev.eq_19, ev.eq_20, ev.eq_21, ev.eq_22, ev.eq_23, ev.eq_24, ev.eq_25, ev.eq_26, ev.eq_28, ev.eq_29, ev.eq_30, ev.eq_31, ev.eq_32, evs.eq_1, evs.eq_2, evo.eq_1, evo.eq_2, evc.eq_1, evc.eq_2, rbind_ok, ↓Wp_ok, ↓Wp_bind, Wp_no, Wp_exn, calm_Wp, ↓Wp_ifno, ↓Wp_ite, Br_true, Br_false, Br_not, ofO_Wp, An_true, w_add, w_sub, w_mul, w_mod, w_fdiv, w_pow, w_strs, w_tups, w_lsts, c_lt, c_le, c_gt, c_ge, c_eqi, c_nei, c_eqs, c_nes, c_eqb, c_neb, c_isn, c_notn, nq_non, nq_int, nq_bl, nq_str, nq_lst, nq_tup, nq_ins, t_non, t_bl, t_int, t_lst, t_tup, ix_tup, ix_lst, ix_scr, atI_0, ↓Cn_nx, ↓Cn_bk, ↓Cn_ct, ↓Cn_rt, ↓w_nil, ↓w_cons, w_asg, w_ex, w_ret, w_retN, w_ife, w_ix, Rt_f, Rt_fn, Rt_t, Tn_nx, Tn_ct, Tn_bk, Tn_rt, bindT.eq_1, bindT.eq_2, bindT.eq_3, bindTs.eq_1, bindTs.eq_2, sa0, sa1, sa2, sa11, sa21, sa22, ss0, ss1, ss11, st0, st1, st2, w_append, atI_9, atI_10, atI_11, atI_12, atI_13, cut_9, cut_4, cut_5, List.drop_succ_cons, List.drop_zero, pw4, lg2, zfzL_strs, refsL_strs, ix_str, zsm, seqv, asKt, la1, stn, w_asgF, Ac_ins, putFs_nil, putFs_cons, putG, Nat.reduceLT,  zbools_map, zints_map, zints_int, zstrs_map, all_id, any_id, zsl, cut_1, cut_2, cut_3, cut_t1, cut_t2, cut_t3, cut_from, cut_to, cut_map, atI_map, atI_1, atI_2, atI_3, atI_4, atI_5, atI_6, atI_7, atI_8, nc0, nc1, nc2, nc3, nc4, nc5, nc6, drop_map', take_map', atI_neg1, c_eql, c_nel, Br_F, isL_lst, isL_str, isS_str, ds0, ds1, ds2, ds11, ds21, ds22, di0, w_augU, Ai_int, w_fzv, Av_z, refsL_ints, Wp_none, w_put, Ap_lst, mayW_int, mayW_str, mayW_bl, mayW_self, w_fzc, zfzL_ints, wipeE, List.getElem?_cons_zero, List.getElem?_cons_succ, List.set_cons_zero, List.set_cons_succ, Option.map_some, Option.bind_some, Option.map_none, startE, List.map_cons, List.map_nil, List.length_cons, List.length_nil, List.nil_append, List.cons_append, List.append_nil, List.reduceReplicate, Nat.reduceAdd, Nat.reduceSub, dr_int, dr_bl, dr_non, dr_str, dr_lst, dr_tup, dr_dic, dr_ins, dr_scr, zbf, zbf1, zbf2, zlen, zabs, zint, zlst, asKf, mkLf, mkLt, Bool.not_true, Bool.not_false, Bool.not_not, Bool.and_true, Bool.true_and, Bool.and_false, Bool.false_and, decide_eq_true_eq, decide_eq_false_iff_not, decide_true, decide_false, Bool.not_eq_true', eq_self_iff_true, not_false_eq_true, not_true_eq_false, Bool.false_eq_true, reduceCtorEq, if_true, if_false, ite_true, ite_false, Z.refs, refsL, List.all_nil, List.all_cons, List.take_length, isi_Wp, tyOf, isTy, List.any_cons, List.any_nil, Bool.or_false, Bool.false_or, Bool.or_true, Bool.true_or, String.reduceEq, String.reduceBEq, beq_self_eq_true, zfd_ins, getF, insM_ins, me_ok, Int.reduceLT, Int.reduceLE, Int.reduceEq, Int.reduceNeg, Int.reduceAdd, Int.reduceSub, Int.reduceMul, gt_iff_lt, ge_iff_le, and_true, true_and, and_self, and_false, false_and, implies_true, true_implies, Prod.mk.injEq, ne_eq, bne, evI]
  · rintro j hj e s ⟨rfl, w, e2, e3, rfl, hw, hb⟩
    have hj' : j < l.length := by simpa using hj
    have hx := hl l[j] (List.getElem_mem hj')
    have hdr : l.drop j = l[j] :: l.drop (j + 1) := List.drop_eq_getElem_cons hj'
    rw [hdr] at hw
    rw [List.getElem_map]
    generalize l[j] = x at hx hw
    obtain ⟨x1, x2⟩ := x
    refine ⟨stays_self, _, rfl, ?_⟩
    have b3 := bd_mul hb hx.2.2
    simp -dsimp only [ev.eq_1, ev.eq_2, ev.eq_3, ev.eq_4, ev.eq_5, ev.eq_6, ev.eq_7, ev.eq_8, ev.eq_9, ev.eq_10, ev.eq_11, ev.eq_12, ev.eq_13, ev.eq_14, ev.eq_15, ev.eq_16, ev.eq_19, ev.eq_20, ev.eq_21, ev.eq_22, ev.eq_23, ev.eq_24, ev.eq_25, ev.eq_26, ev.eq_28, ev.eq_29, ev.eq_30, ev.eq_31, ev.eq_32, evs.eq_1, evs.eq_2, evo.eq_1, evo.eq_2, evc.eq_1, evc.eq_2, rbind_ok, ↓Wp_ok, ↓Wp_bind, Wp_no, Wp_exn, calm_Wp, ↓Wp_ifno, ↓Wp_ite, Br_true, Br_false, Br_not, ofO_Wp, An_true, w_add, w_sub, w_mul, w_mod, w_fdiv, w_pow, w_strs, w_tups, w_lsts, c_lt, c_le, c_gt, c_ge, c_eqi, c_nei, c_eqs, c_nes, c_eqb, c_neb, c_isn, c_notn, nq_non, nq_int, nq_bl, nq_str, nq_lst, nq_tup, nq_ins, t_non, t_bl, t_int, t_lst, t_tup, ix_tup, ix_lst, ix_scr, atI_0, ↓Cn_nx, ↓Cn_bk, ↓Cn_ct, ↓Cn_rt, ↓w_nil, ↓w_cons, w_asg, w_ex, w_ret, w_retN, w_ife, w_ix, Rt_f, Rt_fn, Rt_t, Tn_nx, Tn_ct, Tn_bk, Tn_rt, bindT.eq_1, bindT.eq_2, bindT.eq_3, bindTs.eq_1, bindTs.eq_2, sa0, sa1, sa2, sa11, sa21, sa22, ss0, ss1, ss11, st0, st1, st2, w_append, atI_9, atI_10, atI_11, atI_12, atI_13, cut_9, cut_4, cut_5, List.drop_succ_cons, List.drop_zero, pw4, lg2, zfzL_strs, refsL_strs, ix_str, zsm, seqv, asKt, la1, stn, w_asgF, Ac_ins, putFs_nil, putFs_cons, putG, Nat.reduceLT,  zbools_map, zints_map, zints_int, zstrs_map, all_id, any_id, zsl, cut_1, cut_2, cut_3, cut_t1, cut_t2, cut_t3, cut_from, cut_to, cut_map, atI_map, atI_1, atI_2, atI_3, atI_4, atI_5, atI_6, atI_7, atI_8, nc0, nc1, nc2, nc3, nc4, nc5, nc6, drop_map', take_map', atI_neg1, c_eql, c_nel, Br_F, isL_lst, isL_str, isS_str, ds0, ds1, ds2, ds11, ds21, ds22, di0, w_augU, Ai_int, w_fzv, Av_z, refsL_ints, Wp_none, w_put, Ap_lst, mayW_int, mayW_str, mayW_bl, mayW_self, w_fzc, zfzL_ints, wipeE, List.getElem?_cons_zero, List.getElem?_cons_succ, List.set_cons_zero, List.set_cons_succ, Option.map_some, Option.bind_some, Option.map_none, startE, List.map_cons, List.map_nil, List.length_cons, List.length_nil, List.nil_append, List.cons_append, List.append_nil, List.reduceReplicate, Nat.reduceAdd, Nat.reduceSub, dr_int, dr_bl, dr_non, dr_str, dr_lst, dr_tup, dr_dic, dr_ins, dr_scr, zbf, zbf1, zbf2, zlen, zabs, zint, zlst, asKf, mkLf, mkLt, Bool.not_true, Bool.not_false, Bool.not_not, Bool.and_true, Bool.true_and, Bool.and_false, Bool.false_and, decide_eq_true_eq, decide_eq_false_iff_not, decide_true, decide_false, Bool.not_eq_true', eq_self_iff_true, not_false_eq_true, not_true_eq_false, Bool.false_eq_true, reduceCtorEq, if_true, if_false, ite_true, ite_false, Z.refs, refsL, List.all_nil, List.all_cons, List.take_length, isi_Wp, tyOf, isTy, List.any_cons, List.any_nil, Bool.or_false, Bool.false_or, Bool.or_true, Bool.true_or, String.reduceEq, String.reduceBEq, beq_self_eq_true, zfd_ins, getF, insM_ins, me_ok, Int.reduceLT, Int.reduceLE, Int.reduceEq, Int.reduceNeg, Int.reduceAdd, Int.reduceSub, Int.reduceMul, gt_iff_lt, ge_iff_le, and_true, true_and, and_self, and_false, false_and, implies_true, true_implies, Prod.mk.injEq, ne_eq, bne, bd_mulOk hb hx.2.2 (by omega)]
    exact ⟨_, _, _, rfl, by rw [← hw, wF, Int.mul_assoc], bd_mono b3 (by omega)⟩
  · rintro e s ⟨rfl, w, e2, e3, rfl, hw, hb⟩
    refine ⟨stays_self, ?_⟩
    rw [show l.drop (l.map zfr).length = [] by simp, wF, Int.mul_one] at hw
    subst hw
    have wb := wF_bd hl
    simp -dsimp only [ev.eq_1, ev.eq_2, ev.eq_3, ev.eq_4, ev.eq_5, ev.eq_6, ev.eq_7, ev.eq_8, ev.eq_9, ev.eq_10, ev.eq_11, ev.eq_12, ev.eq_13, ev.eq_14, ev.eq_15, ev.eq_16, ev.eq_19, ev.eq_20, ev.eq_21, ev.eq_22, ev.eq_23, ev.eq_24, ev.eq_25, ev.eq_26, ev.eq_28, ev.eq_29, ev.eq_30, ev.eq_31, ev.eq_32, evs.eq_1, evs.eq_2, evo.eq_1, evo.eq_2, evc.eq_1, evc.eq_2, rbind_ok, ↓Wp_ok, ↓Wp_bind, Wp_no, Wp_exn, calm_Wp, ↓Wp_ifno, ↓Wp_ite, Br_true, Br_false, Br_not, ofO_Wp, An_true, w_add, w_sub, w_mul, w_mod, w_fdiv, w_pow, w_strs, w_tups, w_lsts, c_lt, c_le, c_gt, c_ge, c_eqi, c_nei, c_eqs, c_nes, c_eqb, c_neb, c_isn, c_notn, nq_non, nq_int, nq_bl, nq_str, nq_lst, nq_tup, nq_ins, t_non, t_bl, t_int, t_lst, t_tup, ix_tup, ix_lst, ix_scr, atI_0, ↓Cn_nx, ↓Cn_bk, ↓Cn_ct, ↓Cn_rt, ↓w_nil, ↓w_cons, w_asg, w_ex, w_ret, w_retN, w_ife, w_ix, Rt_f, Rt_fn, Rt_t, Tn_nx, Tn_ct, Tn_bk, Tn_rt, bindT.eq_1, bindT.eq_2, bindT.eq_3, bindTs.eq_1, bindTs.eq_2, sa0, sa1, sa2, sa11, sa21, sa22, ss0, ss1, ss11, st0, st1, st2, w_append, atI_9, atI_10, atI_11, atI_12, atI_13, cut_9, cut_4, cut_5, List.drop_succ_cons, List.drop_zero, pw4, lg2, zfzL_strs, refsL_strs, ix_str, zsm, seqv, asKt, la1, stn, w_asgF, Ac_ins, putFs_nil, putFs_cons, putG, Nat.reduceLT,  zbools_map, zints_map, zints_int, zstrs_map, all_id, any_id, zsl, cut_1, cut_2, cut_3, cut_t1, cut_t2, cut_t3, cut_from, cut_to, cut_map, atI_map, atI_1, atI_2, atI_3, atI_4, atI_5, atI_6, atI_7, atI_8, nc0, nc1, nc2, nc3, nc4, nc5, nc6, drop_map', take_map', atI_neg1, c_eql, c_nel, Br_F, isL_lst, isL_str, isS_str, ds0, ds1, ds2, ds11, ds21, ds22, di0, w_augU, Ai_int, w_fzv, Av_z, refsL_ints, Wp_none, w_put, Ap_lst, mayW_int, mayW_str, mayW_bl, mayW_self, w_fzc, zfzL_ints, wipeE, List.getElem?_cons_zero, List.getElem?_cons_succ, List.set_cons_zero, List.set_cons_succ, Option.map_some, Option.bind_some, Option.map_none, startE, List.map_cons, List.map_nil, List.length_cons, List.length_nil, List.nil_append, List.cons_append, List.append_nil, List.reduceReplicate, Nat.reduceAdd, Nat.reduceSub, dr_int, dr_bl, dr_non, dr_str, dr_lst, dr_tup, dr_dic, dr_ins, dr_scr, zbf, zbf1, zbf2, zlen, zabs, zint, zlst, asKf, mkLf, mkLt, Bool.not_true, Bool.not_false, Bool.not_not, Bool.and_true, Bool.true_and, Bool.and_false, Bool.false_and, decide_eq_true_eq, decide_eq_false_iff_not, decide_true, decide_false, Bool.not_eq_true', eq_self_iff_true, not_false_eq_true, not_true_eq_false, Bool.false_eq_true, reduceCtorEq, if_true, if_false, ite_true, ite_false, Z.refs, refsL, List.all_nil, List.all_cons, List.take_length, isi_Wp, tyOf, isTy, List.any_cons, List.any_nil, Bool.or_false, Bool.false_or, Bool.or_true, Bool.true_or, String.reduceEq, String.reduceBEq, beq_self_eq_true, zfd_ins, getF, insM_ins, me_ok, Int.reduceLT, Int.reduceLE, Int.reduceEq, Int.reduceNeg, Int.reduceAdd, Int.reduceSub, Int.reduceMul, gt_iff_lt, ge_iff_le, and_true, true_and, and_self, and_false, false_and, implies_true, true_implies, Prod.mk.injEq, ne_eq, bne]
    refine wp_lcpi (xs := l) zfr (fun x => x.1 * (wF l / x.2)) (hs := [.lst (l.map zfr)]) (st1 := s) ?_ (fun x hx => ⟨_, rfl, ?_⟩) ?_
    · simp -dsimp only [ev.eq_1, ev.eq_2, ev.eq_3, ev.eq_4, ev.eq_5, ev.eq_6, ev.eq_7, ev.eq_8, ev.eq_9, ev.eq_10, ev.eq_11, ev.eq_12, ev.eq_13, ev.eq_14, ev.eq_15, ev.eq_16, ev.eq_19, ev.eq_20, ev.eq_21, ev.eq_22, ev.eq_23, ev.eq_24, ev.eq_25, ev.eq_26, ev.eq_28, ev.eq_29, ev.eq_30, ev.eq_31, ev.eq_32, evs.eq_1, evs.eq_2, evo.eq_1, evo.eq_2, evc.eq_1, evc.eq_2, rbind_ok, ↓Wp_ok, ↓Wp_bind, Wp_no, Wp_exn, calm_Wp, ↓Wp_ifno, ↓Wp_ite, Br_true, Br_false, Br_not, ofO_Wp, An_true, w_add, w_sub, w_mul, w_mod, w_fdiv, w_pow, w_strs, w_tups, w_lsts, c_lt, c_le, c_gt, c_ge, c_eqi, c_nei, c_eqs, c_nes, c_eqb, c_neb, c_isn, c_notn, nq_non, nq_int, nq_bl, nq_str, nq_lst, nq_tup, nq_ins, t_non, t_bl, t_int, t_lst, t_tup, ix_tup, ix_lst, ix_scr, atI_0, ↓Cn_nx, ↓Cn_bk, ↓Cn_ct, ↓Cn_rt, ↓w_nil, ↓w_cons, w_asg, w_ex, w_ret, w_retN, w_ife, w_ix, Rt_f, Rt_fn, Rt_t, Tn_nx, Tn_ct, Tn_bk, Tn_rt, bindT.eq_1, bindT.eq_2, bindT.eq_3, bindTs.eq_1, bindTs.eq_2, sa0, sa1, sa2, sa11, sa21, sa22, ss0, ss1, ss11, st0, st1, st2, w_append, atI_9, atI_10, atI_11, atI_12, atI_13, cut_9, cut_4, cut_5, List.drop_succ_cons, List.drop_zero, pw4, lg2, zfzL_strs, refsL_strs, ix_str, zsm, seqv, asKt, la1, stn, w_asgF, Ac_ins, putFs_nil, putFs_cons, putG, Nat.reduceLT,  zbools_map, zints_map, zints_int, zstrs_map, all_id, any_id, zsl, cut_1, cut_2, cut_3, cut_t1, cut_t2, cut_t3, cut_from, cut_to, cut_map, atI_map, atI_1, atI_2, atI_3, atI_4, atI_5, atI_6, atI_7, atI_8, nc0, nc1, nc2, nc3, nc4, nc5, nc6, drop_map', take_map', atI_neg1, c_eql, c_nel, Br_F, isL_lst, isL_str, isS_str, ds0, ds1, ds2, ds11, ds21, ds22, di0, w_augU, Ai_int, w_fzv, Av_z, refsL_ints, Wp_none, w_put, Ap_lst, mayW_int, mayW_str, mayW_bl, mayW_self, w_fzc, zfzL_ints, wipeE, List.getElem?_cons_zero, List.getElem?_cons_succ, List.set_cons_zero, List.set_cons_succ, Option.map_some, Option.bind_some, Option.map_none, startE, List.map_cons, List.map_nil, List.length_cons, List.length_nil, List.nil_append, List.cons_append, List.append_nil, List.reduceReplicate, Nat.reduceAdd, Nat.reduceSub, dr_int, dr_bl, dr_non, dr_str, dr_lst, dr_tup, dr_dic, dr_ins, dr_scr, zbf, zbf1, zbf2, zlen, zabs, zint, zlst, asKf, mkLf, mkLt, Bool.not_true, Bool.not_false, Bool.not_not, Bool.and_true, Bool.true_and, Bool.and_false, Bool.false_and, decide_eq_true_eq, decide_eq_false_iff_not, decide_true, decide_false, Bool.not_eq_true', eq_self_iff_true, not_false_eq_true, not_true_eq_false, Bool.false_eq_true, reduceCtorEq, if_true, if_false, ite_true, ite_false, Z.refs, refsL, List.all_nil, List.all_cons, List.take_length, isi_Wp, tyOf, isTy, List.any_cons, List.any_nil, Bool.or_false, Bool.false_or, Bool.or_true, Bool.true_or, String.reduceEq, String.reduceBEq, beq_self_eq_true, zfd_ins, getF, insM_ins, me_ok, Int.reduceLT, Int.reduceLE, Int.reduceEq, Int.reduceNeg, Int.reduceAdd, Int.reduceSub, Int.reduceMul, gt_iff_lt, ge_iff_le, and_true, true_and, and_self, and_false, false_and, implies_true, true_implies, Prod.mk.injEq, ne_eq, bne, evI]
    · have fx := hl x hx
      have lg : x.2.natAbs.log2 < 9000 := Nat.lt_trans ((Nat.log2_lt (by have h := fx.2.1; omega)).mpr fx.2.2) (by omega)
      have qb : (wF l / x.2).natAbs < 2 ^ (100 * l.length + 1) := by
        rw [Int.natAbs_ediv_of_dvd (wF_dvd x hx)]
        exact Nat.lt_of_le_of_lt (Nat.div_le_self _ _) wb
      simp -dsimp only [ev.eq_1, ev.eq_2, ev.eq_3, ev.eq_4, ev.eq_5, ev.eq_6, ev.eq_7, ev.eq_8, ev.eq_9, ev.eq_10, ev.eq_11, ev.eq_12, ev.eq_13, ev.eq_14, ev.eq_15, ev.eq_16, ev.eq_19, ev.eq_20, ev.eq_21, ev.eq_22, ev.eq_23, ev.eq_24, ev.eq_25, ev.eq_26, ev.eq_28, ev.eq_29, ev.eq_30, ev.eq_31, ev.eq_32, evs.eq_1, evs.eq_2, evo.eq_1, evo.eq_2, evc.eq_1, evc.eq_2, rbind_ok, ↓Wp_ok, ↓Wp_bind, Wp_no, Wp_exn, calm_Wp, ↓Wp_ifno, ↓Wp_ite, Br_true, Br_false, Br_not, ofO_Wp, An_true, w_add, w_sub, w_mul, w_mod, w_fdiv, w_pow, w_strs, w_tups, w_lsts, c_lt, c_le, c_gt, c_ge, c_eqi, c_nei, c_eqs, c_nes, c_eqb, c_neb, c_isn, c_notn, nq_non, nq_int, nq_bl, nq_str, nq_lst, nq_tup, nq_ins, t_non, t_bl, t_int, t_lst, t_tup, ix_tup, ix_lst, ix_scr, atI_0, ↓Cn_nx, ↓Cn_bk, ↓Cn_ct, ↓Cn_rt, ↓w_nil, ↓w_cons, w_asg, w_ex, w_ret, w_retN, w_ife, w_ix, Rt_f, Rt_fn, Rt_t, Tn_nx, Tn_ct, Tn_bk, Tn_rt, bindT.eq_1, bindT.eq_2, bindT.eq_3, bindTs.eq_1, bindTs.eq_2, sa0, sa1, sa2, sa11, sa21, sa22, ss0, ss1, ss11, st0, st1, st2, w_append, atI_9, atI_10, atI_11, atI_12, atI_13, cut_9, cut_4, cut_5, List.drop_succ_cons, List.drop_zero, pw4, lg2, zfzL_strs, refsL_strs, ix_str, zsm, seqv, asKt, la1, stn, w_asgF, Ac_ins, putFs_nil, putFs_cons, putG, Nat.reduceLT,  zbools_map, zints_map, zints_int, zstrs_map, all_id, any_id, zsl, cut_1, cut_2, cut_3, cut_t1, cut_t2, cut_t3, cut_from, cut_to, cut_map, atI_map, atI_1, atI_2, atI_3, atI_4, atI_5, atI_6, atI_7, atI_8, nc0, nc1, nc2, nc3, nc4, nc5, nc6, drop_map', take_map', atI_neg1, c_eql, c_nel, Br_F, isL_lst, isL_str, isS_str, ds0, ds1, ds2, ds11, ds21, ds22, di0, w_augU, Ai_int, w_fzv, Av_z, refsL_ints, Wp_none, w_put, Ap_lst, mayW_int, mayW_str, mayW_bl, mayW_self, w_fzc, zfzL_ints, wipeE, List.getElem?_cons_zero, List.getElem?_cons_succ, List.set_cons_zero, List.set_cons_succ, Option.map_some, Option.bind_some, Option.map_none, startE, List.map_cons, List.map_nil, List.length_cons, List.length_nil, List.nil_append, List.cons_append, List.append_nil, List.reduceReplicate, Nat.reduceAdd, Nat.reduceSub, dr_int, dr_bl, dr_non, dr_str, dr_lst, dr_tup, dr_dic, dr_ins, dr_scr, zbf, zbf1, zbf2, zlen, zabs, zint, zlst, asKf, mkLf, mkLt, Bool.not_true, Bool.not_false, Bool.not_not, Bool.and_true, Bool.true_and, Bool.and_false, Bool.false_and, decide_eq_true_eq, decide_eq_false_iff_not, decide_true, decide_false, Bool.not_eq_true', eq_self_iff_true, not_false_eq_true, not_true_eq_false, Bool.false_eq_true, reduceCtorEq, if_true, if_false, ite_true, ite_false, Z.refs, refsL, List.all_nil, List.all_cons, List.take_length, isi_Wp, tyOf, isTy, List.any_cons, List.any_nil, Bool.or_false, Bool.false_or, Bool.or_true, Bool.true_or, String.reduceEq, String.reduceBEq, beq_self_eq_true, zfd_ins, getF, insM_ins, me_ok, Int.reduceLT, Int.reduceLE, Int.reduceEq, Int.reduceNeg, Int.reduceAdd, Int.reduceSub, Int.reduceMul, gt_iff_lt, ge_iff_le, and_true, true_and, and_self, and_false, false_and, implies_true, true_implies, Prod.mk.injEq, ne_eq, bne, fx.2.1, lg, bd_mulOk fx.1 qb (by omega)]
    have wp : 0 < wF l := wF_pos fun x hx => (hl x hx).2.1
    simp -dsimp only [ev.eq_1, ev.eq_2, ev.eq_3, ev.eq_4, ev.eq_5, ev.eq_6, ev.eq_7, ev.eq_8, ev.eq_9, ev.eq_10, ev.eq_11, ev.eq_12, ev.eq_13, ev.eq_14, ev.eq_15, ev.eq_16, ev.eq_19, ev.eq_20, ev.eq_21, ev.eq_22, ev.eq_23, ev.eq_24, ev.eq_25, ev.eq_26, ev.eq_28, ev.eq_29, ev.eq_30, ev.eq_31, ev.eq_32, evs.eq_1, evs.eq_2, evo.eq_1, evo.eq_2, evc.eq_1, evc.eq_2, rbind_ok, ↓Wp_ok, ↓Wp_bind, Wp_no, Wp_exn, calm_Wp, ↓Wp_ifno, ↓Wp_ite, Br_true, Br_false, Br_not, ofO_Wp, An_true, w_add, w_sub, w_mul, w_mod, w_fdiv, w_pow, w_strs, w_tups, w_lsts, c_lt, c_le, c_gt, c_ge, c_eqi, c_nei, c_eqs, c_nes, c_eqb, c_neb, c_isn, c_notn, nq_non, nq_int, nq_bl, nq_str, nq_lst, nq_tup, nq_ins, t_non, t_bl, t_int, t_lst, t_tup, ix_tup, ix_lst, ix_scr, atI_0, ↓Cn_nx, ↓Cn_bk, ↓Cn_ct, ↓Cn_rt, ↓w_nil, ↓w_cons, w_asg, w_ex, w_ret, w_retN, w_ife, w_ix, Rt_f, Rt_fn, Rt_t, Tn_nx, Tn_ct, Tn_bk, Tn_rt, bindT.eq_1, bindT.eq_2, bindT.eq_3, bindTs.eq_1, bindTs.eq_2, sa0, sa1, sa2, sa11, sa21, sa22, ss0, ss1, ss11, st0, st1, st2, w_append, atI_9, atI_10, atI_11, atI_12, atI_13, cut_9, cut_4, cut_5, List.drop_succ_cons, List.drop_zero, pw4, lg2, zfzL_strs, refsL_strs, ix_str, zsm, seqv, asKt, la1, stn, w_asgF, Ac_ins, putFs_nil, putFs_cons, putG, Nat.reduceLT,  zbools_map, zints_map, zints_int, zstrs_map, all_id, any_id, zsl, cut_1, cut_2, cut_3, cut_t1, cut_t2, cut_t3, cut_from, cut_to, cut_map, atI_map, atI_1, atI_2, atI_3, atI_4, atI_5, atI_6, atI_7, atI_8, nc0, nc1, nc2, nc3, nc4, nc5, nc6, drop_map', take_map', atI_neg1, c_eql, c_nel, Br_F, isL_lst, isL_str, isS_str, ds0, ds1, ds2, ds11, ds21, ds22, di0, w_augU, Ai_int, w_fzv, Av_z, refsL_ints, Wp_none, w_put, Ap_lst, mayW_int, mayW_str, mayW_bl, mayW_self, w_fzc, zfzL_ints, wipeE, List.getElem?_cons_zero, List.getElem?_cons_succ, List.set_cons_zero, List.set_cons_succ, Option.map_some, Option.bind_some, Option.map_none, startE, List.map_cons, List.map_nil, List.length_cons, List.length_nil, List.nil_append, List.cons_append, List.append_nil, List.reduceReplicate, Nat.reduceAdd, Nat.reduceSub, dr_int, dr_bl, dr_non, dr_str, dr_lst, dr_tup, dr_dic, dr_ins, dr_scr, zbf, zbf1, zbf2, zlen, zabs, zint, zlst, asKf, mkLf, mkLt, Bool.not_true, Bool.not_false, Bool.not_not, Bool.and_true, Bool.true_and, Bool.and_false, Bool.false_and, decide_eq_true_eq, decide_eq_false_iff_not, decide_true, decide_false, Bool.not_eq_true', eq_self_iff_true, not_false_eq_true, not_true_eq_false, Bool.false_eq_true, reduceCtorEq, if_true, if_false, ite_true, ite_false, Z.refs, refsL, List.all_nil, List.all_cons, List.take_length, isi_Wp, tyOf, isTy, List.any_cons, List.any_nil, Bool.or_false, Bool.false_or, Bool.or_true, Bool.true_or, String.reduceEq, String.reduceBEq, beq_self_eq_true, zfd_ins, getF, insM_ins, me_ok, Int.reduceLT, Int.reduceLE, Int.reduceEq, Int.reduceNeg, Int.reduceAdd, Int.reduceSub, Int.reduceMul, gt_iff_lt, ge_iff_le, and_true, true_and, and_self, and_false, false_and, implies_true, true_implies, Prod.mk.injEq, ne_eq, bne, zints_int, lowest_eq T (n := (l.map fun x => x.1 * (wF l / x.2)).sum) wp wb (by omega)]
    rw [sumF_eq fun x hx => (hl x hx).2.1]
    simp -dsimp only [ev.eq_1, ev.eq_2, ev.eq_3, ev.eq_4, ev.eq_5, ev.eq_6, ev.eq_7, ev.eq_8, ev.eq_9, ev.eq_10, ev.eq_11, ev.eq_12, ev.eq_13, ev.eq_14, ev.eq_15, ev.eq_16, ev.eq_19, ev.eq_20, ev.eq_21, ev.eq_22, ev.eq_23, ev.eq_24, ev.eq_25, ev.eq_26, ev.eq_28, ev.eq_29, ev.eq_30, ev.eq_31, ev.eq_32, evs.eq_1, evs.eq_2, evo.eq_1, evo.eq_2, evc.eq_1, evc.eq_2, rbind_ok, ↓Wp_ok, ↓Wp_bind, Wp_no, Wp_exn, calm_Wp, ↓Wp_ifno, ↓Wp_ite, Br_true, Br_false, Br_not, ofO_Wp, An_true, w_add, w_sub, w_mul, w_mod, w_fdiv, w_pow, w_strs, w_tups, w_lsts, c_lt, c_le, c_gt, c_ge, c_eqi, c_nei, c_eqs, c_nes, c_eqb, c_neb, c_isn, c_notn, nq_non, nq_int, nq_bl, nq_str, nq_lst, nq_tup, nq_ins, t_non, t_bl, t_int, t_lst, t_tup, ix_tup, ix_lst, ix_scr, atI_0, ↓Cn_nx, ↓Cn_bk, ↓Cn_ct, ↓Cn_rt, ↓w_nil, ↓w_cons, w_asg, w_ex, w_ret, w_retN, w_ife, w_ix, Rt_f, Rt_fn, Rt_t, Tn_nx, Tn_ct, Tn_bk, Tn_rt, bindT.eq_1, bindT.eq_2, bindT.eq_3, bindTs.eq_1, bindTs.eq_2, sa0, sa1, sa2, sa11, sa21, sa22, ss0, ss1, ss11, st0, st1, st2, w_append, atI_9, atI_10, atI_11, atI_12, atI_13, cut_9, cut_4, cut_5, List.drop_succ_cons, List.drop_zero, pw4, lg2, zfzL_strs, refsL_strs, ix_str, zsm, seqv, asKt, la1, stn, w_asgF, Ac_ins, putFs_nil, putFs_cons, putG, Nat.reduceLT,  zbools_map, zints_map, zints_int, zstrs_map, all_id, any_id, zsl, cut_1, cut_2, cut_3, cut_t1, cut_t2, cut_t3, cut_from, cut_to, cut_map, atI_map, atI_1, atI_2, atI_3, atI_4, atI_5, atI_6, atI_7, atI_8, nc0, nc1, nc2, nc3, nc4, nc5, nc6, drop_map', take_map', atI_neg1, c_eql, c_nel, Br_F, isL_lst, isL_str, isS_str, ds0, ds1, ds2, ds11, ds21, ds22, di0, w_augU, Ai_int, w_fzv, Av_z, refsL_ints, Wp_none, w_put, Ap_lst, mayW_int, mayW_str, mayW_bl, mayW_self, w_fzc, zfzL_ints, wipeE, List.getElem?_cons_zero, List.getElem?_cons_succ, List.set_cons_zero, List.set_cons_succ, Option.map_some, Option.bind_some, Option.map_none, startE, List.map_cons, List.map_nil, List.length_cons, List.length_nil, List.nil_append, List.cons_append, List.append_nil, List.reduceReplicate, Nat.reduceAdd, Nat.reduceSub, dr_int, dr_bl, dr_non, dr_str, dr_lst, dr_tup, dr_dic, dr_ins, dr_scr, zbf, zbf1, zbf2, zlen, zabs, zint, zlst, asKf, mkLf, mkLt, Bool.not_true, Bool.not_false, Bool.not_not, Bool.and_true, Bool.true_and, Bool.and_false, Bool.false_and, decide_eq_true_eq, decide_eq_false_iff_not, decide_true, decide_false, Bool.not_eq_true', eq_self_iff_true, not_false_eq_true, not_true_eq_false, Bool.false_eq_true, reduceCtorEq, if_true, if_false, ite_true, ite_false, Z.refs, refsL, List.all_nil, List.all_cons, List.take_length, isi_Wp, tyOf, isTy, List.any_cons, List.any_nil, Bool.or_false, Bool.false_or, Bool.or_true, Bool.true_or, String.reduceEq, String.reduceBEq, beq_self_eq_true, zfd_ins, getF, insM_ins, me_ok, Int.reduceLT, Int.reduceLE, Int.reduceEq, Int.reduceNeg, Int.reduceAdd, Int.reduceSub, Int.reduceMul, gt_iff_lt, ge_iff_le, and_true, true_and, and_self, and_false, false_and, implies_true, true_implies, Prod.mk.injEq, ne_eq, bne, refs_zfr]
    rfl
theorem pw12 {st : Sto} : zbin .pow st (.int 10) (.int 12) = some (.int 1000000000000) := (rfl)
theorem pw9 {st : Sto} : zbin .pow st (.int 10) (.int 9) = some (.int 1000000000) := (rfl)
theorem worth_w (T : Tab01 tab gv N) {B : Int} {n k b : Nat} {st : Sto} (t : Tape st n B) (hB : B + 11 < 1000000000) {Q : Z → Sto → Prop}
    (q : ∀ (x : Int × Int) (s' : Sto), Fr x → s'.length = st.length → Tape s' n (B + 11) → Onl n st s' → Q (zfr x) s') : Wp (run tab gv N (k + 2) "_law_worth" [.cel n] [] b st) Q := by
  refine wp_fn T.worth rfl ?_
  unfold b__law_worth
  simp -dsimp only [ev.eq_1, ev.eq_2, ev.eq_3, ev.eq_4, ev.eq_5, ev.eq_6, ev.eq_7, ev.eq_8, ev.eq_9, ev.eq_10, ev.eq_11, ev.eq_12, ev.eq_13, ev.eq_14, ev.eq_15, ev.eq_16, ev.eq_19, ev.eq_20, ev.eq_21, ev.eq_22, ev.eq_23, ev.eq_24, ev.eq_25, ev.eq_26, ev.eq_28, ev.eq_29, ev.eq_30, ev.eq_31, ev.eq_32, evs.eq_1, evs.eq_2, evo.eq_1, evo.eq_2, evc.eq_1, evc.eq_2, rbind_ok, ↓Wp_ok, ↓Wp_bind, Wp_no, Wp_exn, calm_Wp, ↓Wp_ifno, ↓Wp_ite, Br_true, Br_false, Br_not, ofO_Wp, An_true, w_add, w_sub, w_mul, w_mod, w_fdiv, w_pow, w_strs, w_tups, w_lsts, c_lt, c_le, c_gt, c_ge, c_eqi, c_nei, c_eqs, c_nes, c_eqb, c_neb, c_isn, c_notn, nq_non, nq_int, nq_bl, nq_str, nq_lst, nq_tup, nq_ins, t_non, t_bl, t_int, t_lst, t_tup, ix_tup, ix_lst, ix_scr, atI_0, ↓Cn_nx, ↓Cn_bk, ↓Cn_ct, ↓Cn_rt, ↓w_nil, ↓w_cons, w_asg, w_ex, w_ret, w_retN, w_ife, w_ix, Rt_f, Rt_fn, Rt_t, Tn_nx, Tn_ct, Tn_bk, Tn_rt, bindT.eq_1, bindT.eq_2, bindT.eq_3, bindTs.eq_1, bindTs.eq_2, sa0, sa1, sa2, sa11, sa21, sa22, ss0, ss1, ss11, st0, st1, st2, w_append, atI_9, atI_10, atI_11, atI_12, atI_13, cut_9, cut_4, cut_5, List.drop_succ_cons, List.drop_zero, pw4, lg2, zfzL_strs, refsL_strs, ix_str, zsm, seqv, asKt, la1, stn, w_asgF, Ac_ins, putFs_nil, putFs_cons, putG, Nat.reduceLT,  zbools_map, zints_map, zints_int, zstrs_map, all_id, any_id, zsl, cut_1, cut_2, cut_3, cut_t1, cut_t2, cut_t3, cut_from, cut_to, cut_map, atI_map, atI_1, atI_2, atI_3, atI_4, atI_5, atI_6, atI_7, atI_8, nc0, nc1, nc2, nc3, nc4, nc5, nc6, drop_map', take_map', atI_neg1, c_eql, c_nel, Br_F, isL_lst, isL_str, isS_str, ds0, ds1, ds2, ds11, ds21, ds22, di0, w_augU, Ai_int, w_fzv, Av_z, refsL_ints, Wp_none, w_put, Ap_lst, mayW_int, mayW_str, mayW_bl, mayW_self, w_fzc, zfzL_ints, wipeE, List.getElem?_cons_zero, List.getElem?_cons_succ, List.set_cons_zero, List.set_cons_succ, Option.map_some, Option.bind_some, Option.map_none, startE, List.map_cons, List.map_nil, List.length_cons, List.length_nil, List.nil_append, List.cons_append, List.append_nil, List.reduceReplicate, Nat.reduceAdd, Nat.reduceSub, dr_int, dr_bl, dr_non, dr_str, dr_lst, dr_tup, dr_dic, dr_ins, dr_scr, zbf, zbf1, zbf2, zlen, zabs, zint, zlst, asKf, mkLf, mkLt, Bool.not_true, Bool.not_false, Bool.not_not, Bool.and_true, Bool.true_and, Bool.and_false, Bool.false_and, decide_eq_true_eq, decide_eq_false_iff_not, decide_true, decide_false, Bool.not_eq_true', eq_self_iff_true, not_false_eq_true, not_true_eq_false, Bool.false_eq_true, reduceCtorEq, if_true, if_false, ite_true, ite_false, Z.refs, refsL, List.all_nil, List.all_cons, List.take_length, isi_Wp, tyOf, isTy, List.any_cons, List.any_nil, Bool.or_false, Bool.false_or, Bool.or_true, Bool.true_or, String.reduceEq, String.reduceBEq, beq_self_eq_true, zfd_ins, getF, insM_ins, me_ok, Int.reduceLT, Int.reduceLE, Int.reduceEq, Int.reduceNeg, Int.reduceAdd, Int.reduceSub, Int.reduceMul, gt_iff_lt, ge_iff_le, and_true, true_and, and_self, and_false, false_and, implies_true, true_implies, Prod.mk.injEq, ne_eq, bne, pw12, pw9]
  refine draw_w T.draw t (by omega) (by omega) (by omega) fun d1 s1 a1 b1 l1 t1 o1 => ?_
  simp -dsimp only [ev.eq_1, ev.eq_2, ev.eq_3, ev.eq_4, ev.eq_5, ev.eq_6, ev.eq_7, ev.eq_8, ev.eq_9, ev.eq_10, ev.eq_11, ev.eq_12, ev.eq_13, ev.eq_14, ev.eq_15, ev.eq_16, ev.eq_19, ev.eq_20, ev.eq_21, ev.eq_22, ev.eq_23, ev.eq_24, ev.eq_25, ev.eq_26, ev.eq_28, ev.eq_29, ev.eq_30, ev.eq_31, ev.eq_32, evs.eq_1, evs.eq_2, evo.eq_1, evo.eq_2, evc.eq_1, evc.eq_2, rbind_ok, ↓Wp_ok, ↓Wp_bind, Wp_no, Wp_exn, calm_Wp, ↓Wp_ifno, ↓Wp_ite, Br_true, Br_false, Br_not, ofO_Wp, An_true, w_add, w_sub, w_mul, w_mod, w_fdiv, w_pow, w_strs, w_tups, w_lsts, c_lt, c_le, c_gt, c_ge, c_eqi, c_nei, c_eqs, c_nes, c_eqb, c_neb, c_isn, c_notn, nq_non, nq_int, nq_bl, nq_str, nq_lst, nq_tup, nq_ins, t_non, t_bl, t_int, t_lst, t_tup, ix_tup, ix_lst, ix_scr, atI_0, ↓Cn_nx, ↓Cn_bk, ↓Cn_ct, ↓Cn_rt, ↓w_nil, ↓w_cons, w_asg, w_ex, w_ret, w_retN, w_ife, w_ix, Rt_f, Rt_fn, Rt_t, Tn_nx, Tn_ct, Tn_bk, Tn_rt, bindT.eq_1, bindT.eq_2, bindT.eq_3, bindTs.eq_1, bindTs.eq_2, sa0, sa1, sa2, sa11, sa21, sa22, ss0, ss1, ss11, st0, st1, st2, w_append, atI_9, atI_10, atI_11, atI_12, atI_13, cut_9, cut_4, cut_5, List.drop_succ_cons, List.drop_zero, pw4, lg2, zfzL_strs, refsL_strs, ix_str, zsm, seqv, asKt, la1, stn, w_asgF, Ac_ins, putFs_nil, putFs_cons, putG, Nat.reduceLT,  zbools_map, zints_map, zints_int, zstrs_map, all_id, any_id, zsl, cut_1, cut_2, cut_3, cut_t1, cut_t2, cut_t3, cut_from, cut_to, cut_map, atI_map, atI_1, atI_2, atI_3, atI_4, atI_5, atI_6, atI_7, atI_8, nc0, nc1, nc2, nc3, nc4, nc5, nc6, drop_map', take_map', atI_neg1, c_eql, c_nel, Br_F, isL_lst, isL_str, isS_str, ds0, ds1, ds2, ds11, ds21, ds22, di0, w_augU, Ai_int, w_fzv, Av_z, refsL_ints, Wp_none, w_put, Ap_lst, mayW_int, mayW_str, mayW_bl, mayW_self, w_fzc, zfzL_ints, wipeE, List.getElem?_cons_zero, List.getElem?_cons_succ, List.set_cons_zero, List.set_cons_succ, Option.map_some, Option.bind_some, Option.map_none, startE, List.map_cons, List.map_nil, List.length_cons, List.length_nil, List.nil_append, List.cons_append, List.append_nil, List.reduceReplicate, Nat.reduceAdd, Nat.reduceSub, dr_int, dr_bl, dr_non, dr_str, dr_lst, dr_tup, dr_dic, dr_ins, dr_scr, zbf, zbf1, zbf2, zlen, zabs, zint, zlst, asKf, mkLf, mkLt, Bool.not_true, Bool.not_false, Bool.not_not, Bool.and_true, Bool.true_and, Bool.and_false, Bool.false_and, decide_eq_true_eq, decide_eq_false_iff_not, decide_true, decide_false, Bool.not_eq_true', eq_self_iff_true, not_false_eq_true, not_true_eq_false, Bool.false_eq_true, reduceCtorEq, if_true, if_false, ite_true, ite_false, Z.refs, refsL, List.all_nil, List.all_cons, List.take_length, isi_Wp, tyOf, isTy, List.any_cons, List.any_nil, Bool.or_false, Bool.false_or, Bool.or_true, Bool.true_or, String.reduceEq, String.reduceBEq, beq_self_eq_true, zfd_ins, getF, insM_ins, me_ok, Int.reduceLT, Int.reduceLE, Int.reduceEq, Int.reduceNeg, Int.reduceAdd, Int.reduceSub, Int.reduceMul, gt_iff_lt, ge_iff_le, and_true, true_and, and_self, and_false, false_and, implies_true, true_implies, Prod.mk.injEq, ne_eq, bne, pw12]
  refine draw_w T.draw t1 (by omega) (by omega) (by omega) fun d2 s2 a2 b2 l2 t2 o2 => ?_
  simp -dsimp only [ev.eq_1, ev.eq_2, ev.eq_3, ev.eq_4, ev.eq_5, ev.eq_6, ev.eq_7, ev.eq_8, ev.eq_9, ev.eq_10, ev.eq_11, ev.eq_12, ev.eq_13, ev.eq_14, ev.eq_15, ev.eq_16, ev.eq_19, ev.eq_20, ev.eq_21, ev.eq_22, ev.eq_23, ev.eq_24, ev.eq_25, ev.eq_26, ev.eq_28, ev.eq_29, ev.eq_30, ev.eq_31, ev.eq_32, evs.eq_1, evs.eq_2, evo.eq_1, evo.eq_2, evc.eq_1, evc.eq_2, rbind_ok, ↓Wp_ok, ↓Wp_bind, Wp_no, Wp_exn, calm_Wp, ↓Wp_ifno, ↓Wp_ite, Br_true, Br_false, Br_not, ofO_Wp, An_true, w_add, w_sub, w_mul, w_mod, w_fdiv, w_pow, w_strs, w_tups, w_lsts, c_lt, c_le, c_gt, c_ge, c_eqi, c_nei, c_eqs, c_nes, c_eqb, c_neb, c_isn, c_notn, nq_non, nq_int, nq_bl, nq_str, nq_lst, nq_tup, nq_ins, t_non, t_bl, t_int, t_lst, t_tup, ix_tup, ix_lst, ix_scr, atI_0, ↓Cn_nx, ↓Cn_bk, ↓Cn_ct, ↓Cn_rt, ↓w_nil, ↓w_cons, w_asg, w_ex, w_ret, w_retN, w_ife, w_ix, Rt_f, Rt_fn, Rt_t, Tn_nx, Tn_ct, Tn_bk, Tn_rt, bindT.eq_1, bindT.eq_2, bindT.eq_3, bindTs.eq_1, bindTs.eq_2, sa0, sa1, sa2, sa11, sa21, sa22, ss0, ss1, ss11, st0, st1, st2, w_append, atI_9, atI_10, atI_11, atI_12, atI_13, cut_9, cut_4, cut_5, List.drop_succ_cons, List.drop_zero, pw4, lg2, zfzL_strs, refsL_strs, ix_str, zsm, seqv, asKt, la1, stn, w_asgF, Ac_ins, putFs_nil, putFs_cons, putG, Nat.reduceLT,  zbools_map, zints_map, zints_int, zstrs_map, all_id, any_id, zsl, cut_1, cut_2, cut_3, cut_t1, cut_t2, cut_t3, cut_from, cut_to, cut_map, atI_map, atI_1, atI_2, atI_3, atI_4, atI_5, atI_6, atI_7, atI_8, nc0, nc1, nc2, nc3, nc4, nc5, nc6, drop_map', take_map', atI_neg1, c_eql, c_nel, Br_F, isL_lst, isL_str, isS_str, ds0, ds1, ds2, ds11, ds21, ds22, di0, w_augU, Ai_int, w_fzv, Av_z, refsL_ints, Wp_none, w_put, Ap_lst, mayW_int, mayW_str, mayW_bl, mayW_self, w_fzc, zfzL_ints, wipeE, List.getElem?_cons_zero, List.getElem?_cons_succ, List.set_cons_zero, List.set_cons_succ, Option.map_some, Option.bind_some, Option.map_none, startE, List.map_cons, List.map_nil, List.length_cons, List.length_nil, List.nil_append, List.cons_append, List.append_nil, List.reduceReplicate, Nat.reduceAdd, Nat.reduceSub, dr_int, dr_bl, dr_non, dr_str, dr_lst, dr_tup, dr_dic, dr_ins, dr_scr, zbf, zbf1, zbf2, zlen, zabs, zint, zlst, asKf, mkLf, mkLt, Bool.not_true, Bool.not_false, Bool.not_not, Bool.and_true, Bool.true_and, Bool.and_false, Bool.false_and, decide_eq_true_eq, decide_eq_false_iff_not, decide_true, decide_false, Bool.not_eq_true', eq_self_iff_true, not_false_eq_true, not_true_eq_false, Bool.false_eq_true, reduceCtorEq, if_true, if_false, ite_true, ite_false, Z.refs, refsL, List.all_nil, List.all_cons, List.take_length, isi_Wp, tyOf, isTy, List.any_cons, List.any_nil, Bool.or_false, Bool.false_or, Bool.or_true, Bool.true_or, String.reduceEq, String.reduceBEq, beq_self_eq_true, zfd_ins, getF, insM_ins, me_ok, Int.reduceLT, Int.reduceLE, Int.reduceEq, Int.reduceNeg, Int.reduceAdd, Int.reduceSub, Int.reduceMul, gt_iff_lt, ge_iff_le, and_true, true_and, and_self, and_false, false_and, implies_true, true_implies, Prod.mk.injEq, ne_eq, bne, pw12]
  refine draw_w T.draw t2 (by omega) (by omega) (by omega) fun d3 s3 a3 b3 l3 t3 o3 => ?_
  have u2 : d2.natAbs < 2 ^ 40 := by omega
  have u3 : d3.natAbs < 2 ^ 40 := by omega
  have u4 := bd_mul u2 u3
  simp -dsimp only [ev.eq_1, ev.eq_2, ev.eq_3, ev.eq_4, ev.eq_5, ev.eq_6, ev.eq_7, ev.eq_8, ev.eq_9, ev.eq_10, ev.eq_11, ev.eq_12, ev.eq_13, ev.eq_14, ev.eq_15, ev.eq_16, ev.eq_19, ev.eq_20, ev.eq_21, ev.eq_22, ev.eq_23, ev.eq_24, ev.eq_25, ev.eq_26, ev.eq_28, ev.eq_29, ev.eq_30, ev.eq_31, ev.eq_32, evs.eq_1, evs.eq_2, evo.eq_1, evo.eq_2, evc.eq_1, evc.eq_2, rbind_ok, ↓Wp_ok, ↓Wp_bind, Wp_no, Wp_exn, calm_Wp, ↓Wp_ifno, ↓Wp_ite, Br_true, Br_false, Br_not, ofO_Wp, An_true, w_add, w_sub, w_mul, w_mod, w_fdiv, w_pow, w_strs, w_tups, w_lsts, c_lt, c_le, c_gt, c_ge, c_eqi, c_nei, c_eqs, c_nes, c_eqb, c_neb, c_isn, c_notn, nq_non, nq_int, nq_bl, nq_str, nq_lst, nq_tup, nq_ins, t_non, t_bl, t_int, t_lst, t_tup, ix_tup, ix_lst, ix_scr, atI_0, ↓Cn_nx, ↓Cn_bk, ↓Cn_ct, ↓Cn_rt, ↓w_nil, ↓w_cons, w_asg, w_ex, w_ret, w_retN, w_ife, w_ix, Rt_f, Rt_fn, Rt_t, Tn_nx, Tn_ct, Tn_bk, Tn_rt, bindT.eq_1, bindT.eq_2, bindT.eq_3, bindTs.eq_1, bindTs.eq_2, sa0, sa1, sa2, sa11, sa21, sa22, ss0, ss1, ss11, st0, st1, st2, w_append, atI_9, atI_10, atI_11, atI_12, atI_13, cut_9, cut_4, cut_5, List.drop_succ_cons, List.drop_zero, pw4, lg2, zfzL_strs, refsL_strs, ix_str, zsm, seqv, asKt, la1, stn, w_asgF, Ac_ins, putFs_nil, putFs_cons, putG, Nat.reduceLT,  zbools_map, zints_map, zints_int, zstrs_map, all_id, any_id, zsl, cut_1, cut_2, cut_3, cut_t1, cut_t2, cut_t3, cut_from, cut_to, cut_map, atI_map, atI_1, atI_2, atI_3, atI_4, atI_5, atI_6, atI_7, atI_8, nc0, nc1, nc2, nc3, nc4, nc5, nc6, drop_map', take_map', atI_neg1, c_eql, c_nel, Br_F, isL_lst, isL_str, isS_str, ds0, ds1, ds2, ds11, ds21, ds22, di0, w_augU, Ai_int, w_fzv, Av_z, refsL_ints, Wp_none, w_put, Ap_lst, mayW_int, mayW_str, mayW_bl, mayW_self, w_fzc, zfzL_ints, wipeE, List.getElem?_cons_zero, List.getElem?_cons_succ, List.set_cons_zero, List.set_cons_succ, Option.map_some, Option.bind_some, Option.map_none, startE, List.map_cons, List.map_nil, List.length_cons, List.length_nil, List.nil_append, List.cons_append, List.append_nil, List.reduceReplicate, Nat.reduceAdd, Nat.reduceSub, dr_int, dr_bl, dr_non, dr_str, dr_lst, dr_tup, dr_dic, dr_ins, dr_scr, zbf, zbf1, zbf2, zlen, zabs, zint, zlst, asKf, mkLf, mkLt, Bool.not_true, Bool.not_false, Bool.not_not, Bool.and_true, Bool.true_and, Bool.and_false, Bool.false_and, decide_eq_true_eq, decide_eq_false_iff_not, decide_true, decide_false, Bool.not_eq_true', eq_self_iff_true, not_false_eq_true, not_true_eq_false, Bool.false_eq_true, reduceCtorEq, if_true, if_false, ite_true, ite_false, Z.refs, refsL, List.all_nil, List.all_cons, List.take_length, isi_Wp, tyOf, isTy, List.any_cons, List.any_nil, Bool.or_false, Bool.false_or, Bool.or_true, Bool.true_or, String.reduceEq, String.reduceBEq, beq_self_eq_true, zfd_ins, getF, insM_ins, me_ok, Int.reduceLT, Int.reduceLE, Int.reduceEq, Int.reduceNeg, Int.reduceAdd, Int.reduceSub, Int.reduceMul, gt_iff_lt, ge_iff_le, and_true, true_and, and_self, and_false, false_and, implies_true, true_implies, Prod.mk.injEq, ne_eq, bne, bd_mulOk u2 u3 (by omega)]
  refine draw_w T.draw t3 (by omega) (by omega) (by omega) fun d4 s4 a4 b4 l4 t4 o4 => ?_
  obtain ⟨x, ex, hx⟩ := pick3 (a := 0) (b := d1) (c := d2 * d3) a4 b4
  have hx : x.natAbs < 2 ^ 80 := by
    rcases hx with rfl | rfl | rfl
    · decide
    · omega
    · exact u4
  simp -dsimp only [ev.eq_1, ev.eq_2, ev.eq_3, ev.eq_4, ev.eq_5, ev.eq_6, ev.eq_7, ev.eq_8, ev.eq_9, ev.eq_10, ev.eq_11, ev.eq_12, ev.eq_13, ev.eq_14, ev.eq_15, ev.eq_16, ev.eq_19, ev.eq_20, ev.eq_21, ev.eq_22, ev.eq_23, ev.eq_24, ev.eq_25, ev.eq_26, ev.eq_28, ev.eq_29, ev.eq_30, ev.eq_31, ev.eq_32, evs.eq_1, evs.eq_2, evo.eq_1, evo.eq_2, evc.eq_1, evc.eq_2, rbind_ok, ↓Wp_ok, ↓Wp_bind, Wp_no, Wp_exn, calm_Wp, ↓Wp_ifno, ↓Wp_ite, Br_true, Br_false, Br_not, ofO_Wp, An_true, w_add, w_sub, w_mul, w_mod, w_fdiv, w_pow, w_strs, w_tups, w_lsts, c_lt, c_le, c_gt, c_ge, c_eqi, c_nei, c_eqs, c_nes, c_eqb, c_neb, c_isn, c_notn, nq_non, nq_int, nq_bl, nq_str, nq_lst, nq_tup, nq_ins, t_non, t_bl, t_int, t_lst, t_tup, ix_tup, ix_lst, ix_scr, atI_0, ↓Cn_nx, ↓Cn_bk, ↓Cn_ct, ↓Cn_rt, ↓w_nil, ↓w_cons, w_asg, w_ex, w_ret, w_retN, w_ife, w_ix, Rt_f, Rt_fn, Rt_t, Tn_nx, Tn_ct, Tn_bk, Tn_rt, bindT.eq_1, bindT.eq_2, bindT.eq_3, bindTs.eq_1, bindTs.eq_2, sa0, sa1, sa2, sa11, sa21, sa22, ss0, ss1, ss11, st0, st1, st2, w_append, atI_9, atI_10, atI_11, atI_12, atI_13, cut_9, cut_4, cut_5, List.drop_succ_cons, List.drop_zero, pw4, lg2, zfzL_strs, refsL_strs, ix_str, zsm, seqv, asKt, la1, stn, w_asgF, Ac_ins, putFs_nil, putFs_cons, putG, Nat.reduceLT,  zbools_map, zints_map, zints_int, zstrs_map, all_id, any_id, zsl, cut_1, cut_2, cut_3, cut_t1, cut_t2, cut_t3, cut_from, cut_to, cut_map, atI_map, atI_1, atI_2, atI_3, atI_4, atI_5, atI_6, atI_7, atI_8, nc0, nc1, nc2, nc3, nc4, nc5, nc6, drop_map', take_map', atI_neg1, c_eql, c_nel, Br_F, isL_lst, isL_str, isS_str, ds0, ds1, ds2, ds11, ds21, ds22, di0, w_augU, Ai_int, w_fzv, Av_z, refsL_ints, Wp_none, w_put, Ap_lst, mayW_int, mayW_str, mayW_bl, mayW_self, w_fzc, zfzL_ints, wipeE, List.getElem?_cons_zero, List.getElem?_cons_succ, List.set_cons_zero, List.set_cons_succ, Option.map_some, Option.bind_some, Option.map_none, startE, List.map_cons, List.map_nil, List.length_cons, List.length_nil, List.nil_append, List.cons_append, List.append_nil, List.reduceReplicate, Nat.reduceAdd, Nat.reduceSub, dr_int, dr_bl, dr_non, dr_str, dr_lst, dr_tup, dr_dic, dr_ins, dr_scr, zbf, zbf1, zbf2, zlen, zabs, zint, zlst, asKf, mkLf, mkLt, Bool.not_true, Bool.not_false, Bool.not_not, Bool.and_true, Bool.true_and, Bool.and_false, Bool.false_and, decide_eq_true_eq, decide_eq_false_iff_not, decide_true, decide_false, Bool.not_eq_true', eq_self_iff_true, not_false_eq_true, not_true_eq_false, Bool.false_eq_true, reduceCtorEq, if_true, if_false, ite_true, ite_false, Z.refs, refsL, List.all_nil, List.all_cons, List.take_length, isi_Wp, tyOf, isTy, List.any_cons, List.any_nil, Bool.or_false, Bool.false_or, Bool.or_true, Bool.true_or, String.reduceEq, String.reduceBEq, beq_self_eq_true, zfd_ins, getF, insM_ins, me_ok, Int.reduceLT, Int.reduceLE, Int.reduceEq, Int.reduceNeg, Int.reduceAdd, Int.reduceSub, Int.reduceMul, gt_iff_lt, ge_iff_le, and_true, true_and, and_self, and_false, false_and, implies_true, true_implies, Prod.mk.injEq, ne_eq, bne, ex, pw9]
  refine draw_w T.draw t4 (by omega) (by omega) (by omega) fun d5 s5 a5 b5 l5 t5 o5 => ?_
  simp -dsimp only [ev.eq_1, ev.eq_2, ev.eq_3, ev.eq_4, ev.eq_5, ev.eq_6, ev.eq_7, ev.eq_8, ev.eq_9, ev.eq_10, ev.eq_11, ev.eq_12, ev.eq_13, ev.eq_14, ev.eq_15, ev.eq_16, ev.eq_19, ev.eq_20, ev.eq_21, ev.eq_22, ev.eq_23, ev.eq_24, ev.eq_25, ev.eq_26, ev.eq_28, ev.eq_29, ev.eq_30, ev.eq_31, ev.eq_32, evs.eq_1, evs.eq_2, evo.eq_1, evo.eq_2, evc.eq_1, evc.eq_2, rbind_ok, ↓Wp_ok, ↓Wp_bind, Wp_no, Wp_exn, calm_Wp, ↓Wp_ifno, ↓Wp_ite, Br_true, Br_false, Br_not, ofO_Wp, An_true, w_add, w_sub, w_mul, w_mod, w_fdiv, w_pow, w_strs, w_tups, w_lsts, c_lt, c_le, c_gt, c_ge, c_eqi, c_nei, c_eqs, c_nes, c_eqb, c_neb, c_isn, c_notn, nq_non, nq_int, nq_bl, nq_str, nq_lst, nq_tup, nq_ins, t_non, t_bl, t_int, t_lst, t_tup, ix_tup, ix_lst, ix_scr, atI_0, ↓Cn_nx, ↓Cn_bk, ↓Cn_ct, ↓Cn_rt, ↓w_nil, ↓w_cons, w_asg, w_ex, w_ret, w_retN, w_ife, w_ix, Rt_f, Rt_fn, Rt_t, Tn_nx, Tn_ct, Tn_bk, Tn_rt, bindT.eq_1, bindT.eq_2, bindT.eq_3, bindTs.eq_1, bindTs.eq_2, sa0, sa1, sa2, sa11, sa21, sa22, ss0, ss1, ss11, st0, st1, st2, w_append, atI_9, atI_10, atI_11, atI_12, atI_13, cut_9, cut_4, cut_5, List.drop_succ_cons, List.drop_zero, pw4, lg2, zfzL_strs, refsL_strs, ix_str, zsm, seqv, asKt, la1, stn, w_asgF, Ac_ins, putFs_nil, putFs_cons, putG, Nat.reduceLT,  zbools_map, zints_map, zints_int, zstrs_map, all_id, any_id, zsl, cut_1, cut_2, cut_3, cut_t1, cut_t2, cut_t3, cut_from, cut_to, cut_map, atI_map, atI_1, atI_2, atI_3, atI_4, atI_5, atI_6, atI_7, atI_8, nc0, nc1, nc2, nc3, nc4, nc5, nc6, drop_map', take_map', atI_neg1, c_eql, c_nel, Br_F, isL_lst, isL_str, isS_str, ds0, ds1, ds2, ds11, ds21, ds22, di0, w_augU, Ai_int, w_fzv, Av_z, refsL_ints, Wp_none, w_put, Ap_lst, mayW_int, mayW_str, mayW_bl, mayW_self, w_fzc, zfzL_ints, wipeE, List.getElem?_cons_zero, List.getElem?_cons_succ, List.set_cons_zero, List.set_cons_succ, Option.map_some, Option.bind_some, Option.map_none, startE, List.map_cons, List.map_nil, List.length_cons, List.length_nil, List.nil_append, List.cons_append, List.append_nil, List.reduceReplicate, Nat.reduceAdd, Nat.reduceSub, dr_int, dr_bl, dr_non, dr_str, dr_lst, dr_tup, dr_dic, dr_ins, dr_scr, zbf, zbf1, zbf2, zlen, zabs, zint, zlst, asKf, mkLf, mkLt, Bool.not_true, Bool.not_false, Bool.not_not, Bool.and_true, Bool.true_and, Bool.and_false, Bool.false_and, decide_eq_true_eq, decide_eq_false_iff_not, decide_true, decide_false, Bool.not_eq_true', eq_self_iff_true, not_false_eq_true, not_true_eq_false, Bool.false_eq_true, reduceCtorEq, if_true, if_false, ite_true, ite_false, Z.refs, refsL, List.all_nil, List.all_cons, List.take_length, isi_Wp, tyOf, isTy, List.any_cons, List.any_nil, Bool.or_false, Bool.false_or, Bool.or_true, Bool.true_or, String.reduceEq, String.reduceBEq, beq_self_eq_true, zfd_ins, getF, insM_ins, me_ok, Int.reduceLT, Int.reduceLE, Int.reduceEq, Int.reduceNeg, Int.reduceAdd, Int.reduceSub, Int.reduceMul, gt_iff_lt, ge_iff_le, and_true, true_and, and_self, and_false, false_and, implies_true, true_implies, Prod.mk.injEq, ne_eq, bne, pw9]
  refine draw_w T.draw t5 (by omega) (by omega) (by omega) fun d6 s6 a6 b6 l6 t6 o6 => ?_
  simp -dsimp only [ev.eq_1, ev.eq_2, ev.eq_3, ev.eq_4, ev.eq_5, ev.eq_6, ev.eq_7, ev.eq_8, ev.eq_9, ev.eq_10, ev.eq_11, ev.eq_12, ev.eq_13, ev.eq_14, ev.eq_15, ev.eq_16, ev.eq_19, ev.eq_20, ev.eq_21, ev.eq_22, ev.eq_23, ev.eq_24, ev.eq_25, ev.eq_26, ev.eq_28, ev.eq_29, ev.eq_30, ev.eq_31, ev.eq_32, evs.eq_1, evs.eq_2, evo.eq_1, evo.eq_2, evc.eq_1, evc.eq_2, rbind_ok, ↓Wp_ok, ↓Wp_bind, Wp_no, Wp_exn, calm_Wp, ↓Wp_ifno, ↓Wp_ite, Br_true, Br_false, Br_not, ofO_Wp, An_true, w_add, w_sub, w_mul, w_mod, w_fdiv, w_pow, w_strs, w_tups, w_lsts, c_lt, c_le, c_gt, c_ge, c_eqi, c_nei, c_eqs, c_nes, c_eqb, c_neb, c_isn, c_notn, nq_non, nq_int, nq_bl, nq_str, nq_lst, nq_tup, nq_ins, t_non, t_bl, t_int, t_lst, t_tup, ix_tup, ix_lst, ix_scr, atI_0, ↓Cn_nx, ↓Cn_bk, ↓Cn_ct, ↓Cn_rt, ↓w_nil, ↓w_cons, w_asg, w_ex, w_ret, w_retN, w_ife, w_ix, Rt_f, Rt_fn, Rt_t, Tn_nx, Tn_ct, Tn_bk, Tn_rt, bindT.eq_1, bindT.eq_2, bindT.eq_3, bindTs.eq_1, bindTs.eq_2, sa0, sa1, sa2, sa11, sa21, sa22, ss0, ss1, ss11, st0, st1, st2, w_append, atI_9, atI_10, atI_11, atI_12, atI_13, cut_9, cut_4, cut_5, List.drop_succ_cons, List.drop_zero, pw4, lg2, zfzL_strs, refsL_strs, ix_str, zsm, seqv, asKt, la1, stn, w_asgF, Ac_ins, putFs_nil, putFs_cons, putG, Nat.reduceLT,  zbools_map, zints_map, zints_int, zstrs_map, all_id, any_id, zsl, cut_1, cut_2, cut_3, cut_t1, cut_t2, cut_t3, cut_from, cut_to, cut_map, atI_map, atI_1, atI_2, atI_3, atI_4, atI_5, atI_6, atI_7, atI_8, nc0, nc1, nc2, nc3, nc4, nc5, nc6, drop_map', take_map', atI_neg1, c_eql, c_nel, Br_F, isL_lst, isL_str, isS_str, ds0, ds1, ds2, ds11, ds21, ds22, di0, w_augU, Ai_int, w_fzv, Av_z, refsL_ints, Wp_none, w_put, Ap_lst, mayW_int, mayW_str, mayW_bl, mayW_self, w_fzc, zfzL_ints, wipeE, List.getElem?_cons_zero, List.getElem?_cons_succ, List.set_cons_zero, List.set_cons_succ, Option.map_some, Option.bind_some, Option.map_none, startE, List.map_cons, List.map_nil, List.length_cons, List.length_nil, List.nil_append, List.cons_append, List.append_nil, List.reduceReplicate, Nat.reduceAdd, Nat.reduceSub, dr_int, dr_bl, dr_non, dr_str, dr_lst, dr_tup, dr_dic, dr_ins, dr_scr, zbf, zbf1, zbf2, zlen, zabs, zint, zlst, asKf, mkLf, mkLt, Bool.not_true, Bool.not_false, Bool.not_not, Bool.and_true, Bool.true_and, Bool.and_false, Bool.false_and, decide_eq_true_eq, decide_eq_false_iff_not, decide_true, decide_false, Bool.not_eq_true', eq_self_iff_true, not_false_eq_true, not_true_eq_false, Bool.false_eq_true, reduceCtorEq, if_true, if_false, ite_true, ite_false, Z.refs, refsL, List.all_nil, List.all_cons, List.take_length, isi_Wp, tyOf, isTy, List.any_cons, List.any_nil, Bool.or_false, Bool.false_or, Bool.or_true, Bool.true_or, String.reduceEq, String.reduceBEq, beq_self_eq_true, zfd_ins, getF, insM_ins, me_ok, Int.reduceLT, Int.reduceLE, Int.reduceEq, Int.reduceNeg, Int.reduceAdd, Int.reduceSub, Int.reduceMul, gt_iff_lt, ge_iff_le, and_true, true_and, and_self, and_false, false_and, implies_true, true_implies, Prod.mk.injEq, ne_eq, bne, pw9]
  refine draw_w T.draw t6 (by omega) (by omega) (by omega) fun d7 s7 a7 b7 l7 t7 o7 => ?_
  have u6 : d6.natAbs < 2 ^ 30 := by omega
  have u7 : d7.natAbs < 2 ^ 30 := by omega
  have u8 := bd_mul u6 u7
  have u9 := bd_add (a := 1) (show (1 : Int).natAbs < 2 ^ (30 + 30) by decide) u8
  simp -dsimp only [ev.eq_1, ev.eq_2, ev.eq_3, ev.eq_4, ev.eq_5, ev.eq_6, ev.eq_7, ev.eq_8, ev.eq_9, ev.eq_10, ev.eq_11, ev.eq_12, ev.eq_13, ev.eq_14, ev.eq_15, ev.eq_16, ev.eq_19, ev.eq_20, ev.eq_21, ev.eq_22, ev.eq_23, ev.eq_24, ev.eq_25, ev.eq_26, ev.eq_28, ev.eq_29, ev.eq_30, ev.eq_31, ev.eq_32, evs.eq_1, evs.eq_2, evo.eq_1, evo.eq_2, evc.eq_1, evc.eq_2, rbind_ok, ↓Wp_ok, ↓Wp_bind, Wp_no, Wp_exn, calm_Wp, ↓Wp_ifno, ↓Wp_ite, Br_true, Br_false, Br_not, ofO_Wp, An_true, w_add, w_sub, w_mul, w_mod, w_fdiv, w_pow, w_strs, w_tups, w_lsts, c_lt, c_le, c_gt, c_ge, c_eqi, c_nei, c_eqs, c_nes, c_eqb, c_neb, c_isn, c_notn, nq_non, nq_int, nq_bl, nq_str, nq_lst, nq_tup, nq_ins, t_non, t_bl, t_int, t_lst, t_tup, ix_tup, ix_lst, ix_scr, atI_0, ↓Cn_nx, ↓Cn_bk, ↓Cn_ct, ↓Cn_rt, ↓w_nil, ↓w_cons, w_asg, w_ex, w_ret, w_retN, w_ife, w_ix, Rt_f, Rt_fn, Rt_t, Tn_nx, Tn_ct, Tn_bk, Tn_rt, bindT.eq_1, bindT.eq_2, bindT.eq_3, bindTs.eq_1, bindTs.eq_2, sa0, sa1, sa2, sa11, sa21, sa22, ss0, ss1, ss11, st0, st1, st2, w_append, atI_9, atI_10, atI_11, atI_12, atI_13, cut_9, cut_4, cut_5, List.drop_succ_cons, List.drop_zero, pw4, lg2, zfzL_strs, refsL_strs, ix_str, zsm, seqv, asKt, la1, stn, w_asgF, Ac_ins, putFs_nil, putFs_cons, putG, Nat.reduceLT,  zbools_map, zints_map, zints_int, zstrs_map, all_id, any_id, zsl, cut_1, cut_2, cut_3, cut_t1, cut_t2, cut_t3, cut_from, cut_to, cut_map, atI_map, atI_1, atI_2, atI_3, atI_4, atI_5, atI_6, atI_7, atI_8, nc0, nc1, nc2, nc3, nc4, nc5, nc6, drop_map', take_map', atI_neg1, c_eql, c_nel, Br_F, isL_lst, isL_str, isS_str, ds0, ds1, ds2, ds11, ds21, ds22, di0, w_augU, Ai_int, w_fzv, Av_z, refsL_ints, Wp_none, w_put, Ap_lst, mayW_int, mayW_str, mayW_bl, mayW_self, w_fzc, zfzL_ints, wipeE, List.getElem?_cons_zero, List.getElem?_cons_succ, List.set_cons_zero, List.set_cons_succ, Option.map_some, Option.bind_some, Option.map_none, startE, List.map_cons, List.map_nil, List.length_cons, List.length_nil, List.nil_append, List.cons_append, List.append_nil, List.reduceReplicate, Nat.reduceAdd, Nat.reduceSub, dr_int, dr_bl, dr_non, dr_str, dr_lst, dr_tup, dr_dic, dr_ins, dr_scr, zbf, zbf1, zbf2, zlen, zabs, zint, zlst, asKf, mkLf, mkLt, Bool.not_true, Bool.not_false, Bool.not_not, Bool.and_true, Bool.true_and, Bool.and_false, Bool.false_and, decide_eq_true_eq, decide_eq_false_iff_not, decide_true, decide_false, Bool.not_eq_true', eq_self_iff_true, not_false_eq_true, not_true_eq_false, Bool.false_eq_true, reduceCtorEq, if_true, if_false, ite_true, ite_false, Z.refs, refsL, List.all_nil, List.all_cons, List.take_length, isi_Wp, tyOf, isTy, List.any_cons, List.any_nil, Bool.or_false, Bool.false_or, Bool.or_true, Bool.true_or, String.reduceEq, String.reduceBEq, beq_self_eq_true, zfd_ins, getF, insM_ins, me_ok, Int.reduceLT, Int.reduceLE, Int.reduceEq, Int.reduceNeg, Int.reduceAdd, Int.reduceSub, Int.reduceMul, gt_iff_lt, ge_iff_le, and_true, true_and, and_self, and_false, false_and, implies_true, true_implies, Prod.mk.injEq, ne_eq, bne, bd_mulOk u6 u7 (by omega)]
  refine draw_w T.draw t7 (by omega) (by omega) (by omega) fun d8 s8 a8 b8 l8 t8 o8 => ?_
  obtain ⟨y, ey, hy⟩ := pick3 (a := 1) (b := 1 + d5) (c := 1 + d6 * d7) a8 b8
  have hy : 0 < y ∧ y.natAbs < 2 ^ 61 := by
    have := Int.mul_nonneg a6 a7
    rcases hy with rfl | rfl | rfl
    · decide
    · omega
    · exact ⟨by omega, u9⟩
  simp -dsimp only [ev.eq_1, ev.eq_2, ev.eq_3, ev.eq_4, ev.eq_5, ev.eq_6, ev.eq_7, ev.eq_8, ev.eq_9, ev.eq_10, ev.eq_11, ev.eq_12, ev.eq_13, ev.eq_14, ev.eq_15, ev.eq_16, ev.eq_19, ev.eq_20, ev.eq_21, ev.eq_22, ev.eq_23, ev.eq_24, ev.eq_25, ev.eq_26, ev.eq_28, ev.eq_29, ev.eq_30, ev.eq_31, ev.eq_32, evs.eq_1, evs.eq_2, evo.eq_1, evo.eq_2, evc.eq_1, evc.eq_2, rbind_ok, ↓Wp_ok, ↓Wp_bind, Wp_no, Wp_exn, calm_Wp, ↓Wp_ifno, ↓Wp_ite, Br_true, Br_false, Br_not, ofO_Wp, An_true, w_add, w_sub, w_mul, w_mod, w_fdiv, w_pow, w_strs, w_tups, w_lsts, c_lt, c_le, c_gt, c_ge, c_eqi, c_nei, c_eqs, c_nes, c_eqb, c_neb, c_isn, c_notn, nq_non, nq_int, nq_bl, nq_str, nq_lst, nq_tup, nq_ins, t_non, t_bl, t_int, t_lst, t_tup, ix_tup, ix_lst, ix_scr, atI_0, ↓Cn_nx, ↓Cn_bk, ↓Cn_ct, ↓Cn_rt, ↓w_nil, ↓w_cons, w_asg, w_ex, w_ret, w_retN, w_ife, w_ix, Rt_f, Rt_fn, Rt_t, Tn_nx, Tn_ct, Tn_bk, Tn_rt, bindT.eq_1, bindT.eq_2, bindT.eq_3, bindTs.eq_1, bindTs.eq_2, sa0, sa1, sa2, sa11, sa21, sa22, ss0, ss1, ss11, st0, st1, st2, w_append, atI_9, atI_10, atI_11, atI_12, atI_13, cut_9, cut_4, cut_5, List.drop_succ_cons, List.drop_zero, pw4, lg2, zfzL_strs, refsL_strs, ix_str, zsm, seqv, asKt, la1, stn, w_asgF, Ac_ins, putFs_nil, putFs_cons, putG, Nat.reduceLT,  zbools_map, zints_map, zints_int, zstrs_map, all_id, any_id, zsl, cut_1, cut_2, cut_3, cut_t1, cut_t2, cut_t3, cut_from, cut_to, cut_map, atI_map, atI_1, atI_2, atI_3, atI_4, atI_5, atI_6, atI_7, atI_8, nc0, nc1, nc2, nc3, nc4, nc5, nc6, drop_map', take_map', atI_neg1, c_eql, c_nel, Br_F, isL_lst, isL_str, isS_str, ds0, ds1, ds2, ds11, ds21, ds22, di0, w_augU, Ai_int, w_fzv, Av_z, refsL_ints, Wp_none, w_put, Ap_lst, mayW_int, mayW_str, mayW_bl, mayW_self, w_fzc, zfzL_ints, wipeE, List.getElem?_cons_zero, List.getElem?_cons_succ, List.set_cons_zero, List.set_cons_succ, Option.map_some, Option.bind_some, Option.map_none, startE, List.map_cons, List.map_nil, List.length_cons, List.length_nil, List.nil_append, List.cons_append, List.append_nil, List.reduceReplicate, Nat.reduceAdd, Nat.reduceSub, dr_int, dr_bl, dr_non, dr_str, dr_lst, dr_tup, dr_dic, dr_ins, dr_scr, zbf, zbf1, zbf2, zlen, zabs, zint, zlst, asKf, mkLf, mkLt, Bool.not_true, Bool.not_false, Bool.not_not, Bool.and_true, Bool.true_and, Bool.and_false, Bool.false_and, decide_eq_true_eq, decide_eq_false_iff_not, decide_true, decide_false, Bool.not_eq_true', eq_self_iff_true, not_false_eq_true, not_true_eq_false, Bool.false_eq_true, reduceCtorEq, if_true, if_false, ite_true, ite_false, Z.refs, refsL, List.all_nil, List.all_cons, List.take_length, isi_Wp, tyOf, isTy, List.any_cons, List.any_nil, Bool.or_false, Bool.false_or, Bool.or_true, Bool.true_or, String.reduceEq, String.reduceBEq, beq_self_eq_true, zfd_ins, getF, insM_ins, me_ok, Int.reduceLT, Int.reduceLE, Int.reduceEq, Int.reduceNeg, Int.reduceAdd, Int.reduceSub, Int.reduceMul, gt_iff_lt, ge_iff_le, and_true, true_and, and_self, and_false, false_and, implies_true, true_implies, Prod.mk.injEq, ne_eq, bne, ey]
  refine draw_w T.draw t8 (by omega) (by omega) (by omega) fun d9 s9 a9 b9 l9 t9 o9 => ?_
  simp -dsimp only [ev.eq_1, ev.eq_2, ev.eq_3, ev.eq_4, ev.eq_5, ev.eq_6, ev.eq_7, ev.eq_8, ev.eq_9, ev.eq_10, ev.eq_11, ev.eq_12, ev.eq_13, ev.eq_14, ev.eq_15, ev.eq_16, ev.eq_19, ev.eq_20, ev.eq_21, ev.eq_22, ev.eq_23, ev.eq_24, ev.eq_25, ev.eq_26, ev.eq_28, ev.eq_29, ev.eq_30, ev.eq_31, ev.eq_32, evs.eq_1, evs.eq_2, evo.eq_1, evo.eq_2, evc.eq_1, evc.eq_2, rbind_ok, ↓Wp_ok, ↓Wp_bind, Wp_no, Wp_exn, calm_Wp, ↓Wp_ifno, ↓Wp_ite, Br_true, Br_false, Br_not, ofO_Wp, An_true, w_add, w_sub, w_mul, w_mod, w_fdiv, w_pow, w_strs, w_tups, w_lsts, c_lt, c_le, c_gt, c_ge, c_eqi, c_nei, c_eqs, c_nes, c_eqb, c_neb, c_isn, c_notn, nq_non, nq_int, nq_bl, nq_str, nq_lst, nq_tup, nq_ins, t_non, t_bl, t_int, t_lst, t_tup, ix_tup, ix_lst, ix_scr, atI_0, ↓Cn_nx, ↓Cn_bk, ↓Cn_ct, ↓Cn_rt, ↓w_nil, ↓w_cons, w_asg, w_ex, w_ret, w_retN, w_ife, w_ix, Rt_f, Rt_fn, Rt_t, Tn_nx, Tn_ct, Tn_bk, Tn_rt, bindT.eq_1, bindT.eq_2, bindT.eq_3, bindTs.eq_1, bindTs.eq_2, sa0, sa1, sa2, sa11, sa21, sa22, ss0, ss1, ss11, st0, st1, st2, w_append, atI_9, atI_10, atI_11, atI_12, atI_13, cut_9, cut_4, cut_5, List.drop_succ_cons, List.drop_zero, pw4, lg2, zfzL_strs, refsL_strs, ix_str, zsm, seqv, asKt, la1, stn, w_asgF, Ac_ins, putFs_nil, putFs_cons, putG, Nat.reduceLT,  zbools_map, zints_map, zints_int, zstrs_map, all_id, any_id, zsl, cut_1, cut_2, cut_3, cut_t1, cut_t2, cut_t3, cut_from, cut_to, cut_map, atI_map, atI_1, atI_2, atI_3, atI_4, atI_5, atI_6, atI_7, atI_8, nc0, nc1, nc2, nc3, nc4, nc5, nc6, drop_map', take_map', atI_neg1, c_eql, c_nel, Br_F, isL_lst, isL_str, isS_str, ds0, ds1, ds2, ds11, ds21, ds22, di0, w_augU, Ai_int, w_fzv, Av_z, refsL_ints, Wp_none, w_put, Ap_lst, mayW_int, mayW_str, mayW_bl, mayW_self, w_fzc, zfzL_ints, wipeE, List.getElem?_cons_zero, List.getElem?_cons_succ, List.set_cons_zero, List.set_cons_succ, Option.map_some, Option.bind_some, Option.map_none, startE, List.map_cons, List.map_nil, List.length_cons, List.length_nil, List.nil_append, List.cons_append, List.append_nil, List.reduceReplicate, Nat.reduceAdd, Nat.reduceSub, dr_int, dr_bl, dr_non, dr_str, dr_lst, dr_tup, dr_dic, dr_ins, dr_scr, zbf, zbf1, zbf2, zlen, zabs, zint, zlst, asKf, mkLf, mkLt, Bool.not_true, Bool.not_false, Bool.not_not, Bool.and_true, Bool.true_and, Bool.and_false, Bool.false_and, decide_eq_true_eq, decide_eq_false_iff_not, decide_true, decide_false, Bool.not_eq_true', eq_self_iff_true, not_false_eq_true, not_true_eq_false, Bool.false_eq_true, reduceCtorEq, if_true, if_false, ite_true, ite_false, Z.refs, refsL, List.all_nil, List.all_cons, List.take_length, isi_Wp, tyOf, isTy, List.any_cons, List.any_nil, Bool.or_false, Bool.false_or, Bool.or_true, Bool.true_or, String.reduceEq, String.reduceBEq, beq_self_eq_true, zfd_ins, getF, insM_ins, me_ok, Int.reduceLT, Int.reduceLE, Int.reduceEq, Int.reduceNeg, Int.reduceAdd, Int.reduceSub, Int.reduceMul, gt_iff_lt, ge_iff_le, and_true, true_and, and_self, and_false, false_and, implies_true, true_implies, Prod.mk.injEq, ne_eq, bne]
  refine draw_w T.draw t9 (by omega) (by omega) (by omega) fun d10 s10 a10 b10 l10 t10 o10 => ?_
  obtain ⟨z, ez, hz⟩ := pick2 (a := 1) (b := 1 + d9) a10 b10
  have hz : 0 < z ∧ z.natAbs < 2 ^ 5 := by rcases hz with rfl | rfl <;> omega
  have v1 := bd_mul hx hz.2
  simp -dsimp only [ev.eq_1, ev.eq_2, ev.eq_3, ev.eq_4, ev.eq_5, ev.eq_6, ev.eq_7, ev.eq_8, ev.eq_9, ev.eq_10, ev.eq_11, ev.eq_12, ev.eq_13, ev.eq_14, ev.eq_15, ev.eq_16, ev.eq_19, ev.eq_20, ev.eq_21, ev.eq_22, ev.eq_23, ev.eq_24, ev.eq_25, ev.eq_26, ev.eq_28, ev.eq_29, ev.eq_30, ev.eq_31, ev.eq_32, evs.eq_1, evs.eq_2, evo.eq_1, evo.eq_2, evc.eq_1, evc.eq_2, rbind_ok, ↓Wp_ok, ↓Wp_bind, Wp_no, Wp_exn, calm_Wp, ↓Wp_ifno, ↓Wp_ite, Br_true, Br_false, Br_not, ofO_Wp, An_true, w_add, w_sub, w_mul, w_mod, w_fdiv, w_pow, w_strs, w_tups, w_lsts, c_lt, c_le, c_gt, c_ge, c_eqi, c_nei, c_eqs, c_nes, c_eqb, c_neb, c_isn, c_notn, nq_non, nq_int, nq_bl, nq_str, nq_lst, nq_tup, nq_ins, t_non, t_bl, t_int, t_lst, t_tup, ix_tup, ix_lst, ix_scr, atI_0, ↓Cn_nx, ↓Cn_bk, ↓Cn_ct, ↓Cn_rt, ↓w_nil, ↓w_cons, w_asg, w_ex, w_ret, w_retN, w_ife, w_ix, Rt_f, Rt_fn, Rt_t, Tn_nx, Tn_ct, Tn_bk, Tn_rt, bindT.eq_1, bindT.eq_2, bindT.eq_3, bindTs.eq_1, bindTs.eq_2, sa0, sa1, sa2, sa11, sa21, sa22, ss0, ss1, ss11, st0, st1, st2, w_append, atI_9, atI_10, atI_11, atI_12, atI_13, cut_9, cut_4, cut_5, List.drop_succ_cons, List.drop_zero, pw4, lg2, zfzL_strs, refsL_strs, ix_str, zsm, seqv, asKt, la1, stn, w_asgF, Ac_ins, putFs_nil, putFs_cons, putG, Nat.reduceLT,  zbools_map, zints_map, zints_int, zstrs_map, all_id, any_id, zsl, cut_1, cut_2, cut_3, cut_t1, cut_t2, cut_t3, cut_from, cut_to, cut_map, atI_map, atI_1, atI_2, atI_3, atI_4, atI_5, atI_6, atI_7, atI_8, nc0, nc1, nc2, nc3, nc4, nc5, nc6, drop_map', take_map', atI_neg1, c_eql, c_nel, Br_F, isL_lst, isL_str, isS_str, ds0, ds1, ds2, ds11, ds21, ds22, di0, w_augU, Ai_int, w_fzv, Av_z, refsL_ints, Wp_none, w_put, Ap_lst, mayW_int, mayW_str, mayW_bl, mayW_self, w_fzc, zfzL_ints, wipeE, List.getElem?_cons_zero, List.getElem?_cons_succ, List.set_cons_zero, List.set_cons_succ, Option.map_some, Option.bind_some, Option.map_none, startE, List.map_cons, List.map_nil, List.length_cons, List.length_nil, List.nil_append, List.cons_append, List.append_nil, List.reduceReplicate, Nat.reduceAdd, Nat.reduceSub, dr_int, dr_bl, dr_non, dr_str, dr_lst, dr_tup, dr_dic, dr_ins, dr_scr, zbf, zbf1, zbf2, zlen, zabs, zint, zlst, asKf, mkLf, mkLt, Bool.not_true, Bool.not_false, Bool.not_not, Bool.and_true, Bool.true_and, Bool.and_false, Bool.false_and, decide_eq_true_eq, decide_eq_false_iff_not, decide_true, decide_false, Bool.not_eq_true', eq_self_iff_true, not_false_eq_true, not_true_eq_false, Bool.false_eq_true, reduceCtorEq, if_true, if_false, ite_true, ite_false, Z.refs, refsL, List.all_nil, List.all_cons, List.take_length, isi_Wp, tyOf, isTy, List.any_cons, List.any_nil, Bool.or_false, Bool.false_or, Bool.or_true, Bool.true_or, String.reduceEq, String.reduceBEq, beq_self_eq_true, zfd_ins, getF, insM_ins, me_ok, Int.reduceLT, Int.reduceLE, Int.reduceEq, Int.reduceNeg, Int.reduceAdd, Int.reduceSub, Int.reduceMul, gt_iff_lt, ge_iff_le, and_true, true_and, and_self, and_false, false_and, implies_true, true_implies, Prod.mk.injEq, ne_eq, bne, ez, bd_mulOk hx hz.2 (by omega)]
  refine draw_w T.draw t10 (by omega) (by omega) (by omega) fun d11 s11 a11 b11 l11 t11 o11 => ?_
  obtain ⟨w, ew, hw⟩ := pick2 (a := 1) (b := -1) a11 b11
  have hw : w.natAbs < 2 ^ 1 := by rcases hw with rfl | rfl <;> decide
  have v2 := bd_mul v1 hw
  have v3 := bd_mul hy.2 hz.2
  simp -dsimp only [ev.eq_1, ev.eq_2, ev.eq_3, ev.eq_4, ev.eq_5, ev.eq_6, ev.eq_7, ev.eq_8, ev.eq_9, ev.eq_10, ev.eq_11, ev.eq_12, ev.eq_13, ev.eq_14, ev.eq_15, ev.eq_16, ev.eq_19, ev.eq_20, ev.eq_21, ev.eq_22, ev.eq_23, ev.eq_24, ev.eq_25, ev.eq_26, ev.eq_28, ev.eq_29, ev.eq_30, ev.eq_31, ev.eq_32, evs.eq_1, evs.eq_2, evo.eq_1, evo.eq_2, evc.eq_1, evc.eq_2, rbind_ok, ↓Wp_ok, ↓Wp_bind, Wp_no, Wp_exn, calm_Wp, ↓Wp_ifno, ↓Wp_ite, Br_true, Br_false, Br_not, ofO_Wp, An_true, w_add, w_sub, w_mul, w_mod, w_fdiv, w_pow, w_strs, w_tups, w_lsts, c_lt, c_le, c_gt, c_ge, c_eqi, c_nei, c_eqs, c_nes, c_eqb, c_neb, c_isn, c_notn, nq_non, nq_int, nq_bl, nq_str, nq_lst, nq_tup, nq_ins, t_non, t_bl, t_int, t_lst, t_tup, ix_tup, ix_lst, ix_scr, atI_0, ↓Cn_nx, ↓Cn_bk, ↓Cn_ct, ↓Cn_rt, ↓w_nil, ↓w_cons, w_asg, w_ex, w_ret, w_retN, w_ife, w_ix, Rt_f, Rt_fn, Rt_t, Tn_nx, Tn_ct, Tn_bk, Tn_rt, bindT.eq_1, bindT.eq_2, bindT.eq_3, bindTs.eq_1, bindTs.eq_2, sa0, sa1, sa2, sa11, sa21, sa22, ss0, ss1, ss11, st0, st1, st2, w_append, atI_9, atI_10, atI_11, atI_12, atI_13, cut_9, cut_4, cut_5, List.drop_succ_cons, List.drop_zero, pw4, lg2, zfzL_strs, refsL_strs, ix_str, zsm, seqv, asKt, la1, stn, w_asgF, Ac_ins, putFs_nil, putFs_cons, putG, Nat.reduceLT,  zbools_map, zints_map, zints_int, zstrs_map, all_id, any_id, zsl, cut_1, cut_2, cut_3, cut_t1, cut_t2, cut_t3, cut_from, cut_to, cut_map, atI_map, atI_1, atI_2, atI_3, atI_4, atI_5, atI_6, atI_7, atI_8, nc0, nc1, nc2, nc3, nc4, nc5, nc6, drop_map', take_map', atI_neg1, c_eql, c_nel, Br_F, isL_lst, isL_str, isS_str, ds0, ds1, ds2, ds11, ds21, ds22, di0, w_augU, Ai_int, w_fzv, Av_z, refsL_ints, Wp_none, w_put, Ap_lst, mayW_int, mayW_str, mayW_bl, mayW_self, w_fzc, zfzL_ints, wipeE, List.getElem?_cons_zero, List.getElem?_cons_succ, List.set_cons_zero, List.set_cons_succ, Option.map_some, Option.bind_some, Option.map_none, startE, List.map_cons, List.map_nil, List.length_cons, List.length_nil, List.nil_append, List.cons_append, List.append_nil, List.reduceReplicate, Nat.reduceAdd, Nat.reduceSub, dr_int, dr_bl, dr_non, dr_str, dr_lst, dr_tup, dr_dic, dr_ins, dr_scr, zbf, zbf1, zbf2, zlen, zabs, zint, zlst, asKf, mkLf, mkLt, Bool.not_true, Bool.not_false, Bool.not_not, Bool.and_true, Bool.true_and, Bool.and_false, Bool.false_and, decide_eq_true_eq, decide_eq_false_iff_not, decide_true, decide_false, Bool.not_eq_true', eq_self_iff_true, not_false_eq_true, not_true_eq_false, Bool.false_eq_true, reduceCtorEq, if_true, if_false, ite_true, ite_false, Z.refs, refsL, List.all_nil, List.all_cons, List.take_length, isi_Wp, tyOf, isTy, List.any_cons, List.any_nil, Bool.or_false, Bool.false_or, Bool.or_true, Bool.true_or, String.reduceEq, String.reduceBEq, beq_self_eq_true, zfd_ins, getF, insM_ins, me_ok, Int.reduceLT, Int.reduceLE, Int.reduceEq, Int.reduceNeg, Int.reduceAdd, Int.reduceSub, Int.reduceMul, gt_iff_lt, ge_iff_le, and_true, true_and, and_self, and_false, false_and, implies_true, true_implies, Prod.mk.injEq, ne_eq, bne, ew, bd_mulOk v1 hw (by omega), bd_mulOk hy.2 hz.2 (by omega)]
  have ls : s11.length = st.length := by omega
  simp -dsimp only [ev.eq_1, ev.eq_2, ev.eq_3, ev.eq_4, ev.eq_5, ev.eq_6, ev.eq_7, ev.eq_8, ev.eq_9, ev.eq_10, ev.eq_11, ev.eq_12, ev.eq_13, ev.eq_14, ev.eq_15, ev.eq_16, ev.eq_19, ev.eq_20, ev.eq_21, ev.eq_22, ev.eq_23, ev.eq_24, ev.eq_25, ev.eq_26, ev.eq_28, ev.eq_29, ev.eq_30, ev.eq_31, ev.eq_32, evs.eq_1, evs.eq_2, evo.eq_1, evo.eq_2, evc.eq_1, evc.eq_2, rbind_ok, ↓Wp_ok, ↓Wp_bind, Wp_no, Wp_exn, calm_Wp, ↓Wp_ifno, ↓Wp_ite, Br_true, Br_false, Br_not, ofO_Wp, An_true, w_add, w_sub, w_mul, w_mod, w_fdiv, w_pow, w_strs, w_tups, w_lsts, c_lt, c_le, c_gt, c_ge, c_eqi, c_nei, c_eqs, c_nes, c_eqb, c_neb, c_isn, c_notn, nq_non, nq_int, nq_bl, nq_str, nq_lst, nq_tup, nq_ins, t_non, t_bl, t_int, t_lst, t_tup, ix_tup, ix_lst, ix_scr, atI_0, ↓Cn_nx, ↓Cn_bk, ↓Cn_ct, ↓Cn_rt, ↓w_nil, ↓w_cons, w_asg, w_ex, w_ret, w_retN, w_ife, w_ix, Rt_f, Rt_fn, Rt_t, Tn_nx, Tn_ct, Tn_bk, Tn_rt, bindT.eq_1, bindT.eq_2, bindT.eq_3, bindTs.eq_1, bindTs.eq_2, sa0, sa1, sa2, sa11, sa21, sa22, ss0, ss1, ss11, st0, st1, st2, w_append, atI_9, atI_10, atI_11, atI_12, atI_13, cut_9, cut_4, cut_5, List.drop_succ_cons, List.drop_zero, pw4, lg2, zfzL_strs, refsL_strs, ix_str, zsm, seqv, asKt, la1, stn, w_asgF, Ac_ins, putFs_nil, putFs_cons, putG, Nat.reduceLT,  zbools_map, zints_map, zints_int, zstrs_map, all_id, any_id, zsl, cut_1, cut_2, cut_3, cut_t1, cut_t2, cut_t3, cut_from, cut_to, cut_map, atI_map, atI_1, atI_2, atI_3, atI_4, atI_5, atI_6, atI_7, atI_8, nc0, nc1, nc2, nc3, nc4, nc5, nc6, drop_map', take_map', atI_neg1, c_eql, c_nel, Br_F, isL_lst, isL_str, isS_str, ds0, ds1, ds2, ds11, ds21, ds22, di0, w_augU, Ai_int, w_fzv, Av_z, refsL_ints, Wp_none, w_put, Ap_lst, mayW_int, mayW_str, mayW_bl, mayW_self, w_fzc, zfzL_ints, wipeE, List.getElem?_cons_zero, List.getElem?_cons_succ, List.set_cons_zero, List.set_cons_succ, Option.map_some, Option.bind_some, Option.map_none, startE, List.map_cons, List.map_nil, List.length_cons, List.length_nil, List.nil_append, List.cons_append, List.append_nil, List.reduceReplicate, Nat.reduceAdd, Nat.reduceSub, dr_int, dr_bl, dr_non, dr_str, dr_lst, dr_tup, dr_dic, dr_ins, dr_scr, zbf, zbf1, zbf2, zlen, zabs, zint, zlst, asKf, mkLf, mkLt, Bool.not_true, Bool.not_false, Bool.not_not, Bool.and_true, Bool.true_and, Bool.and_false, Bool.false_and, decide_eq_true_eq, decide_eq_false_iff_not, decide_true, decide_false, Bool.not_eq_true', eq_self_iff_true, not_false_eq_true, not_true_eq_false, Bool.false_eq_true, reduceCtorEq, if_true, if_false, ite_true, ite_false, Z.refs, refsL, List.all_nil, List.all_cons, List.take_length, isi_Wp, tyOf, isTy, List.any_cons, List.any_nil, Bool.or_false, Bool.false_or, Bool.or_true, Bool.true_or, String.reduceEq, String.reduceBEq, beq_self_eq_true, zfd_ins, getF, insM_ins, me_ok, Int.reduceLT, Int.reduceLE, Int.reduceEq, Int.reduceNeg, Int.reduceAdd, Int.reduceSub, Int.reduceMul, gt_iff_lt, ge_iff_le, and_true, true_and, and_self, and_false, false_and, implies_true, true_implies, Prod.mk.injEq, ne_eq, bne, ls]
  exact q (x * z * w, y * z) s11 ⟨bd_mono v2 (by omega), Int.mul_pos hy.1 hz.1, bd_mono v3 (by omega)⟩ ls (t11.mono (by omega)) (o1.trans (o2.trans (o3.trans (o4.trans (o5.trans (o6.trans (o7.trans (o8.trans (o9.trans (o10.trans o11))))))))))
end
end ZZ

end
section
set_option maxHeartbeats 4000000
namespace ZZ
theorem fr_low {x : Int × Int} (h : Fr x) : Fr (lowN x.1 x.2) := ⟨(bd_low h.2.1 h.1 h.2.2).1, (low_pos h.2.1).1, (bd_low h.2.1 h.1 h.2.2).2⟩
theorem pd_zfr {x : Int × Int} : (zfr x).pd = true ∧ (zfr x).dep = 1 := ⟨rfl, rfl⟩
theorem pd_frs : ∀ {l : List (Int × Int)}, pdL (l.map zfr) = true ∧ depL (l.map zfr) ≤ 1
  | [] => ⟨rfl, by decide⟩
  | x :: l => by
    obtain ⟨a, b⟩ := pd_frs (l := l)
    rw [List.map_cons]
    unfold pdL depL
    rw [a, pd_zfr.1, pd_zfr.2]
    exact ⟨rfl, by omega⟩
theorem refs_frs {l : List (Int × Int)} : refsL (l.map zfr) = [] := refsL_map fun _ => rfl
theorem ne_frs {st : Sto} {l : List (Int × Int)} : zcmp .ne st (.lst (l.map zfr)) (.lst (l.map zfr)) = some false :=
  c_ne_self rfl pd_frs.1 (by show depL (l.map zfr) + 1 ≤ 60; have := pd_frs (l := l); omega)
theorem rep2 {st : Sto} {z : Z} : zbin .rep st (.lst [z]) (.int 2) = some (.lst [z, z]) := (rfl)
theorem sum_rev {l : List (Int × Int)} (h : ∀ x ∈ l, Fr x) : sumF l.reverse = sumF l := by
  rw [sumF_eq fun x hx => (h x hx).2.1, sumF_eq fun x hx => (h x (List.mem_reverse.mp hx)).2.1, aF_perm (List.reverse_perm l), wF_perm (List.reverse_perm l)]
theorem fr_neg {x : Int × Int} (h : Fr x) : Fr (0 - x.1, x.2) := ⟨by show (0 - x.1).natAbs < _; have := h.1; omega, h.2⟩
theorem law_w {tab : String → Option FnD} {gv : String → Option Z} {N : Nat} (T : Tab01 tab gv N) (ns : List Int) : ∃ st, runA tab gv N 9 d_law_T [.scr ns] 0 [] = .ok (.bl true) st := by
  refine wp_runA rfl ?_
  unfold d_law_T fnd b_law
  simp -dsimp only [ev.eq_1, ev.eq_2, ev.eq_3, ev.eq_4, ev.eq_5, ev.eq_6, ev.eq_7, ev.eq_8, ev.eq_9, ev.eq_10, ev.eq_11, ev.eq_12, ev.eq_13, ev.eq_14, ev.eq_15, ev.eq_16, ev.eq_19, ev.eq_20, ev.eq_21, ev.eq_22, ev.eq_23, ev.eq_24, ev.eq_25, ev.eq_26, ev.eq_28, ev.eq_29, ev.eq_30, ev.eq_31, ev.eq_32, evs.eq_1, evs.eq_2, evo.eq_1, evo.eq_2, evc.eq_1, evc.eq_2, rbind_ok, ↓Wp_ok, ↓Wp_bind, Wp_no, Wp_exn, calm_Wp, ↓Wp_ifno, ↓Wp_ite, Br_true, Br_false, Br_not, ofO_Wp, An_true, w_add, w_sub, w_mul, w_mod, w_fdiv, w_pow, w_strs, w_tups, w_lsts, c_lt, c_le, c_gt, c_ge, c_eqi, c_nei, c_eqs, c_nes, c_eqb, c_neb, c_isn, c_notn, nq_non, nq_int, nq_bl, nq_str, nq_lst, nq_tup, nq_ins, t_non, t_bl, t_int, t_lst, t_tup, ix_tup, ix_lst, ix_scr, atI_0, ↓Cn_nx, ↓Cn_bk, ↓Cn_ct, ↓Cn_rt, ↓w_nil, ↓w_cons, w_asg, w_ex, w_ret, w_retN, w_ife, w_ix, Rt_f, Rt_fn, Rt_t, Tn_nx, Tn_ct, Tn_bk, Tn_rt, bindT.eq_1, bindT.eq_2, bindT.eq_3, bindTs.eq_1, bindTs.eq_2, sa0, sa1, sa2, sa11, sa21, sa22, ss0, ss1, ss11, st0, st1, st2, w_append, atI_9, atI_10, atI_11, atI_12, atI_13, cut_9, cut_4, cut_5, List.drop_succ_cons, List.drop_zero, pw4, lg2, zfzL_strs, refsL_strs, ix_str, zsm, seqv, asKt, la1, stn, w_asgF, Ac_ins, putFs_nil, putFs_cons, putG, Nat.reduceLT,  zbools_map, zints_map, zints_int, zstrs_map, all_id, any_id, zsl, cut_1, cut_2, cut_3, cut_t1, cut_t2, cut_t3, cut_from, cut_to, cut_map, atI_map, atI_1, atI_2, atI_3, atI_4, atI_5, atI_6, atI_7, atI_8, nc0, nc1, nc2, nc3, nc4, nc5, nc6, drop_map', take_map', atI_neg1, c_eql, c_nel, Br_F, isL_lst, isL_str, isS_str, ds0, ds1, ds2, ds11, ds21, ds22, di0, w_augU, Ai_int, w_fzv, Av_z, refsL_ints, Wp_none, w_put, Ap_lst, mayW_int, mayW_str, mayW_bl, mayW_self, w_fzc, zfzL_ints, wipeE, List.getElem?_cons_zero, List.getElem?_cons_succ, List.set_cons_zero, List.set_cons_succ, Option.map_some, Option.bind_some, Option.map_none, startE, List.map_cons, List.map_nil, List.length_cons, List.length_nil, List.nil_append, List.cons_append, List.append_nil, List.reduceReplicate, Nat.reduceAdd, Nat.reduceSub, dr_int, dr_bl, dr_non, dr_str, dr_lst, dr_tup, dr_dic, dr_ins, dr_scr, zbf, zbf1, zbf2, zlen, zabs, zint, zlst, asKf, mkLf, mkLt, Bool.not_true, Bool.not_false, Bool.not_not, Bool.and_true, Bool.true_and, Bool.and_false, Bool.false_and, decide_eq_true_eq, decide_eq_false_iff_not, decide_true, decide_false, Bool.not_eq_true', eq_self_iff_true, not_false_eq_true, not_true_eq_false, Bool.false_eq_true, reduceCtorEq, if_true, if_false, ite_true, ite_false, Z.refs, refsL, List.all_nil, List.all_cons, List.take_length, isi_Wp, tyOf, isTy, List.any_cons, List.any_nil, Bool.or_false, Bool.false_or, Bool.or_true, Bool.true_or, String.reduceEq, String.reduceBEq, beq_self_eq_true, zfd_ins, getF, insM_ins, me_ok, Int.reduceLT, Int.reduceLE, Int.reduceEq, Int.reduceNeg, Int.reduceAdd, Int.reduceSub, Int.reduceMul, gt_iff_lt, ge_iff_le, and_true, true_and, and_self, and_false, false_and, implies_true, true_implies, Prod.mk.injEq, ne_eq, bne]
  obtain ⟨m, m1, m2, hI⟩ := first_six (F := run tab gv N 8) (gv := gv) (ns := ns) (en := [some (.scr ns), none, none, none, none, none, none, none, none, none, none, none, none, none, none]) (st := []) (b := 0) (M := 6) (by omega) rfl
  refine wp_fo (fun i e s => ∃ e1 e2 e3 e4 e5 e6 e7 e8 e9 e10 e11 e12 e13 e14, e = [some (.scr ns), e1, e2, e3, e4, e5, e6, e7, e8, e9, e10, e11, e12, e13, e14]) hI ⟨_, _, _, _, _, _, _, _, _, _, _, _, _, _, rfl⟩ ?_ ?_
  · rintro j hj e s ⟨e1, e2, e3, e4, e5, e6, e7, e8, e9, e10, e11, e12, e13, e14, rfl⟩
    have hj' : j < m.toNat := by simpa using hj
    rw [List.getElem_map, List.getElem_range]
    refine ⟨stays_nil, _, rfl, ?_⟩
    obtain ⟨c, et, tt⟩ := tape_ok (gv := gv) (N := N) T.tape (k := 7) (b := 0) (st := s) (ns := ns) (i := (j : Int)) (by omega) (by omega)
    simp -dsimp only [ev.eq_1, ev.eq_2, ev.eq_3, ev.eq_4, ev.eq_5, ev.eq_6, ev.eq_7, ev.eq_8, ev.eq_9, ev.eq_10, ev.eq_11, ev.eq_12, ev.eq_13, ev.eq_14, ev.eq_15, ev.eq_16, ev.eq_19, ev.eq_20, ev.eq_21, ev.eq_22, ev.eq_23, ev.eq_24, ev.eq_25, ev.eq_26, ev.eq_28, ev.eq_29, ev.eq_30, ev.eq_31, ev.eq_32, evs.eq_1, evs.eq_2, evo.eq_1, evo.eq_2, evc.eq_1, evc.eq_2, rbind_ok, ↓Wp_ok, ↓Wp_bind, Wp_no, Wp_exn, calm_Wp, ↓Wp_ifno, ↓Wp_ite, Br_true, Br_false, Br_not, ofO_Wp, An_true, w_add, w_sub, w_mul, w_mod, w_fdiv, w_pow, w_strs, w_tups, w_lsts, c_lt, c_le, c_gt, c_ge, c_eqi, c_nei, c_eqs, c_nes, c_eqb, c_neb, c_isn, c_notn, nq_non, nq_int, nq_bl, nq_str, nq_lst, nq_tup, nq_ins, t_non, t_bl, t_int, t_lst, t_tup, ix_tup, ix_lst, ix_scr, atI_0, ↓Cn_nx, ↓Cn_bk, ↓Cn_ct, ↓Cn_rt, ↓w_nil, ↓w_cons, w_asg, w_ex, w_ret, w_retN, w_ife, w_ix, Rt_f, Rt_fn, Rt_t, Tn_nx, Tn_ct, Tn_bk, Tn_rt, bindT.eq_1, bindT.eq_2, bindT.eq_3, bindTs.eq_1, bindTs.eq_2, sa0, sa1, sa2, sa11, sa21, sa22, ss0, ss1, ss11, st0, st1, st2, w_append, atI_9, atI_10, atI_11, atI_12, atI_13, cut_9, cut_4, cut_5, List.drop_succ_cons, List.drop_zero, pw4, lg2, zfzL_strs, refsL_strs, ix_str, zsm, seqv, asKt, la1, stn, w_asgF, Ac_ins, putFs_nil, putFs_cons, putG, Nat.reduceLT,  zbools_map, zints_map, zints_int, zstrs_map, all_id, any_id, zsl, cut_1, cut_2, cut_3, cut_t1, cut_t2, cut_t3, cut_from, cut_to, cut_map, atI_map, atI_1, atI_2, atI_3, atI_4, atI_5, atI_6, atI_7, atI_8, nc0, nc1, nc2, nc3, nc4, nc5, nc6, drop_map', take_map', atI_neg1, c_eql, c_nel, Br_F, isL_lst, isL_str, isS_str, ds0, ds1, ds2, ds11, ds21, ds22, di0, w_augU, Ai_int, w_fzv, Av_z, refsL_ints, Wp_none, w_put, Ap_lst, mayW_int, mayW_str, mayW_bl, mayW_self, w_fzc, zfzL_ints, wipeE, List.getElem?_cons_zero, List.getElem?_cons_succ, List.set_cons_zero, List.set_cons_succ, Option.map_some, Option.bind_some, Option.map_none, startE, List.map_cons, List.map_nil, List.length_cons, List.length_nil, List.nil_append, List.cons_append, List.append_nil, List.reduceReplicate, Nat.reduceAdd, Nat.reduceSub, dr_int, dr_bl, dr_non, dr_str, dr_lst, dr_tup, dr_dic, dr_ins, dr_scr, zbf, zbf1, zbf2, zlen, zabs, zint, zlst, asKf, mkLf, mkLt, Bool.not_true, Bool.not_false, Bool.not_not, Bool.and_true, Bool.true_and, Bool.and_false, Bool.false_and, decide_eq_true_eq, decide_eq_false_iff_not, decide_true, decide_false, Bool.not_eq_true', eq_self_iff_true, not_false_eq_true, not_true_eq_false, Bool.false_eq_true, reduceCtorEq, if_true, if_false, ite_true, ite_false, Z.refs, refsL, List.all_nil, List.all_cons, List.take_length, isi_Wp, tyOf, isTy, List.any_cons, List.any_nil, Bool.or_false, Bool.false_or, Bool.or_true, Bool.true_or, String.reduceEq, String.reduceBEq, beq_self_eq_true, zfd_ins, getF, insM_ins, me_ok, Int.reduceLT, Int.reduceLE, Int.reduceEq, Int.reduceNeg, Int.reduceAdd, Int.reduceSub, Int.reduceMul, gt_iff_lt, ge_iff_le, and_true, true_and, and_self, and_false, false_and, implies_true, true_implies, Prod.mk.injEq, ne_eq, bne, et]
    have hlen : (s ++ [c]).length = s.length + 1 := by simp
    generalize s ++ [c] = s1 at *
    generalize s.length = n at *
    refine wp_lca zfr (fun ys s' => s'.length = n + 1 ∧ Tape s' n (11 * ys.length) ∧ ∀ y ∈ ys, Fr y) (zs := (List.range 12).map fun (k : Nat) => Z.int k) (hs := []) (st1 := s1) ?_ ⟨hlen, tt.mono (by simp), fun y hy => by cases hy⟩ ?_ (fun _ _ _ _ => stays_nil) ?_
    · simp -dsimp only [ev.eq_1, ev.eq_2, ev.eq_3, ev.eq_4, ev.eq_5, ev.eq_6, ev.eq_7, ev.eq_8, ev.eq_9, ev.eq_10, ev.eq_11, ev.eq_12, ev.eq_13, ev.eq_14, ev.eq_15, ev.eq_16, ev.eq_19, ev.eq_20, ev.eq_21, ev.eq_22, ev.eq_23, ev.eq_24, ev.eq_25, ev.eq_26, ev.eq_28, ev.eq_29, ev.eq_30, ev.eq_31, ev.eq_32, evs.eq_1, evs.eq_2, evo.eq_1, evo.eq_2, evc.eq_1, evc.eq_2, rbind_ok, ↓Wp_ok, ↓Wp_bind, Wp_no, Wp_exn, calm_Wp, ↓Wp_ifno, ↓Wp_ite, Br_true, Br_false, Br_not, ofO_Wp, An_true, w_add, w_sub, w_mul, w_mod, w_fdiv, w_pow, w_strs, w_tups, w_lsts, c_lt, c_le, c_gt, c_ge, c_eqi, c_nei, c_eqs, c_nes, c_eqb, c_neb, c_isn, c_notn, nq_non, nq_int, nq_bl, nq_str, nq_lst, nq_tup, nq_ins, t_non, t_bl, t_int, t_lst, t_tup, ix_tup, ix_lst, ix_scr, atI_0, ↓Cn_nx, ↓Cn_bk, ↓Cn_ct, ↓Cn_rt, ↓w_nil, ↓w_cons, w_asg, w_ex, w_ret, w_retN, w_ife, w_ix, Rt_f, Rt_fn, Rt_t, Tn_nx, Tn_ct, Tn_bk, Tn_rt, bindT.eq_1, bindT.eq_2, bindT.eq_3, bindTs.eq_1, bindTs.eq_2, sa0, sa1, sa2, sa11, sa21, sa22, ss0, ss1, ss11, st0, st1, st2, w_append, atI_9, atI_10, atI_11, atI_12, atI_13, cut_9, cut_4, cut_5, List.drop_succ_cons, List.drop_zero, pw4, lg2, zfzL_strs, refsL_strs, ix_str, zsm, seqv, asKt, la1, stn, w_asgF, Ac_ins, putFs_nil, putFs_cons, putG, Nat.reduceLT,  zbools_map, zints_map, zints_int, zstrs_map, all_id, any_id, zsl, cut_1, cut_2, cut_3, cut_t1, cut_t2, cut_t3, cut_from, cut_to, cut_map, atI_map, atI_1, atI_2, atI_3, atI_4, atI_5, atI_6, atI_7, atI_8, nc0, nc1, nc2, nc3, nc4, nc5, nc6, drop_map', take_map', atI_neg1, c_eql, c_nel, Br_F, isL_lst, isL_str, isS_str, ds0, ds1, ds2, ds11, ds21, ds22, di0, w_augU, Ai_int, w_fzv, Av_z, refsL_ints, Wp_none, w_put, Ap_lst, mayW_int, mayW_str, mayW_bl, mayW_self, w_fzc, zfzL_ints, wipeE, List.getElem?_cons_zero, List.getElem?_cons_succ, List.set_cons_zero, List.set_cons_succ, Option.map_some, Option.bind_some, Option.map_none, startE, List.map_cons, List.map_nil, List.length_cons, List.length_nil, List.nil_append, List.cons_append, List.append_nil, List.reduceReplicate, Nat.reduceAdd, Nat.reduceSub, dr_int, dr_bl, dr_non, dr_str, dr_lst, dr_tup, dr_dic, dr_ins, dr_scr, zbf, zbf1, zbf2, zlen, zabs, zint, zlst, asKf, mkLf, mkLt, Bool.not_true, Bool.not_false, Bool.not_not, Bool.and_true, Bool.true_and, Bool.and_false, Bool.false_and, decide_eq_true_eq, decide_eq_false_iff_not, decide_true, decide_false, Bool.not_eq_true', eq_self_iff_true, not_false_eq_true, not_true_eq_false, Bool.false_eq_true, reduceCtorEq, if_true, if_false, ite_true, ite_false, Z.refs, refsL, List.all_nil, List.all_cons, List.take_length, isi_Wp, tyOf, isTy, List.any_cons, List.any_nil, Bool.or_false, Bool.false_or, Bool.or_true, Bool.true_or, String.reduceEq, String.reduceBEq, beq_self_eq_true, zfd_ins, getF, insM_ins, me_ok, Int.reduceLT, Int.reduceLE, Int.reduceEq, Int.reduceNeg, Int.reduceAdd, Int.reduceSub, Int.reduceMul, gt_iff_lt, ge_iff_le, and_true, true_and, and_self, and_false, false_and, implies_true, true_implies, Prod.mk.injEq, ne_eq, bne, evI, rng1 (show (12 : Int) ≤ 1000000 ∧ -(10 ^ 9) ≤ (12 : Int) by omega)]
      rfl
    · rintro ys s' hy ⟨hl, t', hf⟩
      have hy' : ys.length < 12 := by simpa using hy
      refine ⟨stays_nil, _, rfl, ?_⟩
      simp -dsimp only [ev.eq_1, ev.eq_2, ev.eq_3, ev.eq_4, ev.eq_5, ev.eq_6, ev.eq_7, ev.eq_8, ev.eq_9, ev.eq_10, ev.eq_11, ev.eq_12, ev.eq_13, ev.eq_14, ev.eq_15, ev.eq_16, ev.eq_19, ev.eq_20, ev.eq_21, ev.eq_22, ev.eq_23, ev.eq_24, ev.eq_25, ev.eq_26, ev.eq_28, ev.eq_29, ev.eq_30, ev.eq_31, ev.eq_32, evs.eq_1, evs.eq_2, evo.eq_1, evo.eq_2, evc.eq_1, evc.eq_2, rbind_ok, ↓Wp_ok, ↓Wp_bind, Wp_no, Wp_exn, calm_Wp, ↓Wp_ifno, ↓Wp_ite, Br_true, Br_false, Br_not, ofO_Wp, An_true, w_add, w_sub, w_mul, w_mod, w_fdiv, w_pow, w_strs, w_tups, w_lsts, c_lt, c_le, c_gt, c_ge, c_eqi, c_nei, c_eqs, c_nes, c_eqb, c_neb, c_isn, c_notn, nq_non, nq_int, nq_bl, nq_str, nq_lst, nq_tup, nq_ins, t_non, t_bl, t_int, t_lst, t_tup, ix_tup, ix_lst, ix_scr, atI_0, ↓Cn_nx, ↓Cn_bk, ↓Cn_ct, ↓Cn_rt, ↓w_nil, ↓w_cons, w_asg, w_ex, w_ret, w_retN, w_ife, w_ix, Rt_f, Rt_fn, Rt_t, Tn_nx, Tn_ct, Tn_bk, Tn_rt, bindT.eq_1, bindT.eq_2, bindT.eq_3, bindTs.eq_1, bindTs.eq_2, sa0, sa1, sa2, sa11, sa21, sa22, ss0, ss1, ss11, st0, st1, st2, w_append, atI_9, atI_10, atI_11, atI_12, atI_13, cut_9, cut_4, cut_5, List.drop_succ_cons, List.drop_zero, pw4, lg2, zfzL_strs, refsL_strs, ix_str, zsm, seqv, asKt, la1, stn, w_asgF, Ac_ins, putFs_nil, putFs_cons, putG, Nat.reduceLT,  zbools_map, zints_map, zints_int, zstrs_map, all_id, any_id, zsl, cut_1, cut_2, cut_3, cut_t1, cut_t2, cut_t3, cut_from, cut_to, cut_map, atI_map, atI_1, atI_2, atI_3, atI_4, atI_5, atI_6, atI_7, atI_8, nc0, nc1, nc2, nc3, nc4, nc5, nc6, drop_map', take_map', atI_neg1, c_eql, c_nel, Br_F, isL_lst, isL_str, isS_str, ds0, ds1, ds2, ds11, ds21, ds22, di0, w_augU, Ai_int, w_fzv, Av_z, refsL_ints, Wp_none, w_put, Ap_lst, mayW_int, mayW_str, mayW_bl, mayW_self, w_fzc, zfzL_ints, wipeE, List.getElem?_cons_zero, List.getElem?_cons_succ, List.set_cons_zero, List.set_cons_succ, Option.map_some, Option.bind_some, Option.map_none, startE, List.map_cons, List.map_nil, List.length_cons, List.length_nil, List.nil_append, List.cons_append, List.append_nil, List.reduceReplicate, Nat.reduceAdd, Nat.reduceSub, dr_int, dr_bl, dr_non, dr_str, dr_lst, dr_tup, dr_dic, dr_ins, dr_scr, zbf, zbf1, zbf2, zlen, zabs, zint, zlst, asKf, mkLf, mkLt, Bool.not_true, Bool.not_false, Bool.not_not, Bool.and_true, Bool.true_and, Bool.and_false, Bool.false_and, decide_eq_true_eq, decide_eq_false_iff_not, decide_true, decide_false, Bool.not_eq_true', eq_self_iff_true, not_false_eq_true, not_true_eq_false, Bool.false_eq_true, reduceCtorEq, if_true, if_false, ite_true, ite_false, Z.refs, refsL, List.all_nil, List.all_cons, List.take_length, isi_Wp, tyOf, isTy, List.any_cons, List.any_nil, Bool.or_false, Bool.false_or, Bool.or_true, Bool.true_or, String.reduceEq, String.reduceBEq, beq_self_eq_true, zfd_ins, getF, insM_ins, me_ok, Int.reduceLT, Int.reduceLE, Int.reduceEq, Int.reduceNeg, Int.reduceAdd, Int.reduceSub, Int.reduceMul, gt_iff_lt, ge_iff_le, and_true, true_and, and_self, and_false, false_and, implies_true, true_implies, Prod.mk.injEq, ne_eq, bne]
      refine worth_w T t' (by omega) fun x s3 fx l3 t3 o3 => ?_
      refine ⟨x, rfl, l3.trans hl, t3.mono (by simp; omega), fun y hy => ?_⟩
      rcases List.mem_append.mp hy with hy | hy
      · exact hf y hy
      · cases List.mem_singleton.mp hy; exact fx
    rintro ws s2 ⟨l2, t2, f2⟩ hw
    have hw : ws.length = 12 := by simpa using hw
    obtain ⟨w0, hw0⟩ : ∃ w0, ws[0]? = some w0 := ⟨ws[0], by simp [hw]⟩
    have fw0 : Fr w0 := f2 w0 (List.mem_of_getElem? hw0)
    simp -dsimp only [ev.eq_1, ev.eq_2, ev.eq_3, ev.eq_4, ev.eq_5, ev.eq_6, ev.eq_7, ev.eq_8, ev.eq_9, ev.eq_10, ev.eq_11, ev.eq_12, ev.eq_13, ev.eq_14, ev.eq_15, ev.eq_16, ev.eq_19, ev.eq_20, ev.eq_21, ev.eq_22, ev.eq_23, ev.eq_24, ev.eq_25, ev.eq_26, ev.eq_28, ev.eq_29, ev.eq_30, ev.eq_31, ev.eq_32, evs.eq_1, evs.eq_2, evo.eq_1, evo.eq_2, evc.eq_1, evc.eq_2, rbind_ok, ↓Wp_ok, ↓Wp_bind, Wp_no, Wp_exn, calm_Wp, ↓Wp_ifno, ↓Wp_ite, Br_true, Br_false, Br_not, ofO_Wp, An_true, w_add, w_sub, w_mul, w_mod, w_fdiv, w_pow, w_strs, w_tups, w_lsts, c_lt, c_le, c_gt, c_ge, c_eqi, c_nei, c_eqs, c_nes, c_eqb, c_neb, c_isn, c_notn, nq_non, nq_int, nq_bl, nq_str, nq_lst, nq_tup, nq_ins, t_non, t_bl, t_int, t_lst, t_tup, ix_tup, ix_lst, ix_scr, atI_0, ↓Cn_nx, ↓Cn_bk, ↓Cn_ct, ↓Cn_rt, ↓w_nil, ↓w_cons, w_asg, w_ex, w_ret, w_retN, w_ife, w_ix, Rt_f, Rt_fn, Rt_t, Tn_nx, Tn_ct, Tn_bk, Tn_rt, bindT.eq_1, bindT.eq_2, bindT.eq_3, bindTs.eq_1, bindTs.eq_2, sa0, sa1, sa2, sa11, sa21, sa22, ss0, ss1, ss11, st0, st1, st2, w_append, atI_9, atI_10, atI_11, atI_12, atI_13, cut_9, cut_4, cut_5, List.drop_succ_cons, List.drop_zero, pw4, lg2, zfzL_strs, refsL_strs, ix_str, zsm, seqv, asKt, la1, stn, w_asgF, Ac_ins, putFs_nil, putFs_cons, putG, Nat.reduceLT,  zbools_map, zints_map, zints_int, zstrs_map, all_id, any_id, zsl, cut_1, cut_2, cut_3, cut_t1, cut_t2, cut_t3, cut_from, cut_to, cut_map, atI_map, atI_1, atI_2, atI_3, atI_4, atI_5, atI_6, atI_7, atI_8, nc0, nc1, nc2, nc3, nc4, nc5, nc6, drop_map', take_map', atI_neg1, c_eql, c_nel, Br_F, isL_lst, isL_str, isS_str, ds0, ds1, ds2, ds11, ds21, ds22, di0, w_augU, Ai_int, w_fzv, Av_z, refsL_ints, Wp_none, w_put, Ap_lst, mayW_int, mayW_str, mayW_bl, mayW_self, w_fzc, zfzL_ints, wipeE, List.getElem?_cons_zero, List.getElem?_cons_succ, List.set_cons_zero, List.set_cons_succ, Option.map_some, Option.bind_some, Option.map_none, startE, List.map_cons, List.map_nil, List.length_cons, List.length_nil, List.nil_append, List.cons_append, List.append_nil, List.reduceReplicate, Nat.reduceAdd, Nat.reduceSub, dr_int, dr_bl, dr_non, dr_str, dr_lst, dr_tup, dr_dic, dr_ins, dr_scr, zbf, zbf1, zbf2, zlen, zabs, zint, zlst, asKf, mkLf, mkLt, Bool.not_true, Bool.not_false, Bool.not_not, Bool.and_true, Bool.true_and, Bool.and_false, Bool.false_and, decide_eq_true_eq, decide_eq_false_iff_not, decide_true, decide_false, Bool.not_eq_true', eq_self_iff_true, not_false_eq_true, not_true_eq_false, Bool.false_eq_true, reduceCtorEq, if_true, if_false, ite_true, ite_false, Z.refs, refsL, List.all_nil, List.all_cons, List.take_length, isi_Wp, tyOf, isTy, List.any_cons, List.any_nil, Bool.or_false, Bool.false_or, Bool.or_true, Bool.true_or, String.reduceEq, String.reduceBEq, beq_self_eq_true, zfd_ins, getF, insM_ins, me_ok, Int.reduceLT, Int.reduceLE, Int.reduceEq, Int.reduceNeg, Int.reduceAdd, Int.reduceSub, Int.reduceMul, gt_iff_lt, ge_iff_le, and_true, true_and, and_self, and_false, false_and, implies_true, true_implies, Prod.mk.injEq, ne_eq, bne]
    refine wp_lcp (xs := ws) zfr (fun x => zfr (lowN x.1 x.2)) (hs := [.lst (ws.map zfr)]) (st1 := s2) ?_ (fun x hx => ⟨_, rfl, ?_⟩) ?_
    · simp -dsimp only [ev.eq_1, ev.eq_2, ev.eq_3, ev.eq_4, ev.eq_5, ev.eq_6, ev.eq_7, ev.eq_8, ev.eq_9, ev.eq_10, ev.eq_11, ev.eq_12, ev.eq_13, ev.eq_14, ev.eq_15, ev.eq_16, ev.eq_19, ev.eq_20, ev.eq_21, ev.eq_22, ev.eq_23, ev.eq_24, ev.eq_25, ev.eq_26, ev.eq_28, ev.eq_29, ev.eq_30, ev.eq_31, ev.eq_32, evs.eq_1, evs.eq_2, evo.eq_1, evo.eq_2, evc.eq_1, evc.eq_2, rbind_ok, ↓Wp_ok, ↓Wp_bind, Wp_no, Wp_exn, calm_Wp, ↓Wp_ifno, ↓Wp_ite, Br_true, Br_false, Br_not, ofO_Wp, An_true, w_add, w_sub, w_mul, w_mod, w_fdiv, w_pow, w_strs, w_tups, w_lsts, c_lt, c_le, c_gt, c_ge, c_eqi, c_nei, c_eqs, c_nes, c_eqb, c_neb, c_isn, c_notn, nq_non, nq_int, nq_bl, nq_str, nq_lst, nq_tup, nq_ins, t_non, t_bl, t_int, t_lst, t_tup, ix_tup, ix_lst, ix_scr, atI_0, ↓Cn_nx, ↓Cn_bk, ↓Cn_ct, ↓Cn_rt, ↓w_nil, ↓w_cons, w_asg, w_ex, w_ret, w_retN, w_ife, w_ix, Rt_f, Rt_fn, Rt_t, Tn_nx, Tn_ct, Tn_bk, Tn_rt, bindT.eq_1, bindT.eq_2, bindT.eq_3, bindTs.eq_1, bindTs.eq_2, sa0, sa1, sa2, sa11, sa21, sa22, ss0, ss1, ss11, st0, st1, st2, w_append, atI_9, atI_10, atI_11, atI_12, atI_13, cut_9, cut_4, cut_5, List.drop_succ_cons, List.drop_zero, pw4, lg2, zfzL_strs, refsL_strs, ix_str, zsm, seqv, asKt, la1, stn, w_asgF, Ac_ins, putFs_nil, putFs_cons, putG, Nat.reduceLT,  zbools_map, zints_map, zints_int, zstrs_map, all_id, any_id, zsl, cut_1, cut_2, cut_3, cut_t1, cut_t2, cut_t3, cut_from, cut_to, cut_map, atI_map, atI_1, atI_2, atI_3, atI_4, atI_5, atI_6, atI_7, atI_8, nc0, nc1, nc2, nc3, nc4, nc5, nc6, drop_map', take_map', atI_neg1, c_eql, c_nel, Br_F, isL_lst, isL_str, isS_str, ds0, ds1, ds2, ds11, ds21, ds22, di0, w_augU, Ai_int, w_fzv, Av_z, refsL_ints, Wp_none, w_put, Ap_lst, mayW_int, mayW_str, mayW_bl, mayW_self, w_fzc, zfzL_ints, wipeE, List.getElem?_cons_zero, List.getElem?_cons_succ, List.set_cons_zero, List.set_cons_succ, Option.map_some, Option.bind_some, Option.map_none, startE, List.map_cons, List.map_nil, List.length_cons, List.length_nil, List.nil_append, List.cons_append, List.append_nil, List.reduceReplicate, Nat.reduceAdd, Nat.reduceSub, dr_int, dr_bl, dr_non, dr_str, dr_lst, dr_tup, dr_dic, dr_ins, dr_scr, zbf, zbf1, zbf2, zlen, zabs, zint, zlst, asKf, mkLf, mkLt, Bool.not_true, Bool.not_false, Bool.not_not, Bool.and_true, Bool.true_and, Bool.and_false, Bool.false_and, decide_eq_true_eq, decide_eq_false_iff_not, decide_true, decide_false, Bool.not_eq_true', eq_self_iff_true, not_false_eq_true, not_true_eq_false, Bool.false_eq_true, reduceCtorEq, if_true, if_false, ite_true, ite_false, Z.refs, refsL, List.all_nil, List.all_cons, List.take_length, isi_Wp, tyOf, isTy, List.any_cons, List.any_nil, Bool.or_false, Bool.false_or, Bool.or_true, Bool.true_or, String.reduceEq, String.reduceBEq, beq_self_eq_true, zfd_ins, getF, insM_ins, me_ok, Int.reduceLT, Int.reduceLE, Int.reduceEq, Int.reduceNeg, Int.reduceAdd, Int.reduceSub, Int.reduceMul, gt_iff_lt, ge_iff_le, and_true, true_and, and_self, and_false, false_and, implies_true, true_implies, Prod.mk.injEq, ne_eq, bne, evI]
    · have fx := f2 x hx
      simp -dsimp only [ev.eq_1, ev.eq_2, ev.eq_3, ev.eq_4, ev.eq_5, ev.eq_6, ev.eq_7, ev.eq_8, ev.eq_9, ev.eq_10, ev.eq_11, ev.eq_12, ev.eq_13, ev.eq_14, ev.eq_15, ev.eq_16, ev.eq_19, ev.eq_20, ev.eq_21, ev.eq_22, ev.eq_23, ev.eq_24, ev.eq_25, ev.eq_26, ev.eq_28, ev.eq_29, ev.eq_30, ev.eq_31, ev.eq_32, evs.eq_1, evs.eq_2, evo.eq_1, evo.eq_2, evc.eq_1, evc.eq_2, rbind_ok, ↓Wp_ok, ↓Wp_bind, Wp_no, Wp_exn, calm_Wp, ↓Wp_ifno, ↓Wp_ite, Br_true, Br_false, Br_not, ofO_Wp, An_true, w_add, w_sub, w_mul, w_mod, w_fdiv, w_pow, w_strs, w_tups, w_lsts, c_lt, c_le, c_gt, c_ge, c_eqi, c_nei, c_eqs, c_nes, c_eqb, c_neb, c_isn, c_notn, nq_non, nq_int, nq_bl, nq_str, nq_lst, nq_tup, nq_ins, t_non, t_bl, t_int, t_lst, t_tup, ix_tup, ix_lst, ix_scr, atI_0, ↓Cn_nx, ↓Cn_bk, ↓Cn_ct, ↓Cn_rt, ↓w_nil, ↓w_cons, w_asg, w_ex, w_ret, w_retN, w_ife, w_ix, Rt_f, Rt_fn, Rt_t, Tn_nx, Tn_ct, Tn_bk, Tn_rt, bindT.eq_1, bindT.eq_2, bindT.eq_3, bindTs.eq_1, bindTs.eq_2, sa0, sa1, sa2, sa11, sa21, sa22, ss0, ss1, ss11, st0, st1, st2, w_append, atI_9, atI_10, atI_11, atI_12, atI_13, cut_9, cut_4, cut_5, List.drop_succ_cons, List.drop_zero, pw4, lg2, zfzL_strs, refsL_strs, ix_str, zsm, seqv, asKt, la1, stn, w_asgF, Ac_ins, putFs_nil, putFs_cons, putG, Nat.reduceLT,  zbools_map, zints_map, zints_int, zstrs_map, all_id, any_id, zsl, cut_1, cut_2, cut_3, cut_t1, cut_t2, cut_t3, cut_from, cut_to, cut_map, atI_map, atI_1, atI_2, atI_3, atI_4, atI_5, atI_6, atI_7, atI_8, nc0, nc1, nc2, nc3, nc4, nc5, nc6, drop_map', take_map', atI_neg1, c_eql, c_nel, Br_F, isL_lst, isL_str, isS_str, ds0, ds1, ds2, ds11, ds21, ds22, di0, w_augU, Ai_int, w_fzv, Av_z, refsL_ints, Wp_none, w_put, Ap_lst, mayW_int, mayW_str, mayW_bl, mayW_self, w_fzc, zfzL_ints, wipeE, List.getElem?_cons_zero, List.getElem?_cons_succ, List.set_cons_zero, List.set_cons_succ, Option.map_some, Option.bind_some, Option.map_none, startE, List.map_cons, List.map_nil, List.length_cons, List.length_nil, List.nil_append, List.cons_append, List.append_nil, List.reduceReplicate, Nat.reduceAdd, Nat.reduceSub, dr_int, dr_bl, dr_non, dr_str, dr_lst, dr_tup, dr_dic, dr_ins, dr_scr, zbf, zbf1, zbf2, zlen, zabs, zint, zlst, asKf, mkLf, mkLt, Bool.not_true, Bool.not_false, Bool.not_not, Bool.and_true, Bool.true_and, Bool.and_false, Bool.false_and, decide_eq_true_eq, decide_eq_false_iff_not, decide_true, decide_false, Bool.not_eq_true', eq_self_iff_true, not_false_eq_true, not_true_eq_false, Bool.false_eq_true, reduceCtorEq, if_true, if_false, ite_true, ite_false, Z.refs, refsL, List.all_nil, List.all_cons, List.take_length, isi_Wp, tyOf, isTy, List.any_cons, List.any_nil, Bool.or_false, Bool.false_or, Bool.or_true, Bool.true_or, String.reduceEq, String.reduceBEq, beq_self_eq_true, zfd_ins, getF, insM_ins, me_ok, Int.reduceLT, Int.reduceLE, Int.reduceEq, Int.reduceNeg, Int.reduceAdd, Int.reduceSub, Int.reduceMul, gt_iff_lt, ge_iff_le, and_true, true_and, and_self, and_false, false_and, implies_true, true_implies, Prod.mk.injEq, ne_eq, bne, lowest_eq T (n := x.1) fx.2.1 fx.2.2 (by omega)]
    simp -dsimp only [ev.eq_1, ev.eq_2, ev.eq_3, ev.eq_4, ev.eq_5, ev.eq_6, ev.eq_7, ev.eq_8, ev.eq_9, ev.eq_10, ev.eq_11, ev.eq_12, ev.eq_13, ev.eq_14, ev.eq_15, ev.eq_16, ev.eq_19, ev.eq_20, ev.eq_21, ev.eq_22, ev.eq_23, ev.eq_24, ev.eq_25, ev.eq_26, ev.eq_28, ev.eq_29, ev.eq_30, ev.eq_31, ev.eq_32, evs.eq_1, evs.eq_2, evo.eq_1, evo.eq_2, evc.eq_1, evc.eq_2, rbind_ok, ↓Wp_ok, ↓Wp_bind, Wp_no, Wp_exn, calm_Wp, ↓Wp_ifno, ↓Wp_ite, Br_true, Br_false, Br_not, ofO_Wp, An_true, w_add, w_sub, w_mul, w_mod, w_fdiv, w_pow, w_strs, w_tups, w_lsts, c_lt, c_le, c_gt, c_ge, c_eqi, c_nei, c_eqs, c_nes, c_eqb, c_neb, c_isn, c_notn, nq_non, nq_int, nq_bl, nq_str, nq_lst, nq_tup, nq_ins, t_non, t_bl, t_int, t_lst, t_tup, ix_tup, ix_lst, ix_scr, atI_0, ↓Cn_nx, ↓Cn_bk, ↓Cn_ct, ↓Cn_rt, ↓w_nil, ↓w_cons, w_asg, w_ex, w_ret, w_retN, w_ife, w_ix, Rt_f, Rt_fn, Rt_t, Tn_nx, Tn_ct, Tn_bk, Tn_rt, bindT.eq_1, bindT.eq_2, bindT.eq_3, bindTs.eq_1, bindTs.eq_2, sa0, sa1, sa2, sa11, sa21, sa22, ss0, ss1, ss11, st0, st1, st2, w_append, atI_9, atI_10, atI_11, atI_12, atI_13, cut_9, cut_4, cut_5, List.drop_succ_cons, List.drop_zero, pw4, lg2, zfzL_strs, refsL_strs, ix_str, zsm, seqv, asKt, la1, stn, w_asgF, Ac_ins, putFs_nil, putFs_cons, putG, Nat.reduceLT,  zbools_map, zints_map, zints_int, zstrs_map, all_id, any_id, zsl, cut_1, cut_2, cut_3, cut_t1, cut_t2, cut_t3, cut_from, cut_to, cut_map, atI_map, atI_1, atI_2, atI_3, atI_4, atI_5, atI_6, atI_7, atI_8, nc0, nc1, nc2, nc3, nc4, nc5, nc6, drop_map', take_map', atI_neg1, c_eql, c_nel, Br_F, isL_lst, isL_str, isS_str, ds0, ds1, ds2, ds11, ds21, ds22, di0, w_augU, Ai_int, w_fzv, Av_z, refsL_ints, Wp_none, w_put, Ap_lst, mayW_int, mayW_str, mayW_bl, mayW_self, w_fzc, zfzL_ints, wipeE, List.getElem?_cons_zero, List.getElem?_cons_succ, List.set_cons_zero, List.set_cons_succ, Option.map_some, Option.bind_some, Option.map_none, startE, List.map_cons, List.map_nil, List.length_cons, List.length_nil, List.nil_append, List.cons_append, List.append_nil, List.reduceReplicate, Nat.reduceAdd, Nat.reduceSub, dr_int, dr_bl, dr_non, dr_str, dr_lst, dr_tup, dr_dic, dr_ins, dr_scr, zbf, zbf1, zbf2, zlen, zabs, zint, zlst, asKf, mkLf, mkLt, Bool.not_true, Bool.not_false, Bool.not_not, Bool.and_true, Bool.true_and, Bool.and_false, Bool.false_and, decide_eq_true_eq, decide_eq_false_iff_not, decide_true, decide_false, Bool.not_eq_true', eq_self_iff_true, not_false_eq_true, not_true_eq_false, Bool.false_eq_true, reduceCtorEq, if_true, if_false, ite_true, ite_false, Z.refs, refsL, List.all_nil, List.all_cons, List.take_length, isi_Wp, tyOf, isTy, List.any_cons, List.any_nil, Bool.or_false, Bool.false_or, Bool.or_true, Bool.true_or, String.reduceEq, String.reduceBEq, beq_self_eq_true, zfd_ins, getF, insM_ins, me_ok, Int.reduceLT, Int.reduceLE, Int.reduceEq, Int.reduceNeg, Int.reduceAdd, Int.reduceSub, Int.reduceMul, gt_iff_lt, ge_iff_le, and_true, true_and, and_self, and_false, false_and, implies_true, true_implies, Prod.mk.injEq, ne_eq, bne]
    refine wp_lcp (xs := ws) zfr (fun x => zfr (lowN x.1 x.2)) (hs := [.lst (ws.map zfr)]) (st1 := s2) ?_ (fun x hx => ⟨_, rfl, ?_⟩) ?_
    · simp -dsimp only [ev.eq_1, ev.eq_2, ev.eq_3, ev.eq_4, ev.eq_5, ev.eq_6, ev.eq_7, ev.eq_8, ev.eq_9, ev.eq_10, ev.eq_11, ev.eq_12, ev.eq_13, ev.eq_14, ev.eq_15, ev.eq_16, ev.eq_19, ev.eq_20, ev.eq_21, ev.eq_22, ev.eq_23, ev.eq_24, ev.eq_25, ev.eq_26, ev.eq_28, ev.eq_29, ev.eq_30, ev.eq_31, ev.eq_32, evs.eq_1, evs.eq_2, evo.eq_1, evo.eq_2, evc.eq_1, evc.eq_2, rbind_ok, ↓Wp_ok, ↓Wp_bind, Wp_no, Wp_exn, calm_Wp, ↓Wp_ifno, ↓Wp_ite, Br_true, Br_false, Br_not, ofO_Wp, An_true, w_add, w_sub, w_mul, w_mod, w_fdiv, w_pow, w_strs, w_tups, w_lsts, c_lt, c_le, c_gt, c_ge, c_eqi, c_nei, c_eqs, c_nes, c_eqb, c_neb, c_isn, c_notn, nq_non, nq_int, nq_bl, nq_str, nq_lst, nq_tup, nq_ins, t_non, t_bl, t_int, t_lst, t_tup, ix_tup, ix_lst, ix_scr, atI_0, ↓Cn_nx, ↓Cn_bk, ↓Cn_ct, ↓Cn_rt, ↓w_nil, ↓w_cons, w_asg, w_ex, w_ret, w_retN, w_ife, w_ix, Rt_f, Rt_fn, Rt_t, Tn_nx, Tn_ct, Tn_bk, Tn_rt, bindT.eq_1, bindT.eq_2, bindT.eq_3, bindTs.eq_1, bindTs.eq_2, sa0, sa1, sa2, sa11, sa21, sa22, ss0, ss1, ss11, st0, st1, st2, w_append, atI_9, atI_10, atI_11, atI_12, atI_13, cut_9, cut_4, cut_5, List.drop_succ_cons, List.drop_zero, pw4, lg2, zfzL_strs, refsL_strs, ix_str, zsm, seqv, asKt, la1, stn, w_asgF, Ac_ins, putFs_nil, putFs_cons, putG, Nat.reduceLT,  zbools_map, zints_map, zints_int, zstrs_map, all_id, any_id, zsl, cut_1, cut_2, cut_3, cut_t1, cut_t2, cut_t3, cut_from, cut_to, cut_map, atI_map, atI_1, atI_2, atI_3, atI_4, atI_5, atI_6, atI_7, atI_8, nc0, nc1, nc2, nc3, nc4, nc5, nc6, drop_map', take_map', atI_neg1, c_eql, c_nel, Br_F, isL_lst, isL_str, isS_str, ds0, ds1, ds2, ds11, ds21, ds22, di0, w_augU, Ai_int, w_fzv, Av_z, refsL_ints, Wp_none, w_put, Ap_lst, mayW_int, mayW_str, mayW_bl, mayW_self, w_fzc, zfzL_ints, wipeE, List.getElem?_cons_zero, List.getElem?_cons_succ, List.set_cons_zero, List.set_cons_succ, Option.map_some, Option.bind_some, Option.map_none, startE, List.map_cons, List.map_nil, List.length_cons, List.length_nil, List.nil_append, List.cons_append, List.append_nil, List.reduceReplicate, Nat.reduceAdd, Nat.reduceSub, dr_int, dr_bl, dr_non, dr_str, dr_lst, dr_tup, dr_dic, dr_ins, dr_scr, zbf, zbf1, zbf2, zlen, zabs, zint, zlst, asKf, mkLf, mkLt, Bool.not_true, Bool.not_false, Bool.not_not, Bool.and_true, Bool.true_and, Bool.and_false, Bool.false_and, decide_eq_true_eq, decide_eq_false_iff_not, decide_true, decide_false, Bool.not_eq_true', eq_self_iff_true, not_false_eq_true, not_true_eq_false, Bool.false_eq_true, reduceCtorEq, if_true, if_false, ite_true, ite_false, Z.refs, refsL, List.all_nil, List.all_cons, List.take_length, isi_Wp, tyOf, isTy, List.any_cons, List.any_nil, Bool.or_false, Bool.false_or, Bool.or_true, Bool.true_or, String.reduceEq, String.reduceBEq, beq_self_eq_true, zfd_ins, getF, insM_ins, me_ok, Int.reduceLT, Int.reduceLE, Int.reduceEq, Int.reduceNeg, Int.reduceAdd, Int.reduceSub, Int.reduceMul, gt_iff_lt, ge_iff_le, and_true, true_and, and_self, and_false, false_and, implies_true, true_implies, Prod.mk.injEq, ne_eq, bne, evI]
    · have fx := f2 x hx
      simp -dsimp only [ev.eq_1, ev.eq_2, ev.eq_3, ev.eq_4, ev.eq_5, ev.eq_6, ev.eq_7, ev.eq_8, ev.eq_9, ev.eq_10, ev.eq_11, ev.eq_12, ev.eq_13, ev.eq_14, ev.eq_15, ev.eq_16, ev.eq_19, ev.eq_20, ev.eq_21, ev.eq_22, ev.eq_23, ev.eq_24, ev.eq_25, ev.eq_26, ev.eq_28, ev.eq_29, ev.eq_30, ev.eq_31, ev.eq_32, evs.eq_1, evs.eq_2, evo.eq_1, evo.eq_2, evc.eq_1, evc.eq_2, rbind_ok, ↓Wp_ok, ↓Wp_bind, Wp_no, Wp_exn, calm_Wp, ↓Wp_ifno, ↓Wp_ite, Br_true, Br_false, Br_not, ofO_Wp, An_true, w_add, w_sub, w_mul, w_mod, w_fdiv, w_pow, w_strs, w_tups, w_lsts, c_lt, c_le, c_gt, c_ge, c_eqi, c_nei, c_eqs, c_nes, c_eqb, c_neb, c_isn, c_notn, nq_non, nq_int, nq_bl, nq_str, nq_lst, nq_tup, nq_ins, t_non, t_bl, t_int, t_lst, t_tup, ix_tup, ix_lst, ix_scr, atI_0, ↓Cn_nx, ↓Cn_bk, ↓Cn_ct, ↓Cn_rt, ↓w_nil, ↓w_cons, w_asg, w_ex, w_ret, w_retN, w_ife, w_ix, Rt_f, Rt_fn, Rt_t, Tn_nx, Tn_ct, Tn_bk, Tn_rt, bindT.eq_1, bindT.eq_2, bindT.eq_3, bindTs.eq_1, bindTs.eq_2, sa0, sa1, sa2, sa11, sa21, sa22, ss0, ss1, ss11, st0, st1, st2, w_append, atI_9, atI_10, atI_11, atI_12, atI_13, cut_9, cut_4, cut_5, List.drop_succ_cons, List.drop_zero, pw4, lg2, zfzL_strs, refsL_strs, ix_str, zsm, seqv, asKt, la1, stn, w_asgF, Ac_ins, putFs_nil, putFs_cons, putG, Nat.reduceLT,  zbools_map, zints_map, zints_int, zstrs_map, all_id, any_id, zsl, cut_1, cut_2, cut_3, cut_t1, cut_t2, cut_t3, cut_from, cut_to, cut_map, atI_map, atI_1, atI_2, atI_3, atI_4, atI_5, atI_6, atI_7, atI_8, nc0, nc1, nc2, nc3, nc4, nc5, nc6, drop_map', take_map', atI_neg1, c_eql, c_nel, Br_F, isL_lst, isL_str, isS_str, ds0, ds1, ds2, ds11, ds21, ds22, di0, w_augU, Ai_int, w_fzv, Av_z, refsL_ints, Wp_none, w_put, Ap_lst, mayW_int, mayW_str, mayW_bl, mayW_self, w_fzc, zfzL_ints, wipeE, List.getElem?_cons_zero, List.getElem?_cons_succ, List.set_cons_zero, List.set_cons_succ, Option.map_some, Option.bind_some, Option.map_none, startE, List.map_cons, List.map_nil, List.length_cons, List.length_nil, List.nil_append, List.cons_append, List.append_nil, List.reduceReplicate, Nat.reduceAdd, Nat.reduceSub, dr_int, dr_bl, dr_non, dr_str, dr_lst, dr_tup, dr_dic, dr_ins, dr_scr, zbf, zbf1, zbf2, zlen, zabs, zint, zlst, asKf, mkLf, mkLt, Bool.not_true, Bool.not_false, Bool.not_not, Bool.and_true, Bool.true_and, Bool.and_false, Bool.false_and, decide_eq_true_eq, decide_eq_false_iff_not, decide_true, decide_false, Bool.not_eq_true', eq_self_iff_true, not_false_eq_true, not_true_eq_false, Bool.false_eq_true, reduceCtorEq, if_true, if_false, ite_true, ite_false, Z.refs, refsL, List.all_nil, List.all_cons, List.take_length, isi_Wp, tyOf, isTy, List.any_cons, List.any_nil, Bool.or_false, Bool.false_or, Bool.or_true, Bool.true_or, String.reduceEq, String.reduceBEq, beq_self_eq_true, zfd_ins, getF, insM_ins, me_ok, Int.reduceLT, Int.reduceLE, Int.reduceEq, Int.reduceNeg, Int.reduceAdd, Int.reduceSub, Int.reduceMul, gt_iff_lt, ge_iff_le, and_true, true_and, and_self, and_false, false_and, implies_true, true_implies, Prod.mk.injEq, ne_eq, bne, part_eq T.F (zs := [.int x.1, .int x.2]) (ks := []) fx.2.1 fx.2.2 fx.1 (by omega) rfl]
    rw [show (ws.map fun x => zfr (lowN x.1 x.2)) = (ws.map fun x => lowN x.1 x.2).map zfr by rw [List.map_map]; rfl]
    have sl : (ws.map fun x => lowN x.1 x.2).length = 12 := by rw [List.length_map, hw]
    have sf : ∀ y ∈ (ws.map fun x => lowN x.1 x.2), Fr y := fun y hy => by
      obtain ⟨x, hx, rfl⟩ := List.mem_map.mp hy
      exact fr_low (f2 x hx)
    have s0 : (ws.map fun x => lowN x.1 x.2)[0]? = some (lowN w0.1 w0.2) := by rw [List.getElem?_map, hw0]; rfl
    generalize (ws.map fun x => lowN x.1 x.2) = som at sl sf s0
    have dz := pd_frs (l := som)
    have sc : ∀ (st : Sto) (b : Nat), run tab gv N 8 "_law_same" [.cel s2.length, .lst (som.map zfr)] [] b (s2 ++ [.lst (som.map zfr)]) = .ok (.bl true) (s2 ++ [.lst (som.map zfr)]) := fun st b => same_cel T.same rfl (by simp) dz.1 (by omega)
    have wz : (ws.map zfr)[0]? = some (.tup [.int w0.1, .int w0.2]) := by rw [List.getElem?_map, hw0]; rfl
    have sz : (som.map zfr)[0]? = some (zfr (lowN w0.1 w0.2)) := by rw [List.getElem?_map, s0]; rfl
    simp -dsimp only [ev.eq_1, ev.eq_2, ev.eq_3, ev.eq_4, ev.eq_5, ev.eq_6, ev.eq_7, ev.eq_8, ev.eq_9, ev.eq_10, ev.eq_11, ev.eq_12, ev.eq_13, ev.eq_14, ev.eq_15, ev.eq_16, ev.eq_19, ev.eq_20, ev.eq_21, ev.eq_22, ev.eq_23, ev.eq_24, ev.eq_25, ev.eq_26, ev.eq_28, ev.eq_29, ev.eq_30, ev.eq_31, ev.eq_32, evs.eq_1, evs.eq_2, evo.eq_1, evo.eq_2, evc.eq_1, evc.eq_2, rbind_ok, ↓Wp_ok, ↓Wp_bind, Wp_no, Wp_exn, calm_Wp, ↓Wp_ifno, ↓Wp_ite, Br_true, Br_false, Br_not, ofO_Wp, An_true, w_add, w_sub, w_mul, w_mod, w_fdiv, w_pow, w_strs, w_tups, w_lsts, c_lt, c_le, c_gt, c_ge, c_eqi, c_nei, c_eqs, c_nes, c_eqb, c_neb, c_isn, c_notn, nq_non, nq_int, nq_bl, nq_str, nq_lst, nq_tup, nq_ins, t_non, t_bl, t_int, t_lst, t_tup, ix_tup, ix_lst, ix_scr, atI_0, ↓Cn_nx, ↓Cn_bk, ↓Cn_ct, ↓Cn_rt, ↓w_nil, ↓w_cons, w_asg, w_ex, w_ret, w_retN, w_ife, w_ix, Rt_f, Rt_fn, Rt_t, Tn_nx, Tn_ct, Tn_bk, Tn_rt, bindT.eq_1, bindT.eq_2, bindT.eq_3, bindTs.eq_1, bindTs.eq_2, sa0, sa1, sa2, sa11, sa21, sa22, ss0, ss1, ss11, st0, st1, st2, w_append, atI_9, atI_10, atI_11, atI_12, atI_13, cut_9, cut_4, cut_5, List.drop_succ_cons, List.drop_zero, pw4, lg2, zfzL_strs, refsL_strs, ix_str, zsm, seqv, asKt, la1, stn, w_asgF, Ac_ins, putFs_nil, putFs_cons, putG, Nat.reduceLT,  zbools_map, zints_map, zints_int, zstrs_map, all_id, any_id, zsl, cut_1, cut_2, cut_3, cut_t1, cut_t2, cut_t3, cut_from, cut_to, cut_map, atI_map, atI_1, atI_2, atI_3, atI_4, atI_5, atI_6, atI_7, atI_8, nc0, nc1, nc2, nc3, nc4, nc5, nc6, drop_map', take_map', atI_neg1, c_eql, c_nel, Br_F, isL_lst, isL_str, isS_str, ds0, ds1, ds2, ds11, ds21, ds22, di0, w_augU, Ai_int, w_fzv, Av_z, refsL_ints, Wp_none, w_put, Ap_lst, mayW_int, mayW_str, mayW_bl, mayW_self, w_fzc, zfzL_ints, wipeE, List.getElem?_cons_zero, List.getElem?_cons_succ, List.set_cons_zero, List.set_cons_succ, Option.map_some, Option.bind_some, Option.map_none, startE, List.map_cons, List.map_nil, List.length_cons, List.length_nil, List.nil_append, List.cons_append, List.append_nil, List.reduceReplicate, Nat.reduceAdd, Nat.reduceSub, dr_int, dr_bl, dr_non, dr_str, dr_lst, dr_tup, dr_dic, dr_ins, dr_scr, zbf, zbf1, zbf2, zlen, zabs, zint, zlst, asKf, mkLf, mkLt, Bool.not_true, Bool.not_false, Bool.not_not, Bool.and_true, Bool.true_and, Bool.and_false, Bool.false_and, decide_eq_true_eq, decide_eq_false_iff_not, decide_true, decide_false, Bool.not_eq_true', eq_self_iff_true, not_false_eq_true, not_true_eq_false, Bool.false_eq_true, reduceCtorEq, if_true, if_false, ite_true, ite_false, Z.refs, refsL, List.all_nil, List.all_cons, List.take_length, isi_Wp, tyOf, isTy, List.any_cons, List.any_nil, Bool.or_false, Bool.false_or, Bool.or_true, Bool.true_or, String.reduceEq, String.reduceBEq, beq_self_eq_true, zfd_ins, getF, insM_ins, me_ok, Int.reduceLT, Int.reduceLE, Int.reduceEq, Int.reduceNeg, Int.reduceAdd, Int.reduceSub, Int.reduceMul, gt_iff_lt, ge_iff_le, and_true, true_and, and_self, and_false, false_and, implies_true, true_implies, Prod.mk.injEq, ne_eq, bne, sc s2, wz, sz, hw0, s0]
    have smz : ∀ {z : Z} (b : Nat) (st : Sto), z.pd = true → z.dep < 8 → run tab gv N 8 "_law_same" [z, z] [] b st = .ok (.bl true) st := fun b st hz hd => same_K T.same rfl hz hd
    have sm0 : ∀ (b : Nat) (st : Sto), run tab gv N 8 "_law_same" [zfr (lowN w0.1 w0.2), zfr (lowN w0.1 w0.2)] [] b st = .ok (.bl true) st := fun b st => smz b st pd_zfr.1 (by rw [pd_zfr.2]; omega)
    simp -dsimp only [ev.eq_1, ev.eq_2, ev.eq_3, ev.eq_4, ev.eq_5, ev.eq_6, ev.eq_7, ev.eq_8, ev.eq_9, ev.eq_10, ev.eq_11, ev.eq_12, ev.eq_13, ev.eq_14, ev.eq_15, ev.eq_16, ev.eq_19, ev.eq_20, ev.eq_21, ev.eq_22, ev.eq_23, ev.eq_24, ev.eq_25, ev.eq_26, ev.eq_28, ev.eq_29, ev.eq_30, ev.eq_31, ev.eq_32, evs.eq_1, evs.eq_2, evo.eq_1, evo.eq_2, evc.eq_1, evc.eq_2, rbind_ok, ↓Wp_ok, ↓Wp_bind, Wp_no, Wp_exn, calm_Wp, ↓Wp_ifno, ↓Wp_ite, Br_true, Br_false, Br_not, ofO_Wp, An_true, w_add, w_sub, w_mul, w_mod, w_fdiv, w_pow, w_strs, w_tups, w_lsts, c_lt, c_le, c_gt, c_ge, c_eqi, c_nei, c_eqs, c_nes, c_eqb, c_neb, c_isn, c_notn, nq_non, nq_int, nq_bl, nq_str, nq_lst, nq_tup, nq_ins, t_non, t_bl, t_int, t_lst, t_tup, ix_tup, ix_lst, ix_scr, atI_0, ↓Cn_nx, ↓Cn_bk, ↓Cn_ct, ↓Cn_rt, ↓w_nil, ↓w_cons, w_asg, w_ex, w_ret, w_retN, w_ife, w_ix, Rt_f, Rt_fn, Rt_t, Tn_nx, Tn_ct, Tn_bk, Tn_rt, bindT.eq_1, bindT.eq_2, bindT.eq_3, bindTs.eq_1, bindTs.eq_2, sa0, sa1, sa2, sa11, sa21, sa22, ss0, ss1, ss11, st0, st1, st2, w_append, atI_9, atI_10, atI_11, atI_12, atI_13, cut_9, cut_4, cut_5, List.drop_succ_cons, List.drop_zero, pw4, lg2, zfzL_strs, refsL_strs, ix_str, zsm, seqv, asKt, la1, stn, w_asgF, Ac_ins, putFs_nil, putFs_cons, putG, Nat.reduceLT,  zbools_map, zints_map, zints_int, zstrs_map, all_id, any_id, zsl, cut_1, cut_2, cut_3, cut_t1, cut_t2, cut_t3, cut_from, cut_to, cut_map, atI_map, atI_1, atI_2, atI_3, atI_4, atI_5, atI_6, atI_7, atI_8, nc0, nc1, nc2, nc3, nc4, nc5, nc6, drop_map', take_map', atI_neg1, c_eql, c_nel, Br_F, isL_lst, isL_str, isS_str, ds0, ds1, ds2, ds11, ds21, ds22, di0, w_augU, Ai_int, w_fzv, Av_z, refsL_ints, Wp_none, w_put, Ap_lst, mayW_int, mayW_str, mayW_bl, mayW_self, w_fzc, zfzL_ints, wipeE, List.getElem?_cons_zero, List.getElem?_cons_succ, List.set_cons_zero, List.set_cons_succ, Option.map_some, Option.bind_some, Option.map_none, startE, List.map_cons, List.map_nil, List.length_cons, List.length_nil, List.nil_append, List.cons_append, List.append_nil, List.reduceReplicate, Nat.reduceAdd, Nat.reduceSub, dr_int, dr_bl, dr_non, dr_str, dr_lst, dr_tup, dr_dic, dr_ins, dr_scr, zbf, zbf1, zbf2, zlen, zabs, zint, zlst, asKf, mkLf, mkLt, Bool.not_true, Bool.not_false, Bool.not_not, Bool.and_true, Bool.true_and, Bool.and_false, Bool.false_and, decide_eq_true_eq, decide_eq_false_iff_not, decide_true, decide_false, Bool.not_eq_true', eq_self_iff_true, not_false_eq_true, not_true_eq_false, Bool.false_eq_true, reduceCtorEq, if_true, if_false, ite_true, ite_false, Z.refs, refsL, List.all_nil, List.all_cons, List.take_length, isi_Wp, tyOf, isTy, List.any_cons, List.any_nil, Bool.or_false, Bool.false_or, Bool.or_true, Bool.true_or, String.reduceEq, String.reduceBEq, beq_self_eq_true, zfd_ins, getF, insM_ins, me_ok, Int.reduceLT, Int.reduceLE, Int.reduceEq, Int.reduceNeg, Int.reduceAdd, Int.reduceSub, Int.reduceMul, gt_iff_lt, ge_iff_le, and_true, true_and, and_self, and_false, false_and, implies_true, true_implies, Prod.mk.injEq, ne_eq, bne, part_eq T.F (zs := [.int w0.2, .int w0.1]) (ks := ["parts", "number"]) fw0.2.1 fw0.2.2 fw0.1 (by omega) rfl, sm0]
    have sm2 : ∀ (b : Nat) (st : Sto) (x : Int × Int), run tab gv N 8 "_law_same" [.lst [zfr x, zfr x], .lst [zfr x, zfr x]] [] b st = .ok (.bl true) st := fun b st x => smz b st rfl (show (Z.lst [zfr x, zfr x]).dep < 8 by simp [Z.dep, depL, zfr])
    have t4 : Tape (s2 ++ [.lst (som.map zfr)]) n 132 := (t2.mono (by rw [hw]; omega)).app
    generalize s2 ++ [Cl.lst (som.map zfr)] = s4 at *
    refine wp_fo (zs := (List.range 4).map fun (k : Nat) => Z.int k) (hs := []) (st1 := s4) (fun i e s' => Tape s' n (132 + 11 * i) ∧ ∃ e5 e6 e7 e8 e9 e10 e11 e12 e13 e14, e = [some (.scr ns), some (.int j), some (.cel n), some (.lst (ws.map zfr)), some (.lst (som.map zfr)), e5, e6, e7, e8, e9, e10, e11, e12, e13, e14]) ?_ ⟨t4.mono (by omega), _, _, _, _, _, _, _, _, _, _, rfl⟩ ?_ ?_
    · simp -dsimp only [ev.eq_1, ev.eq_2, ev.eq_3, ev.eq_4, ev.eq_5, ev.eq_6, ev.eq_7, ev.eq_8, ev.eq_9, ev.eq_10, ev.eq_11, ev.eq_12, ev.eq_13, ev.eq_14, ev.eq_15, ev.eq_16, ev.eq_19, ev.eq_20, ev.eq_21, ev.eq_22, ev.eq_23, ev.eq_24, ev.eq_25, ev.eq_26, ev.eq_28, ev.eq_29, ev.eq_30, ev.eq_31, ev.eq_32, evs.eq_1, evs.eq_2, evo.eq_1, evo.eq_2, evc.eq_1, evc.eq_2, rbind_ok, ↓Wp_ok, ↓Wp_bind, Wp_no, Wp_exn, calm_Wp, ↓Wp_ifno, ↓Wp_ite, Br_true, Br_false, Br_not, ofO_Wp, An_true, w_add, w_sub, w_mul, w_mod, w_fdiv, w_pow, w_strs, w_tups, w_lsts, c_lt, c_le, c_gt, c_ge, c_eqi, c_nei, c_eqs, c_nes, c_eqb, c_neb, c_isn, c_notn, nq_non, nq_int, nq_bl, nq_str, nq_lst, nq_tup, nq_ins, t_non, t_bl, t_int, t_lst, t_tup, ix_tup, ix_lst, ix_scr, atI_0, ↓Cn_nx, ↓Cn_bk, ↓Cn_ct, ↓Cn_rt, ↓w_nil, ↓w_cons, w_asg, w_ex, w_ret, w_retN, w_ife, w_ix, Rt_f, Rt_fn, Rt_t, Tn_nx, Tn_ct, Tn_bk, Tn_rt, bindT.eq_1, bindT.eq_2, bindT.eq_3, bindTs.eq_1, bindTs.eq_2, sa0, sa1, sa2, sa11, sa21, sa22, ss0, ss1, ss11, st0, st1, st2, w_append, atI_9, atI_10, atI_11, atI_12, atI_13, cut_9, cut_4, cut_5, List.drop_succ_cons, List.drop_zero, pw4, lg2, zfzL_strs, refsL_strs, ix_str, zsm, seqv, asKt, la1, stn, w_asgF, Ac_ins, putFs_nil, putFs_cons, putG, Nat.reduceLT,  zbools_map, zints_map, zints_int, zstrs_map, all_id, any_id, zsl, cut_1, cut_2, cut_3, cut_t1, cut_t2, cut_t3, cut_from, cut_to, cut_map, atI_map, atI_1, atI_2, atI_3, atI_4, atI_5, atI_6, atI_7, atI_8, nc0, nc1, nc2, nc3, nc4, nc5, nc6, drop_map', take_map', atI_neg1, c_eql, c_nel, Br_F, isL_lst, isL_str, isS_str, ds0, ds1, ds2, ds11, ds21, ds22, di0, w_augU, Ai_int, w_fzv, Av_z, refsL_ints, Wp_none, w_put, Ap_lst, mayW_int, mayW_str, mayW_bl, mayW_self, w_fzc, zfzL_ints, wipeE, List.getElem?_cons_zero, List.getElem?_cons_succ, List.set_cons_zero, List.set_cons_succ, Option.map_some, Option.bind_some, Option.map_none, startE, List.map_cons, List.map_nil, List.length_cons, List.length_nil, List.nil_append, List.cons_append, List.append_nil, List.reduceReplicate, Nat.reduceAdd, Nat.reduceSub, dr_int, dr_bl, dr_non, dr_str, dr_lst, dr_tup, dr_dic, dr_ins, dr_scr, zbf, zbf1, zbf2, zlen, zabs, zint, zlst, asKf, mkLf, mkLt, Bool.not_true, Bool.not_false, Bool.not_not, Bool.and_true, Bool.true_and, Bool.and_false, Bool.false_and, decide_eq_true_eq, decide_eq_false_iff_not, decide_true, decide_false, Bool.not_eq_true', eq_self_iff_true, not_false_eq_true, not_true_eq_false, Bool.false_eq_true, reduceCtorEq, if_true, if_false, ite_true, ite_false, Z.refs, refsL, List.all_nil, List.all_cons, List.take_length, isi_Wp, tyOf, isTy, List.any_cons, List.any_nil, Bool.or_false, Bool.false_or, Bool.or_true, Bool.true_or, String.reduceEq, String.reduceBEq, beq_self_eq_true, zfd_ins, getF, insM_ins, me_ok, Int.reduceLT, Int.reduceLE, Int.reduceEq, Int.reduceNeg, Int.reduceAdd, Int.reduceSub, Int.reduceMul, gt_iff_lt, ge_iff_le, and_true, true_and, and_self, and_false, false_and, implies_true, true_implies, Prod.mk.injEq, ne_eq, bne, evI, rng1 (show (4 : Int) ≤ 1000000 ∧ -(10 ^ 9) ≤ (4 : Int) by omega)]
      rfl
    · rintro i hi e s5 ⟨t5, e5, e6, e7, e8, e9, e10, e11, e12, e13, e14, rfl⟩
      have hi' : i < 4 := by simpa using hi
      rw [List.getElem_map, List.getElem_range]
      refine ⟨stays_nil, _, rfl, ?_⟩
      simp -dsimp only [ev.eq_1, ev.eq_2, ev.eq_3, ev.eq_4, ev.eq_5, ev.eq_6, ev.eq_7, ev.eq_8, ev.eq_9, ev.eq_10, ev.eq_11, ev.eq_12, ev.eq_13, ev.eq_14, ev.eq_15, ev.eq_16, ev.eq_19, ev.eq_20, ev.eq_21, ev.eq_22, ev.eq_23, ev.eq_24, ev.eq_25, ev.eq_26, ev.eq_28, ev.eq_29, ev.eq_30, ev.eq_31, ev.eq_32, evs.eq_1, evs.eq_2, evo.eq_1, evo.eq_2, evc.eq_1, evc.eq_2, rbind_ok, ↓Wp_ok, ↓Wp_bind, Wp_no, Wp_exn, calm_Wp, ↓Wp_ifno, ↓Wp_ite, Br_true, Br_false, Br_not, ofO_Wp, An_true, w_add, w_sub, w_mul, w_mod, w_fdiv, w_pow, w_strs, w_tups, w_lsts, c_lt, c_le, c_gt, c_ge, c_eqi, c_nei, c_eqs, c_nes, c_eqb, c_neb, c_isn, c_notn, nq_non, nq_int, nq_bl, nq_str, nq_lst, nq_tup, nq_ins, t_non, t_bl, t_int, t_lst, t_tup, ix_tup, ix_lst, ix_scr, atI_0, ↓Cn_nx, ↓Cn_bk, ↓Cn_ct, ↓Cn_rt, ↓w_nil, ↓w_cons, w_asg, w_ex, w_ret, w_retN, w_ife, w_ix, Rt_f, Rt_fn, Rt_t, Tn_nx, Tn_ct, Tn_bk, Tn_rt, bindT.eq_1, bindT.eq_2, bindT.eq_3, bindTs.eq_1, bindTs.eq_2, sa0, sa1, sa2, sa11, sa21, sa22, ss0, ss1, ss11, st0, st1, st2, w_append, atI_9, atI_10, atI_11, atI_12, atI_13, cut_9, cut_4, cut_5, List.drop_succ_cons, List.drop_zero, pw4, lg2, zfzL_strs, refsL_strs, ix_str, zsm, seqv, asKt, la1, stn, w_asgF, Ac_ins, putFs_nil, putFs_cons, putG, Nat.reduceLT,  zbools_map, zints_map, zints_int, zstrs_map, all_id, any_id, zsl, cut_1, cut_2, cut_3, cut_t1, cut_t2, cut_t3, cut_from, cut_to, cut_map, atI_map, atI_1, atI_2, atI_3, atI_4, atI_5, atI_6, atI_7, atI_8, nc0, nc1, nc2, nc3, nc4, nc5, nc6, drop_map', take_map', atI_neg1, c_eql, c_nel, Br_F, isL_lst, isL_str, isS_str, ds0, ds1, ds2, ds11, ds21, ds22, di0, w_augU, Ai_int, w_fzv, Av_z, refsL_ints, Wp_none, w_put, Ap_lst, mayW_int, mayW_str, mayW_bl, mayW_self, w_fzc, zfzL_ints, wipeE, List.getElem?_cons_zero, List.getElem?_cons_succ, List.set_cons_zero, List.set_cons_succ, Option.map_some, Option.bind_some, Option.map_none, startE, List.map_cons, List.map_nil, List.length_cons, List.length_nil, List.nil_append, List.cons_append, List.append_nil, List.reduceReplicate, Nat.reduceAdd, Nat.reduceSub, dr_int, dr_bl, dr_non, dr_str, dr_lst, dr_tup, dr_dic, dr_ins, dr_scr, zbf, zbf1, zbf2, zlen, zabs, zint, zlst, asKf, mkLf, mkLt, Bool.not_true, Bool.not_false, Bool.not_not, Bool.and_true, Bool.true_and, Bool.and_false, Bool.false_and, decide_eq_true_eq, decide_eq_false_iff_not, decide_true, decide_false, Bool.not_eq_true', eq_self_iff_true, not_false_eq_true, not_true_eq_false, Bool.false_eq_true, reduceCtorEq, if_true, if_false, ite_true, ite_false, Z.refs, refsL, List.all_nil, List.all_cons, List.take_length, isi_Wp, tyOf, isTy, List.any_cons, List.any_nil, Bool.or_false, Bool.false_or, Bool.or_true, Bool.true_or, String.reduceEq, String.reduceBEq, beq_self_eq_true, zfd_ins, getF, insM_ins, me_ok, Int.reduceLT, Int.reduceLE, Int.reduceEq, Int.reduceNeg, Int.reduceAdd, Int.reduceSub, Int.reduceMul, gt_iff_lt, ge_iff_le, and_true, true_and, and_self, and_false, false_and, implies_true, true_implies, Prod.mk.injEq, ne_eq, bne]
      refine wp_lcI ?_
      simp -dsimp only [ev.eq_1, ev.eq_2, ev.eq_3, ev.eq_4, ev.eq_5, ev.eq_6, ev.eq_7, ev.eq_8, ev.eq_9, ev.eq_10, ev.eq_11, ev.eq_12, ev.eq_13, ev.eq_14, ev.eq_15, ev.eq_16, ev.eq_19, ev.eq_20, ev.eq_21, ev.eq_22, ev.eq_23, ev.eq_24, ev.eq_25, ev.eq_26, ev.eq_28, ev.eq_29, ev.eq_30, ev.eq_31, ev.eq_32, evs.eq_1, evs.eq_2, evo.eq_1, evo.eq_2, evc.eq_1, evc.eq_2, rbind_ok, ↓Wp_ok, ↓Wp_bind, Wp_no, Wp_exn, calm_Wp, ↓Wp_ifno, ↓Wp_ite, Br_true, Br_false, Br_not, ofO_Wp, An_true, w_add, w_sub, w_mul, w_mod, w_fdiv, w_pow, w_strs, w_tups, w_lsts, c_lt, c_le, c_gt, c_ge, c_eqi, c_nei, c_eqs, c_nes, c_eqb, c_neb, c_isn, c_notn, nq_non, nq_int, nq_bl, nq_str, nq_lst, nq_tup, nq_ins, t_non, t_bl, t_int, t_lst, t_tup, ix_tup, ix_lst, ix_scr, atI_0, ↓Cn_nx, ↓Cn_bk, ↓Cn_ct, ↓Cn_rt, ↓w_nil, ↓w_cons, w_asg, w_ex, w_ret, w_retN, w_ife, w_ix, Rt_f, Rt_fn, Rt_t, Tn_nx, Tn_ct, Tn_bk, Tn_rt, bindT.eq_1, bindT.eq_2, bindT.eq_3, bindTs.eq_1, bindTs.eq_2, sa0, sa1, sa2, sa11, sa21, sa22, ss0, ss1, ss11, st0, st1, st2, w_append, atI_9, atI_10, atI_11, atI_12, atI_13, cut_9, cut_4, cut_5, List.drop_succ_cons, List.drop_zero, pw4, lg2, zfzL_strs, refsL_strs, ix_str, zsm, seqv, asKt, la1, stn, w_asgF, Ac_ins, putFs_nil, putFs_cons, putG, Nat.reduceLT,  zbools_map, zints_map, zints_int, zstrs_map, all_id, any_id, zsl, cut_1, cut_2, cut_3, cut_t1, cut_t2, cut_t3, cut_from, cut_to, cut_map, atI_map, atI_1, atI_2, atI_3, atI_4, atI_5, atI_6, atI_7, atI_8, nc0, nc1, nc2, nc3, nc4, nc5, nc6, drop_map', take_map', atI_neg1, c_eql, c_nel, Br_F, isL_lst, isL_str, isS_str, ds0, ds1, ds2, ds11, ds21, ds22, di0, w_augU, Ai_int, w_fzv, Av_z, refsL_ints, Wp_none, w_put, Ap_lst, mayW_int, mayW_str, mayW_bl, mayW_self, w_fzc, zfzL_ints, wipeE, List.getElem?_cons_zero, List.getElem?_cons_succ, List.set_cons_zero, List.set_cons_succ, Option.map_some, Option.bind_some, Option.map_none, startE, List.map_cons, List.map_nil, List.length_cons, List.length_nil, List.nil_append, List.cons_append, List.append_nil, List.reduceReplicate, Nat.reduceAdd, Nat.reduceSub, dr_int, dr_bl, dr_non, dr_str, dr_lst, dr_tup, dr_dic, dr_ins, dr_scr, zbf, zbf1, zbf2, zlen, zabs, zint, zlst, asKf, mkLf, mkLt, Bool.not_true, Bool.not_false, Bool.not_not, Bool.and_true, Bool.true_and, Bool.and_false, Bool.false_and, decide_eq_true_eq, decide_eq_false_iff_not, decide_true, decide_false, Bool.not_eq_true', eq_self_iff_true, not_false_eq_true, not_true_eq_false, Bool.false_eq_true, reduceCtorEq, if_true, if_false, ite_true, ite_false, Z.refs, refsL, List.all_nil, List.all_cons, List.take_length, isi_Wp, tyOf, isTy, List.any_cons, List.any_nil, Bool.or_false, Bool.false_or, Bool.or_true, Bool.true_or, String.reduceEq, String.reduceBEq, beq_self_eq_true, zfd_ins, getF, insM_ins, me_ok, Int.reduceLT, Int.reduceLE, Int.reduceEq, Int.reduceNeg, Int.reduceAdd, Int.reduceSub, Int.reduceMul, gt_iff_lt, ge_iff_le, and_true, true_and, and_self, and_false, false_and, implies_true, true_implies, Prod.mk.injEq, ne_eq, bne, evI]
      refine draw_w T.draw t5 (by omega) (by omega) (by omega) fun len s6 a6 b6 l6 t6 o6 => ?_
      simp -dsimp only [ev.eq_1, ev.eq_2, ev.eq_3, ev.eq_4, ev.eq_5, ev.eq_6, ev.eq_7, ev.eq_8, ev.eq_9, ev.eq_10, ev.eq_11, ev.eq_12, ev.eq_13, ev.eq_14, ev.eq_15, ev.eq_16, ev.eq_19, ev.eq_20, ev.eq_21, ev.eq_22, ev.eq_23, ev.eq_24, ev.eq_25, ev.eq_26, ev.eq_28, ev.eq_29, ev.eq_30, ev.eq_31, ev.eq_32, evs.eq_1, evs.eq_2, evo.eq_1, evo.eq_2, evc.eq_1, evc.eq_2, rbind_ok, ↓Wp_ok, ↓Wp_bind, Wp_no, Wp_exn, calm_Wp, ↓Wp_ifno, ↓Wp_ite, Br_true, Br_false, Br_not, ofO_Wp, An_true, w_add, w_sub, w_mul, w_mod, w_fdiv, w_pow, w_strs, w_tups, w_lsts, c_lt, c_le, c_gt, c_ge, c_eqi, c_nei, c_eqs, c_nes, c_eqb, c_neb, c_isn, c_notn, nq_non, nq_int, nq_bl, nq_str, nq_lst, nq_tup, nq_ins, t_non, t_bl, t_int, t_lst, t_tup, ix_tup, ix_lst, ix_scr, atI_0, ↓Cn_nx, ↓Cn_bk, ↓Cn_ct, ↓Cn_rt, ↓w_nil, ↓w_cons, w_asg, w_ex, w_ret, w_retN, w_ife, w_ix, Rt_f, Rt_fn, Rt_t, Tn_nx, Tn_ct, Tn_bk, Tn_rt, bindT.eq_1, bindT.eq_2, bindT.eq_3, bindTs.eq_1, bindTs.eq_2, sa0, sa1, sa2, sa11, sa21, sa22, ss0, ss1, ss11, st0, st1, st2, w_append, atI_9, atI_10, atI_11, atI_12, atI_13, cut_9, cut_4, cut_5, List.drop_succ_cons, List.drop_zero, pw4, lg2, zfzL_strs, refsL_strs, ix_str, zsm, seqv, asKt, la1, stn, w_asgF, Ac_ins, putFs_nil, putFs_cons, putG, Nat.reduceLT,  zbools_map, zints_map, zints_int, zstrs_map, all_id, any_id, zsl, cut_1, cut_2, cut_3, cut_t1, cut_t2, cut_t3, cut_from, cut_to, cut_map, atI_map, atI_1, atI_2, atI_3, atI_4, atI_5, atI_6, atI_7, atI_8, nc0, nc1, nc2, nc3, nc4, nc5, nc6, drop_map', take_map', atI_neg1, c_eql, c_nel, Br_F, isL_lst, isL_str, isS_str, ds0, ds1, ds2, ds11, ds21, ds22, di0, w_augU, Ai_int, w_fzv, Av_z, refsL_ints, Wp_none, w_put, Ap_lst, mayW_int, mayW_str, mayW_bl, mayW_self, w_fzc, zfzL_ints, wipeE, List.getElem?_cons_zero, List.getElem?_cons_succ, List.set_cons_zero, List.set_cons_succ, Option.map_some, Option.bind_some, Option.map_none, startE, List.map_cons, List.map_nil, List.length_cons, List.length_nil, List.nil_append, List.cons_append, List.append_nil, List.reduceReplicate, Nat.reduceAdd, Nat.reduceSub, dr_int, dr_bl, dr_non, dr_str, dr_lst, dr_tup, dr_dic, dr_ins, dr_scr, zbf, zbf1, zbf2, zlen, zabs, zint, zlst, asKf, mkLf, mkLt, Bool.not_true, Bool.not_false, Bool.not_not, Bool.and_true, Bool.true_and, Bool.and_false, Bool.false_and, decide_eq_true_eq, decide_eq_false_iff_not, decide_true, decide_false, Bool.not_eq_true', eq_self_iff_true, not_false_eq_true, not_true_eq_false, Bool.false_eq_true, reduceCtorEq, if_true, if_false, ite_true, ite_false, Z.refs, refsL, List.all_nil, List.all_cons, List.take_length, isi_Wp, tyOf, isTy, List.any_cons, List.any_nil, Bool.or_false, Bool.false_or, Bool.or_true, Bool.true_or, String.reduceEq, String.reduceBEq, beq_self_eq_true, zfd_ins, getF, insM_ins, me_ok, Int.reduceLT, Int.reduceLE, Int.reduceEq, Int.reduceNeg, Int.reduceAdd, Int.reduceSub, Int.reduceMul, gt_iff_lt, ge_iff_le, and_true, true_and, and_self, and_false, false_and, implies_true, true_implies, Prod.mk.injEq, ne_eq, bne, rng1 (show len ≤ 1000000 ∧ -(10 ^ 9) ≤ len by omega)]
      refine wp_lcg zfr (fun ys s => Tape s n (132 + 11 * i + 1 + ys.length) ∧ ∀ y ∈ ys, Fr y) ⟨t6.mono (by simp), fun y hy => by cases hy⟩ ?_ (fun _ _ _ _ => stays_nil) ?_
      · rintro ys s hj ⟨t7, f7⟩
        have hj' : ys.length < len.toNat := by simpa using hj
        refine ⟨stays_nil, _, rfl, ?_⟩
        simp -dsimp only [ev.eq_1, ev.eq_2, ev.eq_3, ev.eq_4, ev.eq_5, ev.eq_6, ev.eq_7, ev.eq_8, ev.eq_9, ev.eq_10, ev.eq_11, ev.eq_12, ev.eq_13, ev.eq_14, ev.eq_15, ev.eq_16, ev.eq_19, ev.eq_20, ev.eq_21, ev.eq_22, ev.eq_23, ev.eq_24, ev.eq_25, ev.eq_26, ev.eq_28, ev.eq_29, ev.eq_30, ev.eq_31, ev.eq_32, evs.eq_1, evs.eq_2, evo.eq_1, evo.eq_2, evc.eq_1, evc.eq_2, rbind_ok, ↓Wp_ok, ↓Wp_bind, Wp_no, Wp_exn, calm_Wp, ↓Wp_ifno, ↓Wp_ite, Br_true, Br_false, Br_not, ofO_Wp, An_true, w_add, w_sub, w_mul, w_mod, w_fdiv, w_pow, w_strs, w_tups, w_lsts, c_lt, c_le, c_gt, c_ge, c_eqi, c_nei, c_eqs, c_nes, c_eqb, c_neb, c_isn, c_notn, nq_non, nq_int, nq_bl, nq_str, nq_lst, nq_tup, nq_ins, t_non, t_bl, t_int, t_lst, t_tup, ix_tup, ix_lst, ix_scr, atI_0, ↓Cn_nx, ↓Cn_bk, ↓Cn_ct, ↓Cn_rt, ↓w_nil, ↓w_cons, w_asg, w_ex, w_ret, w_retN, w_ife, w_ix, Rt_f, Rt_fn, Rt_t, Tn_nx, Tn_ct, Tn_bk, Tn_rt, bindT.eq_1, bindT.eq_2, bindT.eq_3, bindTs.eq_1, bindTs.eq_2, sa0, sa1, sa2, sa11, sa21, sa22, ss0, ss1, ss11, st0, st1, st2, w_append, atI_9, atI_10, atI_11, atI_12, atI_13, cut_9, cut_4, cut_5, List.drop_succ_cons, List.drop_zero, pw4, lg2, zfzL_strs, refsL_strs, ix_str, zsm, seqv, asKt, la1, stn, w_asgF, Ac_ins, putFs_nil, putFs_cons, putG, Nat.reduceLT,  zbools_map, zints_map, zints_int, zstrs_map, all_id, any_id, zsl, cut_1, cut_2, cut_3, cut_t1, cut_t2, cut_t3, cut_from, cut_to, cut_map, atI_map, atI_1, atI_2, atI_3, atI_4, atI_5, atI_6, atI_7, atI_8, nc0, nc1, nc2, nc3, nc4, nc5, nc6, drop_map', take_map', atI_neg1, c_eql, c_nel, Br_F, isL_lst, isL_str, isS_str, ds0, ds1, ds2, ds11, ds21, ds22, di0, w_augU, Ai_int, w_fzv, Av_z, refsL_ints, Wp_none, w_put, Ap_lst, mayW_int, mayW_str, mayW_bl, mayW_self, w_fzc, zfzL_ints, wipeE, List.getElem?_cons_zero, List.getElem?_cons_succ, List.set_cons_zero, List.set_cons_succ, Option.map_some, Option.bind_some, Option.map_none, startE, List.map_cons, List.map_nil, List.length_cons, List.length_nil, List.nil_append, List.cons_append, List.append_nil, List.reduceReplicate, Nat.reduceAdd, Nat.reduceSub, dr_int, dr_bl, dr_non, dr_str, dr_lst, dr_tup, dr_dic, dr_ins, dr_scr, zbf, zbf1, zbf2, zlen, zabs, zint, zlst, asKf, mkLf, mkLt, Bool.not_true, Bool.not_false, Bool.not_not, Bool.and_true, Bool.true_and, Bool.and_false, Bool.false_and, decide_eq_true_eq, decide_eq_false_iff_not, decide_true, decide_false, Bool.not_eq_true', eq_self_iff_true, not_false_eq_true, not_true_eq_false, Bool.false_eq_true, reduceCtorEq, if_true, if_false, ite_true, ite_false, Z.refs, refsL, List.all_nil, List.all_cons, List.take_length, isi_Wp, tyOf, isTy, List.any_cons, List.any_nil, Bool.or_false, Bool.false_or, Bool.or_true, Bool.true_or, String.reduceEq, String.reduceBEq, beq_self_eq_true, zfd_ins, getF, insM_ins, me_ok, Int.reduceLT, Int.reduceLE, Int.reduceEq, Int.reduceNeg, Int.reduceAdd, Int.reduceSub, Int.reduceMul, gt_iff_lt, ge_iff_le, and_true, true_and, and_self, and_false, false_and, implies_true, true_implies, Prod.mk.injEq, ne_eq, bne]
        refine draw_w T.draw t7 (by omega) (by omega) (by omega) fun v s8 a8 b8 l8 t8 o8 => ?_
        obtain ⟨x, ex, hx⟩ := atI_in (xs := som) a8 (by omega)
        simp -dsimp only [ev.eq_1, ev.eq_2, ev.eq_3, ev.eq_4, ev.eq_5, ev.eq_6, ev.eq_7, ev.eq_8, ev.eq_9, ev.eq_10, ev.eq_11, ev.eq_12, ev.eq_13, ev.eq_14, ev.eq_15, ev.eq_16, ev.eq_19, ev.eq_20, ev.eq_21, ev.eq_22, ev.eq_23, ev.eq_24, ev.eq_25, ev.eq_26, ev.eq_28, ev.eq_29, ev.eq_30, ev.eq_31, ev.eq_32, evs.eq_1, evs.eq_2, evo.eq_1, evo.eq_2, evc.eq_1, evc.eq_2, rbind_ok, ↓Wp_ok, ↓Wp_bind, Wp_no, Wp_exn, calm_Wp, ↓Wp_ifno, ↓Wp_ite, Br_true, Br_false, Br_not, ofO_Wp, An_true, w_add, w_sub, w_mul, w_mod, w_fdiv, w_pow, w_strs, w_tups, w_lsts, c_lt, c_le, c_gt, c_ge, c_eqi, c_nei, c_eqs, c_nes, c_eqb, c_neb, c_isn, c_notn, nq_non, nq_int, nq_bl, nq_str, nq_lst, nq_tup, nq_ins, t_non, t_bl, t_int, t_lst, t_tup, ix_tup, ix_lst, ix_scr, atI_0, ↓Cn_nx, ↓Cn_bk, ↓Cn_ct, ↓Cn_rt, ↓w_nil, ↓w_cons, w_asg, w_ex, w_ret, w_retN, w_ife, w_ix, Rt_f, Rt_fn, Rt_t, Tn_nx, Tn_ct, Tn_bk, Tn_rt, bindT.eq_1, bindT.eq_2, bindT.eq_3, bindTs.eq_1, bindTs.eq_2, sa0, sa1, sa2, sa11, sa21, sa22, ss0, ss1, ss11, st0, st1, st2, w_append, atI_9, atI_10, atI_11, atI_12, atI_13, cut_9, cut_4, cut_5, List.drop_succ_cons, List.drop_zero, pw4, lg2, zfzL_strs, refsL_strs, ix_str, zsm, seqv, asKt, la1, stn, w_asgF, Ac_ins, putFs_nil, putFs_cons, putG, Nat.reduceLT,  zbools_map, zints_map, zints_int, zstrs_map, all_id, any_id, zsl, cut_1, cut_2, cut_3, cut_t1, cut_t2, cut_t3, cut_from, cut_to, cut_map, atI_map, atI_1, atI_2, atI_3, atI_4, atI_5, atI_6, atI_7, atI_8, nc0, nc1, nc2, nc3, nc4, nc5, nc6, drop_map', take_map', atI_neg1, c_eql, c_nel, Br_F, isL_lst, isL_str, isS_str, ds0, ds1, ds2, ds11, ds21, ds22, di0, w_augU, Ai_int, w_fzv, Av_z, refsL_ints, Wp_none, w_put, Ap_lst, mayW_int, mayW_str, mayW_bl, mayW_self, w_fzc, zfzL_ints, wipeE, List.getElem?_cons_zero, List.getElem?_cons_succ, List.set_cons_zero, List.set_cons_succ, Option.map_some, Option.bind_some, Option.map_none, startE, List.map_cons, List.map_nil, List.length_cons, List.length_nil, List.nil_append, List.cons_append, List.append_nil, List.reduceReplicate, Nat.reduceAdd, Nat.reduceSub, dr_int, dr_bl, dr_non, dr_str, dr_lst, dr_tup, dr_dic, dr_ins, dr_scr, zbf, zbf1, zbf2, zlen, zabs, zint, zlst, asKf, mkLf, mkLt, Bool.not_true, Bool.not_false, Bool.not_not, Bool.and_true, Bool.true_and, Bool.and_false, Bool.false_and, decide_eq_true_eq, decide_eq_false_iff_not, decide_true, decide_false, Bool.not_eq_true', eq_self_iff_true, not_false_eq_true, not_true_eq_false, Bool.false_eq_true, reduceCtorEq, if_true, if_false, ite_true, ite_false, Z.refs, refsL, List.all_nil, List.all_cons, List.take_length, isi_Wp, tyOf, isTy, List.any_cons, List.any_nil, Bool.or_false, Bool.false_or, Bool.or_true, Bool.true_or, String.reduceEq, String.reduceBEq, beq_self_eq_true, zfd_ins, getF, insM_ins, me_ok, Int.reduceLT, Int.reduceLE, Int.reduceEq, Int.reduceNeg, Int.reduceAdd, Int.reduceSub, Int.reduceMul, gt_iff_lt, ge_iff_le, and_true, true_and, and_self, and_false, false_and, implies_true, true_implies, Prod.mk.injEq, ne_eq, bne, ex]
        refine ⟨x, rfl, t8.mono (by simp; omega), fun y hy => ?_⟩
        rcases List.mem_append.mp hy with hy | hy
        · exact f7 y hy
        · cases List.mem_singleton.mp hy; exact sf x hx
      rintro row s9 ⟨t9, f9⟩ hrow
      have hrow : row.length = len.toNat := by simpa using hrow
      have hr8 : row.length ≤ 8 := by omega
      simp -dsimp only [ev.eq_1, ev.eq_2, ev.eq_3, ev.eq_4, ev.eq_5, ev.eq_6, ev.eq_7, ev.eq_8, ev.eq_9, ev.eq_10, ev.eq_11, ev.eq_12, ev.eq_13, ev.eq_14, ev.eq_15, ev.eq_16, ev.eq_19, ev.eq_20, ev.eq_21, ev.eq_22, ev.eq_23, ev.eq_24, ev.eq_25, ev.eq_26, ev.eq_28, ev.eq_29, ev.eq_30, ev.eq_31, ev.eq_32, evs.eq_1, evs.eq_2, evo.eq_1, evo.eq_2, evc.eq_1, evc.eq_2, rbind_ok, ↓Wp_ok, ↓Wp_bind, Wp_no, Wp_exn, calm_Wp, ↓Wp_ifno, ↓Wp_ite, Br_true, Br_false, Br_not, ofO_Wp, An_true, w_add, w_sub, w_mul, w_mod, w_fdiv, w_pow, w_strs, w_tups, w_lsts, c_lt, c_le, c_gt, c_ge, c_eqi, c_nei, c_eqs, c_nes, c_eqb, c_neb, c_isn, c_notn, nq_non, nq_int, nq_bl, nq_str, nq_lst, nq_tup, nq_ins, t_non, t_bl, t_int, t_lst, t_tup, ix_tup, ix_lst, ix_scr, atI_0, ↓Cn_nx, ↓Cn_bk, ↓Cn_ct, ↓Cn_rt, ↓w_nil, ↓w_cons, w_asg, w_ex, w_ret, w_retN, w_ife, w_ix, Rt_f, Rt_fn, Rt_t, Tn_nx, Tn_ct, Tn_bk, Tn_rt, bindT.eq_1, bindT.eq_2, bindT.eq_3, bindTs.eq_1, bindTs.eq_2, sa0, sa1, sa2, sa11, sa21, sa22, ss0, ss1, ss11, st0, st1, st2, w_append, atI_9, atI_10, atI_11, atI_12, atI_13, cut_9, cut_4, cut_5, List.drop_succ_cons, List.drop_zero, pw4, lg2, zfzL_strs, refsL_strs, ix_str, zsm, seqv, asKt, la1, stn, w_asgF, Ac_ins, putFs_nil, putFs_cons, putG, Nat.reduceLT,  zbools_map, zints_map, zints_int, zstrs_map, all_id, any_id, zsl, cut_1, cut_2, cut_3, cut_t1, cut_t2, cut_t3, cut_from, cut_to, cut_map, atI_map, atI_1, atI_2, atI_3, atI_4, atI_5, atI_6, atI_7, atI_8, nc0, nc1, nc2, nc3, nc4, nc5, nc6, drop_map', take_map', atI_neg1, c_eql, c_nel, Br_F, isL_lst, isL_str, isS_str, ds0, ds1, ds2, ds11, ds21, ds22, di0, w_augU, Ai_int, w_fzv, Av_z, refsL_ints, Wp_none, w_put, Ap_lst, mayW_int, mayW_str, mayW_bl, mayW_self, w_fzc, zfzL_ints, wipeE, List.getElem?_cons_zero, List.getElem?_cons_succ, List.set_cons_zero, List.set_cons_succ, Option.map_some, Option.bind_some, Option.map_none, startE, List.map_cons, List.map_nil, List.length_cons, List.length_nil, List.nil_append, List.cons_append, List.append_nil, List.reduceReplicate, Nat.reduceAdd, Nat.reduceSub, dr_int, dr_bl, dr_non, dr_str, dr_lst, dr_tup, dr_dic, dr_ins, dr_scr, zbf, zbf1, zbf2, zlen, zabs, zint, zlst, asKf, mkLf, mkLt, Bool.not_true, Bool.not_false, Bool.not_not, Bool.and_true, Bool.true_and, Bool.and_false, Bool.false_and, decide_eq_true_eq, decide_eq_false_iff_not, decide_true, decide_false, Bool.not_eq_true', eq_self_iff_true, not_false_eq_true, not_true_eq_false, Bool.false_eq_true, reduceCtorEq, if_true, if_false, ite_true, ite_false, Z.refs, refsL, List.all_nil, List.all_cons, List.take_length, isi_Wp, tyOf, isTy, List.any_cons, List.any_nil, Bool.or_false, Bool.false_or, Bool.or_true, Bool.true_or, String.reduceEq, String.reduceBEq, beq_self_eq_true, zfd_ins, getF, insM_ins, me_ok, Int.reduceLT, Int.reduceLE, Int.reduceEq, Int.reduceNeg, Int.reduceAdd, Int.reduceSub, Int.reduceMul, gt_iff_lt, ge_iff_le, and_true, true_and, and_self, and_false, false_and, implies_true, true_implies, Prod.mk.injEq, ne_eq, bne]
      refine draw_w T.draw t9 (by omega) (by omega) (by omega) fun v s10 a10 b10 l10 t10 o10 => ?_
      have t11 : Tape s10 n (132 + 11 * ((i + 1 : Nat) : Int)) := t10.mono (by omega)
      simp -dsimp only [ev.eq_1, ev.eq_2, ev.eq_3, ev.eq_4, ev.eq_5, ev.eq_6, ev.eq_7, ev.eq_8, ev.eq_9, ev.eq_10, ev.eq_11, ev.eq_12, ev.eq_13, ev.eq_14, ev.eq_15, ev.eq_16, ev.eq_19, ev.eq_20, ev.eq_21, ev.eq_22, ev.eq_23, ev.eq_24, ev.eq_25, ev.eq_26, ev.eq_28, ev.eq_29, ev.eq_30, ev.eq_31, ev.eq_32, evs.eq_1, evs.eq_2, evo.eq_1, evo.eq_2, evc.eq_1, evc.eq_2, rbind_ok, ↓Wp_ok, ↓Wp_bind, Wp_no, Wp_exn, calm_Wp, ↓Wp_ifno, ↓Wp_ite, Br_true, Br_false, Br_not, ofO_Wp, An_true, w_add, w_sub, w_mul, w_mod, w_fdiv, w_pow, w_strs, w_tups, w_lsts, c_lt, c_le, c_gt, c_ge, c_eqi, c_nei, c_eqs, c_nes, c_eqb, c_neb, c_isn, c_notn, nq_non, nq_int, nq_bl, nq_str, nq_lst, nq_tup, nq_ins, t_non, t_bl, t_int, t_lst, t_tup, ix_tup, ix_lst, ix_scr, atI_0, ↓Cn_nx, ↓Cn_bk, ↓Cn_ct, ↓Cn_rt, ↓w_nil, ↓w_cons, w_asg, w_ex, w_ret, w_retN, w_ife, w_ix, Rt_f, Rt_fn, Rt_t, Tn_nx, Tn_ct, Tn_bk, Tn_rt, bindT.eq_1, bindT.eq_2, bindT.eq_3, bindTs.eq_1, bindTs.eq_2, sa0, sa1, sa2, sa11, sa21, sa22, ss0, ss1, ss11, st0, st1, st2, w_append, atI_9, atI_10, atI_11, atI_12, atI_13, cut_9, cut_4, cut_5, List.drop_succ_cons, List.drop_zero, pw4, lg2, zfzL_strs, refsL_strs, ix_str, zsm, seqv, asKt, la1, stn, w_asgF, Ac_ins, putFs_nil, putFs_cons, putG, Nat.reduceLT,  zbools_map, zints_map, zints_int, zstrs_map, all_id, any_id, zsl, cut_1, cut_2, cut_3, cut_t1, cut_t2, cut_t3, cut_from, cut_to, cut_map, atI_map, atI_1, atI_2, atI_3, atI_4, atI_5, atI_6, atI_7, atI_8, nc0, nc1, nc2, nc3, nc4, nc5, nc6, drop_map', take_map', atI_neg1, c_eql, c_nel, Br_F, isL_lst, isL_str, isS_str, ds0, ds1, ds2, ds11, ds21, ds22, di0, w_augU, Ai_int, w_fzv, Av_z, refsL_ints, Wp_none, w_put, Ap_lst, mayW_int, mayW_str, mayW_bl, mayW_self, w_fzc, zfzL_ints, wipeE, List.getElem?_cons_zero, List.getElem?_cons_succ, List.set_cons_zero, List.set_cons_succ, Option.map_some, Option.bind_some, Option.map_none, startE, List.map_cons, List.map_nil, List.length_cons, List.length_nil, List.nil_append, List.cons_append, List.append_nil, List.reduceReplicate, Nat.reduceAdd, Nat.reduceSub, dr_int, dr_bl, dr_non, dr_str, dr_lst, dr_tup, dr_dic, dr_ins, dr_scr, zbf, zbf1, zbf2, zlen, zabs, zint, zlst, asKf, mkLf, mkLt, Bool.not_true, Bool.not_false, Bool.not_not, Bool.and_true, Bool.true_and, Bool.and_false, Bool.false_and, decide_eq_true_eq, decide_eq_false_iff_not, decide_true, decide_false, Bool.not_eq_true', eq_self_iff_true, not_false_eq_true, not_true_eq_false, Bool.false_eq_true, reduceCtorEq, if_true, if_false, ite_true, ite_false, Z.refs, refsL, List.all_nil, List.all_cons, List.take_length, isi_Wp, tyOf, isTy, List.any_cons, List.any_nil, Bool.or_false, Bool.false_or, Bool.or_true, Bool.true_or, String.reduceEq, String.reduceBEq, beq_self_eq_true, zfd_ins, getF, insM_ins, me_ok, Int.reduceLT, Int.reduceLE, Int.reduceEq, Int.reduceNeg, Int.reduceAdd, Int.reduceSub, Int.reduceMul, gt_iff_lt, ge_iff_le, and_true, true_and, and_self, and_false, false_and, implies_true, true_implies, Prod.mk.injEq, ne_eq, bne]
      have rev : ∀ {r : List (Int × Int)}, (∀ x ∈ r, Fr x) → ∀ x ∈ r.reverse, Fr x := fun h x hx => h x (List.mem_reverse.mp hx)
      refine Br.mk' (fun h0 => ?_) (fun h0 => ?_)
      · simp -dsimp only [ev.eq_1, ev.eq_2, ev.eq_3, ev.eq_4, ev.eq_5, ev.eq_6, ev.eq_7, ev.eq_8, ev.eq_9, ev.eq_10, ev.eq_11, ev.eq_12, ev.eq_13, ev.eq_14, ev.eq_15, ev.eq_16, ev.eq_19, ev.eq_20, ev.eq_21, ev.eq_22, ev.eq_23, ev.eq_24, ev.eq_25, ev.eq_26, ev.eq_28, ev.eq_29, ev.eq_30, ev.eq_31, ev.eq_32, evs.eq_1, evs.eq_2, evo.eq_1, evo.eq_2, evc.eq_1, evc.eq_2, rbind_ok, ↓Wp_ok, ↓Wp_bind, Wp_no, Wp_exn, calm_Wp, ↓Wp_ifno, ↓Wp_ite, Br_true, Br_false, Br_not, ofO_Wp, An_true, w_add, w_sub, w_mul, w_mod, w_fdiv, w_pow, w_strs, w_tups, w_lsts, c_lt, c_le, c_gt, c_ge, c_eqi, c_nei, c_eqs, c_nes, c_eqb, c_neb, c_isn, c_notn, nq_non, nq_int, nq_bl, nq_str, nq_lst, nq_tup, nq_ins, t_non, t_bl, t_int, t_lst, t_tup, ix_tup, ix_lst, ix_scr, atI_0, ↓Cn_nx, ↓Cn_bk, ↓Cn_ct, ↓Cn_rt, ↓w_nil, ↓w_cons, w_asg, w_ex, w_ret, w_retN, w_ife, w_ix, Rt_f, Rt_fn, Rt_t, Tn_nx, Tn_ct, Tn_bk, Tn_rt, bindT.eq_1, bindT.eq_2, bindT.eq_3, bindTs.eq_1, bindTs.eq_2, sa0, sa1, sa2, sa11, sa21, sa22, ss0, ss1, ss11, st0, st1, st2, w_append, atI_9, atI_10, atI_11, atI_12, atI_13, cut_9, cut_4, cut_5, List.drop_succ_cons, List.drop_zero, pw4, lg2, zfzL_strs, refsL_strs, ix_str, zsm, seqv, asKt, la1, stn, w_asgF, Ac_ins, putFs_nil, putFs_cons, putG, Nat.reduceLT,  zbools_map, zints_map, zints_int, zstrs_map, all_id, any_id, zsl, cut_1, cut_2, cut_3, cut_t1, cut_t2, cut_t3, cut_from, cut_to, cut_map, atI_map, atI_1, atI_2, atI_3, atI_4, atI_5, atI_6, atI_7, atI_8, nc0, nc1, nc2, nc3, nc4, nc5, nc6, drop_map', take_map', atI_neg1, c_eql, c_nel, Br_F, isL_lst, isL_str, isS_str, ds0, ds1, ds2, ds11, ds21, ds22, di0, w_augU, Ai_int, w_fzv, Av_z, refsL_ints, Wp_none, w_put, Ap_lst, mayW_int, mayW_str, mayW_bl, mayW_self, w_fzc, zfzL_ints, wipeE, List.getElem?_cons_zero, List.getElem?_cons_succ, List.set_cons_zero, List.set_cons_succ, Option.map_some, Option.bind_some, Option.map_none, startE, List.map_cons, List.map_nil, List.length_cons, List.length_nil, List.nil_append, List.cons_append, List.append_nil, List.reduceReplicate, Nat.reduceAdd, Nat.reduceSub, dr_int, dr_bl, dr_non, dr_str, dr_lst, dr_tup, dr_dic, dr_ins, dr_scr, zbf, zbf1, zbf2, zlen, zabs, zint, zlst, asKf, mkLf, mkLt, Bool.not_true, Bool.not_false, Bool.not_not, Bool.and_true, Bool.true_and, Bool.and_false, Bool.false_and, decide_eq_true_eq, decide_eq_false_iff_not, decide_true, decide_false, Bool.not_eq_true', eq_self_iff_true, not_false_eq_true, not_true_eq_false, Bool.false_eq_true, reduceCtorEq, if_true, if_false, ite_true, ite_false, Z.refs, refsL, List.all_nil, List.all_cons, List.take_length, isi_Wp, tyOf, isTy, List.any_cons, List.any_nil, Bool.or_false, Bool.false_or, Bool.or_true, Bool.true_or, String.reduceEq, String.reduceBEq, beq_self_eq_true, zfd_ins, getF, insM_ins, me_ok, Int.reduceLT, Int.reduceLE, Int.reduceEq, Int.reduceNeg, Int.reduceAdd, Int.reduceSub, Int.reduceMul, gt_iff_lt, ge_iff_le, and_true, true_and, and_self, and_false, false_and, implies_true, true_implies, Prod.mk.injEq, ne_eq, bne]
        refine wp_lcp (xs := row) zfr (fun x => zfr (0 - x.1, x.2)) (hs := [.lst (row.map zfr)]) (st1 := s10) ?_ (fun x hx => ⟨_, rfl, ?_⟩) ?_
        · simp -dsimp only [ev.eq_1, ev.eq_2, ev.eq_3, ev.eq_4, ev.eq_5, ev.eq_6, ev.eq_7, ev.eq_8, ev.eq_9, ev.eq_10, ev.eq_11, ev.eq_12, ev.eq_13, ev.eq_14, ev.eq_15, ev.eq_16, ev.eq_19, ev.eq_20, ev.eq_21, ev.eq_22, ev.eq_23, ev.eq_24, ev.eq_25, ev.eq_26, ev.eq_28, ev.eq_29, ev.eq_30, ev.eq_31, ev.eq_32, evs.eq_1, evs.eq_2, evo.eq_1, evo.eq_2, evc.eq_1, evc.eq_2, rbind_ok, ↓Wp_ok, ↓Wp_bind, Wp_no, Wp_exn, calm_Wp, ↓Wp_ifno, ↓Wp_ite, Br_true, Br_false, Br_not, ofO_Wp, An_true, w_add, w_sub, w_mul, w_mod, w_fdiv, w_pow, w_strs, w_tups, w_lsts, c_lt, c_le, c_gt, c_ge, c_eqi, c_nei, c_eqs, c_nes, c_eqb, c_neb, c_isn, c_notn, nq_non, nq_int, nq_bl, nq_str, nq_lst, nq_tup, nq_ins, t_non, t_bl, t_int, t_lst, t_tup, ix_tup, ix_lst, ix_scr, atI_0, ↓Cn_nx, ↓Cn_bk, ↓Cn_ct, ↓Cn_rt, ↓w_nil, ↓w_cons, w_asg, w_ex, w_ret, w_retN, w_ife, w_ix, Rt_f, Rt_fn, Rt_t, Tn_nx, Tn_ct, Tn_bk, Tn_rt, bindT.eq_1, bindT.eq_2, bindT.eq_3, bindTs.eq_1, bindTs.eq_2, sa0, sa1, sa2, sa11, sa21, sa22, ss0, ss1, ss11, st0, st1, st2, w_append, atI_9, atI_10, atI_11, atI_12, atI_13, cut_9, cut_4, cut_5, List.drop_succ_cons, List.drop_zero, pw4, lg2, zfzL_strs, refsL_strs, ix_str, zsm, seqv, asKt, la1, stn, w_asgF, Ac_ins, putFs_nil, putFs_cons, putG, Nat.reduceLT,  zbools_map, zints_map, zints_int, zstrs_map, all_id, any_id, zsl, cut_1, cut_2, cut_3, cut_t1, cut_t2, cut_t3, cut_from, cut_to, cut_map, atI_map, atI_1, atI_2, atI_3, atI_4, atI_5, atI_6, atI_7, atI_8, nc0, nc1, nc2, nc3, nc4, nc5, nc6, drop_map', take_map', atI_neg1, c_eql, c_nel, Br_F, isL_lst, isL_str, isS_str, ds0, ds1, ds2, ds11, ds21, ds22, di0, w_augU, Ai_int, w_fzv, Av_z, refsL_ints, Wp_none, w_put, Ap_lst, mayW_int, mayW_str, mayW_bl, mayW_self, w_fzc, zfzL_ints, wipeE, List.getElem?_cons_zero, List.getElem?_cons_succ, List.set_cons_zero, List.set_cons_succ, Option.map_some, Option.bind_some, Option.map_none, startE, List.map_cons, List.map_nil, List.length_cons, List.length_nil, List.nil_append, List.cons_append, List.append_nil, List.reduceReplicate, Nat.reduceAdd, Nat.reduceSub, dr_int, dr_bl, dr_non, dr_str, dr_lst, dr_tup, dr_dic, dr_ins, dr_scr, zbf, zbf1, zbf2, zlen, zabs, zint, zlst, asKf, mkLf, mkLt, Bool.not_true, Bool.not_false, Bool.not_not, Bool.and_true, Bool.true_and, Bool.and_false, Bool.false_and, decide_eq_true_eq, decide_eq_false_iff_not, decide_true, decide_false, Bool.not_eq_true', eq_self_iff_true, not_false_eq_true, not_true_eq_false, Bool.false_eq_true, reduceCtorEq, if_true, if_false, ite_true, ite_false, Z.refs, refsL, List.all_nil, List.all_cons, List.take_length, isi_Wp, tyOf, isTy, List.any_cons, List.any_nil, Bool.or_false, Bool.false_or, Bool.or_true, Bool.true_or, String.reduceEq, String.reduceBEq, beq_self_eq_true, zfd_ins, getF, insM_ins, me_ok, Int.reduceLT, Int.reduceLE, Int.reduceEq, Int.reduceNeg, Int.reduceAdd, Int.reduceSub, Int.reduceMul, gt_iff_lt, ge_iff_le, and_true, true_and, and_self, and_false, false_and, implies_true, true_implies, Prod.mk.injEq, ne_eq, bne, evI]
        · simp -dsimp only [ev.eq_1, ev.eq_2, ev.eq_3, ev.eq_4, ev.eq_5, ev.eq_6, ev.eq_7, ev.eq_8, ev.eq_9, ev.eq_10, ev.eq_11, ev.eq_12, ev.eq_13, ev.eq_14, ev.eq_15, ev.eq_16, ev.eq_19, ev.eq_20, ev.eq_21, ev.eq_22, ev.eq_23, ev.eq_24, ev.eq_25, ev.eq_26, ev.eq_28, ev.eq_29, ev.eq_30, ev.eq_31, ev.eq_32, evs.eq_1, evs.eq_2, evo.eq_1, evo.eq_2, evc.eq_1, evc.eq_2, rbind_ok, ↓Wp_ok, ↓Wp_bind, Wp_no, Wp_exn, calm_Wp, ↓Wp_ifno, ↓Wp_ite, Br_true, Br_false, Br_not, ofO_Wp, An_true, w_add, w_sub, w_mul, w_mod, w_fdiv, w_pow, w_strs, w_tups, w_lsts, c_lt, c_le, c_gt, c_ge, c_eqi, c_nei, c_eqs, c_nes, c_eqb, c_neb, c_isn, c_notn, nq_non, nq_int, nq_bl, nq_str, nq_lst, nq_tup, nq_ins, t_non, t_bl, t_int, t_lst, t_tup, ix_tup, ix_lst, ix_scr, atI_0, ↓Cn_nx, ↓Cn_bk, ↓Cn_ct, ↓Cn_rt, ↓w_nil, ↓w_cons, w_asg, w_ex, w_ret, w_retN, w_ife, w_ix, Rt_f, Rt_fn, Rt_t, Tn_nx, Tn_ct, Tn_bk, Tn_rt, bindT.eq_1, bindT.eq_2, bindT.eq_3, bindTs.eq_1, bindTs.eq_2, sa0, sa1, sa2, sa11, sa21, sa22, ss0, ss1, ss11, st0, st1, st2, w_append, atI_9, atI_10, atI_11, atI_12, atI_13, cut_9, cut_4, cut_5, List.drop_succ_cons, List.drop_zero, pw4, lg2, zfzL_strs, refsL_strs, ix_str, zsm, seqv, asKt, la1, stn, w_asgF, Ac_ins, putFs_nil, putFs_cons, putG, Nat.reduceLT,  zbools_map, zints_map, zints_int, zstrs_map, all_id, any_id, zsl, cut_1, cut_2, cut_3, cut_t1, cut_t2, cut_t3, cut_from, cut_to, cut_map, atI_map, atI_1, atI_2, atI_3, atI_4, atI_5, atI_6, atI_7, atI_8, nc0, nc1, nc2, nc3, nc4, nc5, nc6, drop_map', take_map', atI_neg1, c_eql, c_nel, Br_F, isL_lst, isL_str, isS_str, ds0, ds1, ds2, ds11, ds21, ds22, di0, w_augU, Ai_int, w_fzv, Av_z, refsL_ints, Wp_none, w_put, Ap_lst, mayW_int, mayW_str, mayW_bl, mayW_self, w_fzc, zfzL_ints, wipeE, List.getElem?_cons_zero, List.getElem?_cons_succ, List.set_cons_zero, List.set_cons_succ, Option.map_some, Option.bind_some, Option.map_none, startE, List.map_cons, List.map_nil, List.length_cons, List.length_nil, List.nil_append, List.cons_append, List.append_nil, List.reduceReplicate, Nat.reduceAdd, Nat.reduceSub, dr_int, dr_bl, dr_non, dr_str, dr_lst, dr_tup, dr_dic, dr_ins, dr_scr, zbf, zbf1, zbf2, zlen, zabs, zint, zlst, asKf, mkLf, mkLt, Bool.not_true, Bool.not_false, Bool.not_not, Bool.and_true, Bool.true_and, Bool.and_false, Bool.false_and, decide_eq_true_eq, decide_eq_false_iff_not, decide_true, decide_false, Bool.not_eq_true', eq_self_iff_true, not_false_eq_true, not_true_eq_false, Bool.false_eq_true, reduceCtorEq, if_true, if_false, ite_true, ite_false, Z.refs, refsL, List.all_nil, List.all_cons, List.take_length, isi_Wp, tyOf, isTy, List.any_cons, List.any_nil, Bool.or_false, Bool.false_or, Bool.or_true, Bool.true_or, String.reduceEq, String.reduceBEq, beq_self_eq_true, zfd_ins, getF, insM_ins, me_ok, Int.reduceLT, Int.reduceLE, Int.reduceEq, Int.reduceNeg, Int.reduceAdd, Int.reduceSub, Int.reduceMul, gt_iff_lt, ge_iff_le, and_true, true_and, and_self, and_false, false_and, implies_true, true_implies, Prod.mk.injEq, ne_eq, bne, zfr]
        rw [show (row.map fun x => zfr (0 - x.1, x.2)) = (row.map fun x => (0 - x.1, x.2)).map zfr by rw [List.map_map]; rfl]
        simp -dsimp only [ev.eq_1, ev.eq_2, ev.eq_3, ev.eq_4, ev.eq_5, ev.eq_6, ev.eq_7, ev.eq_8, ev.eq_9, ev.eq_10, ev.eq_11, ev.eq_12, ev.eq_13, ev.eq_14, ev.eq_15, ev.eq_16, ev.eq_19, ev.eq_20, ev.eq_21, ev.eq_22, ev.eq_23, ev.eq_24, ev.eq_25, ev.eq_26, ev.eq_28, ev.eq_29, ev.eq_30, ev.eq_31, ev.eq_32, evs.eq_1, evs.eq_2, evo.eq_1, evo.eq_2, evc.eq_1, evc.eq_2, rbind_ok, ↓Wp_ok, ↓Wp_bind, Wp_no, Wp_exn, calm_Wp, ↓Wp_ifno, ↓Wp_ite, Br_true, Br_false, Br_not, ofO_Wp, An_true, w_add, w_sub, w_mul, w_mod, w_fdiv, w_pow, w_strs, w_tups, w_lsts, c_lt, c_le, c_gt, c_ge, c_eqi, c_nei, c_eqs, c_nes, c_eqb, c_neb, c_isn, c_notn, nq_non, nq_int, nq_bl, nq_str, nq_lst, nq_tup, nq_ins, t_non, t_bl, t_int, t_lst, t_tup, ix_tup, ix_lst, ix_scr, atI_0, ↓Cn_nx, ↓Cn_bk, ↓Cn_ct, ↓Cn_rt, ↓w_nil, ↓w_cons, w_asg, w_ex, w_ret, w_retN, w_ife, w_ix, Rt_f, Rt_fn, Rt_t, Tn_nx, Tn_ct, Tn_bk, Tn_rt, bindT.eq_1, bindT.eq_2, bindT.eq_3, bindTs.eq_1, bindTs.eq_2, sa0, sa1, sa2, sa11, sa21, sa22, ss0, ss1, ss11, st0, st1, st2, w_append, atI_9, atI_10, atI_11, atI_12, atI_13, cut_9, cut_4, cut_5, List.drop_succ_cons, List.drop_zero, pw4, lg2, zfzL_strs, refsL_strs, ix_str, zsm, seqv, asKt, la1, stn, w_asgF, Ac_ins, putFs_nil, putFs_cons, putG, Nat.reduceLT,  zbools_map, zints_map, zints_int, zstrs_map, all_id, any_id, zsl, cut_1, cut_2, cut_3, cut_t1, cut_t2, cut_t3, cut_from, cut_to, cut_map, atI_map, atI_1, atI_2, atI_3, atI_4, atI_5, atI_6, atI_7, atI_8, nc0, nc1, nc2, nc3, nc4, nc5, nc6, drop_map', take_map', atI_neg1, c_eql, c_nel, Br_F, isL_lst, isL_str, isS_str, ds0, ds1, ds2, ds11, ds21, ds22, di0, w_augU, Ai_int, w_fzv, Av_z, refsL_ints, Wp_none, w_put, Ap_lst, mayW_int, mayW_str, mayW_bl, mayW_self, w_fzc, zfzL_ints, wipeE, List.getElem?_cons_zero, List.getElem?_cons_succ, List.set_cons_zero, List.set_cons_succ, Option.map_some, Option.bind_some, Option.map_none, startE, List.map_cons, List.map_nil, List.length_cons, List.length_nil, List.nil_append, List.cons_append, List.append_nil, List.reduceReplicate, Nat.reduceAdd, Nat.reduceSub, dr_int, dr_bl, dr_non, dr_str, dr_lst, dr_tup, dr_dic, dr_ins, dr_scr, zbf, zbf1, zbf2, zlen, zabs, zint, zlst, asKf, mkLf, mkLt, Bool.not_true, Bool.not_false, Bool.not_not, Bool.and_true, Bool.true_and, Bool.and_false, Bool.false_and, decide_eq_true_eq, decide_eq_false_iff_not, decide_true, decide_false, Bool.not_eq_true', eq_self_iff_true, not_false_eq_true, not_true_eq_false, Bool.false_eq_true, reduceCtorEq, if_true, if_false, ite_true, ite_false, Z.refs, refsL, List.all_nil, List.all_cons, List.take_length, isi_Wp, tyOf, isTy, List.any_cons, List.any_nil, Bool.or_false, Bool.false_or, Bool.or_true, Bool.true_or, String.reduceEq, String.reduceBEq, beq_self_eq_true, zfd_ins, getF, insM_ins, me_ok, Int.reduceLT, Int.reduceLE, Int.reduceEq, Int.reduceNeg, Int.reduceAdd, Int.reduceSub, Int.reduceMul, gt_iff_lt, ge_iff_le, and_true, true_and, and_self, and_false, false_and, implies_true, true_implies, Prod.mk.injEq, ne_eq, bne]
        refine ⟨by rw [List.length_map, List.length_map, List.length_map]; unfold sizeL; omega, ?_⟩
        rw [← List.map_append]
        have f12 : ∀ x ∈ row ++ row.map (fun x : Int × Int => (0 - x.1, x.2)), Fr x := fun x hx => by
          rcases List.mem_append.mp hx with hx | hx
          · exact f9 x hx
          · obtain ⟨y, hy, rfl⟩ := List.mem_map.mp hx
            exact fr_neg (f9 y hy)
        have l12 : (row ++ row.map (fun x : Int × Int => (0 - x.1, x.2))).length ≤ 16 := by rw [List.length_append, List.length_map]; omega
        generalize row ++ row.map (fun x : Int × Int => (0 - x.1, x.2)) = r at f12 l12
        simp -dsimp only [ev.eq_1, ev.eq_2, ev.eq_3, ev.eq_4, ev.eq_5, ev.eq_6, ev.eq_7, ev.eq_8, ev.eq_9, ev.eq_10, ev.eq_11, ev.eq_12, ev.eq_13, ev.eq_14, ev.eq_15, ev.eq_16, ev.eq_19, ev.eq_20, ev.eq_21, ev.eq_22, ev.eq_23, ev.eq_24, ev.eq_25, ev.eq_26, ev.eq_28, ev.eq_29, ev.eq_30, ev.eq_31, ev.eq_32, evs.eq_1, evs.eq_2, evo.eq_1, evo.eq_2, evc.eq_1, evc.eq_2, rbind_ok, ↓Wp_ok, ↓Wp_bind, Wp_no, Wp_exn, calm_Wp, ↓Wp_ifno, ↓Wp_ite, Br_true, Br_false, Br_not, ofO_Wp, An_true, w_add, w_sub, w_mul, w_mod, w_fdiv, w_pow, w_strs, w_tups, w_lsts, c_lt, c_le, c_gt, c_ge, c_eqi, c_nei, c_eqs, c_nes, c_eqb, c_neb, c_isn, c_notn, nq_non, nq_int, nq_bl, nq_str, nq_lst, nq_tup, nq_ins, t_non, t_bl, t_int, t_lst, t_tup, ix_tup, ix_lst, ix_scr, atI_0, ↓Cn_nx, ↓Cn_bk, ↓Cn_ct, ↓Cn_rt, ↓w_nil, ↓w_cons, w_asg, w_ex, w_ret, w_retN, w_ife, w_ix, Rt_f, Rt_fn, Rt_t, Tn_nx, Tn_ct, Tn_bk, Tn_rt, bindT.eq_1, bindT.eq_2, bindT.eq_3, bindTs.eq_1, bindTs.eq_2, sa0, sa1, sa2, sa11, sa21, sa22, ss0, ss1, ss11, st0, st1, st2, w_append, atI_9, atI_10, atI_11, atI_12, atI_13, cut_9, cut_4, cut_5, List.drop_succ_cons, List.drop_zero, pw4, lg2, zfzL_strs, refsL_strs, ix_str, zsm, seqv, asKt, la1, stn, w_asgF, Ac_ins, putFs_nil, putFs_cons, putG, Nat.reduceLT,  zbools_map, zints_map, zints_int, zstrs_map, all_id, any_id, zsl, cut_1, cut_2, cut_3, cut_t1, cut_t2, cut_t3, cut_from, cut_to, cut_map, atI_map, atI_1, atI_2, atI_3, atI_4, atI_5, atI_6, atI_7, atI_8, nc0, nc1, nc2, nc3, nc4, nc5, nc6, drop_map', take_map', atI_neg1, c_eql, c_nel, Br_F, isL_lst, isL_str, isS_str, ds0, ds1, ds2, ds11, ds21, ds22, di0, w_augU, Ai_int, w_fzv, Av_z, refsL_ints, Wp_none, w_put, Ap_lst, mayW_int, mayW_str, mayW_bl, mayW_self, w_fzc, zfzL_ints, wipeE, List.getElem?_cons_zero, List.getElem?_cons_succ, List.set_cons_zero, List.set_cons_succ, Option.map_some, Option.bind_some, Option.map_none, startE, List.map_cons, List.map_nil, List.length_cons, List.length_nil, List.nil_append, List.cons_append, List.append_nil, List.reduceReplicate, Nat.reduceAdd, Nat.reduceSub, dr_int, dr_bl, dr_non, dr_str, dr_lst, dr_tup, dr_dic, dr_ins, dr_scr, zbf, zbf1, zbf2, zlen, zabs, zint, zlst, asKf, mkLf, mkLt, Bool.not_true, Bool.not_false, Bool.not_not, Bool.and_true, Bool.true_and, Bool.and_false, Bool.false_and, decide_eq_true_eq, decide_eq_false_iff_not, decide_true, decide_false, Bool.not_eq_true', eq_self_iff_true, not_false_eq_true, not_true_eq_false, Bool.false_eq_true, reduceCtorEq, if_true, if_false, ite_true, ite_false, Z.refs, refsL, List.all_nil, List.all_cons, List.take_length, isi_Wp, tyOf, isTy, List.any_cons, List.any_nil, Bool.or_false, Bool.false_or, Bool.or_true, Bool.true_or, String.reduceEq, String.reduceBEq, beq_self_eq_true, zfd_ins, getF, insM_ins, me_ok, Int.reduceLT, Int.reduceLE, Int.reduceEq, Int.reduceNeg, Int.reduceAdd, Int.reduceSub, Int.reduceMul, gt_iff_lt, ge_iff_le, and_true, true_and, and_self, and_false, false_and, implies_true, true_implies, Prod.mk.injEq, ne_eq, bne, sum_of_eq T.F f12 l12 (z := .lst (r.map zfr)) (zs := [.lst (r.map zfr)]) (ks := []) (.inl rfl) rfl, ← List.map_reverse, sum_of_eq T.F (rev f12) (by rw [List.length_reverse]; exact l12) (z := .tup (r.reverse.map zfr)) (zs := [.tup (r.reverse.map zfr)]) (ks := ["some"]) (.inr rfl) rfl, total_eq T f12 l12, sum_rev f12, rep2, ne_frs]
        simp -dsimp only [ev.eq_1, ev.eq_2, ev.eq_3, ev.eq_4, ev.eq_5, ev.eq_6, ev.eq_7, ev.eq_8, ev.eq_9, ev.eq_10, ev.eq_11, ev.eq_12, ev.eq_13, ev.eq_14, ev.eq_15, ev.eq_16, ev.eq_19, ev.eq_20, ev.eq_21, ev.eq_22, ev.eq_23, ev.eq_24, ev.eq_25, ev.eq_26, ev.eq_28, ev.eq_29, ev.eq_30, ev.eq_31, ev.eq_32, evs.eq_1, evs.eq_2, evo.eq_1, evo.eq_2, evc.eq_1, evc.eq_2, rbind_ok, ↓Wp_ok, ↓Wp_bind, Wp_no, Wp_exn, calm_Wp, ↓Wp_ifno, ↓Wp_ite, Br_true, Br_false, Br_not, ofO_Wp, An_true, w_add, w_sub, w_mul, w_mod, w_fdiv, w_pow, w_strs, w_tups, w_lsts, c_lt, c_le, c_gt, c_ge, c_eqi, c_nei, c_eqs, c_nes, c_eqb, c_neb, c_isn, c_notn, nq_non, nq_int, nq_bl, nq_str, nq_lst, nq_tup, nq_ins, t_non, t_bl, t_int, t_lst, t_tup, ix_tup, ix_lst, ix_scr, atI_0, ↓Cn_nx, ↓Cn_bk, ↓Cn_ct, ↓Cn_rt, ↓w_nil, ↓w_cons, w_asg, w_ex, w_ret, w_retN, w_ife, w_ix, Rt_f, Rt_fn, Rt_t, Tn_nx, Tn_ct, Tn_bk, Tn_rt, bindT.eq_1, bindT.eq_2, bindT.eq_3, bindTs.eq_1, bindTs.eq_2, sa0, sa1, sa2, sa11, sa21, sa22, ss0, ss1, ss11, st0, st1, st2, w_append, atI_9, atI_10, atI_11, atI_12, atI_13, cut_9, cut_4, cut_5, List.drop_succ_cons, List.drop_zero, pw4, lg2, zfzL_strs, refsL_strs, ix_str, zsm, seqv, asKt, la1, stn, w_asgF, Ac_ins, putFs_nil, putFs_cons, putG, Nat.reduceLT,  zbools_map, zints_map, zints_int, zstrs_map, all_id, any_id, zsl, cut_1, cut_2, cut_3, cut_t1, cut_t2, cut_t3, cut_from, cut_to, cut_map, atI_map, atI_1, atI_2, atI_3, atI_4, atI_5, atI_6, atI_7, atI_8, nc0, nc1, nc2, nc3, nc4, nc5, nc6, drop_map', take_map', atI_neg1, c_eql, c_nel, Br_F, isL_lst, isL_str, isS_str, ds0, ds1, ds2, ds11, ds21, ds22, di0, w_augU, Ai_int, w_fzv, Av_z, refsL_ints, Wp_none, w_put, Ap_lst, mayW_int, mayW_str, mayW_bl, mayW_self, w_fzc, zfzL_ints, wipeE, List.getElem?_cons_zero, List.getElem?_cons_succ, List.set_cons_zero, List.set_cons_succ, Option.map_some, Option.bind_some, Option.map_none, startE, List.map_cons, List.map_nil, List.length_cons, List.length_nil, List.nil_append, List.cons_append, List.append_nil, List.reduceReplicate, Nat.reduceAdd, Nat.reduceSub, dr_int, dr_bl, dr_non, dr_str, dr_lst, dr_tup, dr_dic, dr_ins, dr_scr, zbf, zbf1, zbf2, zlen, zabs, zint, zlst, asKf, mkLf, mkLt, Bool.not_true, Bool.not_false, Bool.not_not, Bool.and_true, Bool.true_and, Bool.and_false, Bool.false_and, decide_eq_true_eq, decide_eq_false_iff_not, decide_true, decide_false, Bool.not_eq_true', eq_self_iff_true, not_false_eq_true, not_true_eq_false, Bool.false_eq_true, reduceCtorEq, if_true, if_false, ite_true, ite_false, Z.refs, refsL, List.all_nil, List.all_cons, List.take_length, isi_Wp, tyOf, isTy, List.any_cons, List.any_nil, Bool.or_false, Bool.false_or, Bool.or_true, Bool.true_or, String.reduceEq, String.reduceBEq, beq_self_eq_true, zfd_ins, getF, insM_ins, me_ok, Int.reduceLT, Int.reduceLE, Int.reduceEq, Int.reduceNeg, Int.reduceAdd, Int.reduceSub, Int.reduceMul, gt_iff_lt, ge_iff_le, and_true, true_and, and_self, and_false, false_and, implies_true, true_implies, Prod.mk.injEq, ne_eq, bne, sm2]
        exact ⟨t11, _, _, _, _, _, _, _, _, _, _, rfl⟩
      · have l12 : row.length ≤ 16 := by omega
        simp -dsimp only [ev.eq_1, ev.eq_2, ev.eq_3, ev.eq_4, ev.eq_5, ev.eq_6, ev.eq_7, ev.eq_8, ev.eq_9, ev.eq_10, ev.eq_11, ev.eq_12, ev.eq_13, ev.eq_14, ev.eq_15, ev.eq_16, ev.eq_19, ev.eq_20, ev.eq_21, ev.eq_22, ev.eq_23, ev.eq_24, ev.eq_25, ev.eq_26, ev.eq_28, ev.eq_29, ev.eq_30, ev.eq_31, ev.eq_32, evs.eq_1, evs.eq_2, evo.eq_1, evo.eq_2, evc.eq_1, evc.eq_2, rbind_ok, ↓Wp_ok, ↓Wp_bind, Wp_no, Wp_exn, calm_Wp, ↓Wp_ifno, ↓Wp_ite, Br_true, Br_false, Br_not, ofO_Wp, An_true, w_add, w_sub, w_mul, w_mod, w_fdiv, w_pow, w_strs, w_tups, w_lsts, c_lt, c_le, c_gt, c_ge, c_eqi, c_nei, c_eqs, c_nes, c_eqb, c_neb, c_isn, c_notn, nq_non, nq_int, nq_bl, nq_str, nq_lst, nq_tup, nq_ins, t_non, t_bl, t_int, t_lst, t_tup, ix_tup, ix_lst, ix_scr, atI_0, ↓Cn_nx, ↓Cn_bk, ↓Cn_ct, ↓Cn_rt, ↓w_nil, ↓w_cons, w_asg, w_ex, w_ret, w_retN, w_ife, w_ix, Rt_f, Rt_fn, Rt_t, Tn_nx, Tn_ct, Tn_bk, Tn_rt, bindT.eq_1, bindT.eq_2, bindT.eq_3, bindTs.eq_1, bindTs.eq_2, sa0, sa1, sa2, sa11, sa21, sa22, ss0, ss1, ss11, st0, st1, st2, w_append, atI_9, atI_10, atI_11, atI_12, atI_13, cut_9, cut_4, cut_5, List.drop_succ_cons, List.drop_zero, pw4, lg2, zfzL_strs, refsL_strs, ix_str, zsm, seqv, asKt, la1, stn, w_asgF, Ac_ins, putFs_nil, putFs_cons, putG, Nat.reduceLT,  zbools_map, zints_map, zints_int, zstrs_map, all_id, any_id, zsl, cut_1, cut_2, cut_3, cut_t1, cut_t2, cut_t3, cut_from, cut_to, cut_map, atI_map, atI_1, atI_2, atI_3, atI_4, atI_5, atI_6, atI_7, atI_8, nc0, nc1, nc2, nc3, nc4, nc5, nc6, drop_map', take_map', atI_neg1, c_eql, c_nel, Br_F, isL_lst, isL_str, isS_str, ds0, ds1, ds2, ds11, ds21, ds22, di0, w_augU, Ai_int, w_fzv, Av_z, refsL_ints, Wp_none, w_put, Ap_lst, mayW_int, mayW_str, mayW_bl, mayW_self, w_fzc, zfzL_ints, wipeE, List.getElem?_cons_zero, List.getElem?_cons_succ, List.set_cons_zero, List.set_cons_succ, Option.map_some, Option.bind_some, Option.map_none, startE, List.map_cons, List.map_nil, List.length_cons, List.length_nil, List.nil_append, List.cons_append, List.append_nil, List.reduceReplicate, Nat.reduceAdd, Nat.reduceSub, dr_int, dr_bl, dr_non, dr_str, dr_lst, dr_tup, dr_dic, dr_ins, dr_scr, zbf, zbf1, zbf2, zlen, zabs, zint, zlst, asKf, mkLf, mkLt, Bool.not_true, Bool.not_false, Bool.not_not, Bool.and_true, Bool.true_and, Bool.and_false, Bool.false_and, decide_eq_true_eq, decide_eq_false_iff_not, decide_true, decide_false, Bool.not_eq_true', eq_self_iff_true, not_false_eq_true, not_true_eq_false, Bool.false_eq_true, reduceCtorEq, if_true, if_false, ite_true, ite_false, Z.refs, refsL, List.all_nil, List.all_cons, List.take_length, isi_Wp, tyOf, isTy, List.any_cons, List.any_nil, Bool.or_false, Bool.false_or, Bool.or_true, Bool.true_or, String.reduceEq, String.reduceBEq, beq_self_eq_true, zfd_ins, getF, insM_ins, me_ok, Int.reduceLT, Int.reduceLE, Int.reduceEq, Int.reduceNeg, Int.reduceAdd, Int.reduceSub, Int.reduceMul, gt_iff_lt, ge_iff_le, and_true, true_and, and_self, and_false, false_and, implies_true, true_implies, Prod.mk.injEq, ne_eq, bne, sum_of_eq T.F f9 l12 (z := .lst (row.map zfr)) (zs := [.lst (row.map zfr)]) (ks := []) (.inl rfl) rfl, ← List.map_reverse, sum_of_eq T.F (rev f9) (by rw [List.length_reverse]; exact l12) (z := .tup (row.reverse.map zfr)) (zs := [.tup (row.reverse.map zfr)]) (ks := ["some"]) (.inr rfl) rfl, total_eq T f9 l12, sum_rev f9, rep2, ne_frs, sm2]
        exact ⟨t11, _, _, _, _, _, _, _, _, _, _, rfl⟩
    rintro e s5 ⟨t5, e5, e6, e7, e8, e9, e10, e11, e12, e13, e14, rfl⟩
    refine ⟨stays_nil, ?_⟩
    simp -dsimp only [ev.eq_1, ev.eq_2, ev.eq_3, ev.eq_4, ev.eq_5, ev.eq_6, ev.eq_7, ev.eq_8, ev.eq_9, ev.eq_10, ev.eq_11, ev.eq_12, ev.eq_13, ev.eq_14, ev.eq_15, ev.eq_16, ev.eq_19, ev.eq_20, ev.eq_21, ev.eq_22, ev.eq_23, ev.eq_24, ev.eq_25, ev.eq_26, ev.eq_28, ev.eq_29, ev.eq_30, ev.eq_31, ev.eq_32, evs.eq_1, evs.eq_2, evo.eq_1, evo.eq_2, evc.eq_1, evc.eq_2, rbind_ok, ↓Wp_ok, ↓Wp_bind, Wp_no, Wp_exn, calm_Wp, ↓Wp_ifno, ↓Wp_ite, Br_true, Br_false, Br_not, ofO_Wp, An_true, w_add, w_sub, w_mul, w_mod, w_fdiv, w_pow, w_strs, w_tups, w_lsts, c_lt, c_le, c_gt, c_ge, c_eqi, c_nei, c_eqs, c_nes, c_eqb, c_neb, c_isn, c_notn, nq_non, nq_int, nq_bl, nq_str, nq_lst, nq_tup, nq_ins, t_non, t_bl, t_int, t_lst, t_tup, ix_tup, ix_lst, ix_scr, atI_0, ↓Cn_nx, ↓Cn_bk, ↓Cn_ct, ↓Cn_rt, ↓w_nil, ↓w_cons, w_asg, w_ex, w_ret, w_retN, w_ife, w_ix, Rt_f, Rt_fn, Rt_t, Tn_nx, Tn_ct, Tn_bk, Tn_rt, bindT.eq_1, bindT.eq_2, bindT.eq_3, bindTs.eq_1, bindTs.eq_2, sa0, sa1, sa2, sa11, sa21, sa22, ss0, ss1, ss11, st0, st1, st2, w_append, atI_9, atI_10, atI_11, atI_12, atI_13, cut_9, cut_4, cut_5, List.drop_succ_cons, List.drop_zero, pw4, lg2, zfzL_strs, refsL_strs, ix_str, zsm, seqv, asKt, la1, stn, w_asgF, Ac_ins, putFs_nil, putFs_cons, putG, Nat.reduceLT,  zbools_map, zints_map, zints_int, zstrs_map, all_id, any_id, zsl, cut_1, cut_2, cut_3, cut_t1, cut_t2, cut_t3, cut_from, cut_to, cut_map, atI_map, atI_1, atI_2, atI_3, atI_4, atI_5, atI_6, atI_7, atI_8, nc0, nc1, nc2, nc3, nc4, nc5, nc6, drop_map', take_map', atI_neg1, c_eql, c_nel, Br_F, isL_lst, isL_str, isS_str, ds0, ds1, ds2, ds11, ds21, ds22, di0, w_augU, Ai_int, w_fzv, Av_z, refsL_ints, Wp_none, w_put, Ap_lst, mayW_int, mayW_str, mayW_bl, mayW_self, w_fzc, zfzL_ints, wipeE, List.getElem?_cons_zero, List.getElem?_cons_succ, List.set_cons_zero, List.set_cons_succ, Option.map_some, Option.bind_some, Option.map_none, startE, List.map_cons, List.map_nil, List.length_cons, List.length_nil, List.nil_append, List.cons_append, List.append_nil, List.reduceReplicate, Nat.reduceAdd, Nat.reduceSub, dr_int, dr_bl, dr_non, dr_str, dr_lst, dr_tup, dr_dic, dr_ins, dr_scr, zbf, zbf1, zbf2, zlen, zabs, zint, zlst, asKf, mkLf, mkLt, Bool.not_true, Bool.not_false, Bool.not_not, Bool.and_true, Bool.true_and, Bool.and_false, Bool.false_and, decide_eq_true_eq, decide_eq_false_iff_not, decide_true, decide_false, Bool.not_eq_true', eq_self_iff_true, not_false_eq_true, not_true_eq_false, Bool.false_eq_true, reduceCtorEq, if_true, if_false, ite_true, ite_false, Z.refs, refsL, List.all_nil, List.all_cons, List.take_length, isi_Wp, tyOf, isTy, List.any_cons, List.any_nil, Bool.or_false, Bool.false_or, Bool.or_true, Bool.true_or, String.reduceEq, String.reduceBEq, beq_self_eq_true, zfd_ins, getF, insM_ins, me_ok, Int.reduceLT, Int.reduceLE, Int.reduceEq, Int.reduceNeg, Int.reduceAdd, Int.reduceSub, Int.reduceMul, gt_iff_lt, ge_iff_le, and_true, true_and, and_self, and_false, false_and, implies_true, true_implies, Prod.mk.injEq, ne_eq, bne]
    refine wp_fo (zs := (som.zip (som.drop 1 ++ som.take 1)).map fun p => .tup [zfr p.1, zfr p.2]) (hs := [.lst (som.map zfr), .lst ((som.drop 1 ++ som.take 1).map zfr)]) (st1 := s5) (fun i e s' => ∃ e5 e6 e7 e8 e9 e10 e11 e12 e13 e14, e = [some (.scr ns), some (.int j), some (.cel n), some (.lst (ws.map zfr)), some (.lst (som.map zfr)), e5, e6, e7, e8, e9, e10, e11, e12, e13, e14]) ?_ ⟨_, _, _, _, _, _, _, _, _, _, rfl⟩ ?_ ?_
    · simp -dsimp only [ev.eq_1, ev.eq_2, ev.eq_3, ev.eq_4, ev.eq_5, ev.eq_6, ev.eq_7, ev.eq_8, ev.eq_9, ev.eq_10, ev.eq_11, ev.eq_12, ev.eq_13, ev.eq_14, ev.eq_15, ev.eq_16, ev.eq_19, ev.eq_20, ev.eq_21, ev.eq_22, ev.eq_23, ev.eq_24, ev.eq_25, ev.eq_26, ev.eq_28, ev.eq_29, ev.eq_30, ev.eq_31, ev.eq_32, evs.eq_1, evs.eq_2, evo.eq_1, evo.eq_2, evc.eq_1, evc.eq_2, rbind_ok, ↓Wp_ok, ↓Wp_bind, Wp_no, Wp_exn, calm_Wp, ↓Wp_ifno, ↓Wp_ite, Br_true, Br_false, Br_not, ofO_Wp, An_true, w_add, w_sub, w_mul, w_mod, w_fdiv, w_pow, w_strs, w_tups, w_lsts, c_lt, c_le, c_gt, c_ge, c_eqi, c_nei, c_eqs, c_nes, c_eqb, c_neb, c_isn, c_notn, nq_non, nq_int, nq_bl, nq_str, nq_lst, nq_tup, nq_ins, t_non, t_bl, t_int, t_lst, t_tup, ix_tup, ix_lst, ix_scr, atI_0, ↓Cn_nx, ↓Cn_bk, ↓Cn_ct, ↓Cn_rt, ↓w_nil, ↓w_cons, w_asg, w_ex, w_ret, w_retN, w_ife, w_ix, Rt_f, Rt_fn, Rt_t, Tn_nx, Tn_ct, Tn_bk, Tn_rt, bindT.eq_1, bindT.eq_2, bindT.eq_3, bindTs.eq_1, bindTs.eq_2, sa0, sa1, sa2, sa11, sa21, sa22, ss0, ss1, ss11, st0, st1, st2, w_append, atI_9, atI_10, atI_11, atI_12, atI_13, cut_9, cut_4, cut_5, List.drop_succ_cons, List.drop_zero, pw4, lg2, zfzL_strs, refsL_strs, ix_str, zsm, seqv, asKt, la1, stn, w_asgF, Ac_ins, putFs_nil, putFs_cons, putG, Nat.reduceLT,  zbools_map, zints_map, zints_int, zstrs_map, all_id, any_id, zsl, cut_1, cut_2, cut_3, cut_t1, cut_t2, cut_t3, cut_from, cut_to, cut_map, atI_map, atI_1, atI_2, atI_3, atI_4, atI_5, atI_6, atI_7, atI_8, nc0, nc1, nc2, nc3, nc4, nc5, nc6, drop_map', take_map', atI_neg1, c_eql, c_nel, Br_F, isL_lst, isL_str, isS_str, ds0, ds1, ds2, ds11, ds21, ds22, di0, w_augU, Ai_int, w_fzv, Av_z, refsL_ints, Wp_none, w_put, Ap_lst, mayW_int, mayW_str, mayW_bl, mayW_self, w_fzc, zfzL_ints, wipeE, List.getElem?_cons_zero, List.getElem?_cons_succ, List.set_cons_zero, List.set_cons_succ, Option.map_some, Option.bind_some, Option.map_none, startE, List.map_cons, List.map_nil, List.length_cons, List.length_nil, List.nil_append, List.cons_append, List.append_nil, List.reduceReplicate, Nat.reduceAdd, Nat.reduceSub, dr_int, dr_bl, dr_non, dr_str, dr_lst, dr_tup, dr_dic, dr_ins, dr_scr, zbf, zbf1, zbf2, zlen, zabs, zint, zlst, asKf, mkLf, mkLt, Bool.not_true, Bool.not_false, Bool.not_not, Bool.and_true, Bool.true_and, Bool.and_false, Bool.false_and, decide_eq_true_eq, decide_eq_false_iff_not, decide_true, decide_false, Bool.not_eq_true', eq_self_iff_true, not_false_eq_true, not_true_eq_false, Bool.false_eq_true, reduceCtorEq, if_true, if_false, ite_true, ite_false, Z.refs, refsL, List.all_nil, List.all_cons, List.take_length, isi_Wp, tyOf, isTy, List.any_cons, List.any_nil, Bool.or_false, Bool.false_or, Bool.or_true, Bool.true_or, String.reduceEq, String.reduceBEq, beq_self_eq_true, zfd_ins, getF, insM_ins, me_ok, Int.reduceLT, Int.reduceLE, Int.reduceEq, Int.reduceNeg, Int.reduceAdd, Int.reduceSub, Int.reduceMul, gt_iff_lt, ge_iff_le, and_true, true_and, and_self, and_false, false_and, implies_true, true_implies, Prod.mk.injEq, ne_eq, bne, evI]
      refine ⟨by rw [List.length_map, List.length_map, List.length_drop, List.length_take]; unfold sizeL; omega, ?_⟩
      rw [← List.map_append]
      simp -dsimp only [ev.eq_1, ev.eq_2, ev.eq_3, ev.eq_4, ev.eq_5, ev.eq_6, ev.eq_7, ev.eq_8, ev.eq_9, ev.eq_10, ev.eq_11, ev.eq_12, ev.eq_13, ev.eq_14, ev.eq_15, ev.eq_16, ev.eq_19, ev.eq_20, ev.eq_21, ev.eq_22, ev.eq_23, ev.eq_24, ev.eq_25, ev.eq_26, ev.eq_28, ev.eq_29, ev.eq_30, ev.eq_31, ev.eq_32, evs.eq_1, evs.eq_2, evo.eq_1, evo.eq_2, evc.eq_1, evc.eq_2, rbind_ok, ↓Wp_ok, ↓Wp_bind, Wp_no, Wp_exn, calm_Wp, ↓Wp_ifno, ↓Wp_ite, Br_true, Br_false, Br_not, ofO_Wp, An_true, w_add, w_sub, w_mul, w_mod, w_fdiv, w_pow, w_strs, w_tups, w_lsts, c_lt, c_le, c_gt, c_ge, c_eqi, c_nei, c_eqs, c_nes, c_eqb, c_neb, c_isn, c_notn, nq_non, nq_int, nq_bl, nq_str, nq_lst, nq_tup, nq_ins, t_non, t_bl, t_int, t_lst, t_tup, ix_tup, ix_lst, ix_scr, atI_0, ↓Cn_nx, ↓Cn_bk, ↓Cn_ct, ↓Cn_rt, ↓w_nil, ↓w_cons, w_asg, w_ex, w_ret, w_retN, w_ife, w_ix, Rt_f, Rt_fn, Rt_t, Tn_nx, Tn_ct, Tn_bk, Tn_rt, bindT.eq_1, bindT.eq_2, bindT.eq_3, bindTs.eq_1, bindTs.eq_2, sa0, sa1, sa2, sa11, sa21, sa22, ss0, ss1, ss11, st0, st1, st2, w_append, atI_9, atI_10, atI_11, atI_12, atI_13, cut_9, cut_4, cut_5, List.drop_succ_cons, List.drop_zero, pw4, lg2, zfzL_strs, refsL_strs, ix_str, zsm, seqv, asKt, la1, stn, w_asgF, Ac_ins, putFs_nil, putFs_cons, putG, Nat.reduceLT,  zbools_map, zints_map, zints_int, zstrs_map, all_id, any_id, zsl, cut_1, cut_2, cut_3, cut_t1, cut_t2, cut_t3, cut_from, cut_to, cut_map, atI_map, atI_1, atI_2, atI_3, atI_4, atI_5, atI_6, atI_7, atI_8, nc0, nc1, nc2, nc3, nc4, nc5, nc6, drop_map', take_map', atI_neg1, c_eql, c_nel, Br_F, isL_lst, isL_str, isS_str, ds0, ds1, ds2, ds11, ds21, ds22, di0, w_augU, Ai_int, w_fzv, Av_z, refsL_ints, Wp_none, w_put, Ap_lst, mayW_int, mayW_str, mayW_bl, mayW_self, w_fzc, zfzL_ints, wipeE, List.getElem?_cons_zero, List.getElem?_cons_succ, List.set_cons_zero, List.set_cons_succ, Option.map_some, Option.bind_some, Option.map_none, startE, List.map_cons, List.map_nil, List.length_cons, List.length_nil, List.nil_append, List.cons_append, List.append_nil, List.reduceReplicate, Nat.reduceAdd, Nat.reduceSub, dr_int, dr_bl, dr_non, dr_str, dr_lst, dr_tup, dr_dic, dr_ins, dr_scr, zbf, zbf1, zbf2, zlen, zabs, zint, zlst, asKf, mkLf, mkLt, Bool.not_true, Bool.not_false, Bool.not_not, Bool.and_true, Bool.true_and, Bool.and_false, Bool.false_and, decide_eq_true_eq, decide_eq_false_iff_not, decide_true, decide_false, Bool.not_eq_true', eq_self_iff_true, not_false_eq_true, not_true_eq_false, Bool.false_eq_true, reduceCtorEq, if_true, if_false, ite_true, ite_false, Z.refs, refsL, List.all_nil, List.all_cons, List.take_length, isi_Wp, tyOf, isTy, List.any_cons, List.any_nil, Bool.or_false, Bool.false_or, Bool.or_true, Bool.true_or, String.reduceEq, String.reduceBEq, beq_self_eq_true, zfd_ins, getF, insM_ins, me_ok, Int.reduceLT, Int.reduceLE, Int.reduceEq, Int.reduceNeg, Int.reduceAdd, Int.reduceSub, Int.reduceMul, gt_iff_lt, ge_iff_le, and_true, true_and, and_self, and_false, false_and, implies_true, true_implies, Prod.mk.injEq, ne_eq, bne, seqv, zipZ_map]
    · rintro i hi e s6 ⟨e5, e6, e7, e8, e9, e10, e11, e12, e13, e14, rfl⟩
      have hi' : i < (som.zip (som.drop 1 ++ som.take 1)).length := by simpa using hi
      rw [List.getElem_map]
      have hm := List.getElem_mem hi'
      generalize (som.zip (som.drop 1 ++ som.take 1))[i] = p at hm
      obtain ⟨x, y⟩ := p
      have fx : Fr x := sf x (List.of_mem_zip hm).1
      have fy : Fr y := by
        rcases List.mem_append.mp (List.of_mem_zip hm).2 with h | h
        · exact sf y (List.mem_of_mem_drop h)
        · exact sf y (List.mem_of_mem_take h)
      refine ⟨stays_two rfl rfl, _, rfl, ?_⟩
      have b1 := bd_mulOk fx.1 fy.2.2 (by omega)
      have b2 := bd_mulOk fy.1 fx.2.2 (by omega)
      have b3 := bd_mulOk fx.2.2 fy.2.2 (by omega)
      have e1 : ∀ (b : Nat) (st : Sto), run tab gv N 8 "_law_lowest" [.int (x.1 * y.2 - y.1 * x.2), .int (x.2 * y.2)] [] b st = .ok (zfr (lessF x y)) st := fun b st => lowest_eq T (Int.mul_pos fx.2.1 fy.2.1) (bd_mul fx.2.2 fy.2.2) (by omega)
      have e2 : ∀ (b : Nat) (st : Sto), run tab gv N 8 "less_of" [zfr x, zfr y] [] b st = .ok (zfr (lessF x y)) st := fun b st => less_of_eq T.F fx fy rfl
      have e3 : ∀ (b : Nat) (st : Sto), run tab gv N 8 "less_of" [zfr y, zfr x] ["other", "one"] b st = .ok (zfr (lessF x y)) st := fun b st => less_of_eq T.F fx fy rfl
      have e4 : ∀ (b : Nat) (st : Sto), run tab gv N 8 "is_below" [zfr x, zfr y] [] b st = .ok (.bl (decide (x.1 * y.2 < y.1 * x.2))) st := fun b st => is_below_eq T.F fx fy rfl
      have e5 : ∀ (b : Nat) (st : Sto), run tab gv N 8 "is_below" [zfr x, zfr x] ["other", "one"] b st = .ok (.bl (decide (x.1 * x.2 < x.1 * x.2))) st := fun b st => is_below_eq T.F fx fx rfl
      generalize hz : lessF x y = z at *
      simp only [zfr] at e2 e3 e4 e5
      simp only [zfr]
      simp -dsimp only [ev.eq_1, ev.eq_2, ev.eq_3, ev.eq_4, ev.eq_5, ev.eq_6, ev.eq_7, ev.eq_8, ev.eq_9, ev.eq_10, ev.eq_11, ev.eq_12, ev.eq_13, ev.eq_14, ev.eq_15, ev.eq_16, ev.eq_19, ev.eq_20, ev.eq_21, ev.eq_22, ev.eq_23, ev.eq_24, ev.eq_25, ev.eq_26, ev.eq_28, ev.eq_29, ev.eq_30, ev.eq_31, ev.eq_32, evs.eq_1, evs.eq_2, evo.eq_1, evo.eq_2, evc.eq_1, evc.eq_2, rbind_ok, ↓Wp_ok, ↓Wp_bind, Wp_no, Wp_exn, calm_Wp, ↓Wp_ifno, ↓Wp_ite, Br_true, Br_false, Br_not, ofO_Wp, An_true, w_add, w_sub, w_mul, w_mod, w_fdiv, w_pow, w_strs, w_tups, w_lsts, c_lt, c_le, c_gt, c_ge, c_eqi, c_nei, c_eqs, c_nes, c_eqb, c_neb, c_isn, c_notn, nq_non, nq_int, nq_bl, nq_str, nq_lst, nq_tup, nq_ins, t_non, t_bl, t_int, t_lst, t_tup, ix_tup, ix_lst, ix_scr, atI_0, ↓Cn_nx, ↓Cn_bk, ↓Cn_ct, ↓Cn_rt, ↓w_nil, ↓w_cons, w_asg, w_ex, w_ret, w_retN, w_ife, w_ix, Rt_f, Rt_fn, Rt_t, Tn_nx, Tn_ct, Tn_bk, Tn_rt, bindT.eq_1, bindT.eq_2, bindT.eq_3, bindTs.eq_1, bindTs.eq_2, sa0, sa1, sa2, sa11, sa21, sa22, ss0, ss1, ss11, st0, st1, st2, w_append, atI_9, atI_10, atI_11, atI_12, atI_13, cut_9, cut_4, cut_5, List.drop_succ_cons, List.drop_zero, pw4, lg2, zfzL_strs, refsL_strs, ix_str, zsm, seqv, asKt, la1, stn, w_asgF, Ac_ins, putFs_nil, putFs_cons, putG, Nat.reduceLT,  zbools_map, zints_map, zints_int, zstrs_map, all_id, any_id, zsl, cut_1, cut_2, cut_3, cut_t1, cut_t2, cut_t3, cut_from, cut_to, cut_map, atI_map, atI_1, atI_2, atI_3, atI_4, atI_5, atI_6, atI_7, atI_8, nc0, nc1, nc2, nc3, nc4, nc5, nc6, drop_map', take_map', atI_neg1, c_eql, c_nel, Br_F, isL_lst, isL_str, isS_str, ds0, ds1, ds2, ds11, ds21, ds22, di0, w_augU, Ai_int, w_fzv, Av_z, refsL_ints, Wp_none, w_put, Ap_lst, mayW_int, mayW_str, mayW_bl, mayW_self, w_fzc, zfzL_ints, wipeE, List.getElem?_cons_zero, List.getElem?_cons_succ, List.set_cons_zero, List.set_cons_succ, Option.map_some, Option.bind_some, Option.map_none, startE, List.map_cons, List.map_nil, List.length_cons, List.length_nil, List.nil_append, List.cons_append, List.append_nil, List.reduceReplicate, Nat.reduceAdd, Nat.reduceSub, dr_int, dr_bl, dr_non, dr_str, dr_lst, dr_tup, dr_dic, dr_ins, dr_scr, zbf, zbf1, zbf2, zlen, zabs, zint, zlst, asKf, mkLf, mkLt, Bool.not_true, Bool.not_false, Bool.not_not, Bool.and_true, Bool.true_and, Bool.and_false, Bool.false_and, decide_eq_true_eq, decide_eq_false_iff_not, decide_true, decide_false, Bool.not_eq_true', eq_self_iff_true, not_false_eq_true, not_true_eq_false, Bool.false_eq_true, reduceCtorEq, if_true, if_false, ite_true, ite_false, Z.refs, refsL, List.all_nil, List.all_cons, List.take_length, isi_Wp, tyOf, isTy, List.any_cons, List.any_nil, Bool.or_false, Bool.false_or, Bool.or_true, Bool.true_or, String.reduceEq, String.reduceBEq, beq_self_eq_true, zfd_ins, getF, insM_ins, me_ok, Int.reduceLT, Int.reduceLE, Int.reduceEq, Int.reduceNeg, Int.reduceAdd, Int.reduceSub, Int.reduceMul, gt_iff_lt, ge_iff_le, and_true, true_and, and_self, and_false, false_and, implies_true, true_implies, Prod.mk.injEq, ne_eq, bne, b1, b2, b3, e1, e2, e3, e4, e5]
      refine ⟨by unfold sizeL; omega, ?_⟩
      have sc : ∀ (c : Bool) (b : Nat), run tab gv N 8 "_law_same" [.cel s6.length, .lst [.tup [.int z.1, .int z.2], .tup [.int z.1, .int z.2], .bl c, .bl false]] [] b (s6 ++ [.lst [.tup [.int z.1, .int z.2], .tup [.int z.1, .int z.2], .bl c, .bl false]]) = .ok (.bl true) (s6 ++ [.lst [.tup [.int z.1, .int z.2], .tup [.int z.1, .int z.2], .bl c, .bl false]]) := fun c b => same_cel T.same rfl (by simp) rfl (by simp [Z.dep, depL])
      simp -dsimp only [ev.eq_1, ev.eq_2, ev.eq_3, ev.eq_4, ev.eq_5, ev.eq_6, ev.eq_7, ev.eq_8, ev.eq_9, ev.eq_10, ev.eq_11, ev.eq_12, ev.eq_13, ev.eq_14, ev.eq_15, ev.eq_16, ev.eq_19, ev.eq_20, ev.eq_21, ev.eq_22, ev.eq_23, ev.eq_24, ev.eq_25, ev.eq_26, ev.eq_28, ev.eq_29, ev.eq_30, ev.eq_31, ev.eq_32, evs.eq_1, evs.eq_2, evo.eq_1, evo.eq_2, evc.eq_1, evc.eq_2, rbind_ok, ↓Wp_ok, ↓Wp_bind, Wp_no, Wp_exn, calm_Wp, ↓Wp_ifno, ↓Wp_ite, Br_true, Br_false, Br_not, ofO_Wp, An_true, w_add, w_sub, w_mul, w_mod, w_fdiv, w_pow, w_strs, w_tups, w_lsts, c_lt, c_le, c_gt, c_ge, c_eqi, c_nei, c_eqs, c_nes, c_eqb, c_neb, c_isn, c_notn, nq_non, nq_int, nq_bl, nq_str, nq_lst, nq_tup, nq_ins, t_non, t_bl, t_int, t_lst, t_tup, ix_tup, ix_lst, ix_scr, atI_0, ↓Cn_nx, ↓Cn_bk, ↓Cn_ct, ↓Cn_rt, ↓w_nil, ↓w_cons, w_asg, w_ex, w_ret, w_retN, w_ife, w_ix, Rt_f, Rt_fn, Rt_t, Tn_nx, Tn_ct, Tn_bk, Tn_rt, bindT.eq_1, bindT.eq_2, bindT.eq_3, bindTs.eq_1, bindTs.eq_2, sa0, sa1, sa2, sa11, sa21, sa22, ss0, ss1, ss11, st0, st1, st2, w_append, atI_9, atI_10, atI_11, atI_12, atI_13, cut_9, cut_4, cut_5, List.drop_succ_cons, List.drop_zero, pw4, lg2, zfzL_strs, refsL_strs, ix_str, zsm, seqv, asKt, la1, stn, w_asgF, Ac_ins, putFs_nil, putFs_cons, putG, Nat.reduceLT,  zbools_map, zints_map, zints_int, zstrs_map, all_id, any_id, zsl, cut_1, cut_2, cut_3, cut_t1, cut_t2, cut_t3, cut_from, cut_to, cut_map, atI_map, atI_1, atI_2, atI_3, atI_4, atI_5, atI_6, atI_7, atI_8, nc0, nc1, nc2, nc3, nc4, nc5, nc6, drop_map', take_map', atI_neg1, c_eql, c_nel, Br_F, isL_lst, isL_str, isS_str, ds0, ds1, ds2, ds11, ds21, ds22, di0, w_augU, Ai_int, w_fzv, Av_z, refsL_ints, Wp_none, w_put, Ap_lst, mayW_int, mayW_str, mayW_bl, mayW_self, w_fzc, zfzL_ints, wipeE, List.getElem?_cons_zero, List.getElem?_cons_succ, List.set_cons_zero, List.set_cons_succ, Option.map_some, Option.bind_some, Option.map_none, startE, List.map_cons, List.map_nil, List.length_cons, List.length_nil, List.nil_append, List.cons_append, List.append_nil, List.reduceReplicate, Nat.reduceAdd, Nat.reduceSub, dr_int, dr_bl, dr_non, dr_str, dr_lst, dr_tup, dr_dic, dr_ins, dr_scr, zbf, zbf1, zbf2, zlen, zabs, zint, zlst, asKf, mkLf, mkLt, Bool.not_true, Bool.not_false, Bool.not_not, Bool.and_true, Bool.true_and, Bool.and_false, Bool.false_and, decide_eq_true_eq, decide_eq_false_iff_not, decide_true, decide_false, Bool.not_eq_true', eq_self_iff_true, not_false_eq_true, not_true_eq_false, Bool.false_eq_true, reduceCtorEq, if_true, if_false, ite_true, ite_false, Z.refs, refsL, List.all_nil, List.all_cons, List.take_length, isi_Wp, tyOf, isTy, List.any_cons, List.any_nil, Bool.or_false, Bool.false_or, Bool.or_true, Bool.true_or, String.reduceEq, String.reduceBEq, beq_self_eq_true, zfd_ins, getF, insM_ins, me_ok, Int.reduceLT, Int.reduceLE, Int.reduceEq, Int.reduceNeg, Int.reduceAdd, Int.reduceSub, Int.reduceMul, gt_iff_lt, ge_iff_le, and_true, true_and, and_self, and_false, false_and, implies_true, true_implies, Prod.mk.injEq, ne_eq, bne, Int.lt_irrefl, b1, b2, zfr, sc]
      exact ⟨_, _, _, _, _, _, _, _, _, _, rfl⟩
    · rintro e s6 ⟨e5, e6, e7, e8, e9, e10, e11, e12, e13, e14, rfl⟩
      refine ⟨stays_two rfl rfl, ?_⟩
      simp -dsimp only [ev.eq_1, ev.eq_2, ev.eq_3, ev.eq_4, ev.eq_5, ev.eq_6, ev.eq_7, ev.eq_8, ev.eq_9, ev.eq_10, ev.eq_11, ev.eq_12, ev.eq_13, ev.eq_14, ev.eq_15, ev.eq_16, ev.eq_19, ev.eq_20, ev.eq_21, ev.eq_22, ev.eq_23, ev.eq_24, ev.eq_25, ev.eq_26, ev.eq_28, ev.eq_29, ev.eq_30, ev.eq_31, ev.eq_32, evs.eq_1, evs.eq_2, evo.eq_1, evo.eq_2, evc.eq_1, evc.eq_2, rbind_ok, ↓Wp_ok, ↓Wp_bind, Wp_no, Wp_exn, calm_Wp, ↓Wp_ifno, ↓Wp_ite, Br_true, Br_false, Br_not, ofO_Wp, An_true, w_add, w_sub, w_mul, w_mod, w_fdiv, w_pow, w_strs, w_tups, w_lsts, c_lt, c_le, c_gt, c_ge, c_eqi, c_nei, c_eqs, c_nes, c_eqb, c_neb, c_isn, c_notn, nq_non, nq_int, nq_bl, nq_str, nq_lst, nq_tup, nq_ins, t_non, t_bl, t_int, t_lst, t_tup, ix_tup, ix_lst, ix_scr, atI_0, ↓Cn_nx, ↓Cn_bk, ↓Cn_ct, ↓Cn_rt, ↓w_nil, ↓w_cons, w_asg, w_ex, w_ret, w_retN, w_ife, w_ix, Rt_f, Rt_fn, Rt_t, Tn_nx, Tn_ct, Tn_bk, Tn_rt, bindT.eq_1, bindT.eq_2, bindT.eq_3, bindTs.eq_1, bindTs.eq_2, sa0, sa1, sa2, sa11, sa21, sa22, ss0, ss1, ss11, st0, st1, st2, w_append, atI_9, atI_10, atI_11, atI_12, atI_13, cut_9, cut_4, cut_5, List.drop_succ_cons, List.drop_zero, pw4, lg2, zfzL_strs, refsL_strs, ix_str, zsm, seqv, asKt, la1, stn, w_asgF, Ac_ins, putFs_nil, putFs_cons, putG, Nat.reduceLT,  zbools_map, zints_map, zints_int, zstrs_map, all_id, any_id, zsl, cut_1, cut_2, cut_3, cut_t1, cut_t2, cut_t3, cut_from, cut_to, cut_map, atI_map, atI_1, atI_2, atI_3, atI_4, atI_5, atI_6, atI_7, atI_8, nc0, nc1, nc2, nc3, nc4, nc5, nc6, drop_map', take_map', atI_neg1, c_eql, c_nel, Br_F, isL_lst, isL_str, isS_str, ds0, ds1, ds2, ds11, ds21, ds22, di0, w_augU, Ai_int, w_fzv, Av_z, refsL_ints, Wp_none, w_put, Ap_lst, mayW_int, mayW_str, mayW_bl, mayW_self, w_fzc, zfzL_ints, wipeE, List.getElem?_cons_zero, List.getElem?_cons_succ, List.set_cons_zero, List.set_cons_succ, Option.map_some, Option.bind_some, Option.map_none, startE, List.map_cons, List.map_nil, List.length_cons, List.length_nil, List.nil_append, List.cons_append, List.append_nil, List.reduceReplicate, Nat.reduceAdd, Nat.reduceSub, dr_int, dr_bl, dr_non, dr_str, dr_lst, dr_tup, dr_dic, dr_ins, dr_scr, zbf, zbf1, zbf2, zlen, zabs, zint, zlst, asKf, mkLf, mkLt, Bool.not_true, Bool.not_false, Bool.not_not, Bool.and_true, Bool.true_and, Bool.and_false, Bool.false_and, decide_eq_true_eq, decide_eq_false_iff_not, decide_true, decide_false, Bool.not_eq_true', eq_self_iff_true, not_false_eq_true, not_true_eq_false, Bool.false_eq_true, reduceCtorEq, if_true, if_false, ite_true, ite_false, Z.refs, refsL, List.all_nil, List.all_cons, List.take_length, isi_Wp, tyOf, isTy, List.any_cons, List.any_nil, Bool.or_false, Bool.false_or, Bool.or_true, Bool.true_or, String.reduceEq, String.reduceBEq, beq_self_eq_true, zfd_ins, getF, insM_ins, me_ok, Int.reduceLT, Int.reduceLE, Int.reduceEq, Int.reduceNeg, Int.reduceAdd, Int.reduceSub, Int.reduceMul, gt_iff_lt, ge_iff_le, and_true, true_and, and_self, and_false, false_and, implies_true, true_implies, Prod.mk.injEq, ne_eq, bne]
      exact ⟨_, _, _, _, _, _, _, _, _, _, _, _, _, _, rfl⟩
  · rintro e s ⟨e1, e2, e3, e4, e5, e6, e7, e8, e9, e10, e11, e12, e13, e14, rfl⟩
    refine ⟨stays_nil, ?_⟩
    simp -dsimp only [ev.eq_1, ev.eq_2, ev.eq_3, ev.eq_4, ev.eq_5, ev.eq_6, ev.eq_7, ev.eq_8, ev.eq_9, ev.eq_10, ev.eq_11, ev.eq_12, ev.eq_13, ev.eq_14, ev.eq_15, ev.eq_16, ev.eq_19, ev.eq_20, ev.eq_21, ev.eq_22, ev.eq_23, ev.eq_24, ev.eq_25, ev.eq_26, ev.eq_28, ev.eq_29, ev.eq_30, ev.eq_31, ev.eq_32, evs.eq_1, evs.eq_2, evo.eq_1, evo.eq_2, evc.eq_1, evc.eq_2, rbind_ok, ↓Wp_ok, ↓Wp_bind, Wp_no, Wp_exn, calm_Wp, ↓Wp_ifno, ↓Wp_ite, Br_true, Br_false, Br_not, ofO_Wp, An_true, w_add, w_sub, w_mul, w_mod, w_fdiv, w_pow, w_strs, w_tups, w_lsts, c_lt, c_le, c_gt, c_ge, c_eqi, c_nei, c_eqs, c_nes, c_eqb, c_neb, c_isn, c_notn, nq_non, nq_int, nq_bl, nq_str, nq_lst, nq_tup, nq_ins, t_non, t_bl, t_int, t_lst, t_tup, ix_tup, ix_lst, ix_scr, atI_0, ↓Cn_nx, ↓Cn_bk, ↓Cn_ct, ↓Cn_rt, ↓w_nil, ↓w_cons, w_asg, w_ex, w_ret, w_retN, w_ife, w_ix, Rt_f, Rt_fn, Rt_t, Tn_nx, Tn_ct, Tn_bk, Tn_rt, bindT.eq_1, bindT.eq_2, bindT.eq_3, bindTs.eq_1, bindTs.eq_2, sa0, sa1, sa2, sa11, sa21, sa22, ss0, ss1, ss11, st0, st1, st2, w_append, atI_9, atI_10, atI_11, atI_12, atI_13, cut_9, cut_4, cut_5, List.drop_succ_cons, List.drop_zero, pw4, lg2, zfzL_strs, refsL_strs, ix_str, zsm, seqv, asKt, la1, stn, w_asgF, Ac_ins, putFs_nil, putFs_cons, putG, Nat.reduceLT,  zbools_map, zints_map, zints_int, zstrs_map, all_id, any_id, zsl, cut_1, cut_2, cut_3, cut_t1, cut_t2, cut_t3, cut_from, cut_to, cut_map, atI_map, atI_1, atI_2, atI_3, atI_4, atI_5, atI_6, atI_7, atI_8, nc0, nc1, nc2, nc3, nc4, nc5, nc6, drop_map', take_map', atI_neg1, c_eql, c_nel, Br_F, isL_lst, isL_str, isS_str, ds0, ds1, ds2, ds11, ds21, ds22, di0, w_augU, Ai_int, w_fzv, Av_z, refsL_ints, Wp_none, w_put, Ap_lst, mayW_int, mayW_str, mayW_bl, mayW_self, w_fzc, zfzL_ints, wipeE, List.getElem?_cons_zero, List.getElem?_cons_succ, List.set_cons_zero, List.set_cons_succ, Option.map_some, Option.bind_some, Option.map_none, startE, List.map_cons, List.map_nil, List.length_cons, List.length_nil, List.nil_append, List.cons_append, List.append_nil, List.reduceReplicate, Nat.reduceAdd, Nat.reduceSub, dr_int, dr_bl, dr_non, dr_str, dr_lst, dr_tup, dr_dic, dr_ins, dr_scr, zbf, zbf1, zbf2, zlen, zabs, zint, zlst, asKf, mkLf, mkLt, Bool.not_true, Bool.not_false, Bool.not_not, Bool.and_true, Bool.true_and, Bool.and_false, Bool.false_and, decide_eq_true_eq, decide_eq_false_iff_not, decide_true, decide_false, Bool.not_eq_true', eq_self_iff_true, not_false_eq_true, not_true_eq_false, Bool.false_eq_true, reduceCtorEq, if_true, if_false, ite_true, ite_false, Z.refs, refsL, List.all_nil, List.all_cons, List.take_length, isi_Wp, tyOf, isTy, List.any_cons, List.any_nil, Bool.or_false, Bool.false_or, Bool.or_true, Bool.true_or, String.reduceEq, String.reduceBEq, beq_self_eq_true, zfd_ins, getF, insM_ins, me_ok, Int.reduceLT, Int.reduceLE, Int.reduceEq, Int.reduceNeg, Int.reduceAdd, Int.reduceSub, Int.reduceMul, gt_iff_lt, ge_iff_le, and_true, true_and, and_self, and_false, false_and, implies_true, true_implies, Prod.mk.injEq, ne_eq, bne]
theorem manyN_ex : ∃ n : Nat, 2 ^ 8999 ≤ n := ⟨_, Nat.le_refl _⟩
/-- how often a loop may turn -/
noncomputable def manyN : Nat := Classical.choose manyN_ex
theorem manyN_le : 2 ^ 8999 ≤ manyN := Classical.choose_spec manyN_ex
theorem tab01 : Tab01 (tabOf TT) (gvOf fa ct) manyN := ⟨⟨⟨_, _, rfl⟩, rfl, rfl, rfl, rfl, by kernel_rfl, manyN_le⟩, rfl, rfl, rfl, rfl, rfl, rfl, rfl⟩
end ZZ

end
section
set_option maxHeartbeats 0
open PySem PySem.W PySem.Calls PyProof.Rows
theorem PySem.Challenge.cw_steamhours_k01_fractions_holds : PySem.Challenge.rw_steamhours_k01_fractions.Holds := by
  w_on; o_law
  refine HandSHeadRun.head_any (r := OpenLaw.row PySem.Challenge.rw_steamhours_k01_fractions) (q := view (OpenLaw.row PySem.Challenge.rw_steamhours_k01_fractions).prog [15]) (H := ZZ.hk) (ob := ZZ.ob) (M := 4000) (loose := ZZ.loose.map PySem.Str.ofString) (d := HandSHeadRun.topDef (OpenLaw.row PySem.Challenge.rw_steamhours_k01_fractions).prog 15) (kwd := []) ZZ.ob_eq
    (by kernel_rfl) (fun s => by kernel_rfl) ZZ.hrun (by kernel_rfl) (by kernel_rfl) (by kernel_rfl) (by rfl) (by first | assumption | decide +kernel) (by decide +kernel) ⟨rfl, rfl, rfl, rfl, rfl, by decide +kernel⟩ ?hw ?hc
  case hw => w_witness2
  case hc =>
    exact ZZ.zlaw (l := PySem.Challenge.rw_steamhours_k01_fractions) (n := 63) (k := 9) (N := ZZ.manyN) (x := "_law_script") (fa := ZZ.fa) (fn := ZZ.fn) (T := ZZ.TT) (ct := ZZ.ct) (dl := ZZ.d_law_T) (i := 12) (m := 5)
      rfl (by decide) (by kernel_rfl) ⟨rfl, by decide, by decide⟩ (by kernel_rfl) (by kernel_rfl) ZZ.chk_all rfl rfl rfl (by rfl) rfl rfl rfl
      (fun _ _ _ _ _ _ _ => rfl) (fun ns _ _ => ZZ.law_w ZZ.tab01 ns)

end
