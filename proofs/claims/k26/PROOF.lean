import PyProof.Rows.All
import HandS.ForMost
import HandS.ForExc
import HandS.Wide
import HandS.Walk
import HandS.Deep
import HandS.Style
import HandS.TupLe
import HandS.TupAny
import HandS.NoneIn
import HandS.Conv
import HandS.IsInst
import HandS.RaiseMore
import HandS.TupSets
import HandS.SetFor
import HandS.Strs
import HandS.Sort
import KE.KRevSl
import HandS.Dict
import HandS.Head0
import HandS.Head1
import HandS.Head2
import HandS.HeadEnd
import HandS.HeadHook1
import HandS.HeadHook2
import HandS.Defaults
import HandS.EndBits
import PySem.Challenge.RW_bakeahead_k26_forty_days
set_option Elab.async false
set_option linter.all false
set_option maxRecDepth 100000
set_option autoImplicit false
set_option maxHeartbeats 0
/-! Bk: a small language of plain data, its meaning as plain Lean functions. -/
namespace Bk
open PySem
abbrev D := PyData
abbrev En := List (Option D)

inductive Res (α : Type) where
  | ok (a : α)
  | exc (c : Nat) (vs : List D)
  | bad
def Res.bind {α β : Type} (x : Res α) (f : α → Res β) : Res β := match x with
  | .ok a => f a
  | .exc c vs => .exc c vs
  | .bad => .bad
@[simp] theorem Res.bind_ok {α β : Type} (a : α) (f : α → Res β) : Res.bind (.ok a) f = f a := rfl
@[simp] theorem Res.bind_exc {α β : Type} (c : Nat) (vs : List D) (f : α → Res β) : Res.bind (.exc c vs) f = .exc c vs := rfl
@[simp] theorem Res.bind_bad {α β : Type} (f : α → Res β) : Res.bind .bad f = .bad := rfl

inductive BO where
  | add | sub | mul | fdiv | mod | pow | shl | shr | band | bxor
inductive CO where
  | eq | ne | lt | le | gt | ge | is | isn | isin | nin
inductive Ty where
  | int | bool | list | tuple | str | dict
inductive Bi where
  | len | sum | sumi | max | min | maxL | minL | all | any | sorted | sortedR | setl | lrng | inr | list | tuple | int | str | repr | abs
inductive Me where
  | get1 | get2 | index | count | split | join | isdigit
inductive Tg where
  | n (i : Nat) | t (ts : Tg) | nil | cons (a b : Tg)
inductive E where
  | v (i : Nat)
  | k (d : D)
  | op (o : BO) (a b : E)
  | neg (a : E)
  | cmp (o : CO) (a b : E)
  | chn (o p : CO) (a b c : E)
  | and (a b : E)
  | or (a b : E)
  | not (a : E)
  | ife (t a b : E)
  | ix (a i : E)
  | sl (a l h : E)
  | rev (a : E)
  | rvt (a : E)
  | tup (es : E)
  | lst (es : E)
  | dct (ks vs : E)
  | call (f : Nat) (es : E)
  | cb (f : Nat) (es : E)
  | bi (b : Bi) (es : E)
  | isi (a : E) (t : Ty)
  | me (m : Me) (o es : E)
  | lc (tg : Tg) (it c e : E)
  | rng (es : E)
  | enm (a : E)
  | zip (a b : E)
  | vals (a : E)
  | nil
  | cons (a b : E)

/-- what of a slot's value is its own -/
inductive Sh where
  | f | l (s : Sh)
/-- the shape of what an expression reads -/
def shp (ms : List Sh) : E → Sh
  | .v i => ms.getD i .f
  | .ix a _ => match shp ms a with
    | .l s => s
    | .f => .f
  | _ => .f
def fz (ms : List Sh) (e : E) : Bool := match shp ms e with
  | .f => true
  | _ => false
/-- one level at most is owned -/
def bz (ms : List Sh) (e : E) : Bool := match shp ms e with
  | .f => true
  | .l .f => true
  | _ => false
/-- a list of expressions, all frozen -/
def fzs (ms : List Sh) : E → Bool
  | .cons a b => fz ms a && fzs ms b
  | _ => true
def frozen (ms : List Sh) (i : Nat) : Bool := match ms.getD i .f with
  | .f => true
  | _ => false

/-! ### operations on data -/
/-- one factor within 2 ^ 64 -/
def mulOk (i j : Int) : Bool := (decide (-(2 ^ 64) < i) && decide (i < 2 ^ 64)) || (decide (-(2 ^ 64) < j) && decide (j < 2 ^ 64))
/-- the longest list -/
def most : Nat := 16777216
def addD : D → D → Res D
  | .int i, .int j => .ok (.int (i + j))
  | .list xs, .list ys => if xs.length + ys.length ≤ most then .ok (.list (xs ++ ys)) else .bad
  | .tuple xs, .tuple ys => if !xs.isEmpty && !ys.isEmpty && decide (xs.length + ys.length ≤ most) then .ok (.tuple (xs ++ ys)) else .bad
  | .str x, .str y => if x.length + y.length ≤ most then .ok (.str (x ++ y)) else .bad
  | _, _ => .bad
def mulD : D → D → Res D
  | .int i, .int j => if mulOk i j then .ok (.int (i * j)) else .bad
  | .list xs, .int k => if decide (-(2 ^ 63) ≤ k) && decide (k < 2 ^ 63) && decide (xs.length * k.toNat ≤ most) then .ok (.list (List.replicate k.toNat xs).flatten) else .bad
  | _, _ => .bad
def opI (o : BO) (i j : Int) : Res D := match o with
  | .sub => .ok (.int (i - j))
  | .fdiv => if decide (0 < j) && decide (j < 10 ^ 70) then .ok (.int (i / j)) else .bad
  | .mod => if 0 < j then .ok (.int (i % j)) else .bad
  | .pow => if decide (0 ≤ j) && decide (j ≤ 100000) && decide (i.natAbs < 2 ^ 64) then .ok (.int (i ^ j.toNat)) else .bad
  | .shl => if decide (0 ≤ j) && decide (j ≤ 100000) && decide (i.natAbs < 2 ^ 64) then .ok (.int (i * 2 ^ j.toNat)) else .bad
  | .shr => if 0 ≤ j then .ok (.int (i / 2 ^ j.toNat)) else .bad
  | .band => .ok (.int (Builtin.bitAnd i j))
  | .bxor => .ok (.int (Builtin.bitXor i j))
  | _ => .bad
def opD (o : BO) (a b : D) : Res D := match o with
  | .add => addD a b
  | .mul => mulD a b
  | o => match a, b with
    | .int i, .int j => opI o i j
    | _, _ => .bad
/-- things without parts -/
def flat : D → Bool
  | .none | .bool _ | .int _ | .str _ => true
  | _ => false
def eqStr : D → D → Res Bool
  | .str x, .str y => .ok (decide (x = y))
  | _, _ => .bad
def eqD (a b : D) : Res Bool :=
  if SeqAt.shaped a && SeqAt.shaped b then .ok (PyData.eqv a b) else eqStr a b
def intsOf : List D → Option (List Int)
  | [] => some []
  | .int i :: r => (intsOf r).map (i :: ·)
  | _ => none
/-- tuples of ints, by their first difference -/
def lexLe : List Int → List Int → Bool
  | [], _ => true
  | _ :: _, [] => false
  | x :: xs, y :: ys => if x = y then lexLe xs ys else decide (x < y)
def leT (a b : List D) : Res Bool := match intsOf a, intsOf b with
  | some xs, some ys => .ok (lexLe xs ys)
  | _, _ => .bad
def ordD (o : CO) (a b : D) : Res Bool := match a, b with
  | .int i, .int j => match o with
    | .lt => .ok (decide (i < j))
    | .le => .ok (decide (i ≤ j))
    | .gt => .ok (decide (j < i))
    | .ge => .ok (decide (j ≤ i))
    | _ => .bad
  | .tuple xs, .tuple ys => match o with
    | .le => leT xs ys
    | .ge => leT ys xs
    | _ => .bad
  | _, _ => .bad
def isD : D → D → Res Bool
  | .none, .none => .ok true
  | .bool c, .bool b => .ok (c == b)
  | _, .none => .ok false
  | _, .bool _ => .ok false
  | _, _ => .bad
def inD (x : D) : D → Res Bool
  | .list ys => if SeqAt.shaped x && SeqAt.shaped (.list ys) then .ok (ys.any fun y => PyData.eqv y x) else .bad
  | .tuple ys => if flat x && ys.all flat then .ok (ys.any fun y => PyData.eqv y x) else .bad
  | _ => .bad
def Res.not (x : Res Bool) : Res Bool := x.bind fun b => .ok (!b)
def cmpD (o : CO) (a b : D) : Res Bool := match o with
  | .eq => eqD a b
  | .ne => (eqD a b).not
  | .is => isD a b
  | .isn => (isD a b).not
  | .isin => inD a b
  | .nin => (inD a b).not
  | o => ordD o a b
def negD : D → Res D
  | .int i => .ok (.int (-i))
  | _ => .bad
/-- the place that an index means -/
def pl (n : Nat) (i : Int) : Nat := if 0 ≤ i then i.toNat else if -(n : Int) ≤ i then (i + n).toNat else n
def getD (xs : List D) (i : Int) : Res D := match xs[pl xs.length i]? with
  | some d => .ok d
  | none => .bad
def ixD (a i : D) : Res D := match a, i with
  | .list xs, .int j => getD xs j
  | .tuple xs, .int j => getD xs j
  | .str x, .int j => if x.length ≤ most then (match x.cps.toList[pl x.cps.toList.length j]? with
    | some c => .ok (.str ⟨#[c]⟩)
    | none => .bad) else .bad
  | _, _ => .bad
/-- a slice's end -/
def sIx (n d : Nat) : Option Int → Nat
  | none => d
  | some i => if i < 0 then (i + n).toNat else min i.toNat n
def cutL {α : Type} (xs : List α) (l h : Option Int) : List α := (xs.drop (sIx xs.length 0 l)).take (sIx xs.length xs.length h - sIx xs.length 0 l)
def slD (a : D) (l h : Option Int) : Res D := match a with
  | .list xs => .ok (.list (cutL xs l h))
  | .tuple xs => .ok (.tuple (cutL xs l h))
  | _ => .bad
def revD : D → Res D
  | .list xs => .ok (.list xs.reverse)
  | _ => .bad
/-- all but the first, turned about -/
def rvtD : D → Res D
  | .list xs => .ok (.list (xs.drop 1).reverse)
  | _ => .bad
def isiD (d : D) : Ty → Bool
  | .int => match d with | .int _ | .bool _ => true | _ => false
  | .bool => match d with | .bool _ => true | _ => false
  | .list => match d with | .list _ => true | _ => false
  | .tuple => match d with | .tuple _ => true | _ => false
  | .str => match d with | .str _ => true | _ => false
  | .dict => match d with | .dict _ => true | _ => false
def boolsOf : List D → Option (List Bool)
  | [] => some []
  | .bool b :: r => (boolsOf r).map (b :: ·)
  | _ => none
def itemsD : D → Option (List D)
  | .list xs => some xs
  | .tuple xs => some xs
  | _ => none
def maxI (x : Int) : List Int → Int
  | [] => x
  | y :: r => maxI (if y > x then y else x) r
def minI (x : Int) : List Int → Int
  | [] => x
  | y :: r => minI (if y < x then y else x) r
def insI (x : Int) : List Int → List Int
  | [] => [x]
  | y :: r => if x ≤ y then x :: y :: r else y :: insI x r
def sortI : List Int → List Int
  | [] => []
  | x :: r => insI x (sortI r)
/-- rising, each once -/
def insU (x : Int) : List Int → List Int
  | [] => [x]
  | y :: r => if x < y then x :: y :: r else if x = y then y :: r else y :: insU x r
def sortU : List Int → List Int
  | [] => []
  | x :: r => insU x (sortU r)
/-- tuples of ints -/
def tupsOf : List D → Option (List (List Int))
  | [] => some []
  | .tuple xs :: r => match intsOf xs, tupsOf r with
    | some ns, some ks => some (ns :: ks)
    | _, _ => none
  | _ => none
/-- a tuple's number, by figures below 2 ^ 64 -/
def codeI : List Int → Int
  | [] => 0
  | d :: r => d * (18446744073709551616 : Int) ^ r.length + codeI r
def insC (x : List Int) : List (List Int) → List (List Int)
  | [] => [x]
  | y :: r => if codeI x ≤ codeI y then x :: y :: r else y :: insC x r
def sortC : List (List Int) → List (List Int)
  | [] => []
  | x :: r => insC x (sortC r)
def tupI (ns : List Int) : D := .tuple (ns.map .int)
/-- few tuples, alike in length, of ints from 0 to below 2 ^ 64 -/
def tupsOk (ks : List (List Int)) : Bool := decide (ks.length < 64) && match ks with
  | [] => true
  | k :: _ => decide (1 ≤ k.length) && ks.all fun j => decide (j.length = k.length) && j.all fun n => decide (0 ≤ n) && decide (n < 18446744073709551616)
/-- the ints a .. b - 1 -/
def rgI (a b : Int) : List Int := (List.range (b - a).toNat).map fun (i : Nat) => a + (i : Int)
def rgOk (a b : Int) : Bool := decide (0 ≤ a ∧ b ≤ 16777216 ∧ a ≤ 16777216 ∧ 0 ≤ b)
/-- the two ends of range(..) -/
def rgD : List D → Option (Int × Int)
  | [.int n] => some (0, n)
  | [.int a, .int b] => some (a, b)
  | _ => none
def biD (b : Bi) (vs : List D) : Res D := match b, vs with
  | .lrng, xs => match rgD xs with
    | some (a, b) => if rgOk a b then .ok (.list ((rgI a b).map .int)) else .bad
    | none => .bad
  | .inr, .int x :: xs => match rgD xs with
    | some (a, b) => .ok (.bool (decide (a ≤ x ∧ x < b)))
    | none => .bad
  | .setl, [.list xs] => match intsOf xs with
    | some ns => if ns.length < 64 then .ok (.list ((sortU ns).map .int)) else .bad
    | none => .bad
  | .len, [.list xs] => .ok (.int xs.length)
  | .len, [.tuple xs] => .ok (.int xs.length)
  | .len, [.str x] => if x.length ≤ most then .ok (.int x.length) else .bad
  | .sum, [.list xs] => match intsOf xs with
    | some ns => .ok (.int ns.sum)
    | none => .bad
  | .max, [.int i, .int j] => .ok (.int (if j > i then j else i))
  | .min, [.int i, .int j] => .ok (.int (if j < i then j else i))
  | .maxL, [.list xs] => match intsOf xs with
    | some (n :: ns) => .ok (.int (maxI n ns))
    | _ => .bad
  | .minL, [.list xs] => match intsOf xs with
    | some (n :: ns) => .ok (.int (minI n ns))
    | _ => .bad
  | .all, [.list xs] => match boolsOf xs with
    | some bs => .ok (.bool (bs.all id))
    | none => .bad
  | .sorted, [.list xs] => match intsOf xs with
    | some ns => if ns.length < 64 then .ok (.list ((sortI ns).map .int)) else .bad
    | none => match tupsOf xs with
      | some ks => if tupsOk ks then .ok (.list ((sortC ks).map tupI)) else .bad
      | none => .bad
  | .list, [.list xs] => .ok (.list xs)
  | .list, [.tuple xs] => .ok (.list xs)
  | .tuple, [.list xs] => .ok (.tuple xs)
  | .tuple, [.tuple xs] => .ok (.tuple xs)
  | .int, [.int i] => .ok (.int i)
  | .int, [.bool b] => .ok (.int (if b then 1 else 0))
  | .str, [.int i] => if i.natAbs.log2 < 1920 then .ok (.str (toString i)) else .bad
  | .abs, [.int i] => .ok (.int (if i < 0 then -i else i))
  | .repr, [d] => if d.canLay0 && d.showable && decide (d.shown.length ≤ most) && decide (d.depth ≤ 32) then .ok (.str d.shown) else .bad
  | _, _ => .bad
/-- the built-ins that tell a thing without parts -/
def biScal : Bi → Bool
  | .len | .sum | .max | .min | .maxL | .minL | .all | .int | .str | .repr | .abs => true
  | _ => false
/-- a range's ints -/
def upto (a : Int) : Nat → List D
  | 0 => []
  | n + 1 => .int a :: upto (a + 1) n
def downs (a c : Int) : Nat → List D
  | 0 => []
  | n + 1 => .int a :: downs (a + c) c n
def smallI (i : Int) : Bool := decide (-8000000 ≤ i) && decide (i ≤ 8000000)
def rngD : List D → Res (List D)
  | [.int b] => if smallI b then .ok (upto 0 b.toNat) else .bad
  | [.int a, .int b] => if smallI a && smallI b then .ok (upto a (b - a).toNat) else .bad
  | [.int a, .int b, .int (-1)] => if smallI a && smallI b then .ok (downs a (-1) (a - b).toNat) else .bad
  | _ => .bad
def enmD : Nat → List D → List D
  | _, [] => []
  | n, x :: r => .tuple [.int n, x] :: enmD (n + 1) r
def zipD : List D → List D → List D
  | x :: xs, y :: ys => .tuple [x, y] :: zipD xs ys
  | _, _ => []

/-! ### slots -/
def getS (ρ : En) (i : Nat) : Res D := match ρ[i]? with
  | some (some d) => .ok d
  | _ => .bad
def wipeE (ρ : En) : List Nat → En
  | [] => ρ
  | v :: vs => (wipeE ρ vs).set v none
def Tg.own : Tg → List Nat
  | .n i => [i]
  | .t ts => ts.own
  | .nil => []
  | .cons a b => a.own ++ b.own
/-- one target, several -/
def tgs : Tg → List D → En → Res En
  | .n i, [d], ρ => .ok (ρ.set i (some d))
  | .t ts, [d], ρ => match itemsD d with
    | some xs => tgs ts xs ρ
    | none => .bad
  | .nil, [], ρ => .ok ρ
  | .cons a b, x :: xs, ρ => (tgs a [x] ρ).bind fun ρ' => tgs b xs ρ'
  | _, _, _ => .bad
def tg1 (t : Tg) (d : D) (ρ : En) : Res En := tgs t [d] ρ

/-! ### expressions -/
def boolD : D → Res Bool
  | .bool b => .ok b
  | _ => .bad
def intD : D → Res Int
  | .int i => .ok i
  | _ => .bad
def lcL (f : D → Res (Option D)) : List D → Res (List D)
  | [] => .ok []
  | x :: xs => (f x).bind fun o => (lcL f xs).bind fun r => .ok (match o with
    | some d => d :: r
    | none => r)
/-- one turn of a comprehension -/
def lcF (t : Tg) (ρ : En) (fc : En → Res Bool) (fe : En → Res D) (x : D) : Res (Option D) := (tg1 t x (wipeE ρ t.own)).bind fun ρ' => (fc ρ').bind fun b =>
  if b then (fe ρ').bind fun d => .ok (some d) else .ok none
mutual
def ev (C : Nat → List D → Res D) : E → En → Res D
  | .v i, ρ => getS ρ i
  | .k d, _ => .ok d
  | .op o a b, ρ => (ev C a ρ).bind fun x => (ev C b ρ).bind fun y => opD o x y
  | .neg a, ρ => (ev C a ρ).bind negD
  | .cmp o a b, ρ => (ev C a ρ).bind fun x => (ev C b ρ).bind fun y => (cmpD o x y).bind fun b => .ok (.bool b)
  | .chn o p a b c, ρ => (ev C a ρ).bind fun x => (ev C b ρ).bind fun y => (cmpD o x y).bind fun b =>
      if b then (ev C c ρ).bind fun z => (cmpD p y z).bind fun b => .ok (.bool b) else .ok (.bool false)
  | .and a b, ρ => (ev C a ρ).bind fun x => (boolD x).bind fun c => if c then ev C b ρ else .ok (.bool false)
  | .or a b, ρ => (ev C a ρ).bind fun x => (boolD x).bind fun c => if c then .ok (.bool true) else ev C b ρ
  | .not a, ρ => (ev C a ρ).bind fun x => (boolD x).bind fun c => .ok (.bool !c)
  | .ife t a b, ρ => (ev C t ρ).bind fun x => (boolD x).bind fun c => if c then ev C a ρ else ev C b ρ
  | .ix a i, ρ => (ev C a ρ).bind fun x => (ev C i ρ).bind fun y => ixD x y
  | .sl a l h, ρ => (ev C a ρ).bind fun x => (evo C l ρ).bind fun i => (evo C h ρ).bind fun j => slD x i j
  | .rev a, ρ => (ev C a ρ).bind revD
  | .rvt a, ρ => (ev C a ρ).bind rvtD
  | .tup es, ρ => (evs C es ρ).bind fun xs => .ok (.tuple xs)
  | .lst es, ρ => (evs C es ρ).bind fun xs => .ok (.list xs)
  | .dct .nil .nil, _ => .ok (.dict [])
  | .dct _ _, _ => .bad
  | .call f es, ρ => (evs C es ρ).bind fun xs => C f xs
  | .cb f es, ρ => (evs C es ρ).bind fun xs => (C f xs).bind fun d => if flat d then .ok d else .bad
  | .bi b es, ρ => (evs C es ρ).bind fun xs => biD b xs
  | .isi a t, ρ => (ev C a ρ).bind fun x => .ok (.bool (isiD x t))
  | .me m o es, ρ => .bad
  | .lc tg it c e, ρ => (evi C it ρ).bind fun xs => (lcL (lcF tg ρ (fun ρ' => evc C c ρ') fun ρ' => ev C e ρ') xs).bind fun ys => .ok (.list ys)
  | .rng _, _ => .bad
  | .enm _, _ => .bad
  | .zip _ _, _ => .bad
  | .vals _, _ => .bad
  | .nil, _ => .bad
  | .cons _ _, _ => .bad
/-- a list of expressions -/
def evs (C : Nat → List D → Res D) : E → En → Res (List D)
  | .nil, _ => .ok []
  | .cons a b, ρ => (ev C a ρ).bind fun x => (evs C b ρ).bind fun xs => .ok (x :: xs)
  | _, _ => .bad
/-- a slice's part, a condition that may lack -/
def evo (C : Nat → List D → Res D) : E → En → Res (Option Int)
  | .nil, _ => .ok none
  | .cons a _, ρ => (ev C a ρ).bind fun x => (intD x).bind fun i => .ok (some i)
  | _, _ => .bad
def evc (C : Nat → List D → Res D) : E → En → Res Bool
  | .nil, _ => .ok true
  | .cons a _, ρ => (ev C a ρ).bind boolD
  | _, _ => .bad
/-- what a loop walks -/
def evi (C : Nat → List D → Res D) : E → En → Res (List D)
  | .rng es, ρ => (evs C es ρ).bind rngD
  | .enm a, ρ => (ev C a ρ).bind fun x => match x with
    | .list xs => .ok (enmD 0 xs)
    | _ => .bad
  | .zip a b, ρ => (ev C a ρ).bind fun x => (ev C b ρ).bind fun y => match x, y with
    | .list xs, .list ys => .ok (zipD xs ys)
    | _, _ => .bad
  | .cons a _, ρ => (ev C a ρ).bind fun x => match x with
    | .list xs => .ok xs
    | .tuple xs => .ok xs
    | _ => .bad
  | _, _ => .bad
end

/-! ### statements -/
inductive S where
  | nil
  | cons (a b : S)
  | set (t : Tg) (e : E)
  | own (i : Nat) (e : E)
  | aug (i : Nat) (o : BO) (e : E)
  | app (p e : E)
  | ext (p e : E)
  | put (p i e : E)
  | pau (p i : E) (o : BO) (e : E)
  | ret (e : E)
  | rtl (e : E)
  | ife (t : E) (a b : S)
  | for_ (t : Tg) (it : E) (b : S)
  | whl (t : E) (b : S)
  | brk | cnt | pas
  | exp (e : E)
  | never
inductive Out where
  | nx (ρ : En)
  | rt (d : D)
  | bk (ρ : En)
  | ct (ρ : En)
def forL (f : D → En → Res Out) : List D → En → Res Out
  | [], ρ => .ok (.nx ρ)
  | x :: xs, ρ => (f x ρ).bind fun o => match o with
    | .nx ρ' => forL f xs ρ'
    | .ct ρ' => forL f xs ρ'
    | .bk ρ' => .ok (.nx ρ')
    | .rt d => .ok (.rt d)
def whL (t : En → Res Bool) (f : En → Res Out) : Nat → En → Res Out
  | 0, _ => .bad
  | n + 1, ρ => (t ρ).bind fun b => if b then (f ρ).bind fun o => match o with
      | .nx ρ' => whL t f n ρ'
      | .ct ρ' => whL t f n ρ'
      | .bk ρ' => .ok (.nx ρ')
      | .rt d => .ok (.rt d) else .ok (.nx ρ)
/-- the turns that a while may take -/
def fuel : Nat := 100000000
/-- a path: a slot, and the places within it, outermost first -/
def pathE (C : Nat → List D → Res D) : E → En → Res (Nat × List Int)
  | .v i, _ => .ok (i, [])
  | .ix a e, ρ => (pathE C a ρ).bind fun p => (ev C e ρ).bind fun x => (intD x).bind fun j => .ok (p.1, p.2 ++ [j])
  | _, _ => .bad
/-- what stands at the places is turned -/
def turnD (f : D → Res D) : List Int → D → Res D
  | [], d => f d
  | j :: r, .list xs => match xs[pl xs.length j]? with
    | some d => (turnD f r d).bind fun d' => .ok (.list (xs.set (pl xs.length j) d'))
    | none => .bad
  | _, _ => .bad
def turnS (C : Nat → List D → Res D) (p : E) (f : D → Res D) (ρ : En) : Res Out :=
  (pathE C p ρ).bind fun q => (getS ρ q.1).bind fun d => (turnD f q.2 d).bind fun d' => .ok (.nx (ρ.set q.1 (some d')))
def appD (x : D) : D → Res D
  | .list xs => if xs.length < most then .ok (.list (xs ++ [x])) else .bad
  | _ => .bad
def extD (x : D) : D → Res D := fun d => match d, x with
  | .list xs, .list ys => if xs.length + ys.length ≤ most then .ok (.list (xs ++ ys)) else .bad
  | _, _ => .bad
def putD (i x : D) : D → Res D := fun d => match d, i with
  | .list xs, .int j => if pl xs.length j < xs.length then .ok (.list (xs.set (pl xs.length j) x)) else .bad
  | _, _ => .bad
/-- a op= b of ints -/
def augD (o : BO) (a b : D) : Res D := match o, a, b with
  | .add, .int i, .int j => .ok (.int (i + j))
  | .sub, .int i, .int j => .ok (.int (i - j))
  | _, _, _ => .bad
def listD : D → Res (List D)
  | .list xs => .ok xs
  | _ => .bad
def pauD (o : BO) (i x : D) : D → Res D := fun d => match d, i with
  | .list xs, .int j => match xs[pl xs.length j]? with
    | some y => (augD o y x).bind fun z => .ok (.list (xs.set (pl xs.length j) z))
    | none => .bad
  | _, _ => .bad
def ex (C : Nat → List D → Res D) : S → En → Res Out
  | .nil, ρ => .ok (.nx ρ)
  | .cons a b, ρ => (ex C a ρ).bind fun o => match o with
    | .nx ρ' => ex C b ρ'
    | o => .ok o
  | .set t e, ρ => (ev C e ρ).bind fun d => (tg1 t d ρ).bind fun ρ' => .ok (.nx ρ')
  | .own i e, ρ => (ev C e ρ).bind fun d => (listD d).bind fun xs => .ok (.nx (ρ.set i (some (.list xs))))
  | .aug i o e, ρ => (getS ρ i).bind fun x => (ev C e ρ).bind fun y => (augD o x y).bind fun z => .ok (.nx (ρ.set i (some z)))
  | .app p e, ρ => (ev C e ρ).bind fun x => turnS C p (appD x) ρ
  | .ext p e, ρ => (ev C e ρ).bind fun x => turnS C p (extD x) ρ
  | .put p i e, ρ => (ev C e ρ).bind fun x => (ev C i ρ).bind fun j => turnS C p (putD j x) ρ
  | .pau p i o e, ρ => (ev C i ρ).bind fun j => (ev C e ρ).bind fun x => turnS C p (pauD o j x) ρ
  | .ret e, ρ => (ev C e ρ).bind fun d => .ok (.rt d)
  | .rtl e, ρ => (ev C e ρ).bind fun d => (listD d).bind fun xs => .ok (.rt (.list xs))
  | .ife t a b, ρ => (ev C t ρ).bind fun x => (boolD x).bind fun c => if c then ex C a ρ else ex C b ρ
  | .for_ t it b, ρ => (evi C it ρ).bind fun xs => forL (fun x ρ => (tg1 t x ρ).bind fun ρ' => ex C b ρ') xs ρ
  | .whl t b, ρ => whL (fun ρ => (ev C t ρ).bind boolD) (fun ρ => ex C b ρ) fuel ρ
  | .brk, ρ => .ok (.bk ρ)
  | .cnt, ρ => .ok (.ct ρ)
  | .pas, ρ => .ok (.nx ρ)
  | .exp e, ρ => (ev C e ρ).bind fun _ => .ok (.nx ρ)
  | .never, _ => .bad

/-! ### defs -/
structure Fn where
  np : Nat
  ns : Nat
  ms : List Sh
  body : S
  ret : Sh
def runF (C : Nat → List D → Res D) (fn : Fn) (vs : List D) : Res D :=
  if vs.length = fn.np then (ex C fn.body (vs.map some ++ List.replicate (fn.ns - vs.length) none)).bind fun o => match o with
    | .rt d => .ok d
    | .nx _ => (match fn.ret with
      | .f => .ok .none
      | _ => .bad)
    | _ => .bad
  else .bad
def callN (T : Nat → Option Fn) : Nat → Nat → List D → Res D
  | 0, _, _ => .bad
  | n + 1, f, vs => match T f with
    | some fn => runF (callN T n) fn vs
    | none => .bad
end Bk
/-! Bk: from Python's text to the small language. -/
namespace Bk
open PySem
/-- what stands fixed: the defs by name (number, how many parameters), the module's constants; a def's names, and what it owns -/
structure Lk where
  ids : List (Str × Nat × Nat × Sh)
  cs : List (Str × D)
  N : List Str
  ms : List Sh
  ret : Sh
def visB (sc : Scope) (x : Str) : Bool := (match sc.names.lookup x with
  | some .local | some .cell | some .free => true
  | _ => false) && !(x == ("__debug__" : Str)) && !(x == ("__classdict__" : Str))
def locB (sc : Scope) (x : Str) : Bool := match sc.names.lookup x with
  | some .local | some .cell => true
  | _ => false
def gloB (sc : Scope) (x : Str) : Bool := (match sc.names.lookup x with
  | some .globalImplicit => true
  | _ => false) && !(x == ("__debug__" : Str))
def slot (N : List Str) (x : Str) : Option Nat := match N.idxOf x with
  | i => if N[i]? = some x then some i else none
def cvO : Operator → Option BO
  | .Add => some .add
  | .Sub => some .sub
  | .Mult => some .mul
  | .FloorDiv => some .fdiv
  | .Mod => some .mod
  | .Pow => some .pow
  | .LShift => some .shl
  | .RShift => some .shr
  | .BitAnd => some .band
  | .BitXor => some .bxor
  | _ => none
def cvC : CmpOp → CO
  | .Eq => .eq
  | .NotEq => .ne
  | .Lt => .lt
  | .LtE => .le
  | .Gt => .gt
  | .GtE => .ge
  | .Is => .is
  | .IsNot => .isn
  | .In => .isin
  | .NotIn => .nin
def cvK : Const → Option E
  | .int i => some (.k (.int i))
  | .bool b => some (.k (.bool b))
  | .none => some (.k .none)
  | .str s => some (.k (.str s))
  | _ => none
def bis : List (Str × Nat × Bi) := [("len", 1, .len), ("sum", 1, .sum), ("all", 1, .all), ("sorted", 1, .sorted), ("list", 1, .list), ("tuple", 1, .tuple), ("int", 1, .int),
  ("str", 1, .str), ("repr", 1, .repr), ("abs", 1, .abs), ("max", 2, .max), ("min", 2, .min)]
def biOf (f : Str) (n : Nat) : Option Bi := if n == 1 && f == ("max" : Str) then some .maxL else if n == 1 && f == ("min" : Str) then some .minL else match bis.lookup f with
  | some (m, b) => if n == m then some b else none
  | none => none
def tys : List (Str × Ty) := [("int", .int), ("bool", .bool), ("list", .list), ("tuple", .tuple), ("str", .str), ("dict", .dict)]
/-- a comprehension's own scope, seen from sc -/
def inner (scope sc : Scope) : Scope := { scope with names := scope.names.map fun p => if (p.2 == .free && sc.kind == .function && sc.names.lookup p.1 == some .cell) then (p.1, .cell) else p }
mutual
def cvT (L : Lk) (sc : Scope) : Expr → Option Tg
  | .Name x _ => if locB sc x then (match slot L.N x with
    | some i => if frozen L.ms i then some (.n i) else none
    | none => none) else none
  | .Tuple ts _ _ => (cvTs L sc ts).map .t
  | _ => none
def cvTs (L : Lk) (sc : Scope) : List Expr → Option Tg
  | [] => some .nil
  | t :: r => match cvT L sc t, cvTs L sc r with
    | some a, some b => some (.cons a b)
    | _, _ => none
end
mutual
def names : Expr → List Str
  | .Name x _ => [x]
  | .Tuple ts _ _ => namesL ts
  | _ => []
def namesL : List Expr → List Str
  | [] => []
  | t :: r => names t ++ namesL r
end
def ownOf (N : List Str) (tg : Expr) : List (Str × Nat) := (names tg).map fun x => (x, N.idxOf x)
def isTup : Expr → Bool
  | .Tuple .. => true
  | _ => false
def isSlice : Expr → Bool
  | .Slice .. => true
  | _ => false
/-- [::-1] | [:0:-1] -/
def rvOf : Option Expr → Option Expr → Expr → Option Bool
  | none, none, .UnaryOp .USub (.Constant (.int 1) _ _) _ => some true
  | none, some (.Constant (.int 0) _ _), .UnaryOp .USub (.Constant (.int 1) _ _) _ => some false
  | _, _, _ => none
mutual
/-- no a if t else b where a truth is asked -/
def noIf : Expr → Bool
  | .IfExp .. => false
  | .BoolOp _ vs _ => noIfs vs
  | .UnaryOp .Not a _ => noIf a
  | _ => true
def noIfs : List Expr → Bool
  | [] => true
  | e :: r => noIf e && noIfs r
end
/-- set(e), alone -/
def isSet : List Expr → Bool
  | [.Call (.Name g _) [_] [] _] => g == ("set" : Str)
  | _ => false
/-- range(..), alone -/
def isRg : List Expr → Bool
  | [.Call (.Name g _) es [] _] => g == ("range" : Str) && !es.isEmpty
  | _ => false
def isIn : CmpOp → Bool
  | .In => true
  | _ => false
mutual
def cvE (L : Lk) : Expr → Scope → Option E
  | .Name x _, sc => if visB sc x then (slot L.N x).map .v else if gloB sc x then (L.cs.lookup x).map .k else none
  | .Constant c _ _, _ => cvK c
  | .BinOp a o b _, sc => match cvO o, cvE L a sc, cvE L b sc with
    | some o, some x, some y => if fz L.ms x && fz L.ms y then some (.op o x y) else none
    | _, _, _ => none
  | .UnaryOp .Not a _, sc => (cvE L a sc).map .not
  | .UnaryOp .USub a _, sc => (cvE L a sc).map .neg
  | .BoolOp .And vs _, sc => cvB L true vs sc
  | .BoolOp .Or vs _, sc => cvB L false vs sc
  | .Compare l [o] cs _, sc => if isIn o && isRg cs then (match cvE L l sc, cvRg L cs sc with
      | some a, some m => some (.bi .inr (.cons a m))
      | _, _ => none)
    else match cvE L l sc, cvs L cs sc with
    | some a, some (.cons b .nil) => some (.cmp (cvC o) a b)
    | _, _ => none
  | .Compare l [o, p] cs _, sc => match cvE L l sc, cvs L cs sc with
    | some a, some (.cons b (.cons c .nil)) => some (.chn (cvC o) (cvC p) a b c)
    | _, _ => none
  | .IfExp t a b _, sc => match cvE L t sc, cvE L a sc, cvE L b sc with
    | some m, some x, some y => if fz L.ms x && fz L.ms y && noIf t then some (.ife m x y) else none
    | _, _, _ => none
  | .Subscript a (.Slice lo hi none _) _, sc => match cvE L a sc, cvOp L lo sc, cvOp L hi sc with
    | some a, some l, some h => if bz L.ms a then some (.sl a l h) else none
    | _, _, _ => none
  | .Subscript a (.Slice lo hi (some st) _) _, sc => match rvOf lo hi st, cvE L a sc with
    | some k, some a => if bz L.ms a then some (if k then .rev a else .rvt a) else none
    | _, _ => none
  | .Subscript a i _, sc => if isSlice i then none else match cvE L a sc, cvE L i sc with
    | some a, some i => some (.ix a i)
    | _, _ => none
  | .Tuple es _ _, sc => match cvs L es sc with
    | some x => if fzs L.ms x && decide (es.length ≤ 1000) then some (.tup x) else none
    | none => none
  | .List es _, sc => match cvs L es sc with
    | some x => if fzs L.ms x && decide (es.length ≤ 1000) then some (.lst x) else none
    | none => none
  | .Call (.Name f _) es [] _, sc => if gloB sc f then
      (if f == ("isinstance" : Str) then cvIs L es sc
      else if f == ("sorted" : Str) && isSet es then cvSS L es sc
      else if f == ("list" : Str) && isRg es then (cvRg L es sc).map (.bi .lrng)
      else match L.ids.lookup f, cvs L es sc with
        | some (k, n, _), some x => if n == es.length && !es.isEmpty then (if fzs L.ms x then some (.call k x) else some (.cb k x)) else none
        | none, some x => (match biOf f es.length with
          | some b => if (biScal b || fzs L.ms x) && !es.isEmpty then some (.bi b x) else none
          | none => none)
        | _, none => none)
    else none
  | .Dict [] [] _, _ => some (.dct .nil .nil)
  | .ListComp e gs scope _, sc => match cvE L e (inner scope sc) with
    | some x => if fz L.ms x then cvG L gs scope sc x else none
    | none => none
  | _, _ => none
def cvIs (L : Lk) : List Expr → Scope → Option E
  | [a, .Name t _], sc => if gloB sc t then (match cvE L a sc, tys.lookup t with
    | some a, some t => some (.isi a t)
    | _, _ => none) else none
  | _, _ => none
/-- what stands in sorted(set(e)) -/
def cvSS (L : Lk) : List Expr → Scope → Option E
  | [.Call (.Name g _) [e] [] _], sc => if gloB sc g then (match cvE L e sc with
    | some x => if fz L.ms x then some (.bi .setl (.cons x .nil)) else none
    | none => none) else none
  | _, _ => none
/-- what stands in range(..), alone -/
def cvRg (L : Lk) : List Expr → Scope → Option E
  | [.Call (.Name g _) es [] _], sc => if gloB sc g then cvs L es sc else none
  | _, _ => none
def cvs (L : Lk) : List Expr → Scope → Option E
  | [], _ => some .nil
  | e :: r, sc => match cvE L e sc, cvs L r sc with
    | some a, some b => some (.cons a b)
    | _, _ => none
def cvB (L : Lk) (b : Bool) : List Expr → Scope → Option E
  | [], _ => none
  | e :: r, sc => match cvE L e sc, cvB L b r sc with
    | some x, none => if r.isEmpty && fz L.ms x then some x else none
    | some x, some y => some (if b then .and x y else .or x y)
    | none, _ => none
def cvOp (L : Lk) : Option Expr → Scope → Option E
  | none, _ => some .nil
  | some e, sc => (cvE L e sc).map fun x => .cons x .nil
/-- what a loop or a comprehension walks: with a call of range, enumerate, zip; else a list or tuple -/
def cvI (L : Lk) : Expr → Scope → Bool → Option E
  | .Call (.Name f p) es [] q, sc, tup => if f == ("range" : Str) then (if gloB sc f then (cvs L es sc).map .rng else none)
    else if f == ("enumerate" : Str) then (if gloB sc f && tup then (match cvs L es sc with
      | some (.cons a .nil) => if fz L.ms a then some (.enm a) else none
      | _ => none) else none)
    else if f == ("zip" : Str) then (if gloB sc f && tup then (match cvs L es sc with
      | some (.cons a (.cons b .nil)) => if fz L.ms a && fz L.ms b then some (.zip a b) else none
      | _ => none) else none)
    else none
  | _, _, _ => none
def cvG (L : Lk) : List Comprehension → Scope → Scope → E → Option E
  | [⟨tg, it, ifs, 0⟩], scope, sc, e => match cvT L scope tg, cvI L it sc (isTup tg), cvE L it sc, cvs L ifs (inner scope sc) with
    | some t, some i, _, some c => if decide (ifs.length ≤ 1) && noIfs ifs && L2.blkC L.N sc scope (ownOf L.N tg) then some (.lc t i c e) else none
    | some t, none, some i, some c => if decide (ifs.length ≤ 1) && noIfs ifs && L2.blkC L.N sc scope (ownOf L.N tg) && bz L.ms i then some (.lc t (.cons i .nil) c e) else none
    | _, _, _, _ => none
  | _, _, _, _ => none
end
/-- a path: a slot, or a place within a path -/
def isPath : E → Bool
  | .v _ => true
  | .ix a _ => isPath a
  | _ => false
/-- a path to a list of one's own whose items are frozen -/
def ownPath (ms : List Sh) (m : E) : Bool := isPath m && (match shp ms m with
  | .l .f => true
  | _ => false)
/-- the text of a path -/
def isPx : Expr → Bool
  | .Name .. => true
  | .Subscript a _ _ => isPx a
  | _ => false
/-- an expression whose list is new -/
def cvF (L : Lk) : Expr → Scope → Option E
  | .List es p, sc => cvE L (.List es p) sc
  | .ListComp e gs s p, sc => cvE L (.ListComp e gs s p) sc
  | .BinOp a .Add b p, sc => cvE L (.BinOp a .Add b p) sc
  | .BinOp a .Mult b p, sc => cvE L (.BinOp a .Mult b p) sc
  | .Subscript a (.Slice lo hi none q) p, sc => cvE L (.Subscript a (.Slice lo hi none q) p) sc
  | .Subscript a (.Slice lo hi (some st) q) p, sc => cvE L (.Subscript a (.Slice lo hi (some st) q) p) sc
  | .Call (.Name f q) es [] p, sc => match L.ids.lookup f with
    | some (k, n, .l .f) => (match cvE L (.Call (.Name f q) es [] p) sc with
      | some (.call k' x) => if k' == k && !(f == ("isinstance" : Str)) then some (.call k' x) else none
      | _ => none)
    | none => (match cvE L (.Call (.Name f q) es [] p) sc with
      | some (.bi .list x) => some (.bi .list x)
      | some (.bi .sorted x) => some (.bi .sorted x)
      | _ => none)
    | _ => none
  | _, _ => none
def isLc : Expr → Bool
  | .ListComp .. => true
  | _ => false
mutual
def cvS (L : Lk) (sc : Scope) : Stmt → Option S
  | .Return (some e) _ => (match L.ret with
    | .f => (cvE { L with ms := [] } e sc).map .ret
    | .l .f => (match e, cvE L e sc with
      | .Name _ _, some (.v i) => (match L.ms.getD i .f with
        | .l .f => some (.ret (.v i))
        | _ => none)
      | e, _ => (cvF L e sc).map .rtl)
    | _ => none)
  | .Assign [.Name x p] e _ => if locB sc x then (match slot L.N x with
    | some i => (match L.ms.getD i .f with
      | .f => (match cvE L e sc with
        | some m => if fz L.ms m then some (.set (.n i) m) else none
        | none => none)
      | .l .f => (cvF L e sc).map (.own i)
      | _ => none)
    | none => none) else none
  | .Assign [.Tuple ts k p] e _ => if isTup e || isLc e then none else match cvT L sc (.Tuple ts k p), cvE L e sc with
    | some t, some m => if fz L.ms m then some (.set t m) else none
    | _, _ => none
  | .Assign [.Subscript o i _] e _ => if isSlice i || isLc e then none else match cvE L o sc, cvE L i sc, cvE L e sc with
    | some p, some j, some m => if ownPath L.ms p && fz L.ms m && isPx o then some (.put p j m) else none
    | _, _, _ => none
  | .AugAssign (.Name x _) op e _ => if locB sc x then (match slot L.N x, cvO op, cvE L e sc with
    | some i, some o, some m => if frozen L.ms i then some (.aug i o m) else none
    | _, _, _ => none) else none
  | .AugAssign (.Subscript o i _) op e _ => if isSlice i then none else match cvE L o sc, cvE L i sc, cvO op, cvE L e sc with
    | some p, some j, some b, some m => if ownPath L.ms p && isPx o then some (.pau p j b m) else none
    | _, _, _, _ => none
  | .Expr (.Call (.Attribute o a ap) [e] [] cp) _ => if a == ("append" : Str) && ap.endLine == cp.line then (match cvE L o sc, cvE L e sc with
    | some p, some m => if ownPath L.ms p && fz L.ms m && isPx o then some (.app p m) else none
    | _, _ => none) else none
  | .Expr e _ => if isLc e then none else (cvE L e sc).map .exp
  | .If t a b _ => if noIf t then (match cvE L t sc, cvSs L sc a, cvSs L sc b with
    | some m, some x, some y => some (.ife m x y)
    | _, _, _ => none) else none
  | .For tg it b [] _ => (match cvT L sc tg, cvI L it sc (isTup tg), cvE L it sc, cvSs L sc b with
    | some t, some i, _, some x => some (.for_ t i x)
    | some t, none, some i, some x => if fz L.ms i then some (.for_ t (.cons i .nil) x) else none
    | _, _, _, _ => none)
  | .While t b [] _ => if noIf t then (match cvE L t sc, cvSs L sc b with
    | some m, some x => some (.whl m x)
    | _, _ => none) else none
  | .Break _ => some .brk
  | .Continue _ => some .cnt
  | .Pass _ => some .pas
  | .Raise .. => some .never
  | _ => none
def cvSs (L : Lk) (sc : Scope) : List Stmt → Option S
  | [] => some .nil
  | s :: r => match cvS L sc s, cvSs L sc r with
    | some a, some b => some (.cons a b)
    | _, _ => none
end
end Bk
/-! Bk: how plain data stands in a heap; which lists a body owns. -/
namespace Bk
open PySem PySem.Spec PyProof.Rows L2
abbrev Ps := Addr → Prop
open Classical in
/-- the heap without some addresses -/
noncomputable def hid (H : Hp) (O : Ps) : Hp := fun a => if O a then none else H a
theorem hid_some {H : Hp} {O : Ps} {a : Addr} {o : HO} : hid H O a = some o ↔ ¬ O a ∧ H a = some o := by
  unfold hid
  by_cases h : O a
  · simp [h]
  · simp [h]
theorem same_hid {H H' : Hp} {O O' : Ps} (s : Same H H') (h : ∀ a, O' a → O a ∨ H a = none) : Same (hid H O) (hid H' O') := fun a o e => by
  obtain ⟨h1, h2⟩ := hid_some.mp e
  refine hid_some.mpr ⟨fun z => ?_, s a o h2⟩
  rcases h a z with q | q
  · exact h1 q
  · rw [q] at h2
    cases h2
theorem hid_le {H : Hp} {O : Ps} : Same (hid H O) H := fun a o e => (hid_some.mp e).2
theorem same_new {H : Hp} {p : Addr} {o : HO} (h : H p = none) : Same H (upd H p o) := fun b x e => by
  rw [upd_ne (ne_of_none e h)]
  exact e
theorem Same.tup {K : PySem.W.Frag} {H H' : Hp} {a : Addr} {xs : List V} (e : Same H H') (h : SqT K H a xs) : SqT K H' a xs := by
  rcases h with (h | ⟨o, h⟩) | h
  · exact .inl (.inl (e _ _ h))
  · exact .inl (.inr ⟨o, e _ _ h⟩)
  · exact .inr h
/-- a list that may be read -/
def SqM (K : PySem.W.Frag) (H : Hp) (a : Addr) (xs : List V) : Prop :=
  xs.length ≤ sizeLine ∧ (Rd H a (.lst xs) ∨ ∃ (its : List Value) (n : Nat), K.lookup a = some { cls := .type "list", data := .seq its.toArray n } ∧ its.length ≤ sizeLine ∧ Vals xs its)
theorem SqM.sq {K : PySem.W.Frag} {H : Hp} {a : Addr} {xs : List V} (h : SqM K H a xs) : SqL K H a xs := by
  rcases h.2 with h | ⟨its, n, h1, h2, h3⟩
  · exact .inl h
  · exact .inr ⟨_, its.toArray, n, h1, rfl, rfl, rfl, by simpa using h2, by simpa using h3⟩
theorem SqM.at {X : Cx} {pins : List (Addr × Obj)} {σ : L2.St} {H : Hp} {s : Shared} {a : Addr} {xs : List V} (I : Inv X pins σ H s) (h : SqM X.K H a xs) :
    xs.length ≤ sizeLine ∧ ∃ (its : List Value) (n : Nat), Vals xs its ∧ s.heap.get? a = some { cls := .type "list", data := .seq its.toArray n } := by
  rcases h.2 with h | ⟨its, n, h1, h2, h3⟩
  · exact h.ok I.hok
  · exact ⟨by rw [h3.length]; exact h2, its, n, h3, I.kIn _ _ h1⟩
theorem Same.sqm {K : PySem.W.Frag} {H H' : Hp} {a : Addr} {xs : List V} (e : Same H H') (h : SqM K H a xs) : SqM K H' a xs := by
  refine ⟨h.1, ?_⟩
  rcases h.2 with (h | ⟨o, h⟩) | h
  · exact .inl (.inl (e _ _ h))
  · exact .inl (.inr ⟨o, e _ _ h⟩)
  · exact .inr h
def kD : Key → D
  | .inl i => .int i
  | .inr x => .str x
section
variable (K : PySem.W.Frag) (H : Hp)
mutual
def Dv : D → V → Prop
  | .none, v => v = .non
  | .bool b, v => v = .bl b
  | .int i, v => v = .int i
  | .str x, v => v = .str x
  | .list ds, v => ∃ a vs, v = .ref a ∧ SqM K H a vs ∧ DvA ds vs
  | .tuple ds, v => ∃ a vs, v = .ref a ∧ (SqT K H a vs ∧ vs.length ≤ sizeLine) ∧ DvA ds vs
  | .dict kvs, v => ∃ a, v = .ref a ∧ ((∃ ks, H a = some (.dK ks) ∧ DvK kvs ks) ∨ ∃ ks, H a = some (.dT ks) ∧ DvT kvs ks)
def DvA : List D → List V → Prop
  | [], vs => vs = []
  | d :: ds, vs => ∃ v r, vs = v :: r ∧ Dv d v ∧ DvA ds r
def DvK : List (D × D) → List (Key × V) → Prop
  | [], ks => ks = []
  | (k, d) :: r, ks => ∃ q v t, ks = (q, v) :: t ∧ k = kD q ∧ Dv d v ∧ DvK r t
def DvT : List (D × D) → List (List Key × V) → Prop
  | [], ks => ks = []
  | (k, d) :: r, ks => ∃ q v t, ks = (q, v) :: t ∧ k = .tuple (q.map kD) ∧ Dv d v ∧ DvT r t
end
end
section
variable {K : PySem.W.Frag} {H H' : Hp}
mutual
theorem Dv.mono (s : Same H H') : ∀ (d : D) (v : V), Dv K H d v → Dv K H' d v
  | .none, _, h => by rw [Dv] at h ⊢; exact h
  | .bool b, _, h => by rw [Dv] at h ⊢; exact h
  | .int i, _, h => by rw [Dv] at h ⊢; exact h
  | .str x, _, h => by rw [Dv] at h ⊢; exact h
  | .list ds, _, h => by
    rw [Dv] at h ⊢
    obtain ⟨a, vs, e, q, r⟩ := h
    exact ⟨a, vs, e, Same.sqm s q, DvA.mono s ds vs r⟩
  | .tuple ds, _, h => by
    rw [Dv] at h ⊢
    obtain ⟨a, vs, e, q, r⟩ := h
    exact ⟨a, vs, e, ⟨Same.tup s q.1, q.2⟩, DvA.mono s ds vs r⟩
  | .dict kvs, _, h => by
    rw [Dv] at h ⊢
    obtain ⟨a, e, ⟨ks, q, r⟩ | ⟨ks, q, r⟩⟩ := h
    · exact ⟨a, e, .inl ⟨ks, s _ _ q, DvK.mono s kvs ks r⟩⟩
    · exact ⟨a, e, .inr ⟨ks, s _ _ q, DvT.mono s kvs ks r⟩⟩
theorem DvA.mono (s : Same H H') : ∀ (ds : List D) (vs : List V), DvA K H ds vs → DvA K H' ds vs
  | [], _, h => by rw [DvA] at h ⊢; exact h
  | d :: ds, _, h => by
    rw [DvA] at h ⊢
    obtain ⟨v, r, e, q, t⟩ := h
    exact ⟨v, r, e, Dv.mono s d v q, DvA.mono s ds r t⟩
theorem DvK.mono (s : Same H H') : ∀ (ds : List (D × D)) (vs : List (Key × V)), DvK K H ds vs → DvK K H' ds vs
  | [], _, h => by rw [DvK] at h ⊢; exact h
  | (k, d) :: ds, _, h => by
    rw [DvK] at h ⊢
    obtain ⟨q, v, t, e, e2, a, b⟩ := h
    exact ⟨q, v, t, e, e2, Dv.mono s d v a, DvK.mono s ds t b⟩
theorem DvT.mono (s : Same H H') : ∀ (ds : List (D × D)) (vs : List (List Key × V)), DvT K H ds vs → DvT K H' ds vs
  | [], _, h => by rw [DvT] at h ⊢; exact h
  | (k, d) :: ds, _, h => by
    rw [DvT] at h ⊢
    obtain ⟨q, v, t, e, e2, a, b⟩ := h
    exact ⟨q, v, t, e, e2, Dv.mono s d v a, DvT.mono s ds t b⟩
end
mutual
theorem Dv.dp : ∀ (d : D) (v : V), d.canLay0 = true → Dv K H d v → Dp K H v d
  | .none, _, _, h => by rw [Dv] at h; subst h; exact .non
  | .bool b, _, _, h => by rw [Dv] at h; subst h; exact .bl b
  | .int i, _, _, h => by rw [Dv] at h; subst h; exact .int i
  | .str x, _, _, h => by rw [Dv] at h; subst h; exact .str x
  | .list ds, _, c, h => by
    rw [Dv] at h
    obtain ⟨a, vs, rfl, q, r⟩ := h
    exact .lst q.sq (DvA.dp ds vs (by simpa [PyData.canLay0] using c) r)
  | .tuple ds, _, c, h => by
    rw [Dv] at h
    obtain ⟨a, vs, rfl, q, r⟩ := h
    exact .tup q.1 (DvA.dp ds vs (by simpa [PyData.canLay0] using c) r)
  | .dict kvs, _, c, h => by simp [PyData.canLay0] at c
theorem DvA.dp : ∀ (ds : List D) (vs : List V), PyData.canLayAll0 ds = true → DvA K H ds vs → DpAll K H vs ds
  | [], _, _, h => by rw [DvA] at h; subst h; exact .nil
  | d :: ds, _, c, h => by
    rw [DvA] at h
    obtain ⟨v, r, rfl, q, t⟩ := h
    simp only [PyData.canLayAll0, Bool.and_eq_true] at c
    exact .cons (Dv.dp d v c.1 q) (DvA.dp ds r c.2 t)
end
theorem DvA.len : ∀ {ds : List D} {vs : List V}, DvA K H ds vs → ds.length = vs.length
  | [], _, h => by rw [DvA] at h; subst h; rfl
  | d :: ds, _, h => by
    rw [DvA] at h
    obtain ⟨v, r, rfl, q, t⟩ := h
    simp [DvA.len t]
theorem DvA.get : ∀ {ds : List D} {vs : List V} {i : Nat} {d : D}, DvA K H ds vs → ds[i]? = some d → ∃ v, vs[i]? = some v ∧ Dv K H d v
  | [], _, _, _, _, e => by simp at e
  | d :: ds, _, 0, _, h, e => by
    rw [DvA] at h
    obtain ⟨v, r, rfl, q, t⟩ := h
    simp at e
    subst e
    exact ⟨v, rfl, q⟩
  | d :: ds, _, i + 1, _, h, e => by
    rw [DvA] at h
    obtain ⟨v, r, rfl, q, t⟩ := h
    obtain ⟨u, h1, h2⟩ := DvA.get (i := i) t (by simpa using e)
    exact ⟨u, by simpa using h1, h2⟩
theorem DvA.append : ∀ {ds es : List D} {vs us : List V}, DvA K H ds vs → DvA K H es us → DvA K H (ds ++ es) (vs ++ us)
  | [], _, _, _, h, h2 => by rw [DvA] at h; subst h; exact h2
  | d :: ds, _, _, _, h, h2 => by
    rw [DvA] at h
    obtain ⟨v, r, rfl, q, t⟩ := h
    show DvA K H (d :: (ds ++ _)) (v :: (r ++ _))
    rw [DvA]
    exact ⟨v, _, rfl, q, t.append h2⟩
theorem DvA.take : ∀ {ds : List D} {vs : List V} (n : Nat), DvA K H ds vs → DvA K H (ds.take n) (vs.take n)
  | [], _, n, h => by rw [DvA] at h; subst h; simp [DvA]
  | d :: ds, _, 0, h => by simp [DvA]
  | d :: ds, _, n + 1, h => by
    rw [DvA] at h
    obtain ⟨v, r, rfl, q, t⟩ := h
    show DvA K H (d :: ds.take n) (v :: r.take n)
    rw [DvA]
    exact ⟨v, _, rfl, q, t.take n⟩
theorem DvA.drop : ∀ {ds : List D} {vs : List V} (n : Nat), DvA K H ds vs → DvA K H (ds.drop n) (vs.drop n)
  | [], _, n, h => by rw [DvA] at h; subst h; simp [DvA]
  | d :: ds, _, 0, h => h
  | d :: ds, _, n + 1, h => by
    rw [DvA] at h
    obtain ⟨v, r, rfl, q, t⟩ := h
    exact t.drop n
theorem DvA.set : ∀ {ds : List D} {vs : List V} {d : D} {v : V} (i : Nat), DvA K H ds vs → Dv K H d v → DvA K H (ds.set i d) (vs.set i v)
  | [], _, _, _, i, h, _ => by rw [DvA] at h; subst h; simp [DvA]
  | x :: ds, _, d, v, 0, h, q => by
    rw [DvA] at h
    obtain ⟨u, r, rfl, _, t⟩ := h
    show DvA K H (d :: ds) (v :: r)
    rw [DvA]
    exact ⟨v, r, rfl, q, t⟩
  | x :: ds, _, d, v, i + 1, h, q => by
    rw [DvA] at h
    obtain ⟨u, r, rfl, q0, t⟩ := h
    show DvA K H (x :: ds.set i d) (u :: r.set i v)
    rw [DvA]
    exact ⟨u, _, rfl, q0, t.set i q⟩
theorem DvA.ints : ∀ {ds : List D} {vs : List V} {ns : List Int}, DvA K H ds vs → intsOf ds = some ns → vs = ns.map V.int ∧ ds = ns.map PyData.int
  | [], _, ns, h, e => by
    rw [DvA] at h
    simp [intsOf] at e
    subst h e
    exact ⟨rfl, rfl⟩
  | d :: ds, _, ns, h, e => by
    rw [DvA] at h
    obtain ⟨v, r, rfl, q, t⟩ := h
    cases d with
    | int i =>
      simp only [intsOf, Option.map_eq_some_iff] at e
      obtain ⟨m, e1, rfl⟩ := e
      rw [Dv] at q
      subst q
      obtain ⟨e2, e3⟩ := t.ints e1
      exact ⟨by rw [e2]; rfl, by rw [e3]; rfl⟩
    | _ => simp [intsOf] at e
theorem DvA.bools : ∀ {ds : List D} {vs : List V} {bs : List Bool}, DvA K H ds vs → boolsOf ds = some bs → vs = bs.map V.bl
  | [], _, ns, h, e => by
    rw [DvA] at h
    simp [boolsOf] at e
    subst h e
    rfl
  | d :: ds, _, ns, h, e => by
    rw [DvA] at h
    obtain ⟨v, r, rfl, q, t⟩ := h
    cases d with
    | bool b =>
      simp only [boolsOf, Option.map_eq_some_iff] at e
      obtain ⟨m, e1, rfl⟩ := e
      rw [Dv] at q
      subst q
      rw [t.bools e1]
      rfl
    | _ => simp [boolsOf] at e
theorem DvA.of_ints : ∀ {ns : List Int}, DvA K H (ns.map .int) (ns.map V.int)
  | [] => by simp [DvA]
  | n :: ns => by
    show DvA K H (.int n :: ns.map .int) (.int n :: ns.map V.int)
    rw [DvA]
    exact ⟨_, _, rfl, by rw [Dv], DvA.of_ints⟩

/-! ### owned lists -/
/-- what stands at v is d, by the shape sh; the lists at fp are the owner's own -/
def Own (K : PySem.W.Frag) (H : Hp) (O : Ps) : Sh → D → V → Ps → Prop
  | .f, d, v, fp => (∀ a, ¬ fp a) ∧ Dv K (hid H O) d v
  | .l s, d, v, fp => ∃ (a : Addr) (vs : List V) (ds : List D) (g : Nat → Ps), v = .ref a ∧ d = .list ds ∧ H a = some (.lst vs) ∧ (vs.length = ds.length ∧ vs.length ≤ sizeLine) ∧
      (∀ (i : Nat) (x : D) (y : V), ds[i]? = some x → vs[i]? = some y → Own K H O s x y (g i)) ∧ (∀ i j b, g i b → g j b → i = j) ∧ (∀ i b, g i b → b ≠ a) ∧ (∀ b, fp b ↔ b = a ∨ ∃ i, i < ds.length ∧ g i b)
theorem Own.dom {O : Ps} : ∀ {s : Sh} {d : D} {v : V} {fp : Ps}, Own K H O s d v fp → ∀ a, fp a → H a ≠ none
  | .f, d, v, fp, h, a, q => absurd q (h.1 a)
  | .l s, d, v, fp, h, b, q => by
    obtain ⟨a, vs, ds, g, rfl, rfl, ha, hl, hi, _, _, hf⟩ := h
    rcases (hf b).mp q with rfl | ⟨i, hi', hg⟩
    · rw [ha]; simp
    · exact Own.dom (hi i ds[i] (vs[i]'(by have := hl.1; omega)) (by simp [hi']) (by simp)) b hg
theorem Own.mono {O O' : Ps} (s0 : Same H H') (ho : ∀ a, O' a → O a ∨ H a = none) : ∀ {s : Sh} {d : D} {v : V} {fp : Ps}, Own K H O s d v fp → Own K H' O' s d v fp
  | .f, d, v, fp, h => ⟨h.1, Dv.mono (same_hid s0 ho) d v h.2⟩
  | .l s, d, v, fp, h => by
    obtain ⟨a, vs, ds, g, e1, e2, ha, hl, hi, h1, h2, h3⟩ := h
    exact ⟨a, vs, ds, g, e1, e2, s0 _ _ ha, hl, fun i x y q r => Own.mono s0 ho (hi i x y q r), h1, h2, h3⟩
/-- as it may be read -/
theorem DvA.of_get : ∀ {ds : List D} {vs : List V}, ds.length = vs.length → (∀ (i : Nat) (d : D) (v : V), ds[i]? = some d → vs[i]? = some v → Dv K H d v) → DvA K H ds vs
  | [], [], _, _ => by simp [DvA]
  | [], _ :: _, e, _ => by simp at e
  | d :: ds, [], e, _ => by simp at e
  | d :: ds, v :: vs, e, h => by
    rw [DvA]
    exact ⟨v, vs, rfl, h 0 d v rfl rfl, DvA.of_get (by simpa using e) fun i x y q r => h (i + 1) x y (by simpa using q) (by simpa using r)⟩
theorem Own.dv {O O' : Ps} (ho : ∀ a, O' a → O a) : ∀ {s : Sh} {d : D} {v : V} {fp : Ps}, Own K H O s d v fp → (∀ a, fp a → ¬ O' a) → Dv K (hid H O') d v
  | .f, d, v, fp, h, _ => Dv.mono (same_hid (Same.refl H) fun a z => .inl (ho a z)) d v h.2
  | .l s, d, v, fp, h, hn => by
    obtain ⟨a, vs, ds, g, rfl, rfl, ha, hl, hi, h1, h2, h3⟩ := h
    rw [Dv]
    refine ⟨a, vs, rfl, ⟨hl.2, .inl (.inl (hid_some.mpr ⟨hn a ((h3 a).mpr (.inl rfl)), ha⟩))⟩, DvA.of_get hl.1.symm fun i x y q r => ?_⟩
    have hlt : i < ds.length := (List.getElem?_eq_some_iff.mp q).1
    exact Own.dv ho (hi i x y q r) fun b hb => hn b ((h3 b).mpr (.inr ⟨i, hlt, hb⟩))
theorem Own.all {O : Ps} {s : Sh} {d : D} {v : V} {fp : Ps} (h : Own K H O s d v fp) : Dv K H d v :=
  Dv.mono hid_le d v (Own.dv (O' := fun _ => False) (fun _ z => z.elim) h fun _ _ z => z)
end

/-! ### slots -/
structure ER (K : PySem.W.Frag) (ms : List Sh) (ρ : En) (σ : L2.St) (H : Hp) (O : Ps) (F : Nat → Ps) : Prop where
  len : ρ.length = σ.length
  at_ : ∀ i d, ρ[i]? = some (some d) → ∃ v, σ[i]? = some (some v) ∧ Own K H O (ms.getD i .f) d v (F i)
  sub : ∀ i a, F i a → O a
  dj : ∀ i j a, F i a → F j a → i = j
  dom : ∀ a, O a → H a ≠ none
section
variable {K : PySem.W.Frag} {ms : List Sh} {ρ : En} {σ : L2.St} {H H' : Hp} {O : Ps} {F : Nat → Ps}
theorem ER.mono (e : ER K ms ρ σ H O F) (s : Same H H') : ER K ms ρ σ H' O F where
  len := e.len
  at_ := fun i d q => let ⟨v, h1, h2⟩ := e.at_ i d q; ⟨v, h1, h2.mono s fun _ z => .inl z⟩
  sub := e.sub
  dj := e.dj
  dom := fun a z q => by
    cases h : H a with
    | none => exact e.dom a z h
    | some o => rw [s a o h] at q; cases q
end
/-- read: within what is owned -/
def Bd (K : PySem.W.Frag) (H : Hp) (O : Ps) (s : Sh) (d : D) (v : V) : Prop := ∃ fp : Ps, (∀ a, fp a → O a) ∧ Own K H O s d v fp
theorem Bd.all {K : PySem.W.Frag} {H : Hp} {O : Ps} {s : Sh} {d : D} {v : V} (h : Bd K H O s d v) : Dv K H d v := let ⟨_, _, h⟩ := h; h.all
theorem Bd.mono {K : PySem.W.Frag} {H H' : Hp} {O : Ps} {s : Sh} {d : D} {v : V} (h : Bd K H O s d v) (s0 : Same H H') : Bd K H' O s d v := let ⟨fp, h1, h2⟩ := h; ⟨fp, h1, h2.mono s0 fun _ z => .inl z⟩
theorem Bd.fz {K : PySem.W.Frag} {H : Hp} {O : Ps} {d : D} {v : V} (h : Bd K H O .f d v) : Dv K (hid H O) d v := let ⟨_, _, h⟩ := h; h.2
theorem Bd.of {K : PySem.W.Frag} {H : Hp} {O : Ps} {d : D} {v : V} (h : Dv K (hid H O) d v) : Bd K H O .f d v := ⟨fun _ => False, fun _ z => z.elim, fun _ z => z, h⟩
end Bk
/-! Bk: what a def promises, where the guards around it are known to be none. -/
namespace Bk
open PySem PySem.Spec PyProof.Rows L2
structure Fk (P : Program) (w : World) (K : PySem.W.Frag) (mg : Str → Option Value) (base : Heap)
    (CX : CXT) (k : Nat) (f : Addr) (fd : FuncData) (ps : List Str) (sp : Sp) : Prop where
  len : ∀ {vs : List V} {H : Hp} {Q : VK} {E : XK}, sp vs H Q E → vs.length = ps.length
  run : ∀ (A : Around) (outer : List Env) (s : Shared) (H : Hp) (args : Args) (us : List Value)
    (vs : List V) (Q : VK) (E : XK), Room k A → A.guards = some [] → Env0 P w K mg base A outer s H →
    BindsTo s fd args (ps.zip us) → Vals vs us → sp vs H Q E →
    codeAny (model P w) A (.call (.ref f) args) (CR CX outer P w H s Q E) s
section
variable {P : Program} {w : World} {K : PySem.W.Frag} {mg : Str → Option Value} {base : Heap} {CX : CXT}
variable {k : Nat} {f : Addr} {fd : FuncData} {ps N : List Str} {sp : Sp}
/-- a def of the text, by its body -/
theorem fk_of {name qual : Str} {params : Arguments} {body : List Stmt} {scope : Scope}
    {dV kV doc pm cdv ct oc : Value} {an od : Option Addr} {osl : Array (Option Value)}
    (lk : K.lookup f = some ⟨oc, od, .func (PySem.W.fnOf name qual params body scope dV kV doc pm an cdv ct), osl⟩)
    (hcd : PySem.W.codeIn K cdv qual = true) (S : FnScope N ps scope)
    (len : ∀ {vs : List V} {H : Hp} {Q : VK} {E : XK}, sp vs H Q E → vs.length = ps.length)
    (hb : ∀ (A : Around) (outer : List Env) (s : Shared) (H : Hp) (vs : List V) (Q : VK) (E : XK),
      Room k (A.deeper (envOfC qual scope s.heap.objs.size f cdv)) →
      (A.deeper (envOfC qual scope s.heap.objs.size f cdv)).guards = some [] → sp vs H Q E →
      ∃ t, PSs (cxOf CX P w K mg base N qual scope f cdv A outer s H E) body t ∧
        t { nx := fun _ H' => Q .non H', rt := Q } (start N vs) H) :
    Fk P w K mg base CX (k + 1) f (PySem.W.fnOf name qual params body scope dV kV doc pm an cdv ct) ps sp := by
  refine ⟨len, fun A outer s H args us vs Q E room hg e0 hbi rv hsp => ?_⟩
  have vl := len hsp
  have inK : K.In s.heap := e0.mod.kin.keeps fun b o e => (e0.bs b o e).1
  have noL : s.heap.NoLimit := e0.mod.nolimit.keeps fun b o e => (e0.bs b o e).1
  have kinds : ∀ y ∈ ps.zip us, scope.names.lookup y.1 = some .local ∨
      (scope.names.lookup y.1 = some .cell ∧
        ((cellsFrom (s.heap.objs.size + 1) scope.names []).lookup y.1).isSome = true) := by
    rintro ⟨n, v⟩ hy
    rcases S.par n (List.of_mem_zip hy).1 with q | q
    · exact .inl q
    · exact .inr ⟨q, PySem.W.cellsFrom_some _ _ _ (.inl q)⟩
  refine codeAny_call_function room.depth (inK _ _ lk) rfl S.co S.gen rfl
    (PySem.W.codeRec_of inK hcd) (hbi _ _ _ _ ?_)
  refine wpAny_newFunctionEnv_cells S.kind kinds fun env he s1 x => ?_
  subst he
  refine ⟨noL.keeps x.toInCall.keep, codeAny_func ?_⟩
  obtain ⟨t, ht, hq⟩ := hb A outer s H vs Q E (room.deeper _) hg hsp
  have I0 := inv_start (CX := CX) (P := P) (w := w) (mg := mg) (E := E) S room.hd e0 vl rv x
  refine wpAny_mono (ht.run [] s1 (start N vs) H _ I0 hq) (fun fl s' hs => ?_) fun e s' hs => hs
  cases fl with
  | ret u =>
    obtain ⟨v, σ', H', J, rv, q⟩ := hs
    exact ⟨v, H', J.os, J.bare, J.base, J.hok, rv, q⟩
  | next =>
    obtain ⟨σ', H', J, q⟩ := hs
    exact ⟨V.non, H', J.os, J.bare, J.base, J.hok, rfl, q⟩
  | brk => exact hs.elim fun _ z => z.elim fun _ z => z.2.elim
  | cont => exact hs.elim fun _ z => z.elim fun _ z => z.2.elim
end
section
variable {X : Cx} {CX : CXT} {k : Nat} {f : Addr} {fd : FuncData} {ps : List Str} {sp : Sp} {E : XK} {x : Str}
/-- the callee runs -/
theorem run_fk {pins : List (Addr × Obj)} {σ : L2.St} {H : Hp} {s : Shared} {Q : VK} {us : List Value} {vs : List V}
    (F : Fk X.prog X.w X.K X.mg X.base CX k f fd ps sp) (room : Room k X.A) (hg : X.A.guards = some [])
    (hb : Binds X.K fd ps []) (hx : Passes CX X E) (I : Inv X pins σ H s) (r : Vals vs us) (h : sp vs H Q E) :
    wpAny (model X.prog X.w) X.A (call (.ref f) us) (EP X pins σ Q) X.xe s := by
  have ln : (us ++ []).length = ps.length := by
    rw [List.append_nil, ← r.length]
    exact F.len h
  have bn := hb s us I.kIn ln
  rw [List.append_nil] at bn
  refine wpAny_call (codeAny_mono (F.run X.A X.stack s H ⟨us, []⟩ us vs Q E room hg I.env0 bn r h) ?_)
  intro r s' hq
  cases r with
  | error e => exact hx pins σ H s e s' I hq
  | ok fl =>
    cases fl with
    | ret u => exact I.after hq
    | next => exact False.elim hq
    | brk => exact False.elim hq
    | cont => exact False.elim hq
theorem pe_fk {e : Expr} {es : List Expr} {p pos : Pos} {t : TA} (F : Fk X.prog X.w X.K X.mg X.base CX k f fd ps sp)
    (room : Room k X.A) (hg : X.A.guards = some []) (hb : Binds X.K fd ps []) (hx : Passes CX X E)
    (gx : Gl X x) (hm : X.mg x = some (.ref f)) (hk : PySem.W.keepIn X.K (.ref f) = true) (ha : PA X (e :: es) t)
    (hdb : (x == ("__debug__" : Str)) = false)
    (he : starEach (e :: es) X.env = (false, eval e X.env) :: starEach es X.env)
    (hpl : (backTo pos (starEach es X.env)).any (·.1) = false) :
    PE X (.Call (.Name x p) (e :: es) [] pos) (fun σ H Q => t σ H fun vs H1 => sp vs H1 Q E) := by
  refine ⟨fun pins s σ H Q I h => ?_⟩
  refine wpAny_Call_Name_kw (ld_glob I gx hm ?_ hdb)
  refine PySem.W.callWith_K (h₀ := X.base) I.ok.mod.kin hk (thn (ha.run pos pins s σ H _ I h) ?_) he hpl
  rintro us s1 ⟨vs, H1, I1, r, q⟩
  exact ⟨I1.kIn, run_fk F room hg hb hx I1 r q⟩
end
end Bk
/-! Bk: operators, by values. -/
namespace Bk
open PySem PySem.Spec PyProof.Rows L2
section
variable {K : PySem.W.Frag} {H : Hp}
theorem dv_int {d : D} {v : V} {i : Int} (h : Dv K H d v) (e : d = .int i) : v = .int i := by subst e; rwa [Dv] at h
theorem dv_list {d : D} {v : V} {xs : List D} (h : Dv K H d v) (e : d = .list xs) : ∃ a vs, v = .ref a ∧ SqM K H a vs ∧ DvA K H xs vs := by subst e; rwa [Dv] at h
theorem dv_tup {d : D} {v : V} {xs : List D} (h : Dv K H d v) (e : d = .tuple xs) : ∃ a vs, v = .ref a ∧ SqT K H a vs ∧ DvA K H xs vs := by
  subst e
  rw [Dv] at h
  obtain ⟨a, vs, h1, h2, h3⟩ := h
  exact ⟨a, vs, h1, h2.1, h3⟩
theorem dv_tupl {d : D} {v : V} {xs : List D} (h : Dv K H d v) (e : d = .tuple xs) : xs.length ≤ sizeLine := by
  subst e
  rw [Dv] at h
  obtain ⟨a, vs, h1, h2, h3⟩ := h
  rw [h3.len]
  exact h2.2
end
theorem most_eq : (sizeLine : Nat) = most := by rw [sizeLine_eq]; rfl
/-- the operator g on data, not owned -/
def rD (K : PySem.W.Frag) (g : D → D → Res D) : R2 := fun x y H Q => ∃ (O : Ps) (d e z : D), Dv K (hid H O) d x ∧ Dv K (hid H O) e y ∧ (∀ a, O a → H a ≠ none) ∧
  g d e = .ok z ∧ ∀ v H', Same H H' → Dv K (hid H' O) z v → Q v H'
/-- a comparison -/
def rC (K : PySem.W.Frag) (g : D → D → Res Bool) : R2 := fun x y H Q => ∃ d e b, Dv K H d x ∧ Dv K H e y ∧ g d e = .ok b ∧ Q (.bl b) H
section
variable {X : Cx}
theorem new_lst {K : PySem.W.Frag} {H : Hp} {O : Ps} {p : Addr} {vs : List V} {ds : List D} (hz : ds.length ≤ sizeLine) (np : H p = none) (hO : ∀ a, O a → H a ≠ none) (h : DvA K (hid H O) ds vs) : Dv K (hid (upd H p (.lst vs)) O) (.list ds) (.ref p) := by
  rw [Dv]
  exact ⟨p, vs, rfl, ⟨by rw [← h.len]; exact hz, .inl (.inl (hid_some.mpr ⟨fun z => hO p z np, upd_same⟩))⟩, DvA.mono (same_hid (same_new np) fun a z => .inl z) ds vs h⟩
theorem new_tup {K : PySem.W.Frag} {H : Hp} {O : Ps} {p : Addr} {vs : List V} {ds : List D} (hz : ds.length ≤ sizeLine) (np : H p = none) (hO : ∀ a, O a → H a ≠ none) (h : DvA K (hid H O) ds vs) : Dv K (hid (upd H p (.tup vs)) O) (.tuple ds) (.ref p) := by
  rw [Dv]
  exact ⟨p, vs, rfl, ⟨.inl (.inl (hid_some.mpr ⟨fun z => hO p z np, upd_same⟩)), by rw [← h.len]; exact hz⟩, DvA.mono (same_hid (same_new np) fun a z => .inl z) ds vs h⟩
/-- list + list, of any lists that may be read -/
theorem op_catS : OpR X (binaryOp .Add) (fun x y H Q => ∃ l b xs zs, x = .ref l ∧ y = .ref b ∧ SqM X.K H l xs ∧ SqM X.K H b zs ∧ xs.length + zs.length ≤ sizeLine ∧
    ∀ p, H p = none → Q (.ref p) (upd H p (.lst (xs ++ zs)))) := by
  intro pins s σ H x y v u Q I rx ry h
  obtain ⟨l, b, xs, zs, rfl, rfl, hl, hb, hz, q⟩ := h
  cases rx
  cases ry
  obtain ⟨z1, i1, n1, r1, e1⟩ := hl.at I
  obtain ⟨z2, i2, n2, r2, e2⟩ := hb.at I
  have l1 := r1.length
  have l2 := r2.length
  refine PySem.P.add_list e1 e2 ?_ (by rw [List.size_toArray, List.size_toArray]; omega)
  have ea : i1.toArray ++ i2.toArray = (i1 ++ i2).toArray := by simp
  rw [ea]
  exact ⟨.ref _, _, I.lnew (t' := s.toks) (r1.append r2) (by rw [List.length_append]; omega), rfl, q _ I.fresh⟩
theorem OpR.rd {f : Value → Value → Sem Value} {r : R2} {g : D → D → Res D} (h : OpR X f r) (hi : ∀ (H : Hp) (O : Ps) (x y : V) (d e z : D) (Q : VK), Dv X.K (hid H O) d x → Dv X.K (hid H O) e y → (∀ a, O a → H a ≠ none) →
    g d e = .ok z → (∀ v H', Same H H' → Dv X.K (hid H' O) z v → Q v H') → r x y H Q) : OpR X f (rD X.K g) := by
  intro pins s σ H x y v u Q I rx ry w
  obtain ⟨O, d, e, z, h1, h2, h3, h4, h5⟩ := w
  exact h pins s σ H x y v u Q I rx ry (hi H O x y d e z Q h1 h2 h3 h4 h5)
theorem OpR.rc {f : Value → Value → Sem Value} {r : R2} {g : D → D → Res Bool} (h : OpR X f r) (hi : ∀ (H : Hp) (x y : V) (d e : D) (b : Bool) (Q : VK), Dv X.K H d x → Dv X.K H e y →
    g d e = .ok b → Q (.bl b) H → r x y H Q) : OpR X f (rC X.K g) := by
  intro pins s σ H x y v u Q I rx ry w
  obtain ⟨d, e, z, h1, h2, h4, h5⟩ := w
  exact h pins s σ H x y v u Q I rx ry (hi H x y d e z Q h1 h2 h4 h5)
/-- by cases -/
theorem OpR.alt {f : Value → Value → Sem Value} {r1 r2 r : R2} (h1 : OpR X f r1) (h2 : OpR X f r2) (h : ∀ x y H Q, r x y H Q → r1 x y H Q ∨ r2 x y H Q) : OpR X f r := by
  intro pins s σ H x y v u Q I rx ry w
  rcases h x y H Q w with q | q
  · exact h1 pins s σ H x y v u Q I rx ry q
  · exact h2 pins s σ H x y v u Q I rx ry q
theorem hid_sqm {K : PySem.W.Frag} {H : Hp} {O : Ps} {a : Addr} {xs : List V} (h : SqM K (hid H O) a xs) : SqM K H a xs := Same.sqm hid_le h
theorem hid_sqt {K : PySem.W.Frag} {H : Hp} {O : Ps} {a : Addr} {xs : List V} (h : SqT K (hid H O) a xs) : SqT K H a xs := Same.tup hid_le h
theorem same_dv {K : PySem.W.Frag} {H : Hp} {O : Ps} (d : D) (v : V) (h : Dv K (hid H O) d v) : Dv K H d v := Dv.mono hid_le d v h
theorem op_addD : OpR X (binaryOp .Add) (rD X.K addD) := by
  have o1 := (op_add (X := X)).or ((op_catS (X := X)).or ((op_catT (X := X)).or op_add_str))
  refine OpR.rd o1 fun H O x y d e z Q h1 h2 h3 h4 h5 => ?_
  unfold addD at h4
  split at h4
  · cases h4
    exact .inl ⟨_, _, dv_int h1 rfl, dv_int h2 rfl, h5 _ H (Same.refl H) (by rw [Dv])⟩
  · split at h4 <;> cases h4
    rename_i xs ys hz
    obtain ⟨a, vs, rfl, ha, ra⟩ := dv_list h1 rfl
    obtain ⟨b, us, rfl, hb, rb⟩ := dv_list h2 rfl
    refine .inr (.inl ⟨a, b, vs, us, rfl, rfl, hid_sqm ha, hid_sqm hb, ?_, fun p np => h5 _ _ (same_new np) (new_lst (by rw [List.length_append, most_eq]; exact hz) np h3 (ra.append rb))⟩)
    rw [← ra.len, ← rb.len, most_eq]
    exact hz
  · split at h4 <;> cases h4
    rename_i xs ys hz
    simp only [Bool.and_eq_true, Bool.not_eq_true', decide_eq_true_eq] at hz
    obtain ⟨a, vs, rfl, ha, ra⟩ := dv_tup h1 rfl
    obtain ⟨b, us, rfl, hb, rb⟩ := dv_tup h2 rfl
    have la := ra.len
    have lb := rb.len
    have nv : vs ≠ [] := fun q => by
      subst q
      have : xs = [] := List.eq_nil_of_length_eq_zero la
      rw [this] at hz
      simp at hz
    have nu : us ≠ [] := fun q => by
      subst q
      have : ys = [] := List.eq_nil_of_length_eq_zero lb
      rw [this] at hz
      simp at hz
    refine .inr (.inr (.inl ⟨a, b, vs, us, rfl, rfl, hid_sqt ha, hid_sqt hb, nv, ?_, fun q => absurd q nu, fun _ p np => h5 _ _ (same_new np) (new_tup (by rw [List.length_append, most_eq]; exact hz.2) np h3 (ra.append rb))⟩))
    rw [← la, ← lb, most_eq]
    exact hz.2
  · split at h4 <;> cases h4
    rename_i hz
    rw [Dv] at h1 h2
    refine .inr (.inr (.inr ⟨_, _, h1, h2, by rw [most_eq]; exact hz, h5 _ H (Same.refl H) (by rw [Dv])⟩))
  · cases h4
theorem op_repS : OpR X (binaryOp .Mult) (fun x y H Q => ∃ l k xs, x = .ref l ∧ y = .int k ∧ SqM X.K H l xs ∧ -(2 ^ 63) ≤ k ∧ k < 2 ^ 63 ∧ xs.length * k.toNat ≤ sizeLine ∧
    ∀ p, H p = none → Q (.ref p) (upd H p (.lst (List.replicate k.toNat xs).flatten))) := by
  intro pins s σ H x y v u Q I rx ry h
  obtain ⟨l, k, xs, rfl, rfl, hl, h1, h2, hz, q⟩ := h
  have hk := hl.at I
  obtain ⟨z1, i1, n1, r1, e1⟩ := hk
  -- the list is laid down as tracked in a heap that the invariant bears
  by_cases ht : H l = some (.lst xs)
  · exact op_rep pins s σ H _ _ v u Q I rx ry ⟨l, k, xs, rfl, rfl, ht, h1, h2, hz, q⟩
  · cases rx
    obtain ⟨t, rfl⟩ := ry
    have hlen : i1.toArray.size * k.toNat ≤ sizeLine := by rw [List.size_toArray, ← r1.length]; exact hz
    have hcap : ¬ i1.toArray.size * k.toNat > (2 ^ 63 - 1) / 8 := by
      have := show (sizeLine : Nat) ≤ (2 ^ 63 - 1) / 8 by decide
      omega
    have hfit : ¬ (!Builtin.List.listFitsIndex k) = true := by rw [fitsIndex_both h1 h2]; exact Bool.false_ne_true
    have hlong : ¬ Builtin.List.listTooLong (i1.toArray.size * k.toNat) = true := by rw [notLongL hlen]; exact Bool.false_ne_true
    have hnew : List.foldl (fun a b => a ++ b) #[] (List.replicate (if i1.toArray.isEmpty = true then 0 else k.toNat) i1.toArray) = (List.replicate k.toNat i1).flatten.toArray := by
      have f0 : ∀ m : Nat, List.foldl (fun a b => a ++ b) #[] (List.replicate m i1.toArray) = (List.replicate m i1).flatten.toArray := fun m => by
        have q0 := foldl_rep i1 m []
        rwa [List.nil_append] at q0
      rw [f0]
      cases i1 with
      | nil => simp
      | cons a r' => rw [if_neg (by simp)]
    refine wpAny_binaryOp_repeat_ref (T := "list") (U := "int") (by decide) ⟨_, e1, rfl⟩ (fun s' => typeIs_int s' k t) noFill_list_mul F.fills_int_mul F.slot_int_rmul repeat_list F.slot_int_index.lookup ?_
    refine call_meets F.slot_int_rmul (typeIs_int s k t) F.entry_int_rmul (F.args_int_rmul_2 _ _) (int___rmul___int_list k t l i1.toArray n1) ⟨e1, rfl, ⟨_, e1, rfl⟩, ?_⟩
    refine call_meets F.slot_list_mul ⟨_, e1, rfl⟩ F.entry_list_mul (F.args_list_mul_2 _ _) (AutoListH.list___mul___list_int_3 l i1.toArray n1 k t hfit hcap hlong) ⟨e1, ?_⟩
    rw [hnew]
    exact ⟨.ref _, _, I.lnew (t' := s.toks) (r1.rep k.toNat) (by rw [PyProof.Rows.lm_len_rep_flat, Nat.mul_comm]; exact hz), rfl, q _ I.fresh⟩
theorem op_mulD : OpR X (binaryOp .Mult) (rD X.K mulD) := by
  refine OpR.rd ((op_mul (X := X)).or op_repS) fun H O x y d e z Q h1 h2 h3 h4 h5 => ?_
  unfold mulD at h4
  split at h4
  · split at h4 <;> cases h4
    rename_i hz
    refine .inl ⟨_, _, dv_int h1 rfl, dv_int h2 rfl, ?_, h5 _ H (Same.refl H) (by rw [Dv])⟩
    simpa [mulOk, CMul] using hz
  · split at h4 <;> cases h4
    rename_i xs k hz
    simp only [Bool.and_eq_true, decide_eq_true_eq] at hz
    obtain ⟨a, vs, rfl, ha, ra⟩ := dv_list h1 rfl
    refine .inr ⟨a, k, vs, rfl, dv_int h2 rfl, hid_sqm ha, hz.1.1, hz.1.2, ?_, fun p np => h5 _ _ (same_new np) (new_lst ?_ np h3 ?_)⟩
    · rw [← ra.len, most_eq]
      exact hz.2
    · rw [PyProof.Rows.lm_len_rep_flat, Nat.mul_comm, most_eq]
      exact hz.2
    · have rep : ∀ n : Nat, DvA X.K (hid H O) (List.replicate n xs).flatten (List.replicate n vs).flatten := by
        intro n
        induction n with
        | zero => simp [DvA]
        | succ n ih =>
          rw [List.replicate_succ, List.flatten_cons, List.replicate_succ, List.flatten_cons]
          exact ra.append ih
      exact rep _
  · cases h4
theorem op_intD {o : BO} {op : Operator} {C : Int → Int → Prop} {g : Int → Int → Int} (h : OpR X (binaryOp op) (rI C fun i j => .int (g i j)))
    (ho : ∀ i j z, opI o i j = .ok z → C i j ∧ z = .int (g i j)) (hd : ∀ d e, opD o d e = match d, e with
      | .int i, .int j => opI o i j
      | _, _ => .bad) : OpR X (binaryOp op) (rD X.K (opD o)) := by
  refine OpR.rd h fun H O x y d e z Q h1 h2 h3 h4 h5 => ?_
  rw [hd] at h4
  split at h4
  · rename_i i j
    obtain ⟨c, rfl⟩ := ho i j z h4
    exact ⟨i, j, dv_int h1 rfl, dv_int h2 rfl, c, h5 _ H (Same.refl H) (by rw [Dv])⟩
  · cases h4
theorem opR_imp {f : Value → Value → Sem Value} {r r' : R2} (h : OpR X f r) (i : ∀ x y H Q, r' x y H Q → r x y H Q) : OpR X f r' := fun pins s σ H x y v u Q I rx ry w => h pins s σ H x y v u Q I rx ry (i x y H Q w)
theorem rI0_rI {g : Int → Int → V} {x y : V} {H : Hp} {Q : VK} (h : rI (fun _ _ => True) g x y H Q) : rI0 g x y H Q := let ⟨i, j, a, b, _, q⟩ := h; ⟨i, j, a, b, q⟩
def pyO : BO → Operator
  | .add => .Add
  | .sub => .Sub
  | .mul => .Mult
  | .fdiv => .FloorDiv
  | .mod => .Mod
  | .pow => .Pow
  | .shl => .LShift
  | .shr => .RShift
  | .band => .BitAnd
  | .bxor => .BitXor
theorem opR_D (o : BO) : OpR X (binaryOp (pyO o)) (rD X.K (opD o)) := by
  cases o with
  | add => exact op_addD
  | mul => exact op_mulD
  | sub => exact op_intD (opR_imp op_sub fun _ _ _ _ => rI0_rI) (fun i j z h => by simp only [opI] at h; cases h; exact ⟨trivial, rfl⟩) fun d e => by cases d <;> cases e <;> rfl
  | fdiv =>
    refine op_intD op_fdivW (fun i j z h => ?_) fun d e => by cases d <;> cases e <;> rfl
    simp only [opI] at h
    split at h <;> cases h
    rename_i hz
    simp only [Bool.and_eq_true, decide_eq_true_eq] at hz
    refine ⟨wide_div (b := 300) hz.1 ?_ (by decide) (by decide), rfl⟩
    have h1 : j.natAbs < 10 ^ 70 := by omega
    exact Nat.lt_trans h1 (by decide +kernel)
  | mod =>
    refine op_intD op_mod (fun i j z h => ?_) fun d e => by cases d <;> cases e <;> rfl
    simp only [opI] at h
    split at h <;> cases h
    exact ⟨by assumption, rfl⟩
  | pow =>
    refine op_intD op_pow (fun i j z h => ?_) fun d e => by cases d <;> cases e <;> rfl
    simp only [opI] at h
    split at h <;> cases h
    rename_i hz
    simp only [Bool.and_eq_true, decide_eq_true_eq] at hz
    exact ⟨⟨hz.1.1, by omega, hz.2⟩, rfl⟩
  | shl =>
    refine op_intD op_shl (fun i j z h => ?_) fun d e => by cases d <;> cases e <;> rfl
    simp only [opI] at h
    split at h <;> cases h
    rename_i hz
    simp only [Bool.and_eq_true, decide_eq_true_eq] at hz
    exact ⟨⟨hz.1.1, by omega, hz.2⟩, rfl⟩
  | shr =>
    refine op_intD op_shr (fun i j z h => ?_) fun d e => by cases d <;> cases e <;> rfl
    simp only [opI] at h
    split at h <;> cases h
    exact ⟨by assumption, rfl⟩
  | band => exact op_intD (opR_imp op_and fun _ _ _ _ => rI0_rI) (fun i j z h => by simp only [opI] at h; cases h; exact ⟨trivial, rfl⟩) fun d e => by cases d <;> cases e <;> rfl
  | bxor => exact op_intD (opR_imp op_xor fun _ _ _ _ => rI0_rI) (fun i j z h => by simp only [opI] at h; cases h; exact ⟨trivial, rfl⟩) fun d e => by cases d <;> cases e <;> rfl

/-! ### comparisons -/
theorem shaped_lay {d : D} (h : SeqAt.shaped d = true) : d.canLay0 = true := SeqAt.canLay_of_shaped h
theorem eqStr_ok {d e : D} {b : Bool} (h : eqStr d e = .ok b) : ∃ x y, d = .str x ∧ e = .str y ∧ b = decide (x = y) := by
  unfold eqStr at h
  split at h
  · cases h
    exact ⟨_, _, rfl, rfl, rfl⟩
  · cases h
theorem rc_eq (hu : X.A.units + 64 < cLine) : OpR X (compareOp .Eq) (rC X.K eqD) := by
  refine OpR.rc ((op_eqD hu).or op_eq) fun H x y d e b Q h1 h2 h4 q => ?_
  unfold eqD at h4
  split at h4
  · rename_i hz
    cases h4
    rw [Bool.and_eq_true] at hz
    exact .inl ⟨d, e, Dv.dp d x (shaped_lay hz.1) h1, Dv.dp e y (shaped_lay hz.2) h2, hz.1, hz.2, q⟩
  · obtain ⟨u, v, rfl, rfl, rfl⟩ := eqStr_ok h4
    rw [Dv] at h1 h2
    subst h1 h2
    refine .inr ⟨rfl, ?_⟩
    have e : decide (V.str u = V.str v) = decide (u = v) := by simp only [V.str.injEq]
    rw [e]
    exact q
theorem rc_ne (hu : X.A.units + 64 < cLine) : OpR X (compareOp .NotEq) (rC X.K fun a b => (eqD a b).not) := by
  refine OpR.rc ((op_neD hu).or op_ne) fun H x y d e b Q h1 h2 h4 q => ?_
  unfold eqD at h4
  split at h4
  · rename_i hz
    simp only [Res.not, Res.bind] at h4
    cases h4
    rw [Bool.and_eq_true] at hz
    exact .inl ⟨d, e, Dv.dp d x (shaped_lay hz.1) h1, Dv.dp e y (shaped_lay hz.2) h2, hz.1, hz.2, q⟩
  · cases hs : eqStr d e with
    | ok k =>
      rw [hs] at h4
      simp only [Res.not, Res.bind] at h4
      cases h4
      obtain ⟨u, v, rfl, rfl, rfl⟩ := eqStr_ok hs
      rw [Dv] at h1 h2
      subst h1 h2
      refine .inr ⟨rfl, ?_⟩
      have e : decide (V.str u = V.str v) = decide (u = v) := by simp only [V.str.injEq]
      rw [e]
      exact q
    | exc c vs => rw [hs] at h4; cases h4
    | bad => rw [hs] at h4; cases h4
theorem lex_at : ∀ (i : Nat) (ns ms : List Int), Ob.lexAt (fun j => decide (ns.getD (j - i) 0 = ms.getD (j - i) 0)) (fun j => decide (ns.getD (j - i) 0 ≤ ms.getD (j - i) 0)) (decide (ns.length ≤ ms.length)) i (min ns.length ms.length) = lexLe ns ms
  | i, [], ms => by simp [lexLe, Ob.lexAt_zero]
  | i, n :: ns, [] => by simp [lexLe, Ob.lexAt_zero]
  | i, n :: ns, m :: ms => by
    have e : min (n :: ns).length (m :: ms).length = min ns.length ms.length + 1 := by simp only [List.length_cons]; omega
    rw [e, Ob.lexAt_succ, Nat.sub_self]
    show (if decide (n = m) = true then _ else decide (n ≤ m)) = if n = m then lexLe ns ms else decide (n < m)
    by_cases h : n = m
    · rw [if_pos (decide_eq_true h), if_pos h, ← lex_at (i + 1) ns ms]
      have sh : ∀ (e r e' r' : Nat → Bool) (z z' : Bool) (k a : Nat), z = z' → (∀ j, a ≤ j → e j = e' j) → (∀ j, a ≤ j → r j = r' j) → Ob.lexAt e r z a k = Ob.lexAt e' r' z' a k := by
        intro e r e' r' z z' k
        induction k with
        | zero => intro a hz _ _; rw [Ob.lexAt_zero, Ob.lexAt_zero, hz]
        | succ k ih => intro a hz h1 h2; rw [Ob.lexAt_succ, Ob.lexAt_succ, h1 a (Nat.le_refl a), h2 a (Nat.le_refl a), ih (a + 1) hz (fun j hj => h1 j (by omega)) fun j hj => h2 j (by omega)]
      refine sh _ _ _ _ _ _ _ _ (by simp) (fun j hj => ?_) fun j hj => ?_
      · have : j - i = (j - (i + 1)) + 1 := by omega
        simp only [this, List.getD_cons_succ]
      · have : j - i = (j - (i + 1)) + 1 := by omega
        simp only [this, List.getD_cons_succ]
    · rw [if_neg (by simpa using h), if_neg h]
      by_cases q : n ≤ m
      · rw [decide_eq_true q, decide_eq_true (show n < m by omega)]
      · rw [decide_eq_false q, decide_eq_false (show ¬ n < m by omega)]
theorem rc_le (hu : X.A.units < cLine) : OpR X (compareOp .LtE) (rC X.K (ordD .le)) := by
  refine OpR.rc ((op_le (X := X)).or (L2.op_leT hu)) fun H x y d e b Q h1 h2 h4 q => ?_
  unfold ordD at h4
  split at h4
  · cases h4
    exact .inl ⟨_, _, dv_int h1 rfl, dv_int h2 rfl, q⟩
  · rename_i xs ys
    simp only [leT] at h4
    split at h4
    · rename_i ns ms e1 e2
      cases h4
      obtain ⟨a, vs, rfl, ha, ra⟩ := dv_tup h1 rfl
      obtain ⟨c, us, rfl, hb, rb⟩ := dv_tup h2 rfl
      obtain ⟨v1, _⟩ := ra.ints e1
      obtain ⟨v2, _⟩ := rb.ints e2
      subst v1 v2
      refine .inr ⟨a, c, ns, ms, rfl, rfl, ha, hb, ?_⟩
      have l := lex_at 0 ns ms
      simp only [Nat.sub_zero] at l
      rw [l]
      exact q
    · cases h4
  · cases h4
theorem rc_lt : OpR X (compareOp .Lt) (rC X.K (ordD .lt)) := by
  refine OpR.rc (op_lt (X := X)) fun H x y d e b Q h1 h2 h4 q => ?_
  unfold ordD at h4
  split at h4
  · cases h4
    exact ⟨_, _, dv_int h1 rfl, dv_int h2 rfl, q⟩
  · cases h4
  · cases h4
theorem rc_gt : OpR X (compareOp .Gt) (rC X.K (ordD .gt)) := by
  refine OpR.rc (op_gt (X := X)) fun H x y d e b Q h1 h2 h4 q => ?_
  unfold ordD at h4
  split at h4
  · cases h4
    exact ⟨_, _, dv_int h1 rfl, dv_int h2 rfl, q⟩
  · cases h4
  · cases h4
/-- t >= u of tuples of ints -/
theorem op_geT (hu : X.A.units < cLine) : OpR X (compareOp .GtE) (fun x y H Q => ∃ (a b : Addr) (ns ms : List Int), x = .ref a ∧ y = .ref b ∧ SqT X.K H a (ns.map V.int) ∧ SqT X.K H b (ms.map V.int) ∧ Q (.bl (lexLe ms ns)) H) := by
  intro pins s σ H x y v u Q I rx ry h
  obtain ⟨a, b, ns, ms, rfl, rfl, ha, hb, q⟩ := h
  cases rx
  cases ry
  obtain ⟨i1, r1, p1, _⟩ := I.tuple ha
  obtain ⟨i2, r2, p2, _⟩ := I.tuple hb
  have j1 : IntsAre i1 ns := Vals.ints r1
  have j2 : IntsAre i2 ms := Vals.ints r2
  have s1 : i1.toArray.size = ns.length := by rw [List.size_toArray]; exact j1.length
  have s2 : i2.toArray.size = ms.length := by rw [List.size_toArray]; exact j2.length
  have t1 : ∀ j (hj : j < i1.toArray.size), ∃ t, i1.toArray[j] = .int (ns.getD j 0) t := fun j hj => PyProof.Rows.IntsAre.int_at j1 _ _ (by simp at hj; simp [hj])
  have t2 : ∀ j (hj : j < i2.toArray.size), ∃ t, i2.toArray[j] = .int (ms.getD j 0) t := fun j hj => PyProof.Rows.IntsAre.int_at j2 _ _ (by simp at hj; simp [hj])
  have R := Ob.RcOp.tuples_ge (A := X.A) (s := s) (e := fun j => decide (ns.getD j 0 = ms.getD j 0)) (r := fun j => decide (ms.getD j 0 ≤ ns.getD j 0)) p1 p2 hu (fun j h1 h2 => by
    obtain ⟨t, et⟩ := t1 j h1
    obtain ⟨t', et'⟩ := t2 j h2
    rw [et, et', show decide (ns.getD j 0 = ms.getD j 0) = (ns.getD j 0 == ms.getD j 0) from (Bool.beq_eq_decide_eq _ _).symm]
    exact SeqAt.EqAt.int_int _ _ _ _) (fun j h1 h2 _ => by
    obtain ⟨t, et⟩ := t1 j h1
    obtain ⟨t', et'⟩ := t2 j h2
    rw [et, et']
    exact Ob.RcOp.ge_int _ _ _ _)
  rw [s1, s2] at R
  refine R X.prog X.w X.xe (EP X pins σ Q) ⟨.bl _, H, I, rfl, ?_⟩
  have l := lex_at 0 ms ns
  simp only [Nat.sub_zero] at l
  have z : (fun j => decide (ns.getD j 0 = ms.getD j 0)) = fun j => decide (ms.getD j 0 = ns.getD j 0) := by
    funext j
    by_cases q : ns.getD j 0 = ms.getD j 0
    · rw [decide_eq_true q, decide_eq_true q.symm]
    · rw [decide_eq_false q, decide_eq_false (fun w => q w.symm)]
  rw [z, Nat.min_comm, l]
  exact q
theorem rc_ge (hu : X.A.units < cLine) : OpR X (compareOp .GtE) (rC X.K (ordD .ge)) := by
  refine OpR.rc ((op_ge (X := X)).or (op_geT hu)) fun H x y d e b Q h1 h2 h4 q => ?_
  unfold ordD at h4
  split at h4
  · cases h4
    exact .inl ⟨_, _, dv_int h1 rfl, dv_int h2 rfl, q⟩
  · rename_i xs ys
    simp only [leT] at h4
    split at h4
    · rename_i ns ms e1 e2
      cases h4
      obtain ⟨a, vs, rfl, ha, ra⟩ := dv_tup h1 rfl
      obtain ⟨c, us, rfl, hb, rb⟩ := dv_tup h2 rfl
      obtain ⟨v1, _⟩ := ra.ints e2
      obtain ⟨v2, _⟩ := rb.ints e1
      subst v1 v2
      exact .inr ⟨a, c, ms, ns, rfl, rfl, ha, hb, q⟩
    · cases h4
  · cases h4
theorem plain_bool {x : V} {v : Value} {b : Bool} (r : RelV x v) : plainIs v (Value.bool b) = true := by
  cases x <;> first | (cases r; rfl) | (obtain ⟨t, rfl⟩ := r; rfl)
/-- x is y, y None or a truth -/
theorem op_isS : OpR X (compareOp .Is) (fun x y H Q => (y = .non ∨ ∃ b, y = .bl b) ∧ Q (.bl (decide (x = y))) H) := by
  intro pins s σ H x y v u Q I rx ry h
  obtain ⟨hy, q⟩ := h
  rcases hy with rfl | ⟨b, rfl⟩
  · exact op_isN pins s σ H x _ v u Q I rx ry ⟨rfl, q⟩
  · by_cases e : x = .bl b
    · subst e
      exact op_isBl pins s σ H _ _ v u Q I rx ry ⟨b, b, rfl, rfl, by simpa using q⟩
    · cases (show u = Value.bool b from ry)
      have ne : v ≠ Value.bool b := fun z => by
        subst z
        exact e (RelV.inj rx (show RelV (.bl b) (Value.bool b) from rfl))
      exact wpAny_is_other (plain_bool rx) ne ⟨.bl false, H, I, rfl, by simpa [e] using q⟩
theorem op_isnS : OpR X (compareOp .IsNot) (fun x y H Q => (y = .non ∨ ∃ b, y = .bl b) ∧ Q (.bl (!decide (x = y))) H) := by
  intro pins s σ H x y v u Q I rx ry h
  obtain ⟨hy, q⟩ := h
  rcases hy with rfl | ⟨b, rfl⟩
  · exact op_notN pins s σ H x _ v u Q I rx ry ⟨rfl, q⟩
  · by_cases e : x = .bl b
    · subst e
      exact op_notBl pins s σ H _ _ v u Q I rx ry ⟨b, b, rfl, rfl, by simpa using q⟩
    · cases (show u = Value.bool b from ry)
      have ne : v ≠ Value.bool b := fun z => by
        subst z
        exact e (RelV.inj rx (show RelV (.bl b) (Value.bool b) from rfl))
      exact wpAny_isNot_other (plain_bool rx) ne ⟨.bl true, H, I, rfl, by simpa [e] using q⟩
theorem isD_dv {K : PySem.W.Frag} {H : Hp} {d e : D} {x y : V} {b : Bool} (h1 : Dv K H d x) (h2 : Dv K H e y) (h : isD d e = .ok b) : (y = .non ∨ ∃ b, y = .bl b) ∧ decide (x = y) = b := by
  unfold isD at h
  split at h
  · cases h
    rw [Dv] at h1 h2
    subst h1 h2
    exact ⟨.inl rfl, by simp⟩
  · cases h
    rw [Dv] at h1 h2
    subst h1 h2
    refine ⟨.inr ⟨_, rfl⟩, ?_⟩
    rename_i c b
    cases c <;> cases b <;> simp
  · cases h
    rw [Dv] at h2
    subst h2
    refine ⟨.inl rfl, ?_⟩
    cases d <;> (rw [Dv] at h1; try simp_all) <;> (first | (obtain ⟨_, _, h, _⟩ := h1; simp [h]) | (obtain ⟨_, h, _⟩ := h1; simp [h]))
  · cases h
    rw [Dv] at h2
    subst h2
    refine ⟨.inr ⟨_, rfl⟩, ?_⟩
    cases d <;> (rw [Dv] at h1; try simp_all) <;> (first | (obtain ⟨_, _, h, _⟩ := h1; simp [h]) | (obtain ⟨_, h, _⟩ := h1; simp [h]))
  · cases h
theorem rc_is : OpR X (compareOp .Is) (rC X.K isD) := by
  refine OpR.rc (op_isS (X := X)) fun H x y d e b Q h1 h2 h4 q => ?_
  obtain ⟨a, c⟩ := isD_dv h1 h2 h4
  exact ⟨a, by rw [c]; exact q⟩
theorem rc_isn : OpR X (compareOp .IsNot) (rC X.K fun a b => (isD a b).not) := by
  refine OpR.rc (op_isnS (X := X)) fun H x y d e b Q h1 h2 h4 q => ?_
  cases z : isD d e with
  | ok c =>
    rw [z] at h4
    cases h4
    obtain ⟨a, c⟩ := isD_dv h1 h2 z
    exact ⟨a, by rw [c]; exact q⟩
  | exc c vs => rw [z] at h4; cases h4
  | bad => rw [z] at h4; cases h4
end
end Bk
/-! Bk: more operations, by values: in, subscripts, slices, isinstance, built-in calls. -/
namespace Bk
open PySem PySem.Spec PyProof.Rows L2
theorem flat_dv {K : PySem.W.Frag} {H : Hp} {d : D} {v : V} (f : flat d = true) (h : Dv K H d v) : flatV v = true := by
  cases d <;> simp [flat] at f <;> (rw [Dv] at h; subst h; rfl)
theorem flat_all {K : PySem.W.Frag} {H : Hp} : ∀ {ds : List D} {vs : List V}, ds.all flat = true → DvA K H ds vs → vs.all flatV = true
  | [], _, _, h => by rw [DvA] at h; subst h; rfl
  | d :: ds, _, f, h => by
    rw [DvA] at h
    obtain ⟨v, r, rfl, q, t⟩ := h
    simp only [List.all_cons, Bool.and_eq_true] at f ⊢
    exact ⟨flat_dv f.1 q, flat_all f.2 t⟩
theorem eqv_flat {K : PySem.W.Frag} {H : Hp} {d e : D} {x y : V} (fd : flat d = true) (fe : flat e = true) (h1 : Dv K H d x) (h2 : Dv K H e y) : eqV x y = PyData.eqv d e := by
  cases d <;> simp [flat] at fd <;> cases e <;> simp [flat] at fe <;> (rw [Dv] at h1; rw [Dv] at h2; subst h1 h2; simp [eqV, PyData.eqv])
theorem any_flat {K : PySem.W.Frag} {H : Hp} {d : D} {x : V} (fd : flat d = true) (h1 : Dv K H d x) : ∀ {ds : List D} {vs : List V}, ds.all flat = true → DvA K H ds vs → inV x vs = ds.any fun y => PyData.eqv y d
  | [], _, _, h => by rw [DvA] at h; subst h; rfl
  | e :: ds, _, f, h => by
    rw [DvA] at h
    obtain ⟨v, r, rfl, q, t⟩ := h
    simp only [List.all_cons, Bool.and_eq_true] at f
    have ih := any_flat fd h1 f.2 t
    unfold inV at ih ⊢
    rw [List.any_cons, List.any_cons, ih, eqv_flat f.1 fd q h1]
section
variable {X : Cx}
theorem rc_in (hu : X.A.units + 65 < cLine) : OpR X (compareOp .In) (rC X.K inD) := by
  refine OpR.rc ((op_inD hu).or (op_in_seq (X := X))) fun H x y d e b Q h1 h2 h4 q => ?_
  unfold inD at h4
  split at h4
  · rename_i ys
    split at h4 <;> cases h4
    rename_i hz
    rw [Bool.and_eq_true] at hz
    exact .inl ⟨d, ys, Dv.dp d x (shaped_lay hz.1) h1, Dv.dp (.list ys) y (shaped_lay hz.2) h2, hz.1, hz.2, q⟩
  · rename_i ys
    split at h4 <;> cases h4
    rename_i hz
    rw [Bool.and_eq_true] at hz
    obtain ⟨a, vs, rfl, ha, ra⟩ := dv_tup h2 rfl
    refine .inr ⟨a, vs, rfl, .inr ha, flat_dv hz.1 h1, flat_all hz.2 ra, ?_⟩
    rw [any_flat hz.1 h1 hz.2 ra]
    exact q
  · cases h4
theorem rc_nin (hu : X.A.units + 65 < cLine) : OpR X (compareOp .NotIn) (rC X.K fun a b => (inD a b).not) := by
  refine OpR.rc ((op_notInD hu).or (op_notIn_seq (X := X))) fun H x y d e b Q h1 h2 h4 q => ?_
  unfold inD at h4
  split at h4
  · rename_i ys
    split at h4 <;> simp only [Res.not, Res.bind] at h4 <;> cases h4
    rename_i hz
    rw [Bool.and_eq_true] at hz
    exact .inl ⟨d, ys, Dv.dp d x (shaped_lay hz.1) h1, Dv.dp (.list ys) y (shaped_lay hz.2) h2, hz.1, hz.2, q⟩
  · rename_i ys
    split at h4 <;> simp only [Res.not, Res.bind] at h4 <;> cases h4
    rename_i hz
    rw [Bool.and_eq_true] at hz
    obtain ⟨a, vs, rfl, ha, ra⟩ := dv_tup h2 rfl
    refine .inr ⟨a, vs, rfl, .inr ha, flat_dv hz.1 h1, flat_all hz.2 ra, ?_⟩
    show Q (.bl (!inV x vs)) H
    rw [any_flat hz.1 h1 hz.2 ra]
    exact q
  · cases h4
def pyC : CO → CmpOp
  | .eq => .Eq
  | .ne => .NotEq
  | .lt => .Lt
  | .le => .LtE
  | .gt => .Gt
  | .ge => .GtE
  | .is => .Is
  | .isn => .IsNot
  | .isin => .In
  | .nin => .NotIn
theorem opR_C (hu : X.A.units + 65 < cLine) (o : CO) : OpR X (compareOp (pyC o)) (rC X.K (cmpD o)) := by
  cases o with
  | eq => exact rc_eq (by omega)
  | ne => exact rc_ne (by omega)
  | lt => exact rc_lt
  | le => exact rc_le (by omega)
  | gt => exact rc_gt
  | ge => exact rc_ge (by omega)
  | is => exact rc_is
  | isn => exact rc_isn
  | isin => exact rc_in hu
  | nin => exact rc_nin hu
theorem pyC_cv (o : CmpOp) : pyC (cvC o) = o := by cases o <;> rfl
/-- a value g on one -/
theorem un_negD : UnR X (unaryOp .USub) (fun x H Q => ∃ (O : Ps) (d z : D), Dv X.K H d x ∧ negD d = .ok z ∧ ∀ v, Dv X.K (hid H O) z v → Q v H) := by
  intro pins s σ H x v Q I rx h
  obtain ⟨O, d, z, h1, h2, q⟩ := h
  cases d with
  | int i =>
    cases h2
    rw [Dv] at h1
    exact un_neg pins s σ H x v Q I rx ⟨i, h1, q _ (by rw [Dv])⟩
  | _ => cases h2

/-! ### subscripts -/
theorem pl_seq {n : Nat} {i : Int} (h : pl n i < n) : ixN n i = some (pl n i) := by
  unfold pl at h ⊢
  unfold ixN
  by_cases h1 : 0 ≤ i
  · rw [if_pos h1] at h ⊢
    rw [if_pos h1, if_pos (by omega)]
  · rw [if_neg h1] at h ⊢
    by_cases h2 : -(n : Int) ≤ i
    · rw [if_pos h2] at h ⊢
      rw [if_neg h1, if_pos h2]
    · rw [if_neg h2] at h
      exact absurd h (Nat.lt_irrefl n)
theorem pl_at {α : Type} {xs : List α} {i : Int} {v : α} (h : xs[pl xs.length i]? = some v) : atI xs i = some v := by
  have hl := (List.getElem?_eq_some_iff.mp h).1
  unfold atI
  rw [pl_seq hl]
  exact h
/-- what stands at a place of a list or tuple, a text's sign -/
def rIxD (K : PySem.W.Frag) : R2 := fun x y H Q => (∃ (a : Addr) (vs : List V) (i : Int) (v : V), x = .ref a ∧ y = .int i ∧ (SqL K H a vs ∨ SqT K H a vs) ∧ vs[pl vs.length i]? = some v ∧ Q v H) ∨
  ∃ (z : Str) (i : Int) (c : Nat), x = .str z ∧ y = .int i ∧ z.length ≤ most ∧ z.cps.toList[pl z.cps.toList.length i]? = some c ∧ Q (.str ⟨#[c]⟩) H
theorem ix_D : IxR X (rIxD X.K) := by
  intro value slice pins s σ H x y v u Q I rx ry q hs
  refine ix_seq value slice pins s σ H x y v u Q I rx ry ?_ hs
  rcases q with ⟨a, vs, i, w, rfl, rfl, h | h, hv, q⟩ | ⟨z, i, c, rfl, rfl, h1, h2, q⟩
  · exact .inl ⟨a, vs, i, w, rfl, rfl, h, pl_at hv, q⟩
  · exact .inr (.inl ⟨a, vs, i, w, rfl, rfl, h, pl_at hv, q⟩)
  · exact .inr (.inr ⟨z, i, c, rfl, rfl, by rw [most_eq]; exact h1, pl_at h2, q⟩)
theorem sIx_eq (n d : Nat) (i : Option Int) : sIx n d i = HT.sIx n d i := by cases i <;> rfl
/-- a slice of a list or tuple, by data -/
def rSlD (K : PySem.W.Frag) : V → Option Int → Option Int → Hp → VK → Prop := fun x lo hi H Q => ∃ (O : Ps) (d z : D), (∃ xs, d = .list xs ∨ d = .tuple xs) ∧
  (∀ xs, d = .list xs → ∃ a vs, x = .ref a ∧ SqM K H a vs ∧ DvA K (hid H O) xs vs) ∧ (∀ xs, d = .tuple xs → xs.length ≤ sizeLine ∧ ∃ a vs, x = .ref a ∧ SqT K (hid H O) a vs ∧ DvA K (hid H O) xs vs) ∧ (∀ a, O a → H a ≠ none) ∧
  slD d lo hi = .ok z ∧ ∀ v H', Same H H' → Dv K (hid H' O) z v → Q v H'
theorem cutL_dv {K : PySem.W.Frag} {H : Hp} {xs : List D} {vs : List V} (h : DvA K H xs vs) (lo hi : Option Int) : DvA K H (cutL xs lo hi) (cutV vs lo hi) := by
  unfold cutL cutV
  rw [← sIx_eq, ← sIx_eq, ← h.len]
  exact (h.drop _).take _
theorem cutL_line {xs : List D} (h : xs.length ≤ sizeLine) (lo hi : Option Int) : (cutL xs lo hi).length ≤ sizeLine := by
  unfold cutL
  rw [List.length_take, List.length_drop]
  omega
theorem sl_D : SlR X (rSlD X.K) := by
  refine fun pins s σ H x v vl vu lo hi sl Q I rx hs pl pu h => ?_
  obtain ⟨O, d, z, ⟨xs, hd⟩, hL, hT, h3, h4, h5⟩ := h
  rcases hd with rfl | rfl
  · cases h4
    obtain ⟨a, vs, rfl, ha, ra⟩ := hL xs rfl
    exact sl_list pins s σ H _ v vl vu lo hi sl Q I rx hs pl pu ⟨a, vs, rfl, ha.sq, fun p np => h5 _ _ (same_new np) (new_lst (cutL_line (by rw [ra.len]; exact ha.1) lo hi) np h3 (cutL_dv ra lo hi))⟩
  · cases h4
    obtain ⟨hz, a, vs, rfl, ha, ra⟩ := hT xs rfl
    refine sl_tupA pins s σ H _ v vl vu lo hi sl Q I rx hs pl pu ⟨a, vs, rfl, hid_sqt ha, fun hw => ?_, fun _ p np => h5 _ _ (same_new np) (new_tup (cutL_line hz lo hi) np h3 (cutL_dv ra lo hi))⟩
    refine h5 _ H (Same.refl H) ?_
    have e : cutL xs lo hi = xs := by
      unfold cutL
      rw [sIx_eq, sIx_eq, ra.len, hw.1, hw.2, List.drop_zero, Nat.sub_zero, ← ra.len, List.take_length]
    rw [e, Dv]
    exact ⟨a, vs, rfl, ⟨ha, by rw [← ra.len]; exact hz⟩, ra⟩

/-! ### isinstance -/
def tyN : Ty → String
  | .int => "int"
  | .bool => "bool"
  | .list => "list"
  | .tuple => "tuple"
  | .str => "str"
  | .dict => "dict"
theorem dv_ty {K : PySem.W.Frag} {H : Hp} {d : D} {x : V} (h : Dv K H d x) (t : Ty) : ∃ n : String, TyX K H x (.type n) ∧ kitB n (tyN t) = some (isiD d t) := by
  cases d with
  | none => rw [Dv] at h; subst h; exact ⟨_, .base .non, by cases t <;> first | exact (show kitB _ _ = some true by decide +kernel) | exact (show kitB _ _ = some false by decide +kernel)⟩
  | bool b => rw [Dv] at h; subst h; exact ⟨_, .base (.bl b), by cases t <;> first | exact (show kitB _ _ = some true by decide +kernel) | exact (show kitB _ _ = some false by decide +kernel)⟩
  | int i => rw [Dv] at h; subst h; exact ⟨_, .base (.int i), by cases t <;> first | exact (show kitB _ _ = some true by decide +kernel) | exact (show kitB _ _ = some false by decide +kernel)⟩
  | str z => rw [Dv] at h; subst h; exact ⟨_, .base (.str z), by cases t <;> first | exact (show kitB _ _ = some true by decide +kernel) | exact (show kitB _ _ = some false by decide +kernel)⟩
  | list xs =>
    obtain ⟨a, vs, rfl, ha, _⟩ := dv_list h rfl
    refine ⟨"list", ?_, by cases t <;> first | exact (show kitB _ _ = some true by decide +kernel) | exact (show kitB _ _ = some false by decide +kernel)⟩
    rcases ha.2 with (ha | ⟨o, ha⟩) | ⟨its, n, ha, _⟩
    · exact .base (.lst ha)
    · exact .base (.frz ha)
    · exact .kList ha rfl
  | tuple xs =>
    obtain ⟨a, vs, rfl, ha, _⟩ := dv_tup h rfl
    refine ⟨"tuple", ?_, by cases t <;> first | exact (show kitB _ _ = some true by decide +kernel) | exact (show kitB _ _ = some false by decide +kernel)⟩
    rcases ha with (ha | ⟨o, ha⟩) | ⟨o, its, n, ha, hc, _⟩
    · exact .base (.tup ha)
    · exact .fTuple ha
    · exact .kTuple ha hc
  | dict kvs =>
    rw [Dv] at h
    obtain ⟨a, rfl, ⟨ks, ha, _⟩ | ⟨ks, ha, _⟩⟩ := h
    · exact ⟨"dict", .base (.dK ha), by cases t <;> first | exact (show kitB _ _ = some true by decide +kernel) | exact (show kitB _ _ = some false by decide +kernel)⟩
    · exact ⟨"dict", .base (.dT ha), by cases t <;> first | exact (show kitB _ _ = some true by decide +kernel) | exact (show kitB _ _ = some false by decide +kernel)⟩
theorem call_isiD (t : Ty) : CallR X (.builtin "isinstance") (fun xs H Q => ∃ d x, xs = [x, .ty (tyN t)] ∧ Dv X.K H d x ∧ Q (.bl (isiD d t)) H) := by
  intro pins s σ H xs us Q I r h
  obtain ⟨d, x, rfl, h1, q⟩ := h
  obtain ⟨n, h2, h3⟩ := dv_ty h1 t
  exact call_isi pins s σ H _ us Q I r ⟨x, _, _, _, _, rfl, .ty _, h2, kit_ty h3, q⟩
end
end Bk
/-! Bk: built-in functions on data. -/
namespace Bk
open PySem PySem.Spec PyProof.Rows L2
theorem maxI_spec : ∀ (ns : List Int) (x : Int), (maxI x ns = x ∨ maxI x ns ∈ ns) ∧ x ≤ maxI x ns ∧ ∀ y ∈ ns, y ≤ maxI x ns
  | [], x => ⟨.inl rfl, Int.le_refl _, fun _ h => nomatch h⟩
  | n :: ns, x => by
    have ih := maxI_spec ns (if n > x then n else x)
    unfold maxI
    obtain ⟨h1, h2, h3⟩ := ih
    split at h1
    · rename_i hz
      rw [if_pos hz] at h2 h3 ⊢
      refine ⟨.inr ?_, by omega, fun y hy => ?_⟩
      · rcases h1 with h1 | h1
        · rw [h1]; exact List.mem_cons_self
        · exact List.mem_cons_of_mem _ h1
      · rcases List.mem_cons.mp hy with rfl | hy
        · exact h2
        · exact h3 y hy
    · rename_i hz
      rw [if_neg hz] at h2 h3 ⊢
      refine ⟨?_, h2, fun y hy => ?_⟩
      · rcases h1 with h1 | h1
        · exact .inl h1
        · exact .inr (List.mem_cons_of_mem _ h1)
      · rcases List.mem_cons.mp hy with rfl | hy
        · omega
        · exact h3 y hy
theorem minI_spec : ∀ (ns : List Int) (x : Int), (minI x ns = x ∨ minI x ns ∈ ns) ∧ minI x ns ≤ x ∧ ∀ y ∈ ns, minI x ns ≤ y
  | [], x => ⟨.inl rfl, Int.le_refl _, fun _ h => nomatch h⟩
  | n :: ns, x => by
    have ih := minI_spec ns (if n < x then n else x)
    unfold minI
    obtain ⟨h1, h2, h3⟩ := ih
    split at h1
    · rename_i hz
      rw [if_pos hz] at h2 h3 ⊢
      refine ⟨.inr ?_, by omega, fun y hy => ?_⟩
      · rcases h1 with h1 | h1
        · rw [h1]; exact List.mem_cons_self
        · exact List.mem_cons_of_mem _ h1
      · rcases List.mem_cons.mp hy with rfl | hy
        · exact h2
        · exact h3 y hy
    · rename_i hz
      rw [if_neg hz] at h2 h3 ⊢
      refine ⟨?_, h2, fun y hy => ?_⟩
      · rcases h1 with h1 | h1
        · exact .inl h1
        · exact .inr (List.mem_cons_of_mem _ h1)
      · rcases List.mem_cons.mp hy with rfl | hy
        · omega
        · exact h3 y hy
theorem insI_perm (x : Int) : ∀ ns : List Int, (insI x ns).Perm (x :: ns)
  | [] => .refl _
  | y :: ns => by
    unfold insI
    split
    · exact .refl _
    · exact ((insI_perm x ns).cons y).trans (.swap x y ns)
theorem insI_sorted (x : Int) : ∀ ns : List Int, ns.Pairwise (· ≤ ·) → (insI x ns).Pairwise (· ≤ ·)
  | [], _ => by simp [insI]
  | y :: ns, h => by
    unfold insI
    rw [List.pairwise_cons] at h
    split
    · rename_i hz
      rw [List.pairwise_cons, List.pairwise_cons]
      refine ⟨fun z hm => ?_, h⟩
      rcases List.mem_cons.mp hm with rfl | hm
      · exact hz
      · have := h.1 z hm; omega
    · rename_i hz
      rw [List.pairwise_cons]
      refine ⟨fun z hm => ?_, insI_sorted x ns h.2⟩
      rcases List.mem_cons.mp ((insI_perm x ns).mem_iff.mp hm) with rfl | hm
      · omega
      · exact h.1 z hm
theorem sortI_perm : ∀ ns : List Int, (sortI ns).Perm ns
  | [] => .refl _
  | x :: ns => (insI_perm x (sortI ns)).trans ((sortI_perm ns).cons x)
theorem sortI_sorted : ∀ ns : List Int, (sortI ns).Pairwise (· ≤ ·)
  | [] => .nil
  | x :: ns => insI_sorted x _ (sortI_sorted ns)
theorem sortI_eq {ns ms : List Int} (p : ms.Perm ns) (s : ms.Pairwise (· ≤ ·)) : ms = sortI ns :=
  List.Perm.eq_of_pairwise (le := (· ≤ ·)) (fun a b _ _ h1 h2 => by omega) s (sortI_sorted ns) (p.trans (sortI_perm ns).symm)
/-- a built-in's function g of data -/
def rB (K : PySem.W.Frag) (g : List D → Res D) : List V → Hp → VK → Prop := fun xs H Q => ∃ (O : Ps) (ds : List D) (z : D), DvA K (hid H O) ds xs ∧ (∀ a, O a → H a ≠ none) ∧
  g ds = .ok z ∧ ∀ v H', Same H H' → Dv K (hid H' O) z v → Q v H'
def bN : Bi → Value
  | .len => .builtin "len"
  | .sum => .builtin "sum"
  | .max => .builtin "max"
  | .min => .builtin "min"
  | .maxL => .builtin "max"
  | .minL => .builtin "min"
  | .all => .builtin "all"
  | .sorted => .builtin "sorted"
  | .list => .type "list"
  | .tuple => .type "tuple"
  | .int => .type "int"
  | .str => .type "str"
  | .repr => .builtin "repr"
  | .abs => .builtin "abs"
  | _ => .none
section
variable {X : Cx}
theorem insU_mem (x k : Int) : ∀ ns : List Int, k ∈ insU x ns ↔ k = x ∨ k ∈ ns
  | [] => by simp [insU]
  | y :: r => by
    simp only [insU]
    split
    · simp
    · split
      · rename_i h
        subst h
        simp
      · simp only [List.mem_cons, insU_mem x k r]
        constructor
        · rintro (h | h | h)
          · exact .inr (.inl h)
          · exact .inl h
          · exact .inr (.inr h)
        · rintro (h | h | h)
          · exact .inr (.inl h)
          · exact .inl h
          · exact .inr (.inr h)
theorem insU_rise (x : Int) : ∀ ns : List Int, ns.Pairwise (· < ·) → (insU x ns).Pairwise (· < ·)
  | [], _ => by simp [insU]
  | y :: r, h => by
    rw [List.pairwise_cons] at h
    simp only [insU]
    split
    · rename_i q
      rw [List.pairwise_cons]
      refine ⟨fun z hz => ?_, by rw [List.pairwise_cons]; exact h⟩
      rcases List.mem_cons.mp hz with rfl | hz
      · exact q
      · have := h.1 z hz
        omega
    · split
      · rw [List.pairwise_cons]
        exact h
      · rw [List.pairwise_cons]
        refine ⟨fun z hz => ?_, insU_rise x r h.2⟩
        rcases (insU_mem x z r).mp hz with rfl | hz
        · omega
        · exact h.1 z hz
theorem sortU_mem (k : Int) : ∀ ns : List Int, k ∈ sortU ns ↔ k ∈ ns
  | [] => by simp [sortU]
  | x :: r => by simp only [sortU, insU_mem, List.mem_cons, sortU_mem k r]
theorem sortU_rise : ∀ ns : List Int, (sortU ns).Pairwise (· < ·)
  | [] => by simp [sortU]
  | x :: r => insU_rise x _ (sortU_rise r)
theorem sortU_len (ns : List Int) : (sortU ns).length ≤ ns.length := by
  have ins : ∀ (x : Int) (r : List Int), (insU x r).length ≤ r.length + 1 := by
    intro x r
    induction r with
    | nil => simp [insU]
    | cons y r ih =>
      simp only [insU]
      split
      · simp
      · split
        · simp
        · simp only [List.length_cons]; omega
  induction ns with
  | nil => simp [sortU]
  | cons x r ih =>
    have := ins x (sortU r)
    simp only [sortU, List.length_cons]
    omega
/-- two rising lists of the same -/
theorem rise_eq : ∀ {as bs : List Int}, as.Pairwise (· < ·) → bs.Pairwise (· < ·) → (∀ k, k ∈ as ↔ k ∈ bs) → as = bs
  | [], [], _, _, _ => rfl
  | [], b :: bs, _, _, h => absurd ((h b).mpr List.mem_cons_self) (by simp)
  | a :: as, [], _, _, h => absurd ((h a).mp List.mem_cons_self) (by simp)
  | a :: as, b :: bs, ha, hb, h => by
    rw [List.pairwise_cons] at ha hb
    have e : a = b := by
      have h1 := (h a).mp List.mem_cons_self
      have h2 := (h b).mpr List.mem_cons_self
      rcases List.mem_cons.mp h1 with h1 | h1
      · exact h1
      · rcases List.mem_cons.mp h2 with h2 | h2
        · exact h2.symm
        · have := hb.1 a h1
          have := ha.1 b h2
          omega
    subst e
    rw [rise_eq ha.2 hb.2 fun k => ?_]
    constructor
    · intro hk
      rcases List.mem_cons.mp ((h k).mp (List.mem_cons_of_mem _ hk)) with rfl | q
      · exact absurd (ha.1 k hk) (by omega)
      · exact q
    · intro hk
      rcases List.mem_cons.mp ((h k).mpr (List.mem_cons_of_mem _ hk)) with rfl | q
      · exact absurd (hb.1 k hk) (by omega)
      · exact q
theorem dva1 {K : PySem.W.Frag} {H : Hp} {d : D} {xs : List V} (h : DvA K H [d] xs) : ∃ v, xs = [v] ∧ Dv K H d v := by
  rw [DvA] at h
  obtain ⟨v, r, rfl, q, t⟩ := h
  rw [DvA] at t
  subst t
  exact ⟨v, rfl, q⟩
theorem dva2 {K : PySem.W.Frag} {H : Hp} {d e : D} {xs : List V} (h : DvA K H [d, e] xs) : ∃ v u, xs = [v, u] ∧ Dv K H d v ∧ Dv K H e u := by
  rw [DvA] at h
  obtain ⟨v, r, rfl, q, t⟩ := h
  obtain ⟨u, rfl, q2⟩ := dva1 t
  exact ⟨v, u, rfl, q, q2⟩
theorem CallR.rb {f : Value} {r : List V → Hp → VK → Prop} {g : List D → Res D} (h : CallR X f r) (hi : ∀ (H : Hp) (O : Ps) (xs : List V) (ds : List D) (z : D) (Q : VK), DvA X.K (hid H O) ds xs → (∀ a, O a → H a ≠ none) →
    g ds = .ok z → (∀ v H', Same H H' → Dv X.K (hid H' O) z v → Q v H') → r xs H Q) : CallR X f (rB X.K g) := by
  intro pins s σ H xs us Q I rx w
  obtain ⟨O, ds, z, h1, h2, h3, h4⟩ := w
  exact h pins s σ H xs us Q I rx (hi H O xs ds z Q h1 h2 h3 h4)
theorem Res.ok_if {α : Type} {c : Prop} [Decidable c] {x : Res α} {z : α} (h : (if c then x else .bad) = .ok z) : c ∧ x = .ok z := by
  by_cases q : c
  · rw [if_pos q] at h; exact ⟨q, h⟩
  · rw [if_neg q] at h; cases h
theorem call_reprD (hg : X.A.guards = some []) (hu : X.A.units + 40 < cLine) : CallR X (.builtin "repr") (rB X.K (biD .repr)) := by
  intro pins s σ H xs us Q I rx w
  obtain ⟨O, ds, z, h1, h2, h3, h4⟩ := w
  unfold biD at h3
  split at h3 <;> first | (rename_i hx; cases hx) | skip
  all_goals first | (simp at *; done) | skip
  rename_i d
  obtain ⟨g3, g5⟩ := Res.ok_if h3
  have g6 := Res.ok.inj g5
  subst g6
  simp only [Bool.and_eq_true, decide_eq_true_eq] at g3
  obtain ⟨⟨⟨hl, hs⟩, hz⟩, hd⟩ := g3
  obtain ⟨v, rfl, q⟩ := dva1 h1
  obtain ⟨u, rfl, ru⟩ := vals1 rx
  have q' := same_dv d v q
  obtain ⟨as, rd⟩ := Dp.reads I d v u (Dv.dp d v hl q') ru
  have fin : ∀ (h' : Heap) (t : Tok) (tk : Nat), (∀ b o, s.heap.get? b = some o → h'.get? b = some o) → EP X pins σ Q (.str d.shown t) { s with heap := h', toks := tk } := fun h' t tk hk =>
    ⟨.str d.shown, H, I.kept hk, ⟨t, rfl⟩, h4 _ H (Same.refl H) (by rw [Dv])⟩
  cases d with
  | none =>
    rw [Dv] at q; subst q; cases ru
    exact PySem.P.repr_of_none (fin s.heap _ _ fun _ _ e => e)
  | bool b =>
    rw [Dv] at q; subst q; cases ru
    exact PySem.P.repr_of_bool (fin s.heap _ _ fun _ _ e => e)
  | int i =>
    rw [Dv] at q; subst q; obtain ⟨t, rfl⟩ := ru
    exact PySem.P.repr_of_int (by simpa [PyData.showable] using hs) (fin s.heap _ _ fun _ _ e => e)
  | str x =>
    rw [Dv] at q; subst q; obtain ⟨t, rfl⟩ := ru
    exact PySem.P.repr_of_str (fin s.heap _ _ fun _ _ e => e) (by rw [most_eq]; exact hz)
  | list ys =>
    obtain ⟨a, vs, rfl, _, _⟩ := dv_list q rfl
    cases ru
    exact PySem.repr_of_reads' rd hs (PySem.PyData.noDict_hsm (PySem.PyData.hasDict_of_canLay _ hl)) hg (by omega) (fun _ _ e => e) (fun h' t tk hk => fin h' t tk hk) (by rw [most_eq]; exact hz)
  | tuple ys =>
    obtain ⟨a, vs, rfl, _, _⟩ := dv_tup q rfl
    cases ru
    exact PySem.repr_of_reads' rd hs (PySem.PyData.noDict_hsm (PySem.PyData.hasDict_of_canLay _ hl)) hg (by omega) (fun _ _ e => e) (fun h' t tk hk => fin h' t tk hk) (by rw [most_eq]; exact hz)
  | dict kvs => simp [PyData.canLay0] at hl
theorem insC_perm (x : List Int) : ∀ ks, (insC x ks).Perm (x :: ks)
  | [] => List.Perm.refl _
  | y :: r => by
    simp only [insC]
    split
    · exact List.Perm.refl _
    · exact (List.Perm.cons y (insC_perm x r)).trans (List.Perm.swap x y r)
theorem sortC_perm : ∀ ks, (sortC ks).Perm ks
  | [] => List.Perm.refl _
  | x :: r => (insC_perm x (sortC r)).trans (List.Perm.cons x (sortC_perm r))
theorem insC_rise (x : List Int) : ∀ ks : List (List Int), ks.Pairwise (fun a b => codeI a ≤ codeI b) → (insC x ks).Pairwise (fun a b => codeI a ≤ codeI b)
  | [], _ => by simp [insC]
  | y :: r, h => by
    rw [List.pairwise_cons] at h
    simp only [insC]
    split
    · rename_i q
      rw [List.pairwise_cons]
      refine ⟨fun z hz => ?_, by rw [List.pairwise_cons]; exact h⟩
      rcases List.mem_cons.mp hz with rfl | hz
      · exact q
      · exact Int.le_trans q (h.1 z hz)
    · rename_i q
      rw [List.pairwise_cons]
      refine ⟨fun z hz => ?_, insC_rise x r h.2⟩
      rcases List.mem_cons.mp ((insC_perm x r).mem_iff.mp hz) with rfl | hz
      · omega
      · exact h.1 z hz
theorem sortC_rise : ∀ ks : List (List Int), (sortC ks).Pairwise (fun a b => codeI a ≤ codeI b)
  | [] => by simp [sortC]
  | x :: r => insC_rise x _ (sortC_rise r)
theorem codeI_eq : ∀ ns : List Int, codeI ns = TS.code 18446744073709551616 ns
  | [] => rfl
  | d :: r => by
    show d * _ ^ r.length + codeI r = d * _ ^ r.length + TS.code _ r
    rw [codeI_eq r]
theorem codeI_inj : ∀ {a b : List Int}, a.length = b.length → TS.Bd 18446744073709551616 a → TS.Bd 18446744073709551616 b → codeI a = codeI b → a = b
  | [], [], _, _, _, _ => rfl
  | [], _ :: _, h, _, _, _ => by simp at h
  | _ :: _, [], h, _, _, _ => by simp at h
  | x :: a, y :: b, h, ha, hb, e => by
    have hl : a.length = b.length := by simpa using h
    rw [codeI_eq, codeI_eq] at e
    have exy : x = y := by
      rcases Int.lt_trichotomy x y with q | q | q
      · have := TS.code_lt hl ha.tail hb.tail q
        omega
      · exact q
      · have := TS.code_lt hl.symm hb.tail ha.tail q
        omega
    subst exy
    have e2 : TS.code 18446744073709551616 a = TS.code 18446744073709551616 b := by
      have h1 : ¬ TS.code 18446744073709551616 a < TS.code 18446744073709551616 b := fun q => by
        have := (TS.code_same (d := x) hl).mpr q
        omega
      have h2 : ¬ TS.code 18446744073709551616 b < TS.code 18446744073709551616 a := fun q => by
        have := (TS.code_same (d := x) hl.symm).mpr q
        omega
      omega
    rw [codeI_inj hl ha.tail hb.tail (by rw [codeI_eq, codeI_eq]; exact e2)]
theorem map_one {ks : List (List Int)} (inj : ∀ a ∈ ks, ∀ b ∈ ks, codeI a = codeI b → a = b) : ∀ (js ls : List (List Int)), js.map codeI = ls.map codeI → (∀ a ∈ js, a ∈ ks) → (∀ a ∈ ls, a ∈ ks) → js = ls
  | [], [], _, _, _ => rfl
  | [], _ :: _, e, _, _ => by cases e
  | _ :: _, [], e, _, _ => by cases e
  | a :: js, b :: ls, e, m1, m2 => by
    simp only [List.map_cons, List.cons.injEq] at e
    rw [inj a (m1 a List.mem_cons_self) b (m2 b List.mem_cons_self) e.1, map_one inj js ls e.2 (fun x hx => m1 x (List.mem_cons_of_mem _ hx)) fun x hx => m2 x (List.mem_cons_of_mem _ hx)]
/-- sorted tuples of the same stand in one order -/
theorem sortC_eq {ks js : List (List Int)} (p : js.Perm ks) (s : js.Pairwise (fun a b => codeI a ≤ codeI b)) (inj : ∀ a ∈ ks, ∀ b ∈ ks, codeI a = codeI b → a = b) : js = sortC ks := by
  have e : js.map codeI = (sortC ks).map codeI := by
    have h1 := sortI_eq (p.map codeI) (List.pairwise_map.mpr s)
    have h2 := sortI_eq ((sortC_perm ks).map codeI) (List.pairwise_map.mpr (sortC_rise ks))
    rw [h1, h2]
  have q : (sortC ks).Perm ks := sortC_perm ks
  have m1 : ∀ a ∈ js, a ∈ ks := fun a ha => p.mem_iff.mp ha
  have m2 : ∀ a ∈ sortC ks, a ∈ ks := fun a ha => q.mem_iff.mp ha
  exact map_one inj _ _ e m1 m2
theorem dva_perm {K : PySem.W.Frag} {H : Hp} {vs ys : List V} (p : ys.Perm vs) : ∀ {ks : List (List Int)}, DvA K H (ks.map tupI) vs → ∃ js : List (List Int), js.Perm ks ∧ DvA K H (js.map tupI) ys := by
  induction p with
  | nil => exact fun {ks} h => ⟨ks, List.Perm.refl _, h⟩
  | cons x p ih =>
    intro ks h
    cases ks with
    | nil => rw [List.map_nil, DvA] at h; cases h
    | cons k ks =>
      rw [List.map_cons, DvA] at h
      obtain ⟨v, r, e, h1, h2⟩ := h
      cases e
      obtain ⟨js, h3, h4⟩ := ih h2
      refine ⟨k :: js, h3.cons k, ?_⟩
      rw [List.map_cons, DvA]
      exact ⟨_, _, rfl, h1, h4⟩
  | swap x y l =>
    intro ks h
    match ks, h with
    | [], h => rw [List.map_nil, DvA] at h; cases h
    | [k], h =>
      rw [List.map_cons, DvA] at h
      obtain ⟨v, r, e, h1, h2⟩ := h
      cases e
      rw [List.map_nil, DvA] at h2
      cases h2
    | k :: j :: ks, h =>
      rw [List.map_cons, DvA] at h
      obtain ⟨v, r, e, h1, h2⟩ := h
      cases e
      rw [List.map_cons, DvA] at h2
      obtain ⟨v, r, e, h3, h4⟩ := h2
      cases e
      refine ⟨j :: k :: ks, List.Perm.swap _ _ _, ?_⟩
      rw [List.map_cons, DvA]
      refine ⟨_, _, rfl, h3, ?_⟩
      rw [List.map_cons, DvA]
      exact ⟨_, _, rfl, h1, h4⟩
  | trans p q ih1 ih2 =>
    intro ks h
    obtain ⟨js, h1, h2⟩ := ih2 h
    obtain ⟨ls, h3, h4⟩ := ih1 h2
    exact ⟨ls, h3.trans h1, h4⟩
theorem tups_eq : ∀ {xs : List D} {ks : List (List Int)}, tupsOf xs = some ks → xs = ks.map tupI
  | [], ks, h => by simp [tupsOf] at h; subst h; rfl
  | d :: r, ks, h => by
    cases d with
    | tuple ys =>
      simp only [tupsOf] at h
      split at h
      · rename_i ns js h1 h2
        cases h
        rw [List.map_cons, ← tups_eq h2]
        have e : ∀ {ys : List D} {ns : List Int}, intsOf ys = some ns → ys = ns.map .int := by
          intro ys
          induction ys with
          | nil => intro ns h; simp [intsOf] at h; subst h; rfl
          | cons y ys ih =>
            intro ns h
            cases y with
            | int i =>
              simp only [intsOf, Option.map_eq_some_iff] at h
              obtain ⟨m, h3, rfl⟩ := h
              rw [ih h3]
              rfl
            | _ => simp [intsOf] at h
        rw [e h1]
        rfl
      · cases h
    | _ => simp [tupsOf] at h
/-- the built-ins that are served -/
def served : Bi → Bool
  | .sumi | .any | .sortedR | .setl | .lrng | .inr => false
  | _ => true
def rSrt (K : PySem.W.Frag) : List V → Hp → VK → Prop := fun xs H Q => ∃ (O : Ps) (ds zs : List D), DvA K (hid H O) ds xs ∧ biD .sorted ds = .ok (.list zs) ∧
  ∀ (p : Addr) (us : List V), H p = none → zs.length ≤ sizeLine → DvA K (hid H O) zs us → Q (.ref p) (upd H p (.lst us))
/-- sorted(..) of ints or of int tuples: a new list -/
theorem cr_srt : CallR X (.builtin "sorted") (rSrt X.K) := by
  intro pins s σ H xs us Q I rx w
  obtain ⟨O, ds, zs, h1, h3, h4⟩ := w
  unfold biD at h3
  split at h3 <;> first | (rename_i hx _; cases hx; done) | skip
  all_goals first | (simp at *; done) | skip
  split at h3
  · rename_i ns hn
    obtain ⟨g3, g5⟩ := Res.ok_if h3
    cases g5
    obtain ⟨v, rfl, q⟩ := dva1 h1
    obtain ⟨a, vs, rfl, ha, ra⟩ := dv_list q rfl
    obtain ⟨rfl, _⟩ := ra.ints hn
    refine cr_sorted (X := X) pins s σ H _ us Q I rx ⟨a, ns, rfl, (hid_sqm ha).sq, g3, fun ms p hp hs np => ?_⟩
    rw [sortI_eq hp hs]
    exact h4 p _ np (by rw [List.length_map, (sortI_perm ns).length_eq]; exact small64 g3) DvA.of_ints
  · split at h3
    case h_2 => cases h3
    rename_i ks hk
    obtain ⟨g3, g5⟩ := Res.ok_if h3
    cases g5
    obtain ⟨v, rfl, q⟩ := dva1 h1
    obtain ⟨a, vs, rfl, ha, ra⟩ := dv_list q rfl
    rw [tups_eq hk] at ra
    have vl : vs.length = ks.length := by rw [← ra.len, List.length_map]
    cases ks with
    | nil =>
      have e := tups_eq hk
      simp only [List.map_nil] at e
      subst e
      have hno : intsOf [] = none := by assumption
      simp [intsOf] at hno
    | cons k ks =>
      simp only [tupsOk, Bool.and_eq_true, decide_eq_true_eq, List.all_eq_true] at g3
      obtain ⟨g6, g7, g8⟩ := g3
      have bd : ∀ j ∈ k :: ks, j.length = k.length ∧ TS.Bd 18446744073709551616 j := fun j hj => by
        have := g8 j hj
        refine ⟨this.1, fun m hm => ?_⟩
        have := this.2 m hm
        exact this
      have inj : ∀ a ∈ k :: ks, ∀ b ∈ k :: ks, codeI a = codeI b → a = b := fun a ha b hb e => codeI_inj (by rw [(bd a ha).1, (bd b hb).1]) (bd a ha).2 (bd b hb).2 e
      have isT : ∀ {x : V} {j : List Int} {H' : Hp}, Dv X.K H' (tupI j) x → TupI X.K H' x j := fun {x j H'} h => by
        obtain ⟨t, us, rfl, h5, h6⟩ := dv_tup h rfl
        have : intsOf (j.map PyData.int) = some j := by
          clear h h5 h6
          induction j with
          | nil => rfl
          | cons m j ih => simp only [List.map_cons, intsOf, ih, Option.map_some]
        obtain ⟨e, _⟩ := h6.ints this
        subst e
        exact ⟨t, rfl, h5⟩
      have raA : DvA X.K H ((k :: ks).map tupI) vs := DvA.mono hid_le _ _ ra
      refine cr_sortT (X := X) (d := k.length) (B := 18446744073709551616) g7 pins s σ H _ us Q I rx ⟨a, vs, rfl, (hid_sqm ha).sq, by rw [vl]; exact g6, fun x hx => ?_, fun ys p pm pw np => ?_⟩
      · obtain ⟨i, hi⟩ := List.mem_iff_getElem?.mp hx
        have hil : i < (k :: ks).length := by
          have := (List.getElem?_eq_some_iff.mp hi).1
          omega
        have hd : ((k :: ks).map tupI)[i]? = some (tupI (k :: ks)[i]) := by rw [List.getElem?_map, List.getElem?_eq_getElem hil]; rfl
        obtain ⟨x', h5, h6⟩ := raA.get hd
        rw [hi] at h5
        cases h5
        exact ⟨_, isT h6, bd _ (List.getElem_mem hil)⟩
      · obtain ⟨js, p1, p2⟩ := dva_perm pm ra
        have p2A : DvA X.K H (js.map tupI) ys := DvA.mono hid_le _ _ p2
        have yl : ys.length = js.length := by rw [← p2.len, List.length_map]
        have sj : js.Pairwise (fun a b => codeI a ≤ codeI b) := by
          rw [List.pairwise_iff_getElem]
          intro i1 i2 l1 l2 lt
          obtain ⟨x1, e1, d1⟩ := p2A.get (show (js.map tupI)[i1]? = some (tupI js[i1]) by rw [List.getElem?_map, List.getElem?_eq_getElem l1]; rfl)
          obtain ⟨x2, e2, d2⟩ := p2A.get (show (js.map tupI)[i2]? = some (tupI js[i2]) by rw [List.getElem?_map, List.getElem?_eq_getElem l2]; rfl)
          have q1 := (List.getElem?_eq_some_iff.mp e1)
          have q2 := (List.getElem?_eq_some_iff.mp e2)
          obtain ⟨l3, q3⟩ := q1
          obtain ⟨l4, q4⟩ := q2
          have := List.pairwise_iff_getElem.mp pw i1 i2 l3 l4 lt _ _ (by rw [q3]; exact isT d1) (by rw [q4]; exact isT d2)
          rw [codeI_eq, codeI_eq]
          exact this
        have ej := sortC_eq p1 sj inj
        subst ej
        exact h4 p _ np (by rw [List.length_map, (sortC_perm _).length_eq]; exact small64 g6) p2
theorem callR_B (hc : X.calm = true) (hg : X.A.guards = some []) (hu : X.A.units + 64 < cLine) (b : Bi) (hs : served b = true) : CallR X (bN b) (rB X.K (biD b)) := by
  cases b with
  | len =>
    refine CallR.rb (call_len (X := X)) fun H O xs ds z Q h1 h2 h3 h4 => ?_
    unfold biD at h3
    split at h3 <;> first | (rename_i hx _; cases hx; done) | skip
    all_goals first | (simp at *; done) | skip
    · cases h3
      obtain ⟨v, rfl, q⟩ := dva1 h1
      obtain ⟨a, vs, rfl, ha, ra⟩ := dv_list q rfl
      exact ⟨_, _, rfl, .inl ⟨vs, (hid_sqm ha).sq, ra.len⟩, h4 _ H (Same.refl H) (by rw [Dv])⟩
    · cases h3
      obtain ⟨v, rfl, q⟩ := dva1 h1
      obtain ⟨a, vs, rfl, ha, ra⟩ := dv_tup q rfl
      exact ⟨_, _, rfl, .inr ⟨vs, hid_sqt ha, ra.len⟩, h4 _ H (Same.refl H) (by rw [Dv])⟩
    · obtain ⟨g3, g5⟩ := Res.ok_if h3
      cases g5
      obtain ⟨v, rfl, q⟩ := dva1 h1
      rw [Dv] at q
      subst q
      exact ⟨_, _, rfl, ⟨by rw [most_eq]; exact g3, rfl⟩, h4 _ H (Same.refl H) (by rw [Dv])⟩
  | sum =>
    refine CallR.rb (cr_sum hc) fun H O xs ds z Q h1 h2 h3 h4 => ?_
    unfold biD at h3
    split at h3 <;> first | (rename_i hx _; cases hx; done) | skip
    all_goals first | (simp at *; done) | skip
    split at h3 <;> cases h3
    rename_i ns hn
    obtain ⟨v, rfl, q⟩ := dva1 h1
    obtain ⟨a, vs, rfl, ha, ra⟩ := dv_list q rfl
    obtain ⟨rfl, _⟩ := ra.ints hn
    exact ⟨a, ns, rfl, (hid_sqm ha).sq, h4 _ H (Same.refl H) (by rw [Dv])⟩
  | sumi => cases hs
  | any => cases hs
  | sortedR => cases hs
  | setl => cases hs
  | lrng => cases hs
  | inr => cases hs
  | max =>
    refine CallR.rb (call_max2 hc) fun H O xs ds z Q h1 h2 h3 h4 => ?_
    unfold biD at h3
    split at h3 <;> first | (rename_i hx _; cases hx; done) | skip
    all_goals first | (simp at *; done) | skip
    cases h3
    obtain ⟨v, u, rfl, q1, q2⟩ := dva2 h1
    rw [Dv] at q1
    rw [Dv] at q2
    subst q1 q2
    exact ⟨_, _, rfl, h4 _ H (Same.refl H) (by rw [Dv])⟩
  | min =>
    refine CallR.rb (call_min2 hc) fun H O xs ds z Q h1 h2 h3 h4 => ?_
    unfold biD at h3
    split at h3 <;> first | (rename_i hx _; cases hx; done) | skip
    all_goals first | (simp at *; done) | skip
    cases h3
    obtain ⟨v, u, rfl, q1, q2⟩ := dva2 h1
    rw [Dv] at q1
    rw [Dv] at q2
    subst q1 q2
    exact ⟨_, _, rfl, h4 _ H (Same.refl H) (by rw [Dv])⟩
  | maxL =>
    refine CallR.rb (cr_max hc) fun H O xs ds z Q h1 h2 h3 h4 => ?_
    unfold biD at h3
    split at h3 <;> first | (rename_i hx _; cases hx; done) | skip
    all_goals first | (simp at *; done) | skip
    split at h3 <;> cases h3
    rename_i n ns hn
    obtain ⟨v, rfl, q⟩ := dva1 h1
    obtain ⟨a, vs, rfl, ha, ra⟩ := dv_list q rfl
    obtain ⟨rfl, _⟩ := ra.ints hn
    refine ⟨a, n :: ns, rfl, (hid_sqm ha).sq, by simp, fun m hm hle => ?_⟩
    obtain ⟨s1, s2, s3⟩ := maxI_spec ns n
    have e : m = maxI n ns := by
      have a1 : maxI n ns ≤ m := hle _ (by rcases s1 with s1 | s1 <;> simp [s1])
      have a2 : m ≤ maxI n ns := by
        rcases List.mem_cons.mp hm with rfl | hm
        · exact s2
        · exact s3 m hm
      omega
    rw [e]
    exact h4 _ H (Same.refl H) (by rw [Dv])
  | minL =>
    refine CallR.rb (cr_min hc) fun H O xs ds z Q h1 h2 h3 h4 => ?_
    unfold biD at h3
    split at h3 <;> first | (rename_i hx _; cases hx; done) | skip
    all_goals first | (simp at *; done) | skip
    split at h3 <;> cases h3
    rename_i n ns hn
    obtain ⟨v, rfl, q⟩ := dva1 h1
    obtain ⟨a, vs, rfl, ha, ra⟩ := dv_list q rfl
    obtain ⟨rfl, _⟩ := ra.ints hn
    refine ⟨a, n :: ns, rfl, (hid_sqm ha).sq, by simp, fun m hm hle => ?_⟩
    obtain ⟨s1, s2, s3⟩ := minI_spec ns n
    have e : m = minI n ns := by
      have a1 : m ≤ minI n ns := hle _ (by rcases s1 with s1 | s1 <;> simp [s1])
      have a2 : minI n ns ≤ m := by
        rcases List.mem_cons.mp hm with rfl | hm
        · exact s2
        · exact s3 m hm
      omega
    rw [e]
    exact h4 _ H (Same.refl H) (by rw [Dv])
  | all =>
    refine CallR.rb (cr_all hc) fun H O xs ds z Q h1 h2 h3 h4 => ?_
    unfold biD at h3
    split at h3 <;> first | (rename_i hx _; cases hx; done) | skip
    all_goals first | (simp at *; done) | skip
    split at h3 <;> cases h3
    rename_i bs hn
    obtain ⟨v, rfl, q⟩ := dva1 h1
    obtain ⟨a, vs, rfl, ha, ra⟩ := dv_list q rfl
    have e := ra.bools hn
    subst e
    exact ⟨a, bs, rfl, (hid_sqm ha).sq, h4 _ H (Same.refl H) (by rw [Dv])⟩
  | sorted =>
    refine CallR.rb (cr_srt (X := X)) fun H O xs ds z Q h1 h2 h3 h4 => ?_
    have h3' := h3
    unfold biD at h3'
    split at h3' <;> first | (rename_i hx _; cases hx; done) | skip
    all_goals first | (simp at *; done) | skip
    have : ∃ zs, z = .list zs := by
      split at h3'
      · exact ⟨_, (Res.ok.inj (Res.ok_if h3').2).symm⟩
      · split at h3'
        · exact ⟨_, (Res.ok.inj (Res.ok_if h3').2).symm⟩
        · cases h3'
    obtain ⟨zs, rfl⟩ := this
    exact ⟨O, _, zs, h1, h3, fun p us np hz ra => h4 _ _ (same_new np) (new_lst hz np h2 ra)⟩
  | list =>
    refine CallR.rb (call_list_of (X := X)) fun H O xs ds z Q h1 h2 h3 h4 => ?_
    unfold biD at h3
    split at h3 <;> first | (rename_i hx _; cases hx; done) | skip
    all_goals first | (simp at *; done) | skip
    · cases h3
      obtain ⟨v, rfl, q⟩ := dva1 h1
      obtain ⟨a, vs, rfl, ha, ra⟩ := dv_list q rfl
      exact ⟨a, vs, rfl, .inl (hid_sqm ha).sq, fun p np => h4 _ _ (same_new np) (new_lst (by rw [ra.len]; exact ha.1) np h2 ra)⟩
    · cases h3
      obtain ⟨v, rfl, q⟩ := dva1 h1
      obtain ⟨a, vs, rfl, ha, ra⟩ := dv_tup q rfl
      exact ⟨a, vs, rfl, .inr (hid_sqt ha), fun p np => h4 _ _ (same_new np) (new_lst (dv_tupl q rfl) np h2 ra)⟩
  | tuple =>
    refine CallR.rb (call_tuple_of (X := X)) fun H O xs ds z Q h1 h2 h3 h4 => ?_
    unfold biD at h3
    split at h3 <;> first | (rename_i hx _; cases hx; done) | skip
    all_goals first | (simp at *; done) | skip
    · cases h3
      obtain ⟨v, rfl, q⟩ := dva1 h1
      obtain ⟨a, vs, rfl, ha, ra⟩ := dv_list q rfl
      exact ⟨a, vs, rfl, .inl ⟨(hid_sqm ha).sq, fun p np => h4 _ _ (same_new np) (new_tup (by rw [ra.len]; exact ha.1) np h2 ra)⟩⟩
    · cases h3
      obtain ⟨v, rfl, q⟩ := dva1 h1
      obtain ⟨a, vs, rfl, ha, ra⟩ := dv_tup q rfl
      exact ⟨a, vs, rfl, .inr ⟨hid_sqt ha, h4 _ H (Same.refl H) q⟩⟩
  | int =>
    refine CallR.rb (call_int1 (X := X)) fun H O xs ds z Q h1 h2 h3 h4 => ?_
    unfold biD at h3
    split at h3 <;> first | (rename_i hx _; cases hx; done) | skip
    all_goals first | (simp at *; done) | skip
    · cases h3
      obtain ⟨v, rfl, q⟩ := dva1 h1
      rw [Dv] at q
      subst q
      exact .inl ⟨_, rfl, h4 _ H (Same.refl H) (by rw [Dv])⟩
    · cases h3
      obtain ⟨v, rfl, q⟩ := dva1 h1
      rw [Dv] at q
      subst q
      exact .inr ⟨_, rfl, h4 _ H (Same.refl H) (by rw [Dv])⟩
  | str =>
    refine CallR.rb (call_str_int (X := X)) fun H O xs ds z Q h1 h2 h3 h4 => ?_
    unfold biD at h3
    split at h3 <;> first | (rename_i hx _; cases hx; done) | skip
    all_goals first | (simp at *; done) | skip
    obtain ⟨g3, g5⟩ := Res.ok_if h3
    cases g5
    obtain ⟨v, rfl, q⟩ := dva1 h1
    rw [Dv] at q
    subst q
    exact ⟨_, rfl, g3, h4 _ H (Same.refl H) (by rw [Dv])⟩
  | abs =>
    refine CallR.rb (call_abs (X := X)) fun H O xs ds z Q h1 h2 h3 h4 => ?_
    unfold biD at h3
    split at h3 <;> first | (rename_i hx _; cases hx; done) | skip
    all_goals first | (simp at *; done) | skip
    cases h3
    obtain ⟨v, rfl, q⟩ := dva1 h1
    rw [Dv] at q
    subst q
    exact ⟨_, rfl, h4 _ H (Same.refl H) (by rw [Dv])⟩
  | repr => exact call_reprD hg (by omega)
end
end Bk
/-! Bk: a list of ints made a set. -/
namespace Bk
open PySem PySem.Spec PyProof.Rows L2
section
variable {P : Program} {w : World} {A : Around} {E : Value → Shared → Prop} {s : Shared}
/-- a set that was just made -/
abbrev ob0 (w : World) : Obj := { cls := .type "set", dict := none, data := .set #[] 0 (.fresh 0 0 (!w.params.followText "set-order")) }
theorem made_set {a : Addr} {vs : Array Value} (ks : List Int) {R : Value → Shared → Prop} (calm : A.handled = none) (isl : s.heap.IsList a vs) (are : IntsAre vs.toList ks) (few : ks.length + 1 < scanBound)
    (k : ∀ (hp : Heap) (tk c : Nat), SetR w hp s.heap.objs.size (fun j => decide (j ∈ ks)) c → c ≤ ks.length → (∀ b o, s.heap.get? b = some o → hp.get? b = some o) → R (.ref s.heap.objs.size) { s with heap := hp, toks := tk }) :
    wpAny (model P w) A (PySem.call (.type "set") [.ref a]) R E s := by
  have sz : vs.size = ks.length := by
    have z := IntsAre.length are
    rwa [Array.length_toList] at z
  obtain ⟨m1, m2, mro⟩ := F.called_set.mro
  have md := F.called_set.made
  have sb := F.called_set.sub
  refine wpAny_call (codeAny_of_tree ?_)
  show wpAny _ _ (callAny (.type "set") _) _ _ _
  refine wpAny_pure ⟨Code.quiet_builtin _ (by decide +kernel),
    codeAny_builtin F.entry_type_call ?_⟩
  rw [Around.under_plain
    (weight_type_call_type "set" [.ref a] []) rfl]
  have nt := F.called_set.notType
  have cc := F.called_set.canCreate
  have tc := F.typeCall_set_1 (.ref a)
  repeat (any_goals (first | assumption | wp_step))
  refine codeAny_mono (code_set_led1 (.ref a) (E := E) (Q₁ := fun y s₁ => y = .ref s.heap.objs.size ∧ s₁ = { s with heap := s.heap.push (ob0 w) }) ⟨rfl, rfl⟩) fun res s1 got => ?_
  match res, got with
  | .error _, got => exact got
  | .ok .next, got => exact got
  | .ok .brk, got => exact got
  | .ok .cont, got => exact got
  | .ok (.ret y), ⟨e1, e2⟩ =>
    subst e1 e2
    have at0 : (s.heap.push (ob0 w)).get? s.heap.objs.size = some (ob0 w) := Heap.get?_push_size _ rfl
    have ty0 : Shared.TypeIs { s with heap := s.heap.push (ob0 w) } (.ref s.heap.objs.size) "set" := ⟨_, at0, rfl⟩
    have il := F.called_set.init.lookup
    have ib := F.called_set.init.bind (.ref s.heap.objs.size)
    repeat (any_goals (first | assumption | wp_step))
    refine codeAny_mono (codeAny_call_builtin (R := wants (fun y s2 => y = .none ∧ ∃ hp tk c, s2 = { s with heap := hp, toks := tk } ∧ SetR w hp s.heap.objs.size (fun j => decide (j ∈ ks)) c ∧ c ≤ ks.length ∧
      (∀ b o, s.heap.get? b = some o → hp.get? b = some o)) E)
      F.called_set.init.plain F.entry_set_init (check_set_init_1 ty0 ?_)) fun res2 s2 got2 => ?_
    · obtain ⟨oa, ha, hcl, na, hda⟩ := isl
      obtain ⟨c1, c2, c3, c4⟩ := oa
      simp only at hcl hda
      subst hcl hda
      have ha1 : (s.heap.push (ob0 w)).get? a = some { cls := .type "list", dict := c2, data := .seq vs na, slots := c4 } :=
        Heap.get?_push_of_some _ ha
      have s1 := F.sub_list_set
      have s2 := F.sub_list_frozenset
      have nd : (Value.type "list" == Value.type "dict") = false := by decide
      have il1 : (s.heap.push (ob0 w)).IsList a vs := ⟨_, ha1, rfl, na, rfl⟩
      unfold Builtin.«set.__init__» noKeywords
        Builtin.Frozenset.updateFrom
      generalize hI : pyIter = It
      wp_walk
      subst hI
      refine wpAny_pyIter_list il1 ?_
      refine wpAny_bind
        (wpAny_runValue ?_)
      have lt := Heap.lt_size ha
      have cm : A.in1.in1.in1.handled = none := by simp [calm]
      have ne : a ≠ (s.heap.push (ob0 w)).objs.size := by
        rw [Heap.size_push]
        exact Nat.ne_of_lt (Nat.lt_succ_of_lt lt)
      have out : s.heap.objs.size ∉ [(s.heap.push (ob0 w)).objs.size, a] := by
        rw [Heap.size_push]
        simp only [List.mem_cons, List.not_mem_nil, or_false, not_or]
        exact ⟨Nat.ne_of_lt (Nat.lt_succ_self _), Nat.ne_of_gt lt⟩
      have val : ∀ (i : Nat) (v : Value), vs[i]? = some v → ∃ z t, ks[i]? = some z ∧ v = .int z t := fun i v hv => by
        have lti : i < ks.length := by
          rw [← sz]
          exact (Array.getElem?_eq_some_iff.mp hv).1
        obtain ⟨t, e⟩ := PyProof.Rows.IntsAre.int_at are i v
          (by rw [Array.getElem?_toList]; exact hv)
        refine ⟨ks[i], t, List.getElem?_eq_getElem lti, ?_⟩
        rw [e, List.getD_eq_getElem?_getD,
          List.getElem?_eq_getElem lti]
        rfl
      refine set_update_ints ((Walks.list cm _ a ne vs).toS) s.heap.objs.size out ks sz few val (vs.size - 0) 0 _ (by omega) (Nat.zero_le _)
        ⟨⟨_, Heap.get?_push_size _ rfl, rfl, rfl⟩, (il1.push _)⟩ ?new ?fin
      case new =>
        exact ⟨0, Nat.le_refl 0, setR_new_at (Heap.get?_push_of_some _ at0)⟩
      case fin =>
        intro s3 c mv lc isr
        obtain ⟨hp, g3, d3, t3, o3⟩ := s3
        have eg : g3 = s.gens := mv.gens
        have ed : d3 = s.drawn := mv.drawn
        have eo : o3 = s.os := mv.os
        subst eg ed eo
        show wpAny _ _ _ _ _ _
        refine wpAny_pure ?_
        show wpAny _ _ (ret Value.none) _ _ _
        rw [sz] at lc
        refine wpAny_pure ⟨rfl, hp, t3, c, rfl, isr, lc, fun b o e => ?_⟩
        have b0 := Heap.lt_size e
        refine mv.heap b o ?_ (Heap.get?_push_of_some _ (Heap.get?_push_of_some _ e))
        simp only [List.mem_cons, List.not_mem_nil, or_false, not_or]
        rw [Heap.size_push]
        exact ⟨Nat.ne_of_lt b0, Nat.ne_of_lt (Nat.lt_succ_of_lt b0)⟩
    · match res2, got2 with
      | .error _, got2 => exact got2
      | .ok .next, got2 => exact got2.elim
      | .ok .brk, got2 => exact got2.elim
      | .ok .cont, got2 => exact got2.elim
      | .ok (.ret y), ⟨e1, hp, tk, c, e2, isr, lc, kp⟩ =>
        subst e1 e2
        repeat (any_goals (first | assumption | wp_step))
        exact k _ _ _ isr lc kp
end
/-- set(xs), xs a list of ints -/
def rSetOf (K : PySem.W.Frag) (w : World) : List V → Hp → VK → Prop := fun xs H Q => ∃ (l : Addr) (ks : List Int), xs = [V.ref l] ∧ SqL K H l (ks.map V.int) ∧ ks.length < 1000 ∧
  ∀ p c, H p = none → c ≤ ks.length → Q (.ref p) (upd H p (SetO w p (fun j => decide (j ∈ ks)) c))
theorem cr_setOf {X : Cx} (hc : X.calm = true) : CallR X (.type "set") (rSetOf X.K X.w) := by
  intro pins s σ H xs us Q I r h
  obtain ⟨l, ks, rfl, hl, few, q⟩ := h
  rw [Vals.ref1 r]
  obtain ⟨its, rv, pl, hz⟩ := I.list hl
  have nw : H s.heap.objs.size = none := I.hok.fresh (Nat.le_refl _)
  refine made_set ks (I.ok.hd hc) pl.isList (by simpa using ints_of_vals rv) (by unfold scanBound; omega) fun hp tk c isr lc kp => ?_
  exact ⟨.ref s.heap.objs.size, upd H s.heap.objs.size (SetO X.w s.heap.objs.size (fun j => decide (j ∈ ks)) c), I.laid (t' := tk) kp (Nat.le_refl _) (setO_new isr), rfl, q _ c nw lc⟩
end Bk
/-! Bk: each expression of the small language is what Python's text does. -/
namespace Bk
open PySem PySem.Spec PyProof.Rows L2
/-- what is told: fresh lists of its own, by the shape -/
def RetOk (K : PySem.W.Frag) (H H' : Hp) (O : Ps) (s : Sh) (d : D) (v : V) : Prop := ∃ fp : Ps, (∀ a, fp a → H a = none) ∧ Own K H' (fun a => O a ∨ fp a) s d v fp
/-- a def's promise: it tells F of the data -/
def spD (K : PySem.W.Frag) (s : Sh) (F : List D → Res D) : Sp := fun vs H Q _ => ∃ (O : Ps) (ds : List D) (d : D), DvA K (hid H O) ds vs ∧ (∀ a, O a → H a ≠ none) ∧ F ds = .ok d ∧
  ∀ v H', Same H H' → RetOk K H H' O s d v → Q v H'
/-- the names that must be free in the module -/
def frees : List Str := ["isinstance", "range", "enumerate", "zip", "len", "sum", "all", "sorted", "list", "tuple", "int", "str", "repr", "abs", "max", "min", "bool", "dict", "set"]
structure Ctx (X : Cx) (sc : Scope) (L : Lk) (C : Nat → List D → Res D) : Prop where
  N : X.N = L.N
  nd : L.N.Nodup
  sc : X.env.scope = sc
  calm : X.calm = true
  blt : ∀ x ∈ frees, X.mg x = none
  con : ∀ (x : Str) (d : D), L.cs.lookup x = some d → ∃ u v, X.mg x = some u ∧ RelV v u ∧ ∀ H, Dv X.K H d v
  fns : ∀ (x : Str) (k n : Nat) (s : Sh), L.ids.lookup x = some (k, n, s) → ∃ (CX : CXT) (f : Addr) (fd : FuncData) (ps : List Str) (lv : Nat), X.mg x = some (.ref f) ∧ PySem.W.keepIn X.K (.ref f) = true ∧ ps.length = n ∧
    Fk X.prog X.w X.K X.mg X.base CX lv f fd ps (spD X.K s (C k)) ∧ Room lv X.A ∧ Binds X.K fd ps [] ∧ ∀ X' : Cx, X'.prog = X.prog → X'.w = X.w → Passes CX X' E0
  grd : X.A.guards = some []
  room : X.A.units + 65 < cLine
section
variable {X : Cx} {sc : Scope} {L : Lk} {C : Nat → List D → Res D}
theorem Ctx.blk (c : Ctx X sc L C) (s : Shared) (H : Hp) (scope : Scope) (C' : Addr) (cl : List (Str × Addr)) (fp : List Addr) : Ctx (X.blk s H scope (compEnvC scope cl C' X.env) fp) (inner scope sc) L C where
  N := c.N
  nd := c.nd
  sc := by
    show relabel scope X.env = inner scope sc
    unfold relabel inner Env.kindOf
    rw [c.sc]
  calm := c.calm
  blt := c.blt
  con := c.con
  fns := c.fns
  grd := c.grd
  room := c.room
/-- an expression's reading: R says what comes of it -/
def tD (K : PySem.W.Frag) (L : Lk) (C : Nat → List D → Res D) (m : E) : TE := fun σ H Q => ∃ (ρ : En) (O : Ps) (F : Nat → Ps) (d : D), ER K L.ms ρ σ H O F ∧ ev C m ρ = .ok d ∧
  ∀ v H', Same H H' → Bd K H' O (shp L.ms m) d v → Q v H'
def tDs (K : PySem.W.Frag) (L : Lk) (C : Nat → List D → Res D) (m : E) : TA := fun σ H Q => ∃ (ρ : En) (O : Ps) (F : Nat → Ps) (ds : List D), ER K L.ms ρ σ H O F ∧ evs C m ρ = .ok ds ∧
  ∀ vs H', Same H H' → DvA K H' ds vs → (fzs L.ms m = true → DvA K (hid H' O) ds vs) → Q vs H'
def tDt (K : PySem.W.Frag) (L : Lk) (C : Nat → List D → Res D) (m : E) : TT := fun σ H Q => ∃ (ρ : En) (O : Ps) (F : Nat → Ps) (b : Bool), ER K L.ms ρ σ H O F ∧ ev C m ρ = .ok (.bool b) ∧
  ∀ H', Same H H' → Q b H'
theorem pe_imp {e : Expr} {t t' : TE} (h : PE X e t) (i : ∀ σ H Q, t' σ H Q → t σ H Q) : PE X e t' := ⟨fun pins s σ H Q I w => h.run pins s σ H Q I (i σ H Q w)⟩
theorem pt_imp {e : Expr} {t t' : TT} (h : PT X e t) (i : ∀ σ H Q, t' σ H Q → t σ H Q) : PT X e t' := ⟨fun pins s σ H Q I w => h.run pins s σ H Q I (i σ H Q w)⟩
theorem pa_imp {e : List Expr} {t t' : TA} (h : PA X e t) (i : ∀ σ H Q, t' σ H Q → t σ H Q) : PA X e t' := ⟨fun pos pins s σ H Q I w => h.run pos pins s σ H Q I (i σ H Q w)⟩
theorem bind_ok {α β : Type} {x : Res α} {f : α → Res β} {b : β} (h : x.bind f = .ok b) : ∃ a, x = .ok a ∧ f a = .ok b := by
  cases x with
  | ok a => exact ⟨a, rfl, h⟩
  | exc c vs => cases h
  | bad => cases h
theorem fz_eq {ms : List Sh} {e : E} (h : fz ms e = true) : shp ms e = .f := by
  unfold fz at h
  split at h
  · assumption
  · cases h
theorem frozen_eq {ms : List Sh} {i : Nat} (h : frozen ms i = true) : ms.getD i .f = .f := by
  unfold frozen at h
  split at h
  · assumption
  · cases h
theorem bd_fz {K : PySem.W.Frag} {H : Hp} {O : Ps} {ms : List Sh} {e : E} {d : D} {v : V} (h : Bd K H O (shp ms e) d v) (f : fz ms e = true) : Dv K (hid H O) d v := by
  rw [fz_eq f] at h
  exact h.fz
theorem same_hidO {H H' : Hp} {O : Ps} (s : Same H H') : Same (hid H O) (hid H' O) := same_hid s fun _ z => .inl z
/-- two in a row -/
theorem t2 {a b : E} {r : R2} {σ : L2.St} {H : Hp} {Q : VK} {ρ : En} {O : Ps} {F : Nat → Ps} {g : D → D → Res D} {d : D} (er : ER X.K L.ms ρ σ H O F) (e : ((ev C a ρ).bind fun x => (ev C b ρ).bind fun y => g x y) = .ok d)
    (h : ∀ (x y : D) (v u : V) (H2 : Hp), g x y = .ok d → Same H H2 → Bd X.K H2 O (shp L.ms a) x v → Bd X.K H2 O (shp L.ms b) y u → r v u H2 Q) : tOp r (tD X.K L C a) (tD X.K L C b) σ H Q := by
  obtain ⟨x, e1, e⟩ := bind_ok e
  obtain ⟨y, e2, e⟩ := bind_ok e
  exact ⟨ρ, O, F, x, er, e1, fun v H1 s1 b1 => ⟨ρ, O, F, y, er.mono s1, e2, fun u H2 s2 b2 => h x y v u H2 e (s1.trans s2) (b1.mono s2) b2⟩⟩
theorem s_op {a b : Expr} {ma mb : E} {o : Operator} {o' : BO} {pos : Pos} (ho : cvO o = some o') (ha : PE X a (tD X.K L C ma)) (hb : PE X b (tD X.K L C mb)) (fa : fz L.ms ma = true) (fb : fz L.ms mb = true) :
    PE X (.BinOp a o b pos) (tD X.K L C (.op o' ma mb)) := by
  have e : o = pyO o' := by cases o <;> cases ho <;> rfl
  subst e
  refine pe_imp (pe_op (opR_D o') ha hb) fun σ H Q ⟨ρ, O, F, d, er, e, q⟩ => t2 er e fun x y v u H2 g s2 b1 b2 => ?_
  exact ⟨O, x, y, d, bd_fz b1 fa, bd_fz b2 fb, (er.mono s2).dom, g, fun w H' s3 h => q w H' (s2.trans s3) (Bd.of h)⟩
theorem s_neg {a : Expr} {ma : E} {pos : Pos} (ha : PE X a (tD X.K L C ma)) : PE X (.UnaryOp .USub a pos) (tD X.K L C (.neg ma)) := by
  refine pe_imp (pe_un un_negD ha) fun σ H Q ⟨ρ, O, F, d, er, e, q⟩ => ?_
  obtain ⟨x, e1, e⟩ := bind_ok e
  exact ⟨ρ, O, F, x, er, e1, fun v H1 s1 b1 => ⟨O, x, d, b1.all, e, fun w h => q w H1 s1 (Bd.of h)⟩⟩
theorem dv_bool {K : PySem.W.Frag} {H : Hp} {b : Bool} {v : V} (h : Dv K H (.bool b) v) : v = .bl b := by rwa [Dv] at h
theorem bd_bool {K : PySem.W.Frag} {H : Hp} {O : Ps} (b : Bool) : Bd K H O .f (.bool b) (.bl b) := Bd.of (by rw [Dv])
theorem mark_of {op : CmpOp} {b : Expr} {sc : Scope} {m : E} (h : cvE L b sc = some m) : behindInMarks op b = false := by
  cases b <;> first | rfl | (simp [cvE] at h)
theorem s_cmp (c : Ctx X sc L C) {a b : Expr} {ma mb : E} {o : CmpOp} {pos : Pos} (ha : PE X a (tD X.K L C ma)) (hb : PE X b (tD X.K L C mb)) (hm : behindInMarks o b = false) :
    PE X (.Compare a [o] [b] pos) (tD X.K L C (.cmp (cvC o) ma mb)) := by
  have hr := opR_C (X := X) c.room (cvC o)
  rw [pyC_cv] at hr
  refine pe_imp (pe_cmpR hr ha hb hm) fun σ H Q ⟨ρ, O, F, d, er, e, q⟩ => t2 er e fun x y v u H2 g s2 b1 b2 => ?_
  obtain ⟨z, g1, g2⟩ := bind_ok g
  cases g2
  exact ⟨x, y, z, b1.all, b2.all, g1, q _ H2 s2 (bd_bool z)⟩
theorem t_cmp {a b : Expr} {ma mb : E} {o : CmpOp} {pos : Pos} (c : Ctx X sc L C) (ha : PE X a (tD X.K L C ma)) (hb : PE X b (tD X.K L C mb)) (hm : behindInMarks o b = false) :
    PT X (.Compare a [o] [b] pos) (tDt X.K L C (.cmp (cvC o) ma mb)) := by
  have hr := opR_C (X := X) c.room (cvC o)
  rw [pyC_cv] at hr
  refine pt_imp (pt_cmpR hr ha hb hm) fun σ H Q ⟨ρ, O, F, d, er, e, q⟩ => ?_
  refine t2 (Q := fun x H' => ∃ k, x = .bl k ∧ Q k H') er e fun x y v u H2 g s2 b1 b2 => ?_
  obtain ⟨z, g1, g2⟩ := bind_ok g
  cases g2
  exact ⟨x, y, _, b1.all, b2.all, g1, _, rfl, q H2 s2⟩
theorem s_chn (c : Ctx X sc L C) {a b e : Expr} {ma mb me : E} {o p : CmpOp} {pos : Pos} (ha : PE X a (tD X.K L C ma)) (hb : PE X b (tD X.K L C mb)) (he : PE X e (tD X.K L C me))
    (h1 : behindInMarks p e = false) (h2 : behindInMarks o b = false) : PE X (.Compare a [o, p] [b, e] pos) (tD X.K L C (.chn (cvC o) (cvC p) ma mb me)) := by
  have hr := opR_C (X := X) c.room (cvC o)
  have hr' := opR_C (X := X) c.room (cvC p)
  rw [pyC_cv] at hr hr'
  refine pe_imp (pe_chain hr hr' ha hb he (by simpa [lastMarks] using h1)) fun σ H Q ⟨ρ, O, F, d, er, e, q⟩ => ?_
  obtain ⟨x, e1, e⟩ := bind_ok e
  obtain ⟨y, e2, e⟩ := bind_ok e
  obtain ⟨z, e3, e⟩ := bind_ok e
  refine ⟨ρ, O, F, x, er, e1, fun v H1 s1 b1 => ⟨ρ, O, F, y, er.mono s1, e2, fun u H2 s2 b2 => ⟨x, y, z, (b1.mono s2).all, b2.all, e3, z, rfl, ?_⟩⟩⟩
  cases z with
  | false =>
    cases e
    exact q _ H2 (s1.trans s2) (bd_bool false)
  | true =>
    obtain ⟨w, e4, e⟩ := bind_ok e
    obtain ⟨k, e5, e⟩ := bind_ok e
    cases e
    exact ⟨ρ, O, F, w, (er.mono s1).mono s2, e4, fun u' H3 s3 b3 => ⟨y, w, k, (b2.mono s3).all, b3.all, e5, q _ H3 ((s1.trans s2).trans s3) (bd_bool k)⟩⟩
theorem t_chn (c : Ctx X sc L C) {a b e : Expr} {ma mb me : E} {o p : CmpOp} {pos : Pos} (ha : PE X a (tD X.K L C ma)) (hb : PE X b (tD X.K L C mb)) (he : PE X e (tD X.K L C me))
    (h1 : behindInMarks p e = false) : PT X (.Compare a [o, p] [b, e] pos) (tDt X.K L C (.chn (cvC o) (cvC p) ma mb me)) := by
  have hr := opR_C (X := X) c.room (cvC o)
  have hr' := opR_C (X := X) c.room (cvC p)
  rw [pyC_cv] at hr hr'
  refine pt_imp (pt_chain hr hr' ha hb he (by simpa [lastMarks] using h1)) fun σ H Q ⟨ρ, O, F, d, er, e, q⟩ => ?_
  obtain ⟨x, e1, e⟩ := bind_ok e
  obtain ⟨y, e2, e⟩ := bind_ok e
  obtain ⟨z, e3, e⟩ := bind_ok e
  refine ⟨ρ, O, F, x, er, e1, fun v H1 s1 b1 => ⟨ρ, O, F, y, er.mono s1, e2, fun u H2 s2 b2 => ⟨x, y, z, (b1.mono s2).all, b2.all, e3, z, rfl, ?_⟩⟩⟩
  cases z with
  | false =>
    cases e
    exact ⟨_, rfl, q H2 (s1.trans s2)⟩
  | true =>
    obtain ⟨w, e4, e⟩ := bind_ok e
    obtain ⟨k, e5, e⟩ := bind_ok e
    cases e
    exact ⟨ρ, O, F, w, (er.mono s1).mono s2, e4, fun u' H3 s3 b3 => ⟨y, w, _, (b2.mono s3).all, b3.all, e5, _, rfl, q H3 ((s1.trans s2).trans s3)⟩⟩
theorem boolD_ok {d : D} {b : Bool} (h : boolD d = .ok b) : d = .bool b := by
  cases d <;> cases h
  rfl
theorem bd_is_bool {K : PySem.W.Frag} {H : Hp} {O : Ps} {s : Sh} {b : Bool} {v : V} (h : Bd K H O s (.bool b) v) : v = .bl b := dv_bool h.all
theorem s_and {a b : Expr} {r : List Expr} {ma mb : E} {pos : Pos} (ha : PE X a (tD X.K L C ma)) (hb : PE X (.BoolOp .And (b :: r) pos) (tD X.K L C mb)) (fb : fz L.ms mb = true) :
    PE X (.BoolOp .And (a :: b :: r) pos) (tD X.K L C (.and ma mb)) := by
  refine pe_imp (pe_and ha hb) fun σ H Q ⟨ρ, O, F, d, er, e, q⟩ => ?_
  obtain ⟨x, e1, e⟩ := bind_ok e
  obtain ⟨k, e2, e⟩ := bind_ok e
  have e2 := boolD_ok e2
  subst e2
  refine ⟨ρ, O, F, _, er, e1, fun v H1 s1 b1 => ⟨k, bd_is_bool b1, ?_⟩⟩
  cases k with
  | true => exact ⟨ρ, O, F, d, er.mono s1, e, fun u H2 s2 b2 => q u H2 (s1.trans s2) (Bd.of (bd_fz b2 fb))⟩
  | false =>
    cases e
    exact q _ H1 s1 (bd_bool false)
theorem s_or {a b : Expr} {r : List Expr} {ma mb : E} {pos : Pos} (ha : PE X a (tD X.K L C ma)) (hb : PE X (.BoolOp .Or (b :: r) pos) (tD X.K L C mb)) (fb : fz L.ms mb = true) :
    PE X (.BoolOp .Or (a :: b :: r) pos) (tD X.K L C (.or ma mb)) := by
  refine pe_imp (pe_or ha hb) fun σ H Q ⟨ρ, O, F, d, er, e, q⟩ => ?_
  obtain ⟨x, e1, e⟩ := bind_ok e
  obtain ⟨k, e2, e⟩ := bind_ok e
  have e2 := boolD_ok e2
  subst e2
  refine ⟨ρ, O, F, _, er, e1, fun v H1 s1 b1 => ⟨k, bd_is_bool b1, ?_⟩⟩
  cases k with
  | false => exact ⟨ρ, O, F, d, er.mono s1, e, fun u H2 s2 b2 => q u H2 (s1.trans s2) (Bd.of (bd_fz b2 fb))⟩
  | true =>
    cases e
    exact q _ H1 s1 (bd_bool true)
theorem s_not {a : Expr} {ma : E} {pos : Pos} (ha : PE X a (tD X.K L C ma)) : PE X (.UnaryOp .Not a pos) (tD X.K L C (.not ma)) := by
  refine pe_imp (pe_not ha) fun σ H Q ⟨ρ, O, F, d, er, e, q⟩ => ?_
  obtain ⟨x, e1, e⟩ := bind_ok e
  obtain ⟨k, e2, e⟩ := bind_ok e
  have e2 := boolD_ok e2
  subst e2
  cases e
  exact ⟨ρ, O, F, _, er, e1, fun v H1 s1 b1 => ⟨k, bd_is_bool b1, q _ H1 s1 (bd_bool _)⟩⟩
theorem t_and {a b : Expr} {r : List Expr} {ma mb : E} {pos : Pos} (ha : PT X a (tDt X.K L C ma)) (hb : PW X (.BoolOp .And (b :: r) pos) (tDt X.K L C mb)) :
    PW X (.BoolOp .And (a :: b :: r) pos) (tDt X.K L C (.and ma mb)) := by
  refine ⟨fun wh pins s σ H Q I w => (pw_and ha hb).run wh pins s σ H Q I ?_⟩
  obtain ⟨ρ, O, F, d, er, e, q⟩ := w
  obtain ⟨x, e1, e⟩ := bind_ok e
  obtain ⟨k, e2, e⟩ := bind_ok e
  have e2 := boolD_ok e2
  subst e2
  refine ⟨ρ, O, F, k, er, e1, fun H1 s1 => ?_⟩
  cases k with
  | true => exact ⟨ρ, O, F, d, er.mono s1, e, fun H2 s2 => q H2 (s1.trans s2)⟩
  | false =>
    cases e
    exact q H1 s1
theorem t_or {a b : Expr} {r : List Expr} {ma mb : E} {pos : Pos} (ha : PT X a (tDt X.K L C ma)) (hb : PW X (.BoolOp .Or (b :: r) pos) (tDt X.K L C mb)) :
    PW X (.BoolOp .Or (a :: b :: r) pos) (tDt X.K L C (.or ma mb)) := by
  refine ⟨fun wh pins s σ H Q I w => (pw_or ha hb).run wh pins s σ H Q I ?_⟩
  obtain ⟨ρ, O, F, d, er, e, q⟩ := w
  obtain ⟨x, e1, e⟩ := bind_ok e
  obtain ⟨k, e2, e⟩ := bind_ok e
  have e2 := boolD_ok e2
  subst e2
  refine ⟨ρ, O, F, k, er, e1, fun H1 s1 => ?_⟩
  cases k with
  | false => exact ⟨ρ, O, F, d, er.mono s1, e, fun H2 s2 => q H2 (s1.trans s2)⟩
  | true =>
    cases e
    exact q H1 s1
theorem t_not {a : Expr} {ma : E} {pos : Pos} (ha : PT X a (tDt X.K L C ma)) : PT X (.UnaryOp .Not a pos) (tDt X.K L C (.not ma)) := by
  refine pt_imp (pt_not ha) fun σ H Q ⟨ρ, O, F, d, er, e, q⟩ => ?_
  obtain ⟨x, e1, e⟩ := bind_ok e
  obtain ⟨k, e2, e⟩ := bind_ok e
  have e2 := boolD_ok e2
  subst e2
  cases e
  exact ⟨ρ, O, F, k, er, e1, q⟩
/-- a value that is a truth, as a test -/
theorem t_val {a : Expr} {m : E} (ha : PE X a (tD X.K L C m)) (he : ∀ whole, isTrue a X.env whole = (do let v ← whole; standAt a.pos; holding [v] (truthy v))) : PT X a (tDt X.K L C m) := by
  refine pt_imp (pt_val ha he) fun σ H Q ⟨ρ, O, F, b, er, e, q⟩ => ?_
  exact ⟨ρ, O, F, _, er, e, fun v H1 s1 b1 => ⟨b, bd_is_bool b1, q H1 s1⟩⟩
theorem s_ife {t a b : Expr} {mt ma mb : E} {pos : Pos} (ht : PT X t (tDt X.K L C mt)) (ha : PE X a (tD X.K L C ma)) (hb : PE X b (tD X.K L C mb)) (fa : fz L.ms ma = true) (fb : fz L.ms mb = true) :
    PE X (.IfExp t a b pos) (tD X.K L C (.ife mt ma mb)) := by
  refine pe_imp (pe_ifExp ht ha hb) fun σ H Q ⟨ρ, O, F, d, er, e, q⟩ => ?_
  obtain ⟨x, e1, e⟩ := bind_ok e
  obtain ⟨k, e2, e⟩ := bind_ok e
  have e2 := boolD_ok e2
  subst e2
  refine ⟨ρ, O, F, k, er, e1, fun H1 s1 => ?_⟩
  cases k with
  | true => exact ⟨ρ, O, F, d, er.mono s1, e, fun u H2 s2 b2 => q u H2 (s1.trans s2) (Bd.of (bd_fz b2 fa))⟩
  | false => exact ⟨ρ, O, F, d, er.mono s1, e, fun u H2 s2 b2 => q u H2 (s1.trans s2) (Bd.of (bd_fz b2 fb))⟩
theorem s_var (c : Ctx X sc L C) {x : Str} {i : Nat} {pos : Pos} (hv : visB sc x = true) (hs : slot L.N x = some i) : PE X (.Name x pos) (tD X.K L C (.v i)) := by
  unfold visB at hv
  simp only [Bool.and_eq_true, Bool.not_eq_true'] at hv
  obtain ⟨⟨h1, h2⟩, h3⟩ := hv
  have hN : X.N[i]? = some x := by
    unfold slot at hs
    rw [c.N]
    dsimp only at hs
    split at hs
    · cases hs; assumption
    · cases hs
  have vis : Vis X.env.scope x := by
    rw [c.sc]
    split at h1
    · exact .inl (by assumption)
    · exact .inr (.inl (by assumption))
    · exact .inr (.inr (by assumption))
    · cases h1
  refine pe_imp (pe_var hN vis h2 h3) fun σ H Q ⟨ρ, O, F, d, er, e, q⟩ => ?_
  have e' : ρ[i]? = some (some d) := by
    simp only [ev, getS] at e
    split at e
    · cases e; assumption
    · cases e
  obtain ⟨v, h4, h5⟩ := er.at_ i d e'
  exact ⟨v, h4, q v H (Same.refl H) ⟨F i, er.sub i, h5⟩⟩
theorem s_con (c : Ctx X sc L C) {x : Str} {d : D} {pos : Pos} (hg : gloB sc x = true) (hs : L.cs.lookup x = some d) : PE X (.Name x pos) (tD X.K L C (.k d)) := by
  unfold gloB at hg
  simp only [Bool.and_eq_true, Bool.not_eq_true'] at hg
  have gx : Gl X x := by
    show X.env.scope.names.lookup x = some .globalImplicit
    rw [c.sc]
    have h1 := hg.1
    split at h1
    · assumption
    · cases h1
  obtain ⟨u, v, h1, h2, h3⟩ := c.con x d hs
  refine pe_imp (pe_glob gx h1 h2 hg.2) fun σ H Q ⟨ρ, O, F, d', er, e, q⟩ => ?_
  cases e
  exact q v H (Same.refl H) (Bd.of (h3 _))
theorem s_k {k : Const} {m : E} {j : Nat} {pos : Pos} (h : cvK k = some m) : PE X (.Constant k j pos) (tD X.K L C m) := by
  cases k with
  | int i =>
    cases h
    refine pe_imp pe_int fun σ H Q ⟨ρ, O, F, d', er, e, q⟩ => ?_
    cases e
    exact q _ H (Same.refl H) (Bd.of (by rw [Dv]))
  | bool i =>
    cases h
    refine pe_imp pe_bl fun σ H Q ⟨ρ, O, F, d', er, e, q⟩ => ?_
    cases e
    exact q _ H (Same.refl H) (Bd.of (by rw [Dv]))
  | none =>
    cases h
    refine pe_imp pe_non fun σ H Q ⟨ρ, O, F, d', er, e, q⟩ => ?_
    cases e
    exact q _ H (Same.refl H) (Bd.of (by rw [Dv]))
  | str i =>
    cases h
    refine pe_imp pe_str fun σ H Q ⟨ρ, O, F, d', er, e, q⟩ => ?_
    cases e
    exact q _ H (Same.refl H) (Bd.of (by rw [Dv]))
  | _ => cases h
theorem glob_of (c : Ctx X sc L C) {x : Str} (hg : gloB sc x = true) : Gl X x ∧ (x == ("__debug__" : Str)) = false := by
  unfold gloB at hg
  simp only [Bool.and_eq_true, Bool.not_eq_true'] at hg
  refine ⟨?_, hg.2⟩
  show X.env.scope.names.lookup x = some .globalImplicit
  rw [c.sc]
  have h1 := hg.1
  split at h1
  · assumption
  · cases h1
/-- what stands at a place -/
theorem bd_ix {K : PySem.W.Frag} {H : Hp} {O : Ps} {ms : List Sh} {a i : E} {d e z : D} {v u : V} {Q : VK} (b1 : Bd K H O (shp ms a) d v) (b2 : Dv K H e u) (g : ixD d e = .ok z)
    (q : ∀ w, Bd K H O (shp ms (.ix a i)) z w → Q w H) : rIxD K v u H Q := by
  unfold ixD at g
  split at g
  · rename_i xs j
    unfold getD at g
    split at g
    · rename_i d0 hd
      cases g
      have ej : u = .int j := dv_int b2 rfl
      obtain ⟨fp, hf, h⟩ := b1
      simp only [shp] at q
      cases hs : shp ms a with
      | f =>
        rw [hs] at h q
        obtain ⟨a0, vs, rfl, ha, ra⟩ := dv_list h.2 rfl
        obtain ⟨w, hw, dw⟩ := ra.get hd
        rw [ra.len] at hw
        exact .inl ⟨a0, vs, j, w, rfl, ej, .inl (hid_sqm ha).sq, hw, q w (Bd.of dw)⟩
      | l s =>
        rw [hs] at h q
        obtain ⟨a0, vs, ds, g0, rfl, e1, ha, hl, hi, h1, h2, h3⟩ := h
        cases e1
        have hlt := (List.getElem?_eq_some_iff.mp hd).1
        obtain ⟨w, hw⟩ : ∃ w, vs[pl xs.length j]? = some w := ⟨vs[pl xs.length j]'(by have := hl.1; omega), by simp⟩
        refine .inl ⟨a0, vs, j, w, rfl, ej, .inl (.inl (.inl ha)), by rw [hl.1]; exact hw, q _ ⟨g0 (pl xs.length j), fun b hb => hf b ((h3 b).mpr (.inr ⟨_, hlt, hb⟩)), hi _ _ _ hd hw⟩⟩
    · cases g
  · rename_i xs j
    unfold getD at g
    split at g
    · rename_i d0 hd
      cases g
      have ej : u = .int j := dv_int b2 rfl
      obtain ⟨fp, hf, h⟩ := b1
      simp only [shp] at q
      cases hs : shp ms a with
      | f =>
        rw [hs] at h q
        obtain ⟨a0, vs, rfl, ha, ra⟩ := dv_tup h.2 rfl
        obtain ⟨w, hw, dw⟩ := ra.get hd
        rw [ra.len] at hw
        exact .inl ⟨a0, vs, j, w, rfl, ej, .inr (hid_sqt ha), hw, q w (Bd.of dw)⟩
      | l s =>
        rw [hs] at h
        obtain ⟨a0, vs, ds, g0, rfl, e1, _⟩ := h
        cases e1
    · cases g
  · rename_i x j
    obtain ⟨g1, g2⟩ := Res.ok_if g
    split at g2
    · rename_i c0 hc
      cases g2
      have ex : v = .str x := by
        have h := b1.all
        rwa [Dv] at h
      have ej : u = .int j := dv_int b2 rfl
      refine .inr ⟨x, j, c0, ex, ej, g1, hc, ?_⟩
      simp only [shp] at q
      obtain ⟨fp, hf, h⟩ := b1
      cases hs : shp ms a with
      | f =>
        rw [hs] at q
        exact q _ (Bd.of (by rw [Dv]))
      | l s =>
        rw [hs] at h
        obtain ⟨a0, vs, ds, g0, rfl, e1, _⟩ := h
        cases e1
    · cases g2
  · cases g
theorem s_ix {a b : Expr} {ma mb : E} {pos : Pos} (ha : PE X a (tD X.K L C ma)) (hb : PE X b (tD X.K L C mb)) (hs : isSlice b = false) : PE X (.Subscript a b pos) (tD X.K L C (.ix ma mb)) := by
  have hp : PlainIx b := fun o i => by
    cases b <;> first | rfl | (simp [isSlice] at hs)
  refine pe_imp (pe_ix ix_D ha hb hp) fun σ H Q ⟨ρ, O, F, d, er, e, q⟩ => t2 er e fun x y v u H2 g s2 b1 b2 => ?_
  exact bd_ix (i := mb) b1 b2.all g fun w h => q w H2 s2 h
end
end Bk
/-! Bk: displays, calls, slices, what loops walk, comprehensions. -/
namespace Bk
open PySem PySem.Spec PyProof.Rows L2
section
variable {X : Cx} {sc : Scope} {L : Lk} {C : Nat → List D → Res D}
theorem star_of {e : Expr} {m : E} {sc : Scope} (h : cvE L e sc = some m) (es : List Expr) (env : Env) : starEach (e :: es) env = (false, eval e env) :: starEach es env := by
  cases e <;> first | rfl | (simp [cvE] at h)
theorem cvs_cons {e : Expr} {r : List Expr} {m : E} {sc : Scope} (h : cvs L (e :: r) sc = some m) : ∃ a b, cvE L e sc = some a ∧ cvs L r sc = some b ∧ m = .cons a b := by
  simp only [cvs] at h
  split at h
  · rename_i a b h1 h2
    cases h
    exact ⟨a, b, h1, h2, rfl⟩
  · cases h
theorem plain_of : ∀ {es : List Expr} {m : E} {sc : Scope}, cvs L es sc = some m → ∀ (env : Env) (pos : Pos), (backTo pos (starEach es env)).any (·.1) = false
  | [], _, _, _, _, _ => rfl
  | e :: r, m, sc, h, env, pos => by
    obtain ⟨a, b, h1, h2, _⟩ := cvs_cons h
    have ih := plain_of h2 env pos
    rw [star_of h1]
    simpa [backTo] using ih
theorem evs_len : ∀ {es : List Expr} {m : E} {sc : Scope} {ρ : En} {ds : List D}, cvs L es sc = some m → evs C m ρ = .ok ds → ds.length = es.length
  | [], m, sc, ρ, ds, h, e => by
    simp only [cvs, Option.some.injEq] at h
    subst h
    cases e
    rfl
  | x :: r, m, sc, ρ, ds, h, e => by
    obtain ⟨a, b, h1, h2, rfl⟩ := cvs_cons h
    simp only [evs] at e
    obtain ⟨d, e1, e⟩ := bind_ok e
    obtain ⟨t, e2, e⟩ := bind_ok e
    cases e
    simp [evs_len h2 e2]
theorem a_nil : PA X [] (tDs X.K L C .nil) := by
  refine pa_imp pa_nil fun σ H Q ⟨ρ, O, F, ds, er, e, q⟩ => ?_
  simp only [evs] at e
  cases e
  exact q [] H (Same.refl H) (by simp [DvA]) fun _ => by simp [DvA]
theorem a_cons {e : Expr} {es : List Expr} {m r : E} (he : PE X e (tD X.K L C m)) (hr : PA X es (tDs X.K L C r)) (hs : starEach (e :: es) X.env = (false, eval e X.env) :: starEach es X.env) :
    PA X (e :: es) (tDs X.K L C (.cons m r)) := by
  refine pa_imp (pa_cons he hr hs) fun σ H Q ⟨ρ, O, F, ds, er, e, q⟩ => ?_
  simp only [evs] at e
  obtain ⟨d, e1, e⟩ := bind_ok e
  obtain ⟨t, e2, e⟩ := bind_ok e
  cases e
  refine ⟨ρ, O, F, d, er, e1, fun v H1 s1 b1 => ⟨ρ, O, F, t, er.mono s1, e2, fun vs H2 s2 h1 h2 => q (v :: vs) H2 (s1.trans s2) ?_ fun hf => ?_⟩⟩
  · rw [DvA]
    exact ⟨v, vs, rfl, Dv.mono s2 d v b1.all, h1⟩
  · simp only [fzs, Bool.and_eq_true] at hf
    rw [DvA]
    exact ⟨v, vs, rfl, Dv.mono (same_hidO s2) d v (bd_fz b1 hf.1), h2 hf.2⟩
theorem small_line {n : Nat} (h : n ≤ 1000) : n ≤ sizeLine := by rw [sizeLine_eq]; omega
theorem s_tup {es : List Expr} {m : E} {x1 : Nat} {pos : Pos} (h : cvs L es sc = some m) (ha : PA X es (tDs X.K L C m)) (hf : fzs L.ms m = true) (hl : es.length ≤ 1000) : PE X (.Tuple es x1 pos) (tD X.K L C (.tup m)) := by
  refine pe_imp (pe_tup ha) fun σ H Q ⟨ρ, O, F, d, er, e, q⟩ => ?_
  simp only [ev] at e
  obtain ⟨ds, e1, e⟩ := bind_ok e
  cases e
  refine ⟨ρ, O, F, ds, er, e1, fun vs H1 s1 h1 h2 => ⟨?_, fun p np => q _ _ (s1.trans (same_new np)) (Bd.of (new_tup (by rw [evs_len h e1]; exact small_line hl) np (er.mono s1).dom (h2 hf)))⟩⟩
  rw [← h1.len, evs_len h e1]
  exact small_line hl
theorem s_lst {es : List Expr} {m : E} {pos : Pos} (h : cvs L es sc = some m) (ha : PA X es (tDs X.K L C m)) (hf : fzs L.ms m = true) (hl : es.length ≤ 1000) : PE X (.List es pos) (tD X.K L C (.lst m)) := by
  refine pe_imp (pe_lst ha) fun σ H Q ⟨ρ, O, F, d, er, e, q⟩ => ?_
  simp only [ev] at e
  obtain ⟨ds, e1, e⟩ := bind_ok e
  cases e
  refine ⟨ρ, O, F, ds, er, e1, fun vs H1 s1 h1 h2 => ⟨?_, fun p np => q _ _ (s1.trans (same_new np)) (Bd.of (new_lst (by rw [evs_len h e1]; exact small_line hl) np (er.mono s1).dom (h2 hf)))⟩⟩
  rw [← h1.len, evs_len h e1]
  exact small_line hl
theorem flat_any {K : PySem.W.Frag} {H H' : Hp} {d : D} {v : V} (f : flat d = true) (h : Dv K H d v) : Dv K H' d v := by
  cases d <;> simp [flat] at f <;> (rw [Dv] at h; subst h; rw [Dv])
theorem RetOk.dv {K : PySem.W.Frag} {H H' : Hp} {O : Ps} {s : Sh} {d : D} {v : V} (hO : ∀ a, O a → H a ≠ none) (h : RetOk K H H' O s d v) : Dv K (hid H' O) d v := by
  obtain ⟨fp, h1, h2⟩ := h
  exact Own.dv (fun a z => .inl z) h2 fun a z w => hO a w (h1 a z)
theorem RetOk.all {K : PySem.W.Frag} {H H' : Hp} {O : Ps} {s : Sh} {d : D} {v : V} (h : RetOk K H H' O s d v) : Dv K H' d v := let ⟨_, _, h⟩ := h; h.all
theorem s_call (c : Ctx X sc L C) {e : Expr} {es : List Expr} {f : Str} {k n : Nat} {s0 : Sh} {m : E} {p pos : Pos} (hg : gloB sc f = true) (hk : L.ids.lookup f = some (k, n, s0)) (hn : n = (e :: es).length) (h : cvs L (e :: es) sc = some m)
    (ha : PA X (e :: es) (tDs X.K L C m)) (hf : fzs L.ms m = true) : PE X (.Call (.Name f p) (e :: es) [] pos) (tD X.K L C (.call k m)) := by
  obtain ⟨CX, fa, fd, ps, lv, h1, h2, h3, h4, h5, h6, h7⟩ := c.fns f k n s0 hk
  obtain ⟨g1, g2⟩ := glob_of c hg
  obtain ⟨a, b, ce, cr, em⟩ := cvs_cons h
  refine pe_imp (pe_fk h4 h5 c.grd h6 (h7 X rfl rfl) g1 h1 h2 ha g2 (star_of ce es X.env) (plain_of cr X.env pos)) fun σ H Q ⟨ρ, O, F, d, er, e, q⟩ => ?_
  simp only [ev] at e
  obtain ⟨ds, e1, e⟩ := bind_ok e
  exact ⟨ρ, O, F, ds, er, e1, fun vs H1 s1 h8 h9 => ⟨O, ds, d, h9 hf, (er.mono s1).dom, e, fun v H2 s2 r => q v H2 (s1.trans s2) (Bd.of (r.dv (er.mono s1).dom))⟩⟩
theorem s_cb (c : Ctx X sc L C) {e : Expr} {es : List Expr} {f : Str} {k n : Nat} {s0 : Sh} {m : E} {p pos : Pos} (hg : gloB sc f = true) (hk : L.ids.lookup f = some (k, n, s0)) (hn : n = (e :: es).length) (h : cvs L (e :: es) sc = some m)
    (ha : PA X (e :: es) (tDs X.K L C m)) : PE X (.Call (.Name f p) (e :: es) [] pos) (tD X.K L C (.cb k m)) := by
  obtain ⟨CX, fa, fd, ps, lv, h1, h2, h3, h4, h5, h6, h7⟩ := c.fns f k n s0 hk
  obtain ⟨g1, g2⟩ := glob_of c hg
  obtain ⟨a, b, ce, cr, em⟩ := cvs_cons h
  refine pe_imp (pe_fk h4 h5 c.grd h6 (h7 X rfl rfl) g1 h1 h2 ha g2 (star_of ce es X.env) (plain_of cr X.env pos)) fun σ H Q ⟨ρ, O, F, d, er, e, q⟩ => ?_
  simp only [ev] at e
  obtain ⟨ds, e1, e⟩ := bind_ok e
  obtain ⟨d', e2, e⟩ := bind_ok e
  obtain ⟨hf, e⟩ := Res.ok_if e
  cases e
  refine ⟨ρ, O, F, ds, er, e1, fun vs H1 s1 h8 h9 => ⟨fun _ => False, ds, d, ?_, fun _ z => z.elim, e2, fun v H2 s2 r => q v H2 (s1.trans s2) (Bd.of (flat_any hf r.all))⟩⟩
  have e0 : hid H1 (fun _ => False) = H1 := by
    funext a
    unfold hid
    rw [if_neg (fun z => z)]
  rw [e0]
  exact h8
theorem bis_boot : ∀ (f : Str) (n : Nat) (b : Bi), biOf f n = some b → served b = true ∧ f ∈ frees ∧ bootBuiltins f = some (bN b) ∧ f ≠ "__name__" ∧ ((∃ id, bN b = .builtin id) ∨ ∃ T, bN b = .type T) := by
  intro f n b h
  unfold biOf at h
  split at h
  · rename_i hz
    simp only [Bool.and_eq_true, beq_iff_eq] at hz
    rw [hz.2]
    cases h
    exact ⟨rfl, by decide +kernel, by decide +kernel, by decide +kernel, .inl ⟨_, rfl⟩⟩
  · split at h
    · rename_i hz
      simp only [Bool.and_eq_true, beq_iff_eq] at hz
      rw [hz.2]
      cases h
      exact ⟨rfl, by decide +kernel, by decide +kernel, by decide +kernel, .inl ⟨_, rfl⟩⟩
    · split at h
      · rename_i m b' hm
        split at h
        · cases h
          have hall : bis.all (fun t => served t.2.2 && frees.contains t.1 && decide (bootBuiltins t.1 = some (bN t.2.2)) && !(t.1 == ("__name__" : Str)) && (match bN t.2.2 with
              | .builtin _ => true
              | .type _ => true
              | _ => false)) = true := by decide +kernel
          have hmem : (f, m, b) ∈ bis := by
            have gen : ∀ (l : List (Str × Nat × Bi)), l.lookup f = some (m, b) → (f, m, b) ∈ l := by
              intro l
              induction l with
              | nil => intro z; cases z
              | cons t l ih =>
                obtain ⟨x, y⟩ := t
                intro z
                rw [List.lookup_cons] at z
                split at z
                · rename_i hxy
                  rw [beq_iff_eq] at hxy
                  cases z
                  subst hxy
                  exact List.mem_cons_self
                · exact List.mem_cons_of_mem _ (ih z)
            exact gen bis hm
          have := List.all_eq_true.mp hall _ hmem
          simp only [Bool.and_eq_true, decide_eq_true_eq, Bool.not_eq_true', beq_eq_false_iff_ne, ne_eq, List.contains_iff_mem] at this
          obtain ⟨⟨⟨⟨a1, a2⟩, a3⟩, a4⟩, a5⟩ := this
          refine ⟨a1, a2, a3, a4, ?_⟩
          cases hb : bN b with
          | builtin id => exact .inl ⟨id, rfl⟩
          | type T => exact .inr ⟨T, rfl⟩
          | _ => rw [hb] at a5; simp at a5
        · cases h
      · cases h
theorem biScal_flat {b : Bi} {ds : List D} {z : D} (h : biScal b = true) (e : biD b ds = .ok z) : flat z = true := by
  unfold biD at e
  split at e <;> first | (cases h; done) | (cases e; done) | (cases e; rfl) | (split at e <;> first | (cases e; rfl) | (cases e; done) | (split at e <;> first | (cases e; rfl) | (cases e; done)))
theorem s_bi (c : Ctx X sc L C) {e : Expr} {es : List Expr} {f : Str} {b : Bi} {m : E} {p pos : Pos} (hg : gloB sc f = true) (hb : biOf f (e :: es).length = some b) (h : cvs L (e :: es) sc = some m)
    (ha : PA X (e :: es) (tDs X.K L C m)) (hf : (biScal b || fzs L.ms m) = true) : PE X (.Call (.Name f p) (e :: es) [] pos) (tD X.K L C (.bi b m)) := by
  obtain ⟨h1, h2, h3, h4, h5⟩ := bis_boot f _ b hb
  obtain ⟨g1, g2⟩ := glob_of c hg
  obtain ⟨a, r, ce, cr, em⟩ := cvs_cons h
  have cr0 := callR_B (X := X) c.calm c.grd (by have := c.room; omega) b h1
  have fin : ∀ (σ : L2.St) (H : Hp) (Q : VK), tD X.K L C (.bi b m) σ H Q → tCB (rB X.K (biD b)) (tDs X.K L C m) σ H Q := fun σ H Q ⟨ρ, O, F, d, er, e, q⟩ => by
    simp only [ev] at e
    obtain ⟨ds, e1, e⟩ := bind_ok e
    refine ⟨ρ, O, F, ds, er, e1, fun vs H1 s1 h8 h9 => ?_⟩
    cases hz : biScal b with
    | true =>
      have fl := biScal_flat hz e
      refine ⟨fun _ => False, ds, d, ?_, fun _ z => z.elim, e, fun v H2 s2 r => q v H2 (s1.trans s2) (Bd.of (flat_any fl r))⟩
      have e0 : hid H1 (fun _ => False) = H1 := by
        funext a
        unfold hid
        rw [if_neg (fun z => z)]
      rw [e0]
      exact h8
    | false =>
      rw [hz, Bool.false_or] at hf
      exact ⟨O, ds, d, h9 hf, (er.mono s1).dom, e, fun v H2 s2 r => q v H2 (s1.trans s2) (Bd.of r)⟩
  rcases h5 with ⟨id, h5⟩ | ⟨T, h5⟩
  · rw [h5] at cr0 h3
    exact pe_imp (pe_callB cr0 g1 (c.blt f h2) h3 ha h4 g2 (star_of ce es X.env) (plain_of cr X.env pos)) fin
  · rw [h5] at cr0 h3
    exact pe_imp (pe_callTy cr0 g1 (c.blt f h2) h3 ha h4 g2 (star_of ce es X.env) (plain_of cr X.env pos)) fin
/-- sorted(set(e)) of a list of ints -/
theorem s_sset (c : Ctx X sc L C) {a : Expr} {m : E} {p p2 q pos : Pos} (hg : gloB sc "sorted" = true) (hg2 : gloB sc "set" = true) (ce : cvE L a sc = some m) (ha : PE X a (tD X.K L C m)) (hf : fz L.ms m = true) :
    PE X (.Call (.Name "sorted" p) [.Call (.Name "set" p2) [a] [] q] [] pos) (tD X.K L C (.bi .setl (.cons m .nil))) := by
  obtain ⟨g1, g2⟩ := glob_of c hg
  obtain ⟨g3, g4⟩ := glob_of c hg2
  refine pe_imp (pe_callB (cr_sortedSet c.calm) g1 (c.blt _ (by decide +kernel)) (by decide +kernel) (pa_cons (pe_callTy (cr_setOf c.calm) g3 (c.blt _ (by decide +kernel)) PyProof.Rows.boot_set (pa_cons ha pa_nil (star_of ce [] X.env)) (by decide +kernel) g4 (star_of ce [] X.env) rfl) pa_nil rfl) (by decide +kernel) g2 rfl rfl) fun σ H Q w => ?_
  obtain ⟨ρ, O, F, d, er, e, k⟩ := w
  simp only [ev] at e
  obtain ⟨ds, f1, e⟩ := bind_ok e
  simp only [evs] at f1
  obtain ⟨x, f2, f3⟩ := bind_ok f1
  obtain ⟨ys, f4, f5⟩ := bind_ok f3
  cases f4
  cases f5
  refine ⟨ρ, O, F, x, er, f2, fun v H1 s1 b1 => ?_⟩
  unfold biD at e
  split at e <;> first | (rename_i hx _; cases hx; done) | skip
  all_goals first | (simp at *; done) | skip
  rename_i xs h2
  cases h2
  split at e
  case h_2 => cases e
  rename_i ns hn
  obtain ⟨few, e5⟩ := Res.ok_if e
  cases e5
  obtain ⟨l, vs, rfl, hl, ra⟩ := dv_list b1.all rfl
  obtain ⟨rfl, _⟩ := ra.ints hn
  refine ⟨l, ns, rfl, hl.sq, by omega, fun p0 n np le => ⟨p0, _, n, rfl, upd_same, by omega, fun ks p1 rise mem len np1 => ?_⟩⟩
  have e6 : ks = sortU ns := rise_eq rise (sortU_rise ns) fun z => by rw [mem z, sortU_mem z ns, decide_eq_true_eq]
  subst e6
  have np2 : H1 p1 = none := by
    by_cases z : p1 = p0
    · subst z; exact np
    · rwa [upd_ne z] at np1
  have er1 := er.mono (s1.trans (same_new (o := SetO X.w p0 (fun j => decide (j ∈ ns)) n) np))
  exact k (.ref p1) _ ((s1.trans (same_new np)).trans (same_new np1)) (Bd.of (new_lst (by rw [List.length_map]; have := sortU_len ns; rw [sizeLine_eq]; omega) np1 er1.dom DvA.of_ints))
/-! ### ranges as values -/
theorem cr_rng : CallR X (.type "range") (fun vs H Q => (∃ n, vs = [V.int n] ∧ ∀ p, H p = none → Q (.ref p) (upd H p (.rng 0 n))) ∨ ∃ i j, vs = [V.int i, V.int j] ∧ ∀ p, H p = none → Q (.ref p) (upd H p (.rng i j))) := by
  intro pins s σ H vs us Q I r h
  rcases h with ⟨n, rfl, q⟩ | h
  · obtain ⟨u, rfl, ru⟩ := vals1 r
    obtain ⟨t, rfl⟩ := ru
    refine call_range_1 ⟨.ref s.heap.objs.size, upd H s.heap.objs.size (.rng 0 n), I.laid (t' := s.toks + 1 + 1) (fun b o e => Heap.get?_push_of_some _ e) (Nat.le_refl _) ?_, rfl, q _ (I.hok.fresh (Nat.le_refl _))⟩
    exact ⟨_, _, _, Heap.get?_push_size _ rfl⟩
  · exact cr_range2 pins s σ H vs us Q I r h
/-- list(range(..)) -/
theorem cr_listRng (hc : X.calm = true) : CallR X (.type "list") (fun vs H Q => ∃ r a b, vs = [V.ref r] ∧ H r = some (.rng a b) ∧ RgOk a b ∧ ∀ q, H q = none → Q (.ref q) (upd H q (.lst (rgV a b)))) := by
  intro pins s σ H vs us Q I rv h
  obtain ⟨r, a, b, rfl, hr, ok, q⟩ := h
  obtain ⟨u, rfl, ru⟩ := vals1 rv
  obtain rfl : u = Value.ref r := ru
  obtain ⟨t, u, v, ho⟩ := I.hok r _ hr
  obtain ⟨b1, b2, b3, b4, b5⟩ := ok
  refine call_list_range (n := (b - a).toNat) (I.ok.hd hc) (a := a) (b := b) (c := 1) (t := t) (u := u) (v := v) ho (small_one b1 b2 b3 b4) (rangeSize_nat a b) b5 fun h' tk acc c' hk e' hi => ?_
  refine ⟨.ref s.heap.objs.size, upd H s.heap.objs.size (.lst (rgV a b)), I.laid hk (Nat.le_refl _) (show ObjOk X.prog X.w _ _ _ (.lst (rgV a b)) from ⟨?_, acc.toList, c', vals_rg hi, ?_⟩), rfl, q _ (I.hok.fresh (Nat.le_refl _))⟩
  · rw [rgV_length, sizeLine_eq]; omega
  · rw [Array.toArray_toList]; exact e'
def tRg (K : PySem.W.Frag) (L : Lk) (C : Nat → List D → Res D) (m : E) : TE := fun σ H Q => ∃ (ρ : En) (O : Ps) (F : Nat → Ps) (ds : List D) (a b : Int), ER K L.ms ρ σ H O F ∧ evs C m ρ = .ok ds ∧ rgD ds = some (a, b) ∧
  ∀ p H', Same H H' → H' p = some (.rng a b) → Q (.ref p) H'
theorem s_rng (c : Ctx X sc L C) {e : Expr} {es : List Expr} {m : E} {p pos : Pos} (hg : gloB sc "range" = true) (ce : cvs L (e :: es) sc = some m) (ha : PA X (e :: es) (tDs X.K L C m)) :
    PE X (.Call (.Name "range" p) (e :: es) [] pos) (tRg X.K L C m) := by
  obtain ⟨g1, g2⟩ := glob_of c hg
  obtain ⟨x, y, c1, c2, _⟩ := cvs_cons ce
  refine pe_imp (pe_callTy (cr_rng (X := X)) g1 (c.blt _ (by decide +kernel)) boot_range ha (by decide +kernel) g2 (star_of c1 es X.env) (plain_of c2 X.env pos)) fun σ H Q w => ?_
  obtain ⟨ρ, O, F, ds, a, b, er, e1, e2, q⟩ := w
  refine ⟨ρ, O, F, ds, er, e1, fun vs H1 s1 h8 _ => ?_⟩
  unfold rgD at e2
  split at e2
  · cases e2
    obtain ⟨v, rfl, hv⟩ := dva1 h8
    exact .inl ⟨_, by rw [dv_int hv rfl], fun p np => q p _ (s1.trans (same_new np)) upd_same⟩
  · cases e2
    obtain ⟨v, u, rfl, hv, hu⟩ := dva2 h8
    exact .inr ⟨_, _, by rw [dv_int hv rfl, dv_int hu rfl], fun p np => q p _ (s1.trans (same_new np)) upd_same⟩
  · cases e2
theorem rgV_eq (a b : Int) : rgV a b = (rgI a b).map V.int := by unfold rgV rgI; rw [List.map_map]; rfl
theorem s_lrg (c : Ctx X sc L C) {e : Expr} {es : List Expr} {m : E} {p p2 q pos : Pos} (hg : gloB sc "list" = true) (hg2 : gloB sc "range" = true) (ce : cvs L (e :: es) sc = some m) (ha : PA X (e :: es) (tDs X.K L C m)) :
    PE X (.Call (.Name "list" p) [.Call (.Name "range" p2) (e :: es) [] q] [] pos) (tD X.K L C (.bi .lrng m)) := by
  obtain ⟨g1, g2⟩ := glob_of c hg
  refine pe_imp (pe_callTy (cr_listRng c.calm) g1 (c.blt _ (by decide +kernel)) boot_list (pa_cons (s_rng c hg2 ce ha) pa_nil rfl) (by decide +kernel) g2 rfl rfl) fun σ H Q w => ?_
  obtain ⟨ρ, O, F, d, er, e, k⟩ := w
  simp only [ev] at e
  obtain ⟨ds, f1, e⟩ := bind_ok e
  have e9 : (match rgD ds with
    | some (a, b) => if rgOk a b then Res.ok (PyData.list ((rgI a b).map .int)) else .bad
    | none => .bad) = .ok d := e
  clear e
  split at e9
  case h_2 => cases e9
  rename_i a b h2
  obtain ⟨ok, e5⟩ := Res.ok_if e9
  cases e5
  unfold rgOk at ok
  rw [decide_eq_true_eq] at ok
  obtain ⟨k1, k2, k3, k4⟩ := ok
  refine ⟨ρ, O, F, ds, a, b, er, f1, h2, fun p1 H1 s1 h1 => ⟨p1, a, b, rfl, h1, RgOk.of_le k1 k2 k3 k4, fun q1 np => ?_⟩⟩
  have er1 := er.mono s1
  rw [rgV_eq]
  refine k (.ref q1) _ (s1.trans (same_new np)) (Bd.of (new_lst ?_ np er1.dom DvA.of_ints))
  have := rgV_length a b
  rw [rgV_eq, List.length_map] at this
  rw [List.length_map, this, sizeLine_eq]
  omega
theorem inr_ev {a m : E} {ρ : En} {d : D} (e : ev C (.bi .inr (.cons a m)) ρ = .ok d) : ∃ (x lo hi : Int) (ds : List D), ev C a ρ = .ok (.int x) ∧ evs C m ρ = .ok ds ∧ rgD ds = some (lo, hi) ∧ d = .bool (decide (lo ≤ x ∧ x < hi)) := by
  simp only [ev] at e
  obtain ⟨ds, f1, e⟩ := bind_ok e
  simp only [evs] at f1
  obtain ⟨x, f2, f3⟩ := bind_ok f1
  obtain ⟨ys, f4, f5⟩ := bind_ok f3
  cases f5
  unfold biD at e
  split at e <;> first | (rename_i hx _; cases hx; done) | skip
  all_goals first | (simp at *; done) | skip
  rename_i z zs hz
  cases hz
  split at e
  case h_2 => cases e
  rename_i lo hi h2
  cases e
  exact ⟨_, lo, hi, _, f2, f4, h2, rfl⟩
theorem s_inr (c : Ctx X sc L C) {l e : Expr} {es : List Expr} {a m : E} {p q pos : Pos} (hg : gloB sc "range" = true) (ce : cvs L (e :: es) sc = some m) (hl : PE X l (tD X.K L C a)) (ha : PA X (e :: es) (tDs X.K L C m)) :
    PE X (.Compare l [.In] [.Call (.Name "range" p) (e :: es) [] q] pos) (tD X.K L C (.bi .inr (.cons a m))) := by
  refine pe_imp (pe_cmpR op_in_rng hl (s_rng c hg ce ha) rfl) fun σ H Q w => ?_
  obtain ⟨ρ, O, F, d, er, e, k⟩ := w
  obtain ⟨x, lo, hi, ds, f1, f2, f3, rfl⟩ := inr_ev e
  exact ⟨ρ, O, F, _, er, f1, fun v H1 s1 b1 => ⟨ρ, O, F, ds, lo, hi, er.mono s1, f2, f3, fun p1 H2 s2 h2 => ⟨x, p1, lo, hi, dv_int b1.all rfl, rfl, h2, k _ H2 (s1.trans s2) (bd_bool _)⟩⟩⟩
theorem t_inr (c : Ctx X sc L C) {l e : Expr} {es : List Expr} {a m : E} {p q pos : Pos} (hg : gloB sc "range" = true) (ce : cvs L (e :: es) sc = some m) (hl : PE X l (tD X.K L C a)) (ha : PA X (e :: es) (tDs X.K L C m)) :
    PT X (.Compare l [.In] [.Call (.Name "range" p) (e :: es) [] q] pos) (tDt X.K L C (.bi .inr (.cons a m))) := by
  refine pt_imp (pt_cmpR op_in_rng hl (s_rng c hg ce ha) rfl) fun σ H Q w => ?_
  obtain ⟨ρ, O, F, b, er, e, k⟩ := w
  obtain ⟨x, lo, hi, ds, f1, f2, f3, e3⟩ := inr_ev e
  cases e3
  exact ⟨ρ, O, F, _, er, f1, fun v H1 s1 b1 => ⟨ρ, O, F, ds, lo, hi, er.mono s1, f2, f3, fun p1 H2 s2 h2 => ⟨x, p1, lo, hi, dv_int b1.all rfl, rfl, h2, _, rfl, k H2 (s1.trans s2)⟩⟩⟩
theorem tys_boot : ∀ (f : Str) (t : Ty), tys.lookup f = some t → f ∈ frees ∧ bootBuiltins f = some (.type (tyN t)) ∧ f ≠ "__name__" := by
  intro f t h
  have hall : tys.all (fun p => frees.contains p.1 && decide (bootBuiltins p.1 = some (.type (tyN p.2))) && !(p.1 == ("__name__" : Str))) = true := by decide +kernel
  have hmem : (f, t) ∈ tys := by
    have gen : ∀ (l : List (Str × Ty)), l.lookup f = some t → (f, t) ∈ l := by
      intro l
      induction l with
      | nil => intro z; cases z
      | cons p l ih =>
        obtain ⟨x, y⟩ := p
        intro z
        rw [List.lookup_cons] at z
        split at z
        · rename_i hxy
          rw [beq_iff_eq] at hxy
          cases z
          subst hxy
          exact List.mem_cons_self
        · exact List.mem_cons_of_mem _ (ih z)
    exact gen tys h
  have := List.all_eq_true.mp hall _ hmem
  simp only [Bool.and_eq_true, decide_eq_true_eq, Bool.not_eq_true', beq_eq_false_iff_ne, ne_eq, List.contains_iff_mem] at this
  exact ⟨this.1.1, this.1.2, this.2⟩
theorem s_isi (c : Ctx X sc L C) {a : Expr} {x : Str} {t : Ty} {m : E} {p p1 pos : Pos} (hg : gloB sc "isinstance" = true) (hx : gloB sc x = true) (ht : tys.lookup x = some t) (ce : cvE L a sc = some m)
    (ha : PE X a (tD X.K L C m)) : PE X (.Call (.Name "isinstance" p) [a, .Name x p1] [] pos) (tD X.K L C (.isi m t)) := by
  obtain ⟨g1, g2⟩ := glob_of c hg
  obtain ⟨g3, g4⟩ := glob_of c hx
  obtain ⟨t1, t2, t3⟩ := tys_boot x t ht
  have pt : PE X (.Name x p1) (tC (.ty (tyN t))) := pe_bltn g3 (c.blt x t1) t2 rfl t3 g4
  refine pe_imp (pe_callB (call_isiD t) g1 (c.blt _ (by decide +kernel)) (by decide +kernel) (pa_cons ha (pa_cons pt pa_nil) (star_of ce _ X.env)) (by decide +kernel) g2 (star_of ce _ X.env) rfl) fun σ H Q ⟨ρ, O, F, d, er, e, q⟩ => ?_
  simp only [ev] at e
  obtain ⟨y, e1, e⟩ := bind_ok e
  cases e
  exact ⟨ρ, O, F, y, er, e1, fun v H1 s1 b1 => ⟨y, v, rfl, b1.all, q _ H1 s1 (bd_bool _)⟩⟩
/-- a slice's part -/
def tDo (K : PySem.W.Frag) (L : Lk) (C : Nat → List D → Res D) (m : E) : TO := fun σ H Q => ∃ (ρ : En) (O : Ps) (F : Nat → Ps) (i : Option Int), ER K L.ms ρ σ H O F ∧ evo C m ρ = .ok i ∧ ∀ H', Same H H' → Q i H'
theorem o_nil : PO X none (tDo X.K L C .nil) := ⟨fun pins s σ H Q I w => po_none.run pins s σ H Q I (by
  obtain ⟨ρ, O, F, i, er, e, q⟩ := w
  simp only [evo] at e
  cases e
  exact q H (Same.refl H))⟩
theorem o_some {e : Expr} {m : E} (h : PE X e (tD X.K L C m)) : PO X (some e) (tDo X.K L C (.cons m .nil)) := ⟨fun pins s σ H Q I w => (po_some h).run pins s σ H Q I (by
  obtain ⟨ρ, O, F, i, er, e, q⟩ := w
  simp only [evo] at e
  obtain ⟨x, e1, e⟩ := bind_ok e
  obtain ⟨j, e2, e⟩ := bind_ok e
  cases e
  refine ⟨ρ, O, F, x, er, e1, fun v H1 s1 b1 => ⟨j, ?_, q H1 s1⟩⟩
  cases x <;> cases e2
  exact dv_int b1.all rfl)⟩
theorem bz_cases {ms : List Sh} {e : E} (h : bz ms e = true) : shp ms e = .f ∨ shp ms e = .l .f := by
  unfold bz at h
  split at h
  · exact .inl (by assumption)
  · exact .inr (by assumption)
  · cases h
/-- a list one level of which is owned: its items are frozen -/
theorem bd_items {K : PySem.W.Frag} {H : Hp} {O : Ps} {ms : List Sh} {e : E} {xs : List D} {v : V} (hb : bz ms e = true) (h : Bd K H O (shp ms e) (.list xs) v) : ∃ a vs, v = .ref a ∧ SqM K H a vs ∧ DvA K (hid H O) xs vs := by
  rcases bz_cases hb with hz | hz
  · rw [hz] at h
    obtain ⟨a, vs, rfl, ha, ra⟩ := dv_list h.fz rfl
    exact ⟨a, vs, rfl, hid_sqm ha, ra⟩
  · rw [hz] at h
    obtain ⟨fp, hf, a, vs, ds, g, rfl, e1, ha, hl, hi, _⟩ := h
    cases e1
    exact ⟨a, vs, rfl, ⟨hl.2, .inl (.inl ha)⟩, DvA.of_get hl.1.symm fun i d w q r => (hi i d w q r).2⟩
theorem bd_items_t {K : PySem.W.Frag} {H : Hp} {O : Ps} {ms : List Sh} {e : E} {xs : List D} {v : V} (hb : bz ms e = true) (h : Bd K H O (shp ms e) (.tuple xs) v) : xs.length ≤ sizeLine ∧ ∃ a vs, v = .ref a ∧ SqT K (hid H O) a vs ∧ DvA K (hid H O) xs vs := by
  rcases bz_cases hb with hz | hz
  · rw [hz] at h
    exact ⟨dv_tupl h.fz rfl, dv_tup h.fz rfl⟩
  · rw [hz] at h
    obtain ⟨fp, hf, a, vs, ds, g, rfl, e1, _⟩ := h
    cases e1
theorem s_sl {a : Expr} {lo hi : Option Expr} {ma ml mh : E} {pos p2 : Pos} (ha : PE X a (tD X.K L C ma)) (hl : PO X lo (tDo X.K L C ml)) (hh : PO X hi (tDo X.K L C mh)) (hb : bz L.ms ma = true) :
    PE X (.Subscript a (.Slice lo hi none p2) pos) (tD X.K L C (.sl ma ml mh)) := by
  refine pe_imp (pe_slice sl_D ha hl hh) fun σ H Q ⟨ρ, O, F, d, er, e, q⟩ => ?_
  simp only [ev] at e
  obtain ⟨x, e1, e⟩ := bind_ok e
  obtain ⟨i, e2, e⟩ := bind_ok e
  obtain ⟨j, e3, e⟩ := bind_ok e
  refine ⟨ρ, O, F, x, er, e1, fun v H1 s1 b1 => ⟨ρ, O, F, i, er.mono s1, e2, fun H2 s2 => ⟨ρ, O, F, j, (er.mono s1).mono s2, e3, fun H3 s3 => ?_⟩⟩⟩
  have b3 := (b1.mono s2).mono s3
  refine ⟨O, x, d, ?_, fun xs hx => ?_, fun xs hx => ?_, (((er.mono s1).mono s2).mono s3).dom, e, fun w H4 s4 h => q w H4 (((s1.trans s2).trans s3).trans s4) (Bd.of h)⟩
  · cases x <;> first | exact ⟨_, .inl rfl⟩ | exact ⟨_, .inr rfl⟩ | (simp [slD] at e)
  · subst hx
    exact bd_items hb b3
  · subst hx
    exact bd_items_t hb b3
end
end Bk
/-! Bk: what loops and comprehensions walk. -/
namespace Bk
open PySem PySem.Spec PyProof.Rows L2
/-- the iterator J gives the data ds, while what is not owned at H stays (own: what is owned, too) -/
def ItOk (K : PySem.W.Frag) (H : Hp) (O : Ps) (own : Bool) (J : It) (ds : List D) : Prop := ds.length ≤ sizeLine ∧ ∃ (G : Hp → Prop) (Y : Nat → Hp → V → Hp → Prop), Walk J ds.length G Y ∧
  (∀ H1, Same (hid H O) H1 → (own = true → Same H H1) → G H1) ∧
  ∀ i H1 x H2, i < ds.length → G H1 → Y i H1 x H2 → Same H1 H2 ∧ ∃ d, ds[i]? = some d ∧ ∀ O1 : Ps, (∀ a, O1 a → H1 a ≠ none) → Same (hid H O) (hid H1 O1) → Dv K (hid H2 O1) d x
def iD (K : PySem.W.Frag) (L : Lk) (C : Nat → List D → Res D) (own : Bool) (m : E) : TI := fun σ H R => ∃ (ρ : En) (O : Ps) (F : Nat → Ps) (ds : List D), ER K L.ms ρ σ H O F ∧ evi C m ρ = .ok ds ∧
  ∀ J H', Same H H' → ItOk K H' O own J ds → R J H'
section
variable {X : Cx} {sc : Scope} {L : Lk} {C : Nat → List D → Res D}
theorem pi_imp {tg e : Expr} {w w' : TI} (h : PI X tg e w) (i : ∀ σ H R, w' σ H R → w σ H R) : PI X tg e w' := ⟨fun pins s σ H R I q => h.run pins s σ H R I (i σ H R q)⟩
theorem pi_alt {tg e : Expr} {w w2 w' : TI} (h : PI X tg e w) (h2 : PI X tg e w2) (i : ∀ σ H R, w' σ H R → w σ H R ∨ w2 σ H R) : PI X tg e w' := ⟨fun pins s σ H R I q => (i σ H R q).elim (fun z => h.run pins s σ H R I z) fun z => h2.run pins s σ H R I z⟩
theorem upto_get : ∀ (n : Nat) (a : Int) (i : Nat), i < n → (upto a n)[i]? = some (.int (a + i))
  | 0, _, _, h => by omega
  | n + 1, a, 0, _ => by simp [upto]
  | n + 1, a, i + 1, h => by
    have := upto_get n (a + 1) i (by omega)
    simp only [upto, List.getElem?_cons_succ, this]
    congr 2
    omega
theorem upto_len : ∀ (n : Nat) (a : Int), (upto a n).length = n
  | 0, _ => rfl
  | n + 1, a => by simp [upto, upto_len n]
theorem downs_get : ∀ (n : Nat) (a c : Int) (i : Nat), i < n → (downs a c n)[i]? = some (.int (a + i * c))
  | 0, _, _, _, h => by omega
  | n + 1, a, c, 0, _ => by simp [downs]
  | n + 1, a, c, i + 1, h => by
    have := downs_get n (a + c) c i (by omega)
    simp only [downs, List.getElem?_cons_succ, this]
    have e : ((i + 1 : Nat) : Int) * c = (i : Int) * c + c := by
      rw [Int.natCast_add, Int.add_mul]
      simp
    rw [e]
    congr 2
    omega
theorem downs_len : ∀ (n : Nat) (a c : Int), (downs a c n).length = n
  | 0, _, _ => rfl
  | n + 1, a, c => by simp [downs, downs_len n]
theorem enmD_get : ∀ (xs : List D) (n i : Nat) (d : D), xs[i]? = some d → (enmD n xs)[i]? = some (.tuple [.int ((n + i : Nat) : Int), d])
  | [], _, _, _, h => by simp at h
  | x :: xs, n, 0, d, h => by
    simp at h
    subst h
    simp [enmD]
  | x :: xs, n, i + 1, d, h => by
    have := enmD_get xs (n + 1) i d (by simpa using h)
    simp only [enmD, List.getElem?_cons_succ, this]
    congr 4
    omega
theorem enmD_len : ∀ (xs : List D) (n : Nat), (enmD n xs).length = xs.length
  | [], _ => rfl
  | x :: xs, n => by simp [enmD, enmD_len xs]
theorem zipD_get : ∀ (xs ys : List D) (i : Nat) (d e : D), xs[i]? = some d → ys[i]? = some e → (zipD xs ys)[i]? = some (.tuple [d, e])
  | [], _, _, _, _, h, _ => by simp at h
  | _ :: _, [], _, _, _, _, h => by simp at h
  | x :: xs, y :: ys, 0, d, e, h, h2 => by
    simp at h h2
    subst h h2
    simp [zipD]
  | x :: xs, y :: ys, i + 1, d, e, h, h2 => by
    have := zipD_get xs ys i d e (by simpa using h) (by simpa using h2)
    simp only [zipD, List.getElem?_cons_succ, this]
theorem zipD_len : ∀ (xs ys : List D), (zipD xs ys).length = min xs.length ys.length
  | [], _ => by simp [zipD]
  | _ :: _, [] => by simp [zipD]
  | x :: xs, y :: ys => by simp only [zipD, List.length_cons, zipD_len xs ys]; omega
theorem it_range {K : PySem.W.Frag} {H : Hp} {O : Ps} {own : Bool} (lo : Int) (n : Nat) (hz : n ≤ sizeLine) : ItOk K H O own (Itr lo n) (upto lo n) := by
  refine ⟨by rw [upto_len]; exact hz, fun _ => True, _, by rw [upto_len]; exact walk_range, fun _ _ _ => trivial, fun i H1 x H2 hi _ y => ?_⟩
  obtain ⟨rfl, rfl⟩ := y
  rw [upto_len] at hi
  exact ⟨Same.refl _, _, upto_get n lo i hi, fun O1 _ _ => by rw [Dv]⟩
theorem it_down {K : PySem.W.Frag} {H : Hp} {O : Ps} {own : Bool} (lo c : Int) (n : Nat) (hz : n ≤ sizeLine) : ItOk K H O own (Itc lo c n) (downs lo c n) := by
  refine ⟨by rw [downs_len]; exact hz, fun _ => True, _, by rw [downs_len]; exact walk_rangeC, fun _ _ _ => trivial, fun i H1 x H2 hi _ y => ?_⟩
  obtain ⟨rfl, rfl⟩ := y
  rw [downs_len] at hi
  exact ⟨Same.refl _, _, downs_get n lo c i hi, fun O1 _ _ => by rw [Dv]⟩
/-- a list: frozen, or (a comprehension) owned with frozen items -/
theorem it_list {K : PySem.W.Frag} {H : Hp} {O : Ps} {own : Bool} {a : Addr} {vs : List V} {xs : List D} (ha : SqM K (hid H O) a vs ∨ (own = true ∧ SqM K H a vs)) (ra : DvA K (hid H O) xs vs) : ItOk K H O own (Itl K a) xs := by
  refine ⟨by rw [ra.len]; rcases ha with ha | ⟨_, ha⟩ <;> exact ha.1, fun H1 => SqL K H1 a vs, _, by rw [ra.len]; exact walk_list, fun H1 s1 s2 => ?_, fun i H1 x H2 hi g y => ?_⟩
  · rcases ha with ha | ⟨h0, ha⟩
    · exact (Same.sqm s1 ha).sq
    · exact (Same.sqm (s2 h0) ha).sq
  · obtain ⟨rfl, e⟩ := y
    refine ⟨Same.refl _, xs[i], by simp, fun O1 _ s => ?_⟩
    obtain ⟨w, hw, dw⟩ := ra.get (show xs[i]? = some xs[i] by simp)
    rw [hw] at e
    cases e
    exact Dv.mono s _ _ dw
theorem it_tup {K : PySem.W.Frag} {H : Hp} {O : Ps} {own : Bool} {a : Addr} {vs : List V} {xs : List D} (hz : xs.length ≤ sizeLine) (ha : SqT K (hid H O) a vs) (ra : DvA K (hid H O) xs vs) : ItOk K H O own (Itt K a) xs := by
  refine ⟨hz, fun H1 => SqT K H1 a vs, _, by rw [ra.len]; exact walk_tup, fun H1 s1 s2 => Same.tup s1 ha, fun i H1 x H2 hi g y => ?_⟩
  obtain ⟨rfl, e⟩ := y
  refine ⟨Same.refl _, xs[i], by simp, fun O1 _ s => ?_⟩
  obtain ⟨w, hw, dw⟩ := ra.get (show xs[i]? = some xs[i] by simp)
  rw [hw] at e
  cases e
  exact Dv.mono s _ _ dw
theorem dv_pair {K : PySem.W.Frag} {H1 : Hp} {T : Addr} {x y : V} {d e : D} {O1 : Ps} (nT : H1 T = none) (hO : ∀ a, O1 a → H1 a ≠ none) (h1 : Dv K (hid H1 O1) d x) (h2 : Dv K (hid H1 O1) e y) :
    Dv K (hid (upd H1 T (.tup [x, y])) O1) (.tuple [d, e]) (.ref T) := new_tup (by show 2 ≤ sizeLine; decide) nT hO (by
  rw [DvA]
  refine ⟨x, [y], rfl, h1, ?_⟩
  rw [DvA]
  exact ⟨y, [], rfl, h2, by rw [DvA]⟩)
theorem it_enum {K : PySem.W.Frag} {H : Hp} {O : Ps} {own : Bool} {a : Addr} {vs : List V} {xs : List D} (ha : SqM K (hid H O) a vs) (ra : DvA K (hid H O) xs vs) : ItOk K H O own (Ite K a) (enmD 0 xs) := by
  refine ⟨by rw [enmD_len, ra.len]; exact ha.1, fun H1 => SqL K H1 a vs, _, by rw [enmD_len, ra.len]; exact walk_enum, fun H1 s1 s2 => (Same.sqm s1 ha).sq, fun i H1 x H2 hi g y => ?_⟩
  obtain ⟨T, x0, y0, rfl, nT, rfl, e1, e2⟩ := y
  rw [enmD_len] at hi
  have hx : xs[i]? = some xs[i] := by simp
  obtain ⟨w, hw, dw⟩ := ra.get hx
  have e2 : vs[i]? = some y0 := e2
  have e1 : some (V.int ((i : Nat) : Int)) = some x0 := e1
  rw [hw] at e2
  cases e2
  cases e1
  refine ⟨same_new nT, _, enmD_get xs 0 i _ hx, fun O1 hO s => dv_pair nT hO ?_ (Dv.mono s _ _ dw)⟩
  rw [Dv, Nat.zero_add]
theorem it_zip {K : PySem.W.Frag} {H : Hp} {O : Ps} {own : Bool} {a b : Addr} {vs us : List V} {xs ys : List D} (ha : SqM K (hid H O) a vs) (ra : DvA K (hid H O) xs vs) (hb : SqM K (hid H O) b us) (rb : DvA K (hid H O) ys us) :
    ItOk K H O own (Itz K a b) (zipD xs ys) := by
  refine ⟨by rw [zipD_len, ra.len]; have := ha.1; omega, fun H1 => SqL K H1 a vs ∧ SqL K H1 b us, _, walk_zip (by rw [zipD_len, ra.len, rb.len]), fun H1 s1 s2 => ⟨(Same.sqm s1 ha).sq, (Same.sqm s1 hb).sq⟩, fun i H1 x H2 hi g y => ?_⟩
  obtain ⟨T, x0, y0, rfl, nT, rfl, e1, e2⟩ := y
  rw [zipD_len] at hi
  have h1 : i < xs.length := by omega
  have h2 : i < ys.length := by omega
  have hx : xs[i]? = some xs[i] := by simp
  have hy : ys[i]? = some ys[i] := by simp
  obtain ⟨w, hw, dw⟩ := ra.get hx
  obtain ⟨w2, hw2, dw2⟩ := rb.get hy
  have e1 : vs[i]? = some x0 := e1
  have e2 : us[i]? = some y0 := e2
  rw [hw] at e1
  rw [hw2] at e2
  cases e1
  cases e2
  exact ⟨same_new nT, _, zipD_get xs ys i _ _ hx hy, fun O1 hO s => dv_pair nT hO (Dv.mono s _ _ dw) (Dv.mono s _ _ dw2)⟩
theorem small_62 {i : Int} (h : smallI i = true) : -(2 ^ 62) ≤ i ∧ i < 2 ^ 62 := by
  unfold smallI at h
  simp only [Bool.and_eq_true, decide_eq_true_eq] at h
  have : (8000000 : Int) < 2 ^ 62 := by decide
  omega
theorem small_n2 {a b : Int} (h : smallI b = true) (h2 : smallI a = true) : (b - a).toNat ≤ sizeLine := by
  unfold smallI at h h2
  simp only [Bool.and_eq_true, decide_eq_true_eq] at h h2
  rw [sizeLine_eq]
  omega
theorem small_n {b a : Int} (h : smallI b = true) (h2 : smallI a = true) : b.toNat ≤ sizeLine := by
  unfold smallI at h
  simp only [Bool.and_eq_true, decide_eq_true_eq] at h
  rw [sizeLine_eq]
  omega
theorem i_seq {tg e : Expr} {m : E} {own : Bool} (h : PE X e (tD X.K L C m)) (hb : (own && bz L.ms m || fz L.ms m) = true) : PI X tg e (iD X.K L C own (.cons m .nil)) := by
  refine ⟨fun pins s σ H R I w => ?_⟩
  obtain ⟨ρ, O, F, ds, er, e, q⟩ := w
  simp only [evi] at e
  obtain ⟨x, e1, e⟩ := bind_ok e
  cases x with
  | list xs =>
    cases e
    refine (pi_list h).run pins s σ H R I ⟨ρ, O, F, _, er, e1, fun v H1 s1 b1 => ?_⟩
    rw [Bool.or_eq_true, Bool.and_eq_true] at hb
    rcases hb with ⟨h0, hb⟩ | hb
    · obtain ⟨a, vs, rfl, ha, ra⟩ := bd_items hb b1
      exact ⟨a, rfl, ⟨vs, ha.sq⟩, q _ H1 s1 (it_list (.inr ⟨h0, ha⟩) ra)⟩
    · obtain ⟨a, vs, rfl, ha, ra⟩ := dv_list (bd_fz b1 hb) rfl
      exact ⟨a, rfl, ⟨vs, (hid_sqm ha).sq⟩, q _ H1 s1 (it_list (.inl ha) ra)⟩
  | tuple xs =>
    cases e
    refine (pi_tup h).run pins s σ H R I ⟨ρ, O, F, _, er, e1, fun v H1 s1 b1 => ?_⟩
    have hb' : bz L.ms m = true := by
      rw [Bool.or_eq_true, Bool.and_eq_true] at hb
      rcases hb with ⟨_, hb⟩ | hb
      · exact hb
      · unfold bz
        rw [fz_eq hb]
    obtain ⟨hz, a, vs, rfl, ha, ra⟩ := bd_items_t hb' b1
    exact ⟨a, rfl, ⟨vs, hid_sqt ha⟩, q _ H1 s1 (it_tup hz ha ra)⟩
  | _ => cases e
theorem i_rng (c : Ctx X sc L C) {tg : Expr} {es : List Expr} {m : E} {p pos : Pos} {own : Bool} (hg : gloB sc "range" = true) (h : cvs L es sc = some m) (ha : PA X es (tDs X.K L C m)) :
    PI X tg (.Call (.Name "range" p) es [] pos) (iD X.K L C own (.rng m)) := by
  obtain ⟨g1, g2⟩ := glob_of c hg
  have hm : X.mg "range" = none := c.blt _ (by decide +kernel)
  refine ⟨fun pins s σ H R I w => ?_⟩
  obtain ⟨ρ, O, F, ds, er, e, q⟩ := w
  simp only [evi] at e
  obtain ⟨xs, e1, e⟩ := bind_ok e
  have hl := evs_len h e1
  unfold rngD at e
  split at e
  · rename_i b
    obtain ⟨hs, e⟩ := Res.ok_if e
    cases e
    obtain ⟨a0, rfl⟩ : ∃ a0, es = [a0] := by
      match es, hl with
      | [a0], _ => exact ⟨a0, rfl⟩
    obtain ⟨ma, r, ce, _⟩ := cvs_cons h
    refine (pi_range1 g1 hm ha (star_of ce [] X.env)).run pins s σ H R I ⟨ρ, O, F, _, er, e1, fun vs H1 s1 h8 h9 => ?_⟩
    obtain ⟨v, rfl, hv⟩ := dva1 h8
    have := small_62 hs
    exact ⟨b, by rw [dv_int hv rfl], this.1, this.2, q _ H1 s1 (it_range 0 _ (small_n hs (show smallI 0 = true by decide)))⟩
  · rename_i a b
    obtain ⟨hs, e⟩ := Res.ok_if e
    cases e
    rw [Bool.and_eq_true] at hs
    obtain ⟨a0, b0, rfl⟩ : ∃ a0 b0, es = [a0, b0] := by
      match es, hl with
      | [a0, b0], _ => exact ⟨a0, b0, rfl⟩
    obtain ⟨ma, r, ce, cr, _⟩ := cvs_cons h
    obtain ⟨mb, r', ce', _⟩ := cvs_cons cr
    have h2 := star_of ce' [] X.env
    refine (pi_range2 g1 hm ha (by rw [star_of ce, h2]; rfl) h2).run pins s σ H R I ⟨ρ, O, F, _, er, e1, fun vs H1 s1 h8 h9 => ?_⟩
    obtain ⟨v, u, rfl, hv, hu⟩ := dva2 h8
    have t1 := small_62 hs.1
    have t2 := small_62 hs.2
    exact ⟨a, b, by rw [dv_int hv rfl, dv_int hu rfl], ⟨t1.1, t1.2, t2.1, t2.2⟩, q _ H1 s1 (it_range a _ (small_n2 hs.2 hs.1))⟩
  · rename_i a b
    obtain ⟨hs, e⟩ := Res.ok_if e
    cases e
    rw [Bool.and_eq_true] at hs
    obtain ⟨a0, b0, c0, rfl⟩ : ∃ a0 b0 c0, es = [a0, b0, c0] := by
      match es, hl with
      | [a0, b0, c0], _ => exact ⟨a0, b0, c0, rfl⟩
    obtain ⟨ma, r, ce, cr, _⟩ := cvs_cons h
    refine (pi_range3 g1 hm ha (star_of ce _ X.env) (plain_of cr X.env pos)).run pins s σ H R I ⟨ρ, O, F, _, er, e1, fun vs H1 s1 h8 h9 => ?_⟩
    rw [DvA] at h8
    obtain ⟨v, t, rfl, hv, h8⟩ := h8
    obtain ⟨u, w, rfl, hu, hw⟩ := dva2 h8
    have t1 := small_62 hs.1
    have t2 := small_62 hs.2
    exact ⟨a, b, -1, _, by rw [dv_int hv rfl, dv_int hu rfl, dv_int hw rfl], RgC.neg t1.1 t1.2 t2.1 t2.2, q _ H1 s1 (it_down a (-1) _ (small_n2 hs.1 hs.2))⟩
  · cases e
theorem i_enm (c : Ctx X sc L C) {a : Expr} {elts : List Expr} {kk : Nat} {tp : Pos} {m : E} {p pos : Pos} {own : Bool} (hg : gloB sc "enumerate" = true) (h : cvs L [a] sc = some (.cons m .nil)) (ha : PA X [a] (tDs X.K L C (.cons m .nil))) (hf : fz L.ms m = true) :
    PI X (.Tuple elts kk tp) (.Call (.Name "enumerate" p) [a] [] pos) (iD X.K L C own (.enm m)) := by
  obtain ⟨g1, g2⟩ := glob_of c hg
  obtain ⟨ma, r, ce, _⟩ := cvs_cons h
  refine pi_imp (pi_enum g1 (c.blt _ (by decide +kernel)) ha (star_of ce [] X.env)) fun σ H R ⟨ρ, O, F, ds, er, e, q⟩ => ?_
  simp only [evi] at e
  obtain ⟨x, e1, e⟩ := bind_ok e
  cases x with
  | list xs =>
    cases e
    refine ⟨ρ, O, F, [.list xs], er, by simp [evs, e1], fun vs H1 s1 h8 h9 => ?_⟩
    obtain ⟨v, rfl, hv⟩ := dva1 (h9 (by simp [fzs, hf]))
    obtain ⟨a0, us, rfl, ha0, ra⟩ := dv_list hv rfl
    exact ⟨a0, us, rfl, (hid_sqm ha0).sq, q _ H1 s1 (it_enum ha0 ra)⟩
  | _ => cases e
theorem i_zip (c : Ctx X sc L C) {a b : Expr} {elts : List Expr} {kk : Nat} {tp : Pos} {m r : E} {p pos : Pos} {own : Bool} (hg : gloB sc "zip" = true) (h : cvs L [a, b] sc = some (.cons m (.cons r .nil)))
    (ha : PA X [a, b] (tDs X.K L C (.cons m (.cons r .nil)))) (hf : (fz L.ms m && fz L.ms r) = true) : PI X (.Tuple elts kk tp) (.Call (.Name "zip" p) [a, b] [] pos) (iD X.K L C own (.zip m r)) := by
  obtain ⟨g1, g2⟩ := glob_of c hg
  obtain ⟨ma, r0, ce, cr, _⟩ := cvs_cons h
  refine pi_imp (pi_zip g1 (c.blt _ (by decide +kernel)) ha (star_of ce _ X.env) (plain_of cr X.env pos)) fun σ H R ⟨ρ, O, F, ds, er, e, q⟩ => ?_
  simp only [evi] at e
  obtain ⟨x, e1, e⟩ := bind_ok e
  obtain ⟨y, e2, e⟩ := bind_ok e
  rw [Bool.and_eq_true] at hf
  cases x with
  | list xs =>
    cases y with
    | list ys =>
      cases e
      refine ⟨ρ, O, F, [.list xs, .list ys], er, by simp [evs, e1, e2], fun vs H1 s1 h8 h9 => ?_⟩
      obtain ⟨v, u, rfl, hv, hu⟩ := dva2 (h9 (by simp [fzs, hf.1, hf.2]))
      obtain ⟨a0, us, rfl, ha0, ra⟩ := dv_list hv rfl
      obtain ⟨b0, ws, rfl, hb0, rb⟩ := dv_list hu rfl
      exact ⟨a0, b0, us, ws, rfl, (hid_sqm ha0).sq, (hid_sqm hb0).sq, q _ H1 s1 (it_zip ha0 ra hb0 rb)⟩
    | _ => cases e
  | _ => cases e
end
end Bk
/-! Bk: targets. -/
namespace Bk
open PySem PySem.Spec PyProof.Rows L2
/-- the slots but some are as they were -/
def Agree (own : List Nat) (σ σ' : L2.St) : Prop := σ'.length = σ.length ∧ ∀ i, i ∉ own → σ'[i]? = σ[i]?
theorem Agree.refl (own : List Nat) (σ : L2.St) : Agree own σ σ := ⟨rfl, fun _ _ => rfl⟩
theorem Agree.trans {o1 o2 : List Nat} {a b c : L2.St} (h : Agree o1 a b) (h2 : Agree o2 b c) : Agree (o1 ++ o2) a c :=
  ⟨h2.1.trans h.1, fun i hi => (h2.2 i fun z => hi (List.mem_append_right _ z)).trans (h.2 i fun z => hi (List.mem_append_left _ z))⟩
theorem wipe_in {σ : L2.St} {i : Nat} : ∀ {vs : List Nat}, i ∈ vs → i < σ.length → (wipe σ vs)[i]? = some none
  | [], h, _ => by cases h
  | v :: vs, h, hl => by
    unfold wipe
    by_cases e : v = i
    · subst e
      rw [List.getElem?_set_self (by rw [wipe_length]; exact hl)]
    · rw [List.getElem?_set_ne e]
      rcases List.mem_cons.mp h with h | h
      · exact absurd h.symm e
      · exact wipe_in h hl
theorem Agree.wipe {own : List Nat} {σ σ' : L2.St} (h : Agree own σ σ') : wipe σ' own = wipe σ own := by
  apply List.ext_getElem?
  intro i
  by_cases hi : i ∈ own
  · by_cases hl : i < σ.length
    · rw [wipe_in hi hl, wipe_in hi (by rw [h.1]; exact hl)]
    · rw [List.getElem?_eq_none (by rw [wipe_length, h.1]; omega), List.getElem?_eq_none (by rw [wipe_length]; omega)]
  · rw [wipe_out hi, wipe_out hi, h.2 i hi]
theorem wipe_idem {σ : L2.St} {own : List Nat} : wipe (wipe σ own) own = wipe σ own := by
  apply List.ext_getElem?
  intro i
  by_cases hi : i ∈ own
  · by_cases hl : i < σ.length
    · rw [wipe_in hi hl, wipe_in hi (by rw [wipe_length]; exact hl)]
    · rw [List.getElem?_eq_none (by rw [wipe_length, wipe_length]; omega), List.getElem?_eq_none (by rw [wipe_length]; omega)]
  · rw [wipe_out hi]
theorem wipeE_length (ρ : En) : ∀ vs : List Nat, (wipeE ρ vs).length = ρ.length
  | [] => rfl
  | v :: vs => by unfold wipeE; rw [List.length_set, wipeE_length ρ vs]
theorem wipeE_some {ρ : En} {i : Nat} {d : D} : ∀ {vs : List Nat}, (wipeE ρ vs)[i]? = some (some d) → ρ[i]? = some (some d) ∧ i ∉ vs
  | [], h => ⟨h, by simp⟩
  | v :: vs, h => by
    unfold wipeE at h
    by_cases hi : v = i
    · subst hi
      by_cases hv : v < (wipeE ρ vs).length
      · rw [List.getElem?_set_self hv] at h; cases h
      · rw [List.getElem?_eq_none (by simpa using hv)] at h; cases h
    · rw [List.getElem?_set_ne hi] at h
      obtain ⟨h1, h2⟩ := wipeE_some h
      refine ⟨h1, ?_⟩
      simp only [List.mem_cons, not_or]
      exact ⟨fun e => hi e.symm, h2⟩
section
variable {K : PySem.W.Frag} {ms : List Sh} {ρ : En} {σ : L2.St} {H : Hp} {O : Ps} {F : Nat → Ps}
theorem ER.wipe (e : ER K ms ρ σ H O F) (vs : List Nat) : ER K ms (wipeE ρ vs) (L2.wipe σ vs) H O F where
  len := by rw [wipeE_length, wipe_length]; exact e.len
  at_ := fun i d q => by
    obtain ⟨h1, h2⟩ := wipeE_some q
    obtain ⟨v, h3, h4⟩ := e.at_ i d h1
    exact ⟨v, by rw [wipe_out h2]; exact h3, h4⟩
  sub := e.sub
  dj := e.dj
  dom := e.dom
theorem ER.set (e : ER K ms ρ σ H O F) {i : Nat} {d : D} {v : V} (hf : ms.getD i .f = .f) (h : Dv K (hid H O) d v) : ER K ms (ρ.set i (some d)) (σ.set i (some v)) H O (fun j a => j ≠ i ∧ F j a) where
  len := by simpa using e.len
  at_ := fun j d' q => by
    by_cases hj : i = j
    · subst hj
      have hl : i < ρ.length := by
        rcases Nat.lt_or_ge i ρ.length with z | z
        · exact z
        · rw [List.getElem?_eq_none (by simpa using z)] at q
          cases q
      rw [List.getElem?_set_self hl] at q
      cases q
      refine ⟨v, List.getElem?_set_self (by rw [← e.len]; exact hl), ?_⟩
      rw [hf]
      exact ⟨fun a z => z.1 rfl, h⟩
    · rw [List.getElem?_set_ne hj] at q
      obtain ⟨w, h1, h2⟩ := e.at_ j d' q
      refine ⟨w, by rw [List.getElem?_set_ne hj]; exact h1, ?_⟩
      have ef : (fun a => j ≠ i ∧ F j a) = F j := by
        funext a
        exact propext ⟨fun z => z.2, fun z => ⟨fun q => hj q.symm, z⟩⟩
      rw [ef]
      exact h2
  sub := fun j a z => e.sub j a z.2
  dj := fun j k a z w => e.dj j k a z.2 w.2
  dom := e.dom
end
def gD (K : PySem.W.Frag) (L : Lk) (m : Tg) : TG := fun v σ H Q => ∃ (ρ : En) (O : Ps) (F : Nat → Ps) (d : D) (ρ' : En), ER K L.ms ρ σ H O F ∧ Dv K (hid H O) d v ∧ tgs m [d] ρ = .ok ρ' ∧
  ∀ (σ' : L2.St) (F' : Nat → Ps), ER K L.ms ρ' σ' H O F' → (∀ j a, F' j a → F j a) → Agree m.own σ σ' → Q σ' H
def gDs (K : PySem.W.Frag) (L : Lk) (m : Tg) : TGs := fun vs σ H Q => ∃ (ρ : En) (O : Ps) (F : Nat → Ps) (ds : List D) (ρ' : En), ER K L.ms ρ σ H O F ∧ DvA K (hid H O) ds vs ∧ tgs m ds ρ = .ok ρ' ∧
  ∀ (σ' : L2.St) (F' : Nat → Ps), ER K L.ms ρ' σ' H O F' → (∀ j a, F' j a → F j a) → Agree m.own σ σ' → Q σ' H
/-- a scope's own names may be stored -/
def Stores (X : Cx) (sc : Scope) : Prop := ∀ x, locB sc x = true → L2.Loc X.env.scope x ∧ (X.fn x = true ∨ X.env.scope.names.lookup x = some .local)
section
variable {X : Cx} {sc : Scope} {L : Lk}
theorem pg_imp {e : Expr} {t t' : TG} (h : PG X e t) (i : ∀ v σ H Q, t' v σ H Q → t v σ H Q) : PG X e t' := ⟨fun pins s σ H v u Q I r w => h.run pins s σ H v u Q I r (i v σ H Q w)⟩
theorem slot_eq {N : List Str} {x : Str} {i : Nat} (h : slot N x = some i) : N[i]? = some x ∧ i = N.idxOf x := by
  unfold slot at h
  dsimp only at h
  split at h
  · cases h
    exact ⟨by assumption, rfl⟩
  · cases h
theorem cvT_name {x : Str} {p : Pos} {m : Tg} (h : cvT L sc (.Name x p) = some m) : ∃ i, locB sc x = true ∧ slot L.N x = some i ∧ frozen L.ms i = true ∧ m = .n i := by
  simp only [cvT] at h
  split at h
  · rename_i h1
    split at h
    · rename_i i h2
      split at h
      · rename_i h3
        cases h
        exact ⟨i, h1, h2, h3, rfl⟩
      · cases h
    · cases h
  · cases h
theorem cvTs_cons {t : Expr} {r : List Expr} {m : Tg} (h : cvTs L sc (t :: r) = some m) : ∃ a b, cvT L sc t = some a ∧ cvTs L sc r = some b ∧ m = .cons a b := by
  simp only [cvTs] at h
  split at h
  · rename_i a b h1 h2
    cases h
    exact ⟨a, b, h1, h2, rfl⟩
  · cases h
theorem each_of {t : Expr} {m : Tg} (h : cvT L sc t = some m) (r : List Expr) (env : Env) : assignEach (t :: r) env = (false, assign t env) :: assignEach r env := by
  cases t <;> first | rfl | (simp [cvT] at h)
theorem each_all : ∀ {ts : List Expr} {m : Tg}, cvTs L sc ts = some m → ∀ env : Env, (assignEach ts env).length = ts.length ∧ (assignEach ts env).findIdx? (·.1) = none
  | [], _, _, env => ⟨rfl, rfl⟩
  | t :: r, m, h, env => by
    obtain ⟨a, b, h1, h2, _⟩ := cvTs_cons h
    obtain ⟨e1, e2⟩ := each_all h2 env
    rw [each_of h1]
    refine ⟨by simp [e1], ?_⟩
    rw [List.findIdx?_cons]
    simp [e2]
theorem tgs_len : ∀ {ts : List Expr} {m : Tg} {ds : List D} {ρ ρ' : En}, cvTs L sc ts = some m → tgs m ds ρ = .ok ρ' → ds.length = ts.length
  | [], m, ds, ρ, ρ', h, e => by
    simp only [cvTs, Option.some.injEq] at h
    subst h
    cases ds with
    | nil => rfl
    | cons d ds => simp [tgs] at e
  | t :: r, m, ds, ρ, ρ', h, e => by
    obtain ⟨a, b, h1, h2, rfl⟩ := cvTs_cons h
    cases ds with
    | nil => simp [tgs] at e
    | cons d ds =>
      simp only [tgs] at e
      obtain ⟨ρ1, e1, e2⟩ := bind_ok e
      simp [tgs_len h2 e2]
mutual
theorem g_sound (hN : X.N = L.N) (nd : L.N.Nodup) (hc : X.calm = true) (st : Stores X sc) : ∀ (e : Expr) (m : Tg), cvT L sc e = some m → PG X e (gD X.K L m)
  | .Name x p, m, h => by
    obtain ⟨i, h1, h2, h3, rfl⟩ := cvT_name h
    obtain ⟨l1, l2⟩ := st x h1
    obtain ⟨n1, _⟩ := slot_eq h2
    refine pg_imp (pg_name (by rw [hN]; exact nd) (by rw [hN]; exact n1) l1 l2) fun v σ H Q ⟨ρ, O, F, d, ρ', er, dv, e, q⟩ => ?_
    simp only [tgs] at e
    cases e
    refine q _ _ (er.set (frozen_eq h3) dv) (fun j a z => z.2) ⟨by simp, fun j hj => ?_⟩
    rw [List.getElem?_set_ne (fun z => hj (by simp [Tg.own, z]))]
  | .Tuple ts k p, m, h => by
    simp only [cvT, Option.map_eq_some_iff] at h
    obtain ⟨m', h1, rfl⟩ := h
    have hs := gs_sound hN nd hc st ts m' h1
    obtain ⟨e1, e2⟩ := each_all h1 X.env
    refine ⟨fun pins s σ H v u Q I r w => ?_⟩
    obtain ⟨ρ, O, F, d, ρ', er, dv, e, q⟩ := w
    simp only [tgs] at e
    split at e
    · rename_i xs hx
      have hl := tgs_len h1 e
      cases d with
      | list ys =>
        cases hx
        obtain ⟨a, vs, rfl, ha, ra⟩ := dv_list dv rfl
        exact (pg_unl hc hs e1 e2).run pins s σ H _ u Q I r ⟨a, vs, rfl, (hid_sqm ha).sq, by rw [← ra.len, hl], ρ, O, F, _, ρ', er, ra, e, q⟩
      | tuple ys =>
        cases hx
        obtain ⟨a, vs, rfl, ha, ra⟩ := dv_tup dv rfl
        exact (pg_tup hc hs e1 e2).run pins s σ H _ u Q I r ⟨a, vs, rfl, hid_sqt ha, by rw [← ra.len, hl], ρ, O, F, _, ρ', er, ra, e, q⟩
      | _ => cases hx
    · cases e
  | .BoolOp .., _, h => by simp [cvT] at h
  | .NamedExpr .., _, h => by simp [cvT] at h
  | .BinOp .., _, h => by simp [cvT] at h
  | .UnaryOp .., _, h => by simp [cvT] at h
  | .Lambda .., _, h => by simp [cvT] at h
  | .IfExp .., _, h => by simp [cvT] at h
  | .Dict .., _, h => by simp [cvT] at h
  | .Set .., _, h => by simp [cvT] at h
  | .ListComp .., _, h => by simp [cvT] at h
  | .SetComp .., _, h => by simp [cvT] at h
  | .DictComp .., _, h => by simp [cvT] at h
  | .GeneratorExp .., _, h => by simp [cvT] at h
  | .Await .., _, h => by simp [cvT] at h
  | .Yield .., _, h => by simp [cvT] at h
  | .YieldFrom .., _, h => by simp [cvT] at h
  | .Compare .., _, h => by simp [cvT] at h
  | .Call .., _, h => by simp [cvT] at h
  | .FormattedValue .., _, h => by simp [cvT] at h
  | .JoinedStr .., _, h => by simp [cvT] at h
  | .Constant .., _, h => by simp [cvT] at h
  | .Attribute .., _, h => by simp [cvT] at h
  | .Subscript .., _, h => by simp [cvT] at h
  | .Starred .., _, h => by simp [cvT] at h
  | .List .., _, h => by simp [cvT] at h
  | .Slice .., _, h => by simp [cvT] at h
theorem gs_sound (hN : X.N = L.N) (nd : L.N.Nodup) (hc : X.calm = true) (st : Stores X sc) : ∀ (es : List Expr) (m : Tg), cvTs L sc es = some m → PGs X es (gDs X.K L m)
  | [], m, h => by
    simp only [cvTs, Option.some.injEq] at h
    subst h
    refine ⟨fun pins s σ H vs us Q I r w => ?_⟩
    obtain ⟨ρ, O, F, ds, ρ', er, dv, e, q⟩ := w
    cases ds with
    | nil =>
      simp only [tgs] at e
      cases e
      rw [DvA] at dv
      subst dv
      exact pgs_nil.run pins s σ H [] us Q I r ⟨rfl, q σ F er (fun _ _ z => z) (Agree.refl _ _)⟩
    | cons d ds => simp [tgs] at e
  | t :: ts, m, h => by
    obtain ⟨a, b, h1, h2, rfl⟩ := cvTs_cons h
    have g1 := g_sound hN nd hc st t a h1
    have g2 := gs_sound hN nd hc st ts b h2
    refine ⟨fun pins s σ H vs us Q I r w => ?_⟩
    obtain ⟨ρ, O, F, ds, ρ', er, dv, e, q⟩ := w
    cases ds with
    | nil => simp [tgs] at e
    | cons d ds =>
      simp only [tgs] at e
      obtain ⟨ρ1, e1, e2⟩ := bind_ok e
      rw [DvA] at dv
      obtain ⟨v, vr, rfl, dv1, dvr⟩ := dv
      refine (pgs_cons g1 g2 (by rw [each_of h1]; rfl)).run pins s σ H _ us Q I r ⟨v, vr, rfl, ρ, O, F, d, ρ1, er, dv1, e1, fun σ1 F1 er1 f1 ag1 => ⟨ρ1, O, F1, ds, ρ', er1, dvr, e2, fun σ2 F2 er2 f2 ag2 => ?_⟩⟩
      exact q σ2 F2 er2 (fun j a z => f1 j a (f2 j a z)) (ag1.trans ag2)
end
mutual
theorem own_e : ∀ (e : Expr) (m : Tg), cvT L sc e = some m → m.own = (names e).map fun x => L.N.idxOf x
  | .Name x p, m, h => by
    obtain ⟨i, h1, h2, h3, rfl⟩ := cvT_name h
    simp [Tg.own, names, (slot_eq h2).2]
  | .Tuple ts k p, m, h => by
    simp only [cvT, Option.map_eq_some_iff] at h
    obtain ⟨m', h1, rfl⟩ := h
    simp only [Tg.own, names]
    exact own_es ts m' h1
  | .BoolOp .., _, h => by simp [cvT] at h
  | .NamedExpr .., _, h => by simp [cvT] at h
  | .BinOp .., _, h => by simp [cvT] at h
  | .UnaryOp .., _, h => by simp [cvT] at h
  | .Lambda .., _, h => by simp [cvT] at h
  | .IfExp .., _, h => by simp [cvT] at h
  | .Dict .., _, h => by simp [cvT] at h
  | .Set .., _, h => by simp [cvT] at h
  | .ListComp .., _, h => by simp [cvT] at h
  | .SetComp .., _, h => by simp [cvT] at h
  | .DictComp .., _, h => by simp [cvT] at h
  | .GeneratorExp .., _, h => by simp [cvT] at h
  | .Await .., _, h => by simp [cvT] at h
  | .Yield .., _, h => by simp [cvT] at h
  | .YieldFrom .., _, h => by simp [cvT] at h
  | .Compare .., _, h => by simp [cvT] at h
  | .Call .., _, h => by simp [cvT] at h
  | .FormattedValue .., _, h => by simp [cvT] at h
  | .JoinedStr .., _, h => by simp [cvT] at h
  | .Constant .., _, h => by simp [cvT] at h
  | .Attribute .., _, h => by simp [cvT] at h
  | .Subscript .., _, h => by simp [cvT] at h
  | .Starred .., _, h => by simp [cvT] at h
  | .List .., _, h => by simp [cvT] at h
  | .Slice .., _, h => by simp [cvT] at h
theorem own_es : ∀ (es : List Expr) (m : Tg), cvTs L sc es = some m → m.own = (namesL es).map fun x => L.N.idxOf x
  | [], m, h => by
    simp only [cvTs, Option.some.injEq] at h
    subst h
    rfl
  | t :: ts, m, h => by
    obtain ⟨a, b, h1, h2, rfl⟩ := cvTs_cons h
    simp only [Tg.own, namesL, List.map_append, own_e t a h1, own_es ts b h2]
end
/-- the slots that a target names, by the text -/
theorem own_eq {e : Expr} {m : Tg} (h : cvT L sc e = some m) : (ownOf L.N e).map (·.2) = m.own := by
  rw [own_e e m h]
  unfold ownOf
  rw [List.map_map]
  rfl
end
end Bk
/-! Bk: comprehensions; the theorem of all expressions. -/
namespace Bk
open PySem PySem.Spec PyProof.Rows L2
/-- an expression whose list is new -/
def tFr (K : PySem.W.Frag) (L : Lk) (C : Nat → List D → Res D) (m : E) : TE := fun σ H Q => ∃ (ρ : En) (O : Ps) (F : Nat → Ps) (ds : List D), ER K L.ms ρ σ H O F ∧ ev C m ρ = .ok (.list ds) ∧
  ∀ a vs H', Same H H' → H a = none → H' a = some (.lst vs) → ds.length ≤ sizeLine → DvA K (hid H' fun b => O b ∨ b = a) ds vs → Q (.ref a) H'
section
variable {X : Cx} {sc : Scope} {L : Lk} {C : Nat → List D → Res D}
def tDc (K : PySem.W.Frag) (L : Lk) (C : Nat → List D → Res D) (m : E) : TT := fun σ H Q => ∃ (ρ : En) (O : Ps) (F : Nat → Ps) (b : Bool), ER K L.ms ρ σ H O F ∧ evc C m ρ = .ok b ∧ ∀ H', Same H H' → Q b H'
theorem c_nil : PTs X [] (tDc X.K L C .nil) := ⟨fun pins s σ H Q I w => pts_nil.run pins s σ H Q I (by
  obtain ⟨ρ, O, F, b, er, e, q⟩ := w
  simp only [evc] at e
  cases e
  exact q H (Same.refl H))⟩
theorem c_one {c : Expr} {m : E} (h : PT X c (tDt X.K L C m)) : PTs X [c] (tDc X.K L C (.cons m .nil)) := ⟨fun pins s σ H Q I w => (pts_one h).run pins s σ H Q I (by
  obtain ⟨ρ, O, F, b, er, e, q⟩ := w
  simp only [evc] at e
  obtain ⟨x, e1, e⟩ := bind_ok e
  have e2 := boolD_ok e
  subst e2
  exact ⟨ρ, O, F, b, er, e1, q⟩)⟩
/-- the same slots, in a heap that has grown, with more that is kept away -/
theorem ER.grow {K : PySem.W.Frag} {ms : List Sh} {ρ : En} {σ : L2.St} {H H' : Hp} {O O' : Ps} {F : Nat → Ps} (e : ER K ms ρ σ H O F) (s : Same H H') (h1 : ∀ a, O a → O' a) (h2 : ∀ a, O' a → O a ∨ H a = none) (h3 : ∀ a, O' a → H' a ≠ none) :
    ER K ms ρ σ H' O' F where
  len := e.len
  at_ := fun i d q => let ⟨v, a, b⟩ := e.at_ i d q; ⟨v, a, b.mono s h2⟩
  sub := fun i a z => h1 a (e.sub i a z)
  dj := e.dj
  dom := h3
theorem lcL_drop {f : D → Res (Option D)} : ∀ {xs : List D} {i : Nat} {x : D} {r : List D}, lcL f (xs.drop i) = .ok r → xs[i]? = some x → ∃ o t, f x = .ok o ∧ lcL f (xs.drop (i + 1)) = .ok t ∧ r = (match o with
    | some d => d :: t
    | none => t)
  | [], i, x, r, h, hx => by simp at hx
  | y :: xs, 0, x, r, h, hx => by
    simp at hx
    subst hx
    simp only [List.drop_zero, lcL] at h
    obtain ⟨o, e1, h⟩ := bind_ok h
    obtain ⟨t, e2, h⟩ := bind_ok h
    cases h
    exact ⟨o, t, e1, by simpa using e2, rfl⟩
  | y :: xs, i + 1, x, r, h, hx => by
    have := lcL_drop (xs := xs) (i := i) (x := x) (r := r) (by simpa using h) (by simpa using hx)
    simpa using this
theorem f_lc2 (c : Ctx X sc L C) {elt tg iter : Expr} {ifs : List Expr} {scope : Scope} {pos : Pos} {t : Tg} {mi mc me : E} (hb : blkC L.N sc scope (ownOf L.N tg) = true) (ht : cvT L scope tg = some t)
    (hi : PI X tg iter (iD X.K L C true mi)) (hs : ∀ x, foldedSetIterable iter X.env x = pure x)
    (hc : ∀ X' : Cx, X'.K = X.K → Ctx X' (inner scope sc) L C → PTs X' ifs (tDc X'.K L C mc)) (he : ∀ X' : Cx, X'.K = X.K → Ctx X' (inner scope sc) L C → PE X' elt (tD X'.K L C me)) (fe : fz L.ms me = true) :
    PE X (.ListComp elt [⟨tg, iter, ifs, 0⟩] scope pos) (tFr X.K L C (.lc t mi mc me)) ∧ ∀ (i : Nat) (y : Str) (py spos : Pos), X.N[i]? = some y → X.env.scope.names.lookup y = some .local →
      swapsWith (.ListComp elt [⟨tg, iter, ifs, 0⟩] scope pos) (some (.Name y py)) spos.line X.env = pure true →
      PS X (.Assign [.Name y py] (.ListComp elt [⟨tg, iter, ifs, 0⟩] scope pos) spos) (tAsg (tFr X.K L C (.lc t mi mc me)) (gName i)) := by
  have ok : BlkOk X.N X.env.scope scope (ownOf L.N tg) := by rw [c.N, c.sc]; exact blkOk_by hb
  have hst : ∀ (s : Shared) (H : Hp) (C' : Addr) (cl : List (Str × Addr)) (fp : List Addr), Stores (X.blk s H scope (compEnvC scope cl C' X.env) fp) scope := by
    intro s H C' cl fp x hx
    unfold locB at hx
    have hl : ∀ k, scope.names.lookup x = some k → k ≠ .free → (relabel scope X.env).names.lookup x = some k := by
      intro k hk nk
      unfold relabel
      have gen : ∀ l : List (Str × NameKind), l.lookup x = some k → (l.map fun y => match y with
          | (n, k) => if (k == .free && X.env.scope.kind == .function && X.env.kindOf n == some .cell) = true then (n, NameKind.cell) else (n, k)).lookup x = some k := by
        intro l
        induction l with
        | nil => intro z; cases z
        | cons y l ih =>
          obtain ⟨n, k0⟩ := y
          intro z
          rw [List.lookup_cons] at z
          rw [List.map_cons]
          show List.lookup x ((if (k0 == .free && X.env.scope.kind == .function && X.env.kindOf n == some .cell) = true then (n, NameKind.cell) else (n, k0)) :: _) = _
          cases hn : x == n with
          | true =>
            rw [hn] at z
            cases z
            have : (k == NameKind.free) = false := by cases k <;> first | rfl | exact absurd rfl nk
            rw [if_neg (by simp [this]), List.lookup_cons, hn]
          | false =>
            rw [hn] at z
            have ih' := ih z
            split <;> rw [List.lookup_cons, hn] <;> exact ih'
      exact gen _ hk
    split at hx
    · rename_i h1
      exact ⟨.inl (hl _ h1 (by decide)), .inr (hl _ h1 (by decide))⟩
    · rename_i h1
      refine ⟨.inr (hl _ h1 (by decide)), .inl ?_⟩
      show (scope.names.lookup x == some NameKind.cell) = true
      rw [h1]
      rfl
    · cases hx
  have pg : ∀ (s : Shared) (H : Hp) (C' : Addr) (cl : List (Str × Addr)) (fp : List Addr), PG (X.blk s H scope (compEnvC scope cl C' X.env) fp) tg (gD X.K L t) :=
    fun s H C' cl fp => g_sound (X := X.blk s H scope (compEnvC scope cl C' X.env) fp) c.N c.nd c.calm (hst s H C' cl fp) tg t ht
  have pt : ∀ (s : Shared) (H : Hp) (C' : Addr) (cl : List (Str × Addr)) (fp : List Addr), PTs (X.blk s H scope (compEnvC scope cl C' X.env) fp) ifs (tDc X.K L C mc) :=
    fun s H C' cl fp => hc (X.blk s H scope (compEnvC scope cl C' X.env) fp) rfl (c.blk s H scope C' cl fp)
  have pe : ∀ (s : Shared) (H : Hp) (C' : Addr) (cl : List (Str × Addr)) (fp : List Addr), PE (X.blk s H scope (compEnvC scope cl C' X.env) fp) elt (tD X.K L C me) :=
    fun s H C' cl fp => he (X.blk s H scope (compEnvC scope cl C' X.env) fp) rfl (c.blk s H scope C' cl fp)
  have red : ∀ (σ : L2.St) (H : Hp) (Q : VK), tFr X.K L C (.lc t mi mc me) σ H Q → tLc (iD X.K L C true mi) (gD X.K L t) (tDc X.K L C mc) (tD X.K L C me) ((ownOf L.N tg).map (·.2)) σ H Q := ?_
  · exact ⟨pe_imp (pe_lc c.calm (by rw [c.N]; exact c.nd) hi ok pg pt pe hs) red, fun i y py spos h1 h2 h3 => ⟨fun pins s σ H D I w => (ps_setLc c.calm (by rw [c.N]; exact c.nd) h1 h2 h3 hi ok pg pt pe hs).run pins s σ H D I (red σ H _ w)⟩⟩
  intro σ H Q ⟨ρ, O, F, ys, er, e, q⟩
  simp only [ev] at e
  obtain ⟨ds, e1, e⟩ := bind_ok e
  obtain ⟨yy, e2, e⟩ := bind_ok e
  cases e
  rw [own_eq ht]
  refine ⟨ρ, O, F, ds, er, e1, fun J H1 s1 it A nA => ?_⟩
  obtain ⟨hz, G, Y, wk, hG, hY⟩ := it
  have er1 := (er.mono s1).wipe t.own
  have dom1 := er1.dom
  -- what is kept away: what is owned, and the new list
  have hO1 : ∀ a, (O a ∨ a = A) → O a ∨ H1 a = none := fun a z => z.imp id fun w => by rw [w]; exact nA
  refine lc_it wk (fun i H' => ∃ (acc : List V) (accD rest : List D), H' A = some (.lst acc) ∧ acc.length ≤ i ∧ Same H1 H' ∧ DvA X.K (hid H' fun a => O a ∨ a = A) accD acc ∧ lcL (lcF t ρ (fun ρ' => evc C mc ρ') fun ρ' => ev C me ρ') (ds.drop i) = .ok rest ∧ accD ++ rest = ys) ?_ ?_ ?_ ?_
  · exact ⟨[], [], ys, upd_same, Nat.le_refl _, same_new nA, by simp [DvA], e2, rfl⟩
  · rintro i H' _ ⟨acc, accD, rest, h1, h2, h3, h4, h5, h6⟩
    exact hG H' (fun a o z => h3 a o (hid_le a o z)) fun _ => h3
  · rintro i x H2 H3 hi' ⟨acc, accD, rest, h1, h2, h3, h4, h5, h6⟩ y
    have g0 : G H2 := hG H2 (fun a o z => h3 a o (hid_le a o z)) fun _ => h3
    obtain ⟨s3, dd, hd, hx⟩ := hY i H2 x H3 hi' g0 y
    have dom2 : ∀ a, (O a ∨ a = A) → H2 a ≠ none := fun a z => by
      rcases z with z | rfl
      · intro w
        cases hq : H1 a with
        | none => exact dom1 a z hq
        | some o => rw [h3 a o hq] at w; cases w
      · rw [h1]; simp
    have er2 : ER X.K L.ms (wipeE ρ t.own) (wipe σ t.own) H2 (fun a => O a ∨ a = A) F := er1.grow h3 (fun a z => .inl z) hO1 dom2
    have dx := hx _ dom2 (same_hid h3 hO1)
    obtain ⟨o, tl, e3, e4, e5⟩ := lcL_drop h5 hd
    unfold lcF at e3
    obtain ⟨ρ', e6, e3⟩ := bind_ok e3
    obtain ⟨b, e7, e3⟩ := bind_ok e3
    refine ⟨wipeE ρ t.own, _, F, dd, ρ', er2.mono s3, dx, e6, fun σ2 F2 er3 f2 ag => ⟨by rw [ag.wipe, wipe_idem], ρ', _, F2, b, er3, e7, fun H4 s4 => ?_⟩⟩
    have sA : Same H2 H4 := s3.trans s4
    cases b with
    | false =>
      cases e3
      subst e5
      exact ⟨acc, accD, _, sA _ _ h1, by omega, h3.trans sA, DvA.mono (same_hidO sA) accD acc h4, e4, h6⟩
    | true =>
      obtain ⟨z, e8, e3⟩ := bind_ok e3
      cases e3
      subst e5
      refine ⟨ρ', _, F2, z, er3.mono s4, e8, fun w H5 s5 b5 => ?_⟩
      have h1' : H5 A = some (.lst acc) := (sA.trans s5) _ _ h1
      refine ⟨acc, h1', by omega, acc ++ [w], accD ++ [z], tl, upd_same, by simp; omega, fun a o q0 => ?_, ?_, e4, by simpa using h6⟩
      · have na : a ≠ A := ne_of_none q0 nA
        rw [upd_ne na]
        exact (sA.trans s5) a o (h3 a o q0)
      · have mv : Same (hid H5 fun a => O a ∨ a = A) (hid (upd H5 A (.lst (acc ++ [w]))) fun a => O a ∨ a = A) := fun a o q0 => by
          obtain ⟨q1, q2⟩ := hid_some.mp q0
          exact hid_some.mpr ⟨q1, by rw [upd_ne (fun z => q1 (.inr z))]; exact q2⟩
        refine (DvA.mono (((same_hidO sA).trans (same_hidO s5)).trans mv) accD acc h4).append ?_
        rw [DvA]
        exact ⟨w, [], rfl, Dv.mono mv z w (bd_fz b5 fe), by rw [DvA]⟩
  · rintro H' ⟨acc, accD, rest, h1, h2, h3, h4, h5, h6⟩
    rw [List.drop_length] at h5
    simp only [lcL] at h5
    cases h5
    rw [List.append_nil] at h6
    subst h6
    exact q A acc H' (s1.trans h3) (s1.free nA) h1 (by rw [h4.len]; omega) h4
theorem f_lc (c : Ctx X sc L C) {elt tg iter : Expr} {ifs : List Expr} {scope : Scope} {pos : Pos} {t : Tg} {mi mc me : E} (hb : blkC L.N sc scope (ownOf L.N tg) = true) (ht : cvT L scope tg = some t)
    (hi : PI X tg iter (iD X.K L C true mi)) (hs : ∀ x, foldedSetIterable iter X.env x = pure x)
    (hc : ∀ X' : Cx, X'.K = X.K → Ctx X' (inner scope sc) L C → PTs X' ifs (tDc X'.K L C mc)) (he : ∀ X' : Cx, X'.K = X.K → Ctx X' (inner scope sc) L C → PE X' elt (tD X'.K L C me)) (fe : fz L.ms me = true) :
    PE X (.ListComp elt [⟨tg, iter, ifs, 0⟩] scope pos) (tFr X.K L C (.lc t mi mc me)) := (f_lc2 c hb ht hi hs hc he fe).1
theorem same_less {H : Hp} {O O' : Ps} (h : ∀ b, O b → O' b) : Same (hid H O') (hid H O) := fun a o z => by
  obtain ⟨z1, z2⟩ := hid_some.mp z
  exact hid_some.mpr ⟨fun w => z1 (h a w), z2⟩
/-- what stood ahead of a new object does not hang on it -/
theorem same_newO {H : Hp} {O : Ps} {p : Addr} {o : HO} (np : H p = none) : Same (hid H O) (hid (upd H p o) fun b => O b ∨ b = p) :=
  same_hid (same_new np) fun a z => z.imp id fun e => by rw [e]; exact np
/-- a new list, as any value -/
theorem fr_dR {K : PySem.W.Frag} {m : E} (hm : ∀ ρ d, ev C m ρ = .ok d → ∃ ds, d = .list ds) (hs : shp L.ms m = .f) {σ : L2.St} {H : Hp} {Q : VK} (w : tD K L C m σ H Q) : tFr K L C m σ H Q := by
  obtain ⟨ρ, O, F, d, er, e, q⟩ := w
  obtain ⟨ds, rfl⟩ := hm ρ d e
  refine ⟨ρ, O, F, ds, er, e, fun a vs H' s1 na ha hz hv => q _ H' s1 ?_⟩
  rw [hs]
  refine Bd.of ?_
  rw [Dv]
  exact ⟨a, vs, rfl, ⟨by rw [← hv.len]; exact hz, .inl (.inl (hid_some.mpr ⟨fun z => er.dom a z na, ha⟩))⟩, DvA.mono (same_less fun b z => .inl z) _ _ hv⟩
theorem fr_d {e : Expr} {m : E} (hm : ∀ ρ d, ev C m ρ = .ok d → ∃ ds, d = .list ds) (hs : shp L.ms m = .f) (h : PE X e (tFr X.K L C m)) : PE X e (tD X.K L C m) := pe_imp h fun _ _ _ => fr_dR hm hs
theorem s_lc (c : Ctx X sc L C) {elt tg iter : Expr} {ifs : List Expr} {scope : Scope} {pos : Pos} {t : Tg} {mi mc me : E} (hb : blkC L.N sc scope (ownOf L.N tg) = true) (ht : cvT L scope tg = some t)
    (hi : PI X tg iter (iD X.K L C true mi)) (hs : ∀ x, foldedSetIterable iter X.env x = pure x)
    (hc : ∀ X' : Cx, X'.K = X.K → Ctx X' (inner scope sc) L C → PTs X' ifs (tDc X'.K L C mc)) (he : ∀ X' : Cx, X'.K = X.K → Ctx X' (inner scope sc) L C → PE X' elt (tD X'.K L C me)) (fe : fz L.ms me = true) :
    PE X (.ListComp elt [⟨tg, iter, ifs, 0⟩] scope pos) (tD X.K L C (.lc t mi mc me)) := fr_d (fun ρ d e => by
  simp only [ev] at e
  obtain ⟨_, _, e⟩ := bind_ok e
  obtain ⟨ys, _, e⟩ := bind_ok e
  cases e
  exact ⟨ys, rfl⟩) rfl (f_lc c hb ht hi hs hc he fe)
end
end Bk
/-! Bk: a list turned about: xs[::-1], xs[:0:-1]. -/
namespace Bk
open PySem PySem.Spec PyProof.Rows L2
theorem rv0_bounds (n : Nat) (h : 0 < n) : sliceBounds none (some 0) (some (-1)) n = ((n : Int) - 1, 0, -1) := by
  simp [sliceBounds]
  omega
theorem rv0_pick (xs : Array Value) : slicePick xs none (some 0) (some (-1)) = (xs.toList.drop 1).reverse.toArray := by
  by_cases h : xs.size = 0
  · have e : xs = #[] := Array.eq_empty_of_size_eq_zero h
    subst e
    rfl
  · have full := PySem.W.krv_pick xs
    unfold slicePick at full ⊢
    rw [rv0_bounds _ (by omega)]
    rw [PySem.W.krv_bounds] at full
    simp only at full ⊢
    have r1 : sliceRange ((xs.size : Int) - 1) (-1) (-1) = sliceRange ((xs.size : Int) - 1) 0 (-1) ++ [0] := by
      rw [PySem.W.krv_sliceRange]
      unfold sliceRange
      have h1 : ¬ ((-1 : Int) > 0) := by decide
      have e2 : (if (xs.size : Int) - 1 > 0 then ((xs.size : Int) - 1 - 0 - -1 - 1) / (- -1) else 0) = (xs.size : Int) - 1 := by
        rw [show (- -1 : Int) = 1 by decide, Int.ediv_one]
        split <;> omega
      simp only [h1, if_false, e2]
      obtain ⟨m, hm⟩ : ∃ m, xs.size = m + 1 := ⟨xs.size - 1, by omega⟩
      rw [hm, List.range_succ, List.map_append]
      have e3 : (((m + 1 : Nat) : Int) - 1).toNat = m := by omega
      rw [e3]
      congr 1
      · apply List.map_congr_left
        intro k hk
        have := List.mem_range.mp hk
        omega
      · simp
    rw [r1, List.filterMap_append] at full
    have f2 := congrArg Array.toList full
    simp only at f2
    cases hx : xs.toList with
    | nil =>
      exact absurd (by rw [← Array.length_toList, hx]; rfl) h
    | cons x r =>
      rw [hx] at f2
      have hz : xs[0]? = some x := by
        rw [← Array.getElem?_toList, hx]
        rfl
      simp only [List.filterMap_cons, hz, List.filterMap_nil, List.reverse_cons] at f2
      have f3 := List.append_cancel_right f2
      rw [f3]
      rfl
section
variable {X : Cx}
/-- xs[:0:-1] -/
def tRev0 (K : PySem.W.Frag) (te : TE) : TE := fun σ H Q => te σ H fun x H1 => ∃ a xs, x = .ref a ∧ SqL K H1 a xs ∧ ∀ p, H1 p = none → Q (.ref p) (upd H1 p (.lst (xs.drop 1).reverse))
theorem pe_rev0 {e : Expr} {te : TE} {k k2 : Nat} {p1 p2 p3 p4 pos : Pos} (he : PE X e te) : PE X (.Subscript e (.Slice none (some (.Constant (.int 0) k2 p4)) (some (.UnaryOp .USub (.Constant (.int 1) k p1) p2)) p3) pos) (tRev0 X.K te) := by
  refine ⟨fun pins s σ H Q J w => ?_⟩
  refine Subscript_ (thn (he.run pins s σ H _ J w) fun v s1 ⟨x, Ha, Ja, ra, qa⟩ => ?_)
  obtain ⟨a, xs, rfl, hx, q⟩ := qa
  cases ra
  have stp : PO X (some (.UnaryOp .USub (.Constant (.int 1) k p1) p2)) (tPart (tUn (rU fun i => .int (-i)) (tC (.int 1)))) := po_some (pe_un un_neg pe_int)
  have upp : PO X (some (.Constant (.int 0) k2 p4)) (tPart (tC (.int 0))) := po_some pe_int
  refine wpAny_Slice (thn (po_none.run pins s1 σ Ha (fun o Hb => o = none ∧ Hb = Ha) Ja ⟨rfl, rfl⟩) fun w1 s2 ⟨o1, Hb, Jb, pl, e1, e2⟩ => ?_)
  subst e1 e2
  refine thn (upp.run pins s2 σ Hb (fun o Hc => o = some 0 ∧ Hc = Hb) Jb ⟨0, rfl, rfl, rfl⟩) fun w2 s3 ⟨o2, Hc, Jc, pu, e1, e2⟩ => ?_
  subst e1 e2
  refine thn (stp.run pins s3 σ Hc (fun o Hd => o = some (-1) ∧ Hd = Hc) Jc ⟨1, rfl, -1, rfl, rfl, rfl⟩) fun w3 s4 ⟨o3, Hd, Jd, ps, e1, e2⟩ => ?_
  subst e1 e2
  have J5 : Inv X pins σ Hd { s4 with heap := s4.heap.push { cls := .type "slice", data := .fields #[w1, w2, w3] } } := Jd.kept (t' := s4.toks) fun b ob q => Heap.get?_push_of_some _ q
  obtain ⟨its, r, ht, hz⟩ := J5.list hx
  have hlen := r.length
  show wpAny (model X.prog X.w) X.A (subscriptTail e (.Slice none (some (.Constant (.int 0) k2 p4)) (some (.UnaryOp .USub (.Constant (.int 1) k p1) p2)) p3) (.ref a) (.ref s4.heap.objs.size)) (EP X pins σ Q) X.xe { s4 with heap := s4.heap.push { cls := .type "slice", data := .fields #[w1, w2, w3] } }
  refine tail_any (ops := [.ref a, .ref s4.heap.objs.size]) ht.isList.typeIs (PySem.slot_list_getitem.lookup) ?_ (by with_unfolding_all rfl)
  refine wpAny_getItem_list_slice ht.isList (Heap.IsSliceOf.new _ w1 w2 w3) pl pu ps (by decide) ?_ (by rw [List.size_toArray]; omega)
  rw [rv0_pick]
  refine ⟨.ref _, _, J5.laid (t' := s4.toks) (o := .lst (xs.drop 1).reverse) (fun b ob q => Heap.get?_push_of_some _ q) (Nat.le_refl _) ?_, rfl, q _ (J5.hok.fresh (Nat.le_refl _))⟩
  refine ⟨by rw [List.length_reverse, List.length_drop]; omega, _, 0, ?_, Heap.get?_push_size _ rfl⟩
  exact (r.drop 1).reverse
end
section
variable {X : Cx} {sc : Scope} {L : Lk} {C : Nat → List D → Res D}
theorem DvA.reverse {K : PySem.W.Frag} {H : Hp} : ∀ {ds : List D} {vs : List V}, DvA K H ds vs → DvA K H ds.reverse vs.reverse
  | [], _, h => by rw [DvA] at h; subst h; simp [DvA]
  | d :: ds, _, h => by
    rw [DvA] at h
    obtain ⟨v, r, rfl, q, t⟩ := h
    rw [List.reverse_cons, List.reverse_cons]
    refine t.reverse.append ?_
    rw [DvA]
    exact ⟨v, [], rfl, q, by rw [DvA]⟩
theorem rv_eq {lo hi : Option Expr} {st : Expr} {k : Bool} (h : rvOf lo hi st = some k) : (k = true ∧ lo = none ∧ hi = none ∧ ∃ j p1 p2, st = .UnaryOp .USub (.Constant (.int 1) j p1) p2) ∨ (k = false ∧ lo = none ∧ (∃ j2 p4, hi = some (.Constant (.int 0) j2 p4)) ∧ ∃ j p1 p2, st = .UnaryOp .USub (.Constant (.int 1) j p1) p2) := by
  unfold rvOf at h
  split at h
  · cases h
    exact .inl ⟨rfl, rfl, rfl, _, _, _, rfl⟩
  · cases h
    exact .inr ⟨rfl, rfl, ⟨_, _, rfl⟩, _, _, _, rfl⟩
  · cases h
theorem f_rv {a : Expr} {m : E} {lo hi : Option Expr} {st : Expr} {q pos : Pos} {k : Bool} (h : rvOf lo hi st = some k) (ha : PE X a (tD X.K L C m)) (hb : bz L.ms m = true) : PE X (.Subscript a (.Slice lo hi (some st) q) pos) (tFr X.K L C (if k then .rev m else .rvt m)) := by
  rcases rv_eq h with ⟨rfl, rfl, rfl, j, p1, p2, rfl⟩ | ⟨rfl, rfl, ⟨j2, p4, rfl⟩, j, p1, p2, rfl⟩
  · refine pe_imp (pe_revL ha) fun σ H Q ⟨ρ, O, F, ds, er, e, w⟩ => ?_
    rw [if_pos rfl] at e
    simp only [ev] at e
    obtain ⟨x, e1, e⟩ := bind_ok e
    refine ⟨ρ, O, F, x, er, e1, fun v H1 s1 b1 => ?_⟩
    cases x with
    | list xs =>
      cases e
      obtain ⟨a0, vs, rfl, h1, ra⟩ := bd_items hb b1
      refine ⟨a0, vs, rfl, h1.sq, fun p np => ?_⟩
      exact w p _ _ (s1.trans (same_new np)) (s1.free np) upd_same (by rw [List.length_reverse, ra.len]; exact h1.1) (DvA.mono (same_newO np) _ _ ra.reverse)
    | _ => cases e
  · refine pe_imp (pe_rev0 ha) fun σ H Q ⟨ρ, O, F, ds, er, e, w⟩ => ?_
    rw [if_neg (by decide)] at e
    simp only [ev] at e
    obtain ⟨x, e1, e⟩ := bind_ok e
    refine ⟨ρ, O, F, x, er, e1, fun v H1 s1 b1 => ?_⟩
    cases x with
    | list xs =>
      cases e
      obtain ⟨a0, vs, rfl, h1, ra⟩ := bd_items hb b1
      refine ⟨a0, vs, rfl, h1.sq, fun p np => ?_⟩
      exact w p _ _ (s1.trans (same_new np)) (s1.free np) upd_same (by rw [List.length_reverse, List.length_drop, ra.len]; have := h1.1; omega) (DvA.mono (same_newO np) _ _ (ra.drop 1).reverse)
    | _ => cases e
theorem rv_list {m : E} {k : Bool} {ρ : En} {d : D} (e : ev C (if k then .rev m else .rvt m) ρ = .ok d) : ∃ ds, d = .list ds := by
  cases k with
  | true =>
    rw [if_pos rfl] at e
    simp only [ev] at e
    obtain ⟨x, _, e⟩ := bind_ok e
    cases x <;> cases e
    exact ⟨_, rfl⟩
  | false =>
    rw [if_neg (by decide)] at e
    simp only [ev] at e
    obtain ⟨x, _, e⟩ := bind_ok e
    cases x <;> cases e
    exact ⟨_, rfl⟩
theorem rv_shp {ms : List Sh} {m : E} {k : Bool} : shp ms (if k then .rev m else .rvt m) = .f := by cases k <;> rfl
theorem s_rv {a : Expr} {m : E} {lo hi : Option Expr} {st : Expr} {q pos : Pos} {k : Bool} (h : rvOf lo hi st = some k) (ha : PE X a (tD X.K L C m)) (hb : bz L.ms m = true) : PE X (.Subscript a (.Slice lo hi (some st) q) pos) (tD X.K L C (if k then .rev m else .rvt m)) :=
  fr_d (fun _ _ e => rv_list e) rv_shp (f_rv h ha hb)
theorem cvE_rv {a : Expr} {lo hi : Option Expr} {st : Expr} {q pos : Pos} {m : E} (h : cvE L (.Subscript a (.Slice lo hi (some st) q) pos) sc = some m) : ∃ k x, rvOf lo hi st = some k ∧ cvE L a sc = some x ∧ bz L.ms x = true ∧ m = if k then .rev x else .rvt x := by
  simp only [cvE] at h
  split at h
  · rename_i k x h1 h2
    split at h
    · rename_i hz
      cases h
      exact ⟨k, x, h1, h2, hz, rfl⟩
    · cases h
  · cases h
end
end Bk
/-! Bk: the theorem of all expressions. -/
namespace Bk
open PySem PySem.Spec PyProof.Rows L2
section
variable {L : Lk} {C : Nat → List D → Res D}
theorem fold_of {e : Expr} {m : E} {sc : Scope} (h : cvE L e sc = some m) (env : Env) : ∀ x, foldedSetIterable e env x = pure x := by
  intro x
  cases e <;> first | rfl | (simp [cvE] at h)
theorem isTrue_of {e : Expr} {m : E} {sc : Scope} (h : cvE L e sc = some m) (h1 : ∀ o vs p, e ≠ .BoolOp o vs p) (h2 : ∀ a p, e ≠ .UnaryOp .Not a p) (h3 : ∀ a b c p, e ≠ .IfExp a b c p) (h4 : ∀ a b c p, e ≠ .Compare a b c p) (env : Env) :
    ∀ whole, isTrue e env whole = (do let v ← whole; standAt e.pos; holding [v] (truthy v)) := by
  intro whole
  cases e with
  | BoolOp o vs p => exact absurd rfl (h1 o vs p)
  | IfExp a b c p => exact absurd rfl (h3 a b c p)
  | Compare a b c p => exact absurd rfl (h4 a b c p)
  | UnaryOp o a p =>
    cases o with
    | Not => exact absurd rfl (h2 a p)
    | _ => rfl
  | _ => rfl
theorem cvB_fz : ∀ {vs : List Expr} {b : Bool} {m : E} {sc : Scope}, cvB L b vs sc = some m → fz L.ms m = true
  | [], b, m, sc, h => by simp [cvB] at h
  | e :: r, b, m, sc, h => by
    simp only [cvB] at h
    split at h
    · rename_i x h1 h2
      split at h
      · rename_i hz
        cases h
        rw [Bool.and_eq_true] at hz
        exact hz.2
      · cases h
    · cases h
      split <;> rfl
    · cases h
def bop (b : Bool) : BoolOp := if b then .And else .Or
theorem cvG_eq {gs : List Comprehension} {scope sc : Scope} {e m : E} (h : cvG L gs scope sc e = some m) : ∃ tg it ifs t c, gs = [⟨tg, it, ifs, 0⟩] ∧ cvT L scope tg = some t ∧ cvs L ifs (inner scope sc) = some c ∧ ifs.length ≤ 1 ∧ noIfs ifs = true ∧ blkC L.N sc scope (ownOf L.N tg) = true ∧
    ((∃ i, cvI L it sc (isTup tg) = some i ∧ m = .lc t i c e) ∨ ∃ i, cvE L it sc = some i ∧ bz L.ms i = true ∧ m = .lc t (.cons i .nil) c e) := by
  unfold cvG at h
  split at h
  · rename_i tg it ifs
    split at h
    · rename_i t i c h1 h2 h3
      split at h
      · rename_i hz
        cases h
        simp only [Bool.and_eq_true, decide_eq_true_eq] at hz
        exact ⟨tg, it, ifs, t, c, rfl, h1, h3, hz.1.1, hz.1.2, hz.2, .inl ⟨i, h2, rfl⟩⟩
      · cases h
    · rename_i t i c h1 h2 h4 h3
      split at h
      · rename_i hz
        cases h
        simp only [Bool.and_eq_true, decide_eq_true_eq] at hz
        exact ⟨tg, it, ifs, t, c, rfl, h1, h3, hz.1.1.1, hz.1.1.2, hz.1.2, .inr ⟨i, h4, hz.2, rfl⟩⟩
      · cases h
    · cases h
  · cases h
theorem isTup_eq {e : Expr} (h : isTup e = true) : ∃ es k p, e = .Tuple es k p := by
  cases e <;> first | (simp [isTup] at h; done) | exact ⟨_, _, _, rfl⟩
theorem cvs_one {cs : List Expr} {b : E} {sc : Scope} (h : cvs L cs sc = some (.cons b .nil)) : ∃ e, cs = [e] ∧ cvE L e sc = some b := by
  cases cs with
  | nil => simp [cvs] at h
  | cons e r =>
    obtain ⟨x, y, ce, cr, em⟩ := cvs_cons h
    cases em
    cases r with
    | nil => exact ⟨e, rfl, ce⟩
    | cons e2 r =>
      obtain ⟨x', y', ce', cr', em'⟩ := cvs_cons cr
      cases em'
theorem cvs_two {cs : List Expr} {b d : E} {sc : Scope} (h : cvs L cs sc = some (.cons b (.cons d .nil))) : ∃ e e', cs = [e, e'] ∧ cvE L e sc = some b ∧ cvE L e' sc = some d := by
  cases cs with
  | nil => simp [cvs] at h
  | cons e r =>
    obtain ⟨x, y, ce, cr, em⟩ := cvs_cons h
    cases em
    obtain ⟨e', rfl, ce'⟩ := cvs_one cr
    exact ⟨e, e', rfl, ce, ce'⟩
theorem cvIs_eq {es : List Expr} {m : E} {sc : Scope} (h : cvIs L es sc = some m) : ∃ a t tp x y, es = [a, .Name t tp] ∧ gloB sc t = true ∧ cvE L a sc = some x ∧ tys.lookup t = some y ∧ m = .isi x y := by
  unfold cvIs at h
  split at h
  · rename_i a t tp
    split at h
    · rename_i ht
      split at h
      · rename_i x y h1 h2
        cases h
        exact ⟨a, t, tp, x, y, rfl, ht, h1, h2, rfl⟩
      · cases h
    · cases h
  · cases h
theorem cvSS_eq {es : List Expr} {m : E} {sc : Scope} (h : cvSS L es sc = some m) (hs : isSet es = true) : ∃ a p2 q x, es = [.Call (.Name "set" p2) [a] [] q] ∧ gloB sc "set" = true ∧ cvE L a sc = some x ∧ fz L.ms x = true ∧ m = .bi .setl (.cons x .nil) := by
  unfold cvSS at h
  split at h
  · rename_i g p2 a q
    simp only [isSet, beq_iff_eq] at hs
    subst hs
    split at h
    · rename_i hg
      split at h
      · rename_i x h1
        split at h
        · rename_i hf
          cases h
          exact ⟨a, p2, q, x, rfl, hg, h1, hf, rfl⟩
        · cases h
      · cases h
    · cases h
  · cases h
theorem cvRg_eq {es : List Expr} {m : E} {sc : Scope} (h : cvRg L es sc = some m) (hs : isRg es = true) : ∃ e r p2 q, es = [.Call (.Name "range" p2) (e :: r) [] q] ∧ gloB sc "range" = true ∧ cvs L (e :: r) sc = some m := by
  unfold cvRg at h
  split at h
  · rename_i g p2 es q
    simp only [isRg, Bool.and_eq_true, beq_iff_eq] at hs
    obtain ⟨hs1, hs2⟩ := hs
    subst hs1
    split at h
    · rename_i hg
      cases es with
      | nil => simp at hs2
      | cons e r => exact ⟨e, r, p2, q, rfl, hg, h⟩
    · cases h
  · cases h
theorem isIn_eq {o : CmpOp} (h : isIn o = true) : o = .In := by
  cases o <;> first | rfl | cases h

abbrev PaE (L : Lk) (C : Nat → List D → Res D) (n : Nat) : Prop := ∀ (e : Expr) (m : E) (X : Cx) (sc : Scope), sizeOf e < n → Ctx X sc L C → cvE L e sc = some m → PE X e (tD X.K L C m)
abbrev Pas (L : Lk) (C : Nat → List D → Res D) (n : Nat) : Prop := ∀ (es : List Expr) (m : E) (X : Cx) (sc : Scope), sizeOf es < n → Ctx X sc L C → cvs L es sc = some m → PA X es (tDs X.K L C m)
abbrev PaB (L : Lk) (C : Nat → List D → Res D) (n : Nat) : Prop := ∀ (b : Bool) (vs : List Expr) (m : E) (X : Cx) (sc : Scope) (p : Pos), sizeOf vs < n → Ctx X sc L C → cvB L b vs sc = some m → PE X (.BoolOp (bop b) vs p) (tD X.K L C m)
abbrev PaT (L : Lk) (C : Nat → List D → Res D) (n : Nat) : Prop := ∀ (e : Expr) (m : E) (X : Cx) (sc : Scope), sizeOf e < n → Ctx X sc L C → cvE L e sc = some m → noIf e = true → PT X e (tDt X.K L C m)
abbrev PaW (L : Lk) (C : Nat → List D → Res D) (n : Nat) : Prop := ∀ (b : Bool) (vs : List Expr) (m : E) (X : Cx) (sc : Scope) (p : Pos), sizeOf vs < n → Ctx X sc L C → cvB L b vs sc = some m → noIfs vs = true → PW X (.BoolOp (bop b) vs p) (tDt X.K L C m)
abbrev PaI (L : Lk) (C : Nat → List D → Res D) (n : Nat) : Prop := ∀ (e : Expr) (m : E) (X : Cx) (sc : Scope) (tg : Expr) (own : Bool), sizeOf e < n → Ctx X sc L C → cvI L e sc (isTup tg) = some m → PI X tg e (iD X.K L C own m)
variable {n : Nat}
theorem st_E (ihE : PaE L C n) (ihs : Pas L C n) (ihB : PaB L C n) (ihT : PaT L C n) (ihI : PaI L C n) : PaE L C (n + 1)
  | .Name x p, m, X, sc, hn0, c, h => by
    simp only [cvE] at h
    split at h
    · rename_i hv
      simp only [Option.map_eq_some_iff] at h
      obtain ⟨i, h1, rfl⟩ := h
      exact s_var c hv h1
    · split at h
      · rename_i hg
        simp only [Option.map_eq_some_iff] at h
        obtain ⟨d, h1, rfl⟩ := h
        exact s_con c hg h1
      · cases h
  | .Constant k j p, m, X, sc, hn0, c, h => by
    simp only [cvE] at h
    exact s_k h
  | .BinOp a o b p, m, X, sc, hn0, c, h => by
    simp only [cvE] at h
    split at h
    · rename_i o' x y h1 h2 h3
      split at h
      · rename_i hz
        cases h
        rw [Bool.and_eq_true] at hz
        exact s_op h1 (ihE a x X sc (by first | (simp at hn0; omega) | (simp at hn0 ⊢; omega)) c h2) (ihE b y X sc (by first | (simp at hn0; omega) | (simp at hn0 ⊢; omega)) c h3) hz.1 hz.2
      · cases h
    · cases h
  | .UnaryOp o a p, m, X, sc, hn0, c, h => by
    cases o with
    | Not =>
      simp only [cvE, Option.map_eq_some_iff] at h
      obtain ⟨x, h1, rfl⟩ := h
      exact s_not (ihE a x X sc (by first | (simp at hn0; omega) | (simp at hn0 ⊢; omega)) c h1)
    | USub =>
      simp only [cvE, Option.map_eq_some_iff] at h
      obtain ⟨x, h1, rfl⟩ := h
      exact s_neg (ihE a x X sc (by first | (simp at hn0; omega) | (simp at hn0 ⊢; omega)) c h1)
    | _ => simp [cvE] at h
  | .BoolOp o vs p, m, X, sc, hn0, c, h => by
    cases o with
    | And => exact ihB true vs m X sc p (by first | (simp at hn0; omega) | (simp at hn0 ⊢; omega)) c (by simpa only [cvE] using h)
    | Or => exact ihB false vs m X sc p (by first | (simp at hn0; omega) | (simp at hn0 ⊢; omega)) c (by simpa only [cvE] using h)
  | .Compare l ops cs p, m, X, sc, hn0, c, h => by
    match ops, h with
    | [], h => simp [cvE] at h
    | [o], h =>
      simp only [cvE] at h
      split at h
      · rename_i hri
        rw [Bool.and_eq_true] at hri
        split at h
        · rename_i a m1 h1 h2
          cases h
          obtain ⟨e, r, p2, q, rfl, hg, ce⟩ := cvRg_eq h2 hri.2
          rw [isIn_eq hri.1]
          exact s_inr c hg ce (ihE l a X sc (by first | (simp at hn0; omega) | (simp at hn0 ⊢; omega)) c h1) (ihs (e :: r) m1 X sc (by first | (simp at hn0; omega) | (simp at hn0 ⊢; omega)) c ce)
        · cases h
      split at h
      · rename_i a b h1 h2
        cases h
        obtain ⟨e, rfl, ce⟩ := cvs_one h2
        exact s_cmp c (ihE l a X sc (by first | (simp at hn0; omega) | (simp at hn0 ⊢; omega)) c h1) (ihE e b X sc (by first | (simp at hn0; omega) | (simp at hn0 ⊢; omega)) c ce) (mark_of ce)
      · cases h
    | [o, o'], h =>
      simp only [cvE] at h
      split at h
      · rename_i a b b' h1 h2
        cases h
        obtain ⟨e, e', rfl, ce, ce'⟩ := cvs_two h2
        exact s_chn c (ihE l a X sc (by first | (simp at hn0; omega) | (simp at hn0 ⊢; omega)) c h1) (ihE e b X sc (by first | (simp at hn0; omega) | (simp at hn0 ⊢; omega)) c ce) (ihE e' b' X sc (by first | (simp at hn0; omega) | (simp at hn0 ⊢; omega)) c ce') (mark_of ce') (mark_of ce)
      · cases h
    | _ :: _ :: _ :: _, h => simp [cvE] at h
  | .IfExp t a b p, m, X, sc, hn0, c, h => by
    simp only [cvE] at h
    split at h
    · rename_i m' x y h1 h2 h3
      split at h
      · rename_i hz
        cases h
        simp only [Bool.and_eq_true] at hz
        exact s_ife (ihT t m' X sc (by first | (simp at hn0; omega) | (simp at hn0 ⊢; omega)) c h1 hz.2) (ihE a x X sc (by first | (simp at hn0; omega) | (simp at hn0 ⊢; omega)) c h2) (ihE b y X sc (by first | (simp at hn0; omega) | (simp at hn0 ⊢; omega)) c h3) hz.1.1 hz.1.2
      · cases h
    · cases h
  | .Subscript a s p, m, X, sc, hn0, c, h => by
    cases s with
    | Slice lo hi st p2 =>
      cases st with
      | none =>
        simp only [cvE] at h
        split at h
        · rename_i x l r h1 h2 h3
          split at h
          · rename_i hz
            cases h
            refine s_sl (ihE a x X sc (by first | (simp at hn0; omega) | (simp at hn0 ⊢; omega)) c h1) ?_ ?_ hz
            · cases lo with
              | none =>
                simp only [cvOp, Option.some.injEq] at h2
                subst h2
                exact o_nil
              | some e =>
                simp only [cvOp, Option.map_eq_some_iff] at h2
                obtain ⟨y, h4, rfl⟩ := h2
                exact o_some (ihE e y X sc (by first | (simp at hn0; omega) | (simp at hn0 ⊢; omega)) c h4)
            · cases hi with
              | none =>
                simp only [cvOp, Option.some.injEq] at h3
                subst h3
                exact o_nil
              | some e =>
                simp only [cvOp, Option.map_eq_some_iff] at h3
                obtain ⟨y, h4, rfl⟩ := h3
                exact o_some (ihE e y X sc (by first | (simp at hn0; omega) | (simp at hn0 ⊢; omega)) c h4)
          · cases h
        · cases h
      | some st =>
        obtain ⟨k, x, h1, h2, h3, rfl⟩ := cvE_rv h
        exact s_rv h1 (ihE a x X sc (by first | (simp at hn0; omega) | (simp at hn0 ⊢; omega)) c h2) h3
    | _ =>
      simp only [cvE, isSlice, Bool.false_eq_true, if_false] at h
      split at h
      · rename_i x y h1 h2
        cases h
        exact s_ix (ihE a x X sc (by first | (simp at hn0; omega) | (simp at hn0 ⊢; omega)) c h1) (ihE _ y X sc (by first | (simp at hn0; omega) | (simp at hn0 ⊢; omega)) c h2) rfl
      · cases h
  | .Tuple es k p, m, X, sc, hn0, c, h => by
    simp only [cvE] at h
    split at h
    · rename_i x h1
      split at h
      · rename_i hz
        cases h
        simp only [Bool.and_eq_true, decide_eq_true_eq] at hz
        exact s_tup h1 (ihs es x X sc (by first | (simp at hn0; omega) | (simp at hn0 ⊢; omega)) c h1) hz.1 hz.2
      · cases h
    · cases h
  | .List es p, m, X, sc, hn0, c, h => by
    simp only [cvE] at h
    split at h
    · rename_i x h1
      split at h
      · rename_i hz
        cases h
        simp only [Bool.and_eq_true, decide_eq_true_eq] at hz
        exact s_lst h1 (ihs es x X sc (by first | (simp at hn0; omega) | (simp at hn0 ⊢; omega)) c h1) hz.1 hz.2
      · cases h
    · cases h
  | .Call f es kws p, m, X, sc, hn0, c, h => by
    cases kws with
    | cons k ks => cases f <;> simp [cvE] at h
    | nil =>
      cases f with
      | Name f fp =>
        simp only [cvE] at h
        split at h
        · rename_i hg
          split at h
          · rename_i hf
            rw [beq_iff_eq] at hf
            subst hf
            obtain ⟨a, t, tp, x, y, rfl, ht, h1, h2, rfl⟩ := cvIs_eq h
            exact s_isi c hg ht h2 h1 (ihE a x X sc (by first | (simp at hn0; omega) | (simp at hn0 ⊢; omega)) c h1)
          split at h
          · rename_i hfs
            simp only [Bool.and_eq_true, beq_iff_eq] at hfs
            obtain ⟨hf2, hss⟩ := hfs
            subst hf2
            obtain ⟨a, p2, q, x, rfl, hg2, h1, hfz, rfl⟩ := cvSS_eq h hss
            exact s_sset c hg hg2 h1 (ihE a x X sc (by first | (simp at hn0; omega) | (simp at hn0 ⊢; omega)) c h1) hfz
          split at h
          · rename_i hfs
            simp only [Bool.and_eq_true, beq_iff_eq] at hfs
            obtain ⟨hf2, hss⟩ := hfs
            subst hf2
            simp only [Option.map_eq_some_iff] at h
            obtain ⟨m1, h2, rfl⟩ := h
            obtain ⟨e, r, p2, q, rfl, hg2, ce⟩ := cvRg_eq h2 hss
            exact s_lrg c hg hg2 ce (ihs (e :: r) m1 X sc (by first | (simp at hn0; omega) | (simp at hn0 ⊢; omega)) c ce)
          · split at h
            · rename_i k n s0 x h1 h2
              split at h
              · rename_i hz
                simp only [Bool.and_eq_true, beq_iff_eq, Bool.not_eq_true'] at hz
                cases es with
                | nil => simp at hz
                | cons a r =>
                  split at h
                  · rename_i hfz
                    cases h
                    exact s_call c hg h1 hz.1 h2 (ihs (a :: r) x X sc (by first | (simp at hn0; omega) | (simp at hn0 ⊢; omega)) c h2) hfz
                  · cases h
                    exact s_cb c hg h1 hz.1 h2 (ihs (a :: r) x X sc (by first | (simp at hn0; omega) | (simp at hn0 ⊢; omega)) c h2)
              · cases h
            · rename_i x h1 h2
              split at h
              · rename_i b hb
                split at h
                · rename_i hz
                  cases h
                  simp only [Bool.and_eq_true, Bool.not_eq_true'] at hz
                  cases es with
                  | nil => simp at hz
                  | cons a r => exact s_bi c hg hb h2 (ihs (a :: r) x X sc (by first | (simp at hn0; omega) | (simp at hn0 ⊢; omega)) c h2) hz.1
                · cases h
              · cases h
            · cases h
        · cases h
      | _ => simp [cvE] at h
  | .ListComp e gs scope p, m, X, sc, hn0, c, h => by
    simp only [cvE] at h
    split at h
    · rename_i x h1
      split at h
      · rename_i hz
        obtain ⟨tg, it, ifs, t, mc, rfl, h2, h3, h4, h5, h6, h7⟩ := cvG_eq h
        have hc : ∀ X' : Cx, X'.K = X.K → Ctx X' (inner scope sc) L C → PTs X' ifs (tDc X'.K L C mc) := fun X' _ c' => by
          cases ifs with
          | nil =>
            simp only [cvs, Option.some.injEq] at h3
            subst h3
            exact c_nil
          | cons i0 r =>
            cases r with
            | nil =>
              obtain ⟨y, z, ce, cr, em⟩ := cvs_cons h3
              simp only [cvs, Option.some.injEq] at cr
              subst cr em
              simp only [noIfs, Bool.and_true] at h5
              exact c_one (ihT i0 y X' _ (by first | (simp at hn0; omega) | (simp at hn0 ⊢; omega)) c' ce h5)
            | cons i1 r => simp at h4
        have he : ∀ X' : Cx, X'.K = X.K → Ctx X' (inner scope sc) L C → PE X' e (tD X'.K L C x) := fun X' _ c' => ihE e x X' _ (by first | (simp at hn0; omega) | (simp at hn0 ⊢; omega)) c' h1
        rcases h7 with ⟨i, h8, rfl⟩ | ⟨i, h8, h9, rfl⟩
        · exact s_lc c h6 h2 (ihI it i X sc tg true (by first | (simp at hn0; omega) | (simp at hn0 ⊢; omega)) c h8) (fun v => by
            cases it <;> first | rfl | (simp [cvI] at h8)) hc he hz
        · exact s_lc c h6 h2 (i_seq (ihE it i X sc (by first | (simp at hn0; omega) | (simp at hn0 ⊢; omega)) c h8) (by simp [h9])) (fold_of h8 X.env) hc he hz
      · cases h
    · cases h
  | .NamedExpr .., _, _, _, _, _, h => by simp [cvE] at h
  | .Lambda .., _, _, _, _, _, h => by simp [cvE] at h
  | .Dict ks vs p, m, X, sc, hn0, c, h => by
    cases ks with
    | cons k ks => simp [cvE] at h
    | nil =>
      cases vs with
      | cons v vs => simp [cvE] at h
      | nil =>
        simp only [cvE, Option.some.injEq] at h
        subst h
        refine pe_imp pe_dnewK fun σ H Q ⟨ρ, O, F, d, er, e, q⟩ p np => ?_
        simp only [ev] at e
        cases e
        refine q _ _ (same_new np) (Bd.of ?_)
        rw [Dv]
        exact ⟨p, rfl, .inl ⟨[], hid_some.mpr ⟨fun z => er.dom p z np, upd_same⟩, by rw [DvK]⟩⟩
  | .Set .., _, _, _, _, _, h => by simp [cvE] at h
  | .SetComp .., _, _, _, _, _, h => by simp [cvE] at h
  | .DictComp .., _, _, _, _, _, h => by simp [cvE] at h
  | .GeneratorExp .., _, _, _, _, _, h => by simp [cvE] at h
  | .Await .., _, _, _, _, _, h => by simp [cvE] at h
  | .Yield .., _, _, _, _, _, h => by simp [cvE] at h
  | .YieldFrom .., _, _, _, _, _, h => by simp [cvE] at h
  | .FormattedValue .., _, _, _, _, _, h => by simp [cvE] at h
  | .JoinedStr .., _, _, _, _, _, h => by simp [cvE] at h
  | .Attribute .., _, _, _, _, _, h => by simp [cvE] at h
  | .Starred .., _, _, _, _, _, h => by simp [cvE] at h
  | .Slice .., _, _, _, _, _, h => by simp [cvE] at h
theorem st_s (ihE : PaE L C n) (ihs : Pas L C n) : Pas L C (n + 1)
  | [], m, X, sc, hn0, c, h => by
    simp only [cvs, Option.some.injEq] at h
    subst h
    exact a_nil
  | e :: r, m, X, sc, hn0, c, h => by
    obtain ⟨a, b, h1, h2, rfl⟩ := cvs_cons h
    exact a_cons (ihE e a X sc (by first | (simp at hn0; omega) | (simp at hn0 ⊢; omega)) c h1) (ihs r b X sc (by first | (simp at hn0; omega) | (simp at hn0 ⊢; omega)) c h2) (star_of h1 r X.env)
theorem st_B (ihE : PaE L C n) (ihB : PaB L C n) : PaB L C (n + 1)
  | b, [], m, X, sc, p, hn0, c, h => by simp [cvB] at h
  | b, [e], m, X, sc, p, hn0, c, h => by
    simp only [cvB] at h
    split at h
    · rename_i x h1 h2
      split at h
      · cases h
        exact pe_one (ihE e m X sc (by first | (simp at hn0; omega) | (simp at hn0 ⊢; omega)) c h1)
      · cases h
    · rename_i x y h1 h2
      cases h2
    · cases h
  | b, e :: e2 :: r, m, X, sc, p, hn0, c, h => by
    rw [cvB] at h
    split at h
    · rename_i x h1 h2
      simp at h
    · rename_i x y h1 h2
      cases h
      have f := cvB_fz h2
      cases b with
      | true => exact s_and (ihE e x X sc (by first | (simp at hn0; omega) | (simp at hn0 ⊢; omega)) c h1) (ihB true (e2 :: r) y X sc p (by first | (simp at hn0; omega) | (simp at hn0 ⊢; omega)) c h2) f
      | false => exact s_or (ihE e x X sc (by first | (simp at hn0; omega) | (simp at hn0 ⊢; omega)) c h1) (ihB false (e2 :: r) y X sc p (by first | (simp at hn0; omega) | (simp at hn0 ⊢; omega)) c h2) f
    · cases h
theorem st_T (ihE : PaE L C n) (ihs : Pas L C n) (ihE' : PaE L C (n + 1)) (ihT : PaT L C n) (ihW : PaW L C n) : PaT L C (n + 1)
  | .BoolOp o vs p, m, X, sc, hn0, c, h, hn => by
    simp only [noIf] at hn
    cases o with
    | And => exact (ihW true vs m X sc p (by first | (simp at hn0; omega) | (simp at hn0 ⊢; omega)) c (by simpa only [cvE] using h) hn).pt
    | Or => exact (ihW false vs m X sc p (by first | (simp at hn0; omega) | (simp at hn0 ⊢; omega)) c (by simpa only [cvE] using h) hn).pt
  | .UnaryOp o a p, m, X, sc, hn0, c, h, hn => by
    cases o with
    | Not =>
      simp only [cvE, Option.map_eq_some_iff] at h
      obtain ⟨x, h1, rfl⟩ := h
      exact t_not (ihT a x X sc (by first | (simp at hn0; omega) | (simp at hn0 ⊢; omega)) c h1 (by simpa only [noIf] using hn))
    | USub => exact t_val (ihE' (.UnaryOp .USub a p) m X sc hn0 c h) (fun _ => rfl)
    | _ => simp [cvE] at h
  | .Compare l ops cs p, m, X, sc, hn0, c, h, hn => by
    match ops, h with
    | [], h => simp [cvE] at h
    | [o], h =>
      simp only [cvE] at h
      split at h
      · rename_i hri
        rw [Bool.and_eq_true] at hri
        split at h
        · rename_i a m1 h1 h2
          cases h
          obtain ⟨e, r, p2, q, rfl, hg, ce⟩ := cvRg_eq h2 hri.2
          rw [isIn_eq hri.1]
          exact t_inr c hg ce (ihE l a X sc (by first | (simp at hn0; omega) | (simp at hn0 ⊢; omega)) c h1) (ihs (e :: r) m1 X sc (by first | (simp at hn0; omega) | (simp at hn0 ⊢; omega)) c ce)
        · cases h
      split at h
      · rename_i a b h1 h2
        cases h
        obtain ⟨e, rfl, ce⟩ := cvs_one h2
        exact t_cmp c (ihE l a X sc (by first | (simp at hn0; omega) | (simp at hn0 ⊢; omega)) c h1) (ihE e b X sc (by first | (simp at hn0; omega) | (simp at hn0 ⊢; omega)) c ce) (mark_of ce)
      · cases h
    | [o, o'], h =>
      simp only [cvE] at h
      split at h
      · rename_i a b b' h1 h2
        cases h
        obtain ⟨e, e', rfl, ce, ce'⟩ := cvs_two h2
        exact t_chn c (ihE l a X sc (by first | (simp at hn0; omega) | (simp at hn0 ⊢; omega)) c h1) (ihE e b X sc (by first | (simp at hn0; omega) | (simp at hn0 ⊢; omega)) c ce) (ihE e' b' X sc (by first | (simp at hn0; omega) | (simp at hn0 ⊢; omega)) c ce') (mark_of ce')
      · cases h
    | _ :: _ :: _ :: _, h => simp [cvE] at h
  | .IfExp .., m, X, sc, hn0, c, h, hn => by simp [noIf] at hn
  | .Name x p, m, X, sc, hn0, c, h, hn => t_val (ihE' (.Name x p) m X sc hn0 c h) (fun _ => rfl)
  | .Constant x j p, m, X, sc, hn0, c, h, hn => t_val (ihE' (.Constant x j p) m X sc hn0 c h) (fun _ => rfl)
  | .BinOp a o b p, m, X, sc, hn0, c, h, hn => t_val (ihE' (.BinOp a o b p) m X sc hn0 c h) (fun _ => rfl)
  | .Subscript a i p, m, X, sc, hn0, c, h, hn => t_val (ihE' (.Subscript a i p) m X sc hn0 c h) (fun _ => rfl)
  | .Tuple es k p, m, X, sc, hn0, c, h, hn => t_val (ihE' (.Tuple es k p) m X sc hn0 c h) (fun _ => rfl)
  | .List es p, m, X, sc, hn0, c, h, hn => t_val (ihE' (.List es p) m X sc hn0 c h) (fun _ => rfl)
  | .Call f es ks p, m, X, sc, hn0, c, h, hn => t_val (ihE' (.Call f es ks p) m X sc hn0 c h) (fun _ => rfl)
  | .ListComp a gs s p, m, X, sc, hn0, c, h, hn => t_val (ihE' (.ListComp a gs s p) m X sc hn0 c h) (fun _ => rfl)
  | .NamedExpr .., m, X, sc, hn0, c, h, hn => by simp [cvE] at h
  | .Lambda .., m, X, sc, hn0, c, h, hn => by simp [cvE] at h
  | .Dict ks vs p, m, X, sc, hn0, c, h, hn => t_val (ihE' (.Dict ks vs p) m X sc hn0 c h) (fun _ => rfl)
  | .Set .., m, X, sc, hn0, c, h, hn => by simp [cvE] at h
  | .SetComp .., m, X, sc, hn0, c, h, hn => by simp [cvE] at h
  | .DictComp .., m, X, sc, hn0, c, h, hn => by simp [cvE] at h
  | .GeneratorExp .., m, X, sc, hn0, c, h, hn => by simp [cvE] at h
  | .Await .., m, X, sc, hn0, c, h, hn => by simp [cvE] at h
  | .Yield .., m, X, sc, hn0, c, h, hn => by simp [cvE] at h
  | .YieldFrom .., m, X, sc, hn0, c, h, hn => by simp [cvE] at h
  | .FormattedValue .., m, X, sc, hn0, c, h, hn => by simp [cvE] at h
  | .JoinedStr .., m, X, sc, hn0, c, h, hn => by simp [cvE] at h
  | .Attribute .., m, X, sc, hn0, c, h, hn => by simp [cvE] at h
  | .Starred .., m, X, sc, hn0, c, h, hn => by simp [cvE] at h
  | .Slice .., m, X, sc, hn0, c, h, hn => by simp [cvE] at h
theorem st_W (ihT : PaT L C n) (ihW : PaW L C n) : PaW L C (n + 1)
  | b, [], m, X, sc, p, hn0, c, h, hn => by simp [cvB] at h
  | b, [e], m, X, sc, p, hn0, c, h, hn => by
    simp only [noIfs, Bool.and_true] at hn
    simp only [cvB] at h
    split at h
    · rename_i x h1 h2
      split at h
      · cases h
        cases b with
        | true => exact pw_and1 (ihT e m X sc (by first | (simp at hn0; omega) | (simp at hn0 ⊢; omega)) c h1 hn)
        | false => exact pw_or1 (ihT e m X sc (by first | (simp at hn0; omega) | (simp at hn0 ⊢; omega)) c h1 hn)
      · cases h
    · rename_i x y h1 h2
      cases h2
    · cases h
  | b, e :: e2 :: r, m, X, sc, p, hn0, c, h, hn => by
    rw [noIfs, Bool.and_eq_true] at hn
    rw [cvB] at h
    split at h
    · rename_i x h1 h2
      simp at h
    · rename_i x y h1 h2
      cases h
      cases b with
      | true => exact t_and (ihT e x X sc (by first | (simp at hn0; omega) | (simp at hn0 ⊢; omega)) c h1 hn.1) (ihW true (e2 :: r) y X sc p (by first | (simp at hn0; omega) | (simp at hn0 ⊢; omega)) c h2 hn.2)
      | false => exact t_or (ihT e x X sc (by first | (simp at hn0; omega) | (simp at hn0 ⊢; omega)) c h1 hn.1) (ihW false (e2 :: r) y X sc p (by first | (simp at hn0; omega) | (simp at hn0 ⊢; omega)) c h2 hn.2)
    · cases h
theorem st_I (ihs : Pas L C n) : PaI L C (n + 1)
  | .Call f es kws p, m, X, sc, tg, own, hn0, c, h => by
    cases kws with
    | cons k ks => cases f <;> simp [cvI] at h
    | nil =>
    cases f with
    | Name f fp =>
      simp only [cvI] at h
      split at h
      · rename_i hf
        rw [beq_iff_eq] at hf
        subst hf
        split at h
        · rename_i hg
          simp only [Option.map_eq_some_iff] at h
          obtain ⟨x, h1, rfl⟩ := h
          exact i_rng c hg h1 (ihs es x X sc (by first | (simp at hn0; omega) | (simp at hn0 ⊢; omega)) c h1)
        · cases h
      · split at h
        · rename_i hf
          rw [beq_iff_eq] at hf
          subst hf
          split at h
          · rename_i hg
            rw [Bool.and_eq_true] at hg
            split at h
            · rename_i a h1
              split at h
              · rename_i hz
                cases h
                obtain ⟨elts, kk, tp, rfl⟩ := isTup_eq hg.2
                obtain ⟨e0, rfl, ce⟩ := cvs_one h1
                exact i_enm c hg.1 h1 (ihs [e0] _ X sc (by first | (simp at hn0; omega) | (simp at hn0 ⊢; omega)) c h1) hz
              · cases h
            · cases h
          · cases h
        · split at h
          · rename_i hf
            rw [beq_iff_eq] at hf
            subst hf
            split at h
            · rename_i hg
              rw [Bool.and_eq_true] at hg
              split at h
              · rename_i a b h1
                split at h
                · rename_i hz
                  cases h
                  obtain ⟨elts, kk, tp, rfl⟩ := isTup_eq hg.2
                  obtain ⟨e0, e1, rfl, ce, ce'⟩ := cvs_two h1
                  exact i_zip c hg.1 h1 (ihs [e0, e1] _ X sc (by first | (simp at hn0; omega) | (simp at hn0 ⊢; omega)) c h1) hz
                · cases h
              · cases h
            · cases h
          · cases h
    | _ => simp [cvI] at h
  | .BoolOp .., m, X, sc, tg, own, hn0, c, h => by simp [cvI] at h
  | .NamedExpr .., m, X, sc, tg, own, hn0, c, h => by simp [cvI] at h
  | .BinOp .., m, X, sc, tg, own, hn0, c, h => by simp [cvI] at h
  | .UnaryOp .., m, X, sc, tg, own, hn0, c, h => by simp [cvI] at h
  | .Lambda .., m, X, sc, tg, own, hn0, c, h => by simp [cvI] at h
  | .IfExp .., m, X, sc, tg, own, hn0, c, h => by simp [cvI] at h
  | .Dict .., m, X, sc, tg, own, hn0, c, h => by simp [cvI] at h
  | .Set .., m, X, sc, tg, own, hn0, c, h => by simp [cvI] at h
  | .ListComp .., m, X, sc, tg, own, hn0, c, h => by simp [cvI] at h
  | .SetComp .., m, X, sc, tg, own, hn0, c, h => by simp [cvI] at h
  | .DictComp .., m, X, sc, tg, own, hn0, c, h => by simp [cvI] at h
  | .GeneratorExp .., m, X, sc, tg, own, hn0, c, h => by simp [cvI] at h
  | .Await .., m, X, sc, tg, own, hn0, c, h => by simp [cvI] at h
  | .Yield .., m, X, sc, tg, own, hn0, c, h => by simp [cvI] at h
  | .YieldFrom .., m, X, sc, tg, own, hn0, c, h => by simp [cvI] at h
  | .Compare .., m, X, sc, tg, own, hn0, c, h => by simp [cvI] at h
  | .FormattedValue .., m, X, sc, tg, own, hn0, c, h => by simp [cvI] at h
  | .JoinedStr .., m, X, sc, tg, own, hn0, c, h => by simp [cvI] at h
  | .Constant .., m, X, sc, tg, own, hn0, c, h => by simp [cvI] at h
  | .Attribute .., m, X, sc, tg, own, hn0, c, h => by simp [cvI] at h
  | .Subscript .., m, X, sc, tg, own, hn0, c, h => by simp [cvI] at h
  | .Starred .., m, X, sc, tg, own, hn0, c, h => by simp [cvI] at h
  | .Name .., m, X, sc, tg, own, hn0, c, h => by simp [cvI] at h
  | .List .., m, X, sc, tg, own, hn0, c, h => by simp [cvI] at h
  | .Tuple .., m, X, sc, tg, own, hn0, c, h => by simp [cvI] at h
  | .Slice .., m, X, sc, tg, own, hn0, c, h => by simp [cvI] at h
theorem snd_all : ∀ n : Nat, PaE L C n ∧ Pas L C n ∧ PaB L C n ∧ PaT L C n ∧ PaW L C n ∧ PaI L C n
  | 0 => ⟨fun _ _ _ _ h => absurd h (Nat.not_lt_zero _), fun _ _ _ _ h => absurd h (Nat.not_lt_zero _), fun _ _ _ _ _ _ h => absurd h (Nat.not_lt_zero _), fun _ _ _ _ h => absurd h (Nat.not_lt_zero _),
      fun _ _ _ _ _ _ h => absurd h (Nat.not_lt_zero _), fun _ _ _ _ _ _ h => absurd h (Nat.not_lt_zero _)⟩
  | n + 1 => by
    obtain ⟨h1, h2, h3, h4, h5, h6⟩ := snd_all n
    have e1 := st_E h1 h2 h3 h4 h6
    exact ⟨e1, st_s h1 h2, st_B h1 h3, st_T h1 h2 e1 h4 h5, st_W h4 h5, st_I h2⟩
theorem snd {e : Expr} {m : E} {X : Cx} {sc : Scope} (c : Ctx X sc L C) (h : cvE L e sc = some m) : PE X e (tD X.K L C m) := (snd_all (sizeOf e + 1)).1 e m X sc (Nat.lt_succ_self _) c h
theorem snds {es : List Expr} {m : E} {X : Cx} {sc : Scope} (c : Ctx X sc L C) (h : cvs L es sc = some m) : PA X es (tDs X.K L C m) := (snd_all (sizeOf es + 1)).2.1 es m X sc (Nat.lt_succ_self _) c h
theorem sndT {e : Expr} {m : E} {X : Cx} {sc : Scope} (c : Ctx X sc L C) (h : cvE L e sc = some m) (hn : noIf e = true) : PT X e (tDt X.K L C m) := (snd_all (sizeOf e + 1)).2.2.2.1 e m X sc (Nat.lt_succ_self _) c h hn
theorem sndI {e : Expr} {m : E} {X : Cx} {sc : Scope} {tg : Expr} {own : Bool} (c : Ctx X sc L C) (h : cvI L e sc (isTup tg) = some m) : PI X tg e (iD X.K L C own m) := (snd_all (sizeOf e + 1)).2.2.2.2.2 e m X sc tg own (Nat.lt_succ_self _) c h
end
end Bk
/-! Bk: lists of a body's own that are changed in place; expressions whose list is new. -/
namespace Bk
open PySem PySem.Spec PyProof.Rows L2
/-- from v along the places js: w -/
def PathAt (H : Hp) : List Int → V → V → Prop
  | [], v, w => w = v
  | j :: r, v, w => ∃ a vs u, v = .ref a ∧ H a = some (.lst vs) ∧ vs[pl vs.length j]? = some u ∧ PathAt H r u w
theorem PathAt.mono {H H' : Hp} (s : Same H H') : ∀ {js : List Int} {v w : V}, PathAt H js v w → PathAt H' js v w
  | [], _, _, h => h
  | j :: r, _, _, h => let ⟨a, vs, u, e, h1, h2, h3⟩ := h; ⟨a, vs, u, e, s _ _ h1, h2, h3.mono s⟩
theorem PathAt.snoc {H : Hp} {j : Int} : ∀ {js : List Int} {v w : V} {a : Addr} {vs : List V} {u : V}, PathAt H js v w → w = .ref a → H a = some (.lst vs) → vs[pl vs.length j]? = some u → PathAt H (js ++ [j]) v u
  | [], _, _, a, vs, u, h, e, h1, h2 => ⟨a, vs, u, h.symm.trans e, h1, h2, rfl⟩
  | k :: r, _, _, a, vs, u, h, e, h1, h2 => let ⟨b, us, z, e0, h3, h4, h5⟩ := h; ⟨b, us, z, e0, h3, h4, PathAt.snoc h5 e h1 h2⟩
def dAt : List Int → D → Option D
  | [], d => some d
  | j :: r, .list xs => match xs[pl xs.length j]? with
    | some d => dAt r d
    | none => none
  | _, _ => none
def shAt : List Int → Sh → Sh
  | [], s => s
  | _ :: r, .l s => shAt r s
  | _ :: _, .f => .f
section
variable {K : PySem.W.Frag}
/-- what is owned along a path -/
theorem own_at {H : Hp} {O : Ps} : ∀ {js : List Int} {sh s : Sh} {d d1 : D} {v : V} {fp : Ps}, Own K H O sh d v fp → shAt js sh = .l s → dAt js d = some d1 → ∃ (w : V) (fp1 : Ps), PathAt H js v w ∧ (∀ a, fp1 a → fp a) ∧ Own K H O (.l s) d1 w fp1
  | [], sh, s, d, d1, v, fp, h, hs, hd => by
    simp only [shAt] at hs
    simp only [dAt, Option.some.injEq] at hd
    subst hs hd
    exact ⟨v, fp, rfl, fun _ z => z, h⟩
  | j :: r, sh, s, d, d1, v, fp, h, hs, hd => by
    cases sh with
    | f => simp [shAt] at hs
    | l sh =>
      simp only [shAt] at hs
      obtain ⟨a, vs, ds, g, rfl, rfl, ha, hl, hi, h1, h2, h3⟩ := h
      simp only [dAt] at hd
      split at hd
      · rename_i x hx
        have hlt := (List.getElem?_eq_some_iff.mp hx).1
        obtain ⟨u, hu⟩ : ∃ u, vs[pl ds.length j]? = some u := ⟨vs[pl ds.length j]'(by have := hl.1; omega), by simp⟩
        obtain ⟨w, fp1, p1, p2, p3⟩ := own_at (hi _ x u hx hu) hs hd
        exact ⟨w, fp1, ⟨a, vs, u, rfl, ha, by rw [hl.1]; exact hu, p1⟩, fun b z => (h3 b).mpr (.inr ⟨_, hlt, p2 b z⟩), p3⟩
      · cases hd
theorem hid_upd {H : Hp} {O : Ps} {a : Addr} {o : HO} (h : O a) : hid (upd H a o) O = hid H O := by
  funext b
  unfold hid
  by_cases hb : O b
  · rw [if_pos hb, if_pos hb]
  · rw [if_neg hb, if_neg hb, upd_ne (fun e => hb (by rw [e]; exact h))]
/-- another owned list is changed -/
theorem Own.upd {H : Hp} {O : Ps} {a : Addr} {o : HO} (ho : O a) : ∀ {s : Sh} {d : D} {v : V} {fp : Ps}, Own K H O s d v fp → ¬ fp a → Own K (L2.upd H a o) O s d v fp
  | .f, d, v, fp, h, _ => by
    unfold Own at h ⊢
    rw [hid_upd ho]
    exact h
  | .l s, d, v, fp, h, hn => by
    obtain ⟨b, vs, ds, g, e1, e2, hb, hl, hi, h1, h2, h3⟩ := h
    refine ⟨b, vs, ds, g, e1, e2, ?_, hl, fun i x y q r => ?_, h1, h2, h3⟩
    · rw [upd_ne (fun e => hn (by rw [← e]; exact (h3 b).mpr (.inl rfl)))]
      exact hb
    · exact Own.upd ho (hi i x y q r) fun z => hn ((h3 a).mpr (.inr ⟨i, (List.getElem?_eq_some_iff.mp q).1, z⟩))
/-- the list at a path's end gets other frozen items -/
theorem own_turn {H : Hp} {O : Ps} {f : D → Res D} {a : Addr} {us : List V} {es : List D} (hO : ∀ b, (b = a → O b)) (hu : DvA K (hid H O) es us) (hz : us.length ≤ sizeLine) : ∀ {js : List Int} {sh : Sh} {d d' : D} {v : V} {fp : Ps}, Own K H O sh d v fp → shAt js sh = .l .f →
    PathAt H js v (.ref a) → turnD f js d = .ok d' → (∀ d1, dAt js d = some d1 → f d1 = .ok (.list es)) → Own K (upd H a (.lst us)) O sh d' v fp
  | [], sh, d, d', v, fp, h, hs, hp, ht, hf => by
    simp only [shAt] at hs
    subst hs
    obtain ⟨b, vs, ds, g, rfl, rfl, hb, hl, hi, h1, h2, h3⟩ := h
    have e : a = b := V.ref.inj (show V.ref a = V.ref b from hp)
    subst e
    have e2 := hf _ rfl
    simp only [turnD] at ht
    rw [e2] at ht
    cases ht
    refine ⟨a, us, es, fun _ _ => False, rfl, rfl, upd_same, ⟨hu.len.symm, hz⟩, fun i x y q r => ⟨fun _ z => z, ?_⟩, fun _ _ _ z => z.elim, fun _ _ z => z.elim, fun c => ?_⟩
    · rw [hid_upd (hO a rfl)]
      obtain ⟨w, hw, dw⟩ := hu.get q
      rw [hw] at r
      cases r
      exact dw
    · rw [h3 c]
      refine ⟨fun z => ?_, fun z => ?_⟩
      · rcases z with z | ⟨i, hi', z⟩
        · exact .inl z
        · have : i < vs.length := by have := hl.1; omega
          exact absurd z ((hi i ds[i] vs[i] (by simp [hi']) (by simp)).1 c)
      · rcases z with z | ⟨i, _, z⟩
        · exact .inl z
        · exact z.elim
  | j :: r, sh, d, d', v, fp, h, hs, hp, ht, hf => by
    cases sh with
    | f => simp [shAt] at hs
    | l sh =>
      simp only [shAt] at hs
      obtain ⟨b, vs, ds, g, rfl, rfl, hb, hl, hi, h1, h2, h3⟩ := h
      obtain ⟨b', vs', u, eb, hb', hu', hp'⟩ := hp
      cases eb
      rw [hb] at hb'
      cases hb'
      simp only [turnD] at ht
      split at ht
      · rename_i x hx
        obtain ⟨x', e1, ht⟩ := bind_ok ht
        cases ht
        have hlt := (List.getElem?_eq_some_iff.mp hx).1
        have hx' : vs[pl ds.length j]? = some u := by rw [← hl.1]; exact hu'
        have ow := hi _ x u hx hx'
        obtain ⟨d1, hd1⟩ : ∃ d1, dAt r x = some d1 := by
          have gen : ∀ (js : List Int) (y y' : D), turnD f js y = .ok y' → ∃ d1, dAt js y = some d1 := by
            intro js
            induction js with
            | nil => intro y y' _; exact ⟨y, rfl⟩
            | cons k t ih =>
              intro y y' q
              cases y with
              | list zs =>
                simp only [turnD] at q
                split at q
                · rename_i z hz
                  obtain ⟨z', q1, q⟩ := bind_ok q
                  obtain ⟨d1, q2⟩ := ih z z' q1
                  exact ⟨d1, by simp only [dAt, hz, q2]⟩
                · cases q
              | _ => simp [turnD] at q
          exact gen r x x' e1
        obtain ⟨w, fp1, p1, p2, p3⟩ := own_at ow hs hd1
        -- the list that is changed is within the part
        have same : ∀ {js : List Int} {v w w' : V}, PathAt H js v w → PathAt H js v w' → w = w' := by
          intro js
          induction js with
          | nil => intro v w w' q q'; exact q.trans q'.symm
          | cons k t ih =>
            intro v w w' q q'
            obtain ⟨c, ws, z, ec, hc, hz, q⟩ := q
            obtain ⟨c', ws', z', ec', hc', hz', q'⟩ := q'
            rw [ec] at ec'
            cases ec'
            rw [hc] at hc'
            cases hc'
            rw [hz] at hz'
            cases hz'
            exact ih q q'
        have ew := same p1 hp'
        subst ew
        have ga : g (pl ds.length j) a := p2 a (by
          obtain ⟨c, _, _, _, ec, _, _, _, _, _, _, h9⟩ := p3
          cases ec
          exact (h9 a).mpr (.inl rfl))
        have ih := own_turn hO hu hz ow hs hp' e1 fun d1 q => hf d1 (by simp only [dAt, hx, q])
        refine ⟨b, vs, ds.set (pl ds.length j) x', g, rfl, rfl, ?_, by rw [List.length_set]; exact hl, fun i y z q r => ?_, h1, h2, fun c => by rw [h3 c, List.length_set]⟩
        · rw [upd_ne (fun e => h2 _ a ga e.symm)]
          exact hb
        · by_cases hi0 : pl ds.length j = i
          · subst hi0
            rw [List.getElem?_set_self hlt] at q
            cases q
            rw [hx'] at r
            cases r
            exact ih
          · rw [List.getElem?_set_ne hi0] at q
            exact Own.upd (hO a rfl) (hi i y z q r) fun w => hi0 (h1 _ _ a ga w)
      · cases ht
end
section
variable {X : Cx} {sc : Scope} {L : Lk} {C : Nat → List D → Res D}
theorem f_lst {es : List Expr} {m : E} {pos : Pos} (h : cvs L es sc = some m) (ha : PA X es (tDs X.K L C m)) (hf : fzs L.ms m = true) (hl : es.length ≤ 1000) : PE X (.List es pos) (tFr X.K L C (.lst m)) := by
  refine pe_imp (pe_lst ha) fun σ H Q ⟨ρ, O, F, d, er, e, q⟩ => ?_
  simp only [ev] at e
  obtain ⟨ds, e1, e⟩ := bind_ok e
  cases e
  refine ⟨ρ, O, F, d, er, e1, fun vs H1 s1 h1 h2 => ⟨?_, fun p np => ?_⟩⟩
  · rw [← h1.len, evs_len h e1]
    exact small_line hl
  · exact q p vs _ (s1.trans (same_new np)) (s1.free np) upd_same (by rw [evs_len h e1]; exact small_line hl) (DvA.mono (same_newO np) _ _ (h2 hf))
theorem f_add {a b : Expr} {ma mb : E} {pos : Pos} (ha : PE X a (tD X.K L C ma)) (hb : PE X b (tD X.K L C mb)) (fa : fz L.ms ma = true) (fb : fz L.ms mb = true) : PE X (.BinOp a .Add b pos) (tFr X.K L C (.op .add ma mb)) := by
  refine pe_imp (pe_op op_catS ha hb) fun σ H Q ⟨ρ, O, F, ds, er, e, q⟩ => ?_
  refine t2 (Q := Q) er e fun x y v u H2 g s2 b1 b2 => ?_
  simp only [opD, addD] at g
  split at g
  · cases g
  · obtain ⟨hz, g⟩ := Res.ok_if g
    cases g
    obtain ⟨l, vs, rfl, hl, ra⟩ := dv_list (bd_fz b1 fa) rfl
    obtain ⟨r, us, rfl, hr, rb⟩ := dv_list (bd_fz b2 fb) rfl
    refine ⟨l, r, vs, us, rfl, rfl, hid_sqm hl, hid_sqm hr, by rw [← ra.len, ← rb.len, most_eq]; exact hz, fun p np => ?_⟩
    exact q p _ _ (s2.trans (same_new np)) (s2.free np) upd_same (by rw [List.length_append, most_eq]; exact hz) (DvA.mono (same_newO np) _ _ (ra.append rb))
  · obtain ⟨hz, g⟩ := Res.ok_if g
    cases g
  · obtain ⟨hz, g⟩ := Res.ok_if g
    cases g
  · cases g
theorem f_mul {a b : Expr} {ma mb : E} {pos : Pos} (ha : PE X a (tD X.K L C ma)) (hb : PE X b (tD X.K L C mb)) (fa : fz L.ms ma = true) (fb : fz L.ms mb = true) : PE X (.BinOp a .Mult b pos) (tFr X.K L C (.op .mul ma mb)) := by
  refine pe_imp (pe_op op_repS ha hb) fun σ H Q ⟨ρ, O, F, ds, er, e, q⟩ => ?_
  refine t2 (Q := Q) er e fun x y v u H2 g s2 b1 b2 => ?_
  simp only [opD, mulD] at g
  split at g
  · obtain ⟨hz, g⟩ := Res.ok_if g
    cases g
  · rename_i xs k
    obtain ⟨hz, g⟩ := Res.ok_if g
    cases g
    simp only [Bool.and_eq_true, decide_eq_true_eq] at hz
    obtain ⟨l, vs, rfl, hl, ra⟩ := dv_list (bd_fz b1 fa) rfl
    have rep : ∀ n : Nat, DvA X.K (hid H2 O) (List.replicate n xs).flatten (List.replicate n vs).flatten := by
      intro n
      induction n with
      | zero => simp [DvA]
      | succ n ih =>
        rw [List.replicate_succ, List.flatten_cons, List.replicate_succ, List.flatten_cons]
        exact ra.append ih
    refine ⟨l, k, vs, rfl, dv_int b2.all rfl, hid_sqm hl, hz.1.1, hz.1.2, by rw [← ra.len, most_eq]; exact hz.2, fun p np => ?_⟩
    exact q p _ _ (s2.trans (same_new np)) (s2.free np) upd_same (by rw [PyProof.Rows.lm_len_rep_flat, Nat.mul_comm, most_eq]; exact hz.2) (DvA.mono (same_newO np) _ _ (rep _))
  · cases g
theorem f_sl {a : Expr} {lo hi : Option Expr} {ma ml mh : E} {pos p2 : Pos} (ha : PE X a (tD X.K L C ma)) (hl : PO X lo (tDo X.K L C ml)) (hh : PO X hi (tDo X.K L C mh)) (hb : bz L.ms ma = true) :
    PE X (.Subscript a (.Slice lo hi none p2) pos) (tFr X.K L C (.sl ma ml mh)) := by
  refine pe_imp (pe_slice sl_list ha hl hh) fun σ H Q ⟨ρ, O, F, ds, er, e, q⟩ => ?_
  simp only [ev] at e
  obtain ⟨x, e1, e⟩ := bind_ok e
  obtain ⟨i, e2, e⟩ := bind_ok e
  obtain ⟨j, e3, e⟩ := bind_ok e
  refine ⟨ρ, O, F, x, er, e1, fun v H1 s1 b1 => ⟨ρ, O, F, i, er.mono s1, e2, fun H2 s2 => ⟨ρ, O, F, j, (er.mono s1).mono s2, e3, fun H3 s3 => ?_⟩⟩⟩
  have b3 := (b1.mono s2).mono s3
  cases x with
  | list xs =>
    cases e
    obtain ⟨a0, vs, rfl, h1, ra⟩ := bd_items hb b3
    refine ⟨a0, vs, rfl, h1.sq, fun p np => ?_⟩
    exact q p _ _ (((s1.trans s2).trans s3).trans (same_new np)) (((s1.trans s2).trans s3).free np) upd_same (cutL_line (by rw [ra.len]; exact h1.1) i j) (DvA.mono (same_newO np) _ _ (cutL_dv ra i j))
  | _ => cases e
theorem f_call (c : Ctx X sc L C) {e : Expr} {es : List Expr} {f : Str} {k n : Nat} {s0 : Sh} {m : E} {p pos : Pos} (hg : gloB sc f = true) (hk : L.ids.lookup f = some (k, n, s0)) (hn : n = (e :: es).length) (h : cvs L (e :: es) sc = some m)
    (ha : PA X (e :: es) (tDs X.K L C m)) (hf : fzs L.ms m = true) (hr : s0 = .l .f) : PE X (.Call (.Name f p) (e :: es) [] pos) (tFr X.K L C (.call k m)) := by
  obtain ⟨CX, fa, fd, ps, lv, h1, h2, h3, h4, h5, h6, h7⟩ := c.fns f k n s0 hk
  obtain ⟨g1, g2⟩ := glob_of c hg
  obtain ⟨a, b, ce, cr, em⟩ := cvs_cons h
  refine pe_imp (pe_fk h4 h5 c.grd h6 (h7 X rfl rfl) g1 h1 h2 ha g2 (star_of ce es X.env) (plain_of cr X.env pos)) fun σ H Q ⟨ρ, O, F, d, er, e, q⟩ => ?_
  simp only [ev] at e
  obtain ⟨ds, e1, e⟩ := bind_ok e
  refine ⟨ρ, O, F, ds, er, e1, fun vs H1 s1 h8 h9 => ⟨O, ds, .list d, h9 hf, (er.mono s1).dom, e, fun v H2 s2 r => ?_⟩⟩
  rw [hr] at r
  obtain ⟨fp, r1, b0, us, ys, g, rfl, e2, hb, hl, hi, _, _, h13⟩ := r
  cases e2
  have nb := r1 b0 ((h13 b0).mpr (.inl rfl))
  refine q b0 us H2 (s1.trans s2) (s1.free nb) hb (by rw [← hl.1]; exact hl.2) (DvA.of_get hl.1.symm fun i x y q0 r0 => ?_)
  obtain ⟨n0, dv⟩ := hi i x y q0 r0
  refine Dv.mono (same_hid (Same.refl H2) fun b z => .inl ?_) _ _ dv
  rcases z with z | z
  · exact .inl z
  · exact .inr ((h13 b).mpr (.inl z))
end
end Bk
/-! Bk: statements. -/
namespace Bk
open PySem PySem.Spec PyProof.Rows L2
section
variable {X : Cx} {sc : Scope} {L : Lk} {C : Nat → List D → Res D}
theorem cvE_tup_inv {es : List Expr} {p : Pos} {m : E} (h : cvE L (.List es p) sc = some m) : ∃ x, m = .lst x ∧ cvs L es sc = some x ∧ fzs L.ms x = true ∧ es.length ≤ 1000 := by
  simp only [cvE] at h
  split at h
  · rename_i x h1
    split at h
    · rename_i hz
      cases h
      simp only [Bool.and_eq_true, decide_eq_true_eq] at hz
      exact ⟨x, rfl, h1, hz.1, hz.2⟩
    · cases h
  · cases h
theorem cvE_bin_inv {a b : Expr} {o : Operator} {p : Pos} {m : E} (h : cvE L (.BinOp a o b p) sc = some m) : ∃ o' x y, cvO o = some o' ∧ m = .op o' x y ∧ cvE L a sc = some x ∧ cvE L b sc = some y ∧ fz L.ms x = true ∧ fz L.ms y = true := by
  simp only [cvE] at h
  split at h
  · rename_i o' x y h1 h2 h3
    split at h
    · rename_i hz
      cases h
      rw [Bool.and_eq_true] at hz
      exact ⟨o', x, y, h1, rfl, h2, h3, hz.1, hz.2⟩
    · cases h
  · cases h
theorem cvE_call_inv {f : Str} {q p : Pos} {es : List Expr} {m : E} (h : cvE L (.Call (.Name f q) es [] p) sc = some m) (hf : f ≠ "isinstance") (hns : ∀ y, m ≠ .bi .setl y) (hnr : ∀ y, m ≠ .bi .lrng y) : gloB sc f = true ∧ ∃ x, cvs L es sc = some x ∧
    ((∃ k n s, L.ids.lookup f = some (k, n, s) ∧ n = es.length ∧ es ≠ [] ∧ ((fzs L.ms x = true ∧ m = .call k x) ∨ m = .cb k x)) ∨ (L.ids.lookup f = none ∧ ∃ b, biOf f es.length = some b ∧ (biScal b || fzs L.ms x) = true ∧ es ≠ [] ∧ m = .bi b x)) := by
  simp only [cvE] at h
  split at h
  · rename_i hg
    refine ⟨hg, ?_⟩
    rw [if_neg (by simpa using hf)] at h
    split at h
    · rename_i hfs
      rw [Bool.and_eq_true] at hfs
      obtain ⟨a, p2, q, x, rfl, _, _, _, e⟩ := cvSS_eq h hfs.2
      exact absurd e (hns _)
    split at h
    · simp only [Option.map_eq_some_iff] at h
      obtain ⟨m1, _, e⟩ := h
      exact absurd e.symm (hnr _)
    split at h
    · rename_i k n s0 x h1 h2
      split at h
      · rename_i hz
        simp only [Bool.and_eq_true, beq_iff_eq, Bool.not_eq_true'] at hz
        refine ⟨x, h2, .inl ⟨k, n, s0, h1, hz.1, fun z => by rw [z] at hz; simp at hz, ?_⟩⟩
        split at h
        · rename_i hfz
          cases h
          exact .inl ⟨hfz, rfl⟩
        · cases h
          exact .inr rfl
      · cases h
    · rename_i x h1 h2
      split at h
      · rename_i b hb
        split at h
        · rename_i hz
          cases h
          simp only [Bool.and_eq_true, Bool.not_eq_true'] at hz
          exact ⟨x, h2, .inr ⟨h1, b, hb, hz.1, fun z => by rw [z] at hz; simp at hz, rfl⟩⟩
        · cases h
      · cases h
    · cases h
  · cases h
/-- list(..), sorted(..): a new list -/
theorem f_bi (c : Ctx X sc L C) {e : Expr} {es : List Expr} {f : Str} {b : Bi} {m : E} {p pos : Pos} (hg : gloB sc f = true) (hb : biOf f (e :: es).length = some b) (h : cvs L (e :: es) sc = some m)
    (ha : PA X (e :: es) (tDs X.K L C m)) (hf : fzs L.ms m = true) (hl : b = .list ∨ b = .sorted) : PE X (.Call (.Name f p) (e :: es) [] pos) (tFr X.K L C (.bi b m)) := by
  obtain ⟨h1, h2, h3, h4, h5⟩ := bis_boot f _ b hb
  obtain ⟨g1, g2⟩ := glob_of c hg
  obtain ⟨a, r, ce, cr, em⟩ := cvs_cons h
  rcases hl with rfl | rfl
  · refine pe_imp (pe_callTy (call_list_of (X := X)) g1 (c.blt f h2) h3 ha h4 g2 (star_of ce es X.env) (plain_of cr X.env pos)) fun σ H Q ⟨ρ, O, F, ds, er, e, q⟩ => ?_
    simp only [ev] at e
    obtain ⟨xs, e1, e⟩ := bind_ok e
    refine ⟨ρ, O, F, xs, er, e1, fun vs H1 s1 h8 h9 => ?_⟩
    have h9 := h9 hf
    unfold biD at e
    split at e <;> first | (rename_i hx _; cases hx; done) | skip
    all_goals first | (simp at *; done) | skip
    · cases e
      obtain ⟨v, rfl, q0⟩ := dva1 h9
      obtain ⟨a0, us, rfl, ha0, ra⟩ := dv_list q0 rfl
      exact ⟨a0, us, rfl, .inl (hid_sqm ha0).sq, fun p np => q p us _ (s1.trans (same_new np)) (s1.free np) upd_same (by rw [ra.len]; exact ha0.1) (DvA.mono (same_newO np) _ _ ra)⟩
    · cases e
      obtain ⟨v, rfl, q0⟩ := dva1 h9
      obtain ⟨a0, us, rfl, ha0, ra⟩ := dv_tup q0 rfl
      exact ⟨a0, us, rfl, .inr (hid_sqt ha0), fun p np => q p us _ (s1.trans (same_new np)) (s1.free np) upd_same (dv_tupl q0 rfl) (DvA.mono (same_newO np) _ _ ra)⟩
  · refine pe_imp (pe_callB (cr_srt (X := X)) g1 (c.blt f h2) h3 ha h4 g2 (star_of ce es X.env) (plain_of cr X.env pos)) fun σ H Q ⟨ρ, O, F, ds, er, e, q⟩ => ?_
    simp only [ev] at e
    obtain ⟨xs, e1, e⟩ := bind_ok e
    refine ⟨ρ, O, F, xs, er, e1, fun vs H1 s1 h8 h9 => ?_⟩
    have h9 := h9 hf
    exact ⟨O, xs, ds, h9, e, fun p us np hz ra => q p us _ (s1.trans (same_new np)) (s1.free np) upd_same hz (DvA.mono (same_newO np) _ _ ra)⟩
theorem sndF (c : Ctx X sc L C) {e : Expr} {m : E} (h : cvF L e sc = some m) : PE X e (tFr X.K L C m) := by
  unfold cvF at h
  split at h
  · rename_i es p
    obtain ⟨x, rfl, h1, h2, h3⟩ := cvE_tup_inv h
    exact f_lst h1 (snds c h1) h2 h3
  · rename_i e gs s p
    simp only [cvE] at h
    split at h
    · rename_i x h1
      split at h
      · rename_i hz
        obtain ⟨tg, it, ifs, t, mc, rfl, h2, h3, h4, h5, h6, h7⟩ := cvG_eq h
        have hc : ∀ X' : Cx, X'.K = X.K → Ctx X' (inner s sc) L C → PTs X' ifs (tDc X'.K L C mc) := fun X' _ c' => by
          cases ifs with
          | nil =>
            simp only [cvs, Option.some.injEq] at h3
            subst h3
            exact c_nil
          | cons i0 r =>
            cases r with
            | nil =>
              obtain ⟨y, z, ce, cr, em⟩ := cvs_cons h3
              simp only [cvs, Option.some.injEq] at cr
              subst cr em
              simp only [noIfs, Bool.and_true] at h5
              exact c_one (sndT c' ce h5)
            | cons i1 r => simp at h4
        rcases h7 with ⟨i, h8, rfl⟩ | ⟨i, h8, h9, rfl⟩
        · exact f_lc c h6 h2 (sndI c h8) (fun v => by
            cases it <;> first | rfl | (simp [cvI] at h8)) hc (fun X' _ c' => snd c' h1) hz
        · exact f_lc c h6 h2 (i_seq (snd c h8) (by simp [h9])) (fold_of h8 X.env) hc (fun X' _ c' => snd c' h1) hz
      · cases h
    · cases h
  · obtain ⟨o', x, y, h1, rfl, h2, h3, h4, h5⟩ := cvE_bin_inv h
    cases h1
    exact f_add (snd c h2) (snd c h3) h4 h5
  · obtain ⟨o', x, y, h1, rfl, h2, h3, h4, h5⟩ := cvE_bin_inv h
    cases h1
    exact f_mul (snd c h2) (snd c h3) h4 h5
  · rename_i a lo hi q p
    simp only [cvE] at h
    split at h
    · rename_i x l r h1 h2 h3
      split at h
      · rename_i hz
        cases h
        refine f_sl (snd c h1) ?_ ?_ hz
        · cases lo with
          | none =>
            simp only [cvOp, Option.some.injEq] at h2
            subst h2
            exact o_nil
          | some e =>
            simp only [cvOp, Option.map_eq_some_iff] at h2
            obtain ⟨y, h4, rfl⟩ := h2
            exact o_some (snd c h4)
        · cases hi with
          | none =>
            simp only [cvOp, Option.some.injEq] at h3
            subst h3
            exact o_nil
          | some e =>
            simp only [cvOp, Option.map_eq_some_iff] at h3
            obtain ⟨y, h4, rfl⟩ := h3
            exact o_some (snd c h4)
      · cases h
    · cases h
  · rename_i a lo hi st q p
    obtain ⟨k, x, h1, h2, h3, rfl⟩ := cvE_rv h
    exact f_rv h1 (snd c h2) h3
  · rename_i f q es p
    split at h
    · rename_i k n hk
      split at h
      · rename_i k' x hx
        split at h
        · rename_i hz
          cases h
          simp only [Bool.and_eq_true, beq_iff_eq, Bool.not_eq_true', beq_eq_false_iff_ne, ne_eq] at hz
          obtain ⟨hg, y, h1, h2⟩ := cvE_call_inv hx hz.2 (fun y z => by cases z) (fun y z => by cases z)
          rcases h2 with ⟨k2, n2, s2, h3, h4, h5, h6⟩ | ⟨h3, _⟩
          · rw [hk] at h3
            cases h3
            rcases h6 with ⟨h6, h7⟩ | h7
            · cases h7
              cases es with
              | nil => exact absurd rfl h5
              | cons a r => exact f_call c hg hk h4 h1 (snds c h1) h6 rfl
            · cases h7
          · rw [hk] at h3
            cases h3
        · cases h
      · cases h
    · rename_i hk
      have hni : f ≠ "isinstance" := fun z => by
        subst z
        split at h
        · rename_i x hx
          simp only [cvE] at hx
          split at hx
          · rw [if_pos (beq_self_eq_true _)] at hx
            obtain ⟨a, t, tp, x0, y0, _, _, _, _, e0⟩ := cvIs_eq hx
            cases e0
          · cases hx
        · rename_i x hx
          simp only [cvE] at hx
          split at hx
          · rw [if_pos (beq_self_eq_true _)] at hx
            obtain ⟨a, t, tp, x0, y0, _, _, _, _, e0⟩ := cvIs_eq hx
            cases e0
          · cases hx
        · cases h
      have fin : ∀ {b : Bi} {x : E}, cvE L (.Call (.Name f q) es [] p) sc = some (.bi b x) → (b = .list ∨ b = .sorted) → PE X (.Call (.Name f q) es [] p) (tFr X.K L C (.bi b x)) := fun {b x} hx hb => by
        obtain ⟨hg, y, h1, h2⟩ := cvE_call_inv hx hni (fun y z => by rcases hb with rfl | rfl <;> cases z) (fun y z => by rcases hb with rfl | rfl <;> cases z)
        rcases h2 with ⟨k2, n2, s2, h3, _⟩ | ⟨h3, b2, h4, h5, h6, h7⟩
        · rw [hk] at h3
          cases h3
        · cases h7
          have hf : fzs L.ms x = true := by
            rcases hb with rfl | rfl <;> simpa [biScal] using h5
          cases es with
          | nil => exact absurd rfl h6
          | cons a r => exact f_bi c hg h4 h1 (snds c h1) hf hb
      split at h
      · rename_i x hx
        cases h
        exact fin hx (.inl rfl)
      · rename_i x hx
        cases h
        exact fin hx (.inr rfl)
      · cases h
    · cases h
  · cases h
end
/-! ### what holds between two statements -/
/-- what was there at the entry H0 is as it was; what is owned is new; O0 is the caller's own -/
structure Fr (H0 : Hp) (O0 : Ps) (H : Hp) (O : Ps) (F : Nat → Ps) : Prop where
  same : Same H0 H
  new : ∀ i a, F i a → H0 a = none
  out : ∀ a, O0 a → O a
  dom : ∀ a, O0 a → H0 a ≠ none
  inn : ∀ a, O a → O0 a ∨ H0 a = none
def Post (K : PySem.W.Frag) (L : Lk) (H0 : Hp) (O0 : Ps) (H : Hp) (O : Ps) (D : Ends) : Out → Prop
  | .nx ρ => ∀ σ' H' O' F', ER K L.ms ρ σ' H' O' F' → Fr H0 O0 H' O' F' → Same (hid H O) (hid H' O') → D.nx σ' H'
  | .rt d => ∀ v H', Same H0 H' → RetOk K H0 H' O0 L.ret d v → D.rt v H'
  | .bk ρ => ∀ σ' H' O' F', ER K L.ms ρ σ' H' O' F' → Fr H0 O0 H' O' F' → Same (hid H O) (hid H' O') → D.bk σ' H'
  | .ct ρ => ∀ σ' H' O' F', ER K L.ms ρ σ' H' O' F' → Fr H0 O0 H' O' F' → Same (hid H O) (hid H' O') → D.ct σ' H'
def tS (K : PySem.W.Frag) (L : Lk) (C : Nat → List Bk.D → Res Bk.D) (s : S) : TS := fun D σ H => ∃ (H0 : Hp) (O0 : Ps) (ρ : En) (O : Ps) (F : Nat → Ps) (o : Out), ER K L.ms ρ σ H O F ∧ Fr H0 O0 H O F ∧ ex C s ρ = .ok o ∧ Post K L H0 O0 H O D o
section
variable {X : Cx} {sc : Scope} {L : Lk} {C : Nat → List Bk.D → Res Bk.D}
theorem ps_imp {st : Stmt} {t t' : TS} (h : PS X st t) (i : ∀ D σ H, t' D σ H → t D σ H) : PS X st t' := ⟨fun pins s σ H D I w => h.run pins s σ H D I (i D σ H w)⟩
theorem pss_imp {st : List Stmt} {t t' : TS} (h : PSs X st t) (i : ∀ D σ H, t' D σ H → t D σ H) : PSs X st t' := ⟨fun pins s σ H D I w => h.run pins s σ H D I (i D σ H w)⟩
theorem Fr.grow {H0 : Hp} {O0 : Ps} {H H' : Hp} {O : Ps} {F : Nat → Ps} (f : Fr H0 O0 H O F) (s : Same H H') : Fr H0 O0 H' O F := ⟨f.same.trans s, f.new, f.out, f.dom, f.inn⟩
theorem Fr.less {H0 : Hp} {O0 : Ps} {H : Hp} {O : Ps} {F F' : Nat → Ps} (f : Fr H0 O0 H O F) (h : ∀ i a, F' i a → F i a) : Fr H0 O0 H O F' := ⟨f.same, fun i a z => f.new i a (h i a z), f.out, f.dom, f.inn⟩
theorem Post.mono {K : PySem.W.Frag} {H0 : Hp} {O0 : Ps} {H H1 : Hp} {O O1 : Ps} {D : Ends} {o : Out} (p : Post K L H0 O0 H O D o) (s : Same (hid H O) (hid H1 O1)) : Post K L H0 O0 H1 O1 D o := by
  cases o with
  | rt d => exact p
  | nx ρ => exact fun σ' H' O' F' a b c => p σ' H' O' F' a b (s.trans c)
  | bk ρ => exact fun σ' H' O' F' a b c => p σ' H' O' F' a b (s.trans c)
  | ct ρ => exact fun σ' H' O' F' a b c => p σ' H' O' F' a b (s.trans c)
theorem p_nil : PSs X [] (tS X.K L C .nil) := by
  refine pss_imp pss_nil fun D σ H ⟨H0, O0, ρ, O, F, o, er, fr, e, p⟩ => ?_
  simp only [ex] at e
  cases e
  exact p σ H O F er fr (Same.refl _)
theorem p_cons {st : Stmt} {r : List Stmt} {a b : S} (h1 : PS X st (tS X.K L C a)) (h2 : PSs X r (tS X.K L C b)) : PSs X (st :: r) (tS X.K L C (.cons a b)) := by
  refine pss_imp (pss_cons h1 h2) fun D σ H ⟨H0, O0, ρ, O, F, o, er, fr, e, p⟩ => ?_
  simp only [ex] at e
  obtain ⟨o1, e1, e⟩ := bind_ok e
  refine ⟨H0, O0, ρ, O, F, o1, er, fr, e1, ?_⟩
  cases o1 with
  | nx ρ' => exact fun σ' H' O' F' er' fr' s => ⟨H0, O0, ρ', O', F', o, er', fr', e, p.mono s⟩
  | rt d => cases e; exact p
  | bk ρ' => cases e; exact p
  | ct ρ' => cases e; exact p
theorem p_pass {pos : Pos} : PS X (.Pass pos) (tS X.K L C .pas) := by
  refine ps_imp ps_pass fun D σ H ⟨H0, O0, ρ, O, F, o, er, fr, e, p⟩ => ?_
  cases e
  exact p σ H O F er fr (Same.refl _)
theorem p_brk {pos : Pos} : PS X (.Break pos) (tS X.K L C .brk) := by
  refine ps_imp ps_break fun D σ H ⟨H0, O0, ρ, O, F, o, er, fr, e, p⟩ => ?_
  cases e
  exact p σ H O F er fr (Same.refl _)
theorem p_cnt {pos : Pos} : PS X (.Continue pos) (tS X.K L C .cnt) := by
  refine ps_imp ps_continue fun D σ H ⟨H0, O0, ρ, O, F, o, er, fr, e, p⟩ => ?_
  cases e
  exact p σ H O F er fr (Same.refl _)
theorem p_never {st : Stmt} : PS X st (tS X.K L C .never) := by
  refine ps_imp ps_never fun D σ H ⟨H0, O0, ρ, O, F, o, er, fr, e, p⟩ => ?_
  cases e
theorem swaps_no {e : Expr} (h : isLc e = false) {m : E} (hc : cvE L e sc = some m) (t : Option Expr) (l : Nat) (env : Env) : swapsWith e t l env = pure false := by
  cases e <;> first | rfl | (simp [isLc] at h; done) | (simp [cvE] at hc)
theorem p_exp {e : Expr} {m : E} {pos : Pos} (h : PE X e (tD X.K L C m)) (hl : isLc e = false) (hc : cvE L e sc = some m) : PS X (.Expr e pos) (tS X.K L C (.exp m)) := by
  refine ps_imp (ps_expr h (swaps_no hl hc _ _ _)) fun D σ H ⟨H0, O0, ρ, O, F, o, er, fr, e, p⟩ => ?_
  simp only [ex] at e
  obtain ⟨d, e1, e⟩ := bind_ok e
  cases e
  exact ⟨ρ, O, F, d, er, e1, fun v H1 s1 b1 => p σ H1 O F (er.mono s1) (fr.grow s1) (same_hidO s1)⟩
theorem p_if {t : Expr} {a b : List Stmt} {m : E} {x y : S} {pos : Pos} (ht : PT X t (tDt X.K L C m)) (ha : PSs X a (tS X.K L C x)) (hb : PSs X b (tS X.K L C y)) : PS X (.If t a b pos) (tS X.K L C (.ife m x y)) := by
  refine ps_imp (ps_if ht ha hb) fun D σ H ⟨H0, O0, ρ, O, F, o, er, fr, e, p⟩ => ?_
  simp only [ex] at e
  obtain ⟨d, e1, e⟩ := bind_ok e
  obtain ⟨k, e2, e⟩ := bind_ok e
  have e2 := boolD_ok e2
  subst e2
  refine ⟨ρ, O, F, k, er, e1, fun H1 s1 => ?_⟩
  cases k with
  | true => exact ⟨H0, O0, ρ, O, F, o, er.mono s1, fr.grow s1, e, p.mono (same_hidO s1)⟩
  | false => exact ⟨H0, O0, ρ, O, F, o, er.mono s1, fr.grow s1, e, p.mono (same_hidO s1)⟩
/-- at the end nothing is owned any more: all may be read -/
theorem ER.release {K : PySem.W.Frag} {ms : List Sh} {ρ : En} {σ : L2.St} {H H0 : Hp} {O O0 : Ps} {F : Nat → Ps} (e : ER K ms ρ σ H O F) (f : Fr H0 O0 H O F) : ER K [] ρ σ H O0 (fun _ _ => False) where
  len := e.len
  at_ := fun i d q => by
    obtain ⟨v, h1, h2⟩ := e.at_ i d q
    refine ⟨v, h1, ?_⟩
    show Own K H O0 .f d v fun _ => False
    exact ⟨fun _ z => z, Own.dv f.out h2 fun a z w => f.dom a w (f.new i a z)⟩
  sub := fun _ _ z => z.elim
  dj := fun _ _ _ z => z.elim
  dom := fun a z q => by
    cases h : H0 a with
    | none => exact f.dom a z h
    | some o => rw [f.same a o h] at q; cases q
theorem p_ret {e : Expr} {m : E} {pos : Pos} (hr : L.ret = .f) (h : PE X e (tD X.K { L with ms := [] } C m)) : PS X (.Return (some e) pos) (tS X.K L C (.ret m)) := by
  refine ps_imp (ps_ret h) fun D σ H ⟨H0, O0, ρ, O, F, o, er, fr, e, p⟩ => ?_
  simp only [ex] at e
  obtain ⟨d, e1, e⟩ := bind_ok e
  cases e
  refine ⟨ρ, O0, fun _ _ => False, d, er.release fr, e1, fun v H1 s1 b1 => p v H1 (fr.same.trans s1) ?_⟩
  rw [hr]
  have fzm : shp [] m = .f := by
    have gen : ∀ m : E, shp [] m = .f := by
      intro m
      induction m with
      | v i => rfl
      | ix a i iha _ => simp [shp, iha]
      | _ => rfl
    exact gen m
  have b2 : Bd X.K H1 O0 (shp [] m) d v := b1
  rw [fzm] at b2
  refine ⟨fun _ => False, fun _ z => z.elim, fun _ z => z, Dv.mono (fun a o z => ?_) d v b2.fz⟩
  obtain ⟨z1, z2⟩ := hid_some.mp z
  exact hid_some.mpr ⟨fun w => w.elim z1 id, z2⟩
theorem p_rtv {i : Nat} {pos : Pos} (hr : L.ret = .l .f) (hi : L.ms.getD i .f = .l .f) {x : Str} {p : Pos} (c : Ctx X sc L C) (hv : visB sc x = true) (hs : slot L.N x = some i) : PS X (.Return (some (.Name x p)) pos) (tS X.K L C (.ret (.v i))) := by
  unfold visB at hv
  simp only [Bool.and_eq_true, Bool.not_eq_true'] at hv
  obtain ⟨⟨h1, h2⟩, h3⟩ := hv
  have hN : X.N[i]? = some x := by rw [c.N]; exact (slot_eq hs).1
  have vis : Vis X.env.scope x := by
    rw [c.sc]
    split at h1
    · exact .inl (by assumption)
    · exact .inr (.inl (by assumption))
    · exact .inr (.inr (by assumption))
    · cases h1
  refine ps_imp (ps_ret (pe_var hN vis h2 h3)) fun D σ H ⟨H0, O0, ρ, O, F, o, er, fr, e, p⟩ => ?_
  simp only [ex, ev] at e
  obtain ⟨d, e1, e⟩ := bind_ok e
  cases e
  have e' : ρ[i]? = some (some d) := by
    simp only [getS] at e1
    split at e1
    · cases e1; assumption
    · cases e1
  obtain ⟨v, h4, h5⟩ := er.at_ i d e'
  refine ⟨v, h4, p v H fr.same ?_⟩
  rw [hr, ← hi]
  exact ⟨F i, fr.new i, h5.mono (Same.refl H) fun a z => .inl (z.elim (fr.out a) (er.sub i a))⟩
theorem fr_own {K : PySem.W.Frag} {H' : Hp} {O : Ps} {a : Addr} {vs : List V} {ds : List Bk.D} (ha : H' a = some (.lst vs)) (hz : ds.length ≤ sizeLine) (hv : DvA K (hid H' fun b => O b ∨ b = a) ds vs) : Own K H' (fun b => O b ∨ b = a) (.l .f) (.list ds) (.ref a) (fun b => b = a) := by
  refine ⟨a, vs, ds, fun _ _ => False, rfl, rfl, ha, ⟨hv.len.symm, by rw [← hv.len]; exact hz⟩, fun i x y q r => ⟨fun _ z => z, ?_⟩, fun _ _ _ z => z.elim, fun _ _ z => z.elim, fun b => ⟨.inl, fun z => ?_⟩⟩
  · obtain ⟨w, hw, dw⟩ := hv.get q
    rw [hw] at r
    cases r
    exact dw
  · rcases z with z | ⟨_, _, z⟩
    · exact z
    · exact z.elim
end
end Bk
/-! Bk: stores, loops. -/
namespace Bk
open PySem PySem.Spec PyProof.Rows L2
section
variable {X : Cx} {sc : Scope} {L : Lk} {C : Nat → List Bk.D → Res Bk.D}
theorem p_rtl {e : Expr} {m : E} {pos : Pos} (hr : L.ret = .l .f) (h : PE X e (tFr X.K L C m)) : PS X (.Return (some e) pos) (tS X.K L C (.rtl m)) := by
  refine ps_imp (ps_ret h) fun D σ H ⟨H0, O0, ρ, O, F, o, er, fr, e, p⟩ => ?_
  simp only [ex] at e
  obtain ⟨d, e1, e⟩ := bind_ok e
  obtain ⟨xs, e2, e⟩ := bind_ok e
  cases e
  cases d <;> cases e2
  refine ⟨ρ, O, F, _, er, e1, fun a vs H1 s1 na ha hz hv => p _ H1 (fr.same.trans s1) ?_⟩
  rw [hr]
  exact ⟨fun b => b = a, fun b z => by rw [z]; exact fr.same.free na, fr_own ha hz (DvA.mono (same_less fun b z => z.imp (fr.out b) id) _ _ hv)⟩
/-- a slot gets a new list of its own -/
theorem ER.own {K : PySem.W.Frag} {ms : List Sh} {ρ : En} {σ : L2.St} {H H1 : Hp} {O : Ps} {F : Nat → Ps} {i : Nat} {a : Addr} {vs : List V} {ds : List Bk.D} (e : ER K ms ρ σ H O F) (hi : ms.getD i .f = .l .f) (s : Same H H1) (na : H a = none) (ha : H1 a = some (.lst vs))
    (hz : ds.length ≤ sizeLine) (hv : DvA K (hid H1 fun b => O b ∨ b = a) ds vs) : ER K ms (ρ.set i (some (.list ds))) (σ.set i (some (.ref a))) H1 (fun b => O b ∨ b = a) (fun j b => if j = i then b = a else F j b) where
  len := by simpa using e.len
  at_ := fun j d' q => by
    by_cases hj : i = j
    · subst hj
      have hl : i < ρ.length := by
        rcases Nat.lt_or_ge i ρ.length with z | z
        · exact z
        · rw [List.getElem?_eq_none (by simpa using z)] at q
          cases q
      rw [List.getElem?_set_self hl] at q
      cases q
      refine ⟨.ref a, List.getElem?_set_self (by rw [← e.len]; exact hl), ?_⟩
      rw [hi]
      simp only [if_pos]
      exact fr_own ha hz hv
    · rw [List.getElem?_set_ne hj] at q
      obtain ⟨w, h1, h2⟩ := e.at_ j d' q
      refine ⟨w, by rw [List.getElem?_set_ne hj]; exact h1, ?_⟩
      have hj' : ¬ j = i := fun z => hj z.symm
      simp only [if_neg hj']
      exact h2.mono s fun b z => z.imp id fun w => by rw [w]; exact na
  sub := fun j b z => by
    by_cases hj : j = i
    · simp only [if_pos hj] at z
      exact .inr z
    · simp only [if_neg hj] at z
      exact .inl (e.sub j b z)
  dj := fun j k b z w => by
    have old : ∀ j, F j b → b ≠ a := fun j q r => by
      rw [r] at q
      exact e.dom a (e.sub j a q) na
    by_cases hj : j = i <;> by_cases hk : k = i
    · rw [hj, hk]
    · simp only [if_pos hj] at z
      simp only [if_neg hk] at w
      exact absurd z (old k w)
    · simp only [if_neg hj] at z
      simp only [if_pos hk] at w
      exact absurd w (old j z)
    · simp only [if_neg hj] at z
      simp only [if_neg hk] at w
      exact e.dj j k b z w
  dom := fun b z => by
    rcases z with z | rfl
    · intro q
      cases h : H b with
      | none => exact e.dom b z h
      | some o => rw [s b o h] at q; cases q
    · rw [ha]; simp
theorem Fr.own {H0 : Hp} {O0 : Ps} {H H1 : Hp} {O : Ps} {F : Nat → Ps} {i : Nat} {a : Addr} (f : Fr H0 O0 H O F) (s : Same H H1) (na : H a = none) : Fr H0 O0 H1 (fun b => O b ∨ b = a) (fun j b => if j = i then b = a else F j b) where
  same := f.same.trans s
  new := fun j b z => by
    by_cases hj : j = i
    · simp only [if_pos hj] at z
      rw [z]
      exact f.same.free na
    · simp only [if_neg hj] at z
      exact f.new j b z
  out := fun b z => .inl (f.out b z)
  dom := f.dom
  inn := fun b z => by
    rcases z with z | rfl
    · exact f.inn b z
    · exact .inr (f.same.free na)
/-- x = e, frozen -/
theorem p_set {tg e : Expr} {t : Tg} {m : E} {pos : Pos} (hp : PS X (.Assign [tg] e pos) (tAsg (tD X.K L C m) (gD X.K L t))) (hf : fz L.ms m = true) : PS X (.Assign [tg] e pos) (tS X.K L C (.set t m)) := by
  refine ps_imp hp fun D σ H ⟨H0, O0, ρ, O, F, o, er, fr, e, p⟩ => ?_
  simp only [ex] at e
  obtain ⟨d, e1, e⟩ := bind_ok e
  obtain ⟨ρ', e2, e⟩ := bind_ok e
  cases e
  exact ⟨ρ, O, F, d, er, e1, fun v H1 s1 b1 => ⟨ρ, O, F, d, ρ', er.mono s1, bd_fz b1 hf, e2, fun σ' F' er' hF ag => p σ' H1 O F' er' ((fr.grow s1).less hF) (same_hidO s1)⟩⟩
theorem p_own {x : Str} {p : Pos} {e : Expr} {i : Nat} {m : E} {pos : Pos} (hi : L.ms.getD i .f = .l .f) (hp : PS X (.Assign [.Name x p] e pos) (tAsg (tFr X.K L C m) (gName i))) : PS X (.Assign [.Name x p] e pos) (tS X.K L C (.own i m)) := by
  refine ps_imp hp fun D σ H ⟨H0, O0, ρ, O, F, o, er, fr, e, p⟩ => ?_
  simp only [ex] at e
  obtain ⟨d, e1, e⟩ := bind_ok e
  obtain ⟨xs, e2, e⟩ := bind_ok e
  cases e
  cases d <;> cases e2
  refine ⟨ρ, O, F, _, er, e1, fun a vs H1 s1 na ha hz hv => p _ H1 _ _ (er.own hi s1 na ha hz hv) (fr.own s1 na) ?_⟩
  exact same_hid s1 fun b z => z.imp id fun w => by rw [w]; exact na
/-- x = e with x a name, e any but a comprehension; a comprehension -/
theorem asg_name {x : Str} {p : Pos} {e : Expr} {i : Nat} {m : E} {te : TE} {pos : Pos} (c : Ctx X sc L C) (st : Stores X sc) (hx : locB sc x = true) (hs : slot L.N x = some i) (hc : cvE L e sc = some m) (hl : isLc e = false) (h : PE X e te) :
    PS X (.Assign [.Name x p] e pos) (tAsg te (gName i)) := by
  obtain ⟨l1, l2⟩ := st x hx
  exact ps_set (by rw [c.N]; exact c.nd) (by rw [c.N]; exact (slot_eq hs).1) l1 h (swaps_no hl hc _ _ _) l2
theorem gName_gD {x : Str} {i : Nat} {te : TE} {D : Ends} {σ : L2.St} {H : Hp} (hs : slot L.N x = some i) (hf : frozen L.ms i = true) (hte : ∀ (Q Q' : VK), (∀ v H', Q v H' → Q' v H') → te σ H Q → te σ H Q') (h : tAsg te (gD X.K L (.n i)) D σ H) : tAsg te (gName i) D σ H := by
  refine hte _ _ (fun v H' q => ?_) h
  obtain ⟨ρ, O, F, d, ρ', er, dv, e, q⟩ := q
  simp only [tgs] at e
  cases e
  refine q _ _ (er.set (frozen_eq hf) dv) (fun j a z => z.2) ⟨by simp, fun j hj => ?_⟩
  rw [List.getElem?_set_ne (fun z => hj (by simp [Tg.own, z]))]
theorem tD_mono {m : E} {σ : L2.St} {H : Hp} (Q Q' : VK) (h : ∀ v H', Q v H' → Q' v H') (w : tD X.K L C m σ H Q) : tD X.K L C m σ H Q' := let ⟨ρ, O, F, d, er, e, q⟩ := w; ⟨ρ, O, F, d, er, e, fun v H' s b => h v H' (q v H' s b)⟩
/-- path.append(e) -/
theorem pathE_shp : ∀ {m : E} {ρ : En} {i : Nat} {js : List Int}, isPath m = true → pathE C m ρ = .ok (i, js) → shp L.ms m = shAt js (L.ms.getD i .f)
  | .v k, ρ, i, js, _, h => by
    simp only [pathE] at h
    cases h
    rfl
  | .ix a e, ρ, i, js, hp, h => by
    simp only [pathE] at h
    obtain ⟨⟨k, ks⟩, h1, h⟩ := bind_ok h
    obtain ⟨x, h2, h⟩ := bind_ok h
    obtain ⟨j, h3, h⟩ := bind_ok h
    cases h
    have ih := pathE_shp (m := a) (by simpa [isPath] using hp) h1
    have gen : ∀ (ks : List Int) (s : Sh) (j : Int), shAt (ks ++ [j]) s = (match shAt ks s with
        | .l s => s
        | .f => .f) := by
      intro ks
      induction ks with
      | nil => intro s j; cases s <;> rfl
      | cons k t ih =>
        intro s j
        cases s with
        | f => rfl
        | l s => exact ih s j
    simp only [shp, ih]
    exact (gen ks _ j).symm
  | .k _, _, _, _, hp, _ => by simp [isPath] at hp
  | .op .., _, _, _, hp, _ => by simp [isPath] at hp
  | .neg _, _, _, _, hp, _ => by simp [isPath] at hp
  | .cmp .., _, _, _, hp, _ => by simp [isPath] at hp
  | .chn .., _, _, _, hp, _ => by simp [isPath] at hp
  | .and .., _, _, _, hp, _ => by simp [isPath] at hp
  | .or .., _, _, _, hp, _ => by simp [isPath] at hp
  | .not _, _, _, _, hp, _ => by simp [isPath] at hp
  | .ife .., _, _, _, hp, _ => by simp [isPath] at hp
  | .sl .., _, _, _, hp, _ => by simp [isPath] at hp
  | .rev _, _, _, _, hp, _ => by simp [isPath] at hp
  | .rvt _, _, _, _, hp, _ => by simp [isPath] at hp
  | .tup _, _, _, _, hp, _ => by simp [isPath] at hp
  | .lst _, _, _, _, hp, _ => by simp [isPath] at hp
  | .dct .., _, _, _, hp, _ => by simp [isPath] at hp
  | .call .., _, _, _, hp, _ => by simp [isPath] at hp
  | .cb .., _, _, _, hp, _ => by simp [isPath] at hp
  | .bi .., _, _, _, hp, _ => by simp [isPath] at hp
  | .isi .., _, _, _, hp, _ => by simp [isPath] at hp
  | .me .., _, _, _, hp, _ => by simp [isPath] at hp
  | .lc .., _, _, _, hp, _ => by simp [isPath] at hp
  | .rng _, _, _, _, hp, _ => by simp [isPath] at hp
  | .enm _, _, _, _, hp, _ => by simp [isPath] at hp
  | .zip .., _, _, _, hp, _ => by simp [isPath] at hp
  | .vals _, _, _, _, hp, _ => by simp [isPath] at hp
  | .nil, _, _, _, hp, _ => by simp [isPath] at hp
  | .cons .., _, _, _, hp, _ => by simp [isPath] at hp
/-- a path's reading: where its list stands -/
def tPa (K : PySem.W.Frag) (L : Lk) (C : Nat → List Bk.D → Res Bk.D) (m : E) : TE := fun σ H Q => ∃ (ρ : En) (O : Ps) (F : Nat → Ps) (i : Nat) (js : List Int) (d d1 : Bk.D) (v : V) (s : Sh), ER K L.ms ρ σ H O F ∧ pathE C m ρ = .ok (i, js) ∧ ρ[i]? = some (some d) ∧
  dAt js d = some d1 ∧ shp L.ms m = .l s ∧ σ[i]? = some (some v) ∧ ∀ w H', Same H H' → PathAt H' js v w → Q w H'
theorem dAt_snoc : ∀ (js : List Int) (j : Int) (d d2 : Bk.D), dAt (js ++ [j]) d = some d2 → ∃ xs, dAt js d = some (.list xs) ∧ xs[pl xs.length j]? = some d2
  | [], j, d, d2, h => by
    cases d <;> simp only [List.nil_append, dAt] at h <;> try cases h
    split at h
    · rename_i x hx
      cases h
      exact ⟨_, rfl, hx⟩
    · cases h
  | k :: js, j, d, d2, h => by
    cases d <;> simp only [List.cons_append, dAt] at h <;> try cases h
    split at h
    · rename_i x hx
      obtain ⟨xs, h1, h2⟩ := dAt_snoc js j x d2 h
      exact ⟨xs, by simp only [dAt, hx, h1], h2⟩
    · cases h
theorem path_pe (c : Ctx X sc L C) : ∀ (n : Nat) (e : Expr) (m : E), sizeOf e < n → cvE L e sc = some m → isPath m = true → isPx e = true → PE X e (tPa X.K L C m)
  | 0, _, _, hn, _, _, _ => absurd hn (Nat.not_lt_zero _)
  | n + 1, .Name x p, m, hn, h, hp, _ => by
    simp only [cvE] at h
    split at h
    · rename_i hv
      simp only [Option.map_eq_some_iff] at h
      obtain ⟨i, hs, rfl⟩ := h
      unfold visB at hv
      simp only [Bool.and_eq_true, Bool.not_eq_true'] at hv
      obtain ⟨⟨h1, h2⟩, h3⟩ := hv
      have hN : X.N[i]? = some x := by rw [c.N]; exact (slot_eq hs).1
      have vis : Vis X.env.scope x := by
        rw [c.sc]
        split at h1
        · exact .inl (by assumption)
        · exact .inr (.inl (by assumption))
        · exact .inr (.inr (by assumption))
        · cases h1
      refine pe_imp (pe_var hN vis h2 h3) fun σ H Q ⟨ρ, O, F, j, js, d, d1, v, s, er, e, hd, hd1, hsh, hv, q⟩ => ?_
      simp only [pathE] at e
      cases e
      exact ⟨v, hv, q v H (Same.refl H) rfl⟩
    · split at h
      · simp only [Option.map_eq_some_iff] at h
        obtain ⟨d, _, rfl⟩ := h
        simp [isPath] at hp
      · cases h
  | n + 1, .Subscript a b p, m, hn, h, hp, hx => by
    have hsl : isSlice b = false := by
      cases b <;> first | rfl | skip
      rename_i lo hi st q
      cases st with
      | none =>
        simp only [cvE] at h
        split at h
        · split at h
          · cases h
            simp [isPath] at hp
          · cases h
        · cases h
      | some st =>
        obtain ⟨k, x, _, _, _, rfl⟩ := cvE_rv h
        cases k <;> simp [isPath] at hp
    obtain ⟨ma, mb, h1, h2, rfl⟩ : ∃ ma mb, cvE L a sc = some ma ∧ cvE L b sc = some mb ∧ m = .ix ma mb := by
      cases b <;> first
        | (simp [isSlice] at hsl; done)
        | (simp only [cvE, isSlice, Bool.false_eq_true, if_false] at h
           split at h
           · rename_i x y h1 h2
             cases h
             exact ⟨x, y, h1, h2, rfl⟩
           · cases h)
    have hpa : isPath ma = true := by simpa [isPath] using hp
    have iha := path_pe c n a ma (by simp at hn; omega) h1 hpa (by simpa [isPx] using hx)
    have hp' : PlainIx b := fun o i => by
      cases b <;> first | rfl | (simp [isSlice] at hsl)
    refine pe_imp (pe_ix ix_D iha (snd c h2) hp') fun σ H Q ⟨ρ, O, F, i, js, d, d1, v, s, er, e, hd, hd1, hsh, hv, q⟩ => ?_
    simp only [pathE] at e
    obtain ⟨⟨k, ks⟩, e1, e⟩ := bind_ok e
    obtain ⟨x, e2, e⟩ := bind_ok e
    obtain ⟨j, e3, e⟩ := bind_ok e
    cases e
    obtain ⟨xs, d2, d3⟩ := dAt_snoc ks j d d1 hd1
    have hsa : ∃ s', shp L.ms ma = .l s' := by
      simp only [shp] at hsh
      cases hz : shp L.ms ma with
      | f => rw [hz] at hsh; cases hsh
      | l s' => exact ⟨s', rfl⟩
    obtain ⟨s', hsa⟩ := hsa
    refine ⟨ρ, O, F, k, ks, d, .list xs, v, s', er, e1, hd, d2, hsa, hv, fun w H1 s1 pa => ⟨ρ, O, F, x, er.mono s1, e2, fun u H2 s2 b2 => ?_⟩⟩
    have er2 := (er.mono s1).mono s2
    obtain ⟨v0, hv0, ow⟩ := er2.at_ k d hd
    rw [hv] at hv0
    cases hv0
    have hst := pathE_shp (L := L) (C := C) hpa e1
    rw [hsa] at hst
    obtain ⟨w', fp1, p1, p2, p3⟩ := own_at ow hst.symm d2
    have ew : w = w' := by
      have same : ∀ {js : List Int} {v w w' : V}, PathAt H2 js v w → PathAt H2 js v w' → w = w' := by
        intro js
        induction js with
        | nil => intro v w w' q q'; exact q.trans q'.symm
        | cons k t ih =>
          intro v w w' q q'
          obtain ⟨c, ws, z, ec, hc, hz, q⟩ := q
          obtain ⟨c', ws', z', ec', hc', hz', q'⟩ := q'
          rw [ec] at ec'
          cases ec'
          rw [hc] at hc'
          cases hc'
          rw [hz] at hz'
          cases hz'
          exact ih q q'
      exact same (pa.mono s2) p1
    subst ew
    obtain ⟨b0, vs, ds, g, rfl, eds, hb, hl, hi, _⟩ := p3
    cases eds
    cases x <;> cases e3
    have hlt := (List.getElem?_eq_some_iff.mp d3).1
    obtain ⟨u', hu'⟩ : ∃ u', vs[pl vs.length j]? = some u' := ⟨vs[pl vs.length j]'(by have := hl.1; rw [this]; exact hlt), by simp⟩
    exact .inl ⟨b0, vs, j, u', rfl, dv_int b2.all rfl, .inl (.inl (.inl hb)), hu', q u' H2 (s1.trans s2) (PathAt.snoc p1 rfl hb hu')⟩
  | n + 1, .BoolOp .., m, hn, h, hp, hx => by simp [isPx] at hx
  | n + 1, .NamedExpr .., m, hn, h, hp, hx => by simp [isPx] at hx
  | n + 1, .BinOp .., m, hn, h, hp, hx => by simp [isPx] at hx
  | n + 1, .UnaryOp .., m, hn, h, hp, hx => by simp [isPx] at hx
  | n + 1, .Lambda .., m, hn, h, hp, hx => by simp [isPx] at hx
  | n + 1, .IfExp .., m, hn, h, hp, hx => by simp [isPx] at hx
  | n + 1, .Dict .., m, hn, h, hp, hx => by simp [isPx] at hx
  | n + 1, .Set .., m, hn, h, hp, hx => by simp [isPx] at hx
  | n + 1, .ListComp .., m, hn, h, hp, hx => by simp [isPx] at hx
  | n + 1, .SetComp .., m, hn, h, hp, hx => by simp [isPx] at hx
  | n + 1, .DictComp .., m, hn, h, hp, hx => by simp [isPx] at hx
  | n + 1, .GeneratorExp .., m, hn, h, hp, hx => by simp [isPx] at hx
  | n + 1, .Await .., m, hn, h, hp, hx => by simp [isPx] at hx
  | n + 1, .Yield .., m, hn, h, hp, hx => by simp [isPx] at hx
  | n + 1, .YieldFrom .., m, hn, h, hp, hx => by simp [isPx] at hx
  | n + 1, .Compare .., m, hn, h, hp, hx => by simp [isPx] at hx
  | n + 1, .Call .., m, hn, h, hp, hx => by simp [isPx] at hx
  | n + 1, .FormattedValue .., m, hn, h, hp, hx => by simp [isPx] at hx
  | n + 1, .JoinedStr .., m, hn, h, hp, hx => by simp [isPx] at hx
  | n + 1, .Constant .., m, hn, h, hp, hx => by simp [isPx] at hx
  | n + 1, .Attribute .., m, hn, h, hp, hx => by simp [isPx] at hx
  | n + 1, .Starred .., m, hn, h, hp, hx => by simp [isPx] at hx
  | n + 1, .List .., m, hn, h, hp, hx => by simp [isPx] at hx
  | n + 1, .Tuple .., m, hn, h, hp, hx => by simp [isPx] at hx
  | n + 1, .Slice .., m, hn, h, hp, hx => by simp [isPx] at hx
end
end Bk
/-! Bk: stores of all kinds, loops. -/
namespace Bk
open PySem PySem.Spec PyProof.Rows L2
theorem PathAt.same {H : Hp} : ∀ {js : List Int} {v w w' : V}, PathAt H js v w → PathAt H js v w' → w = w'
  | [], _, _, _, q, q' => q.trans q'.symm
  | k :: t, _, _, _, ⟨c, ws, z, ec, hc, hz, q⟩, ⟨c', ws', z', ec', hc', hz', q'⟩ => by
    rw [ec] at ec'
    cases ec'
    rw [hc] at hc'
    cases hc'
    rw [hz] at hz'
    cases hz'
    exact PathAt.same q q'
theorem turnD_at {f : D → Res D} : ∀ (js : List Int) (y y' : D), turnD f js y = .ok y' → ∃ d1 e1, dAt js y = some d1 ∧ f d1 = .ok e1
  | [], y, y', q => ⟨y, y', rfl, q⟩
  | k :: t, y, y', q => by
    cases y with
    | list zs =>
      simp only [turnD] at q
      split at q
      · rename_i z hz
        obtain ⟨z', q1, q⟩ := bind_ok q
        obtain ⟨d1, e1, q2, q3⟩ := turnD_at t z z' q1
        exact ⟨d1, e1, by simp only [dAt, hz, q2], q3⟩
      · cases q
    | _ => simp [turnD] at q
section
variable {K : PySem.W.Frag} {ms : List Sh} {ρ : En} {σ : L2.St} {H : Hp} {O : Ps} {F : Nat → Ps} {i : Nat} {d d1 d' : Bk.D} {v w : V} {js : List Int}
/-- the list at a path's end -/
theorem ER.path (e : ER K ms ρ σ H O F) (hd : ρ[i]? = some (some d)) (hv : σ[i]? = some (some v)) (hs : shAt js (ms.getD i .f) = .l .f) (ha : dAt js d = some d1) (hp : PathAt H js v w) :
    ∃ a vs xs, w = .ref a ∧ d1 = .list xs ∧ H a = some (.lst vs) ∧ vs.length = xs.length ∧ vs.length ≤ sizeLine ∧ F i a ∧ O a ∧ DvA K (hid H O) xs vs := by
  obtain ⟨v0, hv0, ow⟩ := e.at_ i d hd
  rw [hv] at hv0
  cases hv0
  obtain ⟨w', fp1, p1, p2, a, vs, ds, g, rfl, rfl, hb, hl, hi, _, _, h9⟩ := own_at ow hs ha
  have fa : F i a := p2 a ((h9 a).mpr (.inl rfl))
  exact ⟨a, vs, ds, hp.same p1, rfl, hb, hl.1, hl.2, fa, e.sub i a fa, DvA.of_get hl.1.symm fun k x y q r => (hi k x y q r).2⟩
/-- and it is changed -/
theorem ER.turn {f : Bk.D → Res Bk.D} {a : Addr} {us : List V} {es : List Bk.D} (e : ER K ms ρ σ H O F) (hd : ρ[i]? = some (some d)) (hv : σ[i]? = some (some v)) (hs : shAt js (ms.getD i .f) = .l .f) (hp : PathAt H js v (.ref a)) (ht : turnD f js d = .ok d')
    (hf : ∀ d1, dAt js d = some d1 → f d1 = .ok (.list es)) (fa : F i a) (hu : DvA K (hid H O) es us) (hz : us.length ≤ sizeLine) : ER K ms (ρ.set i (some d')) σ (upd H a (.lst us)) O F where
  len := by rw [List.length_set]; exact e.len
  at_ := fun j x q => by
    have oa := e.sub i a fa
    by_cases hj : i = j
    · subst hj
      rw [List.getElem?_set_self ((List.getElem?_eq_some_iff.mp hd).1)] at q
      cases q
      obtain ⟨v0, hv0, ow⟩ := e.at_ i d hd
      rw [hv] at hv0
      cases hv0
      exact ⟨v, hv, own_turn (fun b z => by rw [z]; exact oa) hu hz ow hs hp ht hf⟩
    · rw [List.getElem?_set_ne hj] at q
      obtain ⟨u, hu', ow⟩ := e.at_ j x q
      exact ⟨u, hu', ow.upd oa fun z => hj (e.dj i j a fa z)⟩
  sub := e.sub
  dj := e.dj
  dom := fun b z => by
    by_cases hb : b = a
    · rw [hb, upd_same]; simp
    · rw [upd_ne hb]; exact e.dom b z
theorem Fr.turn {H0 : Hp} {O0 : Ps} {a : Addr} {o : HO} (f : Fr H0 O0 H O F) (fa : F i a) : Fr H0 O0 (upd H a o) O F where
  same := fun b x q => by
    have na := f.new i a fa
    rw [upd_ne (fun z => by rw [z, na] at q; cases q)]
    exact f.same b x q
  new := f.new
  out := f.out
  dom := f.dom
  inn := f.inn
end
section
variable {X : Cx} {sc : Scope} {L : Lk} {C : Nat → List Bk.D → Res Bk.D}
theorem turnS_ok {p : E} {f : Bk.D → Res Bk.D} {ρ : En} {o : Out} (h : turnS C p f ρ = .ok o) : ∃ i js d d' d1 e1, pathE C p ρ = .ok (i, js) ∧ ρ[i]? = some (some d) ∧ turnD f js d = .ok d' ∧ dAt js d = some d1 ∧ f d1 = .ok e1 ∧ o = .nx (ρ.set i (some d')) := by
  unfold turnS at h
  obtain ⟨⟨i, js⟩, h1, h⟩ := bind_ok h
  obtain ⟨d, h2, h⟩ := bind_ok h
  obtain ⟨d', h3, h⟩ := bind_ok h
  cases h
  obtain ⟨d1, e1, h4, h5⟩ := turnD_at js d d' h3
  refine ⟨i, js, d, d', d1, e1, h1, ?_, h3, h4, h5, rfl⟩
  unfold getS at h2
  split at h2
  · cases h2
    assumption
  · cases h2
theorem ownPath_eq {ms : List Sh} {m : E} (h : ownPath ms m = true) : isPath m = true ∧ shp ms m = .l .f := by
  unfold ownPath at h
  rw [Bool.and_eq_true] at h
  refine ⟨h.1, ?_⟩
  have h2 := h.2
  split at h2
  · assumption
  · cases h2
theorem base_px {o : Expr} (h : isPx o = true) (a : Str) (env : Env) : attributeBase o a env (eval o env) = eval o env := by
  cases o <;> first | rfl | (simp [isPx] at h)
theorem p_app (c : Ctx X sc L C) {o e : Expr} {p m : E} {ap cp pos : Pos} (h1 : cvE L o sc = some p) (h2 : cvE L e sc = some m) (hp : ownPath L.ms p = true) (hf : fz L.ms m = true) (hx : isPx o = true) (hl : (ap.endLine == cp.line) = true) :
    PS X (.Expr (.Call (.Attribute o "append" ap) [e] [] cp) pos) (tS X.K L C (.app p m)) := by
  obtain ⟨hp1, hp2⟩ := ownPath_eq hp
  have hs := star_of h2 [] X.env
  refine ps_imp (ps_expr (pe_bm F.plainAttrs_list F.slot_list_append F.type_list_append mt_append (path_pe c _ o p (Nat.lt_succ_self _) h1 hp1 hx) (a_cons (snd c h2) a_nil hs) (base_px hx _ _) (by rw [hs]; rfl) hl hs rfl)) fun D σ H ⟨H0, O0, ρ, O, F, o, er, fr, e, q⟩ => ?_
  simp only [ex] at e
  obtain ⟨x, e1, e⟩ := bind_ok e
  obtain ⟨i, js, d, d', d1, d2, e2, e3, e4, e5, e6, rfl⟩ := turnS_ok e
  obtain ⟨v, hv, _⟩ := er.at_ i d e3
  have hsh := pathE_shp (L := L) hp1 e2
  rw [hp2] at hsh
  refine ⟨ρ, O, F, i, js, d, d1, v, .f, er, e2, e3, e5, hp2, hv, fun w H1 s1 pa => ?_⟩
  obtain ⟨a, vs, xs, rfl, rfl, ha, hl1, hl2, fa, oa, ra⟩ := (er.mono s1).path e3 hv hsh.symm e5 pa
  refine ⟨.inl ⟨rfl, vs, .inl (.inl ha)⟩, ρ, O, F, [x], er.mono s1, by simp [evs, e1], fun us H2 s2 b1 b2 => ?_⟩
  obtain ⟨u, rfl, hu⟩ := dva1 (b2 (by simp [fzs, hf]))
  have er2 := (er.mono s1).mono s2
  simp only [appD] at e6
  obtain ⟨hz, e6⟩ := Res.ok_if e6
  cases e6
  have hm := most_eq
  refine ⟨a, vs, u, rfl, rfl, s2 _ _ ha, by omega, q _ _ O F (er2.turn e3 hv hsh.symm (pa.mono s2) e4 (es := xs ++ [x]) (fun y hy => ?_) fa ?_ ?_) ((fr.grow (s1.trans s2)).turn fa) ?_⟩
  · rw [e5] at hy
    cases hy
    simp only [appD, if_pos hz]
  · refine (DvA.mono (same_hidO s2) _ _ ra).append ?_
    rw [DvA]
    exact ⟨u, [], rfl, hu, by rw [DvA]⟩
  · simp only [List.length_append, List.length_singleton]
    omega
  · rw [hid_upd oa]
    exact same_hidO (s1.trans s2)
theorem ass_sub {o i : Expr} {pos : Pos} {env : Env} (hi : isSlice i = false) : ∀ v, assign (.Subscript o i pos) env v = (do
      let ov ← holding [v] (eval o env)
      let iv ← holding [v, ov] (eval i env)
      standAt pos
      holding [v, ov, iv] (setItem ov iv v)
      release [v, ov, iv] []) := by
  intro v
  cases i <;> first | rfl | (simp [isSlice] at hi)
theorem sole_no {t e : Expr} (h : isLc e = false) {m : E} (hc : cvE L e sc = some m) (l : Nat) (env : Env) : swapsWithSole [t] e l env = pure false := swaps_no h hc _ _ _
theorem p_put (c : Ctx X sc L C) {o i e : Expr} {p j m : E} {ap pos : Pos} (h1 : cvE L o sc = some p) (h2 : cvE L i sc = some j) (h3 : cvE L e sc = some m) (hp : ownPath L.ms p = true) (hf : fz L.ms m = true) (hx : isPx o = true) (hi : isSlice i = false) (hl : isLc e = false) :
    PS X (.Assign [.Subscript o i ap] e pos) (tS X.K L C (.put p j m)) := by
  obtain ⟨hp1, hp2⟩ := ownPath_eq hp
  refine ps_imp (ps_asg (snd c h3) (pg_sub (path_pe c _ o p (Nat.lt_succ_self _) h1 hp1 hx) (snd c h2) set_list (ass_sub hi)) (sole_no hl h3 _ _) rfl (by cases i <;> first | rfl | (simp [isSlice] at hi))) fun D σ H ⟨H0, O0, ρ, O, F, o, er, fr, e, q⟩ => ?_
  simp only [ex] at e
  obtain ⟨x, e1, e⟩ := bind_ok e
  obtain ⟨y, e0, e⟩ := bind_ok e
  obtain ⟨i, js, d, d', d1, d2, e2, e3, e4, e5, e6, rfl⟩ := turnS_ok e
  obtain ⟨v, hv, _⟩ := er.at_ i d e3
  have hsh := pathE_shp (L := L) hp1 e2
  rw [hp2] at hsh
  refine ⟨ρ, O, F, x, er, e1, fun u H1 s1 b1 => ⟨ρ, O, F, i, js, d, d1, v, .f, er.mono s1, e2, e3, e5, hp2, hv, fun w H2 s2 pa => ?_⟩⟩
  have er2 := (er.mono s1).mono s2
  obtain ⟨a, vs, xs, rfl, rfl, ha, hl1, hl2, fa, oa, ra⟩ := er2.path e3 hv hsh.symm e5 pa
  refine ⟨ρ, O, F, y, er2, e0, fun z H3 s3 b3 => ?_⟩
  have er3 := er2.mono s3
  cases y with
  | int k =>
    have e60 := e6
    simp only [putD] at e6
    obtain ⟨hz, e7⟩ := Res.ok_if e6
    cases e7
    refine ⟨a, vs, k, _, rfl, dv_int b3.all rfl, s3 _ _ ha, pl_seq (by rw [hl1]; exact hz), q _ _ O F (er3.turn e3 hv hsh.symm (pa.mono s3) e4 (es := xs.set (pl xs.length k) x) (fun y hy => ?_) fa ?_ ?_) ((fr.grow ((s1.trans s2).trans s3)).turn fa) ?_⟩
    · rw [e5] at hy
      cases hy
      exact e60
    · rw [hl1]
      exact DvA.set _ (DvA.mono (same_hidO s3) _ _ ra) (bd_fz ((b1.mono s2).mono s3) hf)
    · rw [List.length_set]
      exact hl2
    · rw [hid_upd oa]
      exact same_hidO ((s1.trans s2).trans s3)
  | _ => cases e6
/-- xs[i], by values -/
def rGetL (K : PySem.W.Frag) : V → V → Hp → VK → Prop := fun x y H Q => ∃ p xs i v, x = .ref p ∧ y = .int i ∧ SqL K H p xs ∧ atI xs i = some v ∧ Q v H
theorem get_list : PGet X (rGetL X.K) := by
  intro pins s σ H x y v u Q I rx ry h
  obtain ⟨p, xs, i, z, rfl, rfl, hq, he, q⟩ := h
  cases rx
  obtain ⟨t, rfl⟩ := ry
  obtain ⟨its, r, pl, hz⟩ := I.list hq
  obtain ⟨j, h1, h2, h3, h4, h5⟩ := atI_get he
  obtain ⟨w, ew, rw'⟩ := r.get h2
  have hl := r.length
  have hn := line63
  have fin : EP X pins σ Q w s := ⟨z, H, I, rw', q⟩
  by_cases h0 : 0 ≤ i
  · have hj : i.toNat = j := by
      rw [seqIndex_of h0 h5] at h1
      exact Option.some.inj h1
    exact wpAny_getItem_list (Q := EP X pins σ Q) pl.isList h0 (by omega) (by rw [hj]; simpa using ew) fin
  · have hj : (i + (its.toArray.size : Int)).toNat = j := by
      rw [seqIndex_neg (by omega) h4] at h1
      rw [List.size_toArray, ← hl]
      exact Option.some.inj h1
    exact wpAny_getItem_list_neg (Q := EP X pins σ Q) pl.isList (by omega) (by rw [List.size_toArray] <;> omega) (by omega) (by rw [hj]; simpa using ew) fin
theorem ip_alt {op : Operator} {t t2 : TIp} (h : PIp X op t) (h2 : PIp X op t2) : PIp X op (fun x y H Q => t x y H Q ∨ t2 x y H Q) := fun pins s σ H x y v u Q I r1 r2 w => w.elim (h pins s σ H x y v u Q I r1 r2) (h2 pins s σ H x y v u Q I r1 r2)
/-- ints, by data -/
def rAug (o : BO) : TIp := fun x y H Q => ∃ i j k, x = .int i ∧ y = .int j ∧ augD o (.int i) (.int j) = .ok (.int k) ∧ Q (.int k) H
theorem ip_D {op : Operator} {o : BO} (h : cvO op = some o) : PIp X op (rAug o) := by
  intro pins s σ H x y v u Q I r1 r2 w
  obtain ⟨i, j, k, rfl, rfl, e, q⟩ := w
  cases op <;> cases h <;> first | (cases e; done) | skip
  · cases e
    exact ip_add pins s σ H _ _ v u Q I r1 r2 ⟨i, j, rfl, rfl, q⟩
  · cases e
    exact ip_sub pins s σ H _ _ v u Q I r1 r2 ⟨i, j, rfl, rfl, q⟩
theorem augD_ok {o : BO} {x y z : Bk.D} (h : augD o x y = .ok z) : ∃ i j k, x = .int i ∧ y = .int j ∧ z = .int k := by
  unfold augD at h
  split at h
  · cases h
    exact ⟨_, _, _, rfl, rfl, rfl⟩
  · cases h
    exact ⟨_, _, _, rfl, rfl, rfl⟩
  · cases h
theorem p_aug (c : Ctx X sc L C) (st : Stores X sc) {x : Str} {e : Expr} {op : Operator} {o : BO} {i : Nat} {m : E} {p pos : Pos} (hx : locB sc x = true) (hs : slot L.N x = some i) (ho : cvO op = some o) (h : cvE L e sc = some m) (hf : frozen L.ms i = true) :
    PS X (.AugAssign (.Name x p) op e pos) (tS X.K L C (.aug i o m)) := by
  obtain ⟨l1, l2⟩ := st x hx
  refine ps_imp (ps_aug (by rw [c.N]; exact c.nd) (by rw [c.N]; exact (slot_eq hs).1) l1 (snd c h) (ip_D ho) l2) fun D σ H ⟨H0, O0, ρ, O, F, o', er, fr, e, q⟩ => ?_
  simp only [ex] at e
  obtain ⟨y, e1, e⟩ := bind_ok e
  obtain ⟨z, e2, e⟩ := bind_ok e
  obtain ⟨w, e3, e⟩ := bind_ok e
  cases e
  obtain ⟨a, b, k, rfl, rfl, rfl⟩ := augD_ok e3
  have e1' : ρ[i]? = some (some (.int a)) := by
    simp only [getS] at e1
    split at e1
    · cases e1; assumption
    · cases e1
  obtain ⟨v, hv, ow⟩ := er.at_ i _ e1'
  have ev := dv_int ow.all rfl
  refine ⟨v, hv, ρ, O, F, _, er, e2, fun u H1 s1 b1 => ⟨a, b, k, ev, dv_int b1.all rfl, e3, ?_⟩⟩
  exact q _ _ O _ ((er.mono s1).set (frozen_eq hf) (by rw [Dv])) ((fr.grow s1).less fun j a z => z.2) (same_hidO s1)
theorem p_pau (c : Ctx X sc L C) {o i e : Expr} {op : Operator} {bo : BO} {p j m : E} {ap pos : Pos} (h1 : cvE L o sc = some p) (h2 : cvE L i sc = some j) (ho : cvO op = some bo) (h3 : cvE L e sc = some m) (hp : ownPath L.ms p = true) (hx : isPx o = true) (hi : isSlice i = false) :
    PS X (.AugAssign (.Subscript o i ap) op e pos) (tS X.K L C (.pau p j bo m)) := by
  obtain ⟨hp1, hp2⟩ := ownPath_eq hp
  refine ps_imp (ps_augS (path_pe c _ o p (Nat.lt_succ_self _) h1 hp1 hx) (snd c h2) get_list (snd c h3) (ip_D ho) set_list (fun _ _ _ => by cases i <;> first | rfl | (simp [isSlice] at hi))) fun D σ H ⟨H0, O0, ρ, O, F, o, er, fr, e, q⟩ => ?_
  simp only [ex] at e
  obtain ⟨y, e0, e⟩ := bind_ok e
  obtain ⟨x, e1, e⟩ := bind_ok e
  obtain ⟨i, js, d, d', d1, d2, e2, e3, e4, e5, e6, rfl⟩ := turnS_ok e
  obtain ⟨v, hv, _⟩ := er.at_ i d e3
  have hsh := pathE_shp (L := L) hp1 e2
  rw [hp2] at hsh
  refine ⟨ρ, O, F, i, js, d, d1, v, .f, er, e2, e3, e5, hp2, hv, fun w H2 s2 pa => ?_⟩
  have er2 := er.mono s2
  obtain ⟨a, vs, xs, rfl, rfl, ha, hl1, hl2, fa, oa, ra⟩ := er2.path e3 hv hsh.symm e5 pa
  refine ⟨ρ, O, F, y, er2, e0, fun z H3 s3 b3 => ?_⟩
  have er3 := er2.mono s3
  have e60 := e6
  cases y with
  | int k =>
    simp only [pauD] at e6
    split at e6
    · rename_i t ht
      obtain ⟨t', e7, e8⟩ := bind_ok e6
      cases e8
      obtain ⟨n1, n2, n3, rfl, rfl, rfl⟩ := augD_ok e7
      obtain ⟨u, hu, du⟩ := ra.get ht
      have eu := dv_int du rfl
      subst eu
      have hk : vs[pl vs.length k]? = some (.int n1) := by rw [hl1]; exact hu
      refine ⟨a, vs, k, _, rfl, dv_int b3.all rfl, .inl (.inl (s3 _ _ ha)), pl_at hk, ρ, O, F, _, er3, e1, fun y4 H4 s4 b4 => ⟨n1, n2, n3, rfl, dv_int b4.all rfl, e7, ?_⟩⟩
      have er4 := er3.mono s4
      refine ⟨a, vs, k, _, rfl, dv_int b3.all rfl, s4 _ _ (s3 _ _ ha), pl_seq (List.getElem?_eq_some_iff.mp hk).1, q _ _ O F (er4.turn e3 hv hsh.symm ((pa.mono s3).mono s4) e4 (es := xs.set (pl xs.length k) (.int n3)) (fun y hy => ?_) fa ?_ ?_) ((fr.grow ((s2.trans s3).trans s4)).turn fa) ?_⟩
      · rw [e5] at hy
        cases hy
        exact e60
      · rw [hl1]
        exact DvA.set _ (DvA.mono (same_hidO (s3.trans s4)) _ _ ra) (by rw [Dv])
      · rw [List.length_set]
        exact hl2
      · rw [hid_upd oa]
        exact same_hidO ((s2.trans s3).trans s4)
    · cases e6
  | _ => cases e6
end
end Bk
/-! Bk: loops, all statements, a def. -/
namespace Bk
open PySem PySem.Spec PyProof.Rows L2
section
variable {X : Cx} {sc : Scope} {L : Lk} {C : Nat → List Bk.D → Res Bk.D}
theorem drop_get {α : Type} : ∀ {xs : List α} {i : Nat} {x : α}, xs[i]? = some x → xs.drop i = x :: xs.drop (i + 1)
  | [], i, x, h => by simp at h
  | y :: xs, 0, x, h => by
    simp at h
    subst h
    rfl
  | y :: xs, i + 1, x, h => by
    have := drop_get (xs := xs) (i := i) (x := x) (by simpa using h)
    simpa using this
theorem p_for (c : Ctx X sc L C) (st : Stores X sc) (hp : PassesOwn (model X.prog X.w) X.A X.env X.xe) {tg it : Expr} {b : List Stmt} {pos : Pos} {t : Tg} {mi : E} {x : S} (ht : cvT L sc tg = some t) (hi : PI X tg it (iD X.K L C false mi))
    (hs : ∀ v, foldedSetIterable it X.env v = pure v) (hb : PSs X b (tS X.K L C x)) : PS X (.For tg it b [] pos) (tS X.K L C (.for_ t mi x)) := by
  refine ps_imp (ps_for hp c.calm hi (g_sound c.N c.nd c.calm st tg t ht) hb hs) fun D σ H ⟨H0, O0, ρ, O, F, o, er, fr, e, q⟩ => ?_
  simp only [ex] at e
  obtain ⟨ds, e1, e⟩ := bind_ok e
  refine ⟨ρ, O, F, ds, er, e1, fun J H1 s1 ⟨hz, G, Y, wk, hG, hY⟩ => ?_⟩
  have q1 : Post X.K L H0 O0 H1 O D o := q.mono (same_hidO s1)
  refine for_it wk (fun i σ' H' => ∃ (ρ' : En) (O' : Ps) (F' : Nat → Ps) (o' : Out), ER X.K L.ms ρ' σ' H' O' F' ∧ Fr H0 O0 H' O' F' ∧ Same (hid H1 O) (hid H' O') ∧ forL (fun x0 ρ => (tg1 t x0 ρ).bind fun ρ' => ex C x ρ') (ds.drop i) ρ' = .ok o' ∧ Post X.K L H0 O0 H' O' D o') ?_ ?_ ?_ ?_
  · exact ⟨ρ, O, F, o, er.mono s1, fr.grow s1, Same.refl _, e, q1⟩
  · rintro i σ' H' _ ⟨ρ', O', F', o', a1, a2, a3, a4, a5⟩
    exact hG H' (a3.trans hid_le) fun z => by cases z
  · rintro i v σ' H' H2 hi' ⟨ρ', O', F', o', a1, a2, a3, a4, a5⟩ y
    have g0 : G H' := hG H' (a3.trans hid_le) fun z => by cases z
    obtain ⟨s3, dd, hd, hx⟩ := hY i H' v H2 hi' g0 y
    have dx := hx O' a1.dom a3
    rw [drop_get hd] at a4
    simp only [forL] at a4
    obtain ⟨o1, a6, a4⟩ := bind_ok a4
    obtain ⟨ρ1, a7, a6⟩ := bind_ok a6
    refine ⟨ρ', O', F', dd, ρ1, a1.mono s3, dx, a7, fun σ2 F2 er2 hF ag => ⟨H0, O0, ρ1, O', F2, o1, er2, (a2.grow s3).less hF, a6, ?_⟩⟩
    have a8 := a5.mono (same_hidO s3)
    have a9 : Same (hid H1 O) (hid H2 O') := a3.trans (same_hidO s3)
    cases o1 with
    | nx ρ2 => exact fun σ3 H3 O3 F3 b1 b2 b3 => ⟨ρ2, O3, F3, o', b1, b2, a9.trans b3, a4, a8.mono b3⟩
    | ct ρ2 => exact fun σ3 H3 O3 F3 b1 b2 b3 => ⟨ρ2, O3, F3, o', b1, b2, a9.trans b3, a4, a8.mono b3⟩
    | bk ρ2 => cases a4; exact a8
    | rt d => cases a4; exact a8
  · rintro σ' H' ⟨ρ', O', F', o', a1, a2, a3, a4, a5⟩
    rw [List.drop_length] at a4
    simp only [forL] at a4
    cases a4
    exact a5 σ' H' O' F' a1 a2 (Same.refl _)
theorem p_whl (hp : PassesOwn (model X.prog X.w) X.A X.env X.xe) {te : Expr} {b : List Stmt} {pos : Pos} {mt : E} {x : S} (ht : PT X te (tDt X.K L C mt)) (hb : PSs X b (tS X.K L C x)) : PS X (.While te b [] pos) (tS X.K L C (.whl mt x)) := by
  refine ps_imp (ps_while hp ht hb) fun D σ H ⟨H0, O0, ρ, O, F, o, er, fr, e, q⟩ => ?_
  simp only [ex] at e
  refine ⟨fun n σ' H' => ∃ (ρ' : En) (O' : Ps) (F' : Nat → Ps) (o' : Out), ER X.K L.ms ρ' σ' H' O' F' ∧ Fr H0 O0 H' O' F' ∧ whL (fun ρ => (ev C mt ρ).bind boolD) (fun ρ => ex C x ρ) n ρ' = .ok o' ∧ Post X.K L H0 O0 H' O' D o', ⟨fuel, ρ, O, F, o, er, fr, e, q⟩, ?_⟩
  rintro n σ' H' ⟨ρ', O', F', o', a1, a2, a4, a5⟩
  cases n with
  | zero => simp [whL] at a4
  | succ n =>
    simp only [whL] at a4
    obtain ⟨k, a6, a4⟩ := bind_ok a4
    obtain ⟨d, a7, a6⟩ := bind_ok a6
    have a8 := boolD_ok a6
    subst a8
    refine ⟨ρ', O', F', k, a1, a7, fun H1 s1 => ?_⟩
    have b5 := a5.mono (same_hidO s1)
    cases k with
    | true =>
      show if (true : Bool) = true then _ else _
      rw [if_pos rfl] at a4 ⊢
      obtain ⟨o1, a9, a4⟩ := bind_ok a4
      refine ⟨fun σ3 H3 => ∃ (ρ' : En) (O' : Ps) (F' : Nat → Ps) (o' : Out), ER X.K L.ms ρ' σ3 H3 O' F' ∧ Fr H0 O0 H3 O' F' ∧ whL (fun ρ => (ev C mt ρ).bind boolD) (fun ρ => ex C x ρ) n ρ' = .ok o' ∧ Post X.K L H0 O0 H3 O' D o', fun σ3 H3 z => ⟨n, Nat.lt_succ_self _, z⟩,
        H0, O0, ρ', O', F', o1, a1.mono s1, a2.grow s1, a9, ?_⟩
      cases o1 with
      | nx ρ2 => exact fun σ3 H3 O3 F3 b1 b2 b3 => ⟨ρ2, O3, F3, o', b1, b2, a4, b5.mono b3⟩
      | ct ρ2 => exact fun σ3 H3 O3 F3 b1 b2 b3 => ⟨ρ2, O3, F3, o', b1, b2, a4, b5.mono b3⟩
      | bk ρ2 => cases a4; exact b5
      | rt d => cases a4; exact b5
    | false =>
      show if (false : Bool) = true then _ else _
      rw [if_neg (by decide)] at a4 ⊢
      cases a4
      exact b5 σ' H1 O' F' (a1.mono s1) (a2.grow s1) (Same.refl _)
/-! ### x = e -/
theorem sw_bool {e : Expr} {x : Str} {p : Pos} {l : Nat} {env : Env} (hl : isLc e = true) : swapsWith e (some (.Name x p)) l env = pure false ∨ (swapsWith e (some (.Name x p)) l env = pure true ∧ env.scope.names.lookup x = some .local) := by
  cases e <;> first | (simp [isLc] at hl; done) | skip
  rename_i elt gs scope pos
  have hb : swapsWith (.ListComp elt gs scope pos) (some (.Name x p)) l env = pure (env.blockKind == .function && env.kindOf x == some .local && p.line == pos.line && !(scope.names.any fun (n, k) => n == x && (k == .local || k == .cell))) := rfl
  rw [hb]
  cases hz : (env.blockKind == .function && env.kindOf x == some .local && p.line == pos.line && !(scope.names.any fun (n, k) => n == x && (k == .local || k == .cell))) with
  | false => exact .inl rfl
  | true =>
    refine .inr ⟨rfl, ?_⟩
    simp only [Bool.and_eq_true, beq_iff_eq] at hz
    exact hz.1.1.2
theorem asgF (c : Ctx X sc L C) (st : Stores X sc) {x : Str} {p pos : Pos} {e : Expr} {i : Nat} {m : E} (hx : locB sc x = true) (hs : slot L.N x = some i) (h : cvF L e sc = some m) : PS X (.Assign [.Name x p] e pos) (tAsg (tFr X.K L C m) (gName i)) := by
  obtain ⟨l1, l2⟩ := st x hx
  have hN : X.N[i]? = some x := by rw [c.N]; exact (slot_eq hs).1
  have plain : swapsWith e (some (.Name x p)) pos.line X.env = pure false → PS X (.Assign [.Name x p] e pos) (tAsg (tFr X.K L C m) (gName i)) := fun hw => ps_set (by rw [c.N]; exact c.nd) hN l1 (sndF c h) hw l2
  cases hl : isLc e with
  | false =>
    refine plain ?_
    cases e <;> first | rfl | (simp [isLc] at hl; done) | (simp [cvF] at h)
  | true =>
    rcases sw_bool (x := x) (p := p) (l := pos.line) (env := X.env) hl with hw | ⟨hw, hloc⟩
    · exact plain hw
    · cases e <;> first | (simp [isLc] at hl; done) | skip
      rename_i e gs s q
      simp only [cvF, cvE] at h
      split at h
      · rename_i y h1
        split at h
        · rename_i hz
          obtain ⟨tg, it, ifs, t, mc, rfl, h2, h3, h4, h5, h6, h7⟩ := cvG_eq h
          have hc : ∀ X' : Cx, X'.K = X.K → Ctx X' (inner s sc) L C → PTs X' ifs (tDc X'.K L C mc) := fun X' _ c' => by
            cases ifs with
            | nil =>
              simp only [cvs, Option.some.injEq] at h3
              subst h3
              exact c_nil
            | cons i0 r =>
              cases r with
              | nil =>
                obtain ⟨y, z, ce, cr, em⟩ := cvs_cons h3
                simp only [cvs, Option.some.injEq] at cr
                subst cr em
                simp only [noIfs, Bool.and_true] at h5
                exact c_one (sndT c' ce h5)
              | cons i1 r => simp at h4
          rcases h7 with ⟨j, h8, rfl⟩ | ⟨j, h8, h9, rfl⟩
          · exact (f_lc2 c h6 h2 (sndI c h8) (fun v => by
              cases it <;> first | rfl | (simp [cvI] at h8)) hc (fun X' _ c' => snd c' h1) hz).2 i x p pos hN hloc hw
          · exact (f_lc2 c h6 h2 (i_seq (snd c h8) (by simp [h9])) (fold_of h8 X.env) hc (fun X' _ c' => snd c' h1) hz).2 i x p pos hN hloc hw
        · cases h
      · cases h
/-- x = e of any kind, x frozen -/
theorem p_setN (c : Ctx X sc L C) (st : Stores X sc) {x : Str} {p pos : Pos} {e : Expr} {i : Nat} {m : E} (hx : locB sc x = true) (hs : slot L.N x = some i) (hf : L.ms.getD i .f = .f) (h : cvE L e sc = some m) (hz : fz L.ms m = true) :
    PS X (.Assign [.Name x p] e pos) (tS X.K L C (.set (.n i) m)) := by
  have hf' : frozen L.ms i = true := by unfold frozen; rw [hf]
  refine p_set (t := .n i) ?_ hz
  cases hl : isLc e with
  | false => exact ps_imp (asg_name c st hx hs h hl (snd c h)) fun D σ H w => gName_gD hs hf' (fun Q Q' => tD_mono Q Q') w
  | true =>
    have hF : cvF L e sc = some m := by
      cases e <;> first | (simp [isLc] at hl; done) | skip
      exact h
    refine ps_imp (asgF c st hx hs hF) fun D σ H w => ?_
    have w2 : tAsg (tD X.K L C m) (gName i) D σ H := gName_gD hs hf' (fun Q Q' => tD_mono Q Q') w
    refine fr_dR (fun ρ d e0 => ?_) ?_ w2
    · cases e <;> first | (simp [isLc] at hl; done) | skip
      simp only [cvE] at h
      split at h
      · split at h
        · obtain ⟨tg, it, ifs, t, mc, _, _, _, _, _, _, h7⟩ := cvG_eq h
          rcases h7 with ⟨j, _, rfl⟩ | ⟨j, _, _, rfl⟩ <;>
          · simp only [ev] at e0
            obtain ⟨_, _, e0⟩ := bind_ok e0
            obtain ⟨ys, _, e0⟩ := bind_ok e0
            cases e0
            exact ⟨ys, rfl⟩
        · cases h
      · cases h
    · exact fz_eq hz
theorem p_setT (c : Ctx X sc L C) (st : Stores X sc) {ts : List Expr} {k : Nat} {p pos : Pos} {e : Expr} {t : Tg} {m : E} (h1 : isTup e = false) (h2 : isLc e = false) (ht : cvT L sc (.Tuple ts k p) = some t) (h : cvE L e sc = some m) (hz : fz L.ms m = true) :
    PS X (.Assign [.Tuple ts k p] e pos) (tS X.K L C (.set t m)) := by
  refine p_set (ps_imp (ps_asg (snd c h) (g_sound c.N c.nd c.calm st _ t ht) (sole_no h2 h _ _) ?_ rfl) fun D σ H w => ?_) hz
  · cases e <;> first | rfl | (simp [isTup] at h1)
  · exact w
end
/-! ### all statements -/
section
variable {X : Cx} {sc : Scope} {L : Lk} {C : Nat → List Bk.D → Res Bk.D}
theorem cvS_asg {ts : List Expr} {e : Expr} {p : Pos} {m : S} (h : cvS L sc (.Assign ts e p) = some m) : ∃ t, ts = [t] := by
  match ts, h with
  | [], h => simp [cvS] at h
  | [t], _ => exact ⟨t, rfl⟩
  | t :: u :: r, h => cases t <;> simp [cvS] at h
theorem st_one (c : Ctx X sc L C) (st : Stores X sc) (hp : PassesOwn (model X.prog X.w) X.A X.env X.xe) (n : Nat) (ih : ∀ (b : List Stmt) (m : S), sizeOf b < n → cvSs L sc b = some m → PSs X b (tS X.K L C m)) :
    ∀ (s : Stmt) (m : S), sizeOf s < n + 1 → cvS L sc s = some m → PS X s (tS X.K L C m) := by
  intro s m hn h
  cases s with
  | Return v p =>
    cases v with
    | none => simp [cvS] at h
    | some e =>
      simp only [cvS] at h
      split at h
      · rename_i hr
        simp only [Option.map_eq_some_iff] at h
        obtain ⟨x, h1, rfl⟩ := h
        refine p_ret hr (snd (L := { L with ms := [] }) ⟨c.N, c.nd, c.sc, c.calm, c.blt, c.con, c.fns, c.grd, c.room⟩ h1)
      · rename_i hr
        split at h
        · rename_i x q i h1
          split at h
          · rename_i hi
            cases h
            simp only [cvE] at h1
            split at h1
            · rename_i hv
              simp only [Option.map_eq_some_iff] at h1
              obtain ⟨j, hs, h2⟩ := h1
              cases h2
              exact p_rtv hr hi c hv hs
            · split at h1
              · simp only [Option.map_eq_some_iff] at h1
                obtain ⟨d, _, h2⟩ := h1
                cases h2
              · cases h1
          · cases h
        · simp only [Option.map_eq_some_iff] at h
          obtain ⟨x, h1, rfl⟩ := h
          exact p_rtl hr (sndF c h1)
      · cases h
  | Assign ts e p =>
    obtain ⟨t, rfl⟩ := cvS_asg h
    cases t with
    | Name x q =>
      simp only [cvS] at h
      split at h
      · rename_i hx
        split at h
        · rename_i i hs
          split at h
          · rename_i hf
            split at h
            · rename_i y h1
              split at h
              · rename_i hz
                cases h
                exact p_setN c st hx hs hf h1 hz
              · cases h
            · cases h
          · rename_i hf
            simp only [Option.map_eq_some_iff] at h
            obtain ⟨y, h1, rfl⟩ := h
            exact p_own hf (asgF c st hx hs h1)
          · cases h
        · cases h
      · cases h
    | Tuple ts k q =>
      simp only [cvS] at h
      split at h
      · cases h
      · rename_i hz
        simp only [Bool.or_eq_true, not_or, Bool.not_eq_true] at hz
        split at h
        · rename_i t y h1 h2
          split at h
          · rename_i hf
            cases h
            exact p_setT c st hz.1 hz.2 h1 h2 hf
          · cases h
        · cases h
    | Subscript o i q =>
      simp only [cvS] at h
      split at h
      · cases h
      · rename_i hz
        simp only [Bool.or_eq_true, not_or, Bool.not_eq_true] at hz
        split at h
        · rename_i a b d h1 h2 h3
          split at h
          · rename_i hf
            cases h
            simp only [Bool.and_eq_true] at hf
            exact p_put c h1 h2 h3 hf.1.1 hf.1.2 hf.2 hz.1 hz.2
          · cases h
        · cases h
    | _ => simp [cvS] at h
  | AugAssign t op e p =>
    cases t with
    | Name x q =>
      simp only [cvS] at h
      split at h
      · rename_i hx
        split at h
        · rename_i i o y h1 h2 h3
          split at h
          · rename_i hf
            cases h
            exact p_aug c st hx h1 h2 h3 hf
          · cases h
        · cases h
      · cases h
    | Subscript o i q =>
      simp only [cvS] at h
      split at h
      · cases h
      · rename_i hz
        simp only [Bool.not_eq_true] at hz
        split at h
        · rename_i a b d y h1 h2 h3 h4
          split at h
          · rename_i hf
            cases h
            simp only [Bool.and_eq_true] at hf
            exact p_pau c h1 h2 h3 h4 hf.1 hf.2 hz
          · cases h
        · cases h
    | _ => simp [cvS] at h
  | Expr e p =>
    have gen : ∀ {m : S}, (if isLc e then none else (cvE L e sc).map S.exp) = some m → PS X (.Expr e p) (tS X.K L C m) := fun {m} h => by
      split at h
      · cases h
      · rename_i hl
        simp only [Bool.not_eq_true] at hl
        simp only [Option.map_eq_some_iff] at h
        obtain ⟨y, h1, rfl⟩ := h
        exact p_exp (snd c h1) hl h1
    cases e with
    | Call f es ks cp =>
      cases f with
      | Attribute o a ap =>
        have go : ∀ (es : List Expr) (ks : List Keyword), sizeOf (Stmt.Expr (.Call (.Attribute o a ap) es ks cp) p) < n + 1 → cvS L sc (.Expr (.Call (.Attribute o a ap) es ks cp) p) = some m → PS X (.Expr (.Call (.Attribute o a ap) es ks cp) p) (tS X.K L C m)
          | [e], [], _, hh => by
            simp only [cvS] at hh
            split at hh
            · rename_i hz
              rw [Bool.and_eq_true, beq_iff_eq] at hz
              obtain ⟨hz, hl⟩ := hz
              subst hz
              split at hh
              · rename_i a b h1 h2
                split at hh
                · rename_i hf
                  cases hh
                  simp only [Bool.and_eq_true] at hf
                  exact p_app c h1 h2 hf.1.1 hf.1.2 hf.2 (by simpa using hl)
                · cases hh
              · cases hh
            · cases hh
          | [], ks, _, h => by simp [cvS, cvE, isLc] at h
          | e :: e2 :: r, ks, _, h => by simp [cvS, cvE, isLc] at h
          | [e], k :: ks, _, h => by simp [cvS, cvE, isLc] at h
        exact go es ks hn h
      | _ => simp only [cvS] at h; exact gen h
    | _ => simp only [cvS] at h; exact gen h
  | If t a b p =>
    simp only [cvS] at h
    split at h
    · rename_i hn'
      split at h
      · rename_i mt x y h1 h2 h3
        cases h
        exact p_if (sndT c h1 hn') (ih a x (by simp at hn; omega) h2) (ih b y (by simp at hn; omega) h3)
      · cases h
    · cases h
  | For tg it b els p =>
    cases els with
    | cons _ _ => simp [cvS] at h
    | nil =>
    simp only [cvS] at h
    split at h
    · rename_i t i x h1 h2 h3
      cases h
      exact p_for c st hp h1 (sndI c h2) (fun v => by
        cases it <;> first | rfl | (simp [cvI] at h2)) (ih b x (by simp at hn; omega) h3)
    · rename_i t i x h1 h2 h3 h4
      split at h
      · rename_i hz
        cases h
        exact p_for c st hp h1 (i_seq (snd c h3) (by simp [hz])) (fold_of h3 X.env) (ih b x (by simp at hn; omega) h4)
      · cases h
    · cases h
  | While t b els p =>
    cases els with
    | cons _ _ => simp [cvS] at h
    | nil =>
    simp only [cvS] at h
    split at h
    · rename_i hn'
      split at h
      · rename_i mt x h1 h2
        cases h
        exact p_whl hp (sndT c h1 hn') (ih b x (by simp at hn; omega) h2)
      · cases h
    · cases h
  | Break p => simp only [cvS, Option.some.injEq] at h; subst h; exact p_brk
  | Continue p => simp only [cvS, Option.some.injEq] at h; subst h; exact p_cnt
  | Pass p => simp only [cvS, Option.some.injEq] at h; subst h; exact p_pass
  | Raise a b p => simp only [cvS, Option.some.injEq] at h; subst h; exact p_never
  | _ => simp [cvS] at h
theorem snd_S (c : Ctx X sc L C) (st : Stores X sc) (hp : PassesOwn (model X.prog X.w) X.A X.env X.xe) : ∀ n : Nat, (∀ (s : Stmt) (m : S), sizeOf s < n → cvS L sc s = some m → PS X s (tS X.K L C m)) ∧ (∀ (b : List Stmt) (m : S), sizeOf b < n → cvSs L sc b = some m → PSs X b (tS X.K L C m))
  | 0 => ⟨fun _ _ h => absurd h (Nat.not_lt_zero _), fun _ _ h => absurd h (Nat.not_lt_zero _)⟩
  | n + 1 => by
    obtain ⟨h1, h2⟩ := snd_S c st hp n
    have e1 := st_one c st hp n h2
    refine ⟨e1, fun b m hn h => ?_⟩
    cases b with
    | nil =>
      simp only [cvSs, Option.some.injEq] at h
      subst h
      exact p_nil
    | cons s r =>
      simp only [cvSs] at h
      split at h
      · rename_i x y h3 h4
        cases h
        exact p_cons (h1 s x (by simp at hn; omega) h3) (h2 r y (by simp at hn; omega) h4)
      · cases h
theorem sndSs (c : Ctx X sc L C) (st : Stores X sc) (hp : PassesOwn (model X.prog X.w) X.A X.env X.xe) {b : List Stmt} {m : S} (h : cvSs L sc b = some m) : PSs X b (tS X.K L C m) := (snd_S c st hp (sizeOf b + 1)).2 b m (Nat.lt_succ_self _) h
end
end Bk
/-! Bk: a def keeps its promise; a law's end. -/
namespace Bk
open PySem PySem.Spec PyProof.Rows L2
/-- a def of the text and its form in the small language -/
structure Tx where
  name : Str
  id : Nat
  ps : List Str
  N : List Str
  ms : List Sh
  ret : Sh
  params : Arguments
  body : List Stmt
  scope : Scope
  code : S
def Tx.fn (t : Tx) : Fn := ⟨t.ps.length, t.N.length, t.ms, t.code, t.ret⟩
/-- it is what its text says -/
structure Tx.Ok (ids : List (Str × Nat × Nat × Sh)) (cs : List (Str × D)) (t : Tx) : Prop where
  cv : cvSs ⟨ids, cs, t.N, t.ms, t.ret⟩ t.scope t.body = some t.code
  sc : FnScope t.N t.ps t.scope
  fr : (List.range t.ps.length).all (fun i => frozen t.ms i) = true
  bind : ∀ (x qual : Str) (kV doc pm : Value) (an : Option Addr) (cdv ct : Value) (us : List Value), us.length = t.ps.length → bindArgs (PySem.W.fnOf x qual t.params t.body t.scope .none kV doc pm an cdv ct) ⟨us, []⟩ = pure (t.ps.zip us)
section
variable {P : Program} {w : World} {K : PySem.W.Frag} {mg : Str → Option Value} {base : Heap} {ids : List (Str × Nat × Nat × Sh)} {cs : List (Str × D)} {T : Nat → Option Fn}
/-- the module as the defs find it -/
def ConQ (K : PySem.W.Frag) (mg : Str → Option Value) (x : Str) (d : D) : Prop := ∃ u v, mg x = some u ∧ RelV v u ∧ ∀ H, Dv K H d v
def FnQ (K : PySem.W.Frag) (mg : Str → Option Value) (ids : List (Str × Nat × Nat × Sh)) (cs : List (Str × D)) (T : Nat → Option Fn) (x : Str) (v : Nat × Nat × Sh) : Prop :=
  ∃ (t : Tx) (qual : Str) (f : Addr) (fd : FuncData), mg x = some (.ref f) ∧ FunD K x qual t.params t.body t.scope [] [] f fd ∧ t.Ok ids cs ∧ t.ps.length = v.2.1 ∧ t.ret = v.2.2 ∧ T v.1 = some t.fn
structure World1 (K : PySem.W.Frag) (mg : Str → Option Value) (ids : List (Str × Nat × Nat × Sh)) (cs : List (Str × D)) (T : Nat → Option Fn) : Prop where
  blt : ∀ x ∈ frees, mg x = none
  con : ∀ (x : Str) (d : D), cs.lookup x = some d → ConQ K mg x d
  fns : ∀ (x : Str) (v : Nat × Nat × Sh), ids.lookup x = some v → FnQ K mg ids cs T x v
theorem start_er {K : PySem.W.Frag} {ms : List Sh} {N ps : List Str} {H : Hp} {O : Ps} {ds : List D} {vs : List V} (h : DvA K (hid H O) ds vs) (hO : ∀ a, O a → H a ≠ none) (hl : ds.length = ps.length) (hf : ∀ i, i < ps.length → ms.getD i .f = .f) :
    ER K ms (ds.map some ++ List.replicate (N.length - ds.length) none) (L2.start N vs) H O (fun _ _ => False) where
  len := by unfold L2.start; simp [h.len]
  at_ := fun i d q => by
    have hi : i < ds.length := by
      rcases Nat.lt_or_ge i ds.length with z | z
      · exact z
      · rw [List.getElem?_append_right (by simpa using z)] at q
        rw [List.getElem?_replicate] at q
        split at q <;> cases q
    rw [List.getElem?_append_left (by simpa using hi), List.getElem?_map] at q
    cases hd : ds[i]? with
    | none => rw [hd] at q; cases q
    | some e =>
      rw [hd] at q
      cases q
      obtain ⟨v, h1, h2⟩ := h.get hd
      refine ⟨v, ?_, ?_⟩
      · unfold L2.start
        rw [List.getElem?_append_left (by rw [List.length_map, ← h.len]; exact hi), List.getElem?_map, h1]
        rfl
      · rw [hf i (by omega)]
        exact ⟨fun _ z => z, h2⟩
  sub := fun _ _ z => z.elim
  dj := fun _ _ _ z => z.elim
  dom := hO
theorem locB_stores {X : Cx} {sc : Scope} (h : X.env.scope = sc) (hf : ∀ x, X.fn x = true) : Stores X sc := fun x hx => by
  unfold locB at hx
  split at hx
  · rename_i h1
    exact ⟨.inl (by rw [h]; exact h1), .inl (hf x)⟩
  · rename_i h1
    exact ⟨.inr (by rw [h]; exact h1), .inl (hf x)⟩
  · cases hx
theorem all_fk (W : World1 K mg ids cs T) : ∀ (lv : Nat) (x : Str) (k n : Nat) (s : Sh), ids.lookup x = some (k, n, s) → ∃ (f : Addr) (fd : FuncData) (ps : List Str), mg x = some (.ref f) ∧ PySem.W.keepIn K (.ref f) = true ∧ ps.length = n ∧
    (∀ base : Heap, Fk P w K mg base CX0 lv f fd ps (spD K s (callN T lv k))) ∧ Binds K fd ps []
  | 0, x, k, n, s, h => by
    obtain ⟨t, qual, f, fd, h1, F, ok, h2, h3, h4⟩ := W.fns x (k, n, s) h
    replace h3 : t.ret = s := h3
    replace h2 : t.ps.length = n := h2
    replace h4 : T k = some t.fn := h4
    refine ⟨f, fd, t.ps, h1, F.kp, h2, fun base => ⟨fun {vs H Q E} ⟨_, _, _, _, _, e, _⟩ => ?_, fun _ _ _ _ _ _ _ _ _ _ _ _ _ _ ⟨_, _, _, _, _, e, _⟩ => ?_⟩, F.bindsN fun kV doc pm an cdv ct us hl => ok.bind x qual kV doc pm an cdv ct us hl⟩
    · cases e
    · cases e
  | lv + 1, x, k, n, s, h => by
    obtain ⟨t, qual, f, fd, h1, F, ok, h2, h3, h4⟩ := W.fns x (k, n, s) h
    replace h3 : t.ret = s := h3
    replace h2 : t.ps.length = n := h2
    replace h4 : T k = some t.fn := h4
    have ih := fun y j m r hy => all_fk W lv y j m r hy
    have hb := F.bindsN (ps := t.ps) fun kV doc pm an cdv ct us hl => ok.bind x qual kV doc pm an cdv ct us hl
    obtain ⟨oc, od, dV, kV, doc, pm, an, cdv, ct, osl, rfl, lk, hcd, _, _⟩ := F.ex
    have run : ∀ {ds : List D} {d : D}, callN T (lv + 1) k ds = .ok d → runF (callN T lv) t.fn ds = .ok d := fun {ds d} e => by
      simp only [callN, h4] at e
      exact e
    have lens : ∀ {ds : List D} {d : D}, runF (callN T lv) t.fn ds = .ok d → ds.length = t.ps.length := fun {ds d} e => by
      unfold runF at e
      split at e
      · rename_i z; exact z
      · cases e
    refine ⟨f, _, t.ps, h1, F.kp, h2, ?_, hb⟩
    intro base
    refine fk_of lk hcd ok.sc (fun {vs H Q E} ⟨_, ds, _, r, _, e, _⟩ => by rw [← r.len]; exact lens (run e)) fun A outer s0 H vs Q E room hg ⟨O, ds, d, r, hO, e, q⟩ => ?_
    have e := run e
    have hl := lens e
    unfold runF at e
    rw [if_pos (show ds.length = t.fn.np from hl)] at e
    obtain ⟨o, e1, e2⟩ := bind_ok e
    have c : Ctx (cxOf CX0 P w K mg base t.N qual t.scope f cdv A outer s0 H E).nox t.scope ⟨ids, cs, t.N, t.ms, t.ret⟩ (callN T lv) :=
      { N := rfl, nd := ok.sc.nd, sc := rfl, calm := rfl, blt := W.blt, con := W.con, grd := hg
        fns := fun y j m z hy => by
          obtain ⟨g, gd, qs, a1, a2, a3, a4, a5⟩ := ih y j m z hy
          exact ⟨CX0, g, gd, qs, lv, a1, a2, a3, a4 base, room, a5, fun X' _ _ => pass0⟩
        room := by have := room.un; show (A.deeper _).units + 65 < _; omega }
    refine ⟨_, PSs.nox (sndSs c (locB_stores rfl fun _ => rfl) (by passes_own) ok.cv), H, O, _, O, fun _ _ => False, o, start_er r hO hl (fun i hi => frozen_eq (List.all_eq_true.mp ok.fr i (List.mem_range.mpr hi))), ⟨Same.refl H, fun _ _ z => z.elim, fun _ z => z, hO, fun _ z => .inl z⟩, e1, ?_⟩
    cases o with
    | rt d' =>
      cases e2
      rw [← h3] at q
      exact fun v H' s1 ro => q v H' s1 ro
    | nx ρ' =>
      intro σ' H' O' F' er fr _
      have e3 : (match t.ret with
        | .f => Res.ok PyData.none
        | _ => .bad) = .ok d := e2
      cases hr : t.ret with
      | l s' => rw [hr] at e3; cases e3
      | f =>
        rw [hr] at e3
        cases e3
        refine q .non H' fr.same ?_
        rw [← h3, hr]
        exact ⟨fun _ => False, fun _ z => z.elim, fun _ z => z, by rw [Dv]⟩
    | bk ρ' => cases e2
    | ct ρ' => cases e2
end
end Bk
/-! Bk: a law's end. -/
namespace Bk
open PySem PySem.Spec PyProof.Rows L2
section
variable {Pg : Program} {wd : World} {Kf : PySem.W.Frag} {gl gb : Str → Option Value} {sh : Shared} {la sa : Addr} {its : List Value} {nums : List Int}
/-- the law is called with its script, no guard around it -/
theorem call_true {lv : Nat} {fdd : FuncData} {pn : Str} {prom : Sp} (inK : Kf.In sh.heap) (nsM : sh.heap.Ns mainGlobals gl) (nsB : sh.heap.Ns builtinsNs gb) (bts : ∀ y : Str, y ≠ "__name__" → gb y = bootBuiltins y)
    (nol : sh.heap.NoLimit) (nog : sh.gens = #[]) (obj : sh.heap.get? sa = some { cls := .type "list", data := .seq its.toArray }) (are : IntsAre its nums) (few : nums.length ≤ sizeLine) (room : Room lv callerA)
    (fk : ∀ bs : Heap, Kf.In bs → bs.Ns mainGlobals gl → Fk Pg wd Kf gl bs CX0 lv la fdd [pn] prom) (bnd : ∀ v : Value, BindsTo sh fdd ⟨[v], []⟩ [(pn, v)])
    (pr : ∀ Hq : Hp, SqM Kf Hq sa (nums.map V.int) → prom [.ref sa] Hq (fun r _ => r = .bl true) E0) :
    codeAny (model Pg wd) callerA (.call (.ref la) ⟨[.ref sa], []⟩) (fun res sh' => res = .ok (.ret (.bool true)) ∧ OldK sh.heap sh'.heap ∧ sh'.os = sh.os ∧ AllBare sh'.gens) sh := by
  have vals := vals_ints are
  have eqLen := are.length
  have go : ∀ Hq : Hp, (∀ b, Hq b = none ∨ ∃ ob ys, Hq b = some (.frz ob (.lst ys))) → SqM Kf Hq sa (nums.map V.int) → HOk Pg wd Hq sh.heap → (∀ b, Hq b ≠ none → b = sa) → (Hq sa ≠ none → Kf.lookup sa = none) →
      codeAny (model Pg wd) callerA (.call (.ref la) ⟨[.ref sa], []⟩) (fun res sh' => res = .ok (.ret (.bool true)) ∧ OldK sh.heap sh'.heap ∧ sh'.os = sh.os ∧ AllBare sh'.gens) sh := by
    intro Hq fro isS okH one notK
    have low : ∀ {b : Addr} {ob : Obj}, sh.heap.get? b = some ob → Hq b = none → (hidT sh.heap Hq).get? b = some ob := fun p q => hidT_get p q
    have script : ∀ {b : Addr}, Hq b ≠ none → sh.heap.get? b = some { cls := .type "list", data := .seq its.toArray } := fun {b} q => by
      rw [one b q]
      exact obj
    have dictFree : ∀ {b : Addr} {ob : Obj} {ds : Array DictEntry} {j : Nat}, sh.heap.get? b = some ob → ob.data = .dict ds j → Hq b = none := fun {b ob ds j} p q => by
      by_cases z : Hq b = none
      · exact z
      · rw [script z] at p
        cases p
        cases q
    have carry : ∀ {b : Addr} {m : Str → Option Value}, sh.heap.Ns b m → (hidT sh.heap Hq).Ns b m := fun {b m} ⟨ob, ds, j, p, q, r⟩ => ⟨ob, ds, j, low p (dictFree p q), q, r⟩
    have inB : Kf.In (hidT sh.heap Hq) := fun b ob p => low (inK b ob p) (by
      by_cases z : Hq b = none
      · exact z
      · have e := one b z
        subst e
        rw [notK z] at p
        cases p)
    have md : Mod Kf gl (hidT sh.heap Hq) := ⟨inB, carry nsM, ⟨gb, carry nsB, bts⟩, let ⟨ml, p, q⟩ := nol; ⟨ml, carry p, q⟩⟩
    have en : Env0 Pg wd Kf gl (hidT sh.heap Hq) callerA [] sh Hq := ⟨rfl, md, fun b ob p => of_hidT p, Nat.le_of_eq (hidT_size _ _), trivial, fun b z => absurd (show b ∈ ([] : List Addr) from z) (by simp), okH, .of_eq nog⟩
    refine codeAny_mono ((fk _ inB (carry nsM)).run callerA [] sh Hq ⟨[.ref sa], []⟩ [.ref sa] [.ref sa] _ E0 room rfl en (bnd (.ref sa)) (.cons rfl .nil) (pr Hq isS)) fun res sh' h => ?_
    match res, h with
    | .error _, h => exact False.elim h
    | .ok .next, h => exact False.elim h
    | .ok .brk, h => exact False.elim h
    | .ok .cont, h => exact False.elim h
    | .ok (.ret u), ⟨v, H2, sameOs, bare, un, okH2, rel, (q : v = .bl true)⟩ =>
      subst q
      have eu : u = Value.bool true := rel
      subst eu
      refine ⟨rfl, OldK.of_keep fun b ob p => ?_, sameOs, bare⟩
      rcases fro b with z | ⟨ob2, ys, z⟩
      · exact un.keep b ob p z (fun y => absurd (show b ∈ ([] : List Addr) from y) (by simp)) (by simp)
      · have p2 := (okH b _ z).1
        rw [p] at p2
        cases p2
        exact (okH2 b _ (un.frzs b _ _ z)).1
  cases inside : Kf.lookup sa with
  | some ob =>
    have p := inK sa ob inside
    rw [obj] at p
    cases p
    refine go (fun _ => none) (fun _ => .inl rfl) ⟨by rw [List.length_map]; exact few, .inr ⟨its, _, inside, by rw [eqLen]; exact few, vals⟩⟩ (fun b u z => ?_) (fun b z => absurd rfl z) fun z => absurd rfl z
    cases (show (none : Option HO) = some u from z)
  | none =>
    have here : ∀ b : Addr, b = sa → (if b = sa then some (HO.frz { cls := .type "list", data := .seq its.toArray } (.lst (nums.map V.int))) else none) = some (.frz { cls := .type "list", data := .seq its.toArray } (.lst (nums.map V.int))) := fun b z => if_pos z
    refine go (fun b => if b = sa then some (.frz { cls := .type "list", data := .seq its.toArray } (.lst (nums.map V.int))) else none) (fun b => ?_) ⟨by rw [List.length_map]; exact few, .inl (.inr ⟨_, here sa rfl⟩)⟩ (fun b u z => ?_) (fun b z => ?_) fun _ => inside
    · by_cases hb : b = sa
      · exact .inr ⟨_, _, here b hb⟩
      · exact .inl (if_neg hb)
    · by_cases hb : b = sa
      · cases (here b hb).symm.trans z
        subst hb
        exact ⟨obj, by rw [List.length_map]; exact few, its, _, vals, obj⟩
      · cases (if_neg hb).symm.trans z
    · by_cases hb : b = sa
      · exact hb
      · exact absurd (if_neg hb) z
end
/-- an OpenLaw from the small language's word -/
theorem walk_bk {l : PySem.W.OpenLaw} {q : Program} {loose : List Str} {XP : (Str → Option Value) → Heap → Prop} {d : DefRec} {fa : List He.Fa} {fn : List He.DefD} {lv k : Nat} {lw : Str} {ids : List (Str × Nat × Nat × Sh)} {cs : List (Str × D)} {T : Nat → Option Fn}
    (few : l.most = some 63) (hdf : d.params.defaults = []) (room : Room lv callerA) (nm : d.name = lw) (hids : ids.lookup lw = some (k, 1, .f))
    (W : ∀ (K : PySem.W.Frag) (h : Heap) (mg : Str → Option Value), K.In h → h.Ns mainGlobals mg → He.SaysD fa fn K → World1 K mg ids cs T)
    (says : ∀ nums : List Int, nums.length ≤ 63 → (∀ i ∈ nums, Builtin.Int.intBits i ≤ 1048576) → callN T lv k [.list (nums.map .int)] = .ok (.bool true)) :
    PySem.W.WalkO q loose XP (fun _ h => ∃ K : PySem.W.Frag, K.In h ∧ He.SaysD fa fn K) l.row.toRowW d [] (fun f vs => PySem.call f vs) := by
  refine Att.attach_callB few hdf fun w s₀ s₁ mg mb la o pm cd doc sa vs ns G Y ho hd hcd hmg hobj hints hlen hbits hg => ?_
  obtain ⟨K, inK, c⟩ := Y
  have W1 := W K _ mg inK G.T.g c
  have sz : 63 ≤ sizeLine := by rw [sizeLine_eq]; omega
  obtain ⟨f, fd, ps, h1, h2, h3, h4, h5⟩ := all_fk (P := l.prog) (w := w) W1 lv lw k 1 .f hids
  rw [nm] at hmg
  cases hmg.symm.trans h1
  match ps, h3, h4, h5 with
  | [pn], _, h4, h5 =>
    refine call_true inK G.T.g G.T.b G.T.builtins G.T.nolimit hg hobj hints (Nat.le_trans hlen sz) room (fun bs _ _ => h4 bs) (fun v => h5 _ [v] inK rfl) fun Hq sq => ?_
    have e0 : hid Hq (fun _ => False) = Hq := by
      funext a
      unfold Bk.hid
      rw [if_neg (fun z => z)]
    refine ⟨fun _ => False, [.list (ns.map .int)], .bool true, ?_, fun _ z => z.elim, says ns hlen hbits, fun v H' _ r => ?_⟩
    · rw [e0, DvA]
      refine ⟨_, [], rfl, ?_, by rw [DvA]⟩
      rw [Dv]
      exact ⟨sa, _, rfl, sq, DvA.of_ints⟩
    · have := r.all
      rwa [Dv] at this
end Bk
/-! Bk: what one needs to reckon with the small language. -/
namespace Bk
open PySem
section
variable {C : Nat → List D → Res D} {ρ ρ' : En} {a b c e : E} {s t : S}
theorem look_cons {α β : Type} [BEq α] [LawfulBEq α] {x : α} {v : β} {y : α × β} {r : List (α × β)} {Q : α → β → Prop} (h : (y :: r).lookup x = some v) (h0 : Q y.1 y.2) (h1 : ∀ x v, r.lookup x = some v → Q x v) : Q x v := by
  obtain ⟨y1, y2⟩ := y
  rw [List.lookup_cons] at h
  split at h
  · rename_i hxy
    rw [beq_iff_eq] at hxy
    cases h
    subst hxy
    exact h0
  · exact h1 x v h
/-! ### statements -/
/-- one turn of a for; a while's test and turn -/
def turn (C : Nat → List D → Res D) (g : Tg) (s : S) : D → En → Res Out := fun x ρ => (tg1 g x ρ).bind fun ρ' => ex C s ρ'
def test (C : Nat → List D → Res D) (e : E) : En → Res Bool := fun ρ => (ev C e ρ).bind boolD
def body (C : Nat → List D → Res D) (s : S) : En → Res Out := fun ρ => ex C s ρ
def pick (C : Nat → List D → Res D) (g : Tg) (ρ : En) (c e : E) : D → Res (Option D) := lcF g ρ (fun ρ' => evc C c ρ') fun ρ' => ev C e ρ'
@[simp] theorem ex_nil : ex C .nil ρ = .ok (.nx ρ) := by simp only [ex]
@[simp] theorem ex_cons : ex C (.cons s t) ρ = (ex C s ρ).bind fun o => match o with
  | .nx ρ' => ex C t ρ'
  | o => .ok o := by simp only [ex] <;> rfl
@[simp] theorem ex_set {g : Tg} : ex C (.set g e) ρ = (ev C e ρ).bind fun d => (tg1 g d ρ).bind fun ρ' => .ok (.nx ρ') := by simp only [ex]
@[simp] theorem ex_own {i : Nat} : ex C (.own i e) ρ = (ev C e ρ).bind fun d => (listD d).bind fun xs => .ok (.nx (ρ.set i (some (.list xs)))) := by simp only [ex]
@[simp] theorem ex_aug {i : Nat} {o : BO} : ex C (.aug i o e) ρ = (getS ρ i).bind fun x => (ev C e ρ).bind fun y => (augD o x y).bind fun z => .ok (.nx (ρ.set i (some z))) := by simp only [ex]
@[simp] theorem ex_app : ex C (.app a e) ρ = (ev C e ρ).bind fun x => turnS C a (appD x) ρ := by simp only [ex]
@[simp] theorem ex_put {i : E} : ex C (.put a i e) ρ = (ev C e ρ).bind fun x => (ev C i ρ).bind fun j => turnS C a (putD j x) ρ := by simp only [ex]
@[simp] theorem ex_pau {i : E} {o : BO} : ex C (.pau a i o e) ρ = (ev C i ρ).bind fun j => (ev C e ρ).bind fun x => turnS C a (pauD o j x) ρ := by simp only [ex]
@[simp] theorem ex_ret : ex C (.ret e) ρ = (ev C e ρ).bind fun d => .ok (.rt d) := by simp only [ex]
@[simp] theorem ex_rtl : ex C (.rtl e) ρ = (ev C e ρ).bind fun d => (listD d).bind fun xs => .ok (.rt (.list xs)) := by simp only [ex]
@[simp] theorem ex_ife : ex C (.ife e s t) ρ = (ev C e ρ).bind fun x => (boolD x).bind fun c => if c then ex C s ρ else ex C t ρ := by simp only [ex]
@[simp] theorem ex_for {g : Tg} : ex C (.for_ g e s) ρ = (evi C e ρ).bind fun xs => forL (turn C g s) xs ρ := by simp only [ex]; rfl
@[simp] theorem ex_whl : ex C (.whl e s) ρ = whL (test C e) (body C s) fuel ρ := by simp only [ex]; rfl
@[simp] theorem ex_brk : ex C .brk ρ = .ok (.bk ρ) := by simp only [ex]
@[simp] theorem ex_cnt : ex C .cnt ρ = .ok (.ct ρ) := by simp only [ex]
@[simp] theorem ex_pas : ex C .pas ρ = .ok (.nx ρ) := by simp only [ex]
@[simp] theorem ex_exp : ex C (.exp e) ρ = (ev C e ρ).bind fun _ => .ok (.nx ρ) := by simp only [ex]
/-! ### expressions -/
@[simp] theorem ev_v {i : Nat} : ev C (.v i) ρ = getS ρ i := by simp only [ev]
@[simp] theorem ev_k {d : D} : ev C (.k d) ρ = .ok d := by simp only [ev]
@[simp] theorem ev_op {o : BO} : ev C (.op o a b) ρ = (ev C a ρ).bind fun x => (ev C b ρ).bind fun y => opD o x y := by simp only [ev]
@[simp] theorem ev_neg : ev C (.neg a) ρ = (ev C a ρ).bind negD := by simp only [ev]
@[simp] theorem ev_cmp {o : CO} : ev C (.cmp o a b) ρ = (ev C a ρ).bind fun x => (ev C b ρ).bind fun y => (cmpD o x y).bind fun b => .ok (.bool b) := by simp only [ev]
@[simp] theorem ev_chn {o p : CO} : ev C (.chn o p a b c) ρ = (ev C a ρ).bind fun x => (ev C b ρ).bind fun y => (cmpD o x y).bind fun b =>
      if b then (ev C c ρ).bind fun z => (cmpD p y z).bind fun b => .ok (.bool b) else .ok (.bool false) := by simp only [ev]
@[simp] theorem ev_and : ev C (.and a b) ρ = (ev C a ρ).bind fun x => (boolD x).bind fun c => if c then ev C b ρ else .ok (.bool false) := by simp only [ev]
@[simp] theorem ev_or : ev C (.or a b) ρ = (ev C a ρ).bind fun x => (boolD x).bind fun c => if c then .ok (.bool true) else ev C b ρ := by simp only [ev]
@[simp] theorem ev_not : ev C (.not a) ρ = (ev C a ρ).bind fun x => (boolD x).bind fun c => .ok (.bool !c) := by simp only [ev]
@[simp] theorem ev_ife : ev C (.ife c a b) ρ = (ev C c ρ).bind fun x => (boolD x).bind fun c => if c then ev C a ρ else ev C b ρ := by simp only [ev]
@[simp] theorem ev_ix : ev C (.ix a b) ρ = (ev C a ρ).bind fun x => (ev C b ρ).bind fun y => ixD x y := by simp only [ev]
@[simp] theorem ev_sl : ev C (.sl a b c) ρ = (ev C a ρ).bind fun x => (evo C b ρ).bind fun i => (evo C c ρ).bind fun j => slD x i j := by simp only [ev]
@[simp] theorem ev_tup : ev C (.tup e) ρ = (evs C e ρ).bind fun xs => .ok (.tuple xs) := by simp only [ev]
@[simp] theorem ev_lst : ev C (.lst e) ρ = (evs C e ρ).bind fun xs => .ok (.list xs) := by simp only [ev]
@[simp] theorem ev_dct : ev C (.dct .nil .nil) ρ = .ok (.dict []) := by simp only [ev]
@[simp] theorem ev_call {f : Nat} : ev C (.call f e) ρ = (evs C e ρ).bind fun xs => C f xs := by simp only [ev]
@[simp] theorem ev_cb {f : Nat} : ev C (.cb f e) ρ = (evs C e ρ).bind fun xs => (C f xs).bind fun d => if flat d then .ok d else .bad := by simp only [ev]
@[simp] theorem ev_bi {o : Bi} : ev C (.bi o e) ρ = (evs C e ρ).bind fun xs => biD o xs := by simp only [ev]
@[simp] theorem ev_isi {t : Ty} : ev C (.isi a t) ρ = (ev C a ρ).bind fun x => .ok (.bool (isiD x t)) := by simp only [ev]
@[simp] theorem ev_lc {g : Tg} : ev C (.lc g a c e) ρ = (evi C a ρ).bind fun xs => (lcL (pick C g ρ c e) xs).bind fun ys => .ok (.list ys) := by simp only [ev]; rfl
@[simp] theorem evs_nil : evs C .nil ρ = .ok [] := by simp only [evs]
@[simp] theorem evs_cons : evs C (.cons a b) ρ = (ev C a ρ).bind fun x => (evs C b ρ).bind fun xs => .ok (x :: xs) := by simp only [evs]
@[simp] theorem evo_nil : evo C .nil ρ = .ok none := by simp only [evo]
@[simp] theorem evo_cons : evo C (.cons a b) ρ = (ev C a ρ).bind fun x => (intD x).bind fun i => .ok (some i) := by simp only [evo]
@[simp] theorem evc_nil : evc C .nil ρ = .ok true := by simp only [evc]
@[simp] theorem evc_cons : evc C (.cons a b) ρ = (ev C a ρ).bind boolD := by simp only [evc]
@[simp] theorem evi_rng : evi C (.rng e) ρ = (evs C e ρ).bind rngD := by simp only [evi]
@[simp] theorem evi_enm : evi C (.enm a) ρ = (ev C a ρ).bind fun x => match x with
    | .list xs => .ok (enmD 0 xs)
    | _ => .bad := by simp only [evi] <;> rfl
@[simp] theorem evi_zip : evi C (.zip a b) ρ = (ev C a ρ).bind fun x => (ev C b ρ).bind fun y => match x, y with
    | .list xs, .list ys => .ok (zipD xs ys)
    | _, _ => .bad := by simp only [evi] <;> rfl
@[simp] theorem evi_cons : evi C (.cons a b) ρ = (ev C a ρ).bind fun x => match x with
    | .list xs => .ok xs
    | .tuple xs => .ok xs
    | _ => .bad := by simp only [evi] <;> rfl
/-! ### slots -/
@[simp] theorem getS_0 {d : D} {r : En} : getS (some d :: r) 0 = .ok d := rfl
@[simp] theorem getS_s {o : Option D} {r : En} {i : Nat} : getS (o :: r) (i + 1) = getS r i := rfl
@[simp] theorem tg1_n {i : Nat} {d : D} : tg1 (.n i) d ρ = .ok (ρ.set i (some d)) := rfl
@[simp] theorem tg1_tt {t : Tg} {xs : List D} : tg1 (.t t) (.tuple xs) ρ = tgs t xs ρ := by simp [tg1, tgs, itemsD]
@[simp] theorem tg1_tl {t : Tg} {xs : List D} : tg1 (.t t) (.list xs) ρ = tgs t xs ρ := by simp [tg1, tgs, itemsD]
@[simp] theorem tgs_nil : tgs .nil [] ρ = .ok ρ := by simp only [tgs]
@[simp] theorem tgs_cons {t r : Tg} {x : D} {xs : List D} : tgs (.cons t r) (x :: xs) ρ = (tg1 t x ρ).bind fun ρ' => tgs r xs ρ' := by simp only [tgs, tg1]
@[simp] theorem listD_l {xs : List D} : listD (.list xs) = .ok xs := rfl
@[simp] theorem boolD_b {k : Bool} : boolD (.bool k) = .ok k := rfl
@[simp] theorem intD_i {i : Int} : intD (.int i) = .ok i := rfl
/-! ### operations -/
@[simp] theorem op_add {i j : Int} : opD .add (.int i) (.int j) = .ok (.int (i + j)) := rfl
@[simp] theorem op_sub {i j : Int} : opD .sub (.int i) (.int j) = .ok (.int (i - j)) := rfl
theorem op_mul {i j : Int} (h : (-(2 ^ 64) < i ∧ i < 2 ^ 64) ∨ (-(2 ^ 64) < j ∧ j < 2 ^ 64)) : opD .mul (.int i) (.int j) = .ok (.int (i * j)) := by
  have e : mulOk i j = true := by
    unfold mulOk
    rcases h with ⟨h1, h2⟩ | ⟨h1, h2⟩
    · rw [decide_eq_true h1, decide_eq_true h2]; rfl
    · rw [decide_eq_true h1, decide_eq_true h2]; simp
  simp only [opD, mulD, e, if_true]
theorem op_fdiv {i j : Int} (h1 : 0 < j) (h2 : j < 10 ^ 70) : opD .fdiv (.int i) (.int j) = .ok (.int (i / j)) := by
  simp only [opD, opI, decide_eq_true h1, decide_eq_true h2, Bool.and_self, if_true]
theorem op_mod {i j : Int} (h1 : 0 < j) : opD .mod (.int i) (.int j) = .ok (.int (i % j)) := by
  simp only [opD, opI, if_pos h1]
theorem op_pow {i : Int} {j : Nat} (h1 : j ≤ 100000) (h2 : -(2 ^ 64) < i) (h3 : i < 2 ^ 64) : opD .pow (.int i) (.int j) = .ok (.int (i ^ j)) := by
  have e1 : decide ((0 : Int) ≤ j) = true := decide_eq_true (by omega)
  have e2 : decide ((j : Int) ≤ 100000) = true := decide_eq_true (by omega)
  have e3 : decide (i.natAbs < 2 ^ 64) = true := decide_eq_true (by omega)
  simp only [opD, opI, e1, e2, e3, Bool.and_self, if_true, Int.toNat_natCast]
@[simp] theorem op_addL {xs ys : List D} (h : xs.length + ys.length ≤ most) : opD .add (.list xs) (.list ys) = .ok (.list (xs ++ ys)) := by
  simp only [opD, addD, if_pos h]
@[simp] theorem neg_i {i : Int} : negD (.int i) = .ok (.int (-i)) := rfl
@[simp] theorem cmp_lt {i j : Int} : cmpD .lt (.int i) (.int j) = .ok (decide (i < j)) := rfl
@[simp] theorem cmp_le {i j : Int} : cmpD .le (.int i) (.int j) = .ok (decide (i ≤ j)) := rfl
@[simp] theorem cmp_gt {i j : Int} : cmpD .gt (.int i) (.int j) = .ok (decide (j < i)) := rfl
@[simp] theorem cmp_ge {i j : Int} : cmpD .ge (.int i) (.int j) = .ok (decide (j ≤ i)) := rfl
theorem cmp_eqD {x y : D} (h1 : SeqAt.shaped x = true) (h2 : SeqAt.shaped y = true) : cmpD .eq x y = .ok (PyData.eqv x y) := by
  show eqD _ _ = _
  unfold eqD
  rw [h1, h2]
  rfl
@[simp] theorem sh_int {i : Int} : SeqAt.shaped (.int i) = true := by simp [SeqAt.shaped, PyData.canLay0, PyData.depth]
@[simp] theorem cmp_eq {i j : Int} : cmpD .eq (.int i) (.int j) = .ok (decide (i = j)) := by
  rw [cmp_eqD sh_int sh_int, PyData.eqv]
  rfl
theorem cmp_eqS {x y : Str} : cmpD .eq (.str x) (.str y) = .ok (decide (x = y)) := by
  show eqD _ _ = _
  unfold eqD
  split
  · rw [PyData.eqv]
    rfl
  · rfl
theorem cmp_neD {x y : D} (h1 : SeqAt.shaped x = true) (h2 : SeqAt.shaped y = true) : cmpD .ne x y = .ok (!PyData.eqv x y) := by
  show (eqD _ _).not = _
  unfold eqD
  rw [h1, h2]
  rfl
@[simp] theorem is_none {x : D} (h : x = .none) : isD x .none = .ok true := by rw [h]; rfl
@[simp] theorem len_l {xs : List D} : biD .len [.list xs] = .ok (.int xs.length) := rfl
@[simp] theorem len_t {xs : List D} : biD .len [.tuple xs] = .ok (.int xs.length) := rfl
@[simp] theorem max_ii {i j : Int} : biD .max [.int i, .int j] = .ok (.int (if j > i then j else i)) := rfl
@[simp] theorem min_ii {i j : Int} : biD .min [.int i, .int j] = .ok (.int (if j < i then j else i)) := rfl
theorem pl_nat {n i : Nat} : pl n (i : Int) = i := by
  unfold pl
  rw [if_pos (by omega)]
  simp
theorem ix_nat {xs : List D} {i : Nat} {d : D} (h : xs[i]? = some d) : ixD (.list xs) (.int i) = .ok d := by
  simp only [ixD, getD, pl_nat, h]
theorem ix_natT {xs : List D} {i : Nat} {d : D} (h : xs[i]? = some d) : ixD (.tuple xs) (.int i) = .ok d := by
  simp only [ixD, getD, pl_nat, h]
theorem rng_n {n : Nat} (h : n ≤ 8000000) : rngD [.int n] = .ok (upto 0 n) := by
  have e : smallI (n : Int) = true := by
    unfold smallI
    rw [decide_eq_true (by omega), decide_eq_true (by omega)]
    rfl
  simp only [rngD, e, if_true, Int.toNat_natCast]
/-! ### loops -/
theorem forL_inv {f : D → En → Res Out} (I : Nat → En → Prop) : ∀ (xs : List D) (k : Nat) (ρ : En), I k ρ → (∀ i x ρ, xs[i]? = some x → I (k + i) ρ → ∃ ρ', (f x ρ = .ok (.nx ρ') ∨ f x ρ = .ok (.ct ρ')) ∧ I (k + i + 1) ρ') →
    ∃ ρ', forL f xs ρ = .ok (.nx ρ') ∧ I (k + xs.length) ρ'
  | [], k, ρ, h, _ => ⟨ρ, rfl, h⟩
  | x :: xs, k, ρ, h, hs => by
    obtain ⟨ρ1, h1, h2⟩ := hs 0 x ρ rfl h
    obtain ⟨ρ2, h3, h4⟩ := forL_inv I xs (k + 1) ρ1 h2 fun i y ρ hy hi => by
      have := hs (i + 1) y ρ (by simpa using hy) (by rw [Nat.add_assoc, Nat.add_comm 1] at hi; exact hi)
      rw [Nat.add_assoc k 1 i, Nat.add_comm 1 i]
      exact this
    refine ⟨ρ2, ?_, by rw [List.length_cons, Nat.add_comm xs.length, ← Nat.add_assoc]; exact h4⟩
    rcases h1 with h1 | h1 <;> simp only [forL, h1, Res.bind_ok, h3]
theorem call_T {T : Nat → Option Fn} {n k : Nat} {vs : List D} {fn : Fn} (h : T k = some fn) : callN T (n + 1) k vs = runF (callN T n) fn vs := by simp only [callN, h]
@[simp] theorem bind_if {α β : Type} {p : Bool} {x y : Res α} {f : α → Res β} : (if p = true then x else y).bind f = if p = true then x.bind f else y.bind f := by cases p <;> rfl
theorem runF_eq {C : Nat → List D → Res D} {fn : Fn} {vs : List D} (h : vs.length = fn.np) : runF C fn vs = (ex C fn.body (vs.map some ++ List.replicate (fn.ns - vs.length) none)).bind fun o => match o with
    | .rt d => .ok d
    | .nx _ => (match fn.ret with
      | .f => .ok .none
      | _ => .bad)
    | _ => .bad := by
  unfold runF
  rw [if_pos h] <;> rfl
/-! ### places by figures -/
def getN (xs : List D) (n : Nat) : Res D := match xs[n]? with
  | some d => .ok d
  | none => .bad
@[simp] theorem getN_0 {x : D} {xs : List D} : getN (x :: xs) 0 = .ok x := rfl
@[simp] theorem getN_s {x : D} {xs : List D} {n : Nat} : getN (x :: xs) (n + 1) = getN xs n := rfl
theorem ixN_l {xs : List D} {n : Nat} : ixD (.list xs) (.int n) = getN xs n := by
  simp only [ixD, getD, pl_nat, getN] <;> rfl
theorem ixN_t {xs : List D} {n : Nat} : ixD (.tuple xs) (.int n) = getN xs n := by
  simp only [ixD, getD, pl_nat, getN] <;> rfl
@[simp] theorem ixL_l {xs : List D} {n : Nat} : ixD (.list xs) (.int (no_index (OfNat.ofNat n))) = getN xs (OfNat.ofNat n) := ixN_l
@[simp] theorem ixL_t {xs : List D} {n : Nat} : ixD (.tuple xs) (.int (no_index (OfNat.ofNat n))) = getN xs (OfNat.ofNat n) := ixN_t
/-! ### shapes -/
@[simp] theorem sh_none : SeqAt.shaped .none = true := by simp [SeqAt.shaped, PyData.canLay0, PyData.depth]
@[simp] theorem sh_bool {b : Bool} : SeqAt.shaped (.bool b) = true := by simp [SeqAt.shaped, PyData.canLay0, PyData.depth]
mutual
/-- lists and tuples n deep at most, without texts -/
def plain : Nat → D → Bool
  | _, .none => true
  | _, .bool _ => true
  | _, .int _ => true
  | n + 1, .list xs => plains n xs
  | n + 1, .tuple xs => plains n xs
  | _, _ => false
def plains : Nat → List D → Bool
  | _, [] => true
  | n, x :: xs => plain n x && plains n xs
end
mutual
theorem plain_lay : ∀ (n : Nat) (d : D), plain n d = true → d.canLay0 = true ∧ d.depth ≤ n
  | _, .none, _ => by simp [PyData.canLay0, PyData.depth]
  | _, .bool _, _ => by simp [PyData.canLay0, PyData.depth]
  | _, .int _, _ => by simp [PyData.canLay0, PyData.depth]
  | 0, .list _, h => by simp [plain] at h
  | 0, .tuple _, h => by simp [plain] at h
  | n + 1, .list xs, h => by
    have := plains_lay n xs (by simpa [plain] using h)
    simp [PyData.canLay0, PyData.depth, this]
  | n + 1, .tuple xs, h => by
    have := plains_lay n xs (by simpa [plain] using h)
    simp [PyData.canLay0, PyData.depth, this]
  | 0, .str _, h => by simp [plain] at h
  | n + 1, .str _, h => by simp [plain] at h
  | 0, .dict _, h => by simp [plain] at h
  | n + 1, .dict _, h => by simp [plain] at h
theorem plains_lay : ∀ (n : Nat) (xs : List D), plains n xs = true → PyData.canLayAll0 xs = true ∧ PyData.depthAll xs ≤ n
  | _, [], _ => by simp [PyData.canLayAll0, PyData.depthAll]
  | n, x :: xs, h => by
    simp only [plains, Bool.and_eq_true] at h
    have h1 := plain_lay n x h.1
    have h2 := plains_lay n xs h.2
    simp only [PyData.canLayAll0, PyData.depthAll, h1.1, h2.1, Bool.and_self, true_and]
    omega
end
theorem sh_plain {n : Nat} {d : D} (h : plain n d = true) (hn : n ≤ 64) : SeqAt.shaped d = true := by
  have := plain_lay n d h
  unfold SeqAt.shaped
  rw [this.1, decide_eq_true (by omega)]
  rfl
end
end Bk
/-! Bk: the digits that all the laws draw from a cell. -/
namespace Bk
open PySem
def numsB : S :=
  (.cons (.ife (.and (.cmp .ge (.v 3) (.op .pow (.k (.int 10)) (.k (.int 18)))) (.cmp .gt (.v 4) (.k (.int 0))))
    (.cons (.app (.v 5) (.op .mod (.v 4) (.ix (.v 2) (.v 6))))
    (.cons (.set (.n 4) (.op .fdiv (.v 4) (.ix (.v 2) (.v 6))))
    .nil))
    (.cons (.set (.n 7) (.op .mod (.op .pow (.op .add (.op .add (.op .mod (.v 3) (.k (.int 2147483629))) (.op .mul (.k (.int 7919)) (.v 1))) (.k (.int 1))) (.k (.int 3))) (.k (.int 2147483647))))
    (.cons (.set (.n 7) (.op .mod (.op .mul (.op .add (.v 7) (.op .mul (.k (.int 104729)) (.op .add (.v 6) (.k (.int 1))))) (.op .add (.v 6) (.k (.int 3)))) (.k (.int 2147483629))))
    (.cons (.set (.n 7) (.op .mod (.op .mul (.op .mod (.op .pow (.v 7) (.k (.int 5))) (.k (.int 2147483647))) (.k (.int 48271))) (.k (.int 2147483629))))
    (.cons (.app (.v 5) (.op .mod (.op .fdiv (.v 7) (.k (.int 16))) (.ix (.v 2) (.v 6))))
    .nil)))))
  .nil)
def numsC : S :=
  (.cons (.set (.n 3) (.bi .max (.cons (.v 0) (.cons (.op .sub (.neg (.k (.int 1))) (.v 0)) .nil))))
  (.cons (.set (.n 4) (.v 3))
  (.cons (.own 5 (.lst .nil))
  (.cons (.for_ (.n 6) (.rng (.cons (.bi .len (.cons (.v 2) .nil)) .nil)) numsB)
  (.cons (.ret (.v 5))
  .nil)))))
def numsF (r : Sh) : Fn := ⟨3, 8, [.f, .f, .f, .f, .f, .l .f, .f, .f], numsC, r⟩
/-- each digit lies below its size -/
def Below : List Int → List Int → Prop
  | [], [] => True
  | d :: ds, s :: ss => (0 ≤ d ∧ d < s) ∧ Below ds ss
  | _, _ => False
theorem Below.len : ∀ {ds ss : List Int}, Below ds ss → ds.length = ss.length
  | [], [], _ => rfl
  | d :: ds, s :: ss, h => by simp [Below.len h.2]
  | [], _ :: _, h => h.elim
  | _ :: _, [], h => h.elim
theorem Below.snoc : ∀ {ds ss : List Int} {d s : Int}, Below ds ss → 0 ≤ d → d < s → Below (ds ++ [d]) (ss ++ [s])
  | [], [], d, s, _, h1, h2 => ⟨⟨h1, h2⟩, trivial⟩
  | a :: ds, b :: ss, d, s, h, h1, h2 => ⟨h.1, Below.snoc h.2 h1 h2⟩
  | [], _ :: _, _, _, h, _, _ => h.elim
  | _ :: _, [], _, _, h, _, _ => h.elim
theorem take_snoc {α : Type} {xs : List α} {i : Nat} {x : α} (h : xs[i]? = some x) : xs.take (i + 1) = xs.take i ++ [x] := by
  have hl := (List.getElem?_eq_some_iff.mp h)
  obtain ⟨h1, h2⟩ := hl
  rw [List.take_succ_eq_append_getElem h1, h2]
theorem turn_nil {f : D → Res D} {d : D} : turnD f [] d = f d := by simp only [turnD]
theorem app_v {C : Nat → List D → Res D} {ρ : En} {i : Nat} {xs : List D} {x : D} (h : getS ρ i = .ok (.list xs)) (hl : xs.length < most) : turnS C (.v i) (appD x) ρ = .ok (.nx (ρ.set i (some (.list (xs ++ [x]))))) := by
  simp only [turnS, pathE, Res.bind_ok, h, turn_nil, appD, if_pos hl]
theorem pow_ii {i j : Int} (h0 : 0 ≤ j) (h1 : j ≤ 100000) (h2 : -(2 ^ 64) < i) (h3 : i < 2 ^ 64) : opD .pow (.int i) (.int j) = .ok (.int (i ^ j.toNat)) := by
  have e3 : decide (i.natAbs < 2 ^ 64) = true := decide_eq_true (by omega)
  simp only [opD, opI, decide_eq_true h0, decide_eq_true h1, e3, Bool.and_self, if_true]
theorem getElem_map_int {xs : List Int} {i : Nat} {s : Int} (h : xs[i]? = some s) : (xs.map PyData.int)[i]? = some (.int s) := by
  rw [List.getElem?_map, h]
  rfl
theorem nums_loop (C : Nat → List D → Res D) (cell salt number : Int) (sizes : List Int) (h0 : 0 ≤ salt) (h1 : salt ≤ 1000000) (hs : ∀ s ∈ sizes, 0 < s ∧ s < 10 ^ 70) (hl : sizes.length ≤ 1000) (hp : 0 ≤ number) :
    ∃ (left : Int) (found : List Int) (k one : Option D), forL (turn C (.n 6) numsB) (upto 0 sizes.length) [some (.int cell), some (.int salt), some (.list (sizes.map .int)), some (.int number), some (.int number), some (.list []), none, none] =
      .ok (.nx [some (.int cell), some (.int salt), some (.list (sizes.map .int)), some (.int number), some (.int left), some (.list (found.map .int)), k, one]) ∧ Below found sizes := by
  have key := forL_inv (f := turn C (.n 6) numsB)
    (fun i ρ => ∃ (left : Int) (found : List Int) (k one : Option D), ρ = [some (.int cell), some (.int salt), some (.list (sizes.map .int)), some (.int number), some (.int left), some (.list (found.map .int)), k, one] ∧ 0 ≤ left ∧ Below found (sizes.take i))
    (upto 0 sizes.length) 0 [some (.int cell), some (.int salt), some (.list (sizes.map .int)), some (.int number), some (.int number), some (.list []), none, none] ⟨number, [], none, none, rfl, hp, by simp [Below]⟩ (by
    rintro i x _ hx ⟨left, found, k, one, rfl, h3, h4⟩
    rw [Nat.zero_add] at h4
    have hlt : i < sizes.length := by
      have := (List.getElem?_eq_some_iff.mp hx).1
      rwa [upto_len] at this
    rw [upto_get _ _ _ hlt] at hx
    cases hx
    obtain ⟨s, hs1⟩ : ∃ s, sizes[i]? = some s := ⟨sizes[i], by simp [hlt]⟩
    obtain ⟨hs2, hs3⟩ := hs s (List.mem_of_getElem? hs1)
    have hfl := h4.len
    rw [List.length_take, Nat.min_eq_left (by omega)] at hfl
    have mst : most = 16777216 := rfl
    simp only [Int.zero_add, Nat.zero_add]
    have ix1 : ixD (.list (sizes.map .int)) (.int i) = .ok (.int s) := ix_nat (getElem_map_int hs1)
    simp only [turn, numsB, tg1_n, List.set, Res.bind_ok, ex_cons, ex_ife, ev_and, ev_cmp, ev_v, getS_0, getS_s, ev_op, ev_k]
    rw [pow_ii (by omega) (by omega) (by omega) (by omega)]
    simp only [Res.bind_ok, cmp_ge, cmp_gt, boolD_b, Int.reduceToNat]
    by_cases hc : (10 : Int) ^ 18 ≤ number ∧ 0 < left
    · simp only [decide_eq_true hc.1, decide_eq_true hc.2, if_true, Res.bind_ok, boolD_b, ex_cons, ex_app, ev_op, ev_ix, ev_v, getS_0, getS_s, ix1, op_mod hs2, ex_set, op_fdiv hs2 hs3, ex_nil]
      rw [app_v (xs := found.map .int) rfl (by rw [List.length_map]; omega)]
      simp only [Res.bind_ok, List.set, getS_0, getS_s, ix1, op_fdiv hs2 hs3, tg1_n, ex_nil]
      refine ⟨_, .inl rfl, left / s, found ++ [left % s], _, _, by rw [List.map_append]; rfl, Int.ediv_nonneg h3 (by omega), ?_⟩
      rw [take_snoc hs1]
      exact h4.snoc (Int.emod_nonneg _ (by omega)) (Int.emod_lt_of_pos _ hs2)
    · have hf : (if decide ((10 : Int) ^ 18 ≤ number) = true then Res.ok (PyData.bool (decide (0 < left))) else .ok (.bool false)) = .ok (.bool false) := by
        by_cases h5 : (10 : Int) ^ 18 ≤ number
        · rw [if_pos (by simpa using h5), decide_eq_false (fun z => hc ⟨h5, z⟩)]
        · rw [if_neg (by simpa using h5)]
      simp only [hf, Res.bind_ok, boolD_b, Bool.false_eq_true, if_false, ex_cons, ex_set, ev_op, ev_v, ev_k, getS_0, getS_s, op_add, tg1_n, List.set]
      have n1 := Int.emod_nonneg number (b := 2147483629) (by omega)
      have n2 := Int.emod_lt_of_pos number (b := 2147483629) (by omega)
      rw [op_mod (by omega)]
      simp only [Res.bind_ok]
      rw [op_mul (by omega)]
      simp only [Res.bind_ok, op_add]
      rw [pow_ii (by omega) (by omega) (by omega) (by omega)]
      simp only [Res.bind_ok]
      rw [op_mod (by omega)]
      simp only [Res.bind_ok, ex_cons, ex_set, ev_op, ev_v, ev_k, getS_0, getS_s, op_add, tg1_n, List.set]
      generalize h9 : (number % 2147483629 + 7919 * salt + 1) ^ (3 : Int).toNat % 2147483647 = x1
      have n3 : 0 ≤ x1 := by rw [← h9]; exact Int.emod_nonneg _ (by omega)
      have n4 : x1 < 2147483647 := by rw [← h9]; exact Int.emod_lt_of_pos _ (by omega)
      rw [op_mul (by omega)]
      simp only [Res.bind_ok, op_add]
      rw [op_mul (by omega)]
      simp only [Res.bind_ok]
      rw [op_mod (by omega)]
      simp only [Res.bind_ok, ex_cons, ex_set, ev_op, ev_v, ev_k, getS_0, getS_s, op_add, tg1_n, List.set]
      generalize h10 : (x1 + 104729 * ((i : Int) + 1)) * ((i : Int) + 3) % 2147483629 = x2
      have n5 : 0 ≤ x2 := by rw [← h10]; exact Int.emod_nonneg _ (by omega)
      have n6 : x2 < 2147483629 := by rw [← h10]; exact Int.emod_lt_of_pos _ (by omega)
      rw [pow_ii (by omega) (by omega) (by omega) (by omega)]
      simp only [Res.bind_ok]
      rw [op_mod (by omega)]
      simp only [Res.bind_ok]
      rw [op_mul (by omega)]
      simp only [Res.bind_ok]
      rw [op_mod (by omega)]
      simp only [Res.bind_ok, ex_cons, ex_app, ev_op, ev_v, ev_k, ev_ix, getS_0, getS_s, ix1]
      generalize x2 ^ (5 : Int).toNat % 2147483647 * 48271 % 2147483629 = x3
      rw [op_fdiv (by omega) (by omega)]
      simp only [Res.bind_ok, op_mod hs2]
      rw [app_v (xs := found.map .int) rfl (by rw [List.length_map]; omega)]
      simp only [Res.bind_ok, List.set, ex_nil]
      refine ⟨_, .inl rfl, left, found ++ [x3 / 16 % s], _, _, by rw [List.map_append]; rfl, h3, ?_⟩
      rw [take_snoc hs1]
      exact h4.snoc (Int.emod_nonneg _ (by omega)) (Int.emod_lt_of_pos _ hs2))
  obtain ⟨ρ, e, left, found, k, one, rfl, h3, h4⟩ := key
  rw [upto_len, Nat.zero_add, List.take_length] at h4
  exact ⟨left, found, k, one, e, h4⟩
theorem nums_ok (C : Nat → List D → Res D) (cell salt : Int) (sizes : List Int) (r : Sh) (h0 : 0 ≤ salt) (h1 : salt ≤ 1000000) (hs : ∀ s ∈ sizes, 0 < s ∧ s < 10 ^ 70) (hl : sizes.length ≤ 1000) :
    ∃ ds : List Int, runF C (numsF r) [.int cell, .int salt, .list (sizes.map .int)] = .ok (.list (ds.map .int)) ∧ Below ds sizes := by
  unfold runF
  rw [if_pos (by rfl)]
  simp only [numsF, numsC, List.length_cons, List.length_nil]
  simp only [ex_cons, ex_set, ev_bi, evs_cons, ev_v, List.map, List.replicate, List.cons_append, List.nil_append, getS_0, getS_s, Res.bind_ok, ev_op, ev_neg, ev_k, neg_i, op_sub, evs_nil, max_ii, tg1_n, List.set, ex_own, ev_lst, listD_l, ex_for, evi_rng, len_l, List.length_map]
  rw [rng_n (by omega)]
  simp only [Res.bind_ok]
  generalize hn : (if -1 - cell > cell then -1 - cell else cell) = number
  have hpos : 0 ≤ number := by rw [← hn]; split <;> omega
  obtain ⟨left, found, k, one, e, h⟩ := nums_loop C cell salt number sizes h0 h1 hs hl hpos
  rw [e]
  simp only [Res.bind_ok, ex_cons, ex_ret, ev_v, getS_0, getS_s]
  exact ⟨found, rfl, h⟩
end Bk
/-! Bk: the codes of the defs that stand in more than one law. -/
namespace Bk.Pr
open PySem
def n_is_whole : List Str := ["thing"]
def m_is_whole : List Sh := [Sh.f]
def c_is_whole : S :=
  (.cons (.ret (.and (.isi (.v 0) .int) (.not (.isi (.v 0) .bool))))
  .nil)
/-- is_whole(thing) -/
def f_is_whole : Fn := ⟨1, 1, m_is_whole, c_is_whole, Sh.f⟩
def n_is_within : List Str := ["thing", "least", "most"]
def m_is_within : List Sh := [Sh.f, Sh.f, Sh.f]
def c_is_within : S :=
  (.cons (.ret (.and (.call 1 (.cons (.v 0) .nil)) (.chn .le .le (.v 1) (.v 0) (.v 2))))
  .nil)
/-- is_within(thing, least, most) -/
def f_is_within : Fn := ⟨3, 3, m_is_within, c_is_within, Sh.f⟩
def n_is_number : List Str := ["thing"]
def m_is_number : List Sh := [Sh.f]
def c_is_number : S :=
  (.cons (.ret (.call 2 (.cons (.v 0) (.cons (.k (.int 0)) (.cons (.k (.int 1000000000)) .nil)))))
  .nil)
/-- is_number(thing) -/
def f_is_number : Fn := ⟨1, 1, m_is_number, c_is_number, Sh.f⟩
def n__law_numbers : List Str := ["cell", "salt", "sizes", "number", "left", "found", "k", "one"]
def m__law_numbers : List Sh := [Sh.f, Sh.f, Sh.f, Sh.f, Sh.f, (Sh.l Sh.f), Sh.f, Sh.f]
def b1__law_numbers : S :=
  (.cons (.ife (.and (.cmp .ge (.v 3) (.op .pow (.k (.int 10)) (.k (.int 18)))) (.cmp .gt (.v 4) (.k (.int 0))))
    (.cons (.app (.v 5) (.op .mod (.v 4) (.ix (.v 2) (.v 6))))
    (.cons (.set (.n 4) (.op .fdiv (.v 4) (.ix (.v 2) (.v 6))))
    .nil))
    (.cons (.set (.n 7) (.op .mod (.op .pow (.op .add (.op .add (.op .mod (.v 3) (.k (.int 2147483629))) (.op .mul (.k (.int 7919)) (.v 1))) (.k (.int 1))) (.k (.int 3))) (.k (.int 2147483647))))
    (.cons (.set (.n 7) (.op .mod (.op .mul (.op .add (.v 7) (.op .mul (.k (.int 104729)) (.op .add (.v 6) (.k (.int 1))))) (.op .add (.v 6) (.k (.int 3)))) (.k (.int 2147483629))))
    (.cons (.set (.n 7) (.op .mod (.op .mul (.op .mod (.op .pow (.v 7) (.k (.int 5))) (.k (.int 2147483647))) (.k (.int 48271))) (.k (.int 2147483629))))
    (.cons (.app (.v 5) (.op .mod (.op .fdiv (.v 7) (.k (.int 16))) (.ix (.v 2) (.v 6))))
    .nil)))))
  .nil)
def c__law_numbers : S :=
  (.cons (.set (.n 3) (.bi .max (.cons (.v 0) (.cons (.op .sub (.neg (.k (.int 1))) (.v 0)) .nil))))
  (.cons (.set (.n 4) (.v 3))
  (.cons (.own 5 (.lst .nil))
  (.cons (.for_ (.n 6) (.rng (.cons (.bi .len (.cons (.v 2) .nil)) .nil)) b1__law_numbers)
  (.cons (.ret (.v 5))
  .nil)))))
/-- _law_numbers(cell, salt, sizes) -/
def f__law_numbers : Fn := ⟨3, 8, m__law_numbers, c__law_numbers, Sh.f⟩
def n__law_odd : List Str := ["digit", "some"]
def m__law_odd : List Sh := [Sh.f, Sh.f]
def c__law_odd : S :=
  (.cons (.set (.n 1) (.lst (.cons (.k .none) (.cons (.k (.bool true)) (.cons (.k (.bool false)) (.cons (.neg (.k (.int 1))) (.cons (.k (.int 0)) (.cons (.k (.int 1)) (.cons (.k (.int 40)) (.cons (.k (.int 41)) (.cons (.op .pow (.k (.int 10)) (.k (.int 9))) (.cons (.op .add (.op .pow (.k (.int 10)) (.k (.int 9))) (.k (.int 1))) (.cons (.op .pow (.k (.int 10)) (.k (.int 59))) (.cons (.k (.str "")) (.cons (.k (.str "1")) (.cons (.lst .nil) (.cons (.lst (.cons (.k (.int 1)) .nil)) (.cons (.tup .nil) (.cons (.tup (.cons (.k (.int 1)) .nil)) (.cons (.dct .nil .nil) .nil))))))))))))))))))))
  (.cons (.ret (.ix (.v 1) (.op .mod (.v 0) (.k (.int 18)))))
  .nil))
/-- _law_odd(digit) -/
def f__law_odd : Fn := ⟨1, 2, m__law_odd, c__law_odd, Sh.f⟩
def n_is_day : List Str := ["thing", "part"]
def m_is_day : List Sh := [Sh.f, Sh.f]
def c_is_day : S :=
  (.cons (.ife (.or (.not (.isi (.v 0) .tuple)) (.cmp .ne (.bi .len (.cons (.v 0) .nil)) (.k (.int 4))))
    (.cons (.ret (.k (.bool false)))
    .nil)
    .nil)
  (.cons (.ret (.and (.bi .all (.cons (.lc (.n 1) (.cons (.sl (.v 0) .nil (.cons (.k (.int 3)) .nil)) .nil) .nil (.call 3 (.cons (.v 1) .nil))) .nil)) (.or (.cmp .is (.ix (.v 0) (.k (.int 3))) (.k .none)) (.call 3 (.cons (.ix (.v 0) (.k (.int 3))) .nil)))))
  .nil))
/-- is_day(thing) -/
def f_is_day : Fn := ⟨1, 2, m_is_day, c_is_day, Sh.f⟩
def n_are_lights : List Str := ["thing", "light"]
def m_are_lights : List Sh := [Sh.f, Sh.f]
def c_are_lights : S :=
  (.cons (.ret (.and (.isi (.v 0) .list) (.and (.chn .le .le (.k (.int 1)) (.bi .len (.cons (.v 0) .nil)) (.k (.int 40))) (.bi .all (.cons (.lc (.n 1) (.cons (.v 0) .nil) .nil (.call 3 (.cons (.v 1) .nil))) .nil)))))
  .nil)
/-- are_lights(thing) -/
def f_are_lights : Fn := ⟨1, 2, m_are_lights, c_are_lights, Sh.f⟩
def n_is_frame : List Str := ["thing"]
def m_is_frame : List Sh := [Sh.f]
def c_is_frame : S :=
  (.cons (.ife (.or (.not (.isi (.v 0) .tuple)) (.or (.cmp .ne (.bi .len (.cons (.v 0) .nil)) (.k (.int 3))) (.not (.call 7 (.cons (.ix (.v 0) (.k (.int 0))) .nil)))))
    (.cons (.ret (.k (.bool false)))
    .nil)
    .nil)
  (.cons (.ife (.and (.cmp .isn (.ix (.v 0) (.k (.int 1))) (.k .none)) (.not (.call 2 (.cons (.ix (.v 0) (.k (.int 1))) (.cons (.k (.int 1)) (.cons (.k (.int 1000000000)) .nil))))))
    (.cons (.ret (.k (.bool false)))
    .nil)
    .nil)
  (.cons (.ret (.and (.isi (.ix (.v 0) (.k (.int 2))) .list) (.chn .le .le (.k (.int 1)) (.bi .len (.cons (.ix (.v 0) (.k (.int 2))) .nil)) (.k (.int 2)))))
  .nil)))
/-- is_frame(thing) -/
def f_is_frame : Fn := ⟨1, 1, m_is_frame, c_is_frame, Sh.f⟩
def n_look_at_good : List Str := ["number", "good", "many", "day", "row"]
def m_look_at_good : List Sh := [Sh.f, Sh.f, Sh.f, Sh.f, Sh.f]
def b1_look_at_good : S :=
  (.cons (.ife (.not (.call 6 (.cons (.v 4) .nil)))
    (.cons .never
    .nil)
    .nil)
  .nil)
def c_look_at_good : S :=
  (.cons (.ife (.or (.not (.isi (.v 1) .tuple)) (.or (.cmp .ne (.bi .len (.cons (.v 1) .nil)) (.k (.int 2))) (.or (.not (.isi (.ix (.v 1) (.k (.int 0))) .list)) (.cmp .ne (.bi .len (.cons (.ix (.v 1) (.k (.int 0))) .nil)) (.v 2)))))
    (.cons .never
    .nil)
    .nil)
  (.cons (.ife (.and (.cmp .isn (.ix (.v 1) (.k (.int 1))) (.k .none)) (.not (.call 2 (.cons (.ix (.v 1) (.k (.int 1))) (.cons (.k (.int 0)) (.cons (.k (.int 40)) .nil))))))
    (.cons .never
    .nil)
    .nil)
  (.cons (.for_ (.t (.cons (.n 3) (.cons (.n 4) .nil))) (.enm (.ix (.v 1) (.k (.int 0)))) b1_look_at_good)
  .nil)))
/-- look_at_good(number, good, many) -/
def f_look_at_good : Fn := ⟨3, 5, m_look_at_good, c_look_at_good, Sh.f⟩
def n_look_at_bakery : List Str := ["thing", "number", "good"]
def m_look_at_bakery : List Sh := [Sh.f, Sh.f, Sh.f]
def b1_look_at_bakery : S :=
  (.cons (.exp (.call 9 (.cons (.v 1) (.cons (.v 2) (.cons (.bi .len (.cons (.ix (.v 0) (.k (.int 0))) .nil)) .nil)))))
  .nil)
def c_look_at_bakery : S :=
  (.cons (.ife (.not (.call 8 (.cons (.v 0) .nil)))
    (.cons .never
    .nil)
    .nil)
  (.cons (.for_ (.t (.cons (.n 1) (.cons (.n 2) .nil))) (.enm (.ix (.v 0) (.k (.int 2)))) b1_look_at_bakery)
  .nil))
/-- look_at_bakery(thing) -/
def f_look_at_bakery : Fn := ⟨1, 3, m_look_at_bakery, c_look_at_bakery, Sh.f⟩
def n__law_cell_at : List Str := ["script", "k"]
def m__law_cell_at : List Sh := [Sh.f, Sh.f]
def c__law_cell_at : S :=
  (.cons (.ife (.cmp .lt (.v 1) (.bi .len (.cons (.v 0) .nil)))
    (.cons (.ret (.ix (.v 0) (.v 1)))
    .nil)
    .nil)
  (.cons (.ret (.k (.int 0)))
  .nil))
/-- _law_cell_at(script, k) -/
def f__law_cell_at : Fn := ⟨2, 2, m__law_cell_at, c__law_cell_at, Sh.f⟩
def n__law_day : List Str := ["digits", "late", "want", "light", "loaf", "keep", "fine", "none", "far"]
def m__law_day : List Sh := [Sh.f, Sh.f, Sh.f, Sh.f, Sh.f, Sh.f, Sh.f, Sh.f, Sh.f]
def c__law_day : S :=
  (.cons (.set (.t (.cons (.n 2) (.cons (.n 3) (.cons (.n 4) (.cons (.n 5) (.cons (.n 6) (.cons (.n 7) (.cons (.n 8) .nil)))))))) (.v 0))
  (.cons (.ife (.cmp .eq (.v 7) (.k (.int 0)))
    (.cons (.set (.n 2) (.k (.int 0)))
    .nil)
    .nil)
  (.cons (.ife (.or (.cmp .lt (.v 8) (.k (.int 2))) (.not (.v 1)))
    (.cons (.set (.n 6) (.k .none))
    .nil)
    .nil)
  (.cons (.ret (.tup (.cons (.v 3) (.cons (.tup (.cons (.v 2) (.cons (.v 4) (.cons (.v 5) (.cons (.v 6) .nil))))) .nil))))
  .nil))))
/-- _law_day(digits, late) -/
def f__law_day : Fn := ⟨2, 9, m__law_day, c__law_day, Sh.f⟩
def n__law_days : List Str := ["script", "first", "upto", "salt", "late", "wide", "sizes", "lights", "days", "k", "light", "day"]
def m__law_days : List Sh := [Sh.f, Sh.f, Sh.f, Sh.f, Sh.f, Sh.f, Sh.f, (Sh.l Sh.f), (Sh.l Sh.f), Sh.f, Sh.f, Sh.f]
def b1__law_days : S :=
  (.cons (.set (.t (.cons (.n 10) (.cons (.n 11) .nil))) (.call 12 (.cons (.call 4 (.cons (.call 11 (.cons (.v 0) (.cons (.v 9) .nil))) (.cons (.op .add (.v 3) (.v 9)) (.cons (.v 6) .nil)))) (.cons (.v 4) .nil))))
  (.cons (.app (.v 7) (.v 10))
  (.cons (.app (.v 8) (.v 11))
  .nil)))
def c__law_days : S :=
  (.cons (.set (.n 5) (.cmp .eq (.ix (.call 4 (.cons (.call 11 (.cons (.v 0) (.cons (.k (.int 0)) .nil))) (.cons (.v 3) (.cons (.lst (.cons (.k (.int 3)) .nil)) .nil)))) (.k (.int 0))) (.k (.int 0))))
  (.cons (.set (.n 6) (.op .add (.ix (.lst (.cons (.lst (.cons (.k (.int 5)) (.cons (.k (.int 13)) (.cons (.k (.int 6)) (.cons (.k (.int 4)) (.cons (.k (.int 4)) .nil)))))) (.cons (.op .mul (.lst (.cons (.op .add (.op .pow (.k (.int 10)) (.k (.int 9))) (.k (.int 1))) .nil)) (.k (.int 5))) .nil))) (.bi .int (.cons (.v 5) .nil))) (.lst (.cons (.k (.int 4)) (.cons (.k (.int 5)) .nil)))))
  (.cons (.own 7 (.lst .nil))
  (.cons (.own 8 (.lst .nil))
  (.cons (.for_ (.n 9) (.rng (.cons (.v 1) (.cons (.bi .max (.cons (.op .add (.v 1) (.k (.int 1))) (.cons (.bi .min (.cons (.v 2) (.cons (.bi .len (.cons (.v 0) .nil)) .nil))) .nil))) .nil))) b1__law_days)
  (.cons (.ret (.tup (.cons (.v 7) (.cons (.v 8) .nil))))
  .nil))))))
/-- _law_days(script, first, upto, salt, late) -/
def f__law_days : Fn := ⟨5, 12, m__law_days, c__law_days, Sh.f⟩
def n__law_two : List Str := ["script", "upto", "salt", "head", "lights", "days", "lives", "goods", "others"]
def m__law_two : List Sh := [Sh.f, Sh.f, Sh.f, Sh.f, Sh.f, Sh.f, Sh.f, (Sh.l Sh.f), Sh.f]
def c__law_two : S :=
  (.cons (.set (.n 3) (.call 4 (.cons (.call 11 (.cons (.v 0) (.cons (.k (.int 0)) .nil))) (.cons (.v 2) (.cons (.lst (.cons (.k (.int 3)) (.cons (.k (.int 12)) (.cons (.k (.int 2)) (.cons (.k (.int 12)) (.cons (.k (.int 3)) (.cons (.k (.int 2)) (.cons (.k (.int 9)) .nil)))))))) .nil)))))
  (.cons (.set (.t (.cons (.n 4) (.cons (.n 5) .nil))) (.call 13 (.cons (.v 0) (.cons (.k (.int 1)) (.cons (.v 1) (.cons (.v 2) (.cons (.cmp .eq (.ix (.v 3) (.k (.int 2))) (.k (.int 1))) .nil)))))))
  (.cons (.set (.n 6) (.lst (.cons (.k .none) (.cons (.k .none) (.cons (.k (.int 0)) (.cons (.k (.int 1)) (.cons (.k (.int 2)) (.cons (.k (.int 3)) (.cons (.k (.int 4)) (.cons (.k (.int 5)) (.cons (.k (.int 7)) (.cons (.k (.int 11)) (.cons (.k (.int 23)) (.cons (.k (.int 40)) .nil))))))))))))))
  (.cons (.own 7 (.lst (.cons (.tup (.cons (.v 5) (.cons (.ix (.v 6) (.ix (.v 3) (.k (.int 1)))) .nil))) .nil)))
  (.cons (.ife (.cmp .gt (.ix (.v 3) (.k (.int 4))) (.k (.int 0)))
    (.cons (.set (.n 8) (.ix (.call 13 (.cons (.op .add (.sl (.v 0) .nil (.cons (.k (.int 1)) .nil)) (.rvt (.v 0))) (.cons (.k (.int 1)) (.cons (.v 1) (.cons (.op .add (.v 2) (.k (.int 70))) (.cons (.cmp .eq (.ix (.v 3) (.k (.int 5))) (.k (.int 1))) .nil)))))) (.k (.int 1))))
    (.cons (.app (.v 7) (.tup (.cons (.v 8) (.cons (.ix (.v 6) (.ix (.v 3) (.k (.int 3)))) .nil))))
    .nil))
    .nil)
  (.cons (.ret (.tup (.cons (.v 4) (.cons (.ix (.lst (.cons (.k .none) (.cons (.k (.int 1)) (.cons (.k (.int 2)) (.cons (.k (.int 3)) (.cons (.k (.int 4)) (.cons (.k (.int 5)) (.cons (.k (.int 6)) (.cons (.op .pow (.k (.int 10)) (.k (.int 9))) (.cons (.k (.int 12)) .nil)))))))))) (.ix (.v 3) (.k (.int 6)))) (.cons (.v 7) .nil)))))
  .nil))))))
/-- _law_two(script, upto, salt) -/
def f__law_two : Fn := ⟨3, 9, m__law_two, c__law_two, Sh.f⟩
def n__law_at : List Str := ["row", "place", "thing"]
def m__law_at : List Sh := [Sh.f, Sh.f, Sh.f]
def c__law_at : S :=
  (.cons (.ret (.op .add (.op .add (.sl (.v 0) .nil (.cons (.v 1) .nil)) (.lst (.cons (.v 2) .nil))) (.sl (.v 0) (.cons (.op .add (.v 1) (.k (.int 1))) .nil) .nil)))
  .nil)
/-- _law_at(row, place, thing) -/
def f__law_at : Fn := ⟨3, 3, m__law_at, c__law_at, Sh.f⟩
def n__law_day_spoilt : List Str := ["day", "digits", "odd", "part", "some"]
def m__law_day_spoilt : List Sh := [Sh.f, Sh.f, Sh.f, Sh.f, Sh.f]
def c__law_day_spoilt : S :=
  (.cons (.set (.n 2) (.call 5 (.cons (.ix (.v 1) (.k (.int 3))) .nil)))
  (.cons (.set (.n 3) (.op .mod (.ix (.v 1) (.k (.int 4))) (.k (.int 4))))
  (.cons (.set (.n 4) (.lst (.cons (.op .add (.op .add (.sl (.v 0) .nil (.cons (.v 3) .nil)) (.tup (.cons (.v 2) .nil))) (.sl (.v 0) (.cons (.op .add (.v 3) (.k (.int 1))) .nil) .nil)) (.cons (.bi .list (.cons (.v 0) .nil)) (.cons (.sl (.v 0) .nil (.cons (.k (.int 3)) .nil)) (.cons (.op .add (.v 0) (.tup (.cons (.v 2) .nil))) (.cons (.v 2) (.cons (.rev (.v 0)) (.cons (.tup (.cons (.v 0) .nil)) (.cons (.sl (.v 0) .nil (.cons (.v 3) .nil)) .nil))))))))))
  (.cons (.ret (.ix (.v 4) (.op .mod (.ix (.v 1) (.k (.int 5))) (.k (.int 8)))))
  .nil))))
/-- _law_day_spoilt(day, digits) -/
def f__law_day_spoilt : Fn := ⟨2, 5, m__law_day_spoilt, c__law_day_spoilt, Sh.f⟩
def n__law_good_spoilt : List Str := ["good", "digits", "days", "life", "at", "some"]
def m__law_good_spoilt : List Sh := [Sh.f, Sh.f, Sh.f, Sh.f, Sh.f, Sh.f]
def c__law_good_spoilt : S :=
  (.cons (.set (.t (.cons (.n 2) (.cons (.n 3) .nil))) (.v 0))
  (.cons (.set (.n 4) (.op .mod (.ix (.v 1) (.k (.int 2))) (.bi .len (.cons (.v 2) .nil))))
  (.cons (.ife (.cmp .lt (.ix (.v 1) (.k (.int 6))) (.k (.int 4)))
    (.cons (.ret (.tup (.cons (.call 15 (.cons (.v 2) (.cons (.v 4) (.cons (.call 16 (.cons (.ix (.v 2) (.v 4)) (.cons (.v 1) .nil))) .nil)))) (.cons (.v 3) .nil))))
    .nil)
    .nil)
  (.cons (.set (.n 5) (.lst (.cons (.tup (.cons (.v 2) (.cons (.call 5 (.cons (.ix (.v 1) (.k (.int 3))) .nil)) .nil))) (.cons (.tup (.cons (.sl (.v 2) (.cons (.k (.int 1)) .nil) .nil) (.cons (.v 3) .nil))) (.cons (.tup (.cons (.op .add (.v 2) (.sl (.v 2) .nil (.cons (.k (.int 1)) .nil))) (.cons (.v 3) .nil))) (.cons (.tup (.cons (.bi .tuple (.cons (.v 2) .nil)) (.cons (.v 3) .nil))) (.cons (.lst (.cons (.v 2) (.cons (.v 3) .nil))) .nil)))))))
  (.cons (.set (.n 5) (.op .add (.v 5) (.lst (.cons (.tup (.cons (.v 2) .nil)) (.cons (.tup (.cons (.v 2) (.cons (.v 3) (.cons (.v 3) .nil)))) (.cons (.call 5 (.cons (.ix (.v 1) (.k (.int 3))) .nil)) (.cons (.tup (.cons (.dct .nil .nil) (.cons (.v 3) .nil))) (.cons (.tup (.cons (.v 3) (.cons (.v 2) .nil))) .nil))))))))
  (.cons (.ret (.ix (.v 5) (.op .mod (.ix (.v 1) (.k (.int 5))) (.k (.int 10)))))
  .nil))))))
/-- _law_good_spoilt(good, digits) -/
def f__law_good_spoilt : Fn := ⟨2, 6, m__law_good_spoilt, c__law_good_spoilt, Sh.f⟩
def n__law_spoilt : List Str := ["bakery", "digits", "lights", "bound", "goods", "at", "some", "many", "longer", "days", "life"]
def m__law_spoilt : List Sh := [Sh.f, Sh.f, Sh.f, Sh.f, Sh.f, Sh.f, Sh.f, Sh.f, Sh.f, Sh.f, Sh.f]
def c__law_spoilt : S :=
  (.cons (.set (.t (.cons (.n 2) (.cons (.n 3) (.cons (.n 4) .nil)))) (.v 0))
  (.cons (.set (.n 5) (.op .mod (.ix (.v 1) (.k (.int 1))) (.bi .len (.cons (.v 4) .nil))))
  (.cons (.ife (.cmp .eq (.ix (.v 1) (.k (.int 0))) (.k (.int 0)))
    (.cons (.ret (.tup (.cons (.call 15 (.cons (.v 2) (.cons (.op .mod (.ix (.v 1) (.k (.int 2))) (.bi .len (.cons (.v 2) .nil))) (.cons (.call 5 (.cons (.ix (.v 1) (.k (.int 3))) .nil)) .nil)))) (.cons (.v 3) (.cons (.v 4) .nil)))))
    .nil)
    .nil)
  (.cons (.ife (.cmp .eq (.ix (.v 1) (.k (.int 0))) (.k (.int 1)))
    (.cons (.ret (.tup (.cons (.v 2) (.cons (.call 5 (.cons (.ix (.v 1) (.k (.int 3))) .nil)) (.cons (.v 4) .nil)))))
    .nil)
    .nil)
  (.cons (.ife (.cmp .lt (.ix (.v 1) (.k (.int 0))) (.k (.int 6)))
    (.cons (.ret (.tup (.cons (.v 2) (.cons (.v 3) (.cons (.call 15 (.cons (.v 4) (.cons (.v 5) (.cons (.call 17 (.cons (.ix (.v 4) (.v 5)) (.cons (.v 1) .nil))) .nil)))) .nil)))))
    .nil)
    .nil)
  (.cons (.ife (.cmp .eq (.ix (.v 1) (.k (.int 0))) (.k (.int 6)))
    (.cons (.set (.n 7) (.ix (.lst (.cons (.k (.int 0)) (.cons (.k (.int 39)) (.cons (.k (.int 40)) (.cons (.k (.int 41)) .nil))))) (.op .mod (.ix (.v 1) (.k (.int 5))) (.k (.int 4)))))
    (.cons (.set (.n 8) (.lc (.t (.cons (.n 9) (.cons (.n 10) .nil))) (.cons (.v 4) .nil) .nil (.tup (.cons (.sl (.op .mul (.v 9) (.k (.int 41))) .nil (.cons (.v 7) .nil)) (.cons (.v 10) .nil)))))
    (.cons (.ret (.tup (.cons (.sl (.op .mul (.v 2) (.k (.int 41))) .nil (.cons (.v 7) .nil)) (.cons (.v 3) (.cons (.v 8) .nil)))))
    .nil)))
    .nil)
  (.cons (.ife (.cmp .eq (.ix (.v 1) (.k (.int 0))) (.k (.int 7)))
    (.cons (.set (.n 6) (.lst (.cons (.lst .nil) (.cons (.op .mul (.v 4) (.k (.int 3))) (.cons (.bi .tuple (.cons (.v 4) .nil)) (.cons (.ix (.v 4) (.k (.int 0))) (.cons (.k .none) (.cons (.op .mul (.sl (.v 4) .nil (.cons (.k (.int 1)) .nil)) (.k (.int 2))) .nil))))))))
    (.cons (.ret (.tup (.cons (.v 2) (.cons (.v 3) (.cons (.ix (.v 6) (.op .mod (.ix (.v 1) (.k (.int 5))) (.k (.int 6)))) .nil)))))
    .nil))
    .nil)
  (.cons (.set (.n 6) (.lst (.cons (.bi .list (.cons (.v 0) .nil)) (.cons (.sl (.v 0) .nil (.cons (.k (.int 2)) .nil)) (.cons (.op .add (.v 0) (.tup (.cons (.k .none) .nil))) (.cons (.tup .nil) (.cons (.k .none) (.cons (.v 2) (.cons (.tup (.cons (.bi .tuple (.cons (.v 2) .nil)) (.cons (.v 3) (.cons (.v 4) .nil)))) (.cons (.k (.str "")) (.cons (.dct .nil .nil) (.cons (.v 4) .nil))))))))))))
  (.cons (.ret (.ix (.v 6) (.op .mod (.ix (.v 1) (.k (.int 5))) (.k (.int 10)))))
  .nil)))))))))
/-- _law_spoilt(bakery, digits) -/
def f__law_spoilt : Fn := ⟨2, 11, m__law_spoilt, c__law_spoilt, Sh.f⟩
def n__law_number : List Str := ["thing", "most"]
def m__law_number : List Sh := [Sh.f, Sh.f]
def c__law_number : S :=
  (.cons (.ret (.and (.isi (.v 0) .int) (.and (.not (.isi (.v 0) .bool)) (.and (.cmp .le (.k (.int 0)) (.v 0)) (.cmp .le (.v 0) (.v 1))))))
  .nil)
/-- _law_number(thing, most) -/
def f__law_number : Fn := ⟨2, 2, m__law_number, c__law_number, Sh.f⟩
def n__law_is_day : List Str := ["thing", "part"]
def m__law_is_day : List Sh := [Sh.f, Sh.f]
def c__law_is_day : S :=
  (.cons (.ife (.or (.not (.isi (.v 0) .tuple)) (.cmp .ne (.bi .len (.cons (.v 0) .nil)) (.k (.int 4))))
    (.cons (.ret (.k (.bool false)))
    .nil)
    .nil)
  (.cons (.ife (.cmp .ne (.lc (.n 1) (.cons (.sl (.v 0) .nil (.cons (.k (.int 3)) .nil)) .nil) (.cons (.not (.call 19 (.cons (.v 1) (.cons (.op .pow (.k (.int 10)) (.k (.int 9))) .nil)))) .nil) (.v 1)) (.lst .nil))
    (.cons (.ret (.k (.bool false)))
    .nil)
    .nil)
  (.cons (.ret (.or (.cmp .is (.ix (.v 0) (.k (.int 3))) (.k .none)) (.call 19 (.cons (.ix (.v 0) (.k (.int 3))) (.cons (.op .pow (.k (.int 10)) (.k (.int 9))) .nil)))))
  .nil)))
/-- _law_is_day(thing) -/
def f__law_is_day : Fn := ⟨1, 2, m__law_is_day, c__law_is_day, Sh.f⟩
def n__law_wrong_good : List Str := ["good", "many", "day"]
def m__law_wrong_good : List Sh := [Sh.f, Sh.f, Sh.f]
def c__law_wrong_good : S :=
  (.cons (.ife (.or (.not (.isi (.v 0) .tuple)) (.or (.cmp .ne (.bi .len (.cons (.v 0) .nil)) (.k (.int 2))) (.or (.not (.isi (.ix (.v 0) (.k (.int 0))) .list)) (.cmp .ne (.bi .len (.cons (.ix (.v 0) (.k (.int 0))) .nil)) (.v 1)))))
    (.cons (.ret (.lst (.cons (.k .none) .nil)))
    .nil)
    .nil)
  (.cons (.ife (.and (.cmp .isn (.ix (.v 0) (.k (.int 1))) (.k .none)) (.not (.call 19 (.cons (.ix (.v 0) (.k (.int 1))) (.cons (.k (.int 40)) .nil)))))
    (.cons (.ret (.lst (.cons (.k .none) .nil)))
    .nil)
    .nil)
  (.cons (.ret (.lc (.n 2) (.rng (.cons (.v 1) .nil)) (.cons (.not (.call 20 (.cons (.ix (.ix (.v 0) (.k (.int 0))) (.v 2)) .nil))) .nil) (.v 2)))
  .nil)))
/-- _law_wrong_good(good, many) -/
def f__law_wrong_good : Fn := ⟨2, 3, m__law_wrong_good, c__law_wrong_good, Sh.f⟩
def n_is_plain_one : List Str := ["bakery"]
def m_is_plain_one : List Sh := [Sh.f]
def c_is_plain_one : S :=
  (.cons (.ret (.and (.cmp .is (.ix (.v 0) (.k (.int 1))) (.k .none)) (.cmp .eq (.bi .len (.cons (.ix (.v 0) (.k (.int 2))) .nil)) (.k (.int 1)))))
  .nil)
/-- is_plain_one(bakery) -/
def f_is_plain_one : Fn := ⟨1, 1, m_is_plain_one, c_is_plain_one, Sh.f⟩
def n_is_plain : List Str := ["bakery"]
def m_is_plain : List Sh := [Sh.f]
def c_is_plain : S :=
  (.cons (.exp (.call 10 (.cons (.v 0) .nil)))
  (.cons (.ret (.call 23 (.cons (.v 0) .nil)))
  .nil))
/-- is_plain(bakery) -/
def f_is_plain : Fn := ⟨1, 1, m_is_plain, c_is_plain, Sh.f⟩
def n__law_truth : List Str := ["found", "due"]
def m__law_truth : List Sh := [Sh.f, Sh.f]
def c__law_truth : S :=
  (.cons (.ret (.and (.isi (.v 0) .bool) (.cmp .eq (.v 0) (.v 1))))
  .nil)
/-- _law_truth(found, due) -/
def f__law_truth : Fn := ⟨2, 2, m__law_truth, c__law_truth, Sh.f⟩
def n_look_at_number : List Str := ["bakery", "good"]
def m_look_at_number : List Sh := [Sh.f, Sh.f]
def c_look_at_number : S :=
  (.cons (.ife (.not (.call 2 (.cons (.v 1) (.cons (.k (.int 0)) (.cons (.op .sub (.bi .len (.cons (.ix (.v 0) (.k (.int 2))) .nil)) (.k (.int 1))) .nil)))))
    (.cons .never
    .nil)
    .nil)
  .nil)
/-- look_at_number(bakery, good) -/
def f_look_at_number : Fn := ⟨2, 2, m_look_at_number, c_look_at_number, Sh.f⟩
def n_look_at_day : List Str := ["bakery", "day"]
def m_look_at_day : List Sh := [Sh.f, Sh.f]
def c_look_at_day : S :=
  (.cons (.ife (.not (.call 2 (.cons (.v 1) (.cons (.k (.int 0)) (.cons (.op .sub (.bi .len (.cons (.ix (.v 0) (.k (.int 0))) .nil)) (.k (.int 1))) .nil)))))
    (.cons .never
    .nil)
    .nil)
  .nil)
/-- look_at_day(bakery, day) -/
def f_look_at_day : Fn := ⟨2, 2, m_look_at_day, c_look_at_day, Sh.f⟩
def n_nights_ahead : List Str := ["days", "life", "baked", "given", "want", "loaf", "keep", "fine"]
def m_nights_ahead : List Sh := [Sh.f, Sh.f, Sh.f, Sh.f, Sh.f, Sh.f, Sh.f, Sh.f]
def c_nights_ahead : S :=
  (.cons (.ife (.and (.cmp .isn (.v 1) (.k .none)) (.cmp .gt (.op .sub (.v 3) (.v 2)) (.v 1)))
    (.cons (.ret (.k .none))
    .nil)
    .nil)
  (.cons (.ret (.bi .sum (.cons (.lc (.t (.cons (.n 4) (.cons (.n 5) (.cons (.n 6) (.cons (.n 7) .nil))))) (.cons (.sl (.v 0) (.cons (.v 2) .nil) (.cons (.v 3) .nil)) .nil) .nil (.v 6)) .nil)))
  .nil))
/-- nights_ahead(days, life, baked, given) -/
def f_nights_ahead : Fn := ⟨4, 8, m_nights_ahead, c_nights_ahead, Sh.f⟩
def n_nights_behind : List Str := ["days", "baked", "given", "fines", "want", "loaf", "keep", "fine"]
def m_nights_behind : List Sh := [Sh.f, Sh.f, Sh.f, Sh.f, Sh.f, Sh.f, Sh.f, Sh.f]
def c_nights_behind : S :=
  (.cons (.set (.n 3) (.lc (.t (.cons (.n 4) (.cons (.n 5) (.cons (.n 6) (.cons (.n 7) .nil))))) (.cons (.sl (.v 0) (.cons (.v 2) .nil) (.cons (.v 1) .nil)) .nil) .nil (.v 7)))
  (.cons (.ife (.cmp .isin (.k .none) (.v 3))
    (.cons (.ret (.k .none))
    .nil)
    .nil)
  (.cons (.ret (.bi .sum (.cons (.v 3) .nil)))
  .nil)))
/-- nights_behind(days, baked, given) -/
def f_nights_behind : Fn := ⟨3, 8, m_nights_behind, c_nights_behind, Sh.f⟩
def n_price_of : List Str := ["good", "baked", "given", "days", "life", "nights"]
def m_price_of : List Sh := [Sh.f, Sh.f, Sh.f, Sh.f, Sh.f, Sh.f]
def c_price_of : S :=
  (.cons (.set (.t (.cons (.n 3) (.cons (.n 4) .nil))) (.v 0))
  (.cons (.ife (.cmp .le (.v 1) (.v 2))
    (.cons (.set (.n 5) (.call 28 (.cons (.v 3) (.cons (.v 4) (.cons (.v 1) (.cons (.v 2) .nil))))))
    .nil)
    (.cons (.set (.n 5) (.call 29 (.cons (.v 3) (.cons (.v 1) (.cons (.v 2) .nil)))))
    .nil))
  (.cons (.ife (.cmp .is (.v 5) (.k .none))
    (.cons (.ret (.k .none))
    .nil)
    .nil)
  (.cons (.ret (.op .add (.ix (.ix (.v 3) (.v 1)) (.k (.int 1))) (.v 5)))
  .nil))))
/-- price_of(good, baked, given) -/
def f_price_of : Fn := ⟨3, 6, m_price_of, c_price_of, Sh.f⟩
def n_price : List Str := ["bakery", "good", "baked", "given"]
def m_price : List Sh := [Sh.f, Sh.f, Sh.f, Sh.f]
def c_price : S :=
  (.cons (.exp (.call 10 (.cons (.v 0) .nil)))
  (.cons (.exp (.call 26 (.cons (.v 0) (.cons (.v 1) .nil))))
  (.cons (.exp (.call 27 (.cons (.v 0) (.cons (.v 2) .nil))))
  (.cons (.exp (.call 27 (.cons (.v 0) (.cons (.v 3) .nil))))
  (.cons (.ret (.call 30 (.cons (.ix (.ix (.v 0) (.k (.int 2))) (.v 1)) (.cons (.v 2) (.cons (.v 3) .nil)))))
  .nil)))))
/-- price(bakery, good, baked, given) -/
def f_price : Fn := ⟨4, 4, m_price, c_price, Sh.f⟩
def n__law_longer : List Str := ["bakery", "life", "lights", "bound", "goods", "days", "old"]
def m__law_longer : List Sh := [Sh.f, Sh.f, Sh.f, Sh.f, Sh.f, Sh.f, Sh.f]
def c__law_longer : S :=
  (.cons (.set (.t (.cons (.n 2) (.cons (.n 3) (.cons (.n 4) .nil)))) (.v 0))
  (.cons (.ret (.tup (.cons (.sl (.op .mul (.v 2) (.k (.int 40))) .nil (.cons (.k (.int 40)) .nil)) (.cons (.v 3) (.cons (.lc (.t (.cons (.n 5) (.cons (.n 6) .nil))) (.cons (.v 4) .nil) .nil (.tup (.cons (.sl (.op .mul (.v 5) (.k (.int 40))) .nil (.cons (.k (.int 40)) .nil)) (.cons (.v 1) .nil)))) .nil)))))
  .nil))
/-- _law_longer(bakery, life) -/
def f__law_longer : Fn := ⟨2, 7, m__law_longer, c__law_longer, Sh.f⟩
def n_reach_of : List Str := ["good", "given", "days", "life", "first", "last"]
def m_reach_of : List Sh := [Sh.f, Sh.f, Sh.f, Sh.f, Sh.f, Sh.f]
def b1_reach_of : S :=
  (.cons (.aug 5 .add (.k (.int 1)))
  .nil)
def c_reach_of : S :=
  (.cons (.set (.t (.cons (.n 2) (.cons (.n 3) .nil))) (.v 0))
  (.cons (.set (.n 4) (.k (.int 0)))
  (.cons (.ife (.cmp .isn (.v 3) (.k .none))
    (.cons (.set (.n 4) (.bi .max (.cons (.k (.int 0)) (.cons (.op .sub (.v 1) (.v 3)) .nil))))
    .nil)
    .nil)
  (.cons (.set (.n 5) (.v 1))
  (.cons (.whl (.and (.cmp .lt (.v 5) (.op .sub (.bi .len (.cons (.v 2) .nil)) (.k (.int 1)))) (.cmp .isn (.ix (.ix (.v 2) (.v 5)) (.k (.int 3))) (.k .none))) b1_reach_of)
  (.cons (.ret (.tup (.cons (.v 4) (.cons (.v 5) .nil))))
  .nil))))))
/-- reach_of(good, given) -/
def f_reach_of : Fn := ⟨2, 6, m_reach_of, c_reach_of, Sh.f⟩
def n_reach : List Str := ["bakery", "good", "given"]
def m_reach : List Sh := [Sh.f, Sh.f, Sh.f]
def c_reach : S :=
  (.cons (.exp (.call 10 (.cons (.v 0) .nil)))
  (.cons (.exp (.call 26 (.cons (.v 0) (.cons (.v 1) .nil))))
  (.cons (.exp (.call 27 (.cons (.v 0) (.cons (.v 2) .nil))))
  (.cons (.ret (.call 33 (.cons (.ix (.ix (.v 0) (.k (.int 2))) (.v 1)) (.cons (.v 2) .nil))))
  .nil))))
/-- reach(bakery, good, given) -/
def f_reach : Fn := ⟨3, 3, m_reach, c_reach, Sh.f⟩
def n_stretch_of : List Str := ["good", "baked", "first", "last", "total", "given", "want", "one"]
def m_stretch_of : List Sh := [Sh.f, Sh.f, Sh.f, Sh.f, Sh.f, Sh.f, Sh.f, Sh.f]
def b1_stretch_of : S :=
  (.cons (.set (.n 6) (.ix (.ix (.ix (.v 0) (.k (.int 0))) (.v 5)) (.k (.int 0))))
  (.cons (.ife (.cmp .gt (.v 6) (.k (.int 0)))
    (.cons (.set (.n 7) (.call 30 (.cons (.v 0) (.cons (.v 1) (.cons (.v 5) .nil)))))
    (.cons (.ife (.cmp .is (.v 7) (.k .none))
      (.cons (.ret (.k .none))
      .nil)
      .nil)
    (.cons (.aug 4 .add (.op .mul (.v 6) (.v 7)))
    .nil)))
    .nil)
  .nil))
def c_stretch_of : S :=
  (.cons (.set (.n 4) (.k (.int 0)))
  (.cons (.for_ (.n 5) (.rng (.cons (.v 2) (.cons (.op .add (.v 3) (.k (.int 1))) .nil))) b1_stretch_of)
  (.cons (.ret (.v 4))
  .nil)))
/-- stretch_of(good, baked, first, last) -/
def f_stretch_of : Fn := ⟨4, 8, m_stretch_of, c_stretch_of, Sh.f⟩
def n_stretch_price : List Str := ["bakery", "good", "baked", "first", "last", "day"]
def m_stretch_price : List Sh := [Sh.f, Sh.f, Sh.f, Sh.f, Sh.f, Sh.f]
def b1_stretch_price : S :=
  (.cons (.exp (.call 27 (.cons (.v 0) (.cons (.v 5) .nil))))
  .nil)
def c_stretch_price : S :=
  (.cons (.exp (.call 10 (.cons (.v 0) .nil)))
  (.cons (.exp (.call 26 (.cons (.v 0) (.cons (.v 1) .nil))))
  (.cons (.for_ (.n 5) (.cons (.tup (.cons (.v 2) (.cons (.v 3) (.cons (.v 4) .nil)))) .nil) b1_stretch_price)
  (.cons (.ife (.cmp .lt (.v 4) (.v 3))
    (.cons .never
    .nil)
    .nil)
  (.cons (.ret (.call 35 (.cons (.ix (.ix (.v 0) (.k (.int 2))) (.v 1)) (.cons (.v 2) (.cons (.v 3) (.cons (.v 4) .nil))))))
  .nil)))))
/-- stretch_price(bakery, good, baked, first, last) -/
def f_stretch_price : Fn := ⟨5, 6, m_stretch_price, c_stretch_price, Sh.f⟩
def n_is_lot : List Str := ["bakery", "thing", "last"]
def m_is_lot : List Sh := [Sh.f, Sh.f, Sh.f]
def c_is_lot : S :=
  (.cons (.ife (.or (.not (.isi (.v 1) .tuple)) (.or (.cmp .ne (.bi .len (.cons (.v 1) .nil)) (.k (.int 4))) (.or (.not (.call 1 (.cons (.ix (.v 1) (.k (.int 3))) .nil))) (.cmp .lt (.ix (.v 1) (.k (.int 3))) (.k (.int 1))))))
    (.cons (.ret (.k (.bool false)))
    .nil)
    .nil)
  (.cons (.set (.n 2) (.op .sub (.bi .len (.cons (.ix (.v 0) (.k (.int 0))) .nil)) (.k (.int 1))))
  (.cons (.ret (.and (.call 2 (.cons (.ix (.v 1) (.k (.int 0))) (.cons (.k (.int 0)) (.cons (.v 2) .nil)))) (.and (.call 2 (.cons (.ix (.v 1) (.k (.int 1))) (.cons (.k (.int 0)) (.cons (.op .sub (.bi .len (.cons (.ix (.v 0) (.k (.int 2))) .nil)) (.k (.int 1))) .nil)))) (.call 2 (.cons (.ix (.v 1) (.k (.int 2))) (.cons (.k (.int 0)) (.cons (.v 2) .nil)))))))
  .nil)))
/-- is_lot(bakery, thing) -/
def f_is_lot : Fn := ⟨2, 3, m_is_lot, c_is_lot, Sh.f⟩
def n_are_lots : List Str := ["bakery", "thing", "place", "lot"]
def m_are_lots : List Sh := [Sh.f, Sh.f, Sh.f, Sh.f]
def b1_are_lots : S :=
  (.cons (.ife (.cmp .ge (.sl (.ix (.v 1) (.op .sub (.v 2) (.k (.int 1)))) .nil (.cons (.k (.int 3)) .nil)) (.sl (.ix (.v 1) (.v 2)) .nil (.cons (.k (.int 3)) .nil)))
    (.cons (.ret (.k (.bool false)))
    .nil)
    .nil)
  .nil)
def c_are_lots : S :=
  (.cons (.ife (.or (.not (.isi (.v 1) .list)) (.not (.bi .all (.cons (.lc (.n 3) (.cons (.v 1) .nil) .nil (.call 37 (.cons (.v 0) (.cons (.v 3) .nil)))) .nil))))
    (.cons (.ret (.k (.bool false)))
    .nil)
    .nil)
  (.cons (.for_ (.n 2) (.rng (.cons (.k (.int 1)) (.cons (.bi .len (.cons (.v 1) .nil)) .nil))) b1_are_lots)
  (.cons (.ret (.k (.bool true)))
  .nil)))
/-- are_lots(bakery, thing) -/
def f_are_lots : Fn := ⟨2, 4, m_are_lots, c_are_lots, Sh.f⟩
def n_loaves_cost : List Str := ["bakery", "plan", "baked", "good", "given", "many"]
def m_loaves_cost : List Sh := [Sh.f, Sh.f, Sh.f, Sh.f, Sh.f, Sh.f]
def c_loaves_cost : S :=
  (.cons (.ret (.bi .sum (.cons (.lc (.t (.cons (.n 2) (.cons (.n 3) (.cons (.n 4) (.cons (.n 5) .nil))))) (.cons (.v 1) .nil) .nil (.op .mul (.v 5) (.call 30 (.cons (.ix (.ix (.v 0) (.k (.int 2))) (.v 3)) (.cons (.v 2) (.cons (.v 4) .nil)))))) .nil)))
  .nil)
/-- loaves_cost(bakery, plan) -/
def f_loaves_cost : Fn := ⟨2, 6, m_loaves_cost, c_loaves_cost, Sh.f⟩
def n_lit_days : List Str := ["plan", "lot"]
def m_lit_days : List Sh := [Sh.f, Sh.f]
def c_lit_days : S :=
  (.cons (.ret (.bi .setl (.cons (.lc (.n 1) (.cons (.v 0) .nil) .nil (.ix (.v 1) (.k (.int 0)))) .nil)))
  .nil)
/-- lit_days(plan) -/
def f_lit_days : Fn := ⟨1, 2, m_lit_days, c_lit_days, Sh.f⟩
def n_cost_by : List Str := ["bakery", "plan", "day"]
def m_cost_by : List Sh := [Sh.f, Sh.f, Sh.f]
def c_cost_by : S :=
  (.cons (.ret (.op .add (.call 42 (.cons (.v 0) (.cons (.v 1) .nil))) (.bi .sum (.cons (.lc (.n 2) (.cons (.call 43 (.cons (.v 1) .nil)) .nil) .nil (.ix (.ix (.v 0) (.k (.int 0))) (.v 2))) .nil))))
  .nil)
/-- cost_by(bakery, plan) -/
def f_cost_by : Fn := ⟨2, 3, m_cost_by, c_cost_by, Sh.f⟩
def n_fits : List Str := ["bakery", "thing"]
def m_fits : List Sh := [Sh.f, Sh.f]
def c_fits : S :=
  (.cons (.exp (.call 10 (.cons (.v 0) .nil)))
  (.cons (.ret (.call 41 (.cons (.v 0) (.cons (.v 1) .nil))))
  .nil))
/-- fits(bakery, thing) -/
def f_fits : Fn := ⟨2, 2, m_fits, c_fits, Sh.f⟩
def n_cost_of : List Str := ["bakery", "plan"]
def m_cost_of : List Sh := [Sh.f, Sh.f]
def c_cost_of : S :=
  (.cons (.exp (.call 10 (.cons (.v 0) .nil)))
  (.cons (.ret (.call 44 (.cons (.v 0) (.cons (.v 1) .nil))))
  .nil))
/-- cost_of(bakery, plan) -/
def f_cost_of : Fn := ⟨2, 2, m_cost_of, c_cost_of, Sh.f⟩
def n_counted : List Str := ["bakery", "lots", "found", "baked", "good", "given", "many"]
def m_counted : List Sh := [Sh.f, Sh.f, (Sh.l Sh.f), Sh.f, Sh.f, Sh.f, Sh.f]
def b1_counted : S :=
  (.cons (.pau (.v 2) (.v 4) .add (.v 6))
  .nil)
def c_counted : S :=
  (.cons (.own 2 (.lc (.n 4) (.cons (.ix (.v 0) (.k (.int 2))) .nil) .nil (.k (.int 0))))
  (.cons (.for_ (.t (.cons (.n 3) (.cons (.n 4) (.cons (.n 5) (.cons (.n 6) .nil))))) (.cons (.v 1) .nil) b1_counted)
  (.cons (.ret (.v 2))
  .nil)))
/-- counted(bakery, lots) -/
def f_counted : Fn := ⟨2, 7, m_counted, c_counted, Sh.f⟩
def n_day_told : List Str := ["bakery", "plan", "day", "here", "baked", "given", "kept", "waiting", "lit", "cost", "number", "good", "want", "loaf", "keep", "fine", "lot"]
def m_day_told : List Sh := [Sh.f, Sh.f, Sh.f, Sh.f, Sh.f, Sh.f, Sh.f, Sh.f, Sh.f, Sh.f, Sh.f, Sh.f, Sh.f, Sh.f, Sh.f, Sh.f, Sh.f]
def b1_day_told : S :=
  (.cons (.set (.t (.cons (.n 12) (.cons (.n 13) (.cons (.n 14) (.cons (.n 15) .nil))))) (.ix (.ix (.v 11) (.k (.int 0))) (.v 2)))
  (.cons (.aug 9 .add (.op .add (.op .mul (.ix (.v 4) (.v 10)) (.v 13)) (.op .mul (.ix (.v 6) (.v 10)) (.v 14))))
  (.cons (.ife (.cmp .gt (.ix (.v 7) (.v 10)) (.k (.int 0)))
    (.cons (.aug 9 .add (.op .mul (.ix (.v 7) (.v 10)) (.v 15)))
    .nil)
    .nil)
  .nil)))
def c_day_told : S :=
  (.cons (.set (.n 3) (.lc (.n 16) (.cons (.v 1) .nil) (.cons (.cmp .eq (.ix (.v 16) (.k (.int 0))) (.v 2)) .nil) (.v 16)))
  (.cons (.set (.n 4) (.call 47 (.cons (.v 0) (.cons (.v 3) .nil))))
  (.cons (.set (.n 5) (.call 47 (.cons (.v 0) (.cons (.lc (.n 16) (.cons (.v 1) .nil) (.cons (.cmp .eq (.bi .max (.cons (.ix (.v 16) (.k (.int 0))) (.cons (.ix (.v 16) (.k (.int 2))) .nil))) (.v 2)) .nil) (.v 16)) .nil))))
  (.cons (.set (.n 6) (.call 47 (.cons (.v 0) (.cons (.lc (.n 16) (.cons (.v 1) .nil) (.cons (.and (.cmp .le (.ix (.v 16) (.k (.int 0))) (.v 2)) (.cmp .lt (.v 2) (.ix (.v 16) (.k (.int 2))))) .nil) (.v 16)) .nil))))
  (.cons (.set (.n 7) (.call 47 (.cons (.v 0) (.cons (.lc (.n 16) (.cons (.v 1) .nil) (.cons (.and (.cmp .le (.ix (.v 16) (.k (.int 2))) (.v 2)) (.cmp .lt (.v 2) (.ix (.v 16) (.k (.int 0))))) .nil) (.v 16)) .nil))))
  (.cons (.set (.n 8) (.cmp .ne (.v 3) (.lst .nil)))
  (.cons (.set (.n 9) (.k (.int 0)))
  (.cons (.ife (.v 8)
    (.cons (.set (.n 9) (.ix (.ix (.v 0) (.k (.int 0))) (.v 2)))
    .nil)
    .nil)
  (.cons (.for_ (.t (.cons (.n 10) (.cons (.n 11) .nil))) (.enm (.ix (.v 0) (.k (.int 2)))) b1_day_told)
  (.cons (.ret (.tup (.cons (.v 8) (.cons (.v 4) (.cons (.v 5) (.cons (.v 6) (.cons (.v 7) (.cons (.v 9) .nil))))))))
  .nil))))))))))
/-- day_told(bakery, plan, day) -/
def f_day_told : Fn := ⟨3, 17, m_day_told, c_day_told, Sh.f⟩
def n_replayed : List Str := ["bakery", "plan", "day"]
def m_replayed : List Sh := [Sh.f, Sh.f, Sh.f]
def c_replayed : S :=
  (.cons (.exp (.call 10 (.cons (.v 0) .nil)))
  (.cons (.ret (.lc (.n 2) (.rng (.cons (.bi .len (.cons (.ix (.v 0) (.k (.int 0))) .nil)) .nil)) .nil (.call 48 (.cons (.v 0) (.cons (.v 1) (.cons (.v 2) .nil))))))
  .nil))
/-- replayed(bakery, plan) -/
def f_replayed : Fn := ⟨2, 3, m_replayed, c_replayed, Sh.f⟩
def n__law_whole : List Str := ["thing"]
def m__law_whole : List Sh := [Sh.f]
def c__law_whole : S :=
  (.cons (.ret (.and (.isi (.v 0) .int) (.not (.isi (.v 0) .bool))))
  .nil)
/-- _law_whole(thing) -/
def f__law_whole : Fn := ⟨1, 1, m__law_whole, c__law_whole, Sh.f⟩
def n__law_parts : List Str := ["digits", "late", "want", "loaf", "keep", "fine", "none", "far"]
def m__law_parts : List Sh := [Sh.f, Sh.f, Sh.f, Sh.f, Sh.f, Sh.f, Sh.f, Sh.f]
def c__law_parts : S :=
  (.cons (.set (.t (.cons (.n 2) (.cons (.n 3) (.cons (.n 4) (.cons (.n 5) (.cons (.n 6) (.cons (.n 7) .nil))))))) (.v 0))
  (.cons (.ret (.tup (.cons (.op .mul (.v 2) (.bi .int (.cons (.cmp .gt (.v 6) (.k (.int 0))) .nil))) (.cons (.v 3) (.cons (.v 4) (.cons (.ix (.lst (.cons (.k .none) (.cons (.v 5) .nil))) (.bi .int (.cons (.and (.v 1) (.cmp .gt (.v 7) (.k (.int 1)))) .nil))) .nil))))))
  .nil))
/-- _law_parts(digits, late) -/
def f__law_parts : Fn := ⟨2, 8, m__law_parts, c__law_parts, Sh.f⟩
def n__law_price : List Str := ["good", "baked", "given", "days", "life", "fines", "row"]
def m__law_price : List Sh := [Sh.f, Sh.f, Sh.f, Sh.f, Sh.f, Sh.f, Sh.f]
def c__law_price : S :=
  (.cons (.set (.t (.cons (.n 3) (.cons (.n 4) .nil))) (.v 0))
  (.cons (.ife (.cmp .gt (.v 1) (.v 2))
    (.cons (.set (.n 5) (.lc (.n 6) (.cons (.sl (.v 3) (.cons (.v 2) .nil) (.cons (.v 1) .nil)) .nil) .nil (.ix (.v 6) (.k (.int 3)))))
    (.cons (.ret (.ife (.cmp .isin (.k .none) (.v 5)) (.k .none) (.op .add (.ix (.ix (.v 3) (.v 1)) (.k (.int 1))) (.bi .sum (.cons (.v 5) .nil)))))
    .nil))
    .nil)
  (.cons (.ife (.and (.cmp .isn (.v 4) (.k .none)) (.cmp .gt (.op .sub (.v 2) (.v 1)) (.v 4)))
    (.cons (.ret (.k .none))
    .nil)
    .nil)
  (.cons (.ret (.op .add (.ix (.ix (.v 3) (.v 1)) (.k (.int 1))) (.bi .sum (.cons (.lc (.n 6) (.cons (.sl (.v 3) (.cons (.v 1) .nil) (.cons (.v 2) .nil)) .nil) .nil (.ix (.v 6) (.k (.int 2)))) .nil))))
  .nil))))
/-- _law_price(good, baked, given) -/
def f__law_price : Fn := ⟨3, 7, m__law_price, c__law_price, Sh.f⟩
def n__law_later : List Str := ["cell"]
def m__law_later : List Sh := [Sh.f]
def c__law_later : S :=
  (.cons (.ret (.op .fdiv (.v 0) (.ix (.lst (.cons (.k (.int 1)) (.cons (.op .pow (.k (.int 10)) (.k (.int 40))) .nil))) (.bi .int (.cons (.cmp .ge (.v 0) (.op .pow (.k (.int 10)) (.k (.int 58)))) .nil)))))
  .nil)
/-- _law_later(cell) -/
def f__law_later : Fn := ⟨1, 1, m__law_later, c__law_later, Sh.f⟩
def n__law_loads : List Str := ["many", "lots", "found", "lot"]
def m__law_loads : List Sh := [Sh.f, Sh.f, (Sh.l Sh.f), Sh.f]
def b1__law_loads : S :=
  (.cons (.put (.v 2) (.ix (.v 3) (.k (.int 0))) (.op .add (.ix (.v 2) (.ix (.v 3) (.k (.int 0)))) (.ix (.v 3) (.k (.int 3)))))
  .nil)
def c__law_loads : S :=
  (.cons (.own 2 (.op .mul (.lst (.cons (.k (.int 0)) .nil)) (.v 0)))
  (.cons (.for_ (.n 3) (.cons (.v 1) .nil) b1__law_loads)
  (.cons (.ret (.v 2))
  .nil)))
/-- _law_loads(many, lots) -/
def f__law_loads : Fn := ⟨2, 4, m__law_loads, c__law_loads, Sh.f⟩
def n__law_bound : List Str := ["digits", "loads", "most", "found"]
def m__law_bound : List Sh := [Sh.f, Sh.f, Sh.f, Sh.f]
def c__law_bound : S :=
  (.cons (.set (.n 2) (.bi .max (.cons (.bi .maxL (.cons (.v 1) .nil)) (.cons (.k (.int 1)) .nil))))
  (.cons (.set (.n 3) (.ix (.lst (.cons (.k .none) (.cons (.v 2) (.cons (.op .add (.v 2) (.ix (.v 0) (.k (.int 1)))) (.cons (.v 2) .nil))))) (.ix (.v 0) (.k (.int 0)))))
  (.cons (.ife (.and (.cmp .isn (.v 3) (.k .none)) (.cmp .gt (.v 3) (.op .pow (.k (.int 10)) (.k (.int 9)))))
    (.cons (.ret (.k .none))
    .nil)
    .nil)
  (.cons (.ret (.v 3))
  .nil))))
/-- _law_bound(digits, loads) -/
def f__law_bound : Fn := ⟨2, 4, m__law_bound, c__law_bound, Sh.f⟩
def n__law_is_lot : List Str := ["bakery", "lot", "baked", "good", "given", "many", "part"]
def m__law_is_lot : List Sh := [Sh.f, Sh.f, Sh.f, Sh.f, Sh.f, Sh.f, Sh.f]
def c__law_is_lot : S :=
  (.cons (.ife (.or (.not (.isi (.v 1) .tuple)) (.or (.cmp .ne (.bi .len (.cons (.v 1) .nil)) (.k (.int 4))) (.not (.bi .all (.cons (.lc (.n 6) (.cons (.v 1) .nil) .nil (.call 50 (.cons (.v 6) .nil))) .nil)))))
    (.cons (.ret (.k (.bool false)))
    .nil)
    .nil)
  (.cons (.set (.t (.cons (.n 2) (.cons (.n 3) (.cons (.n 4) (.cons (.n 5) .nil))))) (.v 1))
  (.cons (.ife (.or (.not (.chn .le .lt (.k (.int 0)) (.v 2) (.bi .len (.cons (.ix (.v 0) (.k (.int 0))) .nil)))) (.or (.not (.chn .le .lt (.k (.int 0)) (.v 3) (.bi .len (.cons (.ix (.v 0) (.k (.int 2))) .nil)))) (.not (.chn .le .lt (.k (.int 0)) (.v 4) (.bi .len (.cons (.ix (.v 0) (.k (.int 0))) .nil))))))
    (.cons (.ret (.k (.bool false)))
    .nil)
    .nil)
  (.cons (.ret (.and (.cmp .gt (.v 5) (.k (.int 0))) (.cmp .isn (.call 53 (.cons (.ix (.ix (.v 0) (.k (.int 2))) (.v 3)) (.cons (.v 2) (.cons (.v 4) .nil)))) (.k .none))))
  .nil))))
/-- _law_is_lot(bakery, lot) -/
def f__law_is_lot : Fn := ⟨2, 7, m__law_is_lot, c__law_is_lot, Sh.f⟩
def n__law_same : List Str := ["found", "due", "one", "other"]
def m__law_same : List Sh := [Sh.f, Sh.f, Sh.f, Sh.f]
def c__law_same : S :=
  (.cons (.ife (.or (.cmp .ne (.isi (.v 1) .list) (.isi (.v 0) .list)) (.cmp .ne (.isi (.v 1) .tuple) (.isi (.v 0) .tuple)))
    (.cons (.ret (.k (.bool false)))
    .nil)
    .nil)
  (.cons (.ife (.or (.isi (.v 1) .list) (.isi (.v 1) .tuple))
    (.cons (.ife (.cmp .ne (.bi .len (.cons (.v 0) .nil)) (.bi .len (.cons (.v 1) .nil)))
      (.cons (.ret (.k (.bool false)))
      .nil)
      .nil)
    (.cons (.ret (.bi .all (.cons (.lc (.t (.cons (.n 2) (.cons (.n 3) .nil))) (.zip (.v 0) (.v 1)) .nil (.call 60 (.cons (.v 2) (.cons (.v 3) .nil)))) .nil)))
    .nil))
    .nil)
  (.cons (.ife (.or (.cmp .ne (.isi (.v 1) .bool) (.isi (.v 0) .bool)) (.cmp .ne (.isi (.v 1) .int) (.isi (.v 0) .int)))
    (.cons (.ret (.k (.bool false)))
    .nil)
    .nil)
  (.cons (.ret (.cmp .eq (.v 0) (.v 1)))
  .nil))))
/-- _law_same(found, due) -/
def f__law_same : Fn := ⟨2, 4, m__law_same, c__law_same, Sh.f⟩
def n_look_at_plain : List Str := ["bakery"]
def m_look_at_plain : List Sh := [Sh.f]
def c_look_at_plain : S :=
  (.cons (.ife (.not (.call 24 (.cons (.v 0) .nil)))
    (.cons .never
    .nil)
    .nil)
  .nil)
/-- look_at_plain(bakery) -/
def f_look_at_plain : Fn := ⟨1, 1, m_look_at_plain, c_look_at_plain, Sh.f⟩
def n_prices_from : List Str := ["good", "baked", "given"]
def m_prices_from : List Sh := [Sh.f, Sh.f, Sh.f]
def c_prices_from : S :=
  (.cons (.ret (.lc (.n 2) (.rng (.cons (.bi .len (.cons (.ix (.v 0) (.k (.int 0))) .nil)) .nil)) .nil (.call 30 (.cons (.v 0) (.cons (.v 1) (.cons (.v 2) .nil))))))
  .nil)
/-- prices_from(good, baked) -/
def f_prices_from : Fn := ⟨2, 3, m_prices_from, c_prices_from, Sh.f⟩
def n_wants_from : List Str := ["good", "baked", "found", "row", "one"]
def m_wants_from : List Sh := [Sh.f, Sh.f, (Sh.l Sh.f), Sh.f, Sh.f]
def b1_wants_from : S :=
  (.cons (.ife (.cmp .eq (.ix (.v 3) (.k (.int 0))) (.k (.int 0)))
    (.cons (.app (.v 2) (.k (.int 0)))
    .nil)
    (.cons (.ife (.cmp .is (.v 4) (.k .none))
      (.cons (.app (.v 2) (.k .none))
      .nil)
      (.cons (.app (.v 2) (.op .mul (.ix (.v 3) (.k (.int 0))) (.v 4)))
      .nil))
    .nil))
  .nil)
def c_wants_from : S :=
  (.cons (.own 2 (.lst .nil))
  (.cons (.for_ (.t (.cons (.n 3) (.cons (.n 4) .nil))) (.zip (.ix (.v 0) (.k (.int 0))) (.call 62 (.cons (.v 0) (.cons (.v 1) .nil)))) b1_wants_from)
  (.cons (.ret (.v 2))
  .nil)))
/-- wants_from(good, baked) -/
def f_wants_from : Fn := ⟨2, 5, m_wants_from, c_wants_from, Sh.f⟩
def n_lesser : List Str := ["one", "other"]
def m_lesser : List Sh := [Sh.f, Sh.f]
def c_lesser : S :=
  (.cons (.ife (.or (.cmp .is (.v 0) (.k .none)) (.cmp .is (.v 1) (.k .none)))
    (.cons (.ret (.ife (.cmp .is (.v 0) (.k .none)) (.v 1) (.v 0)))
    .nil)
    .nil)
  (.cons (.ret (.bi .min (.cons (.v 0) (.cons (.v 1) .nil))))
  .nil))
/-- lesser(one, other) -/
def f_lesser : Fn := ⟨2, 2, m_lesser, c_lesser, Sh.f⟩
def n_together : List Str := ["one", "other"]
def m_together : List Sh := [Sh.f, Sh.f]
def c_together : S :=
  (.cons (.ife (.or (.cmp .is (.v 0) (.k .none)) (.cmp .is (.v 1) (.k .none)))
    (.cons (.ret (.k .none))
    .nil)
    .nil)
  (.cons (.ret (.op .add (.v 0) (.v 1)))
  .nil))
/-- together(one, other) -/
def f_together : Fn := ⟨2, 2, m_together, c_together, Sh.f⟩
def n_unlit : List Str := ["good", "found", "want", "loaf", "keep", "fine"]
def m_unlit : List Sh := [Sh.f, (Sh.l Sh.f), Sh.f, Sh.f, Sh.f, Sh.f]
def b1_unlit : S :=
  (.cons (.app (.v 1) (.ife (.cmp .eq (.v 2) (.k (.int 0))) (.ix (.v 1) (.neg (.k (.int 1)))) (.k .none)))
  .nil)
def c_unlit : S :=
  (.cons (.own 1 (.lst (.cons (.k (.int 0)) .nil)))
  (.cons (.for_ (.t (.cons (.n 2) (.cons (.n 3) (.cons (.n 4) (.cons (.n 5) .nil))))) (.cons (.ix (.v 0) (.k (.int 0))) .nil) b1_unlit)
  (.cons (.ret (.v 1))
  .nil)))
/-- unlit(good) -/
def f_unlit : Fn := ⟨1, 6, m_unlit, c_unlit, Sh.f⟩
def n_lit_row : List Str := ["light", "costs", "known", "found", "best", "day", "cost"]
def m_lit_row : List Sh := [Sh.f, Sh.f, Sh.f, (Sh.l Sh.f), Sh.f, Sh.f, Sh.f]
def b1_lit_row : S :=
  (.cons (.set (.n 4) (.call 65 (.cons (.call 64 (.cons (.v 4) (.cons (.ix (.v 2) (.v 5)) .nil))) (.cons (.v 6) .nil))))
  (.cons (.app (.v 3) (.call 65 (.cons (.v 4) (.cons (.v 0) .nil))))
  .nil))
def c_lit_row : S :=
  (.cons (.own 3 (.lst (.cons (.k .none) .nil)))
  (.cons (.set (.n 4) (.k .none))
  (.cons (.for_ (.t (.cons (.n 5) (.cons (.n 6) .nil))) (.enm (.v 1)) b1_lit_row)
  (.cons (.ret (.v 3))
  .nil))))
/-- lit_row(light, costs, known) -/
def f_lit_row : Fn := ⟨3, 7, m_lit_row, c_lit_row, Sh.f⟩
def n_known_rows : List Str := ["bakery", "good", "rows", "day", "light", "own", "one", "other"]
def m_known_rows : List Sh := [Sh.f, Sh.f, (Sh.l Sh.f), Sh.f, Sh.f, Sh.f, Sh.f, Sh.f]
def b1_known_rows : S :=
  (.cons (.set (.n 5) (.call 67 (.cons (.v 4) (.cons (.call 63 (.cons (.v 1) (.cons (.v 3) .nil))) (.cons (.ix (.v 2) (.neg (.k (.int 1)))) .nil)))))
  (.cons (.app (.v 2) (.lc (.t (.cons (.n 6) (.cons (.n 7) .nil))) (.zip (.ix (.v 2) (.neg (.k (.int 1)))) (.v 5)) .nil (.call 64 (.cons (.v 6) (.cons (.v 7) .nil)))))
  .nil))
def c_known_rows : S :=
  (.cons (.set (.n 1) (.ix (.ix (.v 0) (.k (.int 2))) (.k (.int 0))))
  (.cons (.own 2 (.lst (.cons (.call 66 (.cons (.v 1) .nil)) .nil)))
  (.cons (.for_ (.t (.cons (.n 3) (.cons (.n 4) .nil))) (.enm (.ix (.v 0) (.k (.int 0)))) b1_known_rows)
  (.cons (.ret (.v 2))
  .nil))))
/-- known_rows(bakery) -/
def f_known_rows : Fn := ⟨1, 8, m_known_rows, c_known_rows, Sh.f⟩
def n__law_bakery : List Str := ["script", "upto", "salt", "head", "lights", "days", "lives"]
def m__law_bakery : List Sh := [Sh.f, Sh.f, Sh.f, Sh.f, Sh.f, Sh.f, Sh.f]
def c__law_bakery : S :=
  (.cons (.set (.n 3) (.call 4 (.cons (.call 11 (.cons (.v 0) (.cons (.k (.int 0)) .nil))) (.cons (.v 2) (.cons (.lst (.cons (.k (.int 3)) (.cons (.k (.int 12)) (.cons (.k (.int 2)) .nil)))) .nil)))))
  (.cons (.set (.t (.cons (.n 4) (.cons (.n 5) .nil))) (.call 13 (.cons (.v 0) (.cons (.k (.int 1)) (.cons (.v 1) (.cons (.v 2) (.cons (.cmp .eq (.ix (.v 3) (.k (.int 2))) (.k (.int 1))) .nil)))))))
  (.cons (.set (.n 6) (.lst (.cons (.k .none) (.cons (.k .none) (.cons (.k (.int 0)) (.cons (.k (.int 1)) (.cons (.k (.int 2)) (.cons (.k (.int 3)) (.cons (.k (.int 4)) (.cons (.k (.int 5)) (.cons (.k (.int 7)) (.cons (.k (.int 11)) (.cons (.k (.int 23)) (.cons (.k (.int 40)) .nil))))))))))))))
  (.cons (.ret (.tup (.cons (.v 4) (.cons (.k .none) (.cons (.lst (.cons (.tup (.cons (.v 5) (.cons (.ix (.v 6) (.ix (.v 3) (.k (.int 1)))) .nil))) .nil)) .nil)))))
  .nil))))
/-- _law_bakery(script, upto, salt) -/
def f__law_bakery : Fn := ⟨3, 7, m__law_bakery, c__law_bakery, Sh.f⟩
def n__law_set_cost : List Str := ["lights", "good", "lit", "many", "total", "given", "want", "prices", "there", "day", "baked", "one"]
def m__law_set_cost : List Sh := [Sh.f, Sh.f, Sh.f, Sh.f, Sh.f, Sh.f, Sh.f, Sh.f, Sh.f, Sh.f, Sh.f, Sh.f]
def b1__law_set_cost : S :=
  (.cons (.set (.n 6) (.ix (.ix (.ix (.v 1) (.k (.int 0))) (.v 5)) (.k (.int 0))))
  (.cons (.set (.n 7) (.lc (.n 10) (.cons (.v 2) .nil) .nil (.call 53 (.cons (.v 1) (.cons (.v 10) (.cons (.v 5) .nil))))))
  (.cons (.set (.n 8) (.lc (.n 11) (.cons (.v 7) .nil) (.cons (.cmp .isn (.v 11) (.k .none)) .nil) (.v 11)))
  (.cons (.ife (.and (.cmp .gt (.v 6) (.k (.int 0))) (.cmp .eq (.v 8) (.lst .nil)))
    (.cons (.ret (.k .none))
    .nil)
    .nil)
  (.cons (.ife (.cmp .gt (.v 6) (.k (.int 0)))
    (.cons (.set (.n 4) (.op .add (.v 4) (.op .mul (.v 6) (.bi .minL (.cons (.v 8) .nil)))))
    .nil)
    .nil)
  .nil)))))
def c__law_set_cost : S :=
  (.cons (.set (.n 4) (.bi .sum (.cons (.lc (.n 9) (.cons (.v 2) .nil) .nil (.ix (.v 0) (.v 9))) .nil)))
  (.cons (.for_ (.n 5) (.rng (.cons (.v 3) .nil)) b1__law_set_cost)
  (.cons (.ret (.v 4))
  .nil)))
/-- _law_set_cost(lights, good, lit, many) -/
def f__law_set_cost : Fn := ⟨4, 12, m__law_set_cost, c__law_set_cost, Sh.f⟩
def n_least_row : List Str := ["bakery", "many", "row"]
def m_least_row : List Sh := [Sh.f, Sh.f, Sh.f]
def c_least_row : S :=
  (.cons (.exp (.call 61 (.cons (.v 0) .nil)))
  (.cons (.ret (.lc (.t (.cons (.n 1) (.cons (.n 2) .nil))) (.enm (.call 68 (.cons (.v 0) .nil))) .nil (.ix (.v 2) (.v 1))))
  .nil))
/-- least_row(bakery) -/
def f_least_row : Fn := ⟨1, 3, m_least_row, c_least_row, Sh.f⟩
def n__law_first : List Str := ["bakery", "many", "lights", "bound", "goods"]
def m__law_first : List Sh := [Sh.f, Sh.f, Sh.f, Sh.f, Sh.f]
def c__law_first : S :=
  (.cons (.set (.t (.cons (.n 2) (.cons (.n 3) (.cons (.n 4) .nil)))) (.v 0))
  (.cons (.ret (.tup (.cons (.sl (.v 2) .nil (.cons (.v 1) .nil)) (.cons (.v 3) (.cons (.lst (.cons (.tup (.cons (.sl (.ix (.ix (.v 4) (.k (.int 0))) (.k (.int 0))) .nil (.cons (.v 1) .nil)) (.cons (.ix (.ix (.v 4) (.k (.int 0))) (.k (.int 1))) .nil))) .nil)) .nil)))))
  .nil))
/-- _law_first(bakery, many) -/
def f__law_first : Fn := ⟨2, 5, m__law_first, c__law_first, Sh.f⟩
def n_begin_of : List Str := ["cost", "costs", "known", "until", "total", "day"]
def m_begin_of : List Sh := [Sh.f, Sh.f, Sh.f, Sh.f, Sh.f, Sh.f]
def b1_begin_of : S :=
  (.cons (.ife (.cmp .is (.ix (.v 1) (.v 5)) (.k .none))
    (.cons (.ret (.k .none))
    .nil)
    .nil)
  (.cons (.aug 4 .add (.ix (.v 1) (.v 5)))
  (.cons (.ife (.and (.cmp .isn (.ix (.v 2) (.v 5)) (.k .none)) (.cmp .eq (.op .add (.ix (.v 2) (.v 5)) (.v 4)) (.v 0)))
    (.cons (.ret (.v 5))
    .nil)
    .nil)
  .nil)))
def c_begin_of : S :=
  (.cons (.set (.n 4) (.k (.int 0)))
  (.cons (.for_ (.n 5) (.rng (.cons (.op .sub (.v 3) (.k (.int 1))) (.cons (.neg (.k (.int 1))) (.cons (.neg (.k (.int 1))) .nil)))) b1_begin_of)
  (.cons (.ret (.k .none))
  .nil)))
/-- begin_of(cost, costs, known, until) -/
def f_begin_of : Fn := ⟨4, 6, m_begin_of, c_begin_of, Sh.f⟩
def n_lot_rows : List Str := ["bakery", "rows", "until", "found", "day", "costs", "begin"]
def m_lot_rows : List Sh := [Sh.f, Sh.f, Sh.f, (Sh.l Sh.f), Sh.f, Sh.f, Sh.f]
def b1_lot_rows : S :=
  (.cons (.ife (.cmp .ne (.ix (.ix (.v 1) (.op .add (.v 4) (.k (.int 1)))) (.v 2)) (.ix (.ix (.v 1) (.v 4)) (.v 2)))
    (.cons (.set (.n 5) (.call 63 (.cons (.ix (.ix (.v 0) (.k (.int 2))) (.k (.int 0))) (.cons (.v 4) .nil))))
    (.cons (.set (.n 6) (.call 73 (.cons (.op .sub (.ix (.ix (.v 1) (.op .add (.v 4) (.k (.int 1)))) (.v 2)) (.ix (.ix (.v 0) (.k (.int 0))) (.v 4))) (.cons (.v 5) (.cons (.ix (.v 1) (.v 4)) (.cons (.v 2) .nil))))))
    (.cons (.app (.v 3) (.tup (.cons (.v 4) (.cons (.v 6) (.cons (.v 2) .nil)))))
    (.cons (.set (.n 2) (.v 6))
    .nil))))
    .nil)
  .nil)
def c_lot_rows : S :=
  (.cons (.set (.n 1) (.call 68 (.cons (.v 0) .nil)))
  (.cons (.set (.n 2) (.bi .len (.cons (.ix (.v 0) (.k (.int 0))) .nil)))
  (.cons (.own 3 (.lst .nil))
  (.cons (.for_ (.n 4) (.rng (.cons (.op .sub (.bi .len (.cons (.ix (.v 0) (.k (.int 0))) .nil)) (.k (.int 1))) (.cons (.neg (.k (.int 1))) (.cons (.neg (.k (.int 1))) .nil)))) b1_lot_rows)
  (.cons (.ret (.rev (.v 3)))
  .nil)))))
/-- lot_rows(bakery) -/
def f_lot_rows : Fn := ⟨1, 7, m_lot_rows, c_lot_rows, Sh.f⟩
def n_cheapest : List Str := ["bakery", "found", "baked", "begin", "until", "given", "want"]
def m_cheapest : List Sh := [Sh.f, (Sh.l Sh.f), Sh.f, Sh.f, Sh.f, Sh.f, Sh.f]
def b1_cheapest : S :=
  (.cons (.set (.n 6) (.ix (.ix (.ix (.ix (.ix (.v 0) (.k (.int 2))) (.k (.int 0))) (.k (.int 0))) (.v 5)) (.k (.int 0))))
  (.cons (.ife (.cmp .gt (.v 6) (.k (.int 0)))
    (.cons (.app (.v 1) (.tup (.cons (.v 2) (.cons (.k (.int 0)) (.cons (.v 5) (.cons (.v 6) .nil))))))
    .nil)
    .nil)
  .nil))
def b2_cheapest : S :=
  (.cons (.for_ (.n 5) (.rng (.cons (.v 3) (.cons (.v 4) .nil))) b1_cheapest)
  .nil)
def c_cheapest : S :=
  (.cons (.exp (.call 61 (.cons (.v 0) .nil)))
  (.cons (.own 1 (.lst .nil))
  (.cons (.for_ (.t (.cons (.n 2) (.cons (.n 3) (.cons (.n 4) .nil)))) (.cons (.call 74 (.cons (.v 0) .nil)) .nil) b2_cheapest)
  (.cons (.ret (.bi .sorted (.cons (.v 1) .nil)))
  .nil))))
/-- cheapest(bakery) -/
def f_cheapest : Fn := ⟨1, 7, m_cheapest, c_cheapest, Sh.f⟩
def n_are_prices : List Str := ["bakery", "thing", "price", "row"]
def m_are_prices : List Sh := [Sh.f, Sh.f, Sh.f, Sh.f]
def b1_are_prices : S :=
  (.cons (.ife (.or (.not (.call 1 (.cons (.v 2) .nil))) (.and (.cmp .eq (.ix (.v 3) (.k (.int 0))) (.k (.int 0))) (.cmp .ne (.v 2) (.k (.int 0)))))
    (.cons (.ret (.k (.bool false)))
    .nil)
    .nil)
  .nil)
def c_are_prices : S :=
  (.cons (.ife (.or (.not (.isi (.v 1) .list)) (.cmp .ne (.bi .len (.cons (.v 1) .nil)) (.bi .len (.cons (.ix (.v 0) (.k (.int 0))) .nil))))
    (.cons (.ret (.k (.bool false)))
    .nil)
    .nil)
  (.cons (.for_ (.t (.cons (.n 2) (.cons (.n 3) .nil))) (.zip (.v 1) (.ix (.ix (.ix (.v 0) (.k (.int 2))) (.k (.int 0))) (.k (.int 0)))) b1_are_prices)
  (.cons (.ret (.k (.bool true)))
  .nil)))
/-- are_prices(bakery, thing) -/
def f_are_prices : Fn := ⟨2, 4, m_are_prices, c_are_prices, Sh.f⟩
def n_holds_at : List Str := ["light", "costs", "prices", "running", "cost", "price"]
def m_holds_at : List Sh := [Sh.f, Sh.f, Sh.f, Sh.f, Sh.f, Sh.f]
def b1_holds_at : S :=
  (.cons (.ife (.cmp .is (.v 4) (.k .none))
    (.cons (.set (.n 3) (.k (.int 0)))
    .nil)
    (.cons (.set (.n 3) (.op .sub (.op .add (.bi .max (.cons (.v 3) (.cons (.k (.int 0)) .nil))) (.v 5)) (.v 4)))
    .nil))
  (.cons (.ife (.cmp .gt (.v 3) (.v 0))
    (.cons (.ret (.k (.bool false)))
    .nil)
    .nil)
  .nil))
def c_holds_at : S :=
  (.cons (.set (.n 3) (.k (.int 0)))
  (.cons (.for_ (.t (.cons (.n 4) (.cons (.n 5) .nil))) (.zip (.v 1) (.v 2)) b1_holds_at)
  (.cons (.ret (.k (.bool true)))
  .nil)))
/-- holds_at(light, costs, prices) -/
def f_holds_at : Fn := ⟨3, 6, m_holds_at, c_holds_at, Sh.f⟩
def n_lets_prices : List Str := ["bakery", "thing", "day", "light"]
def m_lets_prices : List Sh := [Sh.f, Sh.f, Sh.f, Sh.f]
def c_lets_prices : S :=
  (.cons (.exp (.call 61 (.cons (.v 0) .nil)))
  (.cons (.ife (.not (.call 76 (.cons (.v 0) (.cons (.v 1) .nil))))
    (.cons (.ret (.k (.bool false)))
    .nil)
    .nil)
  (.cons (.ret (.bi .all (.cons (.lc (.t (.cons (.n 2) (.cons (.n 3) .nil))) (.enm (.ix (.v 0) (.k (.int 0)))) .nil (.call 77 (.cons (.v 3) (.cons (.call 63 (.cons (.ix (.ix (.v 0) (.k (.int 2))) (.k (.int 0))) (.cons (.v 2) .nil))) (.cons (.v 1) .nil))))) .nil)))
  .nil)))
/-- lets_prices(bakery, thing) -/
def f_lets_prices : Fn := ⟨2, 4, m_lets_prices, c_lets_prices, Sh.f⟩
def n_prices_of : List Str := ["bakery", "row", "day"]
def m_prices_of : List Sh := [Sh.f, Sh.f, Sh.f]
def c_prices_of : S :=
  (.cons (.exp (.call 61 (.cons (.v 0) .nil)))
  (.cons (.set (.n 1) (.ix (.call 68 (.cons (.v 0) .nil)) (.neg (.k (.int 1)))))
  (.cons (.ret (.lc (.n 2) (.rng (.cons (.bi .len (.cons (.ix (.v 0) (.k (.int 0))) .nil)) .nil)) .nil (.op .sub (.ix (.v 1) (.op .add (.v 2) (.k (.int 1)))) (.ix (.v 1) (.v 2)))))
  .nil)))
/-- prices_of(bakery) -/
def f_prices_of : Fn := ⟨1, 3, m_prices_of, c_prices_of, Sh.f⟩
def n_is_steady_one : List Str := ["bakery", "days", "day", "row"]
def m_is_steady_one : List Sh := [Sh.f, Sh.f, Sh.f, Sh.f]
def b1_is_steady_one : S :=
  (.cons (.ife (.or (.cmp .isn (.ix (.v 3) (.k (.int 3))) (.k .none)) (.and (.cmp .gt (.v 2) (.k (.int 0))) (.cmp .gt (.ix (.v 3) (.k (.int 1))) (.op .add (.ix (.ix (.v 1) (.op .sub (.v 2) (.k (.int 1)))) (.k (.int 1))) (.ix (.ix (.v 1) (.op .sub (.v 2) (.k (.int 1)))) (.k (.int 2)))))))
    (.cons (.ret (.k (.bool false)))
    .nil)
    .nil)
  .nil)
def c_is_steady_one : S :=
  (.cons (.set (.n 1) (.ix (.ix (.ix (.v 0) (.k (.int 2))) (.k (.int 0))) (.k (.int 0))))
  (.cons (.for_ (.t (.cons (.n 2) (.cons (.n 3) .nil))) (.enm (.v 1)) b1_is_steady_one)
  (.cons (.ret (.k (.bool true)))
  .nil)))
/-- is_steady_one(bakery) -/
def f_is_steady_one : Fn := ⟨1, 4, m_is_steady_one, c_is_steady_one, Sh.f⟩
def n_is_steady : List Str := ["bakery"]
def m_is_steady : List Sh := [Sh.f]
def c_is_steady : S :=
  (.cons (.ret (.and (.call 24 (.cons (.v 0) .nil)) (.call 80 (.cons (.v 0) .nil))))
  .nil)
/-- is_steady(bakery) -/
def f_is_steady : Fn := ⟨1, 1, m_is_steady, c_is_steady, Sh.f⟩
def n_look_at_steady : List Str := ["bakery"]
def m_look_at_steady : List Sh := [Sh.f]
def c_look_at_steady : S :=
  (.cons (.exp (.call 61 (.cons (.v 0) .nil)))
  (.cons (.ife (.not (.call 80 (.cons (.v 0) .nil)))
    (.cons .never
    .nil)
    .nil)
  .nil))
/-- look_at_steady(bakery) -/
def f_look_at_steady : Fn := ⟨1, 1, m_look_at_steady, c_look_at_steady, Sh.f⟩
def n_last_lits_of : List Str := ["bakery", "row", "good", "costs", "totals", "found", "last", "day", "at", "light"]
def m_last_lits_of : List Sh := [Sh.f, Sh.f, Sh.f, Sh.f, (Sh.l Sh.f), (Sh.l Sh.f), Sh.f, Sh.f, Sh.f, Sh.f]
def b1_last_lits_of : S :=
  (.cons (.put (.v 4) (.v 8) (.call 65 (.cons (.ix (.v 4) (.v 8)) (.cons (.ix (.ix (.v 3) (.v 8)) (.v 6)) .nil))))
  .nil)
def b2_last_lits_of : S :=
  (.cons (.for_ (.n 8) (.rng (.cons (.op .add (.v 6) (.k (.int 1))) .nil)) b1_last_lits_of)
  (.cons (.ife (.cmp .eq (.ix (.v 7) (.k (.int 0))) (.k (.int 0)))
    (.cons (.app (.v 5) (.ix (.v 5) (.neg (.k (.int 1)))))
    .nil)
    (.cons (.app (.v 5) (.bi .maxL (.cons (.lc (.n 8) (.rng (.cons (.op .add (.v 6) (.k (.int 1))) .nil)) (.cons (.cmp .eq (.ix (.v 4) (.v 8)) (.ix (.v 1) (.op .add (.v 6) (.k (.int 1))))) .nil) (.v 8)) .nil)))
    .nil))
  .nil))
def c_last_lits_of : S :=
  (.cons (.set (.n 2) (.ix (.ix (.v 0) (.k (.int 2))) (.k (.int 0))))
  (.cons (.set (.n 3) (.lc (.n 7) (.rng (.cons (.op .sub (.bi .len (.cons (.v 1) .nil)) (.k (.int 1))) .nil)) .nil (.call 63 (.cons (.v 2) (.cons (.v 7) .nil)))))
  (.cons (.own 4 (.lc (.t (.cons (.n 7) (.cons (.n 9) .nil))) (.enm (.ix (.v 0) (.k (.int 0)))) .nil (.op .add (.ix (.v 1) (.v 7)) (.v 9))))
  (.cons (.own 5 (.lst (.cons (.k .none) .nil)))
  (.cons (.for_ (.t (.cons (.n 6) (.cons (.n 7) .nil))) (.enm (.ix (.v 2) (.k (.int 0)))) b2_last_lits_of)
  (.cons (.ret (.v 5))
  .nil))))))
/-- last_lits_of(bakery, row) -/
def f_last_lits_of : Fn := ⟨2, 10, m_last_lits_of, c_last_lits_of, Sh.f⟩
def n_last_lits : List Str := ["bakery"]
def m_last_lits : List Sh := [Sh.f]
def c_last_lits : S :=
  (.cons (.exp (.call 82 (.cons (.v 0) .nil)))
  (.cons (.ret (.call 83 (.cons (.v 0) (.cons (.call 71 (.cons (.v 0) .nil)) .nil))))
  .nil))
/-- last_lits(bakery) -/
def f_last_lits : Fn := ⟨1, 1, m_last_lits, c_last_lits, Sh.f⟩
def n_chain : List Str := ["lasts", "number", "found"]
def m_chain : List Sh := [Sh.f, Sh.f, (Sh.l Sh.f)]
def b1_chain : S :=
  (.cons (.app (.v 2) (.ix (.v 0) (.ix (.v 2) (.neg (.k (.int 1))))))
  .nil)
def c_chain : S :=
  (.cons (.own 2 (.lst (.cons (.v 1) .nil)))
  (.cons (.whl (.cmp .isn (.ix (.v 0) (.ix (.v 2) (.neg (.k (.int 1))))) (.k .none)) b1_chain)
  (.cons (.ret (.v 2))
  .nil)))
/-- chain(lasts, number) -/
def f_chain : Fn := ⟨2, 3, m_chain, c_chain, Sh.f⟩
def n_settled_by : List Str := ["lasts", "many", "chains", "shared", "cut", "number", "one"]
def m_settled_by : List Sh := [Sh.f, Sh.f, Sh.f, Sh.f, Sh.f, Sh.f, Sh.f]
def c_settled_by : S :=
  (.cons (.set (.n 1) (.op .sub (.bi .len (.cons (.v 0) .nil)) (.k (.int 1))))
  (.cons (.ife (.cmp .is (.ix (.v 0) (.v 1)) (.k .none))
    (.cons (.ret (.tup (.cons (.k (.int 0)) (.cons (.lst .nil) .nil))))
    .nil)
    .nil)
  (.cons (.set (.n 2) (.lc (.n 5) (.rng (.cons (.ix (.v 0) (.v 1)) (.cons (.v 1) .nil))) .nil (.call 85 (.cons (.v 0) (.cons (.v 5) .nil)))))
  (.cons (.set (.n 3) (.lc (.n 5) (.cons (.ix (.v 2) (.k (.int 0))) .nil) (.cons (.bi .all (.cons (.lc (.n 6) (.cons (.v 2) .nil) .nil (.cmp .isin (.v 5) (.v 6))) .nil)) .nil) (.v 5)))
  (.cons (.ife (.cmp .eq (.v 3) (.lst .nil))
    (.cons (.ret (.tup (.cons (.k (.int 0)) (.cons (.lst .nil) .nil))))
    .nil)
    .nil)
  (.cons (.set (.n 4) (.bi .maxL (.cons (.v 3) .nil)))
  (.cons (.ret (.tup (.cons (.v 4) (.cons (.rvt (.call 85 (.cons (.v 0) (.cons (.v 4) .nil)))) .nil))))
  .nil)))))))
/-- settled_by(lasts) -/
def f_settled_by : Fn := ⟨1, 7, m_settled_by, c_settled_by, Sh.f⟩
def n_settled : List Str := ["bakery"]
def m_settled : List Sh := [Sh.f]
def c_settled : S :=
  (.cons (.exp (.call 82 (.cons (.v 0) .nil)))
  (.cons (.ret (.call 86 (.cons (.call 83 (.cons (.v 0) (.cons (.call 71 (.cons (.v 0) .nil)) .nil))) .nil)))
  .nil))
/-- settled(bakery) -/
def f_settled : Fn := ⟨1, 1, m_settled, c_settled, Sh.f⟩
def n_foresight : List Str := ["bakery", "lasts", "found", "many", "day", "light"]
def m_foresight : List Sh := [Sh.f, Sh.f, (Sh.l Sh.f), Sh.f, Sh.f, Sh.f]
def b1_foresight : S :=
  (.cons (.ife (.cmp .is (.ix (.v 2) (.v 4)) (.k .none))
    (.cons (.put (.v 2) (.v 4) (.v 3))
    .nil)
    .nil)
  .nil)
def b2_foresight : S :=
  (.cons (.for_ (.n 4) (.rng (.cons (.ix (.call 86 (.cons (.sl (.v 1) .nil (.cons (.op .add (.v 3) (.k (.int 1))) .nil)) .nil)) (.k (.int 0))) .nil)) b1_foresight)
  .nil)
def c_foresight : S :=
  (.cons (.exp (.call 82 (.cons (.v 0) .nil)))
  (.cons (.set (.n 1) (.call 83 (.cons (.v 0) (.cons (.call 71 (.cons (.v 0) .nil)) .nil))))
  (.cons (.own 2 (.lc (.n 5) (.cons (.ix (.v 0) (.k (.int 0))) .nil) .nil (.k .none)))
  (.cons (.for_ (.n 3) (.rng (.cons (.k (.int 1)) (.cons (.bi .len (.cons (.v 1) .nil)) .nil))) b2_foresight)
  (.cons (.ret (.v 2))
  .nil)))))
/-- foresight(bakery) -/
def f_foresight : Fn := ⟨1, 6, m_foresight, c_foresight, Sh.f⟩
def n__law_let : List Str := ["bakery", "thing", "lights", "bound", "goods", "days", "day", "one", "baked", "prices", "first", "total", "given"]
def m__law_let : List Sh := [Sh.f, Sh.f, Sh.f, Sh.f, Sh.f, Sh.f, Sh.f, Sh.f, Sh.f, Sh.f, Sh.f, Sh.f, Sh.f]
def b1__law_let : S :=
  (.cons (.ife (.or (.not (.isi (.v 7) .int)) (.isi (.v 7) .bool))
    (.cons (.ret (.k (.bool false)))
    .nil)
    .nil)
  (.cons (.ife (.and (.cmp .eq (.ix (.v 6) (.k (.int 0))) (.k (.int 0))) (.cmp .ne (.v 7) (.k (.int 0))))
    (.cons (.ret (.k (.bool false)))
    .nil)
    .nil)
  .nil))
def b2__law_let : S :=
  (.cons (.ife (.and (.cmp .is (.ix (.v 9) (.v 12)) (.k .none)) (.cmp .gt (.ix (.ix (.v 5) (.v 12)) (.k (.int 0))) (.k (.int 0))))
    (.cons .brk
    .nil)
    .nil)
  (.cons (.ife (.cmp .gt (.ix (.ix (.v 5) (.v 12)) (.k (.int 0))) (.k (.int 0)))
    (.cons (.set (.n 11) (.op .add (.v 11) (.ix (.v 1) (.v 12))))
    (.cons (.set (.n 11) (.op .sub (.v 11) (.op .mul (.ix (.ix (.v 5) (.v 12)) (.k (.int 0))) (.ix (.v 9) (.v 12)))))
    .nil))
    .nil)
  (.cons (.ife (.cmp .gt (.v 11) (.ix (.v 2) (.v 8)))
    (.cons (.ret (.k (.bool false)))
    .nil)
    .nil)
  .nil)))
def b3__law_let : S :=
  (.cons (.set (.n 11) (.k (.int 0)))
  (.cons (.for_ (.n 12) (.rng (.cons (.v 10) (.cons (.bi .len (.cons (.v 2) .nil)) .nil))) b2__law_let)
  .nil))
def b4__law_let : S :=
  (.cons (.set (.n 9) (.lc (.n 12) (.rng (.cons (.bi .len (.cons (.v 2) .nil)) .nil)) .nil (.call 53 (.cons (.ix (.v 4) (.k (.int 0))) (.cons (.v 8) (.cons (.v 12) .nil))))))
  (.cons (.for_ (.n 10) (.rng (.cons (.bi .len (.cons (.v 2) .nil)) .nil)) b3__law_let)
  .nil))
def c__law_let : S :=
  (.cons (.set (.t (.cons (.n 2) (.cons (.n 3) (.cons (.n 4) .nil)))) (.v 0))
  (.cons (.set (.n 5) (.ix (.ix (.v 4) (.k (.int 0))) (.k (.int 0))))
  (.cons (.ife (.or (.not (.isi (.v 1) .list)) (.cmp .ne (.bi .len (.cons (.v 1) .nil)) (.bi .len (.cons (.v 2) .nil))))
    (.cons (.ret (.k (.bool false)))
    .nil)
    .nil)
  (.cons (.for_ (.t (.cons (.n 6) (.cons (.n 7) .nil))) (.zip (.v 5) (.v 1)) b1__law_let)
  (.cons (.for_ (.n 8) (.rng (.cons (.bi .len (.cons (.v 2) .nil)) .nil)) b4__law_let)
  (.cons (.ret (.k (.bool true)))
  .nil))))))
/-- _law_let(bakery, thing) -/
def f__law_let : Fn := ⟨2, 13, m__law_let, c__law_let, Sh.f⟩
def n__law_bent : List Str := ["bakery", "prices", "digits", "at", "other", "far", "found", "k", "some", "one"]
def m__law_bent : List Sh := [Sh.f, Sh.f, Sh.f, Sh.f, Sh.f, Sh.f, (Sh.l Sh.f), Sh.f, Sh.f, Sh.f]
def b1__law_bent : S :=
  (.cons (.ife (.cmp .eq (.ix (.ix (.ix (.ix (.ix (.v 0) (.k (.int 2))) (.k (.int 0))) (.k (.int 0))) (.v 7)) (.k (.int 0))) (.k (.int 0)))
    (.cons (.put (.v 6) (.v 7) (.k (.int 0)))
    .nil)
    .nil)
  .nil)
def c__law_bent : S :=
  (.cons (.set (.n 3) (.op .mod (.ix (.v 2) (.k (.int 1))) (.bi .len (.cons (.v 1) .nil))))
  (.cons (.set (.n 4) (.op .mod (.ix (.v 2) (.k (.int 2))) (.bi .len (.cons (.v 1) .nil))))
  (.cons (.set (.n 5) (.op .mul (.ix (.v 2) (.k (.int 3))) (.ix (.lst (.cons (.k (.int 1)) (.cons (.neg (.k (.int 1))) .nil))) (.ix (.v 2) (.k (.int 4))))))
  (.cons (.own 6 (.bi .list (.cons (.v 1) .nil)))
  (.cons (.ife (.cmp .lt (.ix (.v 2) (.k (.int 0))) (.k (.int 3)))
    (.cons (.put (.v 6) (.v 3) (.op .add (.ix (.v 6) (.v 3)) (.ix (.lst (.cons (.k (.int 1)) (.cons (.neg (.k (.int 1))) (.cons (.v 5) .nil)))) (.ix (.v 2) (.k (.int 0))))))
    .nil)
    (.cons (.ife (.cmp .lt (.ix (.v 2) (.k (.int 0))) (.k (.int 6)))
      (.cons (.set (.n 8) (.ix (.lst (.cons (.k (.int 1)) (.cons (.op .add (.k (.int 1)) (.op .mod (.ix (.v 2) (.k (.int 3))) (.k (.int 7)))) (.cons (.v 5) .nil)))) (.op .sub (.ix (.v 2) (.k (.int 0))) (.k (.int 3)))))
      (.cons (.put (.v 6) (.v 3) (.op .add (.ix (.v 6) (.v 3)) (.v 8)))
      (.cons (.put (.v 6) (.v 4) (.op .sub (.ix (.v 6) (.v 4)) (.v 8)))
      .nil)))
      (.cons (.ife (.cmp .eq (.ix (.v 2) (.k (.int 0))) (.k (.int 6)))
        (.cons (.own 6 (.lc (.n 9) (.cons (.v 1) .nil) .nil (.k (.int 0))))
        (.cons (.put (.v 6) (.v 3) (.ix (.v 2) (.k (.int 3))))
        .nil))
        (.cons (.ife (.cmp .eq (.ix (.v 2) (.k (.int 0))) (.k (.int 7)))
          (.cons (.own 6 (.lc (.n 9) (.cons (.v 1) .nil) .nil (.op .sub (.v 9) (.op .mul (.op .mod (.ix (.v 2) (.k (.int 3))) (.k (.int 5))) (.bi .int (.cons (.cmp .ne (.v 9) (.k (.int 0))) .nil))))))
          .nil)
          .nil)
        .nil))
      .nil))
    .nil))
  (.cons (.for_ (.n 7) (.rng (.cons (.bi .len (.cons (.v 6) .nil)) .nil)) b1__law_bent)
  (.cons (.ret (.v 6))
  .nil)))))))
/-- _law_bent(bakery, prices, digits) -/
def f__law_bent : Fn := ⟨3, 10, m__law_bent, c__law_bent, Sh.f⟩
def n__law_steady : List Str := ["script", "upto", "salt", "head", "lights", "days", "found", "want", "loaf", "keep", "fine", "lives"]
def m__law_steady : List Sh := [Sh.f, Sh.f, Sh.f, Sh.f, Sh.f, Sh.f, (Sh.l Sh.f), Sh.f, Sh.f, Sh.f, Sh.f, Sh.f]
def b1__law_steady : S :=
  (.cons (.ife (.cmp .ne (.v 6) (.lst .nil))
    (.cons (.set (.n 8) (.bi .min (.cons (.v 8) (.cons (.op .add (.ix (.ix (.v 6) (.neg (.k (.int 1)))) (.k (.int 1))) (.ix (.ix (.v 6) (.neg (.k (.int 1)))) (.k (.int 2)))) .nil))))
    .nil)
    .nil)
  (.cons (.app (.v 6) (.tup (.cons (.v 7) (.cons (.v 8) (.cons (.v 9) (.cons (.k .none) .nil))))))
  .nil))
def c__law_steady : S :=
  (.cons (.set (.n 3) (.call 4 (.cons (.call 11 (.cons (.v 0) (.cons (.k (.int 0)) .nil))) (.cons (.v 2) (.cons (.lst (.cons (.k (.int 3)) (.cons (.k (.int 12)) .nil))) .nil)))))
  (.cons (.set (.t (.cons (.n 4) (.cons (.n 5) .nil))) (.call 13 (.cons (.v 0) (.cons (.k (.int 1)) (.cons (.v 1) (.cons (.v 2) (.cons (.k (.bool false)) .nil)))))))
  (.cons (.own 6 (.lst .nil))
  (.cons (.for_ (.t (.cons (.n 7) (.cons (.n 8) (.cons (.n 9) (.cons (.n 10) .nil))))) (.cons (.v 5) .nil) b1__law_steady)
  (.cons (.set (.n 11) (.lst (.cons (.k .none) (.cons (.k .none) (.cons (.k (.int 0)) (.cons (.k (.int 1)) (.cons (.k (.int 2)) (.cons (.k (.int 3)) (.cons (.k (.int 4)) (.cons (.k (.int 5)) (.cons (.k (.int 7)) (.cons (.k (.int 11)) (.cons (.k (.int 23)) (.cons (.k (.int 40)) .nil))))))))))))))
  (.cons (.ret (.tup (.cons (.v 4) (.cons (.k .none) (.cons (.lst (.cons (.tup (.cons (.v 6) (.cons (.ix (.v 11) (.ix (.v 3) (.k (.int 1)))) .nil))) .nil)) .nil)))))
  .nil))))))
/-- _law_steady(script, upto, salt) -/
def f__law_steady : Fn := ⟨3, 12, m__law_steady, c__law_steady, Sh.f⟩
def n_look_at_days : List Str := ["bakery", "thing", "place", "day"]
def m_look_at_days : List Sh := [Sh.f, Sh.f, Sh.f, Sh.f]
def b1_look_at_days : S :=
  (.cons (.ife (.cmp .ge (.ix (.v 1) (.op .sub (.v 2) (.k (.int 1)))) (.ix (.v 1) (.v 2)))
    (.cons .never
    .nil)
    .nil)
  .nil)
def c_look_at_days : S :=
  (.cons (.ife (.or (.not (.isi (.v 1) .list)) (.not (.bi .all (.cons (.lc (.n 3) (.cons (.v 1) .nil) .nil (.call 2 (.cons (.v 3) (.cons (.k (.int 0)) (.cons (.op .sub (.bi .len (.cons (.ix (.v 0) (.k (.int 0))) .nil)) (.k (.int 1))) .nil))))) .nil))))
    (.cons .never
    .nil)
    .nil)
  (.cons (.for_ (.n 2) (.rng (.cons (.k (.int 1)) (.cons (.bi .len (.cons (.v 1) .nil)) .nil))) b1_look_at_days)
  .nil))
/-- look_at_days(bakery, thing) -/
def f_look_at_days : Fn := ⟨2, 4, m_look_at_days, c_look_at_days, Sh.f⟩
def n_reaches_of : List Str := ["bakery", "found", "good", "given", "row", "first", "last"]
def m_reaches_of : List Sh := [Sh.f, (Sh.l Sh.f), Sh.f, Sh.f, Sh.f, Sh.f, Sh.f]
def b1_reaches_of : S :=
  (.cons (.set (.t (.cons (.n 5) (.cons (.n 6) .nil))) (.call 33 (.cons (.v 2) (.cons (.v 3) .nil))))
  (.cons (.app (.v 1) (.tup (.cons (.v 5) (.cons (.v 6) (.cons (.ix (.v 4) (.k (.int 0))) .nil)))))
  .nil))
def b2_reaches_of : S :=
  (.cons (.for_ (.t (.cons (.n 3) (.cons (.n 4) .nil))) (.enm (.ix (.v 2) (.k (.int 0)))) b1_reaches_of)
  .nil)
def c_reaches_of : S :=
  (.cons (.own 1 (.lst .nil))
  (.cons (.for_ (.n 2) (.cons (.ix (.v 0) (.k (.int 2))) .nil) b2_reaches_of)
  (.cons (.ret (.v 1))
  .nil)))
/-- reaches_of(bakery) -/
def f_reaches_of : Fn := ⟨1, 7, m_reaches_of, c_reaches_of, Sh.f⟩
def n_is_beyond : List Str := ["bakery", "dark", "reaches", "first", "last", "needed", "days", "begin", "end", "many", "day"]
def m_is_beyond : List Sh := [Sh.f, Sh.f, Sh.f, Sh.f, Sh.f, Sh.f, Sh.f, Sh.f, Sh.f, Sh.f, Sh.f]
def c_is_beyond : S :=
  (.cons (.set (.n 5) (.bi .sum (.cons (.lc (.t (.cons (.n 7) (.cons (.n 8) (.cons (.n 9) .nil)))) (.cons (.v 2) .nil) (.cons (.and (.cmp .le (.v 3) (.v 7)) (.cmp .le (.v 8) (.v 4))) .nil) (.v 9)) .nil)))
  (.cons (.set (.n 6) (.bi .len (.cons (.lc (.n 10) (.rng (.cons (.v 3) (.cons (.op .add (.v 4) (.k (.int 1))) .nil))) (.cons (.cmp .nin (.v 10) (.v 1)) .nil) (.v 10)) .nil)))
  (.cons (.ife (.cmp .is (.ix (.v 0) (.k (.int 1))) (.k .none))
    (.cons (.ret (.and (.cmp .gt (.v 5) (.k (.int 0))) (.cmp .eq (.v 6) (.k (.int 0)))))
    .nil)
    .nil)
  (.cons (.ret (.cmp .gt (.v 5) (.op .mul (.ix (.v 0) (.k (.int 1))) (.v 6))))
  .nil))))
/-- is_beyond(bakery, dark, reaches, first, last) -/
def f_is_beyond : Fn := ⟨5, 11, m_is_beyond, c_is_beyond, Sh.f⟩
def n_stretch_beyond : List Str := ["bakery", "dark", "reaches", "many", "first", "last"]
def m_stretch_beyond : List Sh := [Sh.f, Sh.f, Sh.f, Sh.f, Sh.f, Sh.f]
def b1_stretch_beyond : S :=
  (.cons (.ife (.call 95 (.cons (.v 0) (.cons (.v 1) (.cons (.v 2) (.cons (.v 4) (.cons (.v 5) .nil))))))
    (.cons (.ret (.tup (.cons (.v 4) (.cons (.v 5) .nil))))
    .nil)
    .nil)
  .nil)
def b2_stretch_beyond : S :=
  (.cons (.for_ (.n 5) (.rng (.cons (.v 4) (.cons (.v 3) .nil))) b1_stretch_beyond)
  .nil)
def c_stretch_beyond : S :=
  (.cons (.set (.n 2) (.call 94 (.cons (.v 0) .nil)))
  (.cons (.set (.n 3) (.bi .len (.cons (.ix (.v 0) (.k (.int 0))) .nil)))
  (.cons (.for_ (.n 4) (.rng (.cons (.v 3) .nil)) b2_stretch_beyond)
  (.cons (.ret (.k .none))
  .nil))))
/-- stretch_beyond(bakery, dark) -/
def f_stretch_beyond : Fn := ⟨2, 6, m_stretch_beyond, c_stretch_beyond, Sh.f⟩
def n_looked_flow : List Str := ["bakery", "lit", "beyond", "day"]
def m_looked_flow : List Sh := [Sh.f, Sh.f, Sh.f, Sh.f]
def c_looked_flow : S :=
  (.cons (.exp (.call 10 (.cons (.v 0) .nil)))
  (.cons (.exp (.call 93 (.cons (.v 0) (.cons (.v 1) .nil))))
  (.cons (.set (.n 2) (.call 96 (.cons (.v 0) (.cons (.lc (.n 3) (.rng (.cons (.bi .len (.cons (.ix (.v 0) (.k (.int 0))) .nil)) .nil)) (.cons (.cmp .nin (.v 3) (.v 1)) .nil) (.v 3)) .nil))))
  (.cons (.ife (.cmp .isn (.v 2) (.k .none))
    (.cons .never
    .nil)
    .nil)
  (.cons (.ret (.call 97 (.cons (.v 0) (.cons (.v 1) .nil))))
  .nil)))))
/-- looked_flow(bakery, lit) -/
def f_looked_flow : Fn := ⟨2, 4, m_looked_flow, c_looked_flow, Sh.f⟩
def n_loaf_cost : List Str := ["bakery", "plan"]
def m_loaf_cost : List Sh := [Sh.f, Sh.f]
def c_loaf_cost : S :=
  (.cons (.exp (.call 10 (.cons (.v 0) .nil)))
  (.cons (.ret (.call 42 (.cons (.v 0) (.cons (.v 1) .nil))))
  .nil))
/-- loaf_cost(bakery, plan) -/
def f_loaf_cost : Fn := ⟨2, 2, m_loaf_cost, c_loaf_cost, Sh.f⟩
def n_baked_on : List Str := ["bakery", "lit"]
def m_baked_on : List Sh := [Sh.f, Sh.f]
def c_baked_on : S :=
  (.cons (.ret (.ix (.call 98 (.cons (.v 0) (.cons (.v 1) .nil))) (.k (.int 0))))
  .nil)
/-- baked_on(bakery, lit) -/
def f_baked_on : Fn := ⟨2, 2, m_baked_on, c_baked_on, Sh.f⟩
def n__law_day_2 : List Str := ["digits", "late", "want", "loaf", "keep", "fine", "light", "none", "far"]
def m__law_day_2 : List Sh := [Sh.f, Sh.f, Sh.f, Sh.f, Sh.f, Sh.f, Sh.f, Sh.f, Sh.f]
def c__law_day_2 : S :=
  (.cons (.set (.t (.cons (.n 2) (.cons (.n 3) (.cons (.n 4) (.cons (.n 5) (.cons (.n 6) (.cons (.n 7) (.cons (.n 8) .nil)))))))) (.v 0))
  (.cons (.ret (.tup (.cons (.v 6) (.cons (.tup (.cons (.op .mul (.v 2) (.bi .int (.cons (.cmp .gt (.v 7) (.k (.int 0))) .nil))) (.cons (.v 3) (.cons (.v 4) (.cons (.ix (.lst (.cons (.k .none) (.cons (.v 5) .nil))) (.bi .int (.cons (.and (.v 1) (.cmp .gt (.v 8) (.k (.int 1)))) .nil))) .nil))))) .nil))))
  .nil))
/-- _law_day_2(digits, late) -/
def f__law_day_2 : Fn := ⟨2, 9, m__law_day_2, c__law_day_2, Sh.f⟩
def n__law_bakery_2 : List Str := ["script", "upto", "salt", "head", "sizes", "lights", "days", "k", "light", "day"]
def m__law_bakery_2 : List Sh := [Sh.f, Sh.f, Sh.f, Sh.f, Sh.f, (Sh.l Sh.f), (Sh.l Sh.f), Sh.f, Sh.f, Sh.f]
def b1__law_bakery_2 : S :=
  (.cons (.set (.t (.cons (.n 8) (.cons (.n 9) .nil))) (.call 101 (.cons (.call 4 (.cons (.call 11 (.cons (.v 0) (.cons (.v 7) .nil))) (.cons (.op .add (.v 2) (.v 7)) (.cons (.v 4) .nil)))) (.cons (.cmp .eq (.ix (.v 3) (.k (.int 2))) (.k (.int 1))) .nil))))
  (.cons (.app (.v 5) (.v 8))
  (.cons (.app (.v 6) (.v 9))
  .nil)))
def c__law_bakery_2 : S :=
  (.cons (.set (.n 3) (.call 4 (.cons (.call 11 (.cons (.v 0) (.cons (.k (.int 0)) .nil))) (.cons (.v 2) (.cons (.lst (.cons (.k (.int 3)) (.cons (.k (.int 12)) (.cons (.k (.int 2)) .nil)))) .nil)))))
  (.cons (.set (.n 4) (.op .add (.ix (.lst (.cons (.lst (.cons (.k (.int 5)) (.cons (.k (.int 6)) (.cons (.k (.int 4)) (.cons (.k (.int 4)) (.cons (.k (.int 13)) .nil)))))) (.cons (.op .mul (.lst (.cons (.op .add (.op .pow (.k (.int 10)) (.k (.int 9))) (.k (.int 1))) .nil)) (.k (.int 5))) .nil))) (.bi .int (.cons (.cmp .eq (.ix (.v 3) (.k (.int 0))) (.k (.int 0))) .nil))) (.lst (.cons (.k (.int 4)) (.cons (.k (.int 5)) .nil)))))
  (.cons (.own 5 (.lst .nil))
  (.cons (.own 6 (.lst .nil))
  (.cons (.for_ (.n 7) (.rng (.cons (.k (.int 1)) (.cons (.bi .max (.cons (.k (.int 2)) (.cons (.bi .min (.cons (.v 1) (.cons (.bi .len (.cons (.v 0) .nil)) .nil))) .nil))) .nil))) b1__law_bakery_2)
  (.cons (.ret (.tup (.cons (.v 5) (.cons (.k .none) (.cons (.lst (.cons (.tup (.cons (.v 6) (.cons (.ix (.lst (.cons (.k .none) (.cons (.k .none) (.cons (.k (.int 0)) (.cons (.k (.int 1)) (.cons (.k (.int 2)) (.cons (.k (.int 3)) (.cons (.k (.int 4)) (.cons (.k (.int 5)) (.cons (.k (.int 7)) (.cons (.k (.int 11)) (.cons (.k (.int 23)) (.cons (.k (.int 40)) .nil))))))))))))) (.ix (.v 3) (.k (.int 1)))) .nil))) .nil)) .nil)))))
  .nil))))))
/-- _law_bakery_2(script, upto, salt) -/
def f__law_bakery_2 : Fn := ⟨3, 10, m__law_bakery_2, c__law_bakery_2, Sh.f⟩
def n__law_added : List Str := ["bakery", "light", "day", "days", "life"]
def m__law_added : List Sh := [Sh.f, Sh.f, Sh.f, Sh.f, Sh.f]
def c__law_added : S :=
  (.cons (.set (.t (.cons (.n 3) (.cons (.n 4) .nil))) (.ix (.ix (.v 0) (.k (.int 2))) (.k (.int 0))))
  (.cons (.ret (.tup (.cons (.op .add (.ix (.v 0) (.k (.int 0))) (.lst (.cons (.v 1) .nil))) (.cons (.k .none) (.cons (.lst (.cons (.tup (.cons (.op .add (.v 3) (.lst (.cons (.v 2) .nil))) (.cons (.v 4) .nil))) .nil)) .nil)))))
  .nil))
/-- _law_added(bakery, light, day) -/
def f__law_added : Fn := ⟨3, 5, m__law_added, c__law_added, Sh.f⟩
def n__law_others : List Str := ["one", "other", "j"]
def m__law_others : List Sh := [Sh.f, Sh.f, Sh.f]
def c__law_others : S :=
  (.cons (.ret (.lc (.n 2) (.rng (.cons (.bi .len (.cons (.v 0) .nil)) .nil)) (.cons (.cmp .ne (.ix (.v 0) (.v 2)) (.ix (.v 1) (.v 2))) .nil) (.v 2)))
  .nil)
/-- _law_others(one, other) -/
def f__law_others : Fn := ⟨2, 3, m__law_others, c__law_others, Sh.f⟩
def n__law_is_number : List Str := ["thing"]
def m__law_is_number : List Sh := [Sh.f]
def c__law_is_number : S :=
  (.cons (.ret (.and (.call 50 (.cons (.v 0) .nil)) (.chn .le .le (.k (.int 0)) (.v 0) (.op .pow (.k (.int 10)) (.k (.int 9))))))
  .nil)
/-- _law_is_number(thing) -/
def f__law_is_number : Fn := ⟨1, 1, m__law_is_number, c__law_is_number, Sh.f⟩
def n_show_number : List Str := ["number"]
def m_show_number : List Sh := [Sh.f]
def c_show_number : S :=
  (.cons (.ife (.cmp .is (.v 0) (.k .none))
    (.cons (.ret (.k (.str "-")))
    .nil)
    .nil)
  (.cons (.ret (.bi .str (.cons (.v 0) .nil)))
  .nil))
/-- show_number(number) -/
def f_show_number : Fn := ⟨1, 1, m_show_number, c_show_number, Sh.f⟩
def n_too_much : List Str := ["bakery", "dark"]
def m_too_much : List Sh := [Sh.f, Sh.f]
def c_too_much : S :=
  (.cons (.exp (.call 10 (.cons (.v 0) .nil)))
  (.cons (.exp (.call 93 (.cons (.v 0) (.cons (.v 1) .nil))))
  (.cons (.ret (.call 96 (.cons (.v 0) (.cons (.v 1) .nil))))
  .nil)))
/-- too_much(bakery, dark) -/
def f_too_much : Fn := ⟨2, 2, m_too_much, c_too_much, Sh.f⟩
def n_is_stretch_beyond : List Str := ["bakery", "dark", "thing", "day"]
def m_is_stretch_beyond : List Sh := [Sh.f, Sh.f, Sh.f, Sh.f]
def c_is_stretch_beyond : S :=
  (.cons (.ife (.or (.not (.isi (.v 2) .tuple)) (.cmp .ne (.bi .len (.cons (.v 2) .nil)) (.k (.int 2))))
    (.cons (.ret (.k (.bool false)))
    .nil)
    .nil)
  (.cons (.ife (.or (.not (.bi .all (.cons (.lc (.n 3) (.cons (.v 2) .nil) .nil (.call 2 (.cons (.v 3) (.cons (.k (.int 0)) (.cons (.op .sub (.bi .len (.cons (.ix (.v 0) (.k (.int 0))) .nil)) (.k (.int 1))) .nil))))) .nil))) (.cmp .gt (.ix (.v 2) (.k (.int 0))) (.ix (.v 2) (.k (.int 1)))))
    (.cons (.ret (.k (.bool false)))
    .nil)
    .nil)
  (.cons (.ret (.call 95 (.cons (.v 0) (.cons (.v 1) (.cons (.call 94 (.cons (.v 0) .nil)) (.cons (.ix (.v 2) (.k (.int 0))) (.cons (.ix (.v 2) (.k (.int 1))) .nil)))))))
  .nil)))
/-- is_stretch_beyond(bakery, dark, thing) -/
def f_is_stretch_beyond : Fn := ⟨3, 4, m_is_stretch_beyond, c_is_stretch_beyond, Sh.f⟩
def n_wants_too_much : List Str := ["bakery", "dark", "thing"]
def m_wants_too_much : List Sh := [Sh.f, Sh.f, Sh.f]
def c_wants_too_much : S :=
  (.cons (.exp (.call 10 (.cons (.v 0) .nil)))
  (.cons (.exp (.call 93 (.cons (.v 0) (.cons (.v 1) .nil))))
  (.cons (.ret (.call 113 (.cons (.v 0) (.cons (.v 1) (.cons (.v 2) .nil)))))
  .nil)))
/-- wants_too_much(bakery, dark, thing) -/
def f_wants_too_much : Fn := ⟨3, 3, m_wants_too_much, c_wants_too_much, Sh.f⟩
def n__law_dark : List Str := ["digit", "many", "day"]
def m__law_dark : List Sh := [Sh.f, Sh.f, Sh.f]
def c__law_dark : S :=
  (.cons (.ret (.lc (.n 2) (.rng (.cons (.v 1) .nil)) (.cons (.cmp .eq (.op .band (.op .shr (.v 0) (.v 2)) (.k (.int 1))) (.k (.int 1))) .nil) (.v 2)))
  .nil)
/-- _law_dark(digit, many) -/
def f__law_dark : Fn := ⟨2, 3, m__law_dark, c__law_dark, Sh.f⟩
def n__law_reach : List Str := ["good", "given", "there", "baked"]
def m__law_reach : List Sh := [Sh.f, Sh.f, Sh.f, Sh.f]
def c__law_reach : S :=
  (.cons (.set (.n 2) (.lc (.n 3) (.rng (.cons (.bi .len (.cons (.ix (.v 0) (.k (.int 0))) .nil)) .nil)) (.cons (.cmp .isn (.call 53 (.cons (.v 0) (.cons (.v 3) (.cons (.v 1) .nil)))) (.k .none)) .nil) (.v 3)))
  (.cons (.ret (.tup (.cons (.ix (.v 2) (.k (.int 0))) (.cons (.ix (.v 2) (.neg (.k (.int 1)))) .nil))))
  .nil))
/-- _law_reach(good, given) -/
def f__law_reach : Fn := ⟨2, 4, m__law_reach, c__law_reach, Sh.f⟩
def n__law_loaf_cost : List Str := ["bakery", "plan", "baked", "good", "given", "many"]
def m__law_loaf_cost : List Sh := [Sh.f, Sh.f, Sh.f, Sh.f, Sh.f, Sh.f]
def c__law_loaf_cost : S :=
  (.cons (.ret (.bi .sum (.cons (.lc (.t (.cons (.n 2) (.cons (.n 3) (.cons (.n 4) (.cons (.n 5) .nil))))) (.cons (.v 1) .nil) .nil (.op .mul (.v 5) (.call 53 (.cons (.ix (.ix (.v 0) (.k (.int 2))) (.v 3)) (.cons (.v 2) (.cons (.v 4) .nil)))))) .nil)))
  .nil)
/-- _law_loaf_cost(bakery, plan) -/
def f__law_loaf_cost : Fn := ⟨2, 6, m__law_loaf_cost, c__law_loaf_cost, Sh.f⟩
def n__law_chosen : List Str := ["number", "many", "day"]
def m__law_chosen : List Sh := [Sh.f, Sh.f, Sh.f]
def c__law_chosen : S :=
  (.cons (.ret (.lc (.n 2) (.rng (.cons (.v 1) .nil)) (.cons (.cmp .eq (.op .band (.op .shr (.v 0) (.v 2)) (.k (.int 1))) (.k (.int 1))) .nil) (.v 2)))
  .nil)
/-- _law_chosen(number, many) -/
def f__law_chosen : Fn := ⟨2, 3, m__law_chosen, c__law_chosen, Sh.f⟩
def n_loaf_prices : List Str := ["bakery", "lit"]
def m_loaf_prices : List Sh := [Sh.f, Sh.f]
def c_loaf_prices : S :=
  (.cons (.ret (.ix (.call 98 (.cons (.v 0) (.cons (.v 1) .nil))) (.k (.int 1))))
  .nil)
/-- loaf_prices(bakery, lit) -/
def f_loaf_prices : Fn := ⟨2, 2, m_loaf_prices, c_loaf_prices, Sh.f⟩
def n_are_prices_for : List Str := ["bakery", "thing", "prices", "one"]
def m_are_prices_for : List Sh := [Sh.f, Sh.f, Sh.f, Sh.f]
def b1_are_prices_for : S :=
  (.cons (.ife (.or (.not (.isi (.v 2) .list)) (.or (.cmp .ne (.bi .len (.cons (.v 2) .nil)) (.bi .len (.cons (.ix (.v 0) (.k (.int 0))) .nil))) (.not (.bi .all (.cons (.lc (.n 3) (.cons (.v 2) .nil) .nil (.call 1 (.cons (.v 3) .nil))) .nil)))))
    (.cons (.ret (.k (.bool false)))
    .nil)
    .nil)
  .nil)
def c_are_prices_for : S :=
  (.cons (.ife (.or (.not (.isi (.v 1) .list)) (.cmp .ne (.bi .len (.cons (.v 1) .nil)) (.bi .len (.cons (.ix (.v 0) (.k (.int 2))) .nil))))
    (.cons (.ret (.k (.bool false)))
    .nil)
    .nil)
  (.cons (.for_ (.n 2) (.cons (.v 1) .nil) b1_are_prices_for)
  (.cons (.ret (.k (.bool true)))
  .nil)))
/-- are_prices_for(bakery, thing) -/
def f_are_prices_for : Fn := ⟨2, 4, m_are_prices_for, c_are_prices_for, Sh.f⟩
def n_are_loaf_prices : List Str := ["bakery", "thing"]
def m_are_loaf_prices : List Sh := [Sh.f, Sh.f]
def c_are_loaf_prices : S :=
  (.cons (.exp (.call 10 (.cons (.v 0) .nil)))
  (.cons (.ret (.call 120 (.cons (.v 0) (.cons (.v 1) .nil))))
  .nil))
/-- are_loaf_prices(bakery, thing) -/
def f_are_loaf_prices : Fn := ⟨2, 2, m_are_loaf_prices, c_are_loaf_prices, Sh.f⟩
def n__law_are_prices : List Str := ["bakery", "thing", "row", "one"]
def m__law_are_prices : List Sh := [Sh.f, Sh.f, Sh.f, Sh.f]
def b1__law_are_prices : S :=
  (.cons (.ife (.or (.not (.isi (.v 2) .list)) (.or (.cmp .ne (.bi .len (.cons (.v 2) .nil)) (.bi .len (.cons (.ix (.v 0) (.k (.int 0))) .nil))) (.not (.bi .all (.cons (.lc (.n 3) (.cons (.v 2) .nil) .nil (.call 50 (.cons (.v 3) .nil))) .nil)))))
    (.cons (.ret (.k (.bool false)))
    .nil)
    .nil)
  .nil)
def c__law_are_prices : S :=
  (.cons (.ife (.or (.not (.isi (.v 1) .list)) (.cmp .ne (.bi .len (.cons (.v 1) .nil)) (.bi .len (.cons (.ix (.v 0) (.k (.int 2))) .nil))))
    (.cons (.ret (.k (.bool false)))
    .nil)
    .nil)
  (.cons (.for_ (.n 2) (.cons (.v 1) .nil) b1__law_are_prices)
  (.cons (.ret (.k (.bool true)))
  .nil)))
/-- _law_are_prices(bakery, thing) -/
def f__law_are_prices : Fn := ⟨2, 4, m__law_are_prices, c__law_are_prices, Sh.f⟩
def n_gain_of : List Str := ["bakery", "prices", "day", "total", "room", "margin", "many"]
def m_gain_of : List Sh := [Sh.f, Sh.f, Sh.f, Sh.f, Sh.f, Sh.f, Sh.f]
def b1_gain_of : S :=
  (.cons (.ife (.cmp .isn (.v 4) (.k .none))
    (.cons (.set (.n 6) (.bi .min (.cons (.v 6) (.cons (.v 4) .nil))))
    (.cons (.aug 4 .sub (.v 6))
    .nil))
    .nil)
  (.cons (.aug 3 .add (.op .mul (.v 5) (.v 6)))
  .nil))
def c_gain_of : S :=
  (.cons (.set (.n 3) (.k (.int 0)))
  (.cons (.set (.n 4) (.ix (.v 0) (.k (.int 1))))
  (.cons (.for_ (.t (.cons (.n 5) (.cons (.n 6) .nil))) (.cons (.call 124 (.cons (.v 0) (.cons (.v 1) (.cons (.v 2) .nil)))) .nil) b1_gain_of)
  (.cons (.ret (.v 3))
  .nil))))
/-- gain_of(bakery, prices, day) -/
def f_gain_of : Fn := ⟨3, 7, m_gain_of, c_gain_of, Sh.f⟩
def n_bottom_of : List Str := ["bakery", "prices", "lit", "dark", "total", "good", "worths", "day", "light", "rest", "row", "worth"]
def m_bottom_of : List Sh := [Sh.f, Sh.f, Sh.f, Sh.f, Sh.f, Sh.f, Sh.f, Sh.f, Sh.f, Sh.f, Sh.f, Sh.f]
def b1_bottom_of : S :=
  (.cons (.aug 4 .add (.bi .sum (.cons (.lc (.t (.cons (.n 10) (.cons (.n 11) .nil))) (.zip (.ix (.v 5) (.k (.int 0))) (.v 6)) .nil (.op .mul (.ix (.v 10) (.k (.int 0))) (.v 11))) .nil)))
  .nil)
def b2_bottom_of : S :=
  (.cons (.ife (.cmp .nin (.v 7) (.v 3))
    (.cons (.set (.n 9) (.op .sub (.v 8) (.call 125 (.cons (.v 0) (.cons (.v 1) (.cons (.v 7) .nil))))))
    (.cons (.ife (.or (.cmp .isin (.v 7) (.v 2)) (.cmp .lt (.v 9) (.k (.int 0))))
      (.cons (.aug 4 .add (.v 9))
      .nil)
      .nil)
    .nil))
    .nil)
  .nil)
def c_bottom_of : S :=
  (.cons (.set (.n 4) (.k (.int 0)))
  (.cons (.for_ (.t (.cons (.n 5) (.cons (.n 6) .nil))) (.zip (.ix (.v 0) (.k (.int 2))) (.v 1)) b1_bottom_of)
  (.cons (.for_ (.t (.cons (.n 7) (.cons (.n 8) .nil))) (.enm (.ix (.v 0) (.k (.int 0)))) b2_bottom_of)
  (.cons (.ret (.v 4))
  .nil))))
/-- bottom_of(bakery, prices, lit, dark) -/
def f_bottom_of : Fn := ⟨4, 12, m_bottom_of, c_bottom_of, Sh.f⟩
def n_gain : List Str := ["bakery", "prices", "day"]
def m_gain : List Sh := [Sh.f, Sh.f, Sh.f]
def c_gain : S :=
  (.cons (.exp (.call 10 (.cons (.v 0) .nil)))
  (.cons (.exp (.call 27 (.cons (.v 0) (.cons (.v 2) .nil))))
  (.cons (.ret (.call 125 (.cons (.v 0) (.cons (.v 1) (.cons (.v 2) .nil)))))
  .nil)))
/-- gain(bakery, prices, day) -/
def f_gain : Fn := ⟨3, 3, m_gain, c_gain, Sh.f⟩
def n_bottom : List Str := ["bakery", "prices", "lit", "dark"]
def m_bottom : List Sh := [Sh.f, Sh.f, Sh.f, Sh.f]
def c_bottom : S :=
  (.cons (.exp (.call 10 (.cons (.v 0) .nil)))
  (.cons (.ret (.call 126 (.cons (.v 0) (.cons (.v 1) (.cons (.v 2) (.cons (.v 3) .nil))))))
  .nil))
/-- bottom(bakery, prices, lit, dark) -/
def f_bottom : Fn := ⟨4, 4, m_bottom, c_bottom, Sh.f⟩
def n_is_leaf_of : List Str := ["thing", "word", "many"]
def m_is_leaf_of : List Sh := [Sh.f, Sh.f, Sh.f]
def c_is_leaf_of : S :=
  (.cons (.ret (.and (.isi (.v 0) .tuple) (.and (.cmp .eq (.bi .len (.cons (.v 0) .nil)) (.v 2)) (.and (.isi (.ix (.v 0) (.k (.int 0))) .str) (.cmp .eq (.ix (.v 0) (.k (.int 0))) (.v 1))))))
  .nil)
/-- is_leaf_of(thing, word, many) -/
def f_is_leaf_of : Fn := ⟨3, 3, m_is_leaf_of, c_is_leaf_of, Sh.f⟩
def n_holds : List Str := ["bakery", "cost", "thing", "lit", "dark", "day"]
def m_holds : List Sh := [Sh.f, Sh.f, Sh.f, Sh.f, Sh.f, Sh.f]
def c_holds : S :=
  (.cons (.ife (.call 129 (.cons (.v 2) (.cons (.k (.str "stretch")) (.cons (.k (.int 3)) .nil))))
    (.cons (.ret (.call 113 (.cons (.v 0) (.cons (.v 4) (.cons (.sl (.v 2) (.cons (.k (.int 1)) .nil) .nil) .nil)))))
    .nil)
    .nil)
  (.cons (.ife (.call 129 (.cons (.v 2) (.cons (.k (.str "prices")) (.cons (.k (.int 2)) .nil))))
    (.cons (.ret (.and (.call 120 (.cons (.v 0) (.cons (.ix (.v 2) (.k (.int 1))) .nil))) (.cmp .ge (.call 126 (.cons (.v 0) (.cons (.ix (.v 2) (.k (.int 1))) (.cons (.v 3) (.cons (.v 4) .nil))))) (.v 1))))
    .nil)
    .nil)
  (.cons (.ife (.or (.not (.call 129 (.cons (.v 2) (.cons (.k (.str "split")) (.cons (.k (.int 4)) .nil))))) (.not (.call 2 (.cons (.ix (.v 2) (.k (.int 1))) (.cons (.k (.int 0)) (.cons (.op .sub (.bi .len (.cons (.ix (.v 0) (.k (.int 0))) .nil)) (.k (.int 1))) .nil))))))
    (.cons (.ret (.k (.bool false)))
    .nil)
    .nil)
  (.cons (.set (.n 5) (.ix (.v 2) (.k (.int 1))))
  (.cons (.ife (.or (.cmp .isin (.v 5) (.v 3)) (.cmp .isin (.v 5) (.v 4)))
    (.cons (.ret (.k (.bool false)))
    .nil)
    .nil)
  (.cons (.ret (.and (.call 130 (.cons (.v 0) (.cons (.v 1) (.cons (.ix (.v 2) (.k (.int 2))) (.cons (.v 3) (.cons (.op .add (.v 4) (.lst (.cons (.v 5) .nil))) .nil)))))) (.call 130 (.cons (.v 0) (.cons (.v 1) (.cons (.ix (.v 2) (.k (.int 3))) (.cons (.op .add (.v 3) (.lst (.cons (.v 5) .nil))) (.cons (.v 4) .nil))))))))
  .nil))))))
/-- holds(bakery, cost, thing, lit, dark) -/
def f_holds : Fn := ⟨5, 6, m_holds, c_holds, Sh.f⟩
def n_lets_tree : List Str := ["bakery", "cost", "thing"]
def m_lets_tree : List Sh := [Sh.f, Sh.f, Sh.f]
def c_lets_tree : S :=
  (.cons (.exp (.call 10 (.cons (.v 0) .nil)))
  (.cons (.ret (.call 130 (.cons (.v 0) (.cons (.v 1) (.cons (.v 2) (.cons (.lst .nil) (.cons (.lst .nil) .nil)))))))
  .nil))
/-- lets_tree(bakery, cost, thing) -/
def f_lets_tree : Fn := ⟨3, 3, m_lets_tree, c_lets_tree, Sh.f⟩
def n__law_bottom : List Str := ["bakery", "prices", "lit", "dark", "total", "good", "worths", "day", "light", "given", "row", "more"]
def m__law_bottom : List Sh := [Sh.f, Sh.f, Sh.f, Sh.f, Sh.f, Sh.f, Sh.f, Sh.f, Sh.f, Sh.f, Sh.f, Sh.f]
def b1__law_bottom : S :=
  (.cons (.set (.n 4) (.op .add (.v 4) (.op .mul (.ix (.v 10) (.k (.int 0))) (.ix (.v 6) (.v 9)))))
  .nil)
def b2__law_bottom : S :=
  (.cons (.for_ (.t (.cons (.n 9) (.cons (.n 10) .nil))) (.enm (.ix (.v 5) (.k (.int 0)))) b1__law_bottom)
  .nil)
def b3__law_bottom : S :=
  (.cons (.set (.n 11) (.op .sub (.v 8) (.call 132 (.cons (.v 0) (.cons (.v 1) (.cons (.v 7) .nil))))))
  (.cons (.ife (.cmp .isin (.v 7) (.v 2))
    (.cons (.set (.n 4) (.op .add (.v 4) (.v 11)))
    .nil)
    (.cons (.ife (.cmp .nin (.v 7) (.v 3))
      (.cons (.set (.n 4) (.op .add (.v 4) (.bi .min (.cons (.k (.int 0)) (.cons (.v 11) .nil)))))
      .nil)
      .nil)
    .nil))
  .nil))
def c__law_bottom : S :=
  (.cons (.set (.n 4) (.k (.int 0)))
  (.cons (.for_ (.t (.cons (.n 5) (.cons (.n 6) .nil))) (.zip (.ix (.v 0) (.k (.int 2))) (.v 1)) b2__law_bottom)
  (.cons (.for_ (.t (.cons (.n 7) (.cons (.n 8) .nil))) (.enm (.ix (.v 0) (.k (.int 0)))) b3__law_bottom)
  (.cons (.ret (.v 4))
  .nil))))
/-- _law_bottom(bakery, prices, lit, dark) -/
def f__law_bottom : Fn := ⟨4, 12, m__law_bottom, c__law_bottom, Sh.f⟩
def n__law_beyond : List Str := ["bakery", "dark", "first", "last", "lights", "bound", "goods", "needed", "good", "room", "given", "there", "day", "baked"]
def m__law_beyond : List Sh := [Sh.f, Sh.f, Sh.f, Sh.f, Sh.f, Sh.f, Sh.f, Sh.f, Sh.f, Sh.f, Sh.f, Sh.f, Sh.f, Sh.f]
def b1__law_beyond : S :=
  (.cons (.set (.n 11) (.lc (.n 13) (.rng (.cons (.bi .len (.cons (.v 4) .nil)) .nil)) (.cons (.cmp .isn (.call 53 (.cons (.v 8) (.cons (.v 13) (.cons (.v 10) .nil)))) (.k .none)) .nil) (.v 13)))
  (.cons (.ife (.and (.cmp .le (.v 2) (.ix (.v 11) (.k (.int 0)))) (.cmp .le (.ix (.v 11) (.neg (.k (.int 1)))) (.v 3)))
    (.cons (.set (.n 7) (.op .add (.v 7) (.ix (.ix (.ix (.v 8) (.k (.int 0))) (.v 10)) (.k (.int 0)))))
    .nil)
    .nil)
  .nil))
def b2__law_beyond : S :=
  (.cons (.for_ (.n 10) (.rng (.cons (.bi .len (.cons (.v 4) .nil)) .nil)) b1__law_beyond)
  .nil)
def c__law_beyond : S :=
  (.cons (.set (.t (.cons (.n 4) (.cons (.n 5) (.cons (.n 6) .nil)))) (.v 0))
  (.cons (.set (.n 7) (.k (.int 0)))
  (.cons (.for_ (.n 8) (.cons (.v 6) .nil) b2__law_beyond)
  (.cons (.set (.n 9) (.bi .len (.cons (.lc (.n 12) (.rng (.cons (.v 2) (.cons (.op .add (.v 3) (.k (.int 1))) .nil))) (.cons (.cmp .nin (.v 12) (.v 1)) .nil) (.v 12)) .nil)))
  (.cons (.ret (.ife (.cmp .is (.v 5) (.k .none)) (.and (.cmp .gt (.v 7) (.k (.int 0))) (.cmp .eq (.v 9) (.k (.int 0)))) (.cmp .gt (.v 7) (.op .mul (.v 5) (.v 9)))))
  .nil)))))
/-- _law_beyond(bakery, dark, first, last) -/
def f__law_beyond : Fn := ⟨4, 14, m__law_beyond, c__law_beyond, Sh.f⟩
def n__law_are_loaf_prices : List Str := ["bakery", "thing", "row", "one"]
def m__law_are_loaf_prices : List Sh := [Sh.f, Sh.f, Sh.f, Sh.f]
def b1__law_are_loaf_prices : S :=
  (.cons (.ife (.or (.not (.isi (.v 2) .list)) (.or (.cmp .ne (.bi .len (.cons (.v 2) .nil)) (.bi .len (.cons (.ix (.v 0) (.k (.int 0))) .nil))) (.cmp .ne (.lc (.n 3) (.cons (.v 2) .nil) (.cons (.not (.call 50 (.cons (.v 3) .nil))) .nil) (.v 3)) (.lst .nil))))
    (.cons (.ret (.k (.bool false)))
    .nil)
    .nil)
  .nil)
def c__law_are_loaf_prices : S :=
  (.cons (.ife (.or (.not (.isi (.v 1) .list)) (.cmp .ne (.bi .len (.cons (.v 1) .nil)) (.bi .len (.cons (.ix (.v 0) (.k (.int 2))) .nil))))
    (.cons (.ret (.k (.bool false)))
    .nil)
    .nil)
  (.cons (.for_ (.n 2) (.cons (.v 1) .nil) b1__law_are_loaf_prices)
  (.cons (.ret (.k (.bool true)))
  .nil)))
/-- _law_are_loaf_prices(bakery, thing) -/
def f__law_are_loaf_prices : Fn := ⟨2, 4, m__law_are_loaf_prices, c__law_are_loaf_prices, Sh.f⟩
def n__law_tree_drawn : List Str := ["bakery", "digits", "deep", "day", "way", "dark"]
def m__law_tree_drawn : List Sh := [Sh.f, Sh.f, Sh.f, Sh.f, Sh.f, Sh.f]
def c__law_tree_drawn : S :=
  (.cons (.set (.n 3) (.op .mod (.ix (.v 1) (.v 2)) (.bi .len (.cons (.ix (.v 0) (.k (.int 0))) .nil))))
  (.cons (.set (.n 4) (.op .mod (.ix (.v 1) (.op .add (.v 2) (.k (.int 1)))) (.k (.int 8))))
  (.cons (.ife (.or (.cmp .eq (.v 4) (.k (.int 0))) (.cmp .gt (.v 2) (.k (.int 6))))
    (.cons (.ret (.tup (.cons (.k (.str "prices")) (.cons (.call 137 (.cons (.v 0) (.cons (.sl (.v 1) (.cons (.v 2) .nil) .nil) .nil))) .nil))))
    .nil)
    .nil)
  (.cons (.ife (.cmp .eq (.v 4) (.k (.int 1)))
    (.cons (.ret (.tup (.cons (.k (.str "stretch")) (.cons (.v 3) (.cons (.bi .min (.cons (.op .sub (.bi .len (.cons (.ix (.v 0) (.k (.int 0))) .nil)) (.k (.int 1))) (.cons (.op .add (.v 3) (.op .mod (.ix (.v 1) (.op .add (.v 2) (.k (.int 2)))) (.k (.int 3)))) .nil))) .nil)))))
    .nil)
    .nil)
  (.cons (.ife (.cmp .lt (.v 4) (.k (.int 4)))
    (.cons (.ret (.tup (.cons (.k (.str "prices")) (.cons (.call 137 (.cons (.v 0) (.cons (.sl (.v 1) (.cons (.op .add (.v 2) (.k (.int 2))) .nil) .nil) .nil))) .nil))))
    .nil)
    .nil)
  (.cons (.set (.n 5) (.call 138 (.cons (.v 0) (.cons (.v 1) (.cons (.op .add (.v 2) (.k (.int 2))) .nil)))))
  (.cons (.ret (.tup (.cons (.k (.str "split")) (.cons (.op .mod (.op .add (.v 3) (.v 2)) (.bi .len (.cons (.ix (.v 0) (.k (.int 0))) .nil))) (.cons (.v 5) (.cons (.call 138 (.cons (.v 0) (.cons (.rev (.v 1)) (.cons (.op .add (.v 2) (.k (.int 2))) .nil)))) .nil))))))
  .nil)))))))
/-- _law_tree_drawn(bakery, digits, deep) -/
def f__law_tree_drawn : Fn := ⟨3, 6, m__law_tree_drawn, c__law_tree_drawn, Sh.f⟩
def n_is_dough_day : List Str := ["thing", "part"]
def m_is_dough_day : List Sh := [Sh.f, Sh.f]
def c_is_dough_day : S :=
  (.cons (.ret (.and (.isi (.v 0) .tuple) (.and (.cmp .eq (.bi .len (.cons (.v 0) .nil)) (.k (.int 3))) (.bi .all (.cons (.lc (.n 1) (.cons (.v 0) .nil) .nil (.call 3 (.cons (.v 1) .nil))) .nil)))))
  .nil)
/-- is_dough_day(thing) -/
def f_is_dough_day : Fn := ⟨1, 2, m_is_dough_day, c_is_dough_day, Sh.f⟩
def n_look_at_dough_list : List Str := ["bakery", "thing", "day", "row"]
def m_look_at_dough_list : List Sh := [Sh.f, Sh.f, Sh.f, Sh.f]
def b1_look_at_dough_list : S :=
  (.cons (.ife (.not (.call 140 (.cons (.v 3) .nil)))
    (.cons .never
    .nil)
    .nil)
  .nil)
def c_look_at_dough_list : S :=
  (.cons (.ife (.or (.not (.isi (.v 1) .list)) (.cmp .ne (.bi .len (.cons (.v 1) .nil)) (.bi .len (.cons (.ix (.v 0) (.k (.int 0))) .nil))))
    (.cons .never
    .nil)
    .nil)
  (.cons (.for_ (.t (.cons (.n 2) (.cons (.n 3) .nil))) (.enm (.v 1)) b1_look_at_dough_list)
  .nil))
/-- look_at_dough_list(bakery, thing) -/
def f_look_at_dough_list : Fn := ⟨2, 4, m_look_at_dough_list, c_look_at_dough_list, Sh.f⟩
def n_look_at_doughs : List Str := ["bakery", "thing"]
def m_look_at_doughs : List Sh := [Sh.f, Sh.f]
def c_look_at_doughs : S :=
  (.cons (.exp (.call 61 (.cons (.v 0) .nil)))
  (.cons (.exp (.call 141 (.cons (.v 0) (.cons (.v 1) .nil))))
  .nil))
/-- look_at_doughs(bakery, thing) -/
def f_look_at_doughs : Fn := ⟨2, 2, m_look_at_doughs, c_look_at_doughs, Sh.f⟩
def n_dough_price : List Str := ["doughs", "mixed", "baked", "mix", "dough", "hold"]
def m_dough_price : List Sh := [Sh.f, Sh.f, Sh.f, Sh.f, Sh.f, Sh.f]
def c_dough_price : S :=
  (.cons (.ret (.op .add (.ix (.ix (.v 0) (.v 1)) (.k (.int 1))) (.bi .sum (.cons (.lc (.t (.cons (.n 3) (.cons (.n 4) (.cons (.n 5) .nil)))) (.cons (.sl (.v 0) (.cons (.v 1) .nil) (.cons (.v 2) .nil)) .nil) .nil (.v 5)) .nil))))
  .nil)
/-- dough_price(doughs, mixed, baked) -/
def f_dough_price : Fn := ⟨3, 6, m_dough_price, c_dough_price, Sh.f⟩
def n_is_batch : List Str := ["bakery", "thing", "last", "day"]
def m_is_batch : List Sh := [Sh.f, Sh.f, Sh.f, Sh.f]
def c_is_batch : S :=
  (.cons (.ife (.or (.not (.isi (.v 1) .tuple)) (.or (.cmp .ne (.bi .len (.cons (.v 1) .nil)) (.k (.int 4))) (.or (.not (.call 1 (.cons (.ix (.v 1) (.k (.int 3))) .nil))) (.cmp .lt (.ix (.v 1) (.k (.int 3))) (.k (.int 1))))))
    (.cons (.ret (.k (.bool false)))
    .nil)
    .nil)
  (.cons (.set (.n 2) (.op .sub (.bi .len (.cons (.ix (.v 0) (.k (.int 0))) .nil)) (.k (.int 1))))
  (.cons (.ret (.and (.bi .all (.cons (.lc (.n 3) (.cons (.sl (.v 1) .nil (.cons (.k (.int 3)) .nil)) .nil) .nil (.call 2 (.cons (.v 3) (.cons (.k (.int 0)) (.cons (.v 2) .nil))))) .nil)) (.cmp .le (.ix (.v 1) (.k (.int 0))) (.ix (.v 1) (.k (.int 1))))))
  .nil)))
/-- is_batch(bakery, thing) -/
def f_is_batch : Fn := ⟨2, 4, m_is_batch, c_is_batch, Sh.f⟩
def n_are_batches : List Str := ["bakery", "thing", "place", "mixed", "baked", "given", "many", "batch"]
def m_are_batches : List Sh := [Sh.f, Sh.f, Sh.f, Sh.f, Sh.f, Sh.f, Sh.f, Sh.f]
def b1_are_batches : S :=
  (.cons (.ife (.cmp .ge (.sl (.ix (.v 1) (.op .sub (.v 2) (.k (.int 1)))) .nil (.cons (.k (.int 3)) .nil)) (.sl (.ix (.v 1) (.v 2)) .nil (.cons (.k (.int 3)) .nil)))
    (.cons (.ret (.k (.bool false)))
    .nil)
    .nil)
  .nil)
def c_are_batches : S :=
  (.cons (.ife (.or (.not (.isi (.v 1) .list)) (.not (.bi .all (.cons (.lc (.n 7) (.cons (.v 1) .nil) .nil (.call 144 (.cons (.v 0) (.cons (.v 7) .nil)))) .nil))))
    (.cons (.ret (.k (.bool false)))
    .nil)
    .nil)
  (.cons (.for_ (.n 2) (.rng (.cons (.k (.int 1)) (.cons (.bi .len (.cons (.v 1) .nil)) .nil))) b1_are_batches)
  (.cons (.ret (.cmp .nin (.k .none) (.lc (.t (.cons (.n 3) (.cons (.n 4) (.cons (.n 5) (.cons (.n 6) .nil))))) (.cons (.v 1) .nil) .nil (.call 30 (.cons (.ix (.ix (.v 0) (.k (.int 2))) (.k (.int 0))) (.cons (.v 4) (.cons (.v 5) .nil)))))))
  .nil)))
/-- are_batches(bakery, thing) -/
def f_are_batches : Fn := ⟨2, 8, m_are_batches, c_are_batches, Sh.f⟩
def n_fits_doughs : List Str := ["bakery", "doughs", "thing", "day", "row", "mixed", "baked", "given", "many"]
def m_fits_doughs : List Sh := [Sh.f, Sh.f, Sh.f, Sh.f, Sh.f, Sh.f, Sh.f, Sh.f, Sh.f]
def b1_fits_doughs : S :=
  (.cons (.ife (.cmp .ne (.bi .sum (.cons (.lc (.t (.cons (.n 5) (.cons (.n 6) (.cons (.n 7) (.cons (.n 8) .nil))))) (.cons (.v 2) .nil) (.cons (.cmp .eq (.v 7) (.v 3)) .nil) (.v 8)) .nil)) (.ix (.v 4) (.k (.int 0))))
    (.cons (.ret (.k (.bool false)))
    .nil)
    .nil)
  .nil)
def c_fits_doughs : S :=
  (.cons (.exp (.call 142 (.cons (.v 0) (.cons (.v 1) .nil))))
  (.cons (.ife (.not (.call 145 (.cons (.v 0) (.cons (.v 2) .nil))))
    (.cons (.ret (.k (.bool false)))
    .nil)
    .nil)
  (.cons (.for_ (.t (.cons (.n 3) (.cons (.n 4) .nil))) (.enm (.ix (.ix (.ix (.v 0) (.k (.int 2))) (.k (.int 0))) (.k (.int 0)))) b1_fits_doughs)
  (.cons (.ret (.k (.bool true)))
  .nil))))
/-- fits_doughs(bakery, doughs, thing) -/
def f_fits_doughs : Fn := ⟨3, 9, m_fits_doughs, c_fits_doughs, Sh.f⟩
def n_dough_cost : List Str := ["bakery", "doughs", "plan", "total", "mixed", "baked", "given", "many", "day", "batch"]
def m_dough_cost : List Sh := [Sh.f, Sh.f, Sh.f, Sh.f, Sh.f, Sh.f, Sh.f, Sh.f, Sh.f, Sh.f]
def b1_dough_cost : S :=
  (.cons (.aug 3 .add (.op .mul (.v 7) (.op .add (.call 143 (.cons (.v 1) (.cons (.v 4) (.cons (.v 5) .nil)))) (.call 30 (.cons (.ix (.ix (.v 0) (.k (.int 2))) (.k (.int 0))) (.cons (.v 5) (.cons (.v 6) .nil)))))))
  .nil)
def c_dough_cost : S :=
  (.cons (.exp (.call 142 (.cons (.v 0) (.cons (.v 1) .nil))))
  (.cons (.set (.n 3) (.k (.int 0)))
  (.cons (.for_ (.t (.cons (.n 4) (.cons (.n 5) (.cons (.n 6) (.cons (.n 7) .nil))))) (.cons (.v 2) .nil) b1_dough_cost)
  (.cons (.aug 3 .add (.bi .sum (.cons (.lc (.n 8) (.cons (.bi .setl (.cons (.lc (.n 9) (.cons (.v 2) .nil) .nil (.ix (.v 9) (.k (.int 0)))) .nil)) .nil) .nil (.ix (.ix (.v 1) (.v 8)) (.k (.int 0)))) .nil)))
  (.cons (.ret (.op .add (.v 3) (.bi .sum (.cons (.lc (.n 8) (.cons (.bi .setl (.cons (.lc (.n 9) (.cons (.v 2) .nil) .nil (.ix (.v 9) (.k (.int 1)))) .nil)) .nil) .nil (.ix (.ix (.v 0) (.k (.int 0))) (.v 8))) .nil))))
  .nil)))))
/-- dough_cost(bakery, doughs, plan) -/
def f_dough_cost : Fn := ⟨3, 10, m_dough_cost, c_dough_cost, Sh.f⟩
def n_are_rungs : List Str := ["thing", "many", "one"]
def m_are_rungs : List Sh := [Sh.f, Sh.f, Sh.f]
def c_are_rungs : S :=
  (.cons (.ret (.and (.isi (.v 0) .list) (.and (.cmp .eq (.bi .len (.cons (.v 0) .nil)) (.v 1)) (.bi .all (.cons (.lc (.n 2) (.cons (.v 0) .nil) .nil (.call 1 (.cons (.v 2) .nil))) .nil)))))
  .nil)
/-- are_rungs(thing, many) -/
def f_are_rungs : Fn := ⟨2, 3, m_are_rungs, c_are_rungs, Sh.f⟩
def n_is_ladder : List Str := ["bakery", "thing", "many", "rungs"]
def m_is_ladder : List Sh := [Sh.f, Sh.f, Sh.f, Sh.f]
def c_is_ladder : S :=
  (.cons (.set (.n 2) (.bi .len (.cons (.ix (.v 0) (.k (.int 0))) .nil)))
  (.cons (.ife (.or (.not (.isi (.v 1) .tuple)) (.or (.cmp .ne (.bi .len (.cons (.v 1) .nil)) (.k (.int 2))) (.or (.not (.call 148 (.cons (.ix (.v 1) (.k (.int 0))) (.cons (.op .add (.v 2) (.k (.int 1))) .nil)))) (.cmp .ne (.ix (.ix (.v 1) (.k (.int 0))) (.k (.int 0))) (.k (.int 0))))))
    (.cons (.ret (.k (.bool false)))
    .nil)
    .nil)
  (.cons (.ife (.or (.not (.isi (.ix (.v 1) (.k (.int 1))) .list)) (.cmp .ne (.bi .len (.cons (.ix (.v 1) (.k (.int 1))) .nil)) (.v 2)))
    (.cons (.ret (.k (.bool false)))
    .nil)
    .nil)
  (.cons (.ret (.bi .all (.cons (.lc (.n 3) (.cons (.ix (.v 1) (.k (.int 1))) .nil) .nil (.call 148 (.cons (.v 3) (.cons (.op .add (.v 2) (.k (.int 1))) .nil)))) .nil)))
  .nil))))
/-- is_ladder(bakery, thing) -/
def f_is_ladder : Fn := ⟨2, 4, m_is_ladder, c_is_ladder, Sh.f⟩
def n_batch_costs : List Str := ["bakery", "doughs", "mixed", "baked", "found", "each", "row", "cost"]
def m_batch_costs : List Sh := [Sh.f, Sh.f, Sh.f, Sh.f, (Sh.l Sh.f), Sh.f, Sh.f, Sh.f]
def b1_batch_costs : S :=
  (.cons (.ife (.cmp .isn (.v 7) (.k .none))
    (.cons (.aug 7 .add (.op .mul (.ix (.v 6) (.k (.int 0))) (.v 5)))
    .nil)
    .nil)
  (.cons (.app (.v 4) (.v 7))
  .nil))
def c_batch_costs : S :=
  (.cons (.own 4 (.lst .nil))
  (.cons (.set (.n 5) (.call 143 (.cons (.v 1) (.cons (.v 2) (.cons (.v 3) .nil)))))
  (.cons (.for_ (.t (.cons (.n 6) (.cons (.n 7) .nil))) (.zip (.ix (.ix (.ix (.v 0) (.k (.int 2))) (.k (.int 0))) (.k (.int 0))) (.call 63 (.cons (.ix (.ix (.v 0) (.k (.int 2))) (.k (.int 0))) (.cons (.v 3) .nil)))) b1_batch_costs)
  (.cons (.ret (.v 4))
  .nil))))
/-- batch_costs(bakery, doughs, mixed, baked) -/
def f_batch_costs : Fn := ⟨4, 8, m_batch_costs, c_batch_costs, Sh.f⟩
def n_climbs : List Str := ["rungs", "light", "costs", "first", "total", "last"]
def m_climbs : List Sh := [Sh.f, Sh.f, Sh.f, Sh.f, Sh.f, Sh.f]
def b1_climbs : S :=
  (.cons (.ife (.cmp .is (.ix (.v 2) (.v 5)) (.k .none))
    (.cons .brk
    .nil)
    .nil)
  (.cons (.aug 4 .add (.ix (.v 2) (.v 5)))
  (.cons (.ife (.cmp .gt (.ix (.v 0) (.op .add (.v 5) (.k (.int 1)))) (.op .add (.ix (.v 0) (.v 3)) (.v 4)))
    (.cons (.ret (.k (.bool false)))
    .nil)
    .nil)
  .nil)))
def b2_climbs : S :=
  (.cons (.set (.n 4) (.v 1))
  (.cons (.for_ (.n 5) (.rng (.cons (.v 3) (.cons (.bi .len (.cons (.v 2) .nil)) .nil))) b1_climbs)
  .nil))
def c_climbs : S :=
  (.cons (.for_ (.n 3) (.rng (.cons (.bi .len (.cons (.v 2) .nil)) .nil)) b2_climbs)
  (.cons (.ret (.k (.bool true)))
  .nil))
/-- climbs(rungs, light, costs) -/
def f_climbs : Fn := ⟨3, 6, m_climbs, c_climbs, Sh.f⟩
def n_rests : List Str := ["rungs", "bakery", "day", "row"]
def m_rests : List Sh := [Sh.f, Sh.f, Sh.f, Sh.f]
def b1_rests : S :=
  (.cons (.ife (.and (.cmp .eq (.ix (.v 3) (.k (.int 0))) (.k (.int 0))) (.cmp .gt (.ix (.v 0) (.op .add (.v 2) (.k (.int 1)))) (.ix (.v 0) (.v 2))))
    (.cons (.ret (.k (.bool false)))
    .nil)
    .nil)
  .nil)
def c_rests : S :=
  (.cons (.for_ (.t (.cons (.n 2) (.cons (.n 3) .nil))) (.enm (.ix (.ix (.ix (.v 1) (.k (.int 2))) (.k (.int 0))) (.k (.int 0)))) b1_rests)
  (.cons (.ret (.k (.bool true)))
  .nil))
/-- rests(rungs, bakery) -/
def f_rests : Fn := ⟨2, 4, m_rests, c_rests, Sh.f⟩
def n_holds_for : List Str := ["bakery", "doughs", "ladder", "mixed", "free", "rungs", "one", "other", "baked"]
def m_holds_for : List Sh := [Sh.f, Sh.f, Sh.f, Sh.f, Sh.f, Sh.f, Sh.f, Sh.f, Sh.f]
def b1_holds_for : S :=
  (.cons (.ife (.or (.cmp .gt (.v 6) (.v 7)) (.cmp .gt (.v 7) (.op .add (.v 6) (.ix (.ix (.v 1) (.v 3)) (.k (.int 0))))))
    (.cons (.ret (.k (.bool false)))
    .nil)
    .nil)
  .nil)
def b2_holds_for : S :=
  (.cons (.ife (.not (.call 151 (.cons (.v 5) (.cons (.ix (.ix (.v 0) (.k (.int 0))) (.v 8)) (.cons (.call 150 (.cons (.v 0) (.cons (.v 1) (.cons (.v 3) (.cons (.v 8) .nil))))) .nil)))))
    (.cons (.ret (.k (.bool false)))
    .nil)
    .nil)
  .nil)
def c_holds_for : S :=
  (.cons (.set (.n 4) (.ix (.v 2) (.k (.int 0))))
  (.cons (.set (.n 5) (.ix (.ix (.v 2) (.k (.int 1))) (.v 3)))
  (.cons (.for_ (.t (.cons (.n 6) (.cons (.n 7) .nil))) (.zip (.v 4) (.v 5)) b1_holds_for)
  (.cons (.ife (.not (.call 152 (.cons (.v 5) (.cons (.v 0) .nil))))
    (.cons (.ret (.k (.bool false)))
    .nil)
    .nil)
  (.cons (.for_ (.n 8) (.rng (.cons (.v 3) (.cons (.bi .len (.cons (.ix (.v 0) (.k (.int 0))) .nil)) .nil))) b2_holds_for)
  (.cons (.ret (.k (.bool true)))
  .nil))))))
/-- holds_for(bakery, doughs, ladder, mixed) -/
def f_holds_for : Fn := ⟨4, 9, m_holds_for, c_holds_for, Sh.f⟩
def n_lets_ladder : List Str := ["bakery", "doughs", "thing", "mixed"]
def m_lets_ladder : List Sh := [Sh.f, Sh.f, Sh.f, Sh.f]
def c_lets_ladder : S :=
  (.cons (.exp (.call 142 (.cons (.v 0) (.cons (.v 1) .nil))))
  (.cons (.ife (.or (.not (.call 149 (.cons (.v 0) (.cons (.v 2) .nil)))) (.not (.call 152 (.cons (.ix (.v 2) (.k (.int 0))) (.cons (.v 0) .nil)))))
    (.cons (.ret (.k (.bool false)))
    .nil)
    .nil)
  (.cons (.ret (.bi .all (.cons (.lc (.n 3) (.rng (.cons (.bi .len (.cons (.ix (.v 0) (.k (.int 0))) .nil)) .nil)) .nil (.call 153 (.cons (.v 0) (.cons (.v 1) (.cons (.v 2) (.cons (.v 3) .nil)))))) .nil)))
  .nil)))
/-- lets_ladder(bakery, doughs, thing) -/
def f_lets_ladder : Fn := ⟨3, 4, m_lets_ladder, c_lets_ladder, Sh.f⟩
def n__law_doughs : List Str := ["script", "many", "salt", "wide", "found", "day", "cell", "digits"]
def m__law_doughs : List Sh := [Sh.f, Sh.f, Sh.f, Sh.f, (Sh.l Sh.f), Sh.f, Sh.f, Sh.f]
def b1__law_doughs : S :=
  (.cons (.set (.n 6) (.call 157 (.cons (.call 11 (.cons (.v 0) (.cons (.op .add (.k (.int 1)) (.v 5)) .nil))) .nil)))
  (.cons (.set (.n 7) (.call 4 (.cons (.v 6) (.cons (.op .add (.op .add (.v 2) (.k (.int 40))) (.v 5)) (.cons (.ix (.lst (.cons (.lst (.cons (.k (.int 13)) (.cons (.k (.int 5)) (.cons (.k (.int 4)) .nil)))) (.cons (.op .mul (.lst (.cons (.op .add (.op .pow (.k (.int 10)) (.k (.int 9))) (.k (.int 1))) .nil)) (.k (.int 3))) .nil))) (.bi .int (.cons (.v 3) .nil))) .nil)))))
  (.cons (.app (.v 4) (.bi .tuple (.cons (.v 7) .nil)))
  .nil)))
def c__law_doughs : S :=
  (.cons (.set (.n 3) (.cmp .eq (.ix (.call 4 (.cons (.call 11 (.cons (.v 0) (.cons (.k (.int 0)) .nil))) (.cons (.v 2) (.cons (.lst (.cons (.k (.int 3)) .nil)) .nil)))) (.k (.int 0))) (.k (.int 0))))
  (.cons (.own 4 (.lst .nil))
  (.cons (.for_ (.n 5) (.rng (.cons (.v 1) .nil)) b1__law_doughs)
  (.cons (.ret (.v 4))
  .nil))))
/-- _law_doughs(script, many, salt) -/
def f__law_doughs : Fn := ⟨3, 8, m__law_doughs, c__law_doughs, Sh.f⟩
def n__law_later_2 : List Str := ["cell"]
def m__law_later_2 : List Sh := [Sh.f]
def c__law_later_2 : S :=
  (.cons (.ret (.op .fdiv (.v 0) (.ix (.lst (.cons (.k (.int 1)) (.cons (.op .pow (.k (.int 10)) (.k (.int 45))) .nil))) (.bi .int (.cons (.cmp .ge (.v 0) (.op .pow (.k (.int 10)) (.k (.int 63)))) .nil)))))
  .nil)
/-- _law_later_2(cell) -/
def f__law_later_2 : Fn := ⟨1, 1, m__law_later_2, c__law_later_2, Sh.f⟩
def n__law_fits_2 : List Str := ["bakery", "thing", "left", "before", "batch", "row"]
def m__law_fits_2 : List Sh := [Sh.f, Sh.f, (Sh.l Sh.f), Sh.f, Sh.f, Sh.f]
def b1__law_fits_2 : S :=
  (.cons (.ife (.or (.not (.call 159 (.cons (.v 0) (.cons (.v 4) .nil)))) (.cmp .le (.sl (.v 4) .nil (.cons (.k (.int 3)) .nil)) (.v 3)))
    (.cons (.ret (.k (.bool false)))
    .nil)
    .nil)
  (.cons (.set (.n 3) (.sl (.v 4) .nil (.cons (.k (.int 3)) .nil)))
  (.cons (.put (.v 2) (.ix (.v 4) (.k (.int 2))) (.op .sub (.ix (.v 2) (.ix (.v 4) (.k (.int 2)))) (.ix (.v 4) (.k (.int 3)))))
  .nil)))
def c__law_fits_2 : S :=
  (.cons (.ife (.not (.isi (.v 1) .list))
    (.cons (.ret (.k (.bool false)))
    .nil)
    .nil)
  (.cons (.own 2 (.lc (.n 5) (.cons (.ix (.ix (.ix (.v 0) (.k (.int 2))) (.k (.int 0))) (.k (.int 0))) .nil) .nil (.ix (.v 5) (.k (.int 0)))))
  (.cons (.set (.n 3) (.tup (.cons (.neg (.k (.int 1))) (.cons (.k (.int 0)) (.cons (.k (.int 0)) .nil)))))
  (.cons (.for_ (.n 4) (.cons (.v 1) .nil) b1__law_fits_2)
  (.cons (.ret (.cmp .eq (.v 2) (.op .mul (.lst (.cons (.k (.int 0)) .nil)) (.bi .len (.cons (.v 2) .nil)))))
  .nil)))))
/-- _law_fits_2(bakery, thing) -/
def f__law_fits_2 : Fn := ⟨2, 6, m__law_fits_2, c__law_fits_2, Sh.f⟩
def n__law_dough : List Str := ["doughs", "mixed", "baked", "each", "night"]
def m__law_dough : List Sh := [Sh.f, Sh.f, Sh.f, Sh.f, Sh.f]
def b1__law_dough : S :=
  (.cons (.set (.n 3) (.op .add (.v 3) (.ix (.ix (.v 0) (.v 4)) (.k (.int 2)))))
  .nil)
def c__law_dough : S :=
  (.cons (.set (.n 3) (.ix (.ix (.v 0) (.v 1)) (.k (.int 1))))
  (.cons (.for_ (.n 4) (.rng (.cons (.v 1) (.cons (.v 2) .nil))) b1__law_dough)
  (.cons (.ret (.v 3))
  .nil)))
/-- _law_dough(doughs, mixed, baked) -/
def f__law_dough : Fn := ⟨3, 5, m__law_dough, c__law_dough, Sh.f⟩
def n__law_cost : List Str := ["bakery", "doughs", "plan", "total", "day", "mixed", "baked", "given", "many", "batch"]
def m__law_cost : List Sh := [Sh.f, Sh.f, Sh.f, Sh.f, Sh.f, Sh.f, Sh.f, Sh.f, Sh.f, Sh.f]
def b1__law_cost : S :=
  (.cons (.ife (.cmp .ne (.lc (.n 9) (.cons (.v 2) .nil) (.cons (.cmp .eq (.ix (.v 9) (.k (.int 0))) (.v 4)) .nil) (.v 9)) (.lst .nil))
    (.cons (.set (.n 3) (.op .add (.v 3) (.ix (.ix (.v 1) (.v 4)) (.k (.int 0)))))
    .nil)
    .nil)
  (.cons (.ife (.cmp .ne (.lc (.n 9) (.cons (.v 2) .nil) (.cons (.cmp .eq (.ix (.v 9) (.k (.int 1))) (.v 4)) .nil) (.v 9)) (.lst .nil))
    (.cons (.set (.n 3) (.op .add (.v 3) (.ix (.ix (.v 0) (.k (.int 0))) (.v 4))))
    .nil)
    .nil)
  .nil))
def b2__law_cost : S :=
  (.cons (.set (.n 3) (.op .add (.v 3) (.op .mul (.v 8) (.op .add (.call 161 (.cons (.v 1) (.cons (.v 5) (.cons (.v 6) .nil)))) (.call 53 (.cons (.ix (.ix (.v 0) (.k (.int 2))) (.k (.int 0))) (.cons (.v 6) (.cons (.v 7) .nil))))))))
  .nil)
def c__law_cost : S :=
  (.cons (.set (.n 3) (.k (.int 0)))
  (.cons (.for_ (.n 4) (.rng (.cons (.bi .len (.cons (.v 1) .nil)) .nil)) b1__law_cost)
  (.cons (.for_ (.t (.cons (.n 5) (.cons (.n 6) (.cons (.n 7) (.cons (.n 8) .nil))))) (.cons (.v 2) .nil) b2__law_cost)
  (.cons (.ret (.v 3))
  .nil))))
/-- _law_cost(bakery, doughs, plan) -/
def f__law_cost : Fn := ⟨3, 10, m__law_cost, c__law_cost, Sh.f⟩
def n__law_stretch : List Str := ["bakery", "doughs", "mixed", "baked", "first", "last", "total", "given", "want", "each"]
def m__law_stretch : List Sh := [Sh.f, Sh.f, Sh.f, Sh.f, Sh.f, Sh.f, Sh.f, Sh.f, Sh.f, Sh.f]
def b1__law_stretch : S :=
  (.cons (.set (.n 8) (.ix (.ix (.ix (.ix (.ix (.v 0) (.k (.int 2))) (.k (.int 0))) (.k (.int 0))) (.v 7)) (.k (.int 0))))
  (.cons (.set (.n 9) (.call 53 (.cons (.ix (.ix (.v 0) (.k (.int 2))) (.k (.int 0))) (.cons (.v 3) (.cons (.v 7) .nil)))))
  (.cons (.ife (.and (.cmp .gt (.v 8) (.k (.int 0))) (.cmp .is (.v 9) (.k .none)))
    (.cons (.ret (.k .none))
    .nil)
    .nil)
  (.cons (.ife (.cmp .gt (.v 8) (.k (.int 0)))
    (.cons (.set (.n 6) (.op .add (.v 6) (.op .mul (.v 8) (.op .add (.v 9) (.call 161 (.cons (.v 1) (.cons (.v 2) (.cons (.v 3) .nil))))))))
    .nil)
    .nil)
  .nil))))
def c__law_stretch : S :=
  (.cons (.set (.n 6) (.ix (.ix (.v 0) (.k (.int 0))) (.v 3)))
  (.cons (.for_ (.n 7) (.rng (.cons (.v 4) (.cons (.op .add (.v 5) (.k (.int 1))) .nil))) b1__law_stretch)
  (.cons (.ret (.v 6))
  .nil)))
/-- _law_stretch(bakery, doughs, mixed, baked, first, last) -/
def f__law_stretch : Fn := ⟨6, 10, m__law_stretch, c__law_stretch, Sh.f⟩
def n__law_are_rungs : List Str := ["thing", "many", "one"]
def m__law_are_rungs : List Sh := [Sh.f, Sh.f, Sh.f]
def c__law_are_rungs : S :=
  (.cons (.ret (.and (.isi (.v 0) .list) (.and (.cmp .eq (.bi .len (.cons (.v 0) .nil)) (.op .add (.v 1) (.k (.int 1)))) (.bi .all (.cons (.lc (.n 2) (.cons (.v 0) .nil) .nil (.call 50 (.cons (.v 2) .nil))) .nil)))))
  .nil)
/-- _law_are_rungs(thing, many) -/
def f__law_are_rungs : Fn := ⟨2, 3, m__law_are_rungs, c__law_are_rungs, Sh.f⟩
def n__law_climbs : List Str := ["bakery", "doughs", "rungs", "mixed", "many", "baked", "first", "last", "total"]
def m__law_climbs : List Sh := [Sh.f, Sh.f, Sh.f, Sh.f, Sh.f, Sh.f, Sh.f, Sh.f, Sh.f]
def b1__law_climbs : S :=
  (.cons (.set (.n 8) (.call 164 (.cons (.v 0) (.cons (.v 1) (.cons (.v 3) (.cons (.v 5) (.cons (.v 6) (.cons (.v 7) .nil))))))))
  (.cons (.ife (.and (.cmp .isn (.v 8) (.k .none)) (.cmp .gt (.ix (.v 2) (.op .add (.v 7) (.k (.int 1)))) (.op .add (.ix (.v 2) (.v 6)) (.v 8))))
    (.cons (.ret (.k (.bool false)))
    .nil)
    .nil)
  .nil))
def b2__law_climbs : S :=
  (.cons (.for_ (.n 7) (.rng (.cons (.v 6) (.cons (.v 4) .nil))) b1__law_climbs)
  .nil)
def b3__law_climbs : S :=
  (.cons (.for_ (.n 6) (.rng (.cons (.v 4) .nil)) b2__law_climbs)
  .nil)
def c__law_climbs : S :=
  (.cons (.set (.n 4) (.bi .len (.cons (.ix (.v 0) (.k (.int 0))) .nil)))
  (.cons (.for_ (.n 5) (.rng (.cons (.v 3) (.cons (.v 4) .nil))) b3__law_climbs)
  (.cons (.ret (.k (.bool true)))
  .nil)))
/-- _law_climbs(bakery, doughs, rungs, mixed) -/
def f__law_climbs : Fn := ⟨4, 9, m__law_climbs, c__law_climbs, Sh.f⟩
def n__law_rests : List Str := ["bakery", "rungs", "day", "row"]
def m__law_rests : List Sh := [Sh.f, Sh.f, Sh.f, Sh.f]
def b1__law_rests : S :=
  (.cons (.ife (.and (.cmp .eq (.ix (.v 3) (.k (.int 0))) (.k (.int 0))) (.cmp .gt (.ix (.v 1) (.op .add (.v 2) (.k (.int 1)))) (.ix (.v 1) (.v 2))))
    (.cons (.ret (.k (.bool false)))
    .nil)
    .nil)
  .nil)
def c__law_rests : S :=
  (.cons (.for_ (.t (.cons (.n 2) (.cons (.n 3) .nil))) (.enm (.ix (.ix (.ix (.v 0) (.k (.int 2))) (.k (.int 0))) (.k (.int 0)))) b1__law_rests)
  (.cons (.ret (.k (.bool true)))
  .nil))
/-- _law_rests(bakery, rungs) -/
def f__law_rests : Fn := ⟨2, 4, m__law_rests, c__law_rests, Sh.f⟩
def n__law_lets : List Str := ["bakery", "doughs", "thing", "many", "mixed", "rungs", "free", "held"]
def m__law_lets : List Sh := [Sh.f, Sh.f, Sh.f, Sh.f, Sh.f, Sh.f, Sh.f, Sh.f]
def b1__law_lets : S :=
  (.cons (.ife (.or (.cmp .gt (.v 6) (.v 7)) (.cmp .gt (.v 7) (.op .add (.v 6) (.ix (.ix (.v 1) (.v 4)) (.k (.int 0))))))
    (.cons (.ret (.k (.bool false)))
    .nil)
    .nil)
  .nil)
def b2__law_lets : S :=
  (.cons (.ife (.or (.not (.call 165 (.cons (.v 5) (.cons (.v 3) .nil)))) (.not (.call 167 (.cons (.v 0) (.cons (.v 5) .nil)))))
    (.cons (.ret (.k (.bool false)))
    .nil)
    .nil)
  (.cons (.for_ (.t (.cons (.n 6) (.cons (.n 7) .nil))) (.zip (.ix (.v 2) (.k (.int 0))) (.v 5)) b1__law_lets)
  (.cons (.ife (.not (.call 166 (.cons (.v 0) (.cons (.v 1) (.cons (.v 5) (.cons (.v 4) .nil))))))
    (.cons (.ret (.k (.bool false)))
    .nil)
    .nil)
  .nil)))
def c__law_lets : S :=
  (.cons (.set (.n 3) (.bi .len (.cons (.ix (.v 0) (.k (.int 0))) .nil)))
  (.cons (.ife (.or (.not (.isi (.v 2) .tuple)) (.or (.cmp .ne (.bi .len (.cons (.v 2) .nil)) (.k (.int 2))) (.or (.not (.call 165 (.cons (.ix (.v 2) (.k (.int 0))) (.cons (.v 3) .nil)))) (.cmp .ne (.ix (.ix (.v 2) (.k (.int 0))) (.k (.int 0))) (.k (.int 0))))))
    (.cons (.ret (.k (.bool false)))
    .nil)
    .nil)
  (.cons (.ife (.or (.not (.isi (.ix (.v 2) (.k (.int 1))) .list)) (.or (.cmp .ne (.bi .len (.cons (.ix (.v 2) (.k (.int 1))) .nil)) (.v 3)) (.not (.call 167 (.cons (.v 0) (.cons (.ix (.v 2) (.k (.int 0))) .nil))))))
    (.cons (.ret (.k (.bool false)))
    .nil)
    .nil)
  (.cons (.for_ (.t (.cons (.n 4) (.cons (.n 5) .nil))) (.enm (.ix (.v 2) (.k (.int 1)))) b2__law_lets)
  (.cons (.ret (.k (.bool true)))
  .nil)))))
/-- _law_lets(bakery, doughs, thing) -/
def f__law_lets : Fn := ⟨3, 8, m__law_lets, c__law_lets, Sh.f⟩
def n__law_bakery_3 : List Str := ["script", "upto", "salt", "lights", "goods", "digits"]
def m__law_bakery_3 : List Sh := [Sh.f, Sh.f, Sh.f, Sh.f, Sh.f, Sh.f]
def c__law_bakery_3 : S :=
  (.cons (.set (.t (.cons (.n 3) (.cons (.n 4) .nil))) (.call 52 (.cons (.v 0) (.cons (.v 1) (.cons (.v 2) .nil)))))
  (.cons (.set (.n 5) (.call 4 (.cons (.call 11 (.cons (.v 0) (.cons (.k (.int 0)) .nil))) (.cons (.op .add (.v 2) (.k (.int 60))) (.cons (.lst (.cons (.k (.int 4)) (.cons (.k (.int 9)) (.cons (.op .pow (.k (.int 10)) (.k (.int 9))) .nil)))) .nil)))))
  (.cons (.ret (.tup (.cons (.v 3) (.cons (.ix (.lst (.cons (.k .none) (.cons (.op .add (.k (.int 1)) (.ix (.v 5) (.k (.int 1)))) (.cons (.op .add (.k (.int 1)) (.ix (.v 5) (.k (.int 2)))) (.cons (.op .pow (.k (.int 10)) (.k (.int 9))) .nil))))) (.ix (.v 5) (.k (.int 0)))) (.cons (.v 4) .nil)))))
  .nil)))
/-- _law_bakery_3(script, upto, salt) -/
def f__law_bakery_3 : Fn := ⟨3, 6, m__law_bakery_3, c__law_bakery_3, Sh.f⟩
def n__law_word : List Str := ["number"]
def m__law_word : List Sh := [Sh.f]
def c__law_word : S :=
  (.cons (.ret (.ife (.cmp .is (.v 0) (.k .none)) (.k (.str "-")) (.bi .str (.cons (.v 0) .nil))))
  .nil)
/-- _law_word(number) -/
def f__law_word : Fn := ⟨1, 1, m__law_word, c__law_word, Sh.f⟩
def n__law_number_2 : List Str := ["word", "most", "sign"]
def m__law_number_2 : List Sh := [Sh.f, Sh.f, Sh.f]
def c__law_number_2 : S :=
  (.cons (.ife (.or (.not (.chn .le .le (.k (.int 1)) (.bi .len (.cons (.v 0) .nil)) (.k (.int 10)))) (.cmp .ne (.lc (.n 2) (.cons (.v 0) .nil) (.cons (.cmp .nin (.v 2) (.k (.str "0123456789"))) .nil) (.v 2)) (.lst .nil)))
    (.cons (.ret (.k .none))
    .nil)
    .nil)
  (.cons (.ife (.or (.and (.cmp .eq (.ix (.v 0) (.k (.int 0))) (.k (.str "0"))) (.cmp .ne (.v 0) (.k (.str "0")))) (.cmp .gt (.bi .int (.cons (.v 0) .nil)) (.v 1)))
    (.cons (.ret (.k .none))
    .nil)
    .nil)
  (.cons (.ret (.bi .int (.cons (.v 0) .nil)))
  .nil)))
/-- _law_number_2(word, most) -/
def f__law_number_2 : Fn := ⟨2, 3, m__law_number_2, c__law_number_2, Sh.f⟩
def n_number_in : List Str := ["word", "most", "number", "sign"]
def m_number_in : List Sh := [Sh.f, Sh.f, Sh.f, Sh.f]
def c_number_in : S :=
  (.cons (.ife (.or (.not (.chn .le .le (.k (.int 1)) (.bi .len (.cons (.v 0) .nil)) (.k (.int 10)))) (.not (.bi .all (.cons (.lc (.n 3) (.cons (.v 0) .nil) .nil (.cmp .isin (.v 3) (.k (.str "0123456789")))) .nil))))
    (.cons (.ret (.k .none))
    .nil)
    .nil)
  (.cons (.ife (.and (.cmp .eq (.ix (.v 0) (.k (.int 0))) (.k (.str "0"))) (.cmp .ne (.v 0) (.k (.str "0"))))
    (.cons (.ret (.k .none))
    .nil)
    .nil)
  (.cons (.set (.n 2) (.bi .int (.cons (.v 0) .nil)))
  (.cons (.ife (.cmp .gt (.v 2) (.v 1))
    (.cons (.ret (.k .none))
    .nil)
    .nil)
  (.cons (.ret (.v 2))
  .nil)))))
/-- number_in(word, most) -/
def f_number_in : Fn := ⟨2, 4, m_number_in, c_number_in, Sh.f⟩
def n_windows_left : List Str := ["bakery", "lots", "found", "number", "good", "given", "row", "rest", "first", "last", "baked", "one", "other", "many", "lot"]
def m_windows_left : List Sh := [Sh.f, Sh.f, (Sh.l Sh.f), Sh.f, Sh.f, Sh.f, Sh.f, Sh.f, Sh.f, Sh.f, Sh.f, Sh.f, Sh.f, Sh.f, Sh.f]
def b1_windows_left : S :=
  (.cons (.set (.n 7) (.op .sub (.ix (.v 6) (.k (.int 0))) (.bi .sum (.cons (.lc (.n 14) (.cons (.v 1) .nil) (.cons (.cmp .eq (.sl (.v 14) (.cons (.k (.int 1)) .nil) (.cons (.k (.int 3)) .nil)) (.tup (.cons (.v 3) (.cons (.v 5) .nil)))) .nil) (.ix (.v 14) (.k (.int 3)))) .nil))))
  (.cons (.set (.t (.cons (.n 8) (.cons (.n 9) .nil))) (.call 33 (.cons (.v 4) (.cons (.v 5) .nil))))
  (.cons (.ife (.cmp .ne (.v 1) (.lst .nil))
    (.cons (.set (.t (.cons (.n 10) (.cons (.n 11) (.cons (.n 12) (.cons (.n 13) .nil))))) (.ix (.v 1) (.neg (.k (.int 1)))))
    (.cons (.set (.n 8) (.bi .max (.cons (.v 8) (.cons (.op .add (.v 10) (.bi .int (.cons (.cmp .le (.tup (.cons (.v 3) (.cons (.v 5) .nil))) (.tup (.cons (.v 11) (.cons (.v 12) .nil)))) .nil))) .nil))))
    .nil))
    .nil)
  (.cons (.ife (.or (.cmp .lt (.v 7) (.k (.int 0))) (.and (.cmp .gt (.v 7) (.k (.int 0))) (.cmp .gt (.v 8) (.v 9))))
    (.cons (.ret (.k .none))
    .nil)
    .nil)
  (.cons (.ife (.cmp .gt (.v 7) (.k (.int 0)))
    (.cons (.app (.v 2) (.tup (.cons (.v 8) (.cons (.v 9) (.cons (.v 7) .nil)))))
    .nil)
    .nil)
  .nil)))))
def b2_windows_left : S :=
  (.cons (.for_ (.t (.cons (.n 5) (.cons (.n 6) .nil))) (.enm (.ix (.v 4) (.k (.int 0)))) b1_windows_left)
  .nil)
def c_windows_left : S :=
  (.cons (.own 2 (.lst .nil))
  (.cons (.for_ (.t (.cons (.n 3) (.cons (.n 4) .nil))) (.enm (.ix (.v 0) (.k (.int 2)))) b2_windows_left)
  (.cons (.ret (.v 2))
  .nil)))
/-- windows_left(bakery, lots) -/
def f_windows_left : Fn := ⟨2, 15, m_windows_left, c_windows_left, Sh.f⟩
def n_can_go_on : List Str := ["bakery", "lots", "left", "rooms", "baked", "good", "given", "many", "first", "last", "light", "needed", "begin", "end"]
def m_can_go_on : List Sh := [Sh.f, Sh.f, Sh.f, (Sh.l Sh.f), Sh.f, Sh.f, Sh.f, Sh.f, Sh.f, Sh.f, Sh.f, Sh.f, Sh.f, Sh.f]
def b1_can_go_on : S :=
  (.cons (.pau (.v 3) (.v 4) .sub (.v 7))
  .nil)
def b2_can_go_on : S :=
  (.cons (.set (.n 11) (.bi .sum (.cons (.lc (.t (.cons (.n 12) (.cons (.n 13) (.cons (.n 7) .nil)))) (.cons (.v 2) .nil) (.cons (.and (.cmp .le (.v 8) (.v 12)) (.cmp .le (.v 13) (.v 9))) .nil) (.v 7)) .nil)))
  (.cons (.ife (.cmp .gt (.v 11) (.bi .sum (.cons (.sl (.v 3) (.cons (.v 8) .nil) (.cons (.op .add (.v 9) (.k (.int 1))) .nil)) .nil)))
    (.cons (.ret (.k (.bool false)))
    .nil)
    .nil)
  .nil))
def b3_can_go_on : S :=
  (.cons (.for_ (.n 9) (.rng (.cons (.v 8) (.cons (.bi .len (.cons (.v 3) .nil)) .nil))) b2_can_go_on)
  .nil)
def c_can_go_on : S :=
  (.cons (.set (.n 2) (.call 176 (.cons (.v 0) (.cons (.v 1) .nil))))
  (.cons (.ife (.cmp .is (.v 2) (.k .none))
    (.cons (.ret (.k (.bool false)))
    .nil)
    .nil)
  (.cons (.ife (.cmp .is (.ix (.v 0) (.k (.int 1))) (.k .none))
    (.cons (.ret (.k (.bool true)))
    .nil)
    .nil)
  (.cons (.own 3 (.lc (.n 10) (.cons (.ix (.v 0) (.k (.int 0))) .nil) .nil (.ix (.v 0) (.k (.int 1)))))
  (.cons (.for_ (.t (.cons (.n 4) (.cons (.n 5) (.cons (.n 6) (.cons (.n 7) .nil))))) (.cons (.v 1) .nil) b1_can_go_on)
  (.cons (.ife (.cmp .lt (.bi .minL (.cons (.v 3) .nil)) (.k (.int 0)))
    (.cons (.ret (.k (.bool false)))
    .nil)
    .nil)
  (.cons (.for_ (.n 8) (.rng (.cons (.bi .len (.cons (.v 3) .nil)) .nil)) b3_can_go_on)
  (.cons (.ret (.k (.bool true)))
  .nil))))))))
/-- can_go_on(bakery, lots) -/
def f_can_go_on : Fn := ⟨2, 14, m_can_go_on, c_can_go_on, Sh.f⟩
/-- the defs that stand in more than one law -/
def T0 : Nat → Option Fn
  | 1 => some f_is_whole
  | 2 => some f_is_within
  | 3 => some f_is_number
  | 4 => some f__law_numbers
  | 5 => some f__law_odd
  | 6 => some f_is_day
  | 7 => some f_are_lights
  | 8 => some f_is_frame
  | 9 => some f_look_at_good
  | 10 => some f_look_at_bakery
  | 11 => some f__law_cell_at
  | 12 => some f__law_day
  | 13 => some f__law_days
  | 14 => some f__law_two
  | 15 => some f__law_at
  | 16 => some f__law_day_spoilt
  | 17 => some f__law_good_spoilt
  | 18 => some f__law_spoilt
  | 19 => some f__law_number
  | 20 => some f__law_is_day
  | 21 => some f__law_wrong_good
  | 23 => some f_is_plain_one
  | 24 => some f_is_plain
  | 25 => some f__law_truth
  | 26 => some f_look_at_number
  | 27 => some f_look_at_day
  | 28 => some f_nights_ahead
  | 29 => some f_nights_behind
  | 30 => some f_price_of
  | 31 => some f_price
  | 32 => some f__law_longer
  | 33 => some f_reach_of
  | 34 => some f_reach
  | 35 => some f_stretch_of
  | 36 => some f_stretch_price
  | 37 => some f_is_lot
  | 38 => some f_are_lots
  | 42 => some f_loaves_cost
  | 43 => some f_lit_days
  | 44 => some f_cost_by
  | 45 => some f_fits
  | 46 => some f_cost_of
  | 47 => some f_counted
  | 48 => some f_day_told
  | 49 => some f_replayed
  | 50 => some f__law_whole
  | 51 => some f__law_parts
  | 53 => some f__law_price
  | 54 => some f__law_later
  | 56 => some f__law_loads
  | 57 => some f__law_bound
  | 58 => some f__law_is_lot
  | 60 => some f__law_same
  | 61 => some f_look_at_plain
  | 62 => some f_prices_from
  | 63 => some f_wants_from
  | 64 => some f_lesser
  | 65 => some f_together
  | 66 => some f_unlit
  | 67 => some f_lit_row
  | 68 => some f_known_rows
  | 69 => some f__law_bakery
  | 70 => some f__law_set_cost
  | 71 => some f_least_row
  | 72 => some f__law_first
  | 73 => some f_begin_of
  | 74 => some f_lot_rows
  | 75 => some f_cheapest
  | 76 => some f_are_prices
  | 77 => some f_holds_at
  | 78 => some f_lets_prices
  | 79 => some f_prices_of
  | 80 => some f_is_steady_one
  | 81 => some f_is_steady
  | 82 => some f_look_at_steady
  | 83 => some f_last_lits_of
  | 84 => some f_last_lits
  | 85 => some f_chain
  | 86 => some f_settled_by
  | 87 => some f_settled
  | 88 => some f_foresight
  | 90 => some f__law_let
  | 91 => some f__law_bent
  | 92 => some f__law_steady
  | 93 => some f_look_at_days
  | 94 => some f_reaches_of
  | 95 => some f_is_beyond
  | 96 => some f_stretch_beyond
  | 98 => some f_looked_flow
  | 99 => some f_loaf_cost
  | 100 => some f_baked_on
  | 101 => some f__law_day_2
  | 102 => some f__law_bakery_2
  | 103 => some f__law_added
  | 105 => some f__law_others
  | 106 => some f__law_is_number
  | 107 => some f_show_number
  | 112 => some f_too_much
  | 113 => some f_is_stretch_beyond
  | 114 => some f_wants_too_much
  | 115 => some f__law_dark
  | 116 => some f__law_reach
  | 117 => some f__law_loaf_cost
  | 118 => some f__law_chosen
  | 119 => some f_loaf_prices
  | 120 => some f_are_prices_for
  | 121 => some f_are_loaf_prices
  | 123 => some f__law_are_prices
  | 125 => some f_gain_of
  | 126 => some f_bottom_of
  | 127 => some f_gain
  | 128 => some f_bottom
  | 129 => some f_is_leaf_of
  | 130 => some f_holds
  | 131 => some f_lets_tree
  | 133 => some f__law_bottom
  | 134 => some f__law_beyond
  | 135 => some f__law_are_loaf_prices
  | 138 => some f__law_tree_drawn
  | 140 => some f_is_dough_day
  | 141 => some f_look_at_dough_list
  | 142 => some f_look_at_doughs
  | 143 => some f_dough_price
  | 144 => some f_is_batch
  | 145 => some f_are_batches
  | 146 => some f_fits_doughs
  | 147 => some f_dough_cost
  | 148 => some f_are_rungs
  | 149 => some f_is_ladder
  | 150 => some f_batch_costs
  | 151 => some f_climbs
  | 152 => some f_rests
  | 153 => some f_holds_for
  | 154 => some f_lets_ladder
  | 156 => some f__law_doughs
  | 157 => some f__law_later_2
  | 160 => some f__law_fits_2
  | 161 => some f__law_dough
  | 162 => some f__law_cost
  | 164 => some f__law_stretch
  | 165 => some f__law_are_rungs
  | 166 => some f__law_climbs
  | 167 => some f__law_rests
  | 168 => some f__law_lets
  | 169 => some f__law_bakery_3
  | 170 => some f__law_word
  | 172 => some f__law_number_2
  | 174 => some f_number_in
  | 176 => some f_windows_left
  | 177 => some f_can_go_on
  | _ => none
def Ext (T : Nat → Option Fn) : Prop := ∀ k fn, T0 k = some fn → T k = some fn
end Bk.Pr
/-! Bk: bakeries as Lean data; what the defs that look at them tell. -/
namespace Bk
open PySem
@[simp] theorem ev_rev {C : Nat → List D → Res D} {a : E} {ρ : En} : ev C (.rev a) ρ = (ev C a ρ).bind revD := by simp only [ev]
@[simp] theorem ev_rvt {C : Nat → List D → Res D} {a : E} {ρ : En} : ev C (.rvt a) ρ = (ev C a ρ).bind rvtD := by simp only [ev]
def optD : Option Int → D
  | none => .none
  | some i => .int i
@[simp] theorem optD_n : optD none = .none := rfl
@[simp] theorem optD_s {i : Int} : optD (some i) = .int i := rfl
structure Row where
  want : Int
  loaf : Int
  keep : Int
  fine : Option Int
def Row.d (r : Row) : D := .tuple [.int r.want, .int r.loaf, .int r.keep, optD r.fine]
structure Good where
  days : List Row
  life : Option Int
def Good.d (g : Good) : D := .tuple [.list (g.days.map Row.d), optD g.life]
structure Bak where
  lights : List Int
  bound : Option Int
  goods : List Good
def Bak.d (b : Bak) : D := .tuple [.list (b.lights.map .int), optD b.bound, .list (b.goods.map Good.d)]
def Num (i : Int) : Prop := 0 ≤ i ∧ i ≤ 1000000000
def OptNum (lo hi : Int) : Option Int → Prop
  | none => True
  | some i => lo ≤ i ∧ i ≤ hi
def Row.Ok (r : Row) : Prop := Num r.want ∧ Num r.loaf ∧ Num r.keep ∧ OptNum 0 1000000000 r.fine
def Good.Ok (g : Good) (n : Nat) : Prop := g.days.length = n ∧ OptNum 0 40 g.life ∧ ∀ r ∈ g.days, r.Ok
structure Bak.Ok (b : Bak) : Prop where
  few : 1 ≤ b.lights.length ∧ b.lights.length ≤ 40
  lit : ∀ l ∈ b.lights, Num l
  bound : OptNum 1 1000000000 b.bound
  many : 1 ≤ b.goods.length ∧ b.goods.length ≤ 2
  good : ∀ g ∈ b.goods, g.Ok b.lights.length
/-! ### loops -/
theorem forL_map {α : Type} {f : D → En → Res Out} (I : Nat → En → Prop) (h : α → D) (xs : List α) (ρ : En) (h0 : I 0 ρ) (hs : ∀ i x ρ, xs[i]? = some x → I i ρ → ∃ ρ', (f (h x) ρ = .ok (.nx ρ') ∨ f (h x) ρ = .ok (.ct ρ')) ∧ I (i + 1) ρ') :
    ∃ ρ', forL f (xs.map h) ρ = .ok (.nx ρ') ∧ I xs.length ρ' := by
  obtain ⟨ρ', h1, h2⟩ := forL_inv I (xs.map h) 0 ρ h0 (by
    intro i x ρ hx hi
    rw [List.getElem?_map] at hx
    cases hy : xs[i]? with
    | none => rw [hy] at hx; cases hx
    | some y =>
      rw [hy] at hx
      cases hx
      rw [Nat.zero_add] at hi ⊢
      exact hs i y ρ hy hi)
  rw [Nat.zero_add, List.length_map] at h2
  exact ⟨ρ', h1, h2⟩
theorem forL_enm {α : Type} {f : D → En → Res Out} (I : Nat → En → Prop) (h : α → D) (xs : List α) (ρ : En) (h0 : I 0 ρ) (hs : ∀ (i : Nat) x ρ, xs[i]? = some x → I i ρ → ∃ ρ', (f (.tuple [.int i, h x]) ρ = .ok (.nx ρ') ∨ f (.tuple [.int i, h x]) ρ = .ok (.ct ρ')) ∧ I (i + 1) ρ') :
    ∃ ρ', forL f (enmD 0 (xs.map h)) ρ = .ok (.nx ρ') ∧ I xs.length ρ' := by
  obtain ⟨ρ', h1, h2⟩ := forL_inv I (enmD 0 (xs.map h)) 0 ρ h0 (by
    intro i x ρ hx hi
    have hl := (List.getElem?_eq_some_iff.mp hx).1
    rw [enmD_len, List.length_map] at hl
    have hr : (xs.map h)[i]? = some (h xs[i]) := by rw [List.getElem?_map, List.getElem?_eq_getElem hl]; rfl
    rw [enmD_get _ 0 i _ hr] at hx
    cases hx
    rw [Nat.zero_add] at hi ⊢
    exact hs i xs[i] ρ (List.getElem?_eq_getElem hl) hi)
  rw [Nat.zero_add, enmD_len, List.length_map] at h2
  exact ⟨ρ', h1, h2⟩
theorem forL_upto {f : D → En → Res Out} (I : Nat → En → Prop) (a : Int) (n : Nat) (ρ : En) (h0 : I 0 ρ) (hs : ∀ (i : Nat) ρ, i < n → I i ρ → ∃ ρ', (f (.int (a + i)) ρ = .ok (.nx ρ') ∨ f (.int (a + i)) ρ = .ok (.ct ρ')) ∧ I (i + 1) ρ') :
    ∃ ρ', forL f (upto a n) ρ = .ok (.nx ρ') ∧ I n ρ' := by
  obtain ⟨ρ', h1, h2⟩ := forL_inv I (upto a n) 0 ρ h0 (by
    intro i x ρ hx hi
    have hl := (List.getElem?_eq_some_iff.mp hx).1
    rw [upto_len] at hl
    rw [upto_get _ _ _ hl] at hx
    cases hx
    rw [Nat.zero_add] at hi ⊢
    exact hs i ρ hl hi)
  rw [Nat.zero_add, upto_len] at h2
  exact ⟨ρ', h1, h2⟩
/-! ### comprehensions -/
theorem lcL_map {α : Type} {f : D → Res (Option D)} {h g : α → D} : ∀ {xs : List α}, (∀ x ∈ xs, f (h x) = .ok (some (g x))) → lcL f (xs.map h) = .ok (xs.map g)
  | [], _ => rfl
  | x :: xs, hx => by
    simp only [List.map_cons, lcL, hx x List.mem_cons_self, Res.bind_ok, lcL_map fun y hy => hx y (List.mem_cons_of_mem _ hy)]
theorem lcL_fil {α : Type} {f : D → Res (Option D)} {h : α → D} {g : α → Option D} : ∀ {xs : List α}, (∀ x ∈ xs, f (h x) = .ok (g x)) → lcL f (xs.map h) = .ok (xs.filterMap g)
  | [], _ => rfl
  | x :: xs, hx => by
    simp only [List.map_cons, lcL, hx x List.mem_cons_self, Res.bind_ok, lcL_fil fun y hy => hx y (List.mem_cons_of_mem _ hy), List.filterMap_cons]
    cases g x <;> rfl
theorem upto_map : ∀ (n : Nat) (a : Int), upto a n = (List.range n).map fun (i : Nat) => PyData.int (a + i)
  | n, a => by
    apply List.ext_getElem?
    intro i
    by_cases h : i < n
    · rw [upto_get n a i h, List.getElem?_map, List.getElem?_range h]
      rfl
    · rw [List.getElem?_eq_none (by rw [upto_len]; omega), List.getElem?_eq_none (by simp; omega)]
theorem all_b {bs : List Bool} : biD .all [.list (bs.map .bool)] = .ok (.bool (bs.all id)) := by
  have e : boolsOf (bs.map PyData.bool) = some bs := by
    induction bs with
    | nil => rfl
    | cons b r ih => simp only [List.map_cons, boolsOf, ih, Option.map_some]
  simp only [biD, e]
theorem intsOf_map : ∀ (ns : List Int), intsOf (ns.map .int) = some ns
  | [] => rfl
  | n :: r => by simp only [List.map_cons, intsOf, intsOf_map r, Option.map_some]
theorem sum_i {ns : List Int} : biD .sum [.list (ns.map .int)] = .ok (.int ns.sum) := by
  simp only [biD, intsOf_map]
/-- a slice between two places -/
theorem cut_nn {α : Type} {xs : List α} {i j : Nat} : cutL xs (some (i : Int)) (some (j : Int)) = (xs.take j).drop i := by
  simp only [cutL, sIx]
  rw [if_neg (by omega), if_neg (by omega)]
  simp only [Int.toNat_natCast]
  rw [List.drop_take]
  apply List.ext_getElem?
  intro k
  rw [List.getElem?_take, List.getElem?_take, List.getElem?_drop, List.getElem?_drop]
  by_cases h1 : i + k < xs.length
  · have e1 : min i xs.length = i := by omega
    rw [e1]
    by_cases h2 : k < j - i
    · rw [if_pos (by omega), if_pos h2]
    · rw [if_neg (by omega), if_neg h2]
  · rw [List.getElem?_eq_none (by omega : xs.length ≤ min i xs.length + k), List.getElem?_eq_none (by omega : xs.length ≤ i + k)]
    split <;> split <;> rfl
theorem cut_0n {α : Type} {xs : List α} {j : Nat} : cutL xs none (some (j : Int)) = xs.take j := by
  simp only [cutL, sIx]
  rw [if_neg (by omega)]
  simp only [Int.toNat_natCast, List.drop_zero, Nat.sub_zero]
  rw [List.take_eq_take_iff]
  omega
theorem cut_n0 {α : Type} {xs : List α} {i : Nat} : cutL xs (some (i : Int)) none = xs.drop i := by
  simp only [cutL, sIx]
  rw [if_neg (by omega)]
  simp only [Int.toNat_natCast]
  by_cases h : i ≤ xs.length
  · rw [Nat.min_eq_left h, List.take_of_length_le (by simp)]
  · rw [Nat.min_eq_right (by omega), List.drop_length, List.drop_of_length_le (by omega)]
    simp
@[simp] theorem pick_n {C : Nat → List D → Res D} {i : Nat} {ρ : En} {e : E} {x : D} : pick C (.n i) ρ .nil e x = (ev C e (ρ.set i (some x))).bind fun d => .ok (some d) := by
  simp [pick, lcF, Tg.own, wipeE]
@[simp] theorem pick_nc {C : Nat → List D → Res D} {i : Nat} {ρ : En} {c r e : E} {x : D} : pick C (.n i) ρ (.cons c r) e x = ((ev C c (ρ.set i (some x))).bind boolD).bind fun b => if b then (ev C e (ρ.set i (some x))).bind fun d => .ok (some d) else .ok none := by
  simp [pick, lcF, Tg.own, wipeE]
/-! ### truths of kinds -/
@[simp] theorem isi_int {i : Int} : isiD (.int i) .int = true := rfl
@[simp] theorem isi_int_b {i : Int} : isiD (.int i) .bool = false := rfl
@[simp] theorem isi_tup {xs : List D} : isiD (.tuple xs) .tuple = true := rfl
@[simp] theorem isi_lst {xs : List D} : isiD (.list xs) .list = true := rfl
@[simp] theorem is_nn : cmpD .is .none .none = .ok true := rfl
@[simp] theorem isn_nn : cmpD .isn .none .none = .ok false := rfl
@[simp] theorem is_in {i : Int} : cmpD .is (.int i) .none = .ok false := rfl
@[simp] theorem isn_in {i : Int} : cmpD .isn (.int i) .none = .ok true := rfl
@[simp] theorem is_tn {xs : List D} : cmpD .is (.tuple xs) .none = .ok false := rfl
@[simp] theorem isn_tn {xs : List D} : cmpD .isn (.tuple xs) .none = .ok true := rfl
@[simp] theorem is_opt {o : Option Int} : cmpD .is (optD o) .none = .ok o.isNone := by cases o <;> rfl
@[simp] theorem isn_opt {o : Option Int} : cmpD .isn (optD o) .none = .ok o.isSome := by cases o <;> rfl
@[simp] theorem cmp_ne {i j : Int} : cmpD .ne (.int i) (.int j) = .ok (!decide (i = j)) := by
  rw [cmp_neD sh_int sh_int, PyData.eqv]
  rfl
namespace Pr
variable {T : Nat → Option Fn}
theorem is_whole_ok (X : Ext T) (n : Nat) (i : Int) : callN T (n + 1) 1 [.int i] = .ok (.bool true) := by
  rw [call_T (X 1 _ rfl), runF_eq rfl]
  simp [f_is_whole, c_is_whole]
theorem is_within_ok (X : Ext T) (n : Nat) (i a b : Int) : callN T (n + 2) 2 [.int i, .int a, .int b] = .ok (.bool (decide (a ≤ i ∧ i ≤ b))) := by
  rw [call_T (X 2 _ rfl), runF_eq rfl]
  simp [f_is_within, c_is_within, is_whole_ok X]
  by_cases h : a ≤ i <;> simp [h]
theorem is_number_ok (X : Ext T) (n : Nat) {i : Int} (h : Num i) : callN T (n + 3) 3 [.int i] = .ok (.bool true) := by
  rw [call_T (X 3 _ rfl), runF_eq rfl]
  simp [f_is_number, c_is_number, is_within_ok X]
  exact h
theorem is_day_ok (X : Ext T) (n : Nat) {r : Row} (h : r.Ok) : callN T (n + 4) 6 [r.d] = .ok (.bool true) := by
  rw [call_T (X 6 _ rfl), runF_eq rfl]
  obtain ⟨h1, h2, h3, h4⟩ := h
  have cut : cutL [PyData.int r.want, .int r.loaf, .int r.keep, optD r.fine] none (some 3) = [r.want, r.loaf, r.keep].map .int := rfl
  have lc : ∀ a : D, lcL (pick (callN T (n + 3)) (.n 1) [some a, none] .nil (.call 3 (.cons (.v 1) .nil))) ([r.want, r.loaf, r.keep].map .int) = .ok (([r.want, r.loaf, r.keep].map fun _ => true).map .bool) := fun a => by
    rw [List.map_map]
    refine lcL_map fun x hx => ?_
    have hN : Num x := by
      simp only [List.mem_cons, List.not_mem_nil, or_false] at hx
      rcases hx with rfl | rfl | rfl <;> assumption
    simp [is_number_ok X n hN]
  simp only [List.map_cons, List.map_nil] at lc
  simp [f_is_day, c_is_day, Row.d, slD, cut, lc, biD, boolsOf]
  cases hf : r.fine with
  | none => simp
  | some f =>
    rw [hf] at h4
    simp [optD, is_number_ok X n h4]
theorem are_lights_ok (X : Ext T) (n : Nat) {ls : List Int} (h1 : 1 ≤ ls.length) (h2 : ls.length ≤ 40) (h : ∀ l ∈ ls, Num l) : callN T (n + 4) 7 [.list (ls.map .int)] = .ok (.bool true) := by
  rw [call_T (X 7 _ rfl), runF_eq rfl]
  have lc : ∀ a : D, lcL (pick (callN T (n + 3)) (.n 1) [some a, none] .nil (.call 3 (.cons (.v 1) .nil))) (ls.map .int) = .ok ((ls.map fun _ => true).map .bool) := fun a => by
    rw [List.map_map]
    refine lcL_map fun x hx => ?_
    simp [is_number_ok X n (h x hx)]
  have e : ((ls.map fun _ => true).all id) = true := by simp
  simp only [List.map_map] at lc
  have ab := all_b (bs := ls.map fun _ => true)
  rw [List.map_map, e] at ab
  have q1 : (1 : Int) ≤ ls.length := by omega
  have q2 : (ls.length : Int) ≤ 40 := by omega
  simp [f_are_lights, c_are_lights, lc, q1, q2, ab]
theorem is_frame_ok (X : Ext T) (n : Nat) {b : Bak} (h : b.Ok) : callN T (n + 5) 8 [b.d] = .ok (.bool true) := by
  rw [call_T (X 8 _ rfl), runF_eq rfl]
  have h1 := are_lights_ok X n h.few.1 h.few.2 h.lit
  have h2 := h.bound
  have q1 : (1 : Int) ≤ b.goods.length := by have := h.many; omega
  have q2 : (b.goods.length : Int) ≤ 2 := by have := h.many; omega
  cases hb : b.bound with
  | none => simp [f_is_frame, c_is_frame, Bak.d, h1, hb, optD, q1, q2]
  | some m =>
    rw [hb] at h2
    have e := is_within_ok X (n + 2) m 1 1000000000
    rw [decide_eq_true (show 1 ≤ m ∧ m ≤ 1000000000 from h2)] at e
    simp [f_is_frame, c_is_frame, Bak.d, h1, hb, optD, e, q1, q2]
theorem look_at_good_ok (X : Ext T) (n : Nat) {g : Good} {i : Int} {m : Nat} (h : g.Ok m) : callN T (n + 5) 9 [.int i, g.d, .int m] = .ok .none := by
  rw [call_T (X 9 _ rfl), runF_eq rfl]
  obtain ⟨h1, h2, h3⟩ := h
  obtain ⟨_, lp, d', e', rfl⟩ := forL_enm (f := turn (callN T (n + 4)) (.t (.cons (.n 3) (.cons (.n 4) .nil))) b1_look_at_good) (fun _ ρ => ∃ d' e', ρ = [some (.int i), some g.d, some (.int m), d', e']) Row.d g.days [some (.int i), some g.d, some (.int m), none, none] ⟨_, _, rfl⟩ (by
    rintro k x _ hx ⟨d', e', rfl⟩
    refine ⟨[some (.int i), some g.d, some (.int m), some (.int k), some x.d], .inl ?_, _, _, rfl⟩
    simp [turn, b1_look_at_good, is_day_ok X n (h3 _ (List.mem_of_getElem? hx))])
  have e : (g.days.length : Int) = m := by omega
  simp only [Good.d] at lp
  cases hl : g.life with
  | none =>
    rw [hl] at lp
    simp only [optD] at lp
    simp [f_look_at_good, c_look_at_good, Good.d, e, hl, optD, lp]
  | some l =>
    rw [hl] at h2 lp
    simp only [optD] at lp
    have e2 := is_within_ok X (n + 2) l 0 40
    rw [decide_eq_true (show 0 ≤ l ∧ l ≤ 40 from h2)] at e2
    simp [f_look_at_good, c_look_at_good, Good.d, e, hl, optD, e2, lp]
theorem look_at_bakery_ok (X : Ext T) (n : Nat) {b : Bak} (h : b.Ok) : callN T (n + 6) 10 [b.d] = .ok .none := by
  rw [call_T (X 10 _ rfl), runF_eq rfl]
  obtain ⟨_, lp, d', e', rfl⟩ := forL_enm (f := turn (callN T (n + 5)) (.t (.cons (.n 1) (.cons (.n 2) .nil))) b1_look_at_bakery) (fun _ ρ => ∃ d' e', ρ = [some b.d, d', e']) Good.d b.goods [some b.d, none, none] ⟨_, _, rfl⟩ (by
    rintro k x _ hx ⟨d', e', rfl⟩
    refine ⟨[some b.d, some (.int k), some x.d], .inl ?_, _, _, rfl⟩
    have e := look_at_good_ok X n (i := k) (h.good _ (List.mem_of_getElem? hx))
    simp [turn, b1_look_at_bakery, Bak.d, e])
  simp only [Bak.d] at lp
  have e := is_frame_ok X n h
  simp only [Bak.d] at e
  simp [f_look_at_bakery, c_look_at_bakery, Bak.d, e, lp]
end Pr
end Bk
/-! Bk: prices of loaves. -/
namespace Bk
open PySem
theorem plain_opt (o : Option Int) (n : Nat) : plain n (optD o) = true := by cases o <;> cases n <;> simp [optD, plain]
theorem plains_opt (os : List (Option Int)) (n : Nat) : plains n (os.map optD) = true := by
  induction os with
  | nil => simp [plains]
  | cons o r ih => simp [plains, plain_opt, ih]
theorem sh_opts (os : List (Option Int)) : SeqAt.shaped (.list (os.map optD)) = true := sh_plain (n := 1) (by simp [plain, plains_opt]) (by omega)
theorem in_opts (os : List (Option Int)) : cmpD .isin .none (.list (os.map optD)) = .ok (os.any Option.isNone) := by
  simp only [cmpD, inD, sh_none, sh_opts, Bool.and_self, if_true]
  congr 1
  rw [List.any_map]
  congr 1
  funext o
  cases o <;> simp [optD, PyData.eqv]
def optSum : List (Option Int) → Option Int
  | [] => some 0
  | none :: _ => none
  | some i :: r => (optSum r).map (i + ·)
theorem optSum_none : ∀ {os : List (Option Int)}, os.any Option.isNone = true → optSum os = none
  | none :: r, _ => rfl
  | some i :: r, h => by
    simp only [List.any_cons, Option.isNone_some, Bool.false_or] at h
    simp [optSum, optSum_none h]
theorem optSum_some : ∀ {os : List (Option Int)}, os.any Option.isNone = false → ∃ ns : List Int, os = ns.map some ∧ optSum os = some ns.sum
  | [], _ => ⟨[], rfl, rfl⟩
  | none :: r, h => by simp at h
  | some i :: r, h => by
    simp only [List.any_cons, Option.isNone_some, Bool.false_or] at h
    obtain ⟨ns, e1, e2⟩ := optSum_some h
    exact ⟨i :: ns, by rw [e1]; rfl, by simp [optSum, e2]⟩
/-- days i to j, j not -/
def seg {α : Type} (ds : List α) (i j : Nat) : List α := (ds.take j).drop i
def nAhead (ds : List Row) (life : Option Int) (b v : Nat) : Option Int := match life with
  | some l => if (v : Int) - b > l then none else some ((seg ds b v).map Row.keep).sum
  | none => some ((seg ds b v).map Row.keep).sum
def nBehind (ds : List Row) (b v : Nat) : Option Int := optSum ((seg ds v b).map Row.fine)
def Good.nights (g : Good) (b v : Nat) : Option Int := if b ≤ v then nAhead g.days g.life b v else nBehind g.days b v
def Good.price (g : Good) (b v : Nat) : Option Int := (g.nights b v).bind fun n => (g.days[b]?).map fun r => r.loaf + n
theorem seg_map {α β : Type} (f : α → β) (ds : List α) (i j : Nat) : seg (ds.map f) i j = (seg ds i j).map f := by simp [seg]
@[simp] theorem pick_row {C : Nat → List D → Res D} {i j k l : Nat} {ρ : En} {e : E} {r : Row} : pick C (.t (.cons (.n i) (.cons (.n j) (.cons (.n k) (.cons (.n l) .nil))))) ρ .nil e r.d =
    (ev C e (((((wipeE ρ [i, j, k, l]).set i (some (.int r.want))).set j (some (.int r.loaf))).set k (some (.int r.keep))).set l (some (optD r.fine)))).bind fun d => .ok (some d) := by
  simp [pick, lcF, Tg.own, Row.d]
namespace Pr
variable {T : Nat → Option Fn}
theorem nights_ahead_ok (X : Ext T) (n : Nat) (ds : List Row) (life : Option Int) (b v : Nat) : callN T (n + 1) 28 [.list (ds.map Row.d), optD life, .int b, .int v] = .ok (optD (nAhead ds life b v)) := by
  rw [call_T (X 28 _ rfl), runF_eq rfl]
  have lc : ∀ a1 a2 a3 a4 : D, lcL (pick (callN T n) (.t (.cons (.n 4) (.cons (.n 5) (.cons (.n 6) (.cons (.n 7) .nil))))) [some a1, some a2, some a3, some a4, none, none, none, none] .nil (.v 6)) ((seg ds b v).map Row.d) = .ok ((((seg ds b v).map Row.keep).map .int)) := fun a1 a2 a3 a4 => by
    rw [List.map_map]
    refine lcL_map fun r hr => ?_
    simp [wipeE]
  have cut : cutL (ds.map Row.d) (some (b : Int)) (some (v : Int)) = (seg ds b v).map Row.d := by rw [cut_nn, ← seg_map, seg]
  cases life with
  | none => simp [-List.map_map, f_nights_ahead, c_nights_ahead, slD, cut, lc, sum_i, nAhead]
  | some l =>
    by_cases h : l < (v : Int) - b
    · simp [-List.map_map, f_nights_ahead, c_nights_ahead, slD, cut, lc, sum_i, nAhead, h]
    · simp [-List.map_map, f_nights_ahead, c_nights_ahead, slD, cut, lc, sum_i, nAhead, h]
theorem nights_behind_ok (X : Ext T) (n : Nat) (ds : List Row) (b v : Nat) : callN T (n + 1) 29 [.list (ds.map Row.d), .int b, .int v] = .ok (optD (nBehind ds b v)) := by
  rw [call_T (X 29 _ rfl), runF_eq rfl]
  have lc : ∀ a1 a2 a3 : D, lcL (pick (callN T n) (.t (.cons (.n 4) (.cons (.n 5) (.cons (.n 6) (.cons (.n 7) .nil))))) [some a1, some a2, some a3, none, none, none, none, none] .nil (.v 7)) ((seg ds v b).map Row.d) = .ok ((((seg ds v b).map Row.fine).map optD)) := fun a1 a2 a3 => by
    rw [List.map_map]
    refine lcL_map fun r hr => ?_
    simp [wipeE]
  have cut : cutL (ds.map Row.d) (some (v : Int)) (some (b : Int)) = (seg ds v b).map Row.d := by rw [cut_nn, ← seg_map, seg]
  have isin := in_opts ((seg ds v b).map Row.fine)
  unfold nBehind
  generalize (seg ds v b).map Row.fine = os at *
  cases h : os.any Option.isNone with
  | true => simp [-List.map_map, f_nights_behind, c_nights_behind, slD, cut, lc, isin, h, optSum_none h]
  | false =>
    obtain ⟨ns, e1, e2⟩ := optSum_some h
    have e3 : os.map optD = ns.map .int := by rw [e1, List.map_map]; rfl
    rw [h] at isin
    rw [e3] at lc isin
    simp [-List.map_map, f_nights_behind, c_nights_behind, slD, cut, lc, isin, e2, sum_i]
theorem price_of_ok (X : Ext T) (n : Nat) (g : Good) (b v : Nat) (hb : b < g.days.length) : callN T (n + 2) 30 [g.d, .int b, .int v] = .ok (optD (g.price b v)) := by
  rw [call_T (X 30 _ rfl), runF_eq rfl]
  have ix : ixD (.list (g.days.map Row.d)) (.int b) = .ok (g.days[b]).d := ix_nat (by rw [List.getElem?_map, List.getElem?_eq_getElem hb]; rfl)
  have i1 : ixD (g.days[b]).d (.int 1) = .ok (.int (g.days[b]).loaf) := by simp [Row.d]
  have e1 := nights_ahead_ok X n g.days g.life b v
  have e2 := nights_behind_ok X n g.days b v
  have pr : g.price b v = (g.nights b v).map fun m => (g.days[b]).loaf + m := by
    unfold Good.price
    rw [List.getElem?_eq_getElem hb]
    cases g.nights b v <;> rfl
  rw [pr]
  by_cases h : b ≤ v
  · have nt : g.nights b v = nAhead g.days g.life b v := if_pos h
    rw [nt]
    cases hn : nAhead g.days g.life b v with
    | none => rw [hn] at e1; simp [f_price_of, c_price_of, Good.d, h, e1]
    | some m => rw [hn] at e1; simp [f_price_of, c_price_of, Good.d, h, e1, ix, i1]
  · have nt : g.nights b v = nBehind g.days b v := if_neg h
    rw [nt]
    cases hn : nBehind g.days b v with
    | none => rw [hn] at e2; simp [f_price_of, c_price_of, Good.d, h, e2]
    | some m => rw [hn] at e2; simp [f_price_of, c_price_of, Good.d, h, e2, ix, i1]
end Pr
end Bk
/-! Bk: repr of plain data. -/
namespace Bk
open PySem
mutual
/-- how many parts -/
def nodes : D → Nat
  | .list xs => 1 + nodesL xs
  | .tuple xs => 1 + nodesL xs
  | _ => 1
def nodesL : List D → Nat
  | [] => 0
  | x :: xs => nodes x + nodesL xs
end
theorem nodes_pos (d : D) : 1 ≤ nodes d := by cases d <;> simp [nodes]
def lens (ts : List Str) : Nat := (ts.map fun t => t.length + 2).sum
theorem textFrom_le : ∀ (ts : List Str) (k : Nat) (acc : Str), (textFrom k acc ts).length ≤ acc.length + lens ts
  | [], _, acc => Nat.le_refl _
  | t :: r, k, acc => by
    have ih := textFrom_le r (k + 1) (acc ++ (if k > 0 then ", " else "" : String) ++ t)
    have e : (acc ++ (if k > 0 then ", " else "" : String) ++ t).length ≤ acc.length + 2 + t.length := by
      rw [strLen_append, strLen_append]
      have e2 : (("," ++ " " : String) : Str).length = 2 := rfl
      have e0 : (("" : String) : Str).length = 0 := rfl
      have e3 : ((", " : String) : Str).length = 2 := rfl
      split <;> simp only [e0, e3] <;> omega
    have : lens (t :: r) = t.length + 2 + lens r := by simp [lens]
    rw [this]
    exact Nat.le_trans ih (by omega)
theorem listText_le (ts : List Str) : (listText ts).length ≤ lens ts + 3 := by
  have := textFrom_le ts 0 "["
  unfold listText
  rw [strLen_append]
  have e1 : (("[" : String) : Str).length = 1 := rfl
  have e2 : (("]" : String) : Str).length = 1 := rfl
  rw [e1] at this
  rw [e2]
  omega
theorem tupleText_le (ts : List Str) : (tupleText ts).length ≤ lens ts + 3 := by
  unfold tupleText
  rw [strLen_append, strLen_append]
  have e1 : (("(" : String) : Str).length = 1 := rfl
  have e2 : ∀ b : Bool, ((if b then ",)" else ")" : String) : Str).length ≤ 2 := fun b => by cases b <;> decide
  have e3 := e2 (ts.length == 1)
  have e4 : (Str.join ", " ts).length ≤ lens ts := by
    by_cases h : ts = []
    · subst h
      exact Nat.le_refl _
    · have := join_length_add ts h
      have p : piled ts = lens ts := rfl
      omega
  rw [e1]
  omega
mutual
theorem shown_le : ∀ (n : Nat) (d : D), plain n d = true → d.showable = true → d.shown.length + 5 ≤ 1930 * nodes d
  | _, .none, _, _ => by simp [PyData.shown, nodes]; decide
  | _, .bool b, _, _ => by cases b <;> simp [PyData.shown, nodes] <;> decide
  | _, .int i, _, h => by
    have hi : i.natAbs.log2 < 1920 := by simpa [PyData.showable] using h
    have := PyProof.Rows.int_text_len_1921 hi
    simp only [PyData.shown, nodes]
    omega
  | 0, .list _, h, _ => by simp [plain] at h
  | 0, .tuple _, h, _ => by simp [plain] at h
  | n + 1, .list xs, h, hs => by
    have := showns_le n xs (by simpa [plain] using h) (by simpa [PyData.showable] using hs)
    have := listText_le (PyData.shownAll xs)
    simp only [PyData.shown, nodes]
    omega
  | n + 1, .tuple xs, h, hs => by
    have := showns_le n xs (by simpa [plain] using h) (by simpa [PyData.showable] using hs)
    have := tupleText_le (PyData.shownAll xs)
    simp only [PyData.shown, nodes]
    omega
  | 0, .str _, h, _ => by simp [plain] at h
  | n + 1, .str _, h, _ => by simp [plain] at h
  | 0, .dict _, h, _ => by simp [plain] at h
  | n + 1, .dict _, h, _ => by simp [plain] at h
theorem showns_le : ∀ (n : Nat) (xs : List D), plains n xs = true → PyData.showableAll xs = true → lens (PyData.shownAll xs) ≤ 1930 * nodesL xs
  | _, [], _, _ => by simp [PyData.shownAll, lens, nodesL]
  | n, x :: xs, h, hs => by
    simp only [plains, Bool.and_eq_true] at h
    simp only [PyData.showableAll, Bool.and_eq_true] at hs
    have h1 := shown_le n x h.1 hs.1
    have h2 := showns_le n xs h.2 hs.2
    have e : lens (PyData.shownAll (x :: xs)) = x.shown.length + 2 + lens (PyData.shownAll xs) := by simp [lens, PyData.shownAll]
    simp only [nodesL]
    omega
end
theorem repr_ok {n : Nat} {d : D} (h : plain n d = true) (hn : n ≤ 32) (hs : d.showable = true) (hz : nodes d ≤ 8000) : biD .repr [d] = .ok (.str d.shown) := by
  have h1 := plain_lay n d h
  have h2 := shown_le n d h hs
  have e : (d.canLay0 && d.showable && decide (d.shown.length ≤ most) && decide (d.depth ≤ 32)) = true := by
    rw [h1.1, hs, decide_eq_true (show d.shown.length ≤ most by simp only [most]; omega), decide_eq_true (by omega)]
    rfl
  simp only [biD, e, if_true]
theorem log_small {i : Int} (h : -(10 ^ 80) < i) (h2 : i < 10 ^ 80) : i.natAbs.log2 < 1920 := by
  by_cases h0 : i.natAbs = 0
  · rw [h0]; decide
  · rw [Nat.log2_lt h0]
    have : (10 : Nat) ^ 80 ≤ 2 ^ 1920 := by decide +kernel
    omega
end Bk
/-! Bk: the bakeries that the laws draw. -/
namespace Bk
open PySem
theorem rng_ab {a b : Int} (h1 : -8000000 ≤ a) (h2 : a ≤ 8000000) (h3 : -8000000 ≤ b) (h4 : b ≤ 8000000) : rngD [.int a, .int b] = .ok (upto a (b - a).toNat) := by
  have e1 : smallI a = true := by unfold smallI; rw [decide_eq_true h1, decide_eq_true h2]; rfl
  have e2 : smallI b = true := by unfold smallI; rw [decide_eq_true h3, decide_eq_true h4]; rfl
  simp only [rngD, e1, e2, Bool.and_self, if_true]
theorem mul5 (x : D) : opD .mul (.list [x]) (.int 5) = .ok (.list [x, x, x, x, x]) := rfl
@[simp] theorem int_b {b : Bool} : biD .int [.bool b] = .ok (.int (if b then 1 else 0)) := rfl
@[simp] theorem int_i {i : Int} : biD .int [.int i] = .ok (.int i) := rfl
def cellAt (ns : List Int) (k : Nat) : Int := ns.getD k 0
/-- a day from seven digits -/
def mkDay (want loaf keep fine none far : Int) (late : Bool) : Row := ⟨if none = 0 then 0 else want, loaf, keep, if far < 2 ∨ late = false then Option.none else some fine⟩
namespace Pr
variable {T : Nat → Option Fn}
theorem cell_at_ok (X : Ext T) (n : Nat) (ns : List Int) (k : Nat) : callN T (n + 1) 11 [.list (ns.map .int), .int k] = .ok (.int (cellAt ns k)) := by
  rw [call_T (X 11 _ rfl), runF_eq rfl]
  by_cases h : k < ns.length
  · have ix : ixD (.list (ns.map .int)) (.int k) = .ok (.int ns[k]) := ix_nat (by rw [List.getElem?_map, List.getElem?_eq_getElem h]; rfl)
    have e : cellAt ns k = ns[k] := by simp [cellAt, h]
    simp [f__law_cell_at, c__law_cell_at, h, ix, e]
  · have e : cellAt ns k = 0 := by simp [cellAt, h]
    simp [f__law_cell_at, c__law_cell_at, h, e]
theorem numbers_ok (X : Ext T) (n : Nat) (cell salt : Int) (sizes : List Int) (h0 : 0 ≤ salt) (h1 : salt ≤ 1000000) (hs : ∀ s ∈ sizes, 0 < s ∧ s < 10 ^ 70) (hl : sizes.length ≤ 1000) :
    ∃ ds : List Int, callN T (n + 1) 4 [.int cell, .int salt, .list (sizes.map .int)] = .ok (.list (ds.map .int)) ∧ Below ds sizes := by
  obtain ⟨ds, e, h⟩ := nums_ok (callN T n) cell salt sizes .f h0 h1 hs hl
  exact ⟨ds, (call_T (X 4 _ rfl)).trans e, h⟩
theorem day_ok (X : Ext T) (n : Nat) (want light loaf keep fine none far : Int) (late : Bool) : callN T (n + 1) 12 [.list [.int want, .int light, .int loaf, .int keep, .int fine, .int none, .int far], .bool late] =
    .ok (.tuple [.int light, (mkDay want loaf keep fine none far late).d]) := by
  rw [call_T (X 12 _ rfl), runF_eq rfl]
  by_cases h1 : none = 0 <;> by_cases h2 : far < 2 <;> cases late <;> simp [f__law_day, c__law_day, mkDay, Row.d, h1, h2]
/-- the sizes of a day's digits -/
def sizesW (wide : Bool) : List Int := if wide then [1000000001, 1000000001, 1000000001, 1000000001, 1000000001, 4, 5] else [5, 13, 6, 4, 4, 4, 5]
theorem one_day (X : Ext T) (n : Nat) (ns : List Int) (k : Nat) (salt : Int) (late wide : Bool) (h0 : 0 ≤ salt) (h1 : salt ≤ 900000) (hk : k ≤ 1000) : ∃ (l : Int) (r : Row), Num l ∧ r.Ok ∧
    ∃ ds : List Int, callN T (n + 1) 4 [.int (cellAt ns k), .int (salt + k), .list ((sizesW wide).map .int)] = .ok (.list (ds.map .int)) ∧ callN T (n + 1) 12 [.list (ds.map .int), .bool late] = .ok (.tuple [.int l, r.d]) := by
  obtain ⟨ds, e, h⟩ := numbers_ok X n (cellAt ns k) (salt + k) (sizesW wide) (by omega) (by omega) (by cases wide <;> decide) (by cases wide <;> decide)
  have key : ∃ a b c d f g i : Int, ds = [a, b, c, d, f, g, i] ∧ Num a ∧ Num b ∧ Num c ∧ Num d ∧ Num f := by
    cases wide with
    | true =>
      match ds, h with
      | [a, b, c, d, f, g, i], h =>
        obtain ⟨h1, h2, h3, h4, h5, _⟩ := h
        exact ⟨a, b, c, d, f, g, i, rfl, ⟨h1.1, by omega⟩, ⟨h2.1, by omega⟩, ⟨h3.1, by omega⟩, ⟨h4.1, by omega⟩, ⟨h5.1, by omega⟩⟩
    | false =>
      match ds, h with
      | [a, b, c, d, f, g, i], h =>
        obtain ⟨h1, h2, h3, h4, h5, _⟩ := h
        exact ⟨a, b, c, d, f, g, i, rfl, ⟨h1.1, by omega⟩, ⟨h2.1, by omega⟩, ⟨h3.1, by omega⟩, ⟨h4.1, by omega⟩, ⟨h5.1, by omega⟩⟩
  obtain ⟨a, b, c, d, f, g, i, rfl, n1, n2, n3, n4, n5⟩ := key
  refine ⟨b, mkDay a c d f g i late, n2, ⟨?_, n3, n4, ?_⟩, _, e, day_ok X n a b c d f g i late⟩
  · unfold mkDay
    dsimp only
    split
    · exact ⟨by omega, by omega⟩
    · exact n1
  · unfold mkDay
    dsimp only
    split
    · trivial
    · exact n5
theorem days_ok (X : Ext T) (n : Nat) (ns : List Int) (first upt : Nat) (salt : Int) (late : Bool) (h0 : 0 ≤ salt) (h1 : salt ≤ 900000) (hf : first ≤ 100) (hu : upt ≤ 100) :
    ∃ (ls : List Int) (rs : List Row), callN T (n + 2) 13 [.list (ns.map .int), .int first, .int upt, .int salt, .bool late] = .ok (.tuple [.list (ls.map .int), .list (rs.map Row.d)]) ∧
      ls.length = max (first + 1) (min upt ns.length) - first ∧ rs.length = ls.length ∧ (∀ l ∈ ls, Num l) ∧ ∀ r ∈ rs, r.Ok := by
  rw [call_T (X 13 _ rfl), runF_eq rfl]
  obtain ⟨d0, e0, b0⟩ := numbers_ok X n (cellAt ns 0) salt [3] h0 (by omega) (by decide) (by decide)
  obtain ⟨w, rfl⟩ : ∃ w, d0 = [w] := by
    match d0, b0 with
    | [w], _ => exact ⟨w, rfl⟩
  have ec : callN T (n + 1) 11 [.list (ns.map .int), .int 0] = .ok (.int (cellAt ns 0)) := cell_at_ok X n ns 0
  have hmx : (if (if ((ns.length : Nat) : Int) < (upt : Int) then ((ns.length : Nat) : Int) else (upt : Int)) > (first : Int) + 1 then (if ((ns.length : Nat) : Int) < (upt : Int) then ((ns.length : Nat) : Int) else (upt : Int)) else (first : Int) + 1) = ((max (first + 1) (min upt ns.length) : Nat) : Int) := by
    split <;> split at * <;> omega
  have body : ∀ wide : Bool, ∃ (ls : List Int) (rs : List Row) (a b c : Option D), forL (turn (callN T (n + 1)) (.n 9) b1__law_days) (upto first (max (first + 1) (min upt ns.length) - first)) [some (.list (ns.map .int)), some (.int first), some (.int upt), some (.int salt), some (.bool late), some (.bool wide), some (.list ((sizesW wide).map .int)), some (.list []), some (.list []), none, none, none] =
      .ok (.nx [some (.list (ns.map .int)), some (.int first), some (.int upt), some (.int salt), some (.bool late), some (.bool wide), some (.list ((sizesW wide).map .int)), some (.list (ls.map .int)), some (.list (rs.map Row.d)), a, b, c]) ∧
      ls.length = max (first + 1) (min upt ns.length) - first ∧ rs.length = ls.length ∧ (∀ l ∈ ls, Num l) ∧ ∀ r ∈ rs, r.Ok := fun wide => by
    obtain ⟨_, e, ls, rs, a, b, c, rfl, k1, k2, k3, k4⟩ := forL_upto (f := turn (callN T (n + 1)) (.n 9) b1__law_days)
      (fun i ρ => ∃ (ls : List Int) (rs : List Row) (a b c : Option D), ρ = [some (.list (ns.map .int)), some (.int first), some (.int upt), some (.int salt), some (.bool late), some (.bool wide), some (.list ((sizesW wide).map .int)), some (.list (ls.map .int)), some (.list (rs.map Row.d)), a, b, c] ∧
        ls.length = i ∧ rs.length = ls.length ∧ (∀ l ∈ ls, Num l) ∧ ∀ r ∈ rs, r.Ok) first (max (first + 1) (min upt ns.length) - first) [some (.list (ns.map .int)), some (.int first), some (.int upt), some (.int salt), some (.bool late), some (.bool wide), some (.list ((sizesW wide).map .int)), some (.list []), some (.list []), none, none, none]
      ⟨[], [], none, none, none, rfl, rfl, rfl, by simp, by simp⟩ (by
      rintro i _ hi ⟨ls, rs, a, b, c, rfl, k1, k2, k3, k4⟩
      have hik : ((first : Int) + (i : Int)) = ((first + i : Nat) : Int) := by omega
      rw [hik]
      obtain ⟨l, r, n1, n2, ds, e1, e2⟩ := one_day X n ns (first + i) salt late wide h0 h1 (by omega)
      have e3 := cell_at_ok X n ns (first + i)
      refine ⟨[some (.list (ns.map .int)), some (.int first), some (.int upt), some (.int salt), some (.bool late), some (.bool wide), some (.list ((sizesW wide).map .int)), some (.list ((ls ++ [l]).map .int)), some (.list ((rs ++ [r]).map Row.d)), some (.int (first + i : Nat)), some (.int l), some r.d], .inl ?_, ls ++ [l], rs ++ [r], _, _, _, rfl, by simp [k1], by simp [k2], ?_, ?_⟩
      · have m1 : ls.length < 16777216 := by omega
        have m2 : rs.length < 16777216 := by omega
        simp only [turn, b1__law_days, tg1_n, List.set, Res.bind_ok, ex_cons, ex_set, ev_call, evs_cons, evs_nil, ev_v, getS_0, getS_s, ev_op, op_add, e3, e1, e2, tg1_tt, tgs_cons, tgs_nil, ex_app]
        rw [app_v (xs := ls.map .int) rfl (by rw [List.length_map]; exact m1)]
        simp only [List.set, Res.bind_ok, ex_cons, ex_app, ev_v, getS_0, getS_s]
        rw [app_v (xs := rs.map Row.d) rfl (by rw [List.length_map]; exact m2)]
        simp
      · intro x hx
        rcases List.mem_append.mp hx with hx | hx
        · exact k3 x hx
        · rw [List.mem_singleton] at hx
          rw [hx]
          exact n1
      · intro x hx
        rcases List.mem_append.mp hx with hx | hx
        · exact k4 x hx
        · rw [List.mem_singleton] at hx
          rw [hx]
          exact n2)
    exact ⟨ls, rs, a, b, c, e, k1, k2, k3, k4⟩
  obtain ⟨ls, rs, a, b, c, e, k1, k2, k3, k4⟩ := body (decide (w = 0))
  have rg : rngD [.int first, .int ((max (first + 1) (min upt ns.length) : Nat) : Int)] = .ok (upto first (max (first + 1) (min upt ns.length) - first)) := by
    rw [rng_ab (by omega) (by omega) (by omega) (by omega)]
    congr 2
    omega
  refine ⟨ls, rs, ?_, k1, k2, k3, k4⟩
  have e0' : callN T (n + 1) 4 [.int (cellAt ns 0), .int salt, .list [.int 3]] = .ok (.list [.int w]) := e0
  have p9 : opD .pow (.int 10) (.int 9) = .ok (.int 1000000000) := rfl
  simp only [f__law_days, c__law_days, List.map, List.cons_append, List.nil_append, List.length_cons, List.length_nil, List.replicate, Nat.reduceAdd, Nat.reduceSub, ex_cons, ex_set, ev_cmp, ev_ix, ev_call, evs_cons, evs_nil, ev_v, ev_k, getS_0, getS_s, Res.bind_ok, ec, ev_lst, e0', ixL_l, getN_0, getN_s, cmp_eq, tg1_n, List.set,
    ev_op, p9, op_add, mul5, ev_bi, int_b]
  by_cases hw : w = 0
  · subst hw
    rw [decide_eq_true rfl] at e ⊢
    simp only [if_true, ixL_l, getN_0, getN_s, Res.bind_ok]
    rw [op_addL (by simp [most])]
    simp only [Res.bind_ok, tg1_n, List.set, ex_cons, ex_own, ev_lst, evs_nil, listD_l, ex_for, evi_rng, evs_cons, ev_v, getS_0, getS_s, ev_bi, ev_op, ev_k, op_add, len_l, List.length_map, min_ii, max_ii, hmx, rg]
    have sz : (some (PyData.list ([.int (1000000000 + 1), .int (1000000000 + 1), .int (1000000000 + 1), .int (1000000000 + 1), .int (1000000000 + 1)] ++ [.int 4, .int 5]))) = some (.list ((sizesW true).map .int)) := rfl
    rw [sz, e]
    simp
  · rw [decide_eq_false hw] at e ⊢
    simp only [Bool.false_eq_true, if_false, ixL_l, getN_0, getN_s, Res.bind_ok]
    rw [op_addL (by simp [most])]
    simp only [Res.bind_ok, tg1_n, List.set, ex_cons, ex_own, ev_lst, evs_nil, listD_l, ex_for, evi_rng, evs_cons, ev_v, getS_0, getS_s, ev_bi, ev_op, ev_k, op_add, len_l, List.length_map, min_ii, max_ii, hmx, rg]
    have sz : (some (PyData.list ([.int 5, .int 13, .int 6, .int 4, .int 4] ++ [.int 4, .int 5]))) = some (.list ((sizesW false).map .int)) := rfl
    rw [sz, e]
    simp
/-! ### a bakery of one or two goods -/
def lives : List (Option Int) := [none, none, some 0, some 1, some 2, some 3, some 4, some 5, some 7, some 11, some 23, some 40]
def bounds : List (Option Int) := [none, some 1, some 2, some 3, some 4, some 5, some 6, some 1000000000, some 12]
theorem opt_at {os : List (Option Int)} {i : Int} (h0 : 0 ≤ i) (h1 : i < os.length) : ∃ o ∈ os, ixD (.list (os.map optD)) (.int i) = .ok (optD o) := by
  obtain ⟨k, rfl⟩ := Int.eq_ofNat_of_zero_le h0
  have hk : k < os.length := by omega
  exact ⟨os[k], List.getElem_mem hk, ix_nat (by rw [List.getElem?_map, List.getElem?_eq_getElem hk]; rfl)⟩
theorem life_ok {o : Option Int} (h : o ∈ lives) : OptNum 0 40 o := by
  have : ∀ o ∈ lives, (match o with | none => true | some i => decide (0 ≤ i ∧ i ≤ 40)) = true := by decide
  have := this o h
  cases o with
  | none => trivial
  | some i => exact (of_decide_eq_true this : 0 ≤ i ∧ i ≤ 40)
theorem bound_ok {o : Option Int} (h : o ∈ bounds) : OptNum 1 1000000000 o := by
  have : ∀ o ∈ bounds, (match o with | none => true | some i => decide (1 ≤ i ∧ i ≤ 1000000000)) = true := by decide
  have := this o h
  cases o with
  | none => trivial
  | some i => exact (of_decide_eq_true this : 1 ≤ i ∧ i ≤ 1000000000)
theorem below7 {ds : List Int} {s0 s1 s2 s3 s4 s5 s6 : Int} (h : Below ds [s0, s1, s2, s3, s4, s5, s6]) : ∃ a b c d e f g : Int, ds = [a, b, c, d, e, f, g] ∧ (0 ≤ a ∧ a < s0) ∧ (0 ≤ b ∧ b < s1) ∧ (0 ≤ c ∧ c < s2) ∧ (0 ≤ d ∧ d < s3) ∧ (0 ≤ e ∧ e < s4) ∧ (0 ≤ f ∧ f < s5) ∧ (0 ≤ g ∧ g < s6) := by
  match ds, h with
  | [a, b, c, d, e, f, g], h => exact ⟨a, b, c, d, e, f, g, rfl, h.1, h.2.1, h.2.2.1, h.2.2.2.1, h.2.2.2.2.1, h.2.2.2.2.2.1, h.2.2.2.2.2.2.1⟩
theorem two_ok (X : Ext T) (n : Nat) (ns : List Int) (upt : Nat) (salt : Int) (h0 : 0 ≤ salt) (h1 : salt ≤ 800000) (hu : 2 ≤ upt ∧ upt ≤ 41) (hn : ns.length ≤ 63) :
    ∃ b : Bak, callN T (n + 3) 14 [.list (ns.map .int), .int upt, .int salt] = .ok b.d ∧ b.Ok ∧ b.lights.length = max 2 (min upt ns.length) - 1 := by
  rw [call_T (X 14 _ rfl), runF_eq rfl]
  obtain ⟨hd, e1, bl⟩ := numbers_ok X (n + 1) (cellAt ns 0) salt [3, 12, 2, 12, 3, 2, 9] h0 (by omega) (by decide) (by decide)
  obtain ⟨a, b, c, d, e, f, g, rfl, ha, hb, hc, hd, he, hf, hg⟩ := below7 bl
  have ec : callN T (n + 2) 11 [.list (ns.map .int), .int 0] = .ok (.int (cellAt ns 0)) := cell_at_ok X (n + 1) ns 0
  obtain ⟨ls, rs, e2, k1, k2, k3, k4⟩ := days_ok X n ns 1 upt salt (decide (c = 1)) h0 (by omega) (by omega) (by omega)
  obtain ⟨ls', rs', e3, k1', k2', k3', k4'⟩ := days_ok X n (ns.take 1 ++ (ns.drop 1).reverse) 1 upt (salt + 70) (decide (f = 1)) (by omega) (by omega) (by omega) (by omega)
  obtain ⟨l1, m1, i1⟩ := opt_at (os := lives) hb.1 (by simp [lives]; omega)
  obtain ⟨l2, m2, i2⟩ := opt_at (os := lives) hd.1 (by simp [lives]; omega)
  obtain ⟨bd, m3, i3⟩ := opt_at (os := bounds) hg.1 (by simp [bounds]; omega)
  have len' : (ns.take 1 ++ (ns.drop 1).reverse).length = ns.length := by simp; omega
  rw [len'] at k1'
  have p9 : opD .pow (.int 10) (.int 9) = .ok (.int 1000000000) := rfl
  have c1 : cutL (ns.map PyData.int) none (some 1) = (ns.take 1).map .int := by
    have := cut_0n (xs := ns.map PyData.int) (j := 1)
    rw [← List.map_take] at this
    exact this
  have r1 : ((ns.map PyData.int).drop 1).reverse = ((ns.drop 1).reverse).map .int := by rw [← List.map_drop, List.map_reverse]
  have e1' : callN T (n + 2) 4 [.int (cellAt ns 0), .int salt, .list [.int 3, .int 12, .int 2, .int 12, .int 3, .int 2, .int 9]] = _ := e1
  have i1' : ixD (.list [.none, .none, .int 0, .int 1, .int 2, .int 3, .int 4, .int 5, .int 7, .int 11, .int 23, .int 40]) (.int b) = .ok (optD l1) := i1
  have i2' : ixD (.list [.none, .none, .int 0, .int 1, .int 2, .int 3, .int 4, .int 5, .int 7, .int 11, .int 23, .int 40]) (.int d) = .ok (optD l2) := i2
  have i3' : ixD (.list [.none, .int 1, .int 2, .int 3, .int 4, .int 5, .int 6, .int 1000000000, .int 12]) (.int g) = .ok (optD bd) := i3
  have e3' : callN T (n + 2) 13 [.list ((ns.take 1).map .int ++ ((ns.drop 1).reverse).map .int), .int 1, .int upt, .int (salt + 70), .bool (decide (f = 1))] = .ok (.tuple [.list (ls'.map .int), .list (rs'.map Row.d)]) := by rw [← List.map_append]; exact e3
  have e2' : callN T (n + 2) 13 [.list (ns.map .int), .int 1, .int upt, .int salt, .bool (decide (c = 1))] = _ := e2
  have lg1 := life_ok m1
  have lg2 := life_ok m2
  have bg := bound_ok m3
  by_cases he0 : 0 < e
  · refine ⟨⟨ls, bd, [⟨rs, l1⟩, ⟨rs', l2⟩]⟩, ?_, ⟨⟨by show 1 ≤ ls.length; omega, by show ls.length ≤ 40; omega⟩, k3, bg, by simp, ?_⟩, by show ls.length = _; omega⟩
    · simp only [f__law_two, c__law_two, List.map, List.cons_append, List.nil_append, List.length_cons, List.length_nil, List.replicate, Nat.reduceAdd, Nat.reduceSub, ex_cons, ex_set, ev_call, evs_cons, evs_nil, ev_v, ev_k, getS_0, getS_s, Res.bind_ok, ec, ev_lst, e1', tg1_n, List.set,
        ev_cmp, ev_ix, ixL_l, getN_0, getN_s, cmp_eq, e2', tg1_tt, tgs_cons, tgs_nil, ex_own, ev_tup, i1', listD_l, ex_ife, cmp_gt, boolD_b, decide_eq_true he0, if_true, ev_op, ev_sl, evo_nil, evo_cons, intD_i, slD, c1, ev_rvt, rvtD, r1]
      rw [op_addL (by simp [most]; omega)]
      simp only [Res.bind_ok, op_add, e3', ixL_t, getN_0, getN_s, tg1_n, List.set, ex_cons, ex_app, ev_tup, evs_cons, evs_nil, ev_v, ev_ix, ev_k, getS_0, getS_s, ixL_l, i2']
      rw [app_v (xs := [.tuple [.list (rs.map Row.d), optD l1]]) rfl (by simp [most])]
      simp only [Res.bind_ok, List.set, ex_cons, ex_nil, ex_ret, ev_tup, evs_cons, evs_nil, ev_v, ev_ix, ev_k, ev_lst, ev_op, p9, getS_0, getS_s, ixL_l, getN_0, getN_s, i3']
      rfl
    · intro g hg
      simp only [List.mem_cons, List.not_mem_nil, or_false] at hg
      rcases hg with rfl | rfl
      · exact ⟨k2, lg1, k4⟩
      · exact ⟨by show rs'.length = ls.length; omega, lg2, k4'⟩
  · refine ⟨⟨ls, bd, [⟨rs, l1⟩]⟩, ?_, ⟨⟨by show 1 ≤ ls.length; omega, by show ls.length ≤ 40; omega⟩, k3, bg, by simp, ?_⟩, by show ls.length = _; omega⟩
    · simp only [f__law_two, c__law_two, List.map, List.cons_append, List.nil_append, List.length_cons, List.length_nil, List.replicate, Nat.reduceAdd, Nat.reduceSub, ex_cons, ex_set, ev_call, evs_cons, evs_nil, ev_v, ev_k, getS_0, getS_s, Res.bind_ok, ec, ev_lst, e1', tg1_n, List.set,
        ev_cmp, ev_ix, ixL_l, getN_0, getN_s, cmp_eq, e2', tg1_tt, tgs_cons, tgs_nil, ex_own, ev_tup, i1', listD_l, ex_ife, cmp_gt, boolD_b, decide_eq_false he0, if_false, Bool.false_eq_true, ex_nil, ex_ret, p9, ev_op, i3']
      rfl
    · intro g hg
      simp only [List.mem_cons, List.not_mem_nil, or_false] at hg
      subst hg
      exact ⟨k2, lg1, k4⟩
end Pr
end Bk
/-! Bk: what laws ask often: repr of a bakery, a price. -/
namespace Bk
open PySem
theorem plains_map {α : Type} {n : Nat} {h : α → D} : ∀ {xs : List α}, (∀ x ∈ xs, plain n (h x) = true) → plains n (xs.map h) = true
  | [], _ => by simp [plains]
  | x :: xs, hx => by simp [plains, hx x List.mem_cons_self, plains_map fun y hy => hx y (List.mem_cons_of_mem _ hy)]
theorem shows_map {α : Type} {h : α → D} : ∀ {xs : List α}, (∀ x ∈ xs, (h x).showable = true) → PyData.showableAll (xs.map h) = true
  | [], _ => by simp [PyData.showableAll]
  | x :: xs, hx => by simp [PyData.showableAll, hx x List.mem_cons_self, shows_map fun y hy => hx y (List.mem_cons_of_mem _ hy)]
theorem nodes_map {α : Type} {h : α → D} {k : Nat} : ∀ {xs : List α}, (∀ x ∈ xs, nodes (h x) ≤ k) → nodesL (xs.map h) ≤ k * xs.length
  | [], _ => by simp [nodesL]
  | x :: xs, hx => by
    have h1 := hx x List.mem_cons_self
    have h2 := nodes_map fun y hy => hx y (List.mem_cons_of_mem _ hy)
    simp only [List.map_cons, nodesL, List.length_cons, Nat.mul_add, Nat.mul_one]
    omega
theorem show_num {i : Int} (h : Num i) : (PyData.int i).showable = true := by
  simp only [PyData.showable, decide_eq_true_eq]
  exact log_small (by have := h.1; omega) (by have := h.2; omega)
theorem show_opt {lo hi : Int} {o : Option Int} (h : OptNum lo hi o) (h1 : -1000000000 ≤ lo) (h2 : hi ≤ 1000000000) : (optD o).showable = true := by
  cases o with
  | none => simp [optD, PyData.showable]
  | some i =>
    simp only [optD, PyData.showable, decide_eq_true_eq]
    obtain ⟨a, b⟩ := h
    exact log_small (by omega) (by omega)
theorem plain_row (r : Row) (n : Nat) : plain (n + 1) r.d = true := by simp [Row.d, plain, plains, plain_opt]
theorem show_row {r : Row} (h : r.Ok) : r.d.showable = true := by
  simp [Row.d, PyData.showable, PyData.showableAll]
  have h1 := show_num h.1
  have h2 := show_num h.2.1
  have h3 := show_num h.2.2.1
  simp only [PyData.showable, decide_eq_true_eq] at h1 h2 h3
  exact ⟨h1, h2, h3, show_opt h.2.2.2 (by omega) (by omega)⟩
theorem nodes_opt (o : Option Int) : nodes (optD o) = 1 := by cases o <;> simp [optD, nodes]
theorem nodes_row (r : Row) : nodes r.d = 5 := by simp [Row.d, nodes, nodesL, nodes_opt]
theorem plain_good (g : Good) (n : Nat) : plain (n + 3) g.d = true := by
  simp only [Good.d, plain, plains, plain_opt, Bool.and_true]
  exact plains_map fun r _ => plain_row r n
theorem show_good {g : Good} {m : Nat} (h : g.Ok m) : g.d.showable = true := by
  simp only [Good.d, PyData.showable, PyData.showableAll, show_opt h.2.1 (by omega) (by omega), Bool.and_true]
  exact shows_map fun r hr => show_row (h.2.2 r hr)
theorem nodes_good {g : Good} {m : Nat} (h : g.Ok m) : nodes g.d ≤ 5 * m + 3 := by
  have := nodes_map (h := Row.d) (k := 5) (xs := g.days) fun r _ => Nat.le_of_eq (nodes_row r)
  rw [h.1] at this
  simp only [Good.d, nodes, nodesL, nodes_opt]
  omega
theorem plain_bak (b : Bak) : plain 5 b.d = true := by
  simp only [Bak.d, plain, plains, plain_opt, Bool.and_true, Bool.true_and]
  rw [plains_map (h := PyData.int) fun i _ => by simp [plain], plains_map fun g _ => plain_good g 0]
  rfl
theorem show_bak {b : Bak} (h : b.Ok) : b.d.showable = true := by
  simp only [Bak.d, PyData.showable, PyData.showableAll, show_opt h.bound (by omega) (by omega), Bool.and_true, Bool.true_and]
  rw [shows_map fun i hi => show_num (h.lit i hi), shows_map fun g hg => show_good (h.good g hg)]
  rfl
theorem nodes_bak {b : Bak} (h : b.Ok) : nodes b.d ≤ 600 := by
  have h1 := nodes_map (h := PyData.int) (k := 1) (xs := b.lights) fun i _ => by simp [nodes]
  have h2 := nodes_map (h := Good.d) (k := 203) (xs := b.goods) fun g hg => by have := nodes_good (h.good g hg); have := h.few; omega
  have := h.few
  have := h.many
  simp only [Bak.d, nodes, nodesL, nodes_opt]
  omega
theorem repr_bak {b : Bak} (h : b.Ok) : biD .repr [b.d] = .ok (.str b.d.shown) := repr_ok (plain_bak b) (by omega) (show_bak h) (by have := nodes_bak h; omega)
namespace Pr
variable {T : Nat → Option Fn}
theorem look_at_number_ok (X : Ext T) (n : Nat) {b : Bak} {g : Nat} (h : g < b.goods.length) : callN T (n + 3) 26 [b.d, .int g] = .ok .none := by
  rw [call_T (X 26 _ rfl), runF_eq rfl]
  have e := is_within_ok X n g 0 ((b.goods.length : Int) - 1)
  rw [decide_eq_true (by omega)] at e
  simp [f_look_at_number, c_look_at_number, Bak.d, e]
theorem look_at_day_ok (X : Ext T) (n : Nat) {b : Bak} {g : Nat} (h : g < b.lights.length) : callN T (n + 3) 27 [b.d, .int g] = .ok .none := by
  rw [call_T (X 27 _ rfl), runF_eq rfl]
  have e := is_within_ok X n g 0 ((b.lights.length : Int) - 1)
  rw [decide_eq_true (by omega)] at e
  simp [f_look_at_day, c_look_at_day, Bak.d, e]
theorem good_at {b : Bak} {g : Nat} (h : g < b.goods.length) : ixD (.list (b.goods.map Good.d)) (.int g) = .ok (b.goods[g]).d := ix_nat (by rw [List.getElem?_map, List.getElem?_eq_getElem h]; rfl)
theorem price_ok (X : Ext T) (n : Nat) {b : Bak} (h : b.Ok) {g x y : Nat} (hg : g < b.goods.length) (hx : x < b.lights.length) (hy : y < b.lights.length) : callN T (n + 7) 31 [b.d, .int g, .int x, .int y] = .ok (optD ((b.goods[g]).price x y)) := by
  rw [call_T (X 31 _ rfl), runF_eq rfl]
  have hl := (h.good _ (List.getElem_mem hg)).1
  have e1 := look_at_bakery_ok X n h
  have e2 := look_at_number_ok X (n + 3) hg
  have e3 := look_at_day_ok X (n + 3) hx
  have e4 := look_at_day_ok X (n + 3) hy
  have e5 := price_of_ok X (n + 4) (b.goods[g]) x y (by omega)
  have e6 := good_at hg
  have i2 : ixD b.d (.int 2) = .ok (.list (b.goods.map Good.d)) := by simp [Bak.d]
  simp [f_price, c_price, e1, e2, e3, e4, i2, e6, e5]
end Pr
theorem plain_opt1 (o : Option Int) : plain 1 (optD o) = true := plain_opt o 1
theorem eqv_opt (a b : Option Int) : PyData.eqv (optD a) (optD b) = decide (a = b) := by
  cases a <;> cases b <;> simp [optD, PyData.eqv]
  rename_i i j
  exact Bool.beq_eq_decide_eq i j
@[simp] theorem ne_opt (a b : Option Int) : cmpD .ne (optD a) (optD b) = .ok (!decide (a = b)) := by
  rw [cmp_neD (sh_plain (plain_opt1 a) (by omega)) (sh_plain (plain_opt1 b) (by omega)), eqv_opt]
@[simp] theorem eq_opt (a b : Option Int) : cmpD .eq (optD a) (optD b) = .ok (decide (a = b)) := by
  rw [cmp_eqD (sh_plain (plain_opt1 a) (by omega)) (sh_plain (plain_opt1 b) (by omega)), eqv_opt]
@[simp] theorem ne_bb (a b : Bool) : cmpD .ne (.bool a) (.bool b) = .ok (a != b) := by
  rw [cmp_neD sh_bool sh_bool, PyData.eqv]
  rfl
@[simp] theorem eq_bb (a b : Bool) : cmpD .eq (.bool a) (.bool b) = .ok (a == b) := by
  rw [cmp_eqD sh_bool sh_bool, PyData.eqv]
@[simp] theorem isi_opt_b (o : Option Int) : isiD (optD o) .bool = false := by cases o <;> rfl
theorem seg_nil {α : Type} (ds : List α) {i j : Nat} (h : j ≤ i) : seg ds i j = [] := by
  unfold seg
  rw [List.drop_eq_nil_iff, List.length_take]
  omega
theorem seg_cons {α : Type} (ds : List α) {i j : Nat} (h : i < j) (hi : i < ds.length) : seg ds i j = ds[i] :: seg ds (i + 1) j := by
  unfold seg
  rw [List.drop_eq_getElem_cons (by rw [List.length_take]; omega), List.getElem_take]
/-- forty days of the same -/
def rep40 {α : Type} (xs : List α) : List α := (List.replicate 40 xs).flatten
def again {α : Type} (xs : List α) : List α := (rep40 xs).take 40
theorem again_len {α : Type} {xs : List α} (h : 1 ≤ xs.length) : (again xs).length = 40 := by
  unfold again rep40
  rw [List.length_take, PyProof.Rows.lm_len_rep_flat]
  omega
theorem again_mem {α : Type} {xs : List α} {x : α} (h : x ∈ again xs) : x ∈ xs := by
  have := List.mem_of_mem_take h
  unfold rep40 at this
  rw [List.mem_flatten] at this
  obtain ⟨l, h1, h2⟩ := this
  rw [List.eq_of_mem_replicate h1] at h2
  exact h2
theorem again_map {α β : Type} (f : α → β) (xs : List α) : again (xs.map f) = (again xs).map f := by
  unfold again rep40
  rw [List.map_take, List.map_flatten, List.map_replicate]
theorem mul40 {xs : List D} (h : xs.length ≤ 1000) : opD .mul (.list xs) (.int 40) = .ok (.list (rep40 xs)) := by
  have e : (decide (-(2 ^ 63) ≤ (40 : Int)) && decide ((40 : Int) < 2 ^ 63) && decide (xs.length * (40 : Int).toNat ≤ most)) = true := by
    rw [decide_eq_true (by omega), decide_eq_true (by omega), decide_eq_true (by simp only [most]; show xs.length * 40 ≤ _; omega)]
    rfl
  simp only [opD, mulD, e, if_true]
  rfl
theorem cut40 {xs : List D} : cutL (rep40 xs) none (some 40) = again xs := cut_0n (j := 40)
def Bak.longer (b : Bak) (life : Int) : Bak := ⟨again b.lights, b.bound, b.goods.map fun g => ⟨again g.days, some life⟩⟩
theorem longer_Ok {b : Bak} (h : b.Ok) {life : Int} (h0 : 0 ≤ life) (h1 : life ≤ 40) : (b.longer life).Ok where
  few := by
    have := again_len h.few.1
    show 1 ≤ (again b.lights).length ∧ (again b.lights).length ≤ 40
    omega
  lit := fun l hl => h.lit l (again_mem hl)
  bound := h.bound
  many := by
    show 1 ≤ (b.goods.map _).length ∧ (b.goods.map _).length ≤ 2
    rw [List.length_map]
    exact h.many
  good := fun g hg => by
    obtain ⟨g0, hg0, rfl⟩ := List.mem_map.mp hg
    obtain ⟨a1, a2, a3⟩ := h.good g0 hg0
    refine ⟨?_, ⟨h0, h1⟩, fun r hr => a3 r (again_mem hr)⟩
    show (again g0.days).length = (again b.lights).length
    have := h.few.1
    rw [again_len this, again_len (by omega)]
namespace Pr
variable {T : Nat → Option Fn}
theorem longer_ok (X : Ext T) (n : Nat) {b : Bak} (h : b.Ok) (life : Int) : callN T (n + 1) 32 [b.d, .int life] = .ok (b.longer life).d := by
  rw [call_T (X 32 _ rfl), runF_eq rfl]
  have lc : ∀ a1 a3 a4 a5 : D, lcL (pick (callN T n) (.t (.cons (.n 5) (.cons (.n 6) .nil))) [some a1, some (.int life), some a3, some a4, some a5, none, none] .nil (.tup (.cons (.sl (.op .mul (.v 5) (.k (.int 40))) .nil (.cons (.k (.int 40)) .nil)) (.cons (.v 1) .nil)))) (b.goods.map Good.d) =
      .ok (b.goods.map fun g => (⟨again g.days, some life⟩ : Good).d) := fun a1 a3 a4 a5 => by
    refine lcL_map fun g hg => ?_
    have hl := (h.good g hg).1
    have hf := h.few
    simp [pick, lcF, Tg.own, Good.d, wipeE, mul40 (xs := g.days.map Row.d) (by rw [List.length_map]; omega), slD, cut40, again_map]
  have m1 := mul40 (xs := b.lights.map .int) (by rw [List.length_map]; have := h.few; omega)
  simp [f__law_longer, c__law_longer, Bak.d, Bak.longer, m1, slD, cut40, again_map, lc]
end Pr
end Bk
/-! Bk: sums over stretches of days; crossing loaves. -/
namespace Bk
open PySem
section
variable {α : Type}
/-- a sum over the days i to j, j not -/
def sm (f : α → Int) (ds : List α) (i j : Nat) : Int := ((seg ds i j).map f).sum
theorem seg_split (ds : List α) {i j k : Nat} (h1 : i ≤ j) (h2 : j ≤ k) : seg ds i k = seg ds i j ++ seg ds j k := by
  unfold seg
  apply List.ext_getElem?
  intro m
  rw [List.getElem?_drop, List.getElem?_take]
  by_cases hj : j ≤ ds.length
  · have l1 : ((ds.take j).drop i).length = j - i := by rw [List.length_drop, List.length_take]; omega
    by_cases hm : m < j - i
    · rw [List.getElem?_append_left (by omega), List.getElem?_drop, List.getElem?_take]
      rw [if_pos (by omega), if_pos (by omega)]
    · rw [List.getElem?_append_right (by omega), l1, List.getElem?_drop, List.getElem?_take]
      have e : j + (m - (j - i)) = i + m := by omega
      rw [e]
  · have e1 : ds.take j = ds := List.take_of_length_le (by omega)
    have e2 : (ds.take k).drop j = [] := by
      rw [List.drop_eq_nil_iff, List.length_take]
      omega
    rw [e1, e2, List.append_nil, List.getElem?_drop]
    by_cases h : i + m < ds.length
    · rw [if_pos (by omega)]
    · rw [List.getElem?_eq_none (by omega)]
      split <;> rfl
theorem sm_split (f : α → Int) (ds : List α) {i j k : Nat} (h1 : i ≤ j) (h2 : j ≤ k) : sm f ds i k = sm f ds i j + sm f ds j k := by
  unfold sm
  rw [seg_split ds h1 h2, List.map_append, List.sum_append]
theorem seg_mem {ds : List α} {i j : Nat} {x : α} (h : x ∈ seg ds i j) : x ∈ ds := List.mem_of_mem_take (List.mem_of_mem_drop h)
theorem seg_sub {ds : List α} {i j i' j' : Nat} {x : α} (h1 : i' ≤ i) (h2 : i ≤ j) (h3 : j ≤ j') (h : x ∈ seg ds i j) : x ∈ seg ds i' j' := by
  rw [seg_split ds h1 (Nat.le_trans h2 h3), seg_split ds h2 h3]
  exact List.mem_append_right _ (List.mem_append_left _ h)
theorem sum_nn {f : α → Int} : ∀ {xs : List α}, (∀ x ∈ xs, 0 ≤ f x) → 0 ≤ (xs.map f).sum
  | [], _ => by simp
  | x :: xs, h => by
    have h1 := h x List.mem_cons_self
    have h2 := sum_nn fun y hy => h y (List.mem_cons_of_mem _ hy)
    simp only [List.map_cons, List.sum_cons]
    omega
theorem sm_nn {f : α → Int} {ds : List α} (h : ∀ x ∈ ds, 0 ≤ f x) (i j : Nat) : 0 ≤ sm f ds i j := sum_nn fun x hx => h x (seg_mem hx)
end
theorem optSum_iff : ∀ {os : List (Option Int)} {s : Int}, optSum os = some s ↔ (∀ o ∈ os, o ≠ none) ∧ s = (os.map fun o => o.getD 0).sum
  | [], s => by simp [optSum, eq_comm]
  | none :: r, s => by simp [optSum]
  | some i :: r, s => by
    have ih := @optSum_iff r
    simp only [optSum, Option.map_eq_some_iff, List.mem_cons, List.map_cons, List.sum_cons, Option.getD_some]
    constructor
    · rintro ⟨t, h1, rfl⟩
      obtain ⟨h2, h3⟩ := ih.mp h1
      refine ⟨fun o ho => ?_, by rw [h3]⟩
      rcases ho with rfl | ho
      · simp
      · exact h2 o ho
    · rintro ⟨h1, rfl⟩
      exact ⟨_, ih.mpr ⟨fun o ho => h1 o (.inr ho), rfl⟩, rfl⟩
def Row.fz (r : Row) : Int := r.fine.getD 0
theorem nBehind_iff {ds : List Row} {b v : Nat} {s : Int} : nBehind ds b v = some s ↔ (∀ r ∈ seg ds v b, r.fine ≠ none) ∧ s = sm Row.fz ds v b := by
  unfold nBehind
  rw [optSum_iff]
  constructor
  · rintro ⟨h1, h2⟩
    refine ⟨fun r hr => h1 _ (List.mem_map.mpr ⟨r, hr, rfl⟩), ?_⟩
    rw [h2, List.map_map]
    rfl
  · rintro ⟨h1, h2⟩
    refine ⟨fun o ho => ?_, ?_⟩
    · obtain ⟨r, hr, rfl⟩ := List.mem_map.mp ho
      exact h1 r hr
    · rw [h2, List.map_map]
      rfl
def within (life : Option Int) (n : Int) : Prop := match life with
  | none => True
  | some l => n ≤ l
theorem within.less {life : Option Int} {n m : Int} (h : within life n) (hm : m ≤ n) : within life m := by
  cases life with
  | none => trivial
  | some l => exact Int.le_trans hm h
theorem nAhead_iff {ds : List Row} {life : Option Int} {b v : Nat} {s : Int} : nAhead ds life b v = some s ↔ within life ((v : Int) - b) ∧ s = sm Row.keep ds b v := by
  unfold nAhead within
  cases life with
  | none => simp [sm, eq_comm]
  | some l =>
    dsimp only
    split
    · rename_i h
      constructor
      · intro z; cases z
      · intro z; omega
    · rename_i h
      simp only [Option.some.injEq]
      constructor
      · rintro rfl; exact ⟨by omega, rfl⟩
      · rintro ⟨_, rfl⟩; rfl
/-- loaves that cross may be exchanged, and it costs no more -/
theorem cross {g : Good} {m : Nat} (h : g.Ok m) {b1 b2 v1 v2 : Nat} (hb : b1 < b2) (hv : v1 < v2) {x y : Int} (h1 : g.nights b1 v2 = some x) (h2 : g.nights b2 v1 = some y) :
    ∃ z w : Int, g.nights b1 v1 = some z ∧ g.nights b2 v2 = some w ∧ z + w ≤ x + y := by
  have kn : ∀ r ∈ g.days, 0 ≤ Row.keep r := fun r hr => (h.2.2 r hr).2.2.1.1
  have fn : ∀ r ∈ g.days, 0 ≤ Row.fz r := fun r hr => by
    have := (h.2.2 r hr).2.2.2
    unfold Row.fz
    cases hf : r.fine with
    | none => simp
    | some f => rw [hf] at this; exact this.1
  have nn := fun i j => sm_nn kn i j
  have nf := fun i j => sm_nn fn i j
  have sk := fun {i j k : Nat} (a : i ≤ j) (b : j ≤ k) => sm_split Row.keep g.days a b
  have sf := fun {i j k : Nat} (a : i ≤ j) (b : j ≤ k) => sm_split Row.fz g.days a b
  unfold Good.nights at h1 h2 ⊢
  by_cases c1 : b1 ≤ v2
  · rw [if_pos c1, nAhead_iff] at h1
    obtain ⟨l1, rfl⟩ := h1
    by_cases c2 : b2 ≤ v1
    · rw [if_pos c2, nAhead_iff] at h2
      obtain ⟨l2, rfl⟩ := h2
      rw [if_pos (by omega), if_pos (by omega)]
      refine ⟨_, _, nAhead_iff.mpr ⟨l1.less (by omega), rfl⟩, nAhead_iff.mpr ⟨l1.less (by omega), rfl⟩, ?_⟩
      have q1 := sk (show b1 ≤ v1 by omega) (show v1 ≤ v2 by omega)
      have q2 := sk (show b2 ≤ v1 by omega) (show v1 ≤ v2 by omega)
      omega
    · rw [if_neg c2, nBehind_iff] at h2
      obtain ⟨l2, rfl⟩ := h2
      by_cases c3 : b1 ≤ v1
      · rw [if_pos c3]
        by_cases c4 : b2 ≤ v2
        · rw [if_pos c4]
          refine ⟨_, _, nAhead_iff.mpr ⟨l1.less (by omega), rfl⟩, nAhead_iff.mpr ⟨l1.less (by omega), rfl⟩, ?_⟩
          have q1 := sk (show b1 ≤ v1 by omega) (show v1 ≤ v2 by omega)
          have q2 := sk (show v1 ≤ b2 by omega) (show b2 ≤ v2 by omega)
          have := nn v1 b2
          have := nf v1 b2
          omega
        · rw [if_neg c4]
          refine ⟨_, _, nAhead_iff.mpr ⟨l1.less (by omega), rfl⟩, nBehind_iff.mpr ⟨fun r hr => l2 r (seg_sub (by omega) (by omega) (by omega) hr), rfl⟩, ?_⟩
          have q1 := sk (show b1 ≤ v1 by omega) (show v1 ≤ v2 by omega)
          have q2 := sf (show v1 ≤ v2 by omega) (show v2 ≤ b2 by omega)
          have := nn v1 v2
          have := nf v1 v2
          omega
      · rw [if_neg c3]
        by_cases c4 : b2 ≤ v2
        · rw [if_pos c4]
          refine ⟨_, _, nBehind_iff.mpr ⟨fun r hr => l2 r (seg_sub (by omega) (by omega) (by omega) hr), rfl⟩, nAhead_iff.mpr ⟨l1.less (by omega), rfl⟩, ?_⟩
          have q1 := sf (show v1 ≤ b1 by omega) (show b1 ≤ b2 by omega)
          have q2 := sk (show b1 ≤ b2 by omega) (show b2 ≤ v2 by omega)
          have := nn b1 b2
          have := nf b1 b2
          omega
        · rw [if_neg c4]
          refine ⟨_, _, nBehind_iff.mpr ⟨fun r hr => l2 r (seg_sub (by omega) (by omega) (by omega) hr), rfl⟩, nBehind_iff.mpr ⟨fun r hr => l2 r (seg_sub (by omega) (by omega) (by omega) hr), rfl⟩, ?_⟩
          have q1 := sf (show v1 ≤ b1 by omega) (show b1 ≤ v2 by omega)
          have q2 := sf (show v1 ≤ v2 by omega) (show v2 ≤ b2 by omega)
          have := nf b1 v2
          have := nn b1 v2
          omega
  · rw [if_neg c1, nBehind_iff] at h1
    obtain ⟨l1, rfl⟩ := h1
    rw [if_neg (by omega), nBehind_iff] at h2
    obtain ⟨l2, rfl⟩ := h2
    rw [if_neg (by omega), if_neg (by omega)]
    refine ⟨_, _, nBehind_iff.mpr ⟨fun r hr => l2 r (seg_sub (by omega) (by omega) (by omega) hr), rfl⟩, nBehind_iff.mpr ⟨fun r hr => l2 r (seg_sub (by omega) (by omega) (by omega) hr), rfl⟩, ?_⟩
    have q1 := sf (show v1 ≤ v2 by omega) (show v2 ≤ b1 by omega)
    have q2 := sf (show v1 ≤ v2 by omega) (show v2 ≤ b2 by omega)
    omega
end Bk
/-! Bk: slots that are forgotten; loops by their invariant. -/
namespace Bk
open PySem
/-- P knows no more than ρ -/
def Le : En → En → Prop
  | [], [] => True
  | p :: P, r :: ρ => (p = none ∨ p = r) ∧ Le P ρ
  | _, _ => False
theorem Le.refl : ∀ P : En, Le P P
  | [] => trivial
  | p :: P => ⟨.inr rfl, Le.refl P⟩
theorem Le.trans : ∀ {A B Z : En}, Le A B → Le B Z → Le A Z
  | [], [], [], _, _ => trivial
  | a :: A, b :: B, z :: Z, h, k => by
    refine ⟨?_, Le.trans h.2 k.2⟩
    rcases h.1 with h1 | h1
    · exact .inl h1
    · rcases k.1 with k1 | k1
      · exact .inl (h1.trans k1)
      · exact .inr (h1.trans k1)
  | [], _ :: _, _, h, _ => h.elim
  | _ :: _, [], _, h, _ => h.elim
  | [], [], _ :: _, _, h => h.elim
  | _ :: _, _ :: _, [], _, h => h.elim
theorem Le.get : ∀ {P ρ : En} {i : Nat} {d : D}, Le P ρ → P[i]? = some (some d) → ρ[i]? = some (some d)
  | [], [], _, _, _, e => by simp at e
  | p :: P, r :: ρ, 0, d, h, e => by
    simp only [List.getElem?_cons_zero, Option.some.injEq] at e ⊢
    rcases h.1 with h1 | h1
    · rw [h1] at e; cases e
    · rw [← h1, e]
  | p :: P, r :: ρ, i + 1, d, h, e => by
    simp only [List.getElem?_cons_succ] at e ⊢
    exact Le.get h.2 e
  | [], _ :: _, _, _, h, _ => h.elim
  | _ :: _, [], _, _, h, _ => h.elim
theorem Le.set : ∀ {P ρ : En} (i : Nat) (o : Option D), Le P ρ → Le (P.set i o) (ρ.set i o)
  | [], [], _, _, _ => trivial
  | p :: P, r :: ρ, 0, o, h => ⟨.inr rfl, h.2⟩
  | p :: P, r :: ρ, i + 1, o, h => ⟨h.1, Le.set i o h.2⟩
  | [], _ :: _, _, _, h => h.elim
  | _ :: _, [], _, _, h => h.elim
theorem Le.wipe : ∀ {P ρ : En} (l : List Nat), Le P ρ → Le (wipeE P l) (wipeE ρ l)
  | _, _, [], h => h
  | P, ρ, v :: vs, h => by
    simp only [wipeE]
    exact Le.set v none (Le.wipe vs h)
/-- x is bad, or both are alike -/
def RL {α β : Type} (R : α → β → Prop) : Res α → Res β → Prop
  | .bad, _ => True
  | .ok a, .ok b => R a b
  | .exc c vs, .exc c' vs' => c = c' ∧ vs = vs'
  | _, _ => False
theorem RL.bind {α β γ δ : Type} {R : α → β → Prop} {S : γ → δ → Prop} {x : Res α} {y : Res β} {f : α → Res γ} {g : β → Res δ} (h : RL R x y) (k : ∀ a b, R a b → RL S (f a) (g b)) : RL S (x.bind f) (y.bind g) := by
  cases x <;> cases y <;> first | exact trivial | exact h.elim | exact k _ _ h | exact h
theorem RL.refl {α : Type} {R : α → α → Prop} (r : ∀ a, R a a) (x : Res α) : RL R x x := by
  cases x <;> first | exact trivial | exact r _ | exact ⟨rfl, rfl⟩
theorem RL.eq {α : Type} (x : Res α) : RL Eq x x := RL.refl (fun _ => rfl) x
/-- both go on with the same -/
theorem RL.bindE {α β : Type} {S : β → β → Prop} {x y : Res α} {f g : α → Res β} (h : RL Eq x y) (k : ∀ a, RL S (f a) (g a)) : RL S (x.bind f) (y.bind g) :=
  h.bind fun a b e => by subst e; exact k a
theorem RL.get {P ρ : En} (h : Le P ρ) (i : Nat) : RL Eq (getS P i) (getS ρ i) := by
  unfold getS
  cases hp : P[i]? with
  | none => exact trivial
  | some o =>
    cases o with
    | none => exact trivial
    | some d =>
      rw [h.get hp]
      exact rfl
theorem tgs_mono : ∀ (t : Tg) (xs : List D) {P ρ : En}, Le P ρ → RL Le (tgs t xs P) (tgs t xs ρ)
  | .n i, [], P, ρ, h => by simp only [tgs]; exact trivial
  | .n i, [d], P, ρ, h => by simp only [tgs]; exact Le.set i _ h
  | .n i, _ :: _ :: _, P, ρ, h => by simp only [tgs]; exact trivial
  | .t ts, [], P, ρ, h => by simp only [tgs]; exact trivial
  | .t ts, [d], P, ρ, h => by
    simp only [tgs]
    cases itemsD d with
    | none => exact trivial
    | some xs => exact tgs_mono ts xs h
  | .t ts, _ :: _ :: _, P, ρ, h => by simp only [tgs]; exact trivial
  | .nil, [], P, ρ, h => by simp only [tgs]; exact h
  | .nil, _ :: _, P, ρ, h => by simp only [tgs]; exact trivial
  | .cons a b, [], P, ρ, h => by simp only [tgs]; exact trivial
  | .cons a b, x :: xs, P, ρ, h => by
    simp only [tgs]
    exact (tgs_mono a [x] h).bind fun P' ρ' h' => tgs_mono b xs h'
theorem tg1_mono (t : Tg) (d : D) {P ρ : En} (h : Le P ρ) : RL Le (tg1 t d P) (tg1 t d ρ) := tgs_mono t [d] h
theorem lcL_mono {f g : D → Res (Option D)} (h : ∀ x, RL Eq (f x) (g x)) : ∀ xs, RL Eq (lcL f xs) (lcL g xs)
  | [] => rfl
  | x :: xs => by
    simp only [lcL]
    exact (h x).bindE fun o => (lcL_mono h xs).bindE fun r => RL.eq _
theorem lcF_mono {t : Tg} {P ρ : En} (h : Le P ρ) {fc gc : En → Res Bool} {fe ge : En → Res D} (hc : ∀ {P ρ : En}, Le P ρ → RL Eq (fc P) (gc ρ)) (he : ∀ {P ρ : En}, Le P ρ → RL Eq (fe P) (ge ρ)) (x : D) : RL Eq (lcF t P fc fe x) (lcF t ρ gc ge x) := by
  unfold lcF
  refine (tg1_mono t x (Le.wipe t.own h)).bind fun P' ρ' h' => (hc h').bindE fun b => ?_
  cases b
  · exact RL.eq _
  · exact (he h').bindE fun d => RL.eq _
section
variable (C : Nat → List D → Res D)
mutual
theorem ev_mono : ∀ (e : E) {P ρ : En}, Le P ρ → RL Eq (ev C e P) (ev C e ρ)
  | .v i, _, _, h => by simp only [ev]; exact RL.get h i
  | .k d, _, _, h => by simp only [ev]; exact RL.eq _
  | .op o a b, _, _, h => by simp only [ev]; exact (ev_mono a h).bindE fun x => (ev_mono b h).bindE fun y => RL.eq _
  | .neg a, _, _, h => by simp only [ev]; exact (ev_mono a h).bindE fun x => RL.eq _
  | .cmp o a b, _, _, h => by simp only [ev]; exact (ev_mono a h).bindE fun x => (ev_mono b h).bindE fun y => RL.eq _
  | .chn o p a b c, _, _, h => by
    simp only [ev]
    refine (ev_mono a h).bindE fun x => (ev_mono b h).bindE fun y => (RL.eq _).bindE fun k => ?_
    cases k
    · exact RL.eq _
    · exact (ev_mono c h).bindE fun z => RL.eq _
  | .and a b, _, _, h => by
    simp only [ev]
    refine (ev_mono a h).bindE fun x => (RL.eq _).bindE fun k => ?_
    cases k
    · exact RL.eq _
    · exact ev_mono b h
  | .or a b, _, _, h => by
    simp only [ev]
    refine (ev_mono a h).bindE fun x => (RL.eq _).bindE fun k => ?_
    cases k
    · exact ev_mono b h
    · exact RL.eq _
  | .not a, _, _, h => by simp only [ev]; exact (ev_mono a h).bindE fun x => RL.eq _
  | .ife t a b, _, _, h => by
    simp only [ev]
    refine (ev_mono t h).bindE fun x => (RL.eq _).bindE fun k => ?_
    cases k
    · exact ev_mono b h
    · exact ev_mono a h
  | .ix a i, _, _, h => by simp only [ev]; exact (ev_mono a h).bindE fun x => (ev_mono i h).bindE fun y => RL.eq _
  | .sl a l k, _, _, h => by simp only [ev]; exact (ev_mono a h).bindE fun x => (evo_mono l h).bindE fun i => (evo_mono k h).bindE fun j => RL.eq _
  | .rev a, _, _, h => by simp only [ev]; exact (ev_mono a h).bindE fun x => RL.eq _
  | .rvt a, _, _, h => by simp only [ev]; exact (ev_mono a h).bindE fun x => RL.eq _
  | .tup es, _, _, h => by simp only [ev]; exact (evs_mono es h).bindE fun x => RL.eq _
  | .lst es, _, _, h => by simp only [ev]; exact (evs_mono es h).bindE fun x => RL.eq _
  | .dct a b, P, ρ, h => by
    have e : ev C (.dct a b) P = ev C (.dct a b) ρ := by cases a <;> cases b <;> simp only [ev]
    rw [e]
    exact RL.eq _
  | .call f es, _, _, h => by simp only [ev]; exact (evs_mono es h).bindE fun x => RL.eq _
  | .cb f es, _, _, h => by simp only [ev]; exact (evs_mono es h).bindE fun x => RL.eq _
  | .bi b es, _, _, h => by simp only [ev]; exact (evs_mono es h).bindE fun x => RL.eq _
  | .isi a t, _, _, h => by simp only [ev]; exact (ev_mono a h).bindE fun x => RL.eq _
  | .me m o es, _, _, h => by simp only [ev]; exact trivial
  | .lc tg it c e, _, _, h => by
    simp only [ev]
    exact (evi_mono it h).bindE fun xs => (lcL_mono (fun x => lcF_mono h (fun k => evc_mono c k) (fun k => ev_mono e k) x) xs).bindE fun ys => RL.eq _
  | .rng es, _, _, h => by simp only [ev]; exact trivial
  | .enm es, _, _, h => by simp only [ev]; exact trivial
  | .zip a b, _, _, h => by simp only [ev]; exact trivial
  | .vals a, _, _, h => by simp only [ev]; exact trivial
  | .nil, _, _, h => by simp only [ev]; exact trivial
  | .cons a b, _, _, h => by simp only [ev]; exact trivial
theorem evs_mono : ∀ (e : E) {P ρ : En}, Le P ρ → RL Eq (evs C e P) (evs C e ρ)
  | .nil, _, _, h => by simp only [evs]; exact RL.eq _
  | .cons a b, _, _, h => by simp only [evs]; exact (ev_mono a h).bindE fun x => (evs_mono b h).bindE fun y => RL.eq _
  | .v _, _, _, h | .k _, _, _, h | .op _ _ _, _, _, h | .neg _, _, _, h | .cmp _ _ _, _, _, h | .chn _ _ _ _ _, _, _, h | .and _ _, _, _, h | .or _ _, _, _, h | .not _, _, _, h | .ife _ _ _, _, _, h
  | .ix _ _, _, _, h | .sl _ _ _, _, _, h | .rev _, _, _, h | .rvt _, _, _, h | .tup _, _, _, h | .lst _, _, _, h | .dct _ _, _, _, h | .call _ _, _, _, h | .cb _ _, _, _, h | .bi _ _, _, _, h | .isi _ _, _, _, h
  | .me _ _ _, _, _, h | .lc _ _ _ _, _, _, h | .rng _, _, _, h | .enm _, _, _, h | .zip _ _, _, _, h | .vals _, _, _, h => by simp only [evs]; exact trivial
theorem evo_mono : ∀ (e : E) {P ρ : En}, Le P ρ → RL Eq (evo C e P) (evo C e ρ)
  | .nil, _, _, h => by simp only [evo]; exact RL.eq _
  | .cons a b, _, _, h => by simp only [evo]; exact (ev_mono a h).bindE fun x => RL.eq _
  | .v _, _, _, h | .k _, _, _, h | .op _ _ _, _, _, h | .neg _, _, _, h | .cmp _ _ _, _, _, h | .chn _ _ _ _ _, _, _, h | .and _ _, _, _, h | .or _ _, _, _, h | .not _, _, _, h | .ife _ _ _, _, _, h
  | .ix _ _, _, _, h | .sl _ _ _, _, _, h | .rev _, _, _, h | .rvt _, _, _, h | .tup _, _, _, h | .lst _, _, _, h | .dct _ _, _, _, h | .call _ _, _, _, h | .cb _ _, _, _, h | .bi _ _, _, _, h | .isi _ _, _, _, h
  | .me _ _ _, _, _, h | .lc _ _ _ _, _, _, h | .rng _, _, _, h | .enm _, _, _, h | .zip _ _, _, _, h | .vals _, _, _, h => by simp only [evo]; exact trivial
theorem evc_mono : ∀ (e : E) {P ρ : En}, Le P ρ → RL Eq (evc C e P) (evc C e ρ)
  | .nil, _, _, h => by simp only [evc]; exact RL.eq _
  | .cons a b, _, _, h => by simp only [evc]; exact (ev_mono a h).bindE fun x => RL.eq _
  | .v _, _, _, h | .k _, _, _, h | .op _ _ _, _, _, h | .neg _, _, _, h | .cmp _ _ _, _, _, h | .chn _ _ _ _ _, _, _, h | .and _ _, _, _, h | .or _ _, _, _, h | .not _, _, _, h | .ife _ _ _, _, _, h
  | .ix _ _, _, _, h | .sl _ _ _, _, _, h | .rev _, _, _, h | .rvt _, _, _, h | .tup _, _, _, h | .lst _, _, _, h | .dct _ _, _, _, h | .call _ _, _, _, h | .cb _ _, _, _, h | .bi _ _, _, _, h | .isi _ _, _, _, h
  | .me _ _ _, _, _, h | .lc _ _ _ _, _, _, h | .rng _, _, _, h | .enm _, _, _, h | .zip _ _, _, _, h | .vals _, _, _, h => by simp only [evc]; exact trivial
theorem evi_mono : ∀ (e : E) {P ρ : En}, Le P ρ → RL Eq (evi C e P) (evi C e ρ)
  | .rng es, _, _, h => by simp only [evi]; exact (evs_mono es h).bindE fun x => RL.eq _
  | .enm a, _, _, h => by simp only [evi]; exact (ev_mono a h).bindE fun x => RL.eq _
  | .zip a b, _, _, h => by simp only [evi]; exact (ev_mono a h).bindE fun x => (ev_mono b h).bindE fun y => RL.eq _
  | .cons a b, _, _, h => by simp only [evi]; exact (ev_mono a h).bindE fun x => RL.eq _
  | .v _, _, _, h | .k _, _, _, h | .op _ _ _, _, _, h | .neg _, _, _, h | .cmp _ _ _, _, _, h | .chn _ _ _ _ _, _, _, h | .and _ _, _, _, h | .or _ _, _, _, h | .not _, _, _, h | .ife _ _ _, _, _, h
  | .ix _ _, _, _, h | .sl _ _ _, _, _, h | .rev _, _, _, h | .rvt _, _, _, h | .tup _, _, _, h | .lst _, _, _, h | .dct _ _, _, _, h | .call _ _, _, _, h | .cb _ _, _, _, h | .bi _ _, _, _, h | .isi _ _, _, _, h
  | .me _ _ _, _, _, h | .lc _ _ _ _, _, _, h | .vals _, _, _, h | .nil, _, _, h => by simp only [evi]; exact trivial
end
def OLe : Out → Out → Prop
  | .nx a, .nx b => Le a b
  | .bk a, .bk b => Le a b
  | .ct a, .ct b => Le a b
  | .rt d, .rt e => d = e
  | _, _ => False
theorem pathE_mono : ∀ (e : E) {P ρ : En}, Le P ρ → RL Eq (pathE C e P) (pathE C e ρ)
  | .v i, _, _, h => by simp only [pathE]; exact RL.eq _
  | .ix a i, _, _, h => by simp only [pathE]; exact (pathE_mono a h).bindE fun p => (ev_mono C i h).bindE fun x => RL.eq _
  | .k _, _, _, h | .op _ _ _, _, _, h | .neg _, _, _, h | .cmp _ _ _, _, _, h | .chn _ _ _ _ _, _, _, h | .and _ _, _, _, h | .or _ _, _, _, h | .not _, _, _, h | .ife _ _ _, _, _, h
  | .sl _ _ _, _, _, h | .rev _, _, _, h | .rvt _, _, _, h | .tup _, _, _, h | .lst _, _, _, h | .dct _ _, _, _, h | .call _ _, _, _, h | .cb _ _, _, _, h | .bi _ _, _, _, h | .isi _ _, _, _, h
  | .me _ _ _, _, _, h | .lc _ _ _ _, _, _, h | .rng _, _, _, h | .enm _, _, _, h | .zip _ _, _, _, h | .vals _, _, _, h | .nil, _, _, h | .cons _ _, _, _, h => by simp only [pathE]; exact trivial
theorem turnS_mono (p : E) (f : D → Res D) {P ρ : En} (h : Le P ρ) : RL OLe (turnS C p f P) (turnS C p f ρ) := by
  unfold turnS
  exact (pathE_mono C p h).bindE fun q => (RL.get h q.1).bindE fun d => (RL.eq _).bindE fun d' => Le.set _ _ h
theorem forL_mono {f g : D → En → Res Out} (k : ∀ (x : D) {P ρ : En}, Le P ρ → RL OLe (f x P) (g x ρ)) : ∀ (xs : List D) {P ρ : En}, Le P ρ → RL OLe (forL f xs P) (forL g xs ρ)
  | [], _, _, h => by simp only [forL]; exact h
  | x :: xs, _, _, h => by
    simp only [forL]
    refine (k x h).bind fun a b o => ?_
    cases a <;> cases b <;> first | exact o.elim | exact forL_mono k xs o | exact o
theorem whL_mono {t u : En → Res Bool} {f g : En → Res Out} (ht : ∀ {P ρ : En}, Le P ρ → RL Eq (t P) (u ρ)) (k : ∀ {P ρ : En}, Le P ρ → RL OLe (f P) (g ρ)) : ∀ (n : Nat) {P ρ : En}, Le P ρ → RL OLe (whL t f n P) (whL u g n ρ)
  | 0, _, _, h => by simp only [whL]; exact trivial
  | n + 1, _, _, h => by
    simp only [whL]
    refine (ht h).bindE fun b => ?_
    cases b
    · exact h
    · refine (k h).bind fun a b o => ?_
      cases a <;> cases b <;> first | exact o.elim | exact whL_mono ht k n o | exact o
theorem ex_mono : ∀ (s : S) {P ρ : En}, Le P ρ → RL OLe (ex C s P) (ex C s ρ)
  | .nil, _, _, h => by simp only [ex]; exact h
  | .cons a b, _, _, h => by
    simp only [ex]
    refine (ex_mono a h).bind fun x y o => ?_
    cases x <;> cases y <;> first | exact o.elim | exact ex_mono b o | exact o
  | .set t e, _, _, h => by simp only [ex]; exact (ev_mono C e h).bindE fun d => (tg1_mono t d h).bind fun a b k => k
  | .own i e, _, _, h => by simp only [ex]; exact (ev_mono C e h).bindE fun d => (RL.eq _).bindE fun xs => Le.set _ _ h
  | .aug i o e, _, _, h => by simp only [ex]; exact (RL.get h i).bindE fun x => (ev_mono C e h).bindE fun y => (RL.eq _).bindE fun z => Le.set _ _ h
  | .app p e, _, _, h => by simp only [ex]; exact (ev_mono C e h).bindE fun x => turnS_mono C p _ h
  | .ext p e, _, _, h => by simp only [ex]; exact (ev_mono C e h).bindE fun x => turnS_mono C p _ h
  | .put p i e, _, _, h => by simp only [ex]; exact (ev_mono C e h).bindE fun x => (ev_mono C i h).bindE fun j => turnS_mono C p _ h
  | .pau p i o e, _, _, h => by simp only [ex]; exact (ev_mono C i h).bindE fun j => (ev_mono C e h).bindE fun x => turnS_mono C p _ h
  | .ret e, _, _, h => by simp only [ex]; exact (ev_mono C e h).bindE fun d => rfl
  | .rtl e, _, _, h => by simp only [ex]; exact (ev_mono C e h).bindE fun d => (RL.eq _).bindE fun xs => rfl
  | .ife t a b, _, _, h => by
    simp only [ex]
    refine (ev_mono C t h).bindE fun x => (RL.eq _).bindE fun k => ?_
    cases k
    · exact ex_mono b h
    · exact ex_mono a h
  | .for_ t it b, _, _, h => by
    simp only [ex]
    exact (evi_mono C it h).bindE fun xs => forL_mono (fun x {P ρ} k => (tg1_mono t x k).bind fun _ _ o => ex_mono b o) xs h
  | .whl t b, _, _, h => by
    simp only [ex]
    exact whL_mono (fun {P ρ} k => (ev_mono C t k).bindE fun x => RL.eq (boolD x)) (fun {P ρ} k => ex_mono b k) fuel h
  | .brk, _, _, h => by simp only [ex]; exact h
  | .cnt, _, _, h => by simp only [ex]; exact h
  | .pas, _, _, h => by simp only [ex]; exact h
  | .exp e, _, _, h => by simp only [ex]; exact (ev_mono C e h).bindE fun d => h
  | .never, _, _, h => by simp only [ex]; exact trivial
end
/-! ### what comes of a body, at least -/
def Gives (x : Res Out) (o : Out) : Prop := ∃ o', x = .ok o' ∧ OLe o o'
/-- a turn that goes on -/
def Nx (x : Res Out) (P : En) : Prop := Gives x (.nx P) ∨ Gives x (.ct P)
def thenE (C : Nat → List D → Res D) (t : S) : Out → Res Out := fun o => match o with
  | .nx ρ' => ex C t ρ'
  | o => .ok o
section
variable {C : Nat → List D → Res D} {s t b : S} {P P' ρ : En} {o : Out} {x : Res Out} {d : D} {g : Tg} {e : E}
theorem OLe.refl : ∀ o : Out, OLe o o
  | .nx a => Le.refl a
  | .bk a => Le.refl a
  | .ct a => Le.refl a
  | .rt d => rfl
theorem OLe.trans : ∀ {a b c : Out}, OLe a b → OLe b c → OLe a c := by
  intro a b c h k
  cases a <;> cases b <;> first | exact h.elim | (cases c <;> first | exact k.elim | exact Le.trans h k | exact Eq.trans h k)
theorem ex_seq : ex C (.cons s t) ρ = (ex C s ρ).bind (thenE C t) := by simp only [ex] <;> rfl
theorem then_nx : thenE C t (.nx ρ) = ex C t ρ := rfl
theorem then_rt : thenE C t (.rt d) = .ok (.rt d) := rfl
theorem then_bk : thenE C t (.bk ρ) = .ok (.bk ρ) := rfl
theorem then_ct : thenE C t (.ct ρ) = .ok (.ct ρ) := rfl
theorem Gives.eq (h : x = .ok o) : Gives x o := ⟨o, h, OLe.refl o⟩
theorem Gives.ok {o' : Out} (h : OLe o o') : Gives (.ok o') o := ⟨o', rfl, h⟩
theorem Gives.rt_iff : Gives x (.rt d) ↔ x = .ok (.rt d) := by
  constructor
  · rintro ⟨o', e, h⟩
    cases o' <;> first | exact h.elim | (cases h; exact e)
  · exact Gives.eq
theorem Gives.mono {f : En → Res Out} (hf : ∀ {P ρ : En}, Le P ρ → RL OLe (f P) (f ρ)) (h : Gives (f P) o) (l : Le P ρ) : Gives (f ρ) o := by
  obtain ⟨o1, e, h1⟩ := h
  have k := hf l
  rw [e] at k
  cases hy : f ρ with
  | ok o2 =>
    rw [hy] at k
    exact ⟨o2, rfl, h1.trans k⟩
  | exc c vs => rw [hy] at k; exact k.elim
  | bad => rw [hy] at k; exact k.elim
theorem Gives.exm (h : Gives (ex C t P) o) (l : Le P ρ) : Gives (ex C t ρ) o := Gives.mono (fun k => ex_mono C t k) h l
/-- one thing behind another -/
theorem Gives.seq (h : Gives x (.nx P)) (k : Gives (ex C t P) o) : Gives (x.bind (thenE C t)) o := by
  obtain ⟨o1, rfl, l⟩ := h
  cases o1 <;> first | exact l.elim | exact k.exm l
theorem Gives.stop (h : Gives x (.rt d)) : Gives (x.bind (thenE C t)) (.rt d) := by
  rw [Gives.rt_iff] at h
  subst h
  exact Gives.eq rfl
theorem turn_mono (g : Tg) (b : S) (y : D) {P ρ : En} (l : Le P ρ) : RL OLe (turn C g b y P) (turn C g b y ρ) := by
  unfold turn
  exact (tg1_mono g y l).bind fun P' ρ' l' => ex_mono C b l'
theorem Gives.le {o o' : Out} (h : Gives x o) (l : OLe o' o) : Gives x o' := by
  obtain ⟨o1, e, k⟩ := h
  exact ⟨o1, e, OLe.trans l k⟩
/-! ### loops -/
/-- the first that there is, from k on -/
def firstF (p : Nat → Option D) : Nat → Nat → Option D
  | _, 0 => none
  | k, n + 1 => match p k with
    | some d => some d
    | none => firstF p (k + 1) n
theorem firstF_none {p : Nat → Option D} : ∀ {n k : Nat}, (∀ i, i < n → p (k + i) = none) → firstF p k n = none
  | 0, _, _ => rfl
  | n + 1, k, h => by
    have h0 := h 0 (by omega)
    rw [Nat.add_zero] at h0
    simp only [firstF, h0]
    exact firstF_none fun i hi => by rw [show k + 1 + i = k + (i + 1) by omega]; exact h (i + 1) (by omega)
theorem firstF_some {p : Nat → Option D} {d : D} : ∀ {n k i : Nat}, i < n → p (k + i) = some d → (∀ j, j < i → p (k + j) = none) → firstF p k n = some d
  | 0, _, _, h, _, _ => absurd h (by omega)
  | n + 1, k, 0, _, h1, _ => by rw [Nat.add_zero] at h1; simp only [firstF, h1]
  | n + 1, k, i + 1, h, h1, h2 => by
    have h0 := h2 0 (by omega)
    rw [Nat.add_zero] at h0
    simp only [firstF, h0]
    exact firstF_some (i := i) (by omega) (by rw [show k + 1 + i = k + (i + 1) by omega]; exact h1) fun j hj => by rw [show k + 1 + j = k + (j + 1) by omega]; exact h2 (j + 1) (by omega)
def loopO (p : Nat → Option D) (E : Nat → En) (k n : Nat) : Out := match firstF p k n with
  | some d => .rt d
  | none => .nx (E (k + n))
theorem forL_go {f : D → En → Res Out} (hf : ∀ (y : D) {P ρ : En}, Le P ρ → RL OLe (f y P) (f y ρ)) (E : Nat → En) (p : Nat → Option D) : ∀ (xs : List D) (k : Nat) (ρ : En), Le (E k) ρ →
    (∀ i y, xs[i]? = some y → match p (k + i) with
      | none => Nx (f y (E (k + i))) (E (k + i + 1))
      | some d => Gives (f y (E (k + i))) (.rt d)) → Gives (forL f xs ρ) (loopO p E k xs.length)
  | [], k, ρ, l, _ => ⟨.nx ρ, rfl, l⟩
  | y :: ys, k, ρ, l, h => by
    have h1 := h 0 y rfl
    rw [Nat.add_zero] at h1
    have step : ∀ {ρ' : En}, Le (E (k + 1)) ρ' → Gives (forL f ys ρ') (loopO p E (k + 1) ys.length) := fun {ρ'} l' =>
      forL_go hf E p ys (k + 1) ρ' l' fun i z hz => by
        have := h (i + 1) z (by simpa using hz)
        rw [show k + (i + 1) = k + 1 + i by omega] at this
        exact this
    rw [List.length_cons]
    simp only [forL]
    unfold loopO
    cases hk : p k with
    | some d =>
      rw [hk] at h1
      rw [Gives.rt_iff.mp (Gives.mono (f := f y) (fun q => hf y q) h1 l)]
      simp only [firstF, hk]
      exact ⟨_, rfl, rfl⟩
    | none =>
      rw [hk] at h1
      simp only [firstF, hk]
      unfold loopO at step
      rw [show k + (ys.length + 1) = k + 1 + ys.length by omega]
      rcases h1 with h1 | h1
      · obtain ⟨o2, e2, l2⟩ := Gives.mono (f := f y) (fun q => hf y q) h1 l
        rw [e2]
        cases o2 <;> first | exact l2.elim | exact step l2
      · obtain ⟨o2, e2, l2⟩ := Gives.mono (f := f y) (fun q => hf y q) h1 l
        rw [e2]
        cases o2 <;> first | exact l2.elim | exact step l2
/-- a loop by what stands ahead of each turn, and where it is left -/
theorem loop_gen {xs : List D} (E : Nat → En) (p : Nat → Option D) (h0 : Le (E 0) ρ) (hs : ∀ i y, xs[i]? = some y → match p i with
      | none => Nx (turn C g b y (E i)) (E (i + 1))
      | some d => Gives (turn C g b y (E i)) (.rt d)) : Gives (forL (turn C g b) xs ρ) (loopO p E 0 xs.length) :=
  forL_go (fun y {P ρ} l => turn_mono g b y l) E p xs 0 ρ h0 fun i y hy => by rw [Nat.zero_add]; exact hs i y hy
/-- a loop that is never left -/
theorem loop_all {xs : List D} (E : Nat → En) (h0 : Le (E 0) ρ) (hs : ∀ i y, xs[i]? = some y → Nx (turn C g b y (E i)) (E (i + 1))) (k : Gives (ex C t (E xs.length)) o) : Gives ((forL (turn C g b) xs ρ).bind (thenE C t)) o := by
  have := loop_gen (xs := xs) E (fun _ => none) h0 fun i y hy => hs i y hy
  unfold loopO at this
  rw [firstF_none fun _ _ => rfl, Nat.zero_add] at this
  exact this.seq k
/-- a loop that is left at its turn j -/
theorem loop_hit {xs : List D} (E : Nat → En) (h0 : Le (E 0) ρ) (j : Nat) (hs : ∀ i y, i < j → xs[i]? = some y → Nx (turn C g b y (E i)) (E (i + 1))) {y : D} (hj : xs[j]? = some y) (hy : Gives (turn C g b y (E j)) (.rt d)) : Gives ((forL (turn C g b) xs ρ).bind (thenE C t)) (.rt d) := by
  have lt : j < xs.length := (List.getElem?_eq_some_iff.mp hj).1
  have := loop_gen (xs := xs.take (j + 1)) (ρ := ρ) E (fun i => if i = j then some d else none) h0 fun i z hz => by
    rw [List.getElem?_take] at hz
    split at hz
    · rename_i hlt
      by_cases hij : i = j
      · subst hij
        rw [hj] at hz
        cases hz
        rw [if_pos rfl]
        exact hy
      · rw [if_neg hij]
        exact hs i z (by omega) hz
    · cases hz
  unfold loopO at this
  rw [firstF_some (i := j) (d := d) (by rw [List.length_take]; omega) (by simp) fun i hi => by simp; omega] at this
  refine Gives.stop ?_
  rw [Gives.rt_iff] at this ⊢
  have go : ∀ (as bs : List D) (σ : En), forL (turn C g b) as σ = .ok (.rt d) → forL (turn C g b) (as ++ bs) σ = .ok (.rt d) := by
    intro as bs
    induction as with
    | nil => intro σ h; cases h
    | cons a as ih =>
      intro σ h
      simp only [List.cons_append, forL] at h ⊢
      cases hx : turn C g b a σ with
      | bad => rw [hx] at h; cases h
      | exc c vs => rw [hx] at h; cases h
      | ok o =>
        rw [hx] at h
        cases o with
        | nx ρ' => exact ih ρ' h
        | ct ρ' => exact ih ρ' h
        | bk ρ' => cases h
        | rt d' => exact h
  have := go _ (xs.drop (j + 1)) _ this
  rwa [List.take_append_drop] at this
theorem body_mono {P ρ : En} (l : Le P ρ) : RL OLe (body C b P) (body C b ρ) := ex_mono C b l
theorem test_mono {P ρ : En} (l : Le P ρ) : RL Eq (test C e P) (test C e ρ) := (ev_mono C e l).bindE fun x => RL.eq _
theorem test_le {k : Bool} (h : test C e P = .ok k) (l : Le P ρ) : test C e ρ = .ok k := by
  have := test_mono (C := C) (e := e) l
  rw [h] at this
  cases hy : test C e ρ with
  | ok k' => rw [hy] at this; rw [show k = k' from this]
  | exc c vs => rw [hy] at this; exact this.elim
  | bad => rw [hy] at this; exact this.elim
/-- a while: what holds, what gets less; it ends, or is left -/
theorem while_go {σ : Type} (E : σ → En) (I : σ → Prop) (m : σ → Nat) (hs : ∀ s, I s → (test C e (E s) = .ok false) ∨ (test C e (E s) = .ok true ∧ ((∃ s', Nx (body C b (E s)) (E s') ∧ I s' ∧ m s' < m s) ∨ ∃ d, Gives (body C b (E s)) (.rt d)))) :
    ∀ (n : Nat) (s : σ) (ρ : En), I s → m s < n → Le (E s) ρ → ∃ s', I s' ∧ ((test C e (E s') = .ok false ∧ Gives (whL (test C e) (body C b) n ρ) (.nx (E s'))) ∨ (test C e (E s') = .ok true ∧ ∃ d, Gives (body C b (E s')) (.rt d) ∧ Gives (whL (test C e) (body C b) n ρ) (.rt d)))
  | 0, _, _, _, h, _ => absurd h (by omega)
  | n + 1, s, ρ, i, h, l => by
    rcases hs s i with h1 | ⟨h1, h2⟩
    · refine ⟨s, i, .inl ⟨h1, ?_⟩⟩
      simp only [whL, test_le h1 l]
      exact ⟨_, rfl, l⟩
    · rcases h2 with ⟨s', h2, i', hm⟩ | ⟨d, h2⟩
      · obtain ⟨s2, i2, h3⟩ : ∃ ρ', (body C b ρ = .ok (.nx ρ') ∨ body C b ρ = .ok (.ct ρ')) ∧ Le (E s') ρ' := by
          rcases h2 with h2 | h2
          · obtain ⟨o2, e2, l2⟩ := Gives.mono (f := body C b) (fun q => body_mono q) h2 l
            cases o2 <;> first | exact l2.elim | exact ⟨_, .inl e2, l2⟩
          · obtain ⟨o2, e2, l2⟩ := Gives.mono (f := body C b) (fun q => body_mono q) h2 l
            cases o2 <;> first | exact l2.elim | exact ⟨_, .inr e2, l2⟩
        have ih := while_go E I m hs n s' s2 i' (by omega) h3
        have eq : whL (test C e) (body C b) (n + 1) ρ = whL (test C e) (body C b) n s2 := by
          simp only [whL, test_le h1 l, Res.bind_ok, if_true]
          rcases i2 with q | q <;> rw [q] <;> rfl
        rw [eq]
        exact ih
      · refine ⟨s, i, .inr ⟨h1, d, h2, ?_⟩⟩
        have := Gives.rt_iff.mp (Gives.mono (f := body C b) (fun q => body_mono q) h2 l)
        simp only [whL, test_le h1 l, Res.bind_ok, if_true, this]
        exact ⟨_, rfl, rfl⟩
/-- a while that only ends by its test -/
theorem while_all {σ : Type} (E : σ → En) (I : σ → Prop) (m : σ → Nat) (s0 : σ) (i0 : I s0) (h0 : m s0 < fuel) (l : Le (E s0) ρ) (hs : ∀ s, I s → (test C e (E s) = .ok false) ∨ (test C e (E s) = .ok true ∧ ∃ s', Nx (body C b (E s)) (E s') ∧ I s' ∧ m s' < m s))
    (k : ∀ s, I s → test C e (E s) = .ok false → Gives (ex C t (E s)) o) : Gives ((whL (test C e) (body C b) fuel ρ).bind (thenE C t)) o := by
  -- a turn that returns isn't there
  have key : ∀ (n : Nat) (s : σ) (ρ : En), I s → m s < n → Le (E s) ρ → ∃ s', I s' ∧ test C e (E s') = .ok false ∧ Gives (whL (test C e) (body C b) n ρ) (.nx (E s')) := by
    intro n
    induction n with
    | zero => intro s ρ _ h; omega
    | succ n ih =>
      intro s ρ i h l
      rcases hs s i with h1 | ⟨h1, s', h2, i', hm⟩
      · refine ⟨s, i, h1, ?_⟩
        simp only [whL, test_le h1 l]
        exact ⟨_, rfl, l⟩
      · obtain ⟨ρ2, q, l2⟩ : ∃ ρ', (body C b ρ = .ok (.nx ρ') ∨ body C b ρ = .ok (.ct ρ')) ∧ Le (E s') ρ' := by
          rcases h2 with h2 | h2
          · obtain ⟨o2, e2, l2⟩ := Gives.mono (f := body C b) (fun q => body_mono q) h2 l
            cases o2 <;> first | exact l2.elim | exact ⟨_, .inl e2, l2⟩
          · obtain ⟨o2, e2, l2⟩ := Gives.mono (f := body C b) (fun q => body_mono q) h2 l
            cases o2 <;> first | exact l2.elim | exact ⟨_, .inr e2, l2⟩
        have eq : whL (test C e) (body C b) (n + 1) ρ = whL (test C e) (body C b) n ρ2 := by
          simp only [whL, test_le h1 l, Res.bind_ok, if_true]
          rcases q with q | q <;> rw [q] <;> rfl
        rw [eq]
        exact ih s' ρ2 i' (by omega) l2
  obtain ⟨s', i', ht, hg⟩ := key fuel s0 ρ i0 h0 l
  exact hg.seq (k s' i' ht)
end
/-- a def, by what its body gives -/
theorem call_do {T : Nat → Option Fn} {n k : Nat} {vs : List D} {fn : Fn} {d : D} (h : T k = some fn) (hl : vs.length = fn.np) (r : Gives (ex (callN T n) fn.body (vs.map some ++ List.replicate (fn.ns - vs.length) none)) (.rt d)) : callN T (n + 1) k vs = .ok d := by
  rw [call_T h, runF_eq hl, Gives.rt_iff.mp r]
  rfl
theorem call_no {T : Nat → Option Fn} {n k : Nat} {vs : List D} {fn : Fn} {P : En} (h : T k = some fn) (hl : vs.length = fn.np) (hr : fn.ret = .f) (r : Gives (ex (callN T n) fn.body (vs.map some ++ List.replicate (fn.ns - vs.length) none)) (.nx P)) : callN T (n + 1) k vs = .ok .none := by
  obtain ⟨o, e, l⟩ := r
  rw [call_T h, runF_eq hl, e]
  cases o <;> first | exact l.elim | skip
  show (match fn.ret with
    | .f => Res.ok PyData.none
    | _ => .bad) = _
  rw [hr]
end Bk
/-! Bk: least costs by lit days, in plain Lean. -/
namespace Bk
def lesO : Option Int → Option Int → Option Int
  | none, b => b
  | some a, none => some a
  | some a, some b => some (if b < a then b else a)
def addO : Option Int → Option Int → Option Int
  | some a, some b => some (a + b)
  | _, _ => none
/-- none is above all -/
def LeO (a b : Option Int) : Prop := ∀ y, b = some y → ∃ x, a = some x ∧ x ≤ y
theorem LeO.refl (a : Option Int) : LeO a a := fun y h => ⟨y, h, Int.le_refl y⟩
theorem LeO.trans {a b c : Option Int} (h : LeO a b) (k : LeO b c) : LeO a c := fun z hz => by
  obtain ⟨y, hy, l1⟩ := k z hz
  obtain ⟨x, hx, l2⟩ := h y hy
  exact ⟨x, hx, Int.le_trans l2 l1⟩
theorem LeO.none (a : Option Int) : LeO a none := fun y h => by cases h
theorem LeO.some {x y : Int} : LeO (some x) (some y) ↔ x ≤ y := by
  constructor
  · intro h
    obtain ⟨z, hz, l⟩ := h y rfl
    cases hz
    exact l
  · intro h z hz
    cases hz
    exact ⟨x, rfl, h⟩
theorem LeO.anti {a b : Option Int} (h : LeO a b) (k : LeO b a) : a = b := by
  cases a with
  | none =>
    cases b with
    | none => rfl
    | some y =>
      obtain ⟨x, hx, _⟩ := h y rfl
      cases hx
  | some x =>
    cases b with
    | none =>
      obtain ⟨y, hy, _⟩ := k x rfl
      cases hy
    | some y =>
      have h1 := LeO.some.mp h
      have h2 := LeO.some.mp k
      rw [show x = y by omega]
theorem LeO.total (a b : Option Int) : LeO a b ∨ LeO b a := by
  cases a with
  | none => exact .inr (LeO.none b)
  | some x =>
    cases b with
    | none => exact .inl (LeO.none _)
    | some y =>
      rcases Int.le_total x y with h | h
      · exact .inl (LeO.some.mpr h)
      · exact .inr (LeO.some.mpr h)
theorem lesO_l (a b : Option Int) : LeO (lesO a b) a := by
  cases a <;> cases b <;> first | exact LeO.none _ | exact LeO.refl _ | (simp only [lesO]; exact LeO.some.mpr (by split <;> omega))
theorem lesO_r (a b : Option Int) : LeO (lesO a b) b := by
  cases a <;> cases b <;> first | exact LeO.none _ | exact LeO.refl _ | (simp only [lesO]; exact LeO.some.mpr (by split <;> omega))
theorem lesO_or (a b : Option Int) : lesO a b = a ∨ lesO a b = b := by
  cases a with
  | none => exact .inr rfl
  | some a =>
    cases b with
    | none => exact .inl rfl
    | some b =>
      simp only [lesO]
      split
      · exact .inr rfl
      · exact .inl rfl
theorem le_lesO {a b c : Option Int} (h : LeO c a) (k : LeO c b) : LeO c (lesO a b) := by
  rcases lesO_or a b with e | e <;> rw [e] <;> assumption
theorem lesO_eq_l {a b : Option Int} (h : LeO a b) : lesO a b = a := by
  refine LeO.anti (lesO_l a b) (le_lesO (LeO.refl a) h)
theorem lesO_eq_r {a b : Option Int} (h : LeO b a) : lesO a b = b := by
  refine LeO.anti (lesO_r a b) (le_lesO h (LeO.refl b))
theorem addO_none (a : Option Int) : addO a none = none := by cases a <;> rfl
theorem addO_mono {a b c d : Option Int} (h : LeO a b) (k : LeO c d) : LeO (addO a c) (addO b d) := by
  cases b with
  | none => exact LeO.none _
  | some y =>
    cases d with
    | none => exact LeO.none _
    | some z =>
      obtain ⟨x, rfl, l1⟩ := h y rfl
      obtain ⟨w, rfl, l2⟩ := k z rfl
      exact LeO.some.mpr (by omega)
theorem addO_comm (a b : Option Int) : addO a b = addO b a := by
  cases a <;> cases b <;> simp only [addO]
  rw [Int.add_comm]
theorem addO_assoc (a b c : Option Int) : addO (addO a b) c = addO a (addO b c) := by
  cases a <;> cases b <;> cases c <;> simp only [addO]
  rw [Int.add_assoc]
theorem addO_zero (a : Option Int) : addO a (some 0) = a := by cases a <;> simp [addO]
theorem addO_some {a b : Option Int} {x : Int} (h : addO a b = some x) : ∃ y z, a = some y ∧ b = some z ∧ x = y + z := by
  cases a <;> cases b <;> simp only [addO] at h <;> cases h
  exact ⟨_, _, rfl, rfl, rfl⟩
/-! ### sums -/
/-- the sum over i, .., i + n - 1 -/
def smO (f : Nat → Option Int) : Nat → Nat → Option Int
  | _, 0 => some 0
  | i, n + 1 => addO (smO f i n) (f (i + n))
theorem smO_add (f : Nat → Option Int) (i n : Nat) : ∀ m, smO f i (n + m) = addO (smO f i n) (smO f (i + n) m)
  | 0 => by simp [smO, addO_zero]
  | m + 1 => by
    rw [← Nat.add_assoc]
    simp only [smO]
    rw [smO_add f i n m, addO_assoc, Nat.add_assoc]
theorem smO_mono {f g : Nat → Option Int} {i : Nat} : ∀ {n : Nat}, (∀ v, i ≤ v → v < i + n → LeO (f v) (g v)) → LeO (smO f i n) (smO g i n)
  | 0, _ => LeO.refl _
  | n + 1, h => addO_mono (smO_mono fun v h1 h2 => h v h1 (by omega)) (h _ (by omega) (by omega))
theorem smO_congr {f g : Nat → Option Int} {i n : Nat} (h : ∀ v, i ≤ v → v < i + n → f v = g v) : smO f i n = smO g i n :=
  LeO.anti (smO_mono fun v h1 h2 => by rw [h v h1 h2]; exact LeO.refl _) (smO_mono fun v h1 h2 => by rw [h v h1 h2]; exact LeO.refl _)
theorem smO_some {f : Nat → Option Int} {i : Nat} : ∀ {n : Nat} {x : Int}, smO f i n = some x → ∀ v, i ≤ v → v < i + n → ∃ y, f v = some y
  | 0, _, _, v, h1, h2 => by omega
  | n + 1, x, h, v, h1, h2 => by
    simp only [smO] at h
    obtain ⟨y, z, hy, hz, _⟩ := addO_some h
    by_cases hv : v = i + n
    · subst hv; exact ⟨z, hz⟩
    · exact smO_some hy v h1 (by omega)
theorem smO_cons (f : Nat → Option Int) (i n : Nat) : smO f i (n + 1) = addO (f i) (smO f (i + 1) n) := by
  rw [Nat.add_comm n 1, smO_add]
  simp only [smO, Nat.add_zero]
  rw [addO_comm (some 0), addO_zero]
/-! ### rows of least costs -/
/-- the least of the earlier number and what a lit day costs behind it -/
def bestO (c : Nat → Option Int) (R : Nat → Option Int) : Nat → Option Int
  | 0 => none
  | j + 1 => addO (lesO (bestO c R j) (R j)) (c j)
theorem bestO_le {c R : Nat → Option Int} {i : Nat} : ∀ {n : Nat}, LeO (bestO c R (i + (n + 1))) (addO (R i) (smO c i (n + 1)))
  | 0 => by
    simp only [smO, Nat.add_zero]
    rw [addO_comm (some 0), addO_zero]
    exact addO_mono (lesO_r _ _) (LeO.refl _)
  | n + 1 => by
    have ih := bestO_le (c := c) (R := R) (i := i) (n := n)
    show LeO (addO (lesO (bestO c R (i + (n + 1))) (R (i + (n + 1)))) (c (i + (n + 1)))) _
    have e : smO c i (n + 1 + 1) = addO (smO c i (n + 1)) (c (i + (n + 1))) := rfl
    rw [e, ← addO_assoc]
    exact addO_mono (LeO.trans (lesO_l _ _) ih) (LeO.refl _)
theorem bestO_get {c R : Nat → Option Int} : ∀ {j : Nat} {x : Int}, bestO c R j = some x → ∃ i, i < j ∧ ∃ a b, R i = some a ∧ smO c i (j - i) = some b ∧ x = a + b
  | 0, x, h => by cases h
  | j + 1, x, h => by
    obtain ⟨y, z, hy, hz, rfl⟩ := addO_some h
    rcases lesO_or (bestO c R j) (R j) with e | e
    · rw [e] at hy
      obtain ⟨i, hi, a, b, h1, h2, rfl⟩ := bestO_get hy
      refine ⟨i, by omega, a, b + z, h1, ?_, by omega⟩
      rw [show j + 1 - i = (j - i) + 1 by omega]
      simp only [smO]
      rw [h2, show i + (j - i) = j by omega, hz]
      rfl
    · rw [e] at hy
      refine ⟨j, by omega, y, z, hy, ?_, rfl⟩
      rw [show j + 1 - j = 0 + 1 by omega]
      simp only [smO, Nat.add_zero, hz]
      simp [addO]
/-- what is wanted, prices, lights -/
structure Shop where
  want : Nat → Int
  p : Nat → Nat → Option Int
  L : Nat → Int
def Shop.c (H : Shop) (s v : Nat) : Option Int := if H.want v = 0 then some 0 else (H.p s v).map fun x => H.want v * x
structure Shop.Ok (H : Shop) (n : Nat) : Prop where
  w : ∀ v, v < n → 0 ≤ H.want v
  l : ∀ s, s < n → 0 ≤ H.L s
  x : ∀ b1 b2 v1 v2, b1 < b2 → b2 < n → v1 < v2 → v2 < n → ∀ x y, H.p b1 v2 = some x → H.p b2 v1 = some y → ∃ z w, H.p b1 v1 = some z ∧ H.p b2 v2 = some w ∧ z + w ≤ x + y
/-- nothing is lit -/
def Shop.non (H : Shop) : Nat → Option Int
  | 0 => some 0
  | j + 1 => if H.want j = 0 then H.non j else none
def Shop.own (H : Shop) (s : Nat) (R : Nat → Option Int) (j : Nat) : Option Int := addO (bestO (H.c s) R j) (some (H.L s))
/-- the lit days, the last one first -/
def Shop.row (H : Shop) : List Nat → Nat → Option Int
  | [], j => H.non j
  | s :: S, j => lesO (H.row S j) (H.own s (H.row S) j)
/-- the least price of a want by some days -/
def Shop.mc (H : Shop) (v : Nat) : List Nat → Option Int
  | [] => none
  | s :: S => lesO (H.mc v S) (H.c s v)
def Shop.mw (H : Shop) (S : List Nat) (v : Nat) : Option Int := if H.want v = 0 then some 0 else H.mc v S
def Shop.lights (H : Shop) : List Nat → Int
  | [] => 0
  | s :: S => H.lights S + H.L s
/-- what a set of lit days costs -/
def Shop.sc (H : Shop) (S : List Nat) (j : Nat) : Option Int := addO (smO (H.mw S) 0 j) (some (H.lights S))
inductive Down : Nat → List Nat → Prop
  | nil {n : Nat} : Down n []
  | cons {n s : Nat} {S : List Nat} (h : s < n) (t : Down s S) : Down n (s :: S)
theorem Down.lt : ∀ {n : Nat} {S : List Nat}, Down n S → ∀ s ∈ S, s < n
  | _, _, .nil, _, h => by cases h
  | n, s :: S, .cons h t, x, hx => by
    rcases List.mem_cons.mp hx with rfl | hx
    · exact h
    · have := t.lt x hx
      omega
theorem Down.up : ∀ {n m : Nat} {S : List Nat}, Down n S → n ≤ m → Down m S
  | _, _, _, .nil, _ => .nil
  | _, _, _, .cons h t, l => .cons (by omega) t
namespace Shop
variable {H : Shop} {n : Nat}
theorem mc_le {v s : Nat} : ∀ {S : List Nat}, s ∈ S → LeO (H.mc v S) (H.c s v)
  | t :: S, h => by
    rcases List.mem_cons.mp h with rfl | h
    · exact lesO_r _ _
    · exact LeO.trans (lesO_l _ _) (mc_le h)
theorem mc_get {v : Nat} : ∀ {S : List Nat} {x : Int}, H.mc v S = some x → ∃ s ∈ S, H.c s v = some x
  | [], x, h => by cases h
  | s :: S, x, h => by
    rcases lesO_or (H.mc v S) (H.c s v) with e | e
    · simp only [mc] at h
      rw [e] at h
      obtain ⟨t, ht, h2⟩ := mc_get h
      exact ⟨t, List.mem_cons_of_mem _ ht, h2⟩
    · simp only [mc] at h
      rw [e] at h
      exact ⟨s, List.mem_cons_self, h⟩
theorem non_eq (H : Shop) : ∀ j, H.non j = H.sc [] j := by
  have key : ∀ j, H.non j = smO (H.mw []) 0 j := by
    intro j
    induction j with
    | zero => rfl
    | succ j ih =>
      simp only [non, smO, Nat.zero_add]
      by_cases h : H.want j = 0
      · rw [if_pos h, ih]
        simp [mw, h, addO_zero]
      · rw [if_neg h]
        simp [mw, h, mc, addO_none]
  intro j
  rw [key]
  simp [sc, lights, addO_zero]
theorem c_some {s v : Nat} {x : Int} (h : H.c s v = some x) (hw : H.want v ≠ 0) : ∃ y, H.p s v = some y ∧ x = H.want v * y := by
  unfold c at h
  rw [if_neg hw, Option.map_eq_some_iff] at h
  obtain ⟨y, h1, h2⟩ := h
  exact ⟨y, h1, h2.symm⟩
theorem c_of {s v : Nat} {y : Int} (h : H.p s v = some y) (hw : H.want v ≠ 0) : H.c s v = some (H.want v * y) := by
  unfold c
  rw [if_neg hw, h]
  rfl
/-- a later day that is better for one want is no worse for the later ones -/
theorem better (ok : H.Ok n) {s : Nat} {S : List Nat} (hs : s < n) (hS : ∀ t ∈ S, t < s) {i v : Nat} (hiv : i < v) (hv : v < n) (wi : H.want i ≠ 0) (wv : H.want v ≠ 0) (hb : ¬ LeO (H.mc i S) (H.c s i)) : LeO (H.c s v) (H.mc v S) := by
  intro a ha
  obtain ⟨t, ht, hc⟩ := mc_get ha
  obtain ⟨x, hx, ex⟩ := c_some hc wv
  cases hsi : H.c s i with
  | none => rw [hsi] at hb; exact absurd (LeO.none _) hb
  | some b =>
    obtain ⟨y, hy, ey⟩ := c_some hsi wi
    obtain ⟨z, w, hz, hw, le⟩ := ok.x t s i v (hS t ht) hs hiv hv x y hx hy
    have pi : 0 < H.want i := by have := ok.w i (by omega); omega
    have pv : 0 < H.want v := by have := ok.w v hv; omega
    have h1 : H.c t i = some (H.want i * z) := c_of hz wi
    have h2 : ¬ (H.want i * z ≤ H.want i * y) := fun q => hb (by
      rw [hsi, ey]
      exact LeO.trans (mc_le ht) (by rw [h1]; exact LeO.some.mpr q))
    have h3 : y < z := by
      rcases Int.lt_or_le y z with q | q
      · exact q
      · exact absurd (Int.mul_le_mul_of_nonneg_left q (Int.le_of_lt pi)) h2
    refine ⟨H.want v * w, c_of hw wv, ?_⟩
    rw [ex]
    exact Int.mul_le_mul_of_nonneg_left (by omega) (Int.le_of_lt pv)
theorem mw_cons {s v : Nat} {S : List Nat} : H.mw (s :: S) v = if H.want v = 0 then some 0 else lesO (H.mc v S) (H.c s v) := rfl
theorem lights_nn (ok : H.Ok n) : ∀ {S : List Nat}, (∀ s ∈ S, s < n) → 0 ≤ H.lights S
  | [], _ => Int.le_refl 0
  | s :: S, h => by
    have h1 := lights_nn ok fun t ht => h t (List.mem_cons_of_mem _ ht)
    have h2 := ok.l s (h s List.mem_cons_self)
    simp only [lights]
    omega
/-- no set of lit days costs less -/
theorem row_le (ok : H.Ok n) : ∀ {S : List Nat} {m : Nat}, Down m S → m ≤ n → ∀ {j : Nat}, j ≤ n → LeO (H.row S j) (H.sc S j)
  | [], _, _, _, j, _ => by
    show LeO (H.non j) _
    rw [non_eq]
    exact LeO.refl _
  | s :: S, m, .cons hs t, hm, j, hj => by
    have ih := fun {k : Nat} (hk : k ≤ n) => row_le ok t (show s ≤ n by omega) hk
    have ls := ok.l s (by omega)
    have St := t.lt
    -- is there a want for which s is better
    by_cases ex : ∃ i, i < j ∧ H.want i ≠ 0 ∧ ¬ LeO (H.mc i S) (H.c s i)
    · obtain ⟨i, ⟨hi, wi, bi⟩, first⟩ : ∃ i, (i < j ∧ H.want i ≠ 0 ∧ ¬ LeO (H.mc i S) (H.c s i)) ∧ ∀ k, k < i → ¬ (k < j ∧ H.want k ≠ 0 ∧ ¬ LeO (H.mc k S) (H.c s k)) := by
        have find : ∀ (P : Nat → Prop) (k : Nat), P k → ∃ i, P i ∧ ∀ l, l < i → ¬ P l := by
          intro P k
          induction k using Nat.strongRecOn with
          | ind k ih =>
            intro hk
            by_cases q : ∃ l, l < k ∧ P l
            · obtain ⟨l, h1, h2⟩ := q
              exact ih l h1 h2
            · exact ⟨k, hk, fun l h1 h2 => q ⟨l, h1, h2⟩⟩
        obtain ⟨k, hk⟩ := ex
        exact find (fun i => i < j ∧ H.want i ≠ 0 ∧ ¬ LeO (H.mc i S) (H.c s i)) k hk
      have below : ∀ v, v < i → H.mw (s :: S) v = H.mw S v := fun v hv => by
        rw [mw_cons]
        unfold mw
        by_cases wv : H.want v = 0
        · rw [if_pos wv, if_pos wv]
        · rw [if_neg wv, if_neg wv]
          refine lesO_eq_l ?_
          rcases Classical.em (LeO (H.mc v S) (H.c s v)) with q | q
          · exact q
          · exact absurd ⟨by omega, wv, q⟩ (first v hv)
      have above : ∀ v, i ≤ v → v < j → H.mw (s :: S) v = H.c s v := fun v h1 h2 => by
        rw [mw_cons]
        by_cases wv : H.want v = 0
        · rw [if_pos wv]
          unfold c
          rw [if_pos wv]
        · rw [if_neg wv]
          refine lesO_eq_r ?_
          by_cases hvi : v = i
          · subst hvi
            rcases LeO.total (H.mc v S) (H.c s v) with q | q
            · exact absurd q bi
            · exact q
          · exact better ok (by omega) St (show i < v by omega) (by omega) wi wv bi
      obtain ⟨k, rfl⟩ : ∃ k, j = i + (k + 1) := ⟨j - i - 1, by omega⟩
      have e1 : H.sc (s :: S) (i + (k + 1)) = addO (addO (H.sc S i) (smO (H.c s) i (k + 1))) (some (H.L s)) := by
        unfold sc
        rw [smO_add, Nat.zero_add, smO_congr (g := H.mw S) fun v _ h2 => below v (by omega), smO_congr (f := H.mw (s :: S)) (g := H.c s) fun v h1 h2 => above v h1 h2]
        have e2 : some (H.lights (s :: S)) = addO (some (H.lights S)) (some (H.L s)) := rfl
        rw [e2]
        simp only [addO_assoc]
        rw [← addO_assoc (smO (H.c s) i (k + 1)), addO_comm (smO (H.c s) i (k + 1)) (some (H.lights S)), addO_assoc]
      rw [e1]
      refine LeO.trans (lesO_r _ _) ?_
      unfold own
      refine addO_mono (LeO.trans bestO_le ?_) (LeO.refl _)
      exact addO_mono (ih (by omega)) (LeO.refl _)
    · have same : ∀ v, v < j → H.mw (s :: S) v = H.mw S v := fun v hv => by
        rw [mw_cons]
        unfold mw
        by_cases wv : H.want v = 0
        · rw [if_pos wv, if_pos wv]
        · rw [if_neg wv, if_neg wv]
          refine lesO_eq_l ?_
          rcases Classical.em (LeO (H.mc v S) (H.c s v)) with q | q
          · exact q
          · exact absurd ⟨v, hv, wv, q⟩ ex
      refine LeO.trans (lesO_l _ _) (LeO.trans (ih hj) ?_)
      unfold sc
      rw [smO_congr (f := H.mw (s :: S)) (g := H.mw S) fun v _ h2 => same v (by omega)]
      refine addO_mono (LeO.refl _) (LeO.some.mpr ?_)
      simp only [lights]
      omega
/-- some of the days come to it -/
theorem row_get : ∀ {S : List Nat} {j : Nat} {x : Int}, H.row S j = some x → ∃ S', S'.Sublist S ∧ LeO (H.sc S' j) (some x)
  | [], j, x, h => ⟨[], List.Sublist.refl _, by
    rw [← non_eq]
    have : H.non j = some x := h
    rw [this]
    exact LeO.refl _⟩
  | s :: S, j, x, h => by
    have h' : lesO (H.row S j) (H.own s (H.row S) j) = some x := h
    rcases lesO_or (H.row S j) (H.own s (H.row S) j) with e | e
    · rw [e] at h'
      obtain ⟨S', h1, h2⟩ := row_get h'
      exact ⟨S', h1.cons s, h2⟩
    · rw [e] at h'
      obtain ⟨y, l, hy, hl, rfl⟩ := addO_some h'
      cases hl
      obtain ⟨i, hi, a, b, h1, h2, rfl⟩ := bestO_get hy
      obtain ⟨S', h3, h4⟩ := row_get h1
      refine ⟨s :: S', h3.cons_cons s, ?_⟩
      obtain ⟨k, rfl⟩ : ∃ k, j = i + k := ⟨j - i, by omega⟩
      rw [show i + k - i = k by omega] at h2
      have e1 : addO (addO (H.sc S' i) (smO (H.c s) i k)) (some (H.L s)) = addO (addO (smO (H.mw S') 0 i) (smO (H.c s) i k)) (some (H.lights (s :: S'))) := by
        unfold sc
        have e2 : some (H.lights (s :: S')) = addO (some (H.lights S')) (some (H.L s)) := rfl
        rw [e2]
        simp only [addO_assoc]
        rw [← addO_assoc (some (H.lights S')), addO_comm (some (H.lights S')) (smO (H.c s) i k), addO_assoc]
      have e3 : LeO (addO (addO (H.sc S' i) (smO (H.c s) i k)) (some (H.L s))) (some (a + b + H.L s)) := by
        rw [h2]
        exact addO_mono (addO_mono h4 (LeO.refl (some b))) (LeO.refl (some (H.L s)))
      refine LeO.trans ?_ e3
      rw [e1]
      unfold sc
      rw [smO_add, Nat.zero_add]
      refine addO_mono (addO_mono (smO_mono fun v _ _ => ?_) (smO_mono fun v _ _ => ?_)) (LeO.refl _)
      · rw [mw_cons]
        unfold mw
        by_cases wv : H.want v = 0
        · rw [if_pos wv, if_pos wv]; exact LeO.refl _
        · rw [if_neg wv, if_neg wv]; exact lesO_l _ _
      · rw [mw_cons]
        by_cases wv : H.want v = 0
        · rw [if_pos wv]; unfold c; rw [if_pos wv]; exact LeO.refl _
        · rw [if_neg wv]; exact lesO_r _ _
end Shop
end Bk
/-! Bk: what the reckoner rewrites by. -/
namespace Bk
open PySem
/-- an equation that is not gone through by its sides' forms -/
theorem nr {α : Sort _} {a b : α} (h : a = b) : a = b := h
theorem b_ok {α β : Type} (a : α) (f : α → Res β) : Res.bind (.ok a) f = f a := nr rfl
theorem b_exc {α β : Type} (c : Nat) (vs : List D) (f : α → Res β) : Res.bind (.exc c vs) f = .exc c vs := nr rfl
section
variable {C : Nat → List D → Res D} {ρ : En} {g : Tg} {c e : E} {b : S} {x y : D}
theorem t_nx {t : S} : thenE C t (.nx ρ) = ex C t ρ := nr rfl
theorem t_rt {t : S} {d : D} : thenE C t (.rt d) = .ok (.rt d) := nr rfl
theorem t_bk {t : S} : thenE C t (.bk ρ) = .ok (.bk ρ) := nr rfl
theorem t_ct {t : S} : thenE C t (.ct ρ) = .ok (.ct ρ) := nr rfl
theorem turn_eq : turn C g b x ρ = (tg1 g x ρ).bind fun ρ' => ex C b ρ' := nr rfl
theorem body_eq : body C b ρ = ex C b ρ := nr rfl
theorem test_eq : test C e ρ = (ev C e ρ).bind boolD := nr rfl
theorem pick_eq : pick C g ρ c e x = (tg1 g x (wipeE ρ g.own)).bind fun ρ' => (evc C c ρ').bind fun b => if b then (ev C e ρ').bind fun d => .ok (some d) else .ok none := nr rfl
theorem own_n {i : Nat} : Tg.own (.n i) = [i] := by simp only [Tg.own]
theorem own_t {t : Tg} : Tg.own (.t t) = t.own := by simp only [Tg.own]
theorem own_nil : Tg.own .nil = [] := by simp only [Tg.own]
theorem own_cons {s t : Tg} : Tg.own (.cons s t) = s.own ++ t.own := by simp only [Tg.own]
theorem wipe_nil : wipeE ρ [] = ρ := rfl
theorem wipe_cons {v : Nat} {vs : List Nat} : wipeE ρ (v :: vs) = (wipeE ρ vs).set v none := rfl
theorem ex_ext {p : E} : ex C (.ext p e) ρ = (ev C e ρ).bind fun x => turnS C p (extD x) ρ := by simp only [ex]
/-! ### changes of one's own lists -/
theorem path_v {i : Nat} : pathE C (.v i) ρ = .ok (i, []) := by simp only [pathE]
theorem path_ix {p i : E} : pathE C (.ix p i) ρ = (pathE C p ρ).bind fun q => (ev C i ρ).bind fun x => (intD x).bind fun j => .ok (q.1, q.2 ++ [j]) := by simp only [pathE]
theorem turnS_eq {p : E} {f : D → Res D} : turnS C p f ρ = (pathE C p ρ).bind fun q => (getS ρ q.1).bind fun d => (turnD f q.2 d).bind fun d' => .ok (.nx (ρ.set q.1 (some d'))) := rfl
theorem turnD_nil {f : D → Res D} : turnD f [] x = f x := by simp only [turnD]
theorem app_ok {xs : List D} (h : xs.length < 16777216) : appD x (.list xs) = .ok (.list (xs ++ [x])) := by simp only [appD, if_pos (show xs.length < most from h)]
theorem ext_ok {xs ys : List D} (h : xs.length + ys.length ≤ 16777216) : extD (.list ys) (.list xs) = .ok (.list (xs ++ ys)) := by simp only [extD, if_pos (show xs.length + ys.length ≤ most from h)]
theorem put_ok {xs : List D} {i : Nat} (h : i < xs.length) : putD (.int i) x (.list xs) = .ok (.list (xs.set i x)) := by simp only [putD, pl_nat, if_pos h]
theorem put_lit {xs : List D} {i : Nat} (h : i < xs.length) : putD (.int (no_index (OfNat.ofNat i))) x (.list xs) = .ok (.list (xs.set i x)) := put_ok h
theorem pau_ok {xs : List D} {i : Nat} {o : BO} {z : D} (h : xs[i]? = some z) : pauD o (.int i) x (.list xs) = (augD o z x).bind fun z => .ok (.list (xs.set i z)) := by
  simp only [pauD, pl_nat, h]
theorem aug_add {i j : Int} : augD .add (.int i) (.int j) = .ok (.int (i + j)) := rfl
theorem aug_sub {i j : Int} : augD .sub (.int i) (.int j) = .ok (.int (i - j)) := rfl
/-! ### branches -/
theorem bind_ite {α β : Type} {p : Prop} [Decidable p] {x y : Res α} {f : α → Res β} : (if p then x else y).bind f = if p then x.bind f else y.bind f := by split <;> rfl
theorem ite_nx {p : Prop} [Decidable p] {r s : En} : (if p then Res.ok (Out.nx r) else Res.ok (Out.nx s)) = Res.ok (Out.nx (if p then r else s)) := by split <;> rfl
theorem ite_okD {p : Prop} [Decidable p] : (if p then (Res.ok x : Res D) else Res.ok y) = Res.ok (if p then x else y) := by split <;> rfl
theorem ite_slot {p : Prop} [Decidable p] {a d : Option D} {r s : En} : (if p then a :: r else d :: s) = (if p then a else d) :: (if p then r else s) := by split <;> rfl
theorem ite_someD {p : Prop} [Decidable p] : (if p then some x else some y) = some (if p then x else y) := by split <;> rfl
theorem ite_int {p : Prop} [Decidable p] {i j : Int} : (if p then PyData.int i else PyData.int j) = .int (if p then i else j) := by split <;> rfl
theorem ite_bool {p : Prop} [Decidable p] {i j : Bool} : (if p then PyData.bool i else PyData.bool j) = .bool (if p then i else j) := by split <;> rfl
end
/-! ### places -/
instance : Inhabited Row := ⟨⟨0, 0, 0, none⟩⟩
instance : Inhabited Good := ⟨⟨[], none⟩⟩
/-- what stands at a place -/
def nth {α : Type} [Inhabited α] (xs : List α) (i : Nat) : α := xs.getD i default
theorem nth_eq {α : Type} [Inhabited α] {xs : List α} {i : Nat} (h : i < xs.length) : nth xs i = xs[i] := by
  unfold nth
  rw [List.getD_eq_getElem?_getD, List.getElem?_eq_getElem h]
  rfl
theorem nth_get {α : Type} [Inhabited α] {xs : List α} {i : Nat} (h : i < xs.length) : xs[i]? = some (nth xs i) := by rw [nth_eq h, List.getElem?_eq_getElem h]
theorem nth_mem {α : Type} [Inhabited α] {xs : List α} {i : Nat} (h : i < xs.length) : nth xs i ∈ xs := by rw [nth_eq h]; exact List.getElem_mem h
theorem nth_none {α : Type} [Inhabited α] {xs : List α} {i : Nat} (h : xs.length ≤ i) : nth xs i = default := by
  unfold nth
  rw [List.getD_eq_getElem?_getD, List.getElem?_eq_none h]
  rfl
theorem nth_map {α β : Type} [Inhabited α] [Inhabited β] {f : α → β} {xs : List α} {i : Nat} (h : i < xs.length) : nth (xs.map f) i = f (nth xs i) := by
  rw [nth_eq (by simpa using h), nth_eq h, List.getElem_map]
theorem nth_range {n i : Nat} (h : i < n) : nth (List.range n) i = i := by
  rw [nth_eq (by simpa using h), List.getElem_range]
theorem nth_cons {α : Type} [Inhabited α] {x : α} {xs : List α} : nth (x :: xs) 0 = x := rfl
theorem ixN {xs : List D} {i : Nat} {d : D} (h : xs[i]? = some d) : ixD (.list xs) (.int i) = .ok d := by simp only [ixD, getD, pl_nat, h]
theorem ixM {α : Type} [Inhabited α] {f : α → D} {xs : List α} {i : Nat} (h : i < xs.length) : ixD (.list (xs.map f)) (.int i) = .ok (f (nth xs i)) := ixN (by rw [List.getElem?_map, nth_get h]; rfl)
theorem ixMt {α : Type} [Inhabited α] {f : α → D} {xs : List α} {i : Nat} (h : i < xs.length) : ixD (.tuple (xs.map f)) (.int i) = .ok (f (nth xs i)) := by
  simp only [ixD, getD, pl_nat, List.getElem?_map, nth_get h, Option.map_some]
theorem ixR {h : Nat → D} {n i : Nat} (hi : i < n) : ixD (.list ((List.range n).map h)) (.int i) = .ok (h i) := by
  rw [ixM (by simpa using hi), nth_range hi]
theorem getN_map {α : Type} [Inhabited α] {f : α → D} {xs : List α} {n : Nat} (h : n < xs.length) : getN (xs.map f) n = .ok (f (nth xs n)) := by
  simp only [getN, List.getElem?_map, nth_get h, Option.map_some]
theorem ix_last {xs : List D} {x : D} : ixD (.list (xs ++ [x])) (.int (-1)) = .ok x := by
  have e : pl (xs ++ [x]).length (-1) = xs.length := by unfold pl; rw [List.length_append, List.length_singleton, if_neg (by omega), if_pos (by omega)]; omega
  simp only [ixD, getD, e, List.getElem?_append_right (Nat.le_refl xs.length), Nat.sub_self, List.getElem?_cons_zero]
theorem ix_lastM {α : Type} [Inhabited α] {f : α → D} {xs : List α} (h : 0 < xs.length) : ixD (.list (xs.map f)) (.int (-1)) = .ok (f (nth xs (xs.length - 1))) := by
  have e : pl xs.length (-1) = xs.length - 1 := by unfold pl; rw [if_neg (by omega), if_pos (by omega)]; omega
  simp only [ixD, getD, List.length_map, e, List.getElem?_map, nth_get (show xs.length - 1 < xs.length by omega), Option.map_some]
theorem ix_row0 (r : Row) : ixD r.d (.int 0) = .ok (.int r.want) := by simp [Row.d]
theorem ix_row1 (r : Row) : ixD r.d (.int 1) = .ok (.int r.loaf) := by simp [Row.d]
theorem ix_row2 (r : Row) : ixD r.d (.int 2) = .ok (.int r.keep) := by simp [Row.d]
theorem ix_row3 (r : Row) : ixD r.d (.int 3) = .ok (optD r.fine) := by simp [Row.d]
theorem ix_good0 (g : Good) : ixD g.d (.int 0) = .ok (.list (g.days.map Row.d)) := by simp [Good.d]
theorem ix_good1 (g : Good) : ixD g.d (.int 1) = .ok (optD g.life) := by simp [Good.d]
theorem ix_bak0 (b : Bak) : ixD b.d (.int 0) = .ok (.list (b.lights.map .int)) := by simp [Bak.d]
theorem ix_bak1 (b : Bak) : ixD b.d (.int 1) = .ok (optD b.bound) := by simp [Bak.d]
theorem ix_bak2 (b : Bak) : ixD b.d (.int 2) = .ok (.list (b.goods.map Good.d)) := by simp [Bak.d]
theorem tg_row {t : Tg} {r : Row} {ρ : En} : tg1 (.t t) r.d ρ = tgs t [.int r.want, .int r.loaf, .int r.keep, optD r.fine] ρ := by simp [Row.d]
theorem tg_good {t : Tg} {g : Good} {ρ : En} : tg1 (.t t) g.d ρ = tgs t [.list (g.days.map Row.d), optD g.life] ρ := by simp [Good.d]
theorem tg_bak {t : Tg} {b : Bak} {ρ : En} : tg1 (.t t) b.d ρ = tgs t [.list (b.lights.map .int), optD b.bound, .list (b.goods.map Good.d)] ρ := by simp [Bak.d]
/-! ### casts together -/
theorem nc_add {a b : Nat} : ((a : Int) + (b : Int)) = ((a + b : Nat) : Int) := by omega
theorem nc_lit {a n : Nat} : ((a : Int) + (no_index (OfNat.ofNat n) : Int)) = ((a + OfNat.ofNat n : Nat) : Int) := by
  have : (OfNat.ofNat n : Int) = ((OfNat.ofNat n : Nat) : Int) := rfl
  rw [this]; omega
theorem nc_litl {a n : Nat} : ((no_index (OfNat.ofNat n) : Int) + (a : Int)) = ((OfNat.ofNat n + a : Nat) : Int) := by
  have : (OfNat.ofNat n : Int) = ((OfNat.ofNat n : Nat) : Int) := rfl
  rw [this]; omega
theorem nc_sub {a b : Nat} (h : b ≤ a) : ((a : Int) - (b : Int)) = ((a - b : Nat) : Int) := by omega
theorem nc_subl {a n : Nat} (h : OfNat.ofNat n ≤ a) : ((a : Int) - (no_index (OfNat.ofNat n) : Int)) = ((a - OfNat.ofNat n : Nat) : Int) := by
  have : (OfNat.ofNat n : Int) = ((OfNat.ofNat n : Nat) : Int) := rfl
  rw [this]; omega
theorem nc_lt {a b : Nat} : ((a : Int) < (b : Int)) = (a < b) := by apply propext; omega
theorem nc_le {a b : Nat} : ((a : Int) ≤ (b : Int)) = (a ≤ b) := by apply propext; omega
theorem nc_eq {a b : Nat} : ((a : Int) = (b : Int)) = (a = b) := by apply propext; omega
/-! ### what a loop walks -/
theorem rngN {n : Nat} (h : n ≤ 8000000) : rngD [.int n] = .ok ((List.range n).map fun (i : Nat) => PyData.int i) := by
  rw [rng_n h, upto_map]
  simp
theorem rngNN {a b : Nat} (h1 : a ≤ 8000000) (h2 : b ≤ 8000000) : rngD [.int a, .int b] = .ok ((List.range (b - a)).map fun (i : Nat) => PyData.int ((a + i : Nat) : Int)) := by
  rw [rng_ab (by omega) (by omega) (by omega) (by omega), upto_map]
  rw [show ((b : Int) - a).toNat = b - a by omega]
  rfl
theorem rngLN {a b : Nat} (h1 : a ≤ 8000000) (h2 : b ≤ 8000000) : rngD [.int (no_index (OfNat.ofNat a)), .int b] = .ok ((List.range (b - a)).map fun (i : Nat) => PyData.int ((a + i : Nat) : Int)) := rngNN h1 h2
def enmM {α : Type} (f : α → D) (xs : List α) : List D := xs.zipIdx.map fun p => .tuple [.int (p.2 : Nat), f p.1]
def zipM {α β : Type} (f : α → D) (g : β → D) (xs : List α) (ys : List β) : List D := (xs.zip ys).map fun p => .tuple [f p.1, g p.2]
theorem enm_map {α : Type} {f : α → D} {xs : List α} : enmD 0 (xs.map f) = enmM f xs := by
  unfold enmM
  apply List.ext_getElem?
  intro i
  rw [List.getElem?_map, List.getElem?_zipIdx]
  cases h : xs[i]? with
  | none =>
    have := List.getElem?_eq_none_iff.mp h
    rw [List.getElem?_eq_none (by rw [enmD_len, List.length_map]; omega)]
    rfl
  | some x =>
    rw [enmD_get _ 0 i (f x) (by rw [List.getElem?_map, h]; rfl)]
    simp
theorem zip_map {α β : Type} {f : α → D} {g : β → D} : ∀ {xs : List α} {ys : List β}, zipD (xs.map f) (ys.map g) = zipM f g xs ys
  | [], ys => by cases ys <;> rfl
  | x :: xs, [] => rfl
  | x :: xs, y :: ys => by
    show PyData.tuple [f x, g y] :: zipD (xs.map f) (ys.map g) = _
    rw [zip_map]
    rfl
theorem enmM_rng {h : Nat → D} {n : Nat} : enmM h (List.range n) = (List.range n).map fun (i : Nat) => .tuple [.int i, h i] := by
  unfold enmM
  apply List.ext_getElem?
  intro i
  rw [List.getElem?_map, List.getElem?_map, List.getElem?_zipIdx]
  by_cases hi : i < n
  · rw [List.getElem?_range hi]
    simp
  · rw [List.getElem?_eq_none (by simpa using hi)]
    rfl
theorem zip_self {α β : Type} {f : α × α → β} {xs : List α} : (xs.zip xs).map f = xs.map fun x => f (x, x) := by
  induction xs with
  | nil => rfl
  | cons x xs ih => simp [ih]
theorem zipM_rng {h k : Nat → D} {n : Nat} : zipM h k (List.range n) (List.range n) = (List.range n).map fun (i : Nat) => .tuple [h i, k i] := zip_self
theorem map_rng {α : Type} [Inhabited α] {h : α → D} {xs : List α} {n : Nat} (l : xs.length = n) : xs.map h = (List.range n).map fun i => h (nth xs i) := by
  subst l
  apply List.ext_getElem?
  intro i
  rw [List.getElem?_map, List.getElem?_map]
  by_cases hi : i < xs.length
  · rw [List.getElem?_range hi, nth_get hi]
    rfl
  · rw [List.getElem?_eq_none (by omega), List.getElem?_eq_none (by simpa using hi)]
    rfl
theorem zipM_l {α : Type} [Inhabited α] {h : α → D} {k : Nat → D} {xs : List α} {n : Nat} (l : xs.length = n) : zipM h k xs (List.range n) = (List.range n).map fun i => .tuple [h (nth xs i), k i] := by
  rw [← zip_map, map_rng l, zip_map, zipM_rng]
theorem zipM_r {α : Type} [Inhabited α] {h : Nat → D} {k : α → D} {xs : List α} {n : Nat} (l : xs.length = n) : zipM h k (List.range n) xs = (List.range n).map fun i => .tuple [h i, k (nth xs i)] := by
  rw [← zip_map, map_rng l, zip_map, zipM_rng]
/-! ### comprehensions -/
/-- a comprehension over what is known to stand there -/
def lcM {α : Type} (xs : List α) (f : (x : α) → x ∈ xs → Res (Option D)) : Res (List D) := match xs, f with
  | [], _ => .ok []
  | x :: xs, f => (f x List.mem_cons_self).bind fun o => (lcM xs fun y h => f y (List.mem_cons_of_mem _ h)).bind fun r => .ok (match o with
    | some d => d :: r
    | none => r)
theorem lc_map {α : Type} {f : D → Res (Option D)} {h : α → D} : ∀ {xs : List α}, lcL f (xs.map h) = lcM xs fun x _ => f (h x)
  | [] => rfl
  | x :: xs => by
    simp only [List.map_cons, lcL, lcM, lc_map] <;> rfl
theorem lc_enm {α : Type} {f : D → Res (Option D)} {h : α → D} {xs : List α} : lcL f (enmM h xs) = lcM xs.zipIdx fun p _ => f (.tuple [.int (p.2 : Nat), h p.1]) := lc_map
theorem lc_zip {α β : Type} {f : D → Res (Option D)} {h : α → D} {k : β → D} {xs : List α} {ys : List β} : lcL f (zipM h k xs ys) = lcM (xs.zip ys) fun p _ => f (.tuple [h p.1, k p.2]) := lc_map
theorem lcl_nil {f : D → Res (Option D)} : lcL f [] = .ok [] := nr rfl
theorem lcl_cons {f : D → Res (Option D)} {x : D} {xs : List D} : lcL f (x :: xs) = (f x).bind fun o => (lcL f xs).bind fun r => .ok (match o with
    | some d => d :: r
    | none => r) := by simp only [lcL] <;> rfl
def loopK (f : D → En → Res Out) (xs : List D) : Out → Res Out := fun o => match o with
  | .nx ρ' => forL f xs ρ'
  | .ct ρ' => forL f xs ρ'
  | .bk ρ' => .ok (.nx ρ')
  | .rt d => .ok (.rt d)
theorem fl_nil {f : D → En → Res Out} {ρ : En} : forL f [] ρ = .ok (.nx ρ) := nr rfl
theorem fl_cons {f : D → En → Res Out} {x : D} {xs : List D} {ρ : En} : forL f (x :: xs) ρ = (f x ρ).bind (loopK f xs) := by simp only [forL] <;> rfl
theorem lk_nx {f : D → En → Res Out} {xs : List D} {ρ : En} : loopK f xs (.nx ρ) = forL f xs ρ := nr rfl
theorem lk_ct {f : D → En → Res Out} {xs : List D} {ρ : En} : loopK f xs (.ct ρ) = forL f xs ρ := nr rfl
theorem lk_bk {f : D → En → Res Out} {xs : List D} {ρ : En} : loopK f xs (.bk ρ) = .ok (.nx ρ) := nr rfl
theorem lk_rt {f : D → En → Res Out} {xs : List D} {d : D} : loopK f xs (.rt d) = .ok (.rt d) := nr rfl
theorem lcM_some {α : Type} {g : α → D} : ∀ {xs : List α}, (lcM xs fun x _ => .ok (some (g x))) = .ok (xs.map g)
  | [] => rfl
  | x :: xs => by simp only [lcM, Res.bind_ok, lcM_some, List.map_cons]
theorem lcM_none {α : Type} : ∀ {xs : List α}, (lcM xs fun _ _ => .ok none) = .ok []
  | [] => rfl
  | x :: xs => by simp only [lcM, Res.bind_ok, lcM_none]
theorem lcM_if {α : Type} {g : α → D} {p : α → Prop} [DecidablePred p] : ∀ {xs : List α}, (lcM xs fun x _ => if p x then .ok (some (g x)) else .ok none) = .ok ((xs.filter fun x => decide (p x)).map g)
  | [] => rfl
  | x :: xs => by
    simp only [lcM, lcM_if, List.filter_cons]
    by_cases h : p x <;> simp [h]
theorem lcM_ifb {α : Type} {g : α → D} {p : α → Bool} : ∀ {xs : List α}, (lcM xs fun x _ => if p x = true then .ok (some (g x)) else .ok none) = .ok ((xs.filter p).map g)
  | [] => rfl
  | x :: xs => by
    simp only [lcM, lcM_ifb, List.filter_cons]
    by_cases h : p x = true <;> simp [h]
/-! ### built-ins over typed lists -/
theorem sum_map {α : Type} {f : α → Int} {xs : List α} : biD .sum [.list (xs.map fun x => .int (f x))] = .ok (.int (xs.map f).sum) := by
  have := sum_i (ns := xs.map f)
  rw [List.map_map] at this
  exact this
theorem all_map {α : Type} {f : α → Bool} {xs : List α} : biD .all [.list (xs.map fun x => .bool (f x))] = .ok (.bool (xs.all f)) := by
  have := all_b (bs := xs.map f)
  rw [List.map_map, List.all_map] at this
  exact this
theorem all_t {α : Type} {xs : List α} : (xs.all fun _ => true) = true := by simp
theorem flat_b {b : Bool} : flat (.bool b) = true := rfl
theorem isi_bl {b : Bool} : isiD (.bool b) .list = false := rfl
theorem isi_bt2 {b : Bool} : isiD (.bool b) .tuple = false := rfl
theorem isi_bi {b : Bool} : isiD (.bool b) .int = true := rfl
theorem not_ok {b : Bool} : Res.not (.ok b) = .ok (!b) := rfl
theorem isi_none {t : Ty} : isiD .none t = false := by cases t <;> rfl
theorem isi_optb {o : Option Int} : isiD (optD o) .bool = false := by cases o <;> rfl
theorem isi_optl {o : Option Int} : isiD (optD o) .list = false := by cases o <;> rfl
theorem isi_optt {o : Option Int} : isiD (optD o) .tuple = false := by cases o <;> rfl
theorem isi_row {r : Row} : isiD r.d .tuple = true := rfl
theorem isi_bb {b : Bool} : isiD (.bool b) .bool = true := rfl
theorem isi_lt {xs : List D} : isiD (.list xs) .tuple = false := rfl
theorem isi_tl {xs : List D} : isiD (.tuple xs) .list = false := rfl
theorem isi_tb {xs : List D} : isiD (.tuple xs) .bool = false := rfl
theorem isi_il {i : Int} : isiD (.int i) .list = false := rfl
theorem isi_it {i : Int} : isiD (.int i) .tuple = false := rfl
theorem isi_lb {xs : List D} : isiD (.list xs) .bool = false := rfl
theorem is_bt {b c : Bool} : cmpD .is (.bool b) (.bool c) = .ok (b == c) := rfl
theorem isn_bt {b c : Bool} : cmpD .isn (.bool b) (.bool c) = .ok (!(b == c)) := rfl
theorem is_nb {b : Bool} : cmpD .is (.bool b) .none = .ok false := rfl
theorem isn_nb {b : Bool} : cmpD .isn (.bool b) .none = .ok true := rfl
theorem is_ln {xs : List D} : cmpD .is (.list xs) .none = .ok false := rfl
theorem isn_ln {xs : List D} : cmpD .isn (.list xs) .none = .ok true := rfl
theorem mul_small {i j : Int} (h : -(2 ^ 64) < i ∧ i < 2 ^ 64) : opD .mul (.int i) (.int j) = .ok (.int (i * j)) := op_mul (.inl h)
theorem op_addLL {xs ys : List D} (h : xs.length + ys.length ≤ 16777216) : opD .add (.list xs) (.list ys) = .ok (.list (xs ++ ys)) := op_addL h
theorem op_addT {x y : D} {xs ys : List D} (h : xs.length + ys.length ≤ 16777000) : opD .add (.tuple (x :: xs)) (.tuple (y :: ys)) = .ok (.tuple (x :: (xs ++ y :: ys))) := by
  have e : (!(x :: xs).isEmpty && !(y :: ys).isEmpty && decide ((x :: xs).length + (y :: ys).length ≤ most)) = true := by
    rw [decide_eq_true (by simp only [List.length_cons, most]; omega)]
    rfl
  simp only [opD, addD, e, if_true]
  rfl
theorem sl_l {xs : List D} {l h : Option Int} : slD (.list xs) l h = .ok (.list (cutL xs l h)) := rfl
theorem sl_t {xs : List D} {l h : Option Int} : slD (.tuple xs) l h = .ok (.tuple (cutL xs l h)) := rfl
theorem cut_nnM {α : Type} {f : α → D} {xs : List α} {i j : Nat} : cutL (xs.map f) (some (i : Int)) (some (j : Int)) = (seg xs i j).map f := by rw [cut_nn, ← seg_map, seg]
theorem cut_0nM {α : Type} {f : α → D} {xs : List α} {j : Nat} : cutL (xs.map f) none (some (j : Int)) = (xs.take j).map f := by rw [cut_0n, List.map_take]
theorem cut_n0M {α : Type} {f : α → D} {xs : List α} {i : Nat} : cutL (xs.map f) (some (i : Int)) none = (xs.drop i).map f := by rw [cut_n0, List.map_drop]
theorem cut_l0M {α : Type} {f : α → D} {xs : List α} {i : Nat} : cutL (xs.map f) (some (no_index (OfNat.ofNat i))) none = (xs.drop i).map f := cut_n0M
theorem cut_0lM {α : Type} {f : α → D} {xs : List α} {j : Nat} : cutL (xs.map f) none (some (no_index (OfNat.ofNat j))) = (xs.take j).map f := cut_0nM
theorem cut_llM {α : Type} {f : α → D} {xs : List α} {i j : Nat} : cutL (xs.map f) (some (no_index (OfNat.ofNat i))) (some (no_index (OfNat.ofNat j))) = (seg xs i j).map f := cut_nnM
theorem cells_ok (nums : List Int) (k : Int) (a b : Nat) (h : b ≤ 1000) : ∃ cells : List Int, cells.length ≤ b - a + 1 ∧ opD .add (.list [.int k]) (.list ((seg nums a b).map .int)) = .ok (.list (cells.map .int)) := by
  have hl : (seg nums a b).length ≤ b - a := by unfold seg; rw [List.length_drop, List.length_take]; omega
  refine ⟨k :: seg nums a b, by simp; omega, op_addLL (by simp; omega)⟩
theorem snoc_map {α : Type} {f : α → D} {xs : List α} {x : α} : xs.map f ++ [f x] = (xs ++ [x]).map f := by rw [List.map_append]; rfl
/-! ### loops over typed lists -/
section
variable {C : Nat → List D → Res D} {t b : S} {ρ : En} {o : Out} {d : D} {g : Tg} {e : E}
theorem loop_map {α : Type} [Inhabited α] {h : α → D} {xs : List α} (E : Nat → En) (h0 : Le (E 0) ρ) (hs : ∀ (i : Nat), i < xs.length → Nx (turn C g b (h (nth xs i)) (E i)) (E (i + 1))) (k : Gives (ex C t (E xs.length)) o) : Gives ((forL (turn C g b) (xs.map h) ρ).bind (thenE C t)) o := by
  refine loop_all E h0 (fun i y hy => ?_) (by rw [List.length_map]; exact k)
  have hl := (List.getElem?_eq_some_iff.mp hy).1
  rw [List.length_map] at hl
  rw [List.getElem?_map, nth_get hl] at hy
  cases hy
  exact hs i hl
theorem loop_rng {h : Nat → D} {n : Nat} (E : Nat → En) (h0 : Le (E 0) ρ) (hs : ∀ (i : Nat), i < n → Nx (turn C g b (h i) (E i)) (E (i + 1))) (k : Gives (ex C t (E n)) o) : Gives ((forL (turn C g b) ((List.range n).map h) ρ).bind (thenE C t)) o := by
  refine loop_map E h0 (fun i hi => ?_) (by rw [List.length_range]; exact k)
  rw [nth_range (by simpa using hi)]
  exact hs i (by simpa using hi)
theorem loop_enm {α : Type} [Inhabited α] {h : α → D} {xs : List α} (E : Nat → En) (h0 : Le (E 0) ρ) (hs : ∀ (i : Nat), i < xs.length → Nx (turn C g b (.tuple [.int i, h (nth xs i)]) (E i)) (E (i + 1))) (k : Gives (ex C t (E xs.length)) o) : Gives ((forL (turn C g b) (enmM h xs) ρ).bind (thenE C t)) o := by
  unfold enmM
  refine loop_map E h0 (fun i hi => ?_) (by rw [List.length_zipIdx]; exact k)
  rw [List.length_zipIdx] at hi
  rw [nth_eq (by simpa using hi), List.getElem_zipIdx, ← nth_eq hi]
  simp only [Nat.zero_add]
  exact hs i hi
theorem loop_zip {α β : Type} [Inhabited α] [Inhabited β] {h : α → D} {h2 : β → D} {xs : List α} {ys : List β} (E : Nat → En) (l : ys.length = xs.length) (h0 : Le (E 0) ρ) (hs : ∀ (i : Nat), i < xs.length → Nx (turn C g b (.tuple [h (nth xs i), h2 (nth ys i)]) (E i)) (E (i + 1))) (k : Gives (ex C t (E xs.length)) o) : Gives ((forL (turn C g b) (zipM h h2 xs ys) ρ).bind (thenE C t)) o := by
  unfold zipM
  refine loop_map E h0 (fun i hi => ?_) (by rw [List.length_zip, l, Nat.min_self]; exact k)
  rw [List.length_zip, l, Nat.min_self] at hi
  rw [nth_eq (by rw [List.length_zip, l, Nat.min_self]; exact hi), List.getElem_zip, ← nth_eq hi, ← nth_eq (xs := ys) (by omega)]
  exact hs i hi
theorem loop_fold {α σ : Type} [Inhabited α] {h : α → D} {xs : List α} (E : σ → En) (st : σ → α → σ) (s0 : σ) (h0 : Le (E s0) ρ) (hs : ∀ s x, x ∈ xs → Nx (turn C g b (h x) (E s)) (E (st s x))) (k : Gives (ex C t (E (xs.foldl st s0))) o) : Gives ((forL (turn C g b) (xs.map h) ρ).bind (thenE C t)) o := by
  refine loop_map (fun i => E ((xs.take i).foldl st s0)) h0 (fun i hi => ?_) (by rw [List.take_length]; exact k)
  rw [List.take_succ_eq_append_getElem hi, List.foldl_append, ← nth_eq hi]
  exact hs _ _ (nth_mem hi)
/-- the first that there is, from k on -/
def firstW (p : Nat → Option (Option D)) : Nat → Nat → Option (Option D)
  | _, 0 => none
  | k, n + 1 => match p k with
    | some d => some d
    | none => firstW p (k + 1) n
def brkO (F : En) : Option (Option D) → Out
  | some (some d) => .rt d
  | _ => .nx F
theorem forL_brk {f : D → En → Res Out} (hf : ∀ (y : D) {P ρ : En}, Le P ρ → RL OLe (f y P) (f y ρ)) (E : Nat → En) (F : En) (p : Nat → Option (Option D)) : ∀ (xs : List D) (k : Nat) (ρ : En), Le (E k) ρ → Le F (E (k + xs.length)) →
    (∀ i y, xs[i]? = some y → match p (k + i) with
      | none => Nx (f y (E (k + i))) (E (k + i + 1))
      | some none => Gives (f y (E (k + i))) (.bk F)
      | some (some d) => Gives (f y (E (k + i))) (.rt d)) → Gives (forL f xs ρ) (brkO F (firstW p k xs.length))
  | [], k, ρ, l, lF, _ => ⟨.nx ρ, rfl, Le.trans lF l⟩
  | y :: ys, k, ρ, l, lF, h => by
    have h1 := h 0 y rfl
    rw [Nat.add_zero] at h1
    have step : ∀ {ρ' : En}, Le (E (k + 1)) ρ' → Gives (forL f ys ρ') (brkO F (firstW p (k + 1) ys.length)) := fun {ρ'} l' =>
      forL_brk hf E F p ys (k + 1) ρ' l' (by rw [show k + 1 + ys.length = k + (ys.length + 1) by omega]; exact lF) fun i z hz => by
        have := h (i + 1) z (by simpa using hz)
        rw [show k + (i + 1) = k + 1 + i by omega] at this
        exact this
    rw [List.length_cons]
    simp only [forL]
    cases hk : p k with
    | some o =>
      rw [hk] at h1
      simp only [firstW, hk]
      cases o with
      | some d =>
        rw [Gives.rt_iff.mp (Gives.mono (f := f y) (fun q => hf y q) h1 l)]
        exact ⟨_, rfl, rfl⟩
      | none =>
        obtain ⟨o2, e2, l2⟩ := Gives.mono (f := f y) (fun q => hf y q) h1 l
        rw [e2]
        cases o2 <;> first | exact l2.elim | exact ⟨_, rfl, l2⟩
    | none =>
      rw [hk] at h1
      simp only [firstW, hk]
      rcases h1 with h1 | h1
      · obtain ⟨o2, e2, l2⟩ := Gives.mono (f := f y) (fun q => hf y q) h1 l
        rw [e2]
        cases o2 <;> first | exact l2.elim | exact step l2
      · obtain ⟨o2, e2, l2⟩ := Gives.mono (f := f y) (fun q => hf y q) h1 l
        rw [e2]
        cases o2 <;> first | exact l2.elim | exact step l2
theorem firstW_get {p : Nat → Option (Option D)} {o : Option D} : ∀ {n k : Nat}, firstW p k n = some o → ∃ j, j < n ∧ p (k + j) = some o ∧ ∀ l, l < j → p (k + l) = none
  | 0, _, h => by cases h
  | n + 1, k, h => by
    cases hk : p k with
    | some d =>
      simp only [firstW, hk] at h
      exact ⟨0, by omega, by rw [Nat.add_zero, hk, h], fun l hl => by omega⟩
    | none =>
      simp only [firstW, hk] at h
      obtain ⟨j, h1, h2, h3⟩ := firstW_get h
      refine ⟨j + 1, by omega, by rw [show k + (j + 1) = k + 1 + j by omega]; exact h2, fun l hl => ?_⟩
      cases l with
      | zero => exact hk
      | succ l => rw [show k + (l + 1) = k + 1 + l by omega]; exact h3 l (by omega)
theorem firstW_some {p : Nat → Option (Option D)} {o : Option D} : ∀ {n k i : Nat}, i < n → p (k + i) = some o → (∀ j, j < i → p (k + j) = none) → firstW p k n = some o
  | 0, _, _, h, _, _ => absurd h (by omega)
  | n + 1, k, 0, _, h1, _ => by rw [Nat.add_zero] at h1; simp only [firstW, h1]
  | n + 1, k, i + 1, h, h1, h2 => by
    have h0 := h2 0 (by omega)
    rw [Nat.add_zero] at h0
    simp only [firstW, h0]
    exact firstW_some (i := i) (by omega) (by rw [show k + 1 + i = k + (i + 1) by omega]; exact h1) fun j hj => by rw [show k + 1 + j = k + (j + 1) by omega]; exact h2 (j + 1) (by omega)
/-- a loop over numbers that may be left, or broken off -/
theorem loop_brk {h : Nat → D} {n : Nat} (E : Nat → En) (F : En) (p : Nat → Option (Option D)) (h0 : Le (E 0) ρ) (hF : Le F (E n)) (hs : ∀ i, i < n → match p i with
      | none => Nx (turn C g b (h i) (E i)) (E (i + 1))
      | some none => Gives (turn C g b (h i) (E i)) (.bk F)
      | some (some d) => Gives (turn C g b (h i) (E i)) (.rt d)) : Gives (forL (turn C g b) ((List.range n).map h) ρ) (brkO F (firstW p 0 n)) := by
  have := forL_brk (fun y {P ρ} l => turn_mono (C := C) g b y l) E F p ((List.range n).map h) 0 ρ h0 (by simpa using hF) fun i y hy => by
    have hl := (List.getElem?_eq_some_iff.mp hy).1
    rw [List.length_map, List.length_range] at hl
    rw [List.getElem?_map, List.getElem?_range hl] at hy
    cases hy
    rw [Nat.zero_add]
    exact hs i hl
  simpa using this
theorem least_i {P : Nat → Prop} {k : Nat} (hk : P k) : ∃ i, i ≤ k ∧ P i ∧ ∀ l, l < i → ¬ P l := by
  induction k using Nat.strongRecOn with
  | ind k ih =>
    by_cases q : ∃ l, l < k ∧ P l
    · obtain ⟨l, h1, h2⟩ := q
      obtain ⟨i, h3, h4, h5⟩ := ih l h1 h2
      exact ⟨i, by omega, h4, h5⟩
    · exact ⟨k, Nat.le_refl k, hk, fun l h1 h2 => q ⟨l, h1, h2⟩⟩
/-- a loop that looks at each, and is left at the first bad one -/
theorem loop_or {h : Nat → D} {n : Nat} (E : En) (P : Nat → Prop) (h0 : Le E ρ) (hb : ∀ i, i < n → P i → Gives (turn C g b (h i) E) (.rt d)) (hg : ∀ i, i < n → ¬ P i → Nx (turn C g b (h i) E) E) :
    ((∃ i, i < n ∧ P i) → Gives ((forL (turn C g b) ((List.range n).map h) ρ).bind (thenE C t)) (.rt d)) ∧ ((¬ ∃ i, i < n ∧ P i) → Gives (ex C t E) o → Gives ((forL (turn C g b) ((List.range n).map h) ρ).bind (thenE C t)) o) := by
  constructor
  · rintro ⟨k, hk, pk⟩
    obtain ⟨i, h1, h2, h3⟩ := least_i (P := P) pk
    refine loop_hit (fun _ => E) h0 i (fun j y hj hy => ?_) (y := h i) (by rw [List.getElem?_map, List.getElem?_range (by omega)]; rfl) (hb i (by omega) h2)
    rw [List.getElem?_map, List.getElem?_range (by omega)] at hy
    cases hy
    exact hg j (by omega) (h3 j hj)
  · intro q k
    exact loop_rng (fun _ => E) h0 (fun i hi => hg i hi fun z => q ⟨i, hi, z⟩) k
/-- the same, where each turn finds something else -/
theorem loop_orE {h : Nat → D} {n : Nat} (E : Nat → En) (P : Nat → Prop) (h0 : Le (E 0) ρ) (hb : ∀ i, i < n → P i → Gives (turn C g b (h i) (E i)) (.rt d)) (hg : ∀ i, i < n → ¬ P i → Nx (turn C g b (h i) (E i)) (E (i + 1))) :
    ((∃ i, i < n ∧ P i) → Gives ((forL (turn C g b) ((List.range n).map h) ρ).bind (thenE C t)) (.rt d)) ∧ ((¬ ∃ i, i < n ∧ P i) → Gives (ex C t (E n)) o → Gives ((forL (turn C g b) ((List.range n).map h) ρ).bind (thenE C t)) o) := by
  constructor
  · rintro ⟨k, hk, pk⟩
    obtain ⟨i, h1, h2, h3⟩ := least_i (P := P) pk
    refine loop_hit E h0 i (fun j y hj hy => ?_) (y := h i) (by rw [List.getElem?_map, List.getElem?_range (by omega)]; rfl) (hb i (by omega) h2)
    rw [List.getElem?_map, List.getElem?_range (by omega)] at hy
    cases hy
    exact hg j (by omega) (h3 j hj)
  · intro q k
    exact loop_rng E h0 (fun i hi => hg i hi fun z => q ⟨i, hi, z⟩) k
theorem Nx.nx {x : Res Out} {P : En} (h : Gives x (.nx P)) : Nx x P := .inl h
theorem gives_ok {P ρ : En} : Gives (.ok (.nx ρ)) (.nx P) = Le P ρ := by
  apply propext
  constructor
  · rintro ⟨o', e, l⟩
    cases e
    exact l
  · exact fun l => ⟨_, rfl, l⟩
theorem nx_ok {P ρ : En} : Nx (.ok (.nx ρ)) P = Le P ρ := by
  apply propext
  constructor
  · rintro (⟨o', e, l⟩ | ⟨o', e, l⟩)
    · cases e; exact l
    · cases e; exact l.elim
  · exact fun l => .inl ⟨_, rfl, l⟩
theorem nx_ct {P ρ : En} : Nx (.ok (.ct ρ)) P = Le P ρ := by
  apply propext
  constructor
  · rintro (⟨o', e, l⟩ | ⟨o', e, l⟩)
    · cases e; exact l.elim
    · cases e; exact l
  · exact fun l => .inr ⟨_, rfl, l⟩
theorem gives_bk {P ρ : En} : Gives (.ok (.bk ρ)) (.bk P) = Le P ρ := by
  apply propext
  constructor
  · rintro ⟨o', e, l⟩
    cases e
    exact l
  · exact fun l => ⟨_, rfl, l⟩
theorem gives_rt {a c : D} : Gives (.ok (.rt a)) (.rt c) = (c = a) := by
  apply propext
  rw [Gives.rt_iff]
  constructor
  · intro h; cases h; rfl
  · intro h; rw [h]
theorem le_nil : Le [] [] = True := rfl
theorem le_none {P ρ : En} {r : Option D} : Le (none :: P) (r :: ρ) = Le P ρ := by simp [Le]
theorem le_same {P ρ : En} {o : Option D} : Le (o :: P) (o :: ρ) = Le P ρ := by simp [Le]
theorem le_some {P ρ : En} {x y : D} : Le (some x :: P) (some y :: ρ) = (x = y ∧ Le P ρ) := by simp [Le]
end
end Bk
local macro_rules | `(tactic| simp_arith [$xs,*]) => `(tactic| simp (config := { failIfUnchanged := false }) (disch := first | assumption | omega | (simp only [List.mem_range] at *; first | assumption | omega) | (simp only [List.length_map, List.length_range, List.length_append, List.length_cons, List.length_nil, List.length_set]; omega)) only [Bk.ex_seq, Bk.t_nx, Bk.t_rt, Bk.t_bk, Bk.t_ct, Bk.ex_nil, Bk.ex_set, Bk.ex_own, Bk.ex_aug, Bk.ex_app, Bk.ex_ext, Bk.ex_put, Bk.ex_pau, Bk.ex_ret, Bk.ex_rtl, Bk.ex_ife, Bk.ex_brk, Bk.ex_cnt, Bk.ex_pas, Bk.ex_exp, Bk.ex_for, Bk.ex_whl, Bk.ev_v, Bk.ev_k, Bk.ev_op, Bk.ev_neg, Bk.ev_cmp, Bk.ev_chn, Bk.ev_and, Bk.ev_or, Bk.ev_not, Bk.ev_ife, Bk.ev_ix, Bk.ev_sl, Bk.ev_rev, Bk.ev_rvt, Bk.ev_tup, Bk.ev_lst, Bk.ev_dct, Bk.ev_call, Bk.ev_cb, Bk.flat_b, Bk.ev_bi, Bk.ev_isi, Bk.ev_lc, Bk.evs_nil, Bk.evs_cons, Bk.evo_nil, Bk.evo_cons, Bk.evc_nil, Bk.evc_cons, Bk.evi_rng, Bk.evi_enm, Bk.evi_zip, Bk.evi_cons, Bk.getS_0, Bk.getS_s, Bk.tg1_n, Bk.tg1_tt, Bk.tg1_tl, Bk.tgs_nil, Bk.tgs_cons, Bk.listD_l, Bk.boolD_b, Bk.intD_i, Bk.b_ok, Bk.b_exc, Bk.turn_eq, Bk.body_eq, Bk.pick_eq, Bk.own_n, Bk.own_t, Bk.own_nil, Bk.own_cons, Bk.wipe_nil, Bk.wipe_cons, Bk.path_v, Bk.path_ix, Bk.turnS_eq, Bk.turnD_nil, Bk.app_ok, Bk.ext_ok, Bk.put_ok, Bk.put_lit, Bk.pau_ok, Bk.aug_add, Bk.aug_sub, Bk.op_add, Bk.op_sub, Bk.op_mod, Bk.op_fdiv, Bk.op_mul, Bk.op_addLL, Bk.op_addT, Bk.neg_i, Bk.cmp_lt, Bk.cmp_le, Bk.cmp_gt, Bk.cmp_ge, Bk.cmp_eq, Bk.cmp_ne, Bk.cmp_eqS, Bk.is_nn, Bk.isn_nn, Bk.is_in, Bk.isn_in, Bk.is_tn, Bk.isn_tn, Bk.is_opt, Bk.isn_opt, Bk.is_bt, Bk.isn_bt, Bk.is_nb, Bk.isn_nb, Bk.is_ln, Bk.isn_ln, Bk.ne_opt, Bk.eq_opt, Bk.ne_bb, Bk.eq_bb, Bk.len_l, Bk.len_t, Bk.max_ii, Bk.min_ii, Bk.int_b, Bk.int_i, Bk.ixR, Bk.ixM, Bk.ixMt, Bk.nth_range, Bk.nth_map, Bk.nth_cons, Bk.ixL_l, Bk.ixL_t, Bk.getN_0, Bk.getN_s, Bk.getN_map, Bk.ix_last, Bk.ix_lastM, Bk.ix_row0, Bk.ix_row1, Bk.ix_row2, Bk.ix_row3, Bk.ix_good0, Bk.ix_good1, Bk.ix_bak0, Bk.ix_bak1, Bk.ix_bak2, Bk.tg_row, Bk.tg_good, Bk.tg_bak, Bk.nc_add, Bk.nc_lit, Bk.nc_litl, Bk.nc_sub, Bk.nc_subl, Bk.nc_lt, Bk.nc_le, Bk.nc_eq, Bk.rngN, Bk.rngNN, Bk.rngLN, Bk.enm_map, Bk.zip_map, Bk.enmM_rng, Bk.zipM_rng, Bk.zipM_l, Bk.zipM_r, Bk.lcl_nil, Bk.lcl_cons, Bk.fl_nil, Bk.fl_cons, Bk.lk_nx, Bk.lk_ct, Bk.lk_bk, Bk.lk_rt, Bk.lc_map, Bk.lc_enm, Bk.lc_zip, Bk.lcM_some, Bk.lcM_none, Bk.lcM_if, Bk.lcM_ifb, Bk.sum_map, Bk.sum_i, Bk.all_map, Bk.all_t, Bk.not_ok, Bk.isi_int, Bk.isi_int_b, Bk.isi_tup, Bk.isi_lst, Bk.isi_none, Bk.isi_optb, Bk.isi_optl, Bk.isi_optt, Bk.isi_row, Bk.isi_bb, Bk.isi_bl, Bk.isi_bt2, Bk.isi_bi, Bk.isi_lt, Bk.isi_tl, Bk.isi_tb, Bk.isi_il, Bk.isi_it, Bk.isi_lb, Bk.revD, Bk.rvtD, Bk.sl_l, Bk.sl_t, Bk.cut_nnM, Bk.cut_0nM, Bk.cut_n0M, Bk.cut_l0M, Bk.cut_0lM, Bk.cut_llM, Bk.optD_n, Bk.optD_s, Bk.ite_nx, Bk.ite_okD, Bk.ite_slot, Bk.ite_someD, Bk.ite_int, Bk.ite_bool, Bk.gives_ok, Bk.gives_bk, Bk.nx_ok, Bk.nx_ct, Bk.gives_rt, Bk.le_nil, Bk.le_none, Bk.le_same, Bk.le_some, List.map_cons, List.map_nil, List.length_cons, List.length_nil, List.length_map, List.length_range, List.length_append, List.replicate_succ, List.replicate_zero, List.cons_append, List.nil_append, List.append_assoc, List.set_cons_zero, List.set_cons_succ, if_true, if_false, ite_true, ite_false, Bool.false_eq_true, Bool.true_eq_false, decide_eq_true_eq, Bool.not_true, Bool.not_false, Bool.and_true, Bool.true_and, Bool.and_false, Bool.false_and, Bool.or_true, Bool.true_or, Bool.or_false, Bool.false_or, Bool.not_eq_true', Bool.not_not, Bool.not_eq_eq_eq_not, decide_eq_false_iff_not, Bool.not_eq_true, Bool.and_eq_true, Bool.or_eq_true, not_true_eq_false, not_false_eq_true, and_true, true_and, and_self, ite_self, eq_self, decide_true, decide_false, Bool.decide_eq_true, bne_self_eq_false, beq_self_eq_true, Int.zero_add, Int.add_zero, Nat.zero_add, Nat.add_zero, Nat.sub_self, Nat.sub_zero, Option.isNone_none, Option.isNone_some, Option.isSome_none, Option.isSome_some, if_pos, if_neg, $xs,*])
local macro_rules | `(tactic| simp_arith [$xs,*] at $h:ident) => `(tactic| simp (config := { failIfUnchanged := false }) (disch := first | assumption | omega | (simp only [List.mem_range] at *; first | assumption | omega) | (simp only [List.length_map, List.length_range, List.length_append, List.length_cons, List.length_nil, List.length_set]; omega)) only [Bk.ex_seq, Bk.t_nx, Bk.t_rt, Bk.t_bk, Bk.t_ct, Bk.ex_nil, Bk.ex_set, Bk.ex_own, Bk.ex_aug, Bk.ex_app, Bk.ex_ext, Bk.ex_put, Bk.ex_pau, Bk.ex_ret, Bk.ex_rtl, Bk.ex_ife, Bk.ex_brk, Bk.ex_cnt, Bk.ex_pas, Bk.ex_exp, Bk.ex_for, Bk.ex_whl, Bk.ev_v, Bk.ev_k, Bk.ev_op, Bk.ev_neg, Bk.ev_cmp, Bk.ev_chn, Bk.ev_and, Bk.ev_or, Bk.ev_not, Bk.ev_ife, Bk.ev_ix, Bk.ev_sl, Bk.ev_rev, Bk.ev_rvt, Bk.ev_tup, Bk.ev_lst, Bk.ev_dct, Bk.ev_call, Bk.ev_cb, Bk.flat_b, Bk.ev_bi, Bk.ev_isi, Bk.ev_lc, Bk.evs_nil, Bk.evs_cons, Bk.evo_nil, Bk.evo_cons, Bk.evc_nil, Bk.evc_cons, Bk.evi_rng, Bk.evi_enm, Bk.evi_zip, Bk.evi_cons, Bk.getS_0, Bk.getS_s, Bk.tg1_n, Bk.tg1_tt, Bk.tg1_tl, Bk.tgs_nil, Bk.tgs_cons, Bk.listD_l, Bk.boolD_b, Bk.intD_i, Bk.b_ok, Bk.b_exc, Bk.turn_eq, Bk.body_eq, Bk.pick_eq, Bk.own_n, Bk.own_t, Bk.own_nil, Bk.own_cons, Bk.wipe_nil, Bk.wipe_cons, Bk.path_v, Bk.path_ix, Bk.turnS_eq, Bk.turnD_nil, Bk.app_ok, Bk.ext_ok, Bk.put_ok, Bk.put_lit, Bk.pau_ok, Bk.aug_add, Bk.aug_sub, Bk.op_add, Bk.op_sub, Bk.op_mod, Bk.op_fdiv, Bk.op_mul, Bk.op_addLL, Bk.op_addT, Bk.neg_i, Bk.cmp_lt, Bk.cmp_le, Bk.cmp_gt, Bk.cmp_ge, Bk.cmp_eq, Bk.cmp_ne, Bk.cmp_eqS, Bk.is_nn, Bk.isn_nn, Bk.is_in, Bk.isn_in, Bk.is_tn, Bk.isn_tn, Bk.is_opt, Bk.isn_opt, Bk.is_bt, Bk.isn_bt, Bk.is_nb, Bk.isn_nb, Bk.is_ln, Bk.isn_ln, Bk.ne_opt, Bk.eq_opt, Bk.ne_bb, Bk.eq_bb, Bk.len_l, Bk.len_t, Bk.max_ii, Bk.min_ii, Bk.int_b, Bk.int_i, Bk.ixR, Bk.ixM, Bk.ixMt, Bk.nth_range, Bk.nth_map, Bk.nth_cons, Bk.ixL_l, Bk.ixL_t, Bk.getN_0, Bk.getN_s, Bk.getN_map, Bk.ix_last, Bk.ix_lastM, Bk.ix_row0, Bk.ix_row1, Bk.ix_row2, Bk.ix_row3, Bk.ix_good0, Bk.ix_good1, Bk.ix_bak0, Bk.ix_bak1, Bk.ix_bak2, Bk.tg_row, Bk.tg_good, Bk.tg_bak, Bk.nc_add, Bk.nc_lit, Bk.nc_litl, Bk.nc_sub, Bk.nc_subl, Bk.nc_lt, Bk.nc_le, Bk.nc_eq, Bk.rngN, Bk.rngNN, Bk.rngLN, Bk.enm_map, Bk.zip_map, Bk.enmM_rng, Bk.zipM_rng, Bk.zipM_l, Bk.zipM_r, Bk.lcl_nil, Bk.lcl_cons, Bk.fl_nil, Bk.fl_cons, Bk.lk_nx, Bk.lk_ct, Bk.lk_bk, Bk.lk_rt, Bk.lc_map, Bk.lc_enm, Bk.lc_zip, Bk.lcM_some, Bk.lcM_none, Bk.lcM_if, Bk.lcM_ifb, Bk.sum_map, Bk.sum_i, Bk.all_map, Bk.all_t, Bk.not_ok, Bk.isi_int, Bk.isi_int_b, Bk.isi_tup, Bk.isi_lst, Bk.isi_none, Bk.isi_optb, Bk.isi_optl, Bk.isi_optt, Bk.isi_row, Bk.isi_bb, Bk.isi_bl, Bk.isi_bt2, Bk.isi_bi, Bk.isi_lt, Bk.isi_tl, Bk.isi_tb, Bk.isi_il, Bk.isi_it, Bk.isi_lb, Bk.revD, Bk.rvtD, Bk.sl_l, Bk.sl_t, Bk.cut_nnM, Bk.cut_0nM, Bk.cut_n0M, Bk.cut_l0M, Bk.cut_0lM, Bk.cut_llM, Bk.optD_n, Bk.optD_s, Bk.ite_nx, Bk.ite_okD, Bk.ite_slot, Bk.ite_someD, Bk.ite_int, Bk.ite_bool, Bk.gives_ok, Bk.gives_bk, Bk.nx_ok, Bk.nx_ct, Bk.gives_rt, Bk.le_nil, Bk.le_none, Bk.le_same, Bk.le_some, List.map_cons, List.map_nil, List.length_cons, List.length_nil, List.length_map, List.length_range, List.length_append, List.replicate_succ, List.replicate_zero, List.cons_append, List.nil_append, List.append_assoc, List.set_cons_zero, List.set_cons_succ, if_true, if_false, ite_true, ite_false, Bool.false_eq_true, Bool.true_eq_false, decide_eq_true_eq, Bool.not_true, Bool.not_false, Bool.and_true, Bool.true_and, Bool.and_false, Bool.false_and, Bool.or_true, Bool.true_or, Bool.or_false, Bool.false_or, Bool.not_eq_true', Bool.not_not, Bool.not_eq_eq_eq_not, decide_eq_false_iff_not, Bool.not_eq_true, Bool.and_eq_true, Bool.or_eq_true, not_true_eq_false, not_false_eq_true, and_true, true_and, and_self, ite_self, eq_self, decide_true, decide_false, Bool.decide_eq_true, bne_self_eq_false, beq_self_eq_true, Int.zero_add, Int.add_zero, Nat.zero_add, Nat.add_zero, Nat.sub_self, Nat.sub_zero, Option.isNone_none, Option.isNone_some, Option.isSome_none, Option.isSome_some, if_pos, if_neg, $xs,*] at $h:ident)
/-! Bk: rows of least costs, as the program reckons them. -/
namespace Bk
open PySem
/-- a plain bakery -/
structure Pl (b : Bak) (g : Good) : Prop where
  ok : b.Ok
  bound : b.bound = none
  goods : b.goods = [g]
theorem Pl.gok {b : Bak} {g : Good} (h : Pl b g) : g.Ok b.lights.length := h.ok.good g (by rw [h.goods]; exact List.mem_singleton.mpr rfl)
theorem Pl.len {b : Bak} {g : Good} (h : Pl b g) : g.days.length = b.lights.length := h.gok.1
def Good.w (g : Good) (v : Nat) : Int := (nth g.days v).want
def Good.shop (g : Good) (ls : List Int) : Shop := ⟨g.w, g.price, nth ls⟩
theorem price_eq {g : Good} {s v : Nat} (h : s < g.days.length) : g.price s v = (g.nights s v).map fun k => (g.days[s]).loaf + k := by
  unfold Good.price
  rw [List.getElem?_eq_getElem h]
  cases g.nights s v <;> rfl
theorem shop_ok {g : Good} {ls : List Int} {m : Nat} (h : g.Ok m) (hl : ls.length = m) (hn : ∀ l ∈ ls, Num l) : (g.shop ls).Ok m where
  w := fun v hv => by
    show 0 ≤ g.w v
    exact (h.2.2 _ (nth_mem (show v < g.days.length by rw [h.1]; exact hv))).1.1
  l := fun s hs => by
    show 0 ≤ nth ls s
    exact (hn _ (nth_mem (by omega))).1
  x := fun b1 b2 v1 v2 h1 h2 h3 h4 x y e1 e2 => by
    have l1 : b1 < g.days.length := by rw [h.1]; omega
    have l2 : b2 < g.days.length := by rw [h.1]; omega
    have p1 : g.price b1 v2 = some x := e1
    have p2 : g.price b2 v1 = some y := e2
    rw [price_eq l1, Option.map_eq_some_iff] at p1
    rw [price_eq l2, Option.map_eq_some_iff] at p2
    obtain ⟨a, ha, rfl⟩ := p1
    obtain ⟨c, hc, rfl⟩ := p2
    obtain ⟨z, w, hz, hw, le⟩ := cross h h1 h3 ha hc
    refine ⟨(g.days[b1]).loaf + z, (g.days[b2]).loaf + w, ?_, ?_, ?_⟩
    · show g.price b1 v1 = _
      rw [price_eq l1, hz]
      rfl
    · show g.price b2 v2 = _
      rw [price_eq l2, hw]
      rfl
    · omega
/-- k numbers of a row -/
def rowL (R : Nat → Option Int) (k : Nat) : List D := (List.range k).map fun j => optD (R j)
theorem rowL_len (R : Nat → Option Int) (k : Nat) : (rowL R k).length = k := by simp [rowL]
theorem rowL_succ (R : Nat → Option Int) (k : Nat) : rowL R (k + 1) = rowL R k ++ [optD (R k)] := by simp [rowL, List.range_succ]
theorem rowL_ix {R : Nat → Option Int} {k j : Nat} (h : j < k) : ixD (.list (rowL R k)) (.int j) = .ok (optD (R j)) := by
  unfold rowL
  rw [ixR h]
theorem rowL_last {R : Nat → Option Int} {k : Nat} : ixD (.list (rowL R (k + 1))) (.int (-1)) = .ok (optD (R k)) := by rw [rowL_succ, ix_last]
theorem rowL_ext {R R' : Nat → Option Int} {k : Nat} (h : ∀ j, j < k → R j = R' j) : rowL R k = rowL R' k := by
  unfold rowL
  refine List.map_congr_left fun j hj => ?_
  rw [h j (List.mem_range.mp hj)]
theorem mul_opt {i : Int} (h : Num i) (o : Option Int) (x : Int) (e : o = some x) : opD .mul (.int i) (optD o) = .ok (.int (i * x)) := by
  subst e
  exact mul_small (by have := h.1; have := h.2; omega)
/-- the first k days, the last one first -/
def downTo : Nat → List Nat
  | 0 => []
  | k + 1 => k :: downTo k
namespace Pr
variable {T : Nat → Option Fn}
theorem is_plain_one_ok (X : Ext T) (n : Nat) {b : Bak} {g : Good} (h : Pl b g) : callN T (n + 1) 23 [b.d] = .ok (.bool true) := by
  refine call_do (X 23 _ rfl) rfl ?_
  simp_arith [f_is_plain_one, c_is_plain_one, h.bound, h.goods]
  rfl
theorem is_plain_ok (X : Ext T) (n : Nat) {b : Bak} {g : Good} (h : Pl b g) : callN T (n + 7) 24 [b.d] = .ok (.bool true) := by
  refine call_do (X 24 _ rfl) rfl ?_
  simp_arith [f_is_plain, c_is_plain, look_at_bakery_ok X n h.ok, is_plain_one_ok X (n + 5) h]
theorem look_at_plain_ok (X : Ext T) (n : Nat) {b : Bak} {g : Good} (h : Pl b g) : callN T (n + 8) 61 [b.d] = .ok .none := by
  refine call_no (P := [some b.d]) (X 61 _ rfl) rfl rfl ?_
  simp_arith [f_look_at_plain, c_look_at_plain, is_plain_ok X n h]
theorem prices_from_ok (X : Ext T) (n : Nat) {g : Good} {s : Nat} (hs : s < g.days.length) (hl : g.days.length ≤ 40) : callN T (n + 3) 62 [g.d, .int s] = .ok (.list ((List.range g.days.length).map fun v => optD (g.price s v))) := by
  refine call_do (X 62 _ rfl) rfl ?_
  simp_arith [f_prices_from, c_prices_from, fun v => price_of_ok X n g s v hs]
theorem wants_from_ok (X : Ext T) (n : Nat) {g : Good} {m : Nat} (h : g.Ok m) (ls : List Int) {s : Nat} (hs : s < m) (hm : m ≤ 40) : callN T (n + 4) 63 [g.d, .int s] = .ok (.list (rowL ((g.shop ls).c s) m)) := by
  have hl := h.1
  refine call_do (X 63 _ rfl) rfl ?_
  simp_arith [f_wants_from, c_wants_from, prices_from_ok X n (g := g) (s := s) (by omega) (by omega)]
  refine loop_rng (fun i => [some g.d, some (.int s), some (.list (rowL ((g.shop ls).c s) i)), none, none]) (by simp_arith [rowL, List.range_zero]) (fun i hi => ?_) ?_
  · have nw := (h.2.2 _ (nth_mem hi)).1
    have lt : (rowL ((g.shop ls).c s) i).length < 16777216 := by rw [rowL_len]; omega
    have e : (g.shop ls).c s i = if (nth g.days i).want = 0 then some 0 else (g.price s i).map fun x => (nth g.days i).want * x := rfl
    by_cases hw : (nth g.days i).want = 0
    · rw [if_pos hw] at e
      simp_arith [b1_wants_from, hw, lt, rowL_succ, e]
    · rw [if_neg hw] at e
      cases hp : g.price s i with
      | none =>
        rw [hp] at e
        simp_arith [b1_wants_from, hw, lt, rowL_succ, e, Option.map_none]
      | some x =>
        rw [hp] at e
        simp_arith [b1_wants_from, hw, lt, rowL_succ, e, Option.map_some, mul_small (show -(2 ^ 64) < (nth g.days i).want ∧ (nth g.days i).want < 2 ^ 64 by have := nw.1; have := nw.2; omega)]
  · simp_arith [hl]
theorem lesser_ok (X : Ext T) (n : Nat) (a b : Option Int) : callN T (n + 1) 64 [optD a, optD b] = .ok (optD (lesO a b)) := by
  refine call_do (X 64 _ rfl) rfl ?_
  cases a <;> cases b <;> simp_arith [f_lesser, c_lesser, lesO]
theorem together_ok (X : Ext T) (n : Nat) (a b : Option Int) : callN T (n + 1) 65 [optD a, optD b] = .ok (optD (addO a b)) := by
  refine call_do (X 65 _ rfl) rfl ?_
  cases a <;> cases b <;> simp_arith [f_together, c_together, addO]
theorem tog_int (X : Ext T) (n : Nat) (a : Option Int) (i : Int) : callN T (n + 1) 65 [optD a, .int i] = .ok (optD (addO a (some i))) := together_ok X n a (some i)
theorem unlit_ok (X : Ext T) (n : Nat) {g : Good} {m : Nat} (h : g.Ok m) (ls : List Int) (hm : m ≤ 40) : callN T (n + 1) 66 [g.d] = .ok (.list (rowL (g.shop ls).non (m + 1))) := by
  have hl := h.1
  refine call_do (X 66 _ rfl) rfl ?_
  simp_arith [f_unlit, c_unlit]
  refine loop_map (fun i => [some g.d, some (.list (rowL (g.shop ls).non (i + 1))), none, none, none, none]) (by simp_arith [rowL, List.range_succ, List.range_zero, Shop.non]) (fun i hi => ?_) ?_
  · have lt : (rowL (g.shop ls).non (i + 1)).length < 16777216 := by rw [rowL_len]; omega
    have e : (g.shop ls).non (i + 1) = if (nth g.days i).want = 0 then (g.shop ls).non i else none := rfl
    by_cases hw : (nth g.days i).want = 0
    · rw [if_pos hw] at e
      simp_arith [b1_unlit, hw, lt, rowL_last, rowL_succ _ (i + 1), e]
    · rw [if_neg hw] at e
      simp_arith [b1_unlit, hw, lt, rowL_succ _ (i + 1), e]
  · simp_arith [hl]
theorem lit_row_ok (X : Ext T) (n : Nat) (H : Shop) (s : Nat) (R : Nat → Option Int) {m : Nat} (hm : m ≤ 40) : callN T (n + 2) 67 [.int (H.L s), .list (rowL (H.c s) m), .list (rowL R (m + 1))] = .ok (.list (rowL (H.own s R) (m + 1))) := by
  refine call_do (X 67 _ rfl) rfl ?_
  have e0 : rowL (H.c s) m = (List.range m).map fun j => optD (H.c s j) := rfl
  simp_arith [f_lit_row, c_lit_row, e0]
  refine loop_rng (fun i => [some (.int (H.L s)), some (.list (rowL (H.c s) m)), some (.list (rowL R (m + 1))), some (.list (rowL (H.own s R) (i + 1))), some (optD (bestO (H.c s) R i)), none, none]) (by simp_arith [rowL, List.range_succ, List.range_zero, Shop.own, bestO, addO]) (fun i hi => ?_) ?_
  · have lt : (rowL (H.own s R) (i + 1)).length < 16777216 := by rw [rowL_len]; omega
    have ix := rowL_ix (R := R) (show i < m + 1 by omega)
    simp_arith [b1_lit_row, ix, lesser_ok X n, together_ok X n, tog_int X n, lt, rowL_succ _ (i + 1)]
    exact ⟨rfl, rfl⟩
  · simp_arith []
theorem known_rows_ok (X : Ext T) (n : Nat) {b : Bak} {g : Good} (h : Pl b g) : callN T (n + 5) 68 [b.d] = .ok (.list ((List.range (b.lights.length + 1)).map fun k => .list (rowL ((g.shop b.lights).row (downTo k)) (b.lights.length + 1)))) := by
  have gok := h.gok
  have few := h.ok.few
  refine call_do (X 68 _ rfl) rfl ?_
  simp_arith [f_known_rows, c_known_rows, h.goods, unlit_ok X (n + 3) gok b.lights few.2]
  refine loop_enm (fun i => [some b.d, some g.d, some (.list ((List.range (i + 1)).map fun k => .list (rowL ((g.shop b.lights).row (downTo k)) (b.lights.length + 1)))), none, none, none, none, none]) (by simp_arith [List.range_succ, List.range_zero]; rfl) (fun i hi => ?_) ?_
  · have lr := lit_row_ok X (n + 2) (g.shop b.lights) i ((g.shop b.lights).row (downTo i)) (m := b.lights.length) few.2
    have wf := wants_from_ok X n gok b.lights hi few.2
    have la : ixD (.list ((List.range (i + 1)).map fun k => PyData.list (rowL ((g.shop b.lights).row (downTo k)) (b.lights.length + 1)))) (.int (-1)) = .ok (.list (rowL ((g.shop b.lights).row (downTo i)) (b.lights.length + 1))) := by
      rw [List.range_succ, List.map_append, List.map_cons, List.map_nil, ix_last]
    have Le : (g.shop b.lights).L i = nth b.lights i := rfl
    rw [Le] at lr
    have e0 : ∀ R : Nat → Option Int, rowL R (b.lights.length + 1) = (List.range (b.lights.length + 1)).map fun j => optD (R j) := fun R => rfl
    simp_arith [b1_known_rows, lr, wf, la]
    simp_arith [e0, lesser_ok X (n + 3), List.range_succ (n := i + 1), List.map_append]
    rfl
  · simp_arith []
theorem least_row_ok (X : Ext T) (n : Nat) {b : Bak} {g : Good} (h : Pl b g) : callN T (n + 9) 71 [b.d] = .ok (.list (rowL (fun k => (g.shop b.lights).row (downTo k) k) (b.lights.length + 1))) := by
  have few := h.ok.few
  refine call_do (X 71 _ rfl) rfl ?_
  have ix : ∀ k i, i < b.lights.length + 1 → ixD (.list (rowL ((g.shop b.lights).row (downTo k)) (b.lights.length + 1))) (.int i) = .ok (optD ((g.shop b.lights).row (downTo k) i)) := fun k i hi => rowL_ix hi
  simp_arith [f_least_row, c_least_row, look_at_plain_ok X n h, known_rows_ok X (n + 3) h, ix]
  rfl
end Pr
end Bk
/-! Bk: rows of least costs: fewer days, one lit day more, prices on wants. -/
namespace Bk
theorem downTo_down : ∀ n, Down n (downTo n)
  | 0 => .nil
  | n + 1 => .cons (Nat.lt_succ_self n) (downTo_down n)
theorem mem_downTo {n s : Nat} : s ∈ downTo n ↔ s < n := by
  induction n with
  | zero => simp [downTo]
  | succ n ih => simp only [downTo, List.mem_cons, ih]; omega
theorem down_sub : ∀ {n : Nat} {S : List Nat}, Down n S → S.Sublist (downTo n)
  | 0, S, h => by
    cases h with
    | nil => exact List.Sublist.refl _
    | cons h t => omega
  | n + 1, S, h => by
    cases h with
    | nil => exact List.nil_sublist _
    | @cons _ s S h t =>
      by_cases e : s = n
      · subst e
        exact (down_sub t).cons_cons s
      · exact (down_sub (.cons (show s < n by omega) t)).cons n
theorem Down.sub {n : Nat} {S S' : List Nat} (h : Down n S) (q : S'.Sublist S) : Down n S' := by
  induction q generalizing n with
  | slnil => exact h
  | cons a q ih =>
    cases h with
    | cons hs t => exact (ih t).up (Nat.le_of_lt hs)
  | cons_cons a q ih =>
    cases h with
    | cons hs t => exact .cons hs (ih t)
theorem bestO_mono {c R R' : Nat → Option Int} : ∀ {j : Nat}, (∀ i, i ≤ j → LeO (R i) (R' i)) → LeO (bestO c R j) (bestO c R' j)
  | 0, _ => LeO.refl _
  | j + 1, h => addO_mono (le_lesO (LeO.trans (lesO_l _ _) (bestO_mono fun i hi => h i (by omega))) (LeO.trans (lesO_r _ _) (h j (by omega)))) (LeO.refl _)
/-- one lit day more, in its place -/
def ins (s : Nat) : List Nat → List Nat
  | [] => [s]
  | t :: S => if s = t then t :: S else if t < s then s :: t :: S else t :: ins s S
theorem mem_ins {s x : Nat} : ∀ {S : List Nat}, x ∈ ins s S ↔ x = s ∨ x ∈ S
  | [] => by simp [ins]
  | t :: S => by
    simp only [ins]
    split
    · rename_i h
      subst h
      simp
    · split
      · simp
      · simp only [List.mem_cons, mem_ins]
        constructor
        · rintro (h | h | h)
          · exact .inr (.inl h)
          · exact .inl h
          · exact .inr (.inr h)
        · rintro (h | h | h)
          · exact .inr (.inl h)
          · exact .inl h
          · exact .inr (.inr h)
theorem ins_down {s : Nat} : ∀ {n : Nat} {S : List Nat}, Down n S → s < n → Down n (ins s S)
  | _, _, .nil, h => .cons h .nil
  | n, t :: S, .cons ht q, h => by
    simp only [ins]
    split
    · exact .cons ht q
    · split
      · rename_i h1 h2
        exact .cons h (.cons h2 q)
      · exact .cons ht (ins_down q (by omega))
namespace Shop
variable {H : Shop} {n : Nat}
theorem row_sub {S S' : List Nat} (h : S.Sublist S') (j : Nat) : LeO (H.row S' j) (H.row S j) := by
  induction h generalizing j with
  | slnil => exact LeO.refl _
  | cons a q ih => exact LeO.trans (lesO_l _ _) (ih j)
  | cons_cons a q ih =>
    refine le_lesO (LeO.trans (lesO_l _ _) (ih j)) (LeO.trans (lesO_r _ _) ?_)
    exact addO_mono (bestO_mono fun i _ => ih i) (LeO.refl _)
theorem lights_ins (ok : H.Ok n) {s : Nat} (hs : s < n) : ∀ {S : List Nat}, H.lights (ins s S) ≤ H.lights S + H.L s
  | [] => by simp [ins, lights]
  | t :: S => by
    have := ok.l s hs
    simp only [ins]
    split
    · omega
    · split
      · simp only [lights]; omega
      · have := lights_ins ok hs (S := S)
        simp only [lights]
        omega
theorem mc_sub {v : Nat} {S S' : List Nat} (h : ∀ s ∈ S, s ∈ S') : LeO (H.mc v S') (H.mc v S) := fun y hy => by
  obtain ⟨s, hs, hc⟩ := mc_get hy
  exact mc_le (h s hs) y hc
theorem mw_sub {v : Nat} {S S' : List Nat} (h : ∀ s ∈ S, s ∈ S') : LeO (H.mw S' v) (H.mw S v) := by
  unfold mw
  split
  · exact LeO.refl _
  · exact mc_sub h
theorem mw_le {v s : Nat} {S : List Nat} (h : s ∈ S) : LeO (H.mw S v) (H.c s v) := by
  unfold mw
  split
  · rename_i hw
    unfold c
    rw [if_pos hw]
    exact LeO.refl _
  · exact mc_le h
/-- no set of the first days, light by light, costs less than the row tells -/
theorem row_min (ok : H.Ok n) {S : List Nat} {k j : Nat} (hS : Down k S) (hk : k ≤ n) (hj : j ≤ n) : LeO (H.row (downTo k) j) (H.sc S j) :=
  LeO.trans (row_sub (down_sub hS) j) (row_le ok hS hk hj)
/-- a lit day more, that bakes for the days behind -/
theorem row_block (ok : H.Ok n) {k i m s : Nat} (hk : k ≤ n) (hj : i + m ≤ n) (hs : s < k) : LeO (H.row (downTo k) (i + m)) (addO (addO (H.row (downTo k) i) (smO (H.c s) i m)) (some (H.L s))) := by
  intro y hy
  obtain ⟨a, l, ha, hl, rfl⟩ := addO_some hy
  cases hl
  obtain ⟨x, b, hx, hb, rfl⟩ := addO_some ha
  obtain ⟨S, h1, h2⟩ := row_get hx
  have dS := (downTo_down k).sub h1
  have dI := ins_down dS hs
  refine LeO.trans (row_min ok dI hk hj) (b := _) ?_ _ rfl
  obtain ⟨x', hx', le⟩ := h2 x rfl
  obtain ⟨p, q, hp, hq, e⟩ := addO_some hx'
  cases hq
  unfold sc
  rw [smO_add, Nat.zero_add]
  have e1 : LeO (smO (H.mw (ins s S)) 0 i) (some p) := by
    rw [← hp]
    exact smO_mono fun v _ _ => mw_sub fun t ht => mem_ins.mpr (.inr ht)
  have e2 : LeO (smO (H.mw (ins s S)) i m) (some b) := by
    rw [← hb]
    exact smO_mono fun v _ _ => mw_le (mem_ins.mpr (.inl rfl))
  have e3 := lights_ins ok (show s < n by omega) (S := S)
  refine LeO.trans (addO_mono (addO_mono e1 e2) (LeO.refl _)) (LeO.some.mpr ?_)
  omega
theorem sc_zero {S : List Nat} {v : Nat} (h : H.want v = 0) : H.sc S (v + 1) = H.sc S v := by
  unfold sc
  simp only [smO, Nat.zero_add]
  have : H.mw S v = some 0 := by unfold mw; rw [if_pos h]
  rw [this, addO_zero]
theorem row_zero (ok : H.Ok n) {k v : Nat} (hk : k ≤ n) (hv : v + 1 ≤ n) (h : H.want v = 0) : H.row (downTo k) (v + 1) = H.row (downTo k) v := by
  refine LeO.anti (fun x hx => ?_) fun x hx => ?_
  · obtain ⟨S, h1, h2⟩ := row_get hx
    have dS := (downTo_down k).sub h1
    exact LeO.trans (row_min ok dS hk hv) (by rw [sc_zero h]; exact h2) x rfl
  · obtain ⟨S, h1, h2⟩ := row_get hx
    have dS := (downTo_down k).sub h1
    exact LeO.trans (row_min ok dS hk (show v ≤ n by omega)) (by rw [← sc_zero h]; exact h2) x rfl
/-- each want can be baked on its own day -/
def Own1 (H : Shop) (n : Nat) : Prop := ∀ v, v < n → ∃ x, H.p v v = some x
theorem c_own {v : Nat} (o : H.Own1 n) (h : v < n) : ∃ x, H.c v v = some x := by
  unfold c
  obtain ⟨x, hx⟩ := o v h
  rw [hx]
  split
  · exact ⟨_, rfl⟩
  · exact ⟨_, rfl⟩
theorem row_some (ok : H.Ok n) (o : H.Own1 n) {k : Nat} (hk : k ≤ n) : ∀ {j : Nat}, j ≤ k → ∃ x, H.row (downTo k) j = some x
  | 0, _ => by
    obtain ⟨x, hx, _⟩ := (row_min ok (.nil : Down k []) hk (j := 0) (by omega)) (0 : Int) (by simp [sc, smO, lights, addO])
    exact ⟨x, hx⟩
  | j + 1, h => by
    obtain ⟨x, hx⟩ := row_some ok o hk (show j ≤ k by omega)
    obtain ⟨y, hy⟩ := c_own o (show j < n by omega)
    have := row_block ok hk (i := j) (m := 1) (s := j) (by omega) (by omega)
    rw [hx] at this
    have e : smO (H.c j) j 1 = some y := by
      simp only [smO, Nat.add_zero]
      rw [hy]
      simp [addO]
    rw [e] at this
    obtain ⟨z, hz, _⟩ := this _ rfl
    exact ⟨z, hz⟩
theorem row_0 (ok : H.Ok n) {k : Nat} (hk : k ≤ n) : H.row (downTo k) 0 = some 0 := by
  refine LeO.anti (LeO.trans (row_min ok (.nil : Down k []) hk (by omega)) (by simp [sc, smO, lights, addO]; exact LeO.refl _)) fun x hx => ?_
  obtain ⟨S, h1, h2⟩ := row_get hx
  obtain ⟨y, hy, le⟩ := h2 x rfl
  have dS := (downTo_down k).sub h1
  have := lights_nn ok (S := S) fun s hs => by have := dS.lt s hs; omega
  refine ⟨0, rfl, ?_⟩
  simp [sc, smO, addO] at hy
  omega
theorem row_congr {H H' : Shop} : ∀ {S : List Nat} {j : Nat}, (∀ s ∈ S, H.L s = H'.L s) → (∀ s ∈ S, ∀ v, v < j → H.c s v = H'.c s v) → (∀ v, v < j → (H.want v = 0 ↔ H'.want v = 0)) → H.row S j = H'.row S j
  | [], j, _, _, hw => by
    show H.non j = H'.non j
    induction j with
    | zero => rfl
    | succ j ih =>
      simp only [non]
      rw [ih (fun _ h => by cases h) fun v hv => hw v (by omega)]
      have := hw j (by omega)
      by_cases h : H.want j = 0
      · rw [if_pos h, if_pos (this.mp h)]
      · rw [if_neg h, if_neg fun q => h (this.mpr q)]
  | s :: S, j, hl, hc, hw => by
    have ih : ∀ i, i ≤ j → H.row S i = H'.row S i := fun i hi => row_congr (fun t ht => hl t (List.mem_cons_of_mem _ ht)) (fun t ht v hv => hc t (List.mem_cons_of_mem _ ht) v (by omega)) fun v hv => hw v (by omega)
    have ib : ∀ i, i ≤ j → bestO (H.c s) (H.row S) i = bestO (H'.c s) (H'.row S) i := by
      intro i
      induction i with
      | zero => intro _; rfl
      | succ i ih2 =>
        intro hi
        simp only [bestO]
        rw [ih2 (by omega), ih i (by omega), hc s List.mem_cons_self i (by omega)]
    simp only [row, own]
    rw [ih j (Nat.le_refl j), ib j (Nat.le_refl j), hl s List.mem_cons_self]
/-- the row as whole numbers -/
def R (H : Shop) (k j : Nat) : Int := (H.row (downTo k) j).getD 0
theorem R_eq (ok : H.Ok n) (o : H.Own1 n) {k j : Nat} (hk : k ≤ n) (hj : j ≤ k) : H.row (downTo k) j = some (H.R k j) := by
  obtain ⟨x, hx⟩ := row_some ok o hk hj
  unfold R
  rw [hx]
  rfl
theorem R_block (ok : H.Ok n) (o : H.Own1 n) {k i m s : Nat} (hk : k ≤ n) (hj : i + m ≤ k) (hs : s < k) {x : Int} (hx : smO (H.c s) i m = some x) : H.R k (i + m) ≤ H.R k i + x + H.L s := by
  have := row_block ok hk (i := i) (m := m) (s := s) (by omega) hs
  rw [R_eq ok o hk hj, R_eq ok o hk (show i ≤ k by omega), hx] at this
  exact LeO.some.mp this
theorem R_zero (ok : H.Ok n) (o : H.Own1 n) {k v : Nat} (hk : k ≤ n) (hv : v < k) (h : H.want v = 0) : H.R k (v + 1) = H.R k v := by
  unfold R
  rw [row_zero ok hk (by omega) h]
end Shop
theorem own1 {g : Good} {ls : List Int} {m : Nat} (h : g.Ok m) : (g.shop ls).Own1 m := fun v hv => by
  have l1 : v < g.days.length := by rw [h.1]; exact hv
  show ∃ x, g.price v v = some x
  rw [price_eq l1]
  unfold Good.nights
  rw [if_pos (Nat.le_refl v)]
  have e : nAhead g.days g.life v v = some (sm Row.keep g.days v v) := nAhead_iff.mpr ⟨by
    unfold within
    cases hl : g.life with
    | none => trivial
    | some l =>
      have := h.2.1
      rw [hl] at this
      have := this.1
      show (v : Int) - v ≤ l
      omega, rfl⟩
  rw [e]
  exact ⟨_, rfl⟩
theorem price_own {g : Good} {m v : Nat} (h : g.Ok m) (hv : v < m) : g.price v v = some (nth g.days v).loaf := by
  have l1 : v < g.days.length := by rw [h.1]; exact hv
  rw [price_eq l1]
  unfold Good.nights
  rw [if_pos (Nat.le_refl v)]
  have e : nAhead g.days g.life v v = some (sm Row.keep g.days v v) := nAhead_iff.mpr ⟨by
    unfold within
    cases hl : g.life with
    | none => trivial
    | some l =>
      have := h.2.1
      rw [hl] at this
      have := this.1
      show (v : Int) - v ≤ l
      omega, rfl⟩
  rw [e]
  have z : sm Row.keep g.days v v = 0 := by unfold sm; rw [seg_nil _ (Nat.le_refl v)]; rfl
  rw [z, nth_eq l1]
  simp
/-- prices are not below nought -/
theorem price_nn {g : Good} {m s v : Nat} (h : g.Ok m) (hs : s < m) {x : Int} (e : g.price s v = some x) : 0 ≤ x := by
  have l1 : s < g.days.length := by rw [h.1]; exact hs
  rw [price_eq l1, Option.map_eq_some_iff] at e
  obtain ⟨k, hk, rfl⟩ := e
  have lf := (h.2.2 _ (List.getElem_mem l1)).2.1.1
  have : 0 ≤ k := by
    unfold Good.nights at hk
    split at hk
    · obtain ⟨_, rfl⟩ := nAhead_iff.mp hk
      exact sm_nn (fun r hr => (h.2.2 r hr).2.2.1.1) _ _
    · obtain ⟨_, rfl⟩ := nBehind_iff.mp hk
      refine sm_nn (fun r hr => ?_) _ _
      have := (h.2.2 r hr).2.2.2
      unfold Row.fz
      cases hf : r.fine with
      | none => simp
      | some f => rw [hf] at this; exact this.1
  omega
end Bk
/-! Bk: what the laws over plain bakeries share. -/
namespace Bk
open PySem
theorem below3 {ds : List Int} {s0 s1 s2 : Int} (h : Below ds [s0, s1, s2]) : ∃ a b c : Int, ds = [a, b, c] ∧ (0 ≤ a ∧ a < s0) ∧ (0 ≤ b ∧ b < s1) ∧ (0 ≤ c ∧ c < s2) := by
  match ds, h with
  | [a, b, c], h => exact ⟨a, b, c, rfl, h.1, h.2.1, h.2.2.1⟩
theorem below1 {ds : List Int} {s0 : Int} (h : Below ds [s0]) : ∃ a : Int, ds = [a] ∧ 0 ≤ a ∧ a < s0 := by
  match ds, h with
  | [a], h => exact ⟨a, rfl, h.1⟩
theorem in_optsM {α : Type} {f : α → Option Int} {xs : List α} : cmpD .isin .none (.list (xs.map fun x => optD (f x))) = .ok (xs.any fun x => (f x).isNone) := by
  have := in_opts (xs.map f)
  rw [List.map_map, List.any_map] at this
  exact this
theorem sum_optM {α : Type} {f : α → Option Int} {xs : List α} (h : (xs.any fun x => (f x).isNone) = false) : biD .sum [.list (xs.map fun x => optD (f x))] = .ok (.int (xs.map fun x => (f x).getD 0).sum) := by
  have e : (xs.map fun x => optD (f x)) = xs.map fun x => PyData.int ((f x).getD 0) := by
    refine List.map_congr_left fun x hx => ?_
    cases hf : f x with
    | none =>
      have : (xs.any fun x => (f x).isNone) = true := List.any_eq_true.mpr ⟨x, hx, by rw [hf]; rfl⟩
      rw [this] at h
      cases h
    | some i => rfl
  rw [e, sum_map]
theorem nBehind_none {ds : List Row} {b v : Nat} (h : ((seg ds v b).any fun r => r.fine.isNone) = true) : nBehind ds b v = none := by
  unfold nBehind
  refine optSum_none ?_
  rw [List.any_map]
  exact h
theorem nBehind_some {ds : List Row} {b v : Nat} (h : ((seg ds v b).any fun r => r.fine.isNone) = false) : nBehind ds b v = some ((seg ds v b).map fun r => r.fine.getD 0).sum := by
  refine nBehind_iff.mpr ⟨fun r hr q => ?_, rfl⟩
  have : ((seg ds v b).any fun r => r.fine.isNone) = true := List.any_eq_true.mpr ⟨r, hr, by rw [q]; rfl⟩
  rw [this] at h
  cases h
mutual
/-- lists n deep at most, without tuples and texts -/
def listy : Nat → D → Bool
  | _, .none => true
  | _, .bool _ => true
  | _, .int _ => true
  | n + 1, .list xs => listys n xs
  | _, _ => false
def listys : Nat → List D → Bool
  | _, [] => true
  | n, x :: xs => listy n x && listys n xs
end
theorem listys_mem : ∀ {n : Nat} {xs : List D}, listys n xs = true → ∀ x ∈ xs, listy n x = true
  | n, y :: ys, h, x, hx => by
    simp only [listys, Bool.and_eq_true] at h
    rcases List.mem_cons.mp hx with rfl | hx
    · exact h.1
    · exact listys_mem h.2 x hx
theorem listys_map {α : Type} {n : Nat} {h : α → D} : ∀ {xs : List α}, (∀ x ∈ xs, listy n (h x) = true) → listys n (xs.map h) = true
  | [], _ => by simp [listys]
  | x :: xs, hx => by simp [listys, hx x List.mem_cons_self, listys_map fun y hy => hx y (List.mem_cons_of_mem _ hy)]
theorem lc_same {f : D → Res (Option D)} : ∀ {xs : List D}, (∀ x ∈ xs, f (.tuple [x, x]) = .ok (some (.bool true))) → lcL f (zipD xs xs) = .ok (xs.map fun _ => .bool true)
  | [], _ => rfl
  | x :: xs, h => by
    simp only [zipD, lcL, h x List.mem_cons_self, Res.bind_ok, lc_same fun y hy => h y (List.mem_cons_of_mem _ hy), List.map_cons]
theorem eq_flat {d : D} (h : listy 0 d = true) : cmpD .eq d d = .ok true := by
  cases d <;> first | (simp [listy] at h; done) | skip
  · rw [cmp_eqD sh_none sh_none, PyData.eqv]
  · simp
  · simp
namespace Pr
variable {T : Nat → Option Fn}
theorem law_bakery_ok (X : Ext T) (n : Nat) (ns : List Int) (upt : Nat) (salt : Int) (h0 : 0 ≤ salt) (h1 : salt ≤ 800000) (hu : 2 ≤ upt ∧ upt ≤ 41) :
    ∃ (b : Bak) (g : Good), callN T (n + 3) 69 [.list (ns.map .int), .int upt, .int salt] = .ok b.d ∧ Pl b g ∧ b.lights.length = max 2 (min upt ns.length) - 1 := by
  obtain ⟨hd, e1, bl⟩ := numbers_ok X (n + 1) (cellAt ns 0) salt [3, 12, 2] h0 (by omega) (by decide) (by decide)
  obtain ⟨a, b, c, rfl, ha, hb, hc⟩ := below3 bl
  have ec : callN T (n + 2) 11 [.list (ns.map .int), .int 0] = .ok (.int (cellAt ns 0)) := cell_at_ok X (n + 1) ns 0
  obtain ⟨ls, rs, e2, k1, k2, k3, k4⟩ := days_ok X n ns 1 upt salt (decide (c = 1)) h0 (by omega) (by omega) (by omega)
  obtain ⟨l1, m1, i1⟩ := opt_at (os := lives) hb.1 (by simp [lives]; omega)
  have e1' : callN T (n + 2) 4 [.int (cellAt ns 0), .int salt, .list [.int 3, .int 12, .int 2]] = .ok (.list [.int a, .int b, .int c]) := e1
  have i1' : ixD (.list [.none, .none, .int 0, .int 1, .int 2, .int 3, .int 4, .int 5, .int 7, .int 11, .int 23, .int 40]) (.int b) = .ok (optD l1) := i1
  have e2' : callN T (n + 2) 13 [.list (ns.map .int), .int 1, .int upt, .int salt, .bool (decide (c = 1))] = .ok (.tuple [.list (ls.map .int), .list (rs.map Row.d)]) := e2
  refine ⟨⟨ls, none, [⟨rs, l1⟩]⟩, ⟨rs, l1⟩, call_do (X 69 _ rfl) rfl ?_, ⟨⟨⟨by show 1 ≤ ls.length; omega, by show ls.length ≤ 40; omega⟩, k3, trivial, ⟨by simp, by simp⟩, ?_⟩, rfl, rfl⟩, by show ls.length = _; omega⟩
  · simp_arith [f__law_bakery, c__law_bakery, ec, e1', e2', i1']
    rfl
  · intro g hg
    rw [List.mem_singleton] at hg
    subst hg
    exact ⟨k2, life_ok m1, k4⟩
theorem law_price_ok (X : Ext T) (n : Nat) (g : Good) (s v : Nat) (hs : s < g.days.length) : callN T (n + 1) 53 [g.d, .int s, .int v] = .ok (optD (g.price s v)) := by
  refine call_do (X 53 _ rfl) rfl ?_
  rw [price_eq hs, ← nth_eq hs]
  simp_arith [f__law_price, c__law_price]
  by_cases h : v < s
  · have nt : g.nights s v = nBehind g.days s v := if_neg (by omega)
    rw [nt]
    cases ha : (seg g.days v s).any fun r => r.fine.isNone with
    | true =>
      rw [nBehind_none ha]
      simp_arith [h, in_optsM, ha, Option.map_none]
    | false =>
      rw [nBehind_some ha]
      simp_arith [h, in_optsM, ha, Option.map_some, sum_optM]
  · have nt : g.nights s v = nAhead g.days g.life s v := if_pos (by omega)
    rw [nt]
    unfold nAhead
    cases hl : g.life with
    | none => simp_arith [h, Option.map_some]
    | some l =>
      have c : ((v : Int) - s > l) = (l < (v : Int) - s) := rfl
      by_cases h2 : l < (v : Int) - s
      · simp_arith [h, h2, c, Option.map_none, nc_sub (show s ≤ v by omega)]
      · simp_arith [h, h2, c, Option.map_some]
theorem same_ok (X : Ext T) : ∀ (k n : Nat) (d : D), listy k d = true → callN T (n + k + 1) 60 [d, d] = .ok (.bool true)
  | k, n, .none, _ => by
    refine call_do (X 60 _ rfl) rfl ?_
    simp_arith [f__law_same, c__law_same, eq_flat (d := .none) rfl]
  | k, n, .bool b, _ => by
    refine call_do (X 60 _ rfl) rfl ?_
    simp_arith [f__law_same, c__law_same, eq_flat (d := .bool b) (by simp [listy])]
  | k, n, .int i, _ => by
    refine call_do (X 60 _ rfl) rfl ?_
    simp_arith [f__law_same, c__law_same]
  | 0, n, .list xs, h => by simp [listy] at h
  | k + 1, n, .list xs, h => by
    refine call_do (X 60 _ rfl) rfl ?_
    have h' := listys_mem (n := k) (xs := xs) (by simpa [listy] using h)
    have ih : ∀ x ∈ xs, callN T (n + (k + 1)) 60 [x, x] = .ok (.bool true) := fun x hx => same_ok X k n x (h' x hx)
    have lc : ∀ a b : D, lcL (pick (callN T (n + (k + 1))) (.t (.cons (.n 2) (.cons (.n 3) .nil))) [some a, some b, none, none] .nil (.call 60 (.cons (.v 2) (.cons (.v 3) .nil)))) (zipD xs xs) = .ok (xs.map fun _ => .bool true) := fun a b => lc_same fun x hx => by
      simp_arith [ih x hx]
    simp_arith [f__law_same, c__law_same, lc]
  | 0, n, .tuple _, h => by simp [listy] at h
  | k + 1, n, .tuple _, h => by simp [listy] at h
  | 0, n, .str _, h => by simp [listy] at h
  | k + 1, n, .str _, h => by simp [listy] at h
  | 0, n, .dict _, h => by simp [listy] at h
  | k + 1, n, .dict _, h => by simp [listy] at h
/-- the first days alone -/
theorem law_first_ok (X : Ext T) (n : Nat) {b : Bak} {g : Good} (h : Pl b g) (k : Nat) : callN T (n + 1) 72 [b.d, .int k] = .ok (Bak.d ⟨b.lights.take k, none, [⟨g.days.take k, g.life⟩]⟩) := by
  refine call_do (X 72 _ rfl) rfl ?_
  simp_arith [f__law_first, c__law_first, h.bound, h.goods]
  rfl
end Pr
theorem pl_first {b : Bak} {g : Good} (h : Pl b g) {k : Nat} (h1 : 1 ≤ k) (h2 : k ≤ b.lights.length) : Pl ⟨b.lights.take k, none, [⟨g.days.take k, g.life⟩]⟩ ⟨g.days.take k, g.life⟩ := by
  have few := h.ok.few
  have l : (b.lights.take k).length = k := by rw [List.length_take]; omega
  have gok := h.gok
  refine ⟨⟨by show 1 ≤ (b.lights.take k).length ∧ (b.lights.take k).length ≤ 40; omega, fun x hx => h.ok.lit x (List.mem_of_mem_take hx), trivial, by simp, ?_⟩, rfl, rfl⟩
  intro g' hg
  rw [List.mem_singleton] at hg
  subst hg
  refine ⟨?_, gok.2.1, fun r hr => gok.2.2 r (List.mem_of_mem_take hr)⟩
  show (g.days.take k).length = (b.lights.take k).length
  rw [l, List.length_take, gok.1]
  omega
theorem nth_take {α : Type} [Inhabited α] {xs : List α} {i k : Nat} (h : i < k) : nth (xs.take k) i = nth xs i := by
  unfold nth
  rw [List.getD_eq_getElem?_getD, List.getD_eq_getElem?_getD, List.getElem?_take, if_pos h]
theorem seg_take {α : Type} {xs : List α} {i j k : Nat} (h : j ≤ k) : seg (xs.take k) i j = seg xs i j := by
  unfold seg
  rw [List.take_take, Nat.min_eq_left h]
theorem price_first {g : Good} {k s v : Nat} (hs : s < k) (hv : v < k) (hl : s < g.days.length) : (⟨g.days.take k, g.life⟩ : Good).price s v = g.price s v := by
  rw [price_eq hl, price_eq (g := ⟨g.days.take k, g.life⟩) (s := s) (by show s < (g.days.take k).length; rw [List.length_take]; omega)]
  have e1 : (⟨g.days.take k, g.life⟩ : Good).nights s v = g.nights s v := by
    unfold Good.nights nAhead nBehind
    simp only [seg_take (Nat.le_of_lt hv), seg_take (Nat.le_of_lt hs)]
  rw [e1]
  congr 1
  funext z
  simp
/-- the row of the first days alone is the row's beginning -/
theorem row_first {b : Bak} {g : Good} (h : Pl b g) {k i j : Nat} (hi : i ≤ k) (hj : j ≤ k) (h2 : k ≤ b.lights.length) : ((⟨g.days.take k, g.life⟩ : Good).shop (b.lights.take k)).row (downTo i) j = (g.shop b.lights).row (downTo i) j := by
  have hl := h.len
  have w : ∀ v, v < k → ((⟨g.days.take k, g.life⟩ : Good).shop (b.lights.take k)).want v = (g.shop b.lights).want v := fun v hv => by
    show (nth (g.days.take k) v).want = (nth g.days v).want
    rw [nth_take hv]
  refine Shop.row_congr (fun s hs => ?_) (fun s hs v hv => ?_) fun v hv => ?_
  · have := mem_downTo.mp hs
    show nth (b.lights.take k) s = nth b.lights s
    rw [nth_take (by omega)]
  · have := mem_downTo.mp hs
    unfold Shop.c
    rw [w v (by omega)]
    show (if _ then _ else ((⟨g.days.take k, g.life⟩ : Good).price s v).map _) = (if _ then _ else (g.price s v).map _)
    rw [price_first (by omega) (by omega) (by omega)]
  · rw [w v (by omega)]
/-! ### the row in whole numbers -/
def lr (b : Bak) (g : Good) (k : Nat) : Int := (g.shop b.lights).R k k
theorem pl_ok {b : Bak} {g : Good} (h : Pl b g) : (g.shop b.lights).Ok b.lights.length := shop_ok h.gok rfl h.ok.lit
theorem pl_own {b : Bak} {g : Good} (h : Pl b g) : (g.shop b.lights).Own1 b.lights.length := own1 h.gok
def lrD (b : Bak) (g : Good) : List D := (List.range (b.lights.length + 1)).map fun k => .int (lr b g k)
theorem row_int {b : Bak} {g : Good} (h : Pl b g) {k j : Nat} (hk : k ≤ b.lights.length) (hj : j ≤ k) : (g.shop b.lights).row (downTo k) j = some ((g.shop b.lights).R k j) := Shop.R_eq (pl_ok h) (pl_own h) hk hj
theorem lr_first {b : Bak} {g : Good} (h : Pl b g) {k j : Nat} (hj : j ≤ k) (h2 : k ≤ b.lights.length) : lr ⟨b.lights.take k, none, [⟨g.days.take k, g.life⟩]⟩ ⟨g.days.take k, g.life⟩ j = lr b g j := by
  unfold lr Shop.R
  show (((⟨g.days.take k, g.life⟩ : Good).shop (b.lights.take k)).row (downTo j) j).getD 0 = _
  rw [row_first h hj hj h2]
theorem lr_0 {b : Bak} {g : Good} (h : Pl b g) : lr b g 0 = 0 := by
  have := row_int h (k := 0) (j := 0) (by omega) (by omega)
  rw [Shop.row_0 (pl_ok h) (by omega)] at this
  cases this
  show (g.shop b.lights).R 0 0 = 0
  unfold Shop.R
  rw [Shop.row_0 (pl_ok h) (by omega)]
  rfl
theorem lr_step {b : Bak} {g : Good} (h : Pl b g) {k : Nat} (hk : k < b.lights.length) : lr b g (k + 1) ≤ lr b g k + nth b.lights k + (nth g.days k).want * (nth g.days k).loaf := by
  have e1 := row_int h (k := k + 1) (j := k + 1) (by omega) (by omega)
  have e0 := row_int h (k := k) (j := k) (by omega) (by omega)
  have c : (g.shop b.lights).c k k = some ((nth g.days k).want * (nth g.days k).loaf) := by
    unfold Shop.c
    show (if (nth g.days k).want = 0 then some 0 else (g.price k k).map fun x => (nth g.days k).want * x) = _
    rw [price_own h.gok hk]
    split
    · rename_i hw; rw [hw]; simp
    · rfl
  have le : LeO ((g.shop b.lights).row (downTo (k + 1)) (k + 1)) (addO (addO ((g.shop b.lights).row (downTo k) k) (smO ((g.shop b.lights).c k) k 1)) (some ((g.shop b.lights).L k))) :=
    LeO.trans (lesO_r _ _) (addO_mono (bestO_le (n := 0)) (LeO.refl _))
  have s1 : smO ((g.shop b.lights).c k) k 1 = some ((nth g.days k).want * (nth g.days k).loaf) := by
    simp only [smO, Nat.add_zero]
    rw [c]
    simp [addO]
  rw [e1, e0, s1] at le
  have := LeO.some.mp le
  have l : (g.shop b.lights).L k = nth b.lights k := rfl
  rw [l] at this
  show (g.shop b.lights).R (k + 1) (k + 1) ≤ (g.shop b.lights).R k k + _ + _
  omega
theorem lr_none {b : Bak} {g : Good} (h : Pl b g) {k : Nat} (hk : k < b.lights.length) (hw : (nth g.days k).want = 0) : lr b g (k + 1) ≤ lr b g k := by
  have e1 := row_int h (k := k + 1) (j := k + 1) (by omega) (by omega)
  have e0 := row_int h (k := k) (j := k) (by omega) (by omega)
  have z := Shop.row_zero (pl_ok h) (k := k) (v := k) (by omega) (by omega) hw
  have le : LeO ((g.shop b.lights).row (downTo (k + 1)) (k + 1)) ((g.shop b.lights).row (downTo k) (k + 1)) := lesO_l _ _
  rw [z, e1, e0] at le
  exact LeO.some.mp le
/-- without fines the row doesn't fall -/
theorem lr_rise {b : Bak} {g : Good} (h : Pl b g) (nf : ∀ r ∈ g.days, r.fine = none) {k : Nat} (hk : k < b.lights.length) : lr b g k ≤ lr b g (k + 1) := by
  have ok := pl_ok h
  have e1 := row_int h (k := k + 1) (j := k + 1) (by omega) (by omega)
  have e0 := row_int h (k := k) (j := k) (by omega) (by omega)
  obtain ⟨S, s1, s2⟩ := Shop.row_get e1
  have dS := (downTo_down (k + 1)).sub s1
  obtain ⟨y, hy, le⟩ := s2 _ rfl
  obtain ⟨p, q, hp, hq, e⟩ := addO_some hy
  cases hq
  obtain ⟨p1, p2, hp1, hp2, e'⟩ := addO_some hp
  rw [Nat.zero_add] at hp2
  -- the set without day k
  obtain ⟨S', dS', li, mem⟩ : ∃ S' : List Nat, Down k S' ∧ (g.shop b.lights).lights S' ≤ (g.shop b.lights).lights S ∧ ∀ t, t ∈ S → t ∈ S' ∨ t = k := by
    cases dS with
    | nil => exact ⟨[], .nil, Int.le_refl _, fun t ht => by cases ht⟩
    | @cons _ t S h1 t1 =>
      by_cases htk : t = k
      · subst htk
        refine ⟨S, t1, ?_, fun x hx => ?_⟩
        · have := ok.l t (by omega)
          simp only [Shop.lights]
          omega
        · rcases List.mem_cons.mp hx with rfl | hx
          · exact .inr rfl
          · exact .inl hx
      · exact ⟨t :: S, .cons (by omega) t1, Int.le_refl _, fun x hx => .inl hx⟩
  have m1 : LeO (smO ((g.shop b.lights).mw S') 0 k) (some p1) := by
    rw [← hp1]
    refine smO_mono fun v _ hv => ?_
    unfold Shop.mw
    by_cases hw : (g.shop b.lights).want v = 0
    · rw [if_pos hw, if_pos hw]
      exact LeO.refl _
    · rw [if_neg hw, if_neg hw]
      intro x hx
      obtain ⟨t, ht, hc⟩ := Shop.mc_get hx
      rcases mem t ht with ht' | rfl
      · exact Shop.mc_le ht' x hc
      · obtain ⟨z, hz, _⟩ := Shop.c_some hc hw
        have hz' : g.price t v = some z := hz
        have l1 : t < g.days.length := by rw [h.len]; exact hk
        have lv : v < g.days.length := by omega
        rw [price_eq l1, Option.map_eq_some_iff] at hz'
        obtain ⟨a, ha, _⟩ := hz'
        unfold Good.nights at ha
        rw [if_neg (by omega)] at ha
        have := (nBehind_iff.mp ha).1 g.days[v] (by rw [seg_cons g.days (show v < t by omega) lv]; exact List.mem_cons_self)
        exact absurd (nf _ (List.getElem_mem lv)) this
  have p2n : 0 ≤ p2 := by
    unfold Shop.mw at hp2
    split at hp2
    · cases hp2; omega
    · rename_i hw
      obtain ⟨t, ht, hc⟩ := Shop.mc_get hp2
      obtain ⟨z, hz, ez⟩ := Shop.c_some hc hw
      have tl := dS.lt t ht
      have zn := price_nn h.gok (show t < b.lights.length by omega) (show g.price t k = some z from hz)
      rw [ez]
      exact Int.mul_nonneg (ok.w k hk) zn
  have r := Shop.row_min ok dS' (show k ≤ b.lights.length by omega) (show k ≤ b.lights.length by omega)
  have r2 : LeO ((g.shop b.lights).sc S' k) (some (p1 + (g.shop b.lights).lights S')) := addO_mono m1 (LeO.refl _)
  have r3 := LeO.trans r r2
  rw [e0] at r3
  have := LeO.some.mp r3
  show (g.shop b.lights).R k k ≤ (g.shop b.lights).R (k + 1) (k + 1)
  omega
theorem eq_nil {xs : List D} (h : plains 60 xs = true) : cmpD .eq (.list xs) (.list []) = .ok xs.isEmpty := by
  rw [cmp_eqD (sh_plain (n := 61) (by simpa [plain] using h) (by omega)) (sh_plain (n := 1) (by simp [plain, plains]) (by omega)), PyData.eqv]
  cases xs <;> rfl
theorem ne_nil {xs : List D} (h : plains 60 xs = true) : cmpD .ne (.list xs) (.list []) = .ok (!xs.isEmpty) := by
  rw [cmp_neD (sh_plain (n := 61) (by simpa [plain] using h) (by omega)) (sh_plain (n := 1) (by simp [plain, plains]) (by omega)), PyData.eqv]
  cases xs <;> rfl
theorem ne_nil_row {rs : List Row} : cmpD .ne (.list (rs.map Row.d)) (.list []) = .ok (!rs.isEmpty) := by
  rw [ne_nil (plains_map fun r _ => plain_row r 59)]
  cases rs <;> rfl
theorem eq_nil_row {rs : List Row} : cmpD .eq (.list (rs.map Row.d)) (.list []) = .ok rs.isEmpty := by
  rw [eq_nil (plains_map fun r _ => plain_row r 59)]
  cases rs <;> rfl
theorem ne_nil_int {α : Type} {f : α → Int} {xs : List α} : cmpD .ne (.list (xs.map fun x => .int (f x))) (.list []) = .ok (!xs.isEmpty) := by
  rw [ne_nil (plains_map fun r _ => by simp [plain])]
  cases xs <;> rfl
theorem eq_nil_int {α : Type} {f : α → Int} {xs : List α} : cmpD .eq (.list (xs.map fun x => .int (f x))) (.list []) = .ok xs.isEmpty := by
  rw [eq_nil (plains_map fun r _ => by simp [plain])]
  cases xs <;> rfl
theorem eq_nil_opt {α : Type} {f : α → Option Int} {xs : List α} : cmpD .eq (.list (xs.map fun x => optD (f x))) (.list []) = .ok xs.isEmpty := by
  rw [eq_nil (plains_map fun r _ => plain_opt _ _)]
  cases xs <;> rfl
def c_row_own : S :=
  (.cons (.exp (.call 61 (.cons (.v 0) .nil)))
  (.cons (.rtl (.lc (.t (.cons (.n 1) (.cons (.n 2) .nil))) (.enm (.call 68 (.cons (.v 0) .nil))) .nil (.ix (.v 2) (.v 1))))
  .nil))
def f_row_own : Fn := ⟨1, 3, [.f, .f, .f], c_row_own, .l .f⟩
namespace Pr
variable {T : Nat → Option Fn}
theorem least_row_int (X : Ext T) (n : Nat) {b : Bak} {g : Good} (h : Pl b g) : callN T (n + 9) 71 [b.d] = .ok (.list (lrD b g)) := by
  rw [least_row_ok X n h]
  congr 2
  unfold rowL lrD
  refine List.map_congr_left fun k hk => ?_
  show optD ((g.shop b.lights).row (downTo k) k) = _
  rw [row_int h (by have := List.mem_range.mp hk; omega) (Nat.le_refl k)]
  rfl
/-- the row as a list of the asker's own -/
theorem least_row_own (X : Ext T) (n : Nat) {b : Bak} {g : Good} (h : Pl b g) {k : Nat} (hk : T k = some f_row_own) : callN T (n + 9) k [b.d] = .ok (.list (lrD b g)) := by
  have few := h.ok.few
  refine call_do hk rfl ?_
  have ix : ∀ k i, i < b.lights.length + 1 → ixD (.list (rowL ((g.shop b.lights).row (downTo k)) (b.lights.length + 1))) (.int i) = .ok (optD ((g.shop b.lights).row (downTo k) i)) := fun k i hi => rowL_ix hi
  simp_arith [f_row_own, c_row_own, look_at_plain_ok X n h, known_rows_ok X (n + 3) h, ix]
  congr 1
  unfold lrD
  refine List.map_congr_left fun k hk => ?_
  rw [row_int h (by have := List.mem_range.mp hk; omega) (Nat.le_refl k)]
  rfl
end Pr
end Bk
/-! Bk: prices on wants. -/
namespace Bk
open PySem
/-- what some days' wants are worth -/
def ysum (y : Nat → Int) (i : Nat) : Nat → Int
  | 0 => 0
  | m + 1 => ysum y i m + y (i + m)
/-- the stretch from i on, baked on s, is worth too much -/
def Bad (H : Shop) (n : Nat) (y : Nat → Int) (s i : Nat) : Prop := ∃ m x, i + m ≤ n ∧ smO (H.c s) i m = some x ∧ H.L s + x < ysum y i m
/-- prices that are let by -/
def LetBy (H : Shop) (n : Nat) (y : Nat → Int) : Prop := (∀ v, v < n → H.want v = 0 → y v = 0) ∧ ∀ s, s < n → ∀ i, i < n → ¬ Bad H n y s i
/-- the told prices -/
def yv (b : Bak) (g : Good) (v : Nat) : Int := (g.shop b.lights).R b.lights.length (v + 1) - (g.shop b.lights).R b.lights.length v
def prD (b : Bak) (g : Good) : List D := (List.range b.lights.length).map fun v => .int (yv b g v)
theorem ysum_yv (b : Bak) (g : Good) (i : Nat) : ∀ m, ysum (yv b g) i m = (g.shop b.lights).R b.lights.length (i + m) - (g.shop b.lights).R b.lights.length i
  | 0 => by simp [ysum]
  | m + 1 => by
    simp only [ysum, ysum_yv b g i m]
    unfold yv
    rw [show i + (m + 1) = i + m + 1 by omega]
    omega
theorem yv_let {b : Bak} {g : Good} (h : Pl b g) : LetBy (g.shop b.lights) b.lights.length (yv b g) := by
  constructor
  · intro v hv hw
    unfold yv
    rw [Shop.R_zero (pl_ok h) (pl_own h) (Nat.le_refl _) hv hw]
    omega
  · rintro s hs i hi ⟨m, x, h1, h2, h3⟩
    rw [ysum_yv] at h3
    have := Shop.R_block (pl_ok h) (pl_own h) (Nat.le_refl _) h1 hs h2
    omega
theorem sum_range {f : Nat → Int} : ∀ n, ((List.range n).map f).sum = ysum f 0 n
  | 0 => rfl
  | n + 1 => by rw [List.range_succ, List.map_append, List.sum_append, sum_range n]; simp [ysum]
def c_prices_own : S :=
  (.cons (.exp (.call 61 (.cons (.v 0) .nil)))
  (.cons (.set (.n 1) (.ix (.call 68 (.cons (.v 0) .nil)) (.neg (.k (.int 1)))))
  (.cons (.rtl (.lc (.n 2) (.rng (.cons (.bi .len (.cons (.ix (.v 0) (.k (.int 0))) .nil)) .nil)) .nil (.op .sub (.ix (.v 1) (.op .add (.v 2) (.k (.int 1)))) (.ix (.v 1) (.v 2)))))
  .nil)))
def f_prices_own : Fn := ⟨1, 3, [.f, .f, .f], c_prices_own, .l .f⟩
namespace Pr
variable {T : Nat → Option Fn}
theorem prices_gen (X : Ext T) (n : Nat) {b : Bak} {g : Good} (h : Pl b g) {k : Nat} {fn : Fn} (hk : T k = some fn) (hf : fn = f_prices_of ∨ fn = f_prices_own) : callN T (n + 9) k [b.d] = .ok (.list (prD b g)) := by
  have few := h.ok.few
  have la : ixD (.list ((List.range (b.lights.length + 1)).map fun k => PyData.list (rowL ((g.shop b.lights).row (downTo k)) (b.lights.length + 1)))) (.int (-1)) = .ok (.list ((List.range (b.lights.length + 1)).map fun j => .int ((g.shop b.lights).R b.lights.length j))) := by
    rw [List.range_succ, List.map_append, List.map_cons, List.map_nil, ix_last]
    unfold rowL
    congr 2
    rw [← List.range_succ]
    refine List.map_congr_left fun j hj => ?_
    rw [row_int h (Nat.le_refl _) (by have := List.mem_range.mp hj; omega)]
    rfl
  rcases hf with rfl | rfl
  · refine call_do hk rfl ?_
    simp_arith [f_prices_of, c_prices_of, look_at_plain_ok X n h, known_rows_ok X (n + 3) h, la]
    rfl
  · refine call_do hk rfl ?_
    simp_arith [f_prices_own, c_prices_own, look_at_plain_ok X n h, known_rows_ok X (n + 3) h, la]
    rfl
theorem let_core (H : Shop) {n : Nat} (y : Nat → Int) {s i : Nat} (L0 : 0 ≤ H.L s) (C : Nat → List D → Res D) (b : S) (g : Tg) (h : Nat → D) (E : Nat → En) (F : En) (ρ : En)
    (h0 : Le (E 0) ρ) (hF : Le F (E (n - i)))
    (hN : ∀ j, j < n - i → H.c s (i + j) = none → Gives (turn C g b (h j) (E j)) (.bk F))
    (hB : ∀ j c, j < n - i → H.c s (i + j) = some c → H.L s < ysum (fun v => y v - (H.c s v).getD 0) i (j + 1) → Gives (turn C g b (h j) (E j)) (.rt (.bool false)))
    (hG : ∀ j c, j < n - i → H.c s (i + j) = some c → ¬ H.L s < ysum (fun v => y v - (H.c s v).getD 0) i (j + 1) → Nx (turn C g b (h j) (E j)) (E (j + 1))) :
    (Bad H n y s i → Gives (forL (turn C g b) ((List.range (n - i)).map h) ρ) (.rt (.bool false))) ∧ (¬ Bad H n y s i → Gives (forL (turn C g b) ((List.range (n - i)).map h) ρ) (.nx F)) := by
  have sums : ∀ m x, smO (H.c s) i m = some x → ysum (fun v => y v - (H.c s v).getD 0) i m = ysum y i m - x := by
    intro m
    induction m with
    | zero => intro x hx; cases hx; simp [ysum]
    | succ m ih =>
      intro x hx
      obtain ⟨a, c, ha, hc, rfl⟩ := addO_some hx
      simp only [ysum, ih a ha, hc, Option.getD_some]
      omega
  have fin : ∀ m, (∀ k, k < m → ∃ c, H.c s (i + k) = some c) → ∃ x, smO (H.c s) i m = some x := by
    intro m
    induction m with
    | zero => intro _; exact ⟨0, rfl⟩
    | succ m ih =>
      intro hm
      obtain ⟨x, hx⟩ := ih fun k hk => hm k (by omega)
      obtain ⟨c, hc⟩ := hm m (by omega)
      refine ⟨x + c, ?_⟩
      simp only [smO, hx, hc]
      rfl
  let W : Nat → Option (Option D) := fun j => match H.c s (i + j) with
    | none => some none
    | some _ => if H.L s < ysum (fun v => y v - (H.c s v).getD 0) i (j + 1) then some (some (.bool false)) else none
  have lb := loop_brk (C := C) (b := b) (g := g) (h := h) (n := n - i) (ρ := ρ) E F W h0 hF (fun j hj => by
    show (match W j with
      | none => _
      | some none => _
      | some (some d) => _)
    cases hc : H.c s (i + j) with
    | none =>
      have : W j = some none := by simp only [W, hc]
      rw [this]
      exact hN j hj hc
    | some c =>
      by_cases ht : H.L s < ysum (fun v => y v - (H.c s v).getD 0) i (j + 1)
      · have : W j = some (some (.bool false)) := by simp only [W, hc]; rw [if_pos ht]
        rw [this]
        exact hB j c hj hc ht
      · have : W j = none := by simp only [W, hc]; rw [if_neg ht]
        rw [this]
        exact hG j c hj hc ht)
  have Wn : ∀ j, W j = none → (∃ c, H.c s (i + j) = some c) ∧ ¬ H.L s < ysum (fun v => y v - (H.c s v).getD 0) i (j + 1) := by
    intro j hj
    simp only [W] at hj
    split at hj
    · cases hj
    · rename_i c hc
      refine ⟨⟨c, hc⟩, fun q => ?_⟩
      rw [if_pos q] at hj
      cases hj
  constructor
  · rintro ⟨m, x, h1, h2, h3⟩
    have m0 : m ≠ 0 := by
      rintro rfl
      cases h2
      simp only [ysum] at h3
      omega
    obtain ⟨k, rfl⟩ : ∃ k, m = k + 1 := ⟨m - 1, by omega⟩
    have hk : H.L s < ysum (fun v => y v - (H.c s v).getD 0) i (k + 1) := by
      rw [sums _ _ h2]
      omega
    obtain ⟨j, j1, j2, j3⟩ := least_i (P := fun j => H.L s < ysum (fun v => y v - (H.c s v).getD 0) i (j + 1)) hk
    have all : ∀ l, l ≤ j → ∃ c, H.c s (i + l) = some c := fun l hl => smO_some h2 (i + l) (by omega) (by omega)
    have e : firstW W 0 (n - i) = some (some (.bool false)) := by
      refine firstW_some (i := j) (by omega) ?_ fun l hl => ?_
      · rw [Nat.zero_add]
        obtain ⟨c, hc⟩ := all j (Nat.le_refl j)
        simp only [W, hc]
        rw [if_pos j2]
      · rw [Nat.zero_add]
        obtain ⟨c, hc⟩ := all l (by omega)
        simp only [W, hc]
        rw [if_neg (j3 l hl)]
    rw [e] at lb
    exact lb
  · intro nb
    cases e : firstW W 0 (n - i) with
    | none => rw [e] at lb; exact lb
    | some o =>
      cases o with
      | none => rw [e] at lb; exact lb
      | some d =>
        obtain ⟨j, h1, h2, h3⟩ := firstW_get e
        rw [Nat.zero_add] at h2
        refine absurd ?_ nb
        have all : ∀ l, l < j → ∃ c, H.c s (i + l) = some c := fun l hl => by
          have := h3 l hl
          rw [Nat.zero_add] at this
          exact (Wn l this).1
        simp only [W] at h2
        split at h2
        · cases h2
        · rename_i c hc
          split at h2
          · rename_i ht
            obtain ⟨x, hx⟩ := fin (j + 1) fun k hk => by
              by_cases hkj : k = j
              · subst hkj; exact ⟨c, hc⟩
              · exact all k (by omega)
            refine ⟨j + 1, x, by omega, hx, ?_⟩
            rw [sums _ _ hx] at ht
            omega
          · cases h2
theorem law_let_ok (X : Ext T) (n : Nat) {b : Bak} {g : Good} (h : Pl b g) (y : Nat → Int) : ∃ B : Bool, (B = true ↔ LetBy (g.shop b.lights) b.lights.length y) ∧ callN T (n + 2) 90 [b.d, .list ((List.range b.lights.length).map fun v => .int (y v))] = .ok (.bool B) := by
  have few := h.ok.few
  have hl := h.len
  have gok := h.gok
  have ok := pl_ok h
  have big : ∀ d : D, (((∃ v, v < b.lights.length ∧ ((g.shop b.lights).want v = 0 ∧ y v ≠ 0)) → d = .bool false) ∧ ((¬ ∃ v, v < b.lights.length ∧ ((g.shop b.lights).want v = 0 ∧ y v ≠ 0)) → ((∃ s, s < b.lights.length ∧ ∃ i, i < b.lights.length ∧ Bad (g.shop b.lights) b.lights.length y s i) → d = .bool false) ∧ ((¬ ∃ s, s < b.lights.length ∧ ∃ i, i < b.lights.length ∧ Bad (g.shop b.lights) b.lights.length y s i) → d = .bool true))) → callN T (n + 2) 90 [b.d, .list ((List.range b.lights.length).map fun v => .int (y v))] = .ok d := by
    intro d hd
    refine call_do (X 90 _ rfl) rfl ?_
    simp_arith [f__law_let, c__law_let, h.goods, h.bound]
    generalize hE : ([some b.d, some (.list ((List.range b.lights.length).map fun v => .int (y v))), some (.list (b.lights.map .int)), some .none, some (.list [g.d]), some (.list (g.days.map Row.d)), none, none, none, none, none, none, none] : En) = E0
    have l1 := loop_or (C := callN T (n + 1)) (t := (.cons (.for_ (.n 8) (.rng (.cons (.bi .len (.cons (.v 2) .nil)) .nil)) b4__law_let) (.cons (.ret (.k (.bool true))) .nil))) (b := b1__law_let) (g := (.t (.cons (.n 6) (.cons (.n 7) .nil)))) (h := fun v => .tuple [(nth g.days v).d, .int (y v)]) (n := b.lights.length) (ρ := E0) (d := .bool false) (o := .rt d) E0 (fun v => (g.shop b.lights).want v = 0 ∧ y v ≠ 0) (Le.refl _) (fun v hv pv => by
      have w0 : (nth g.days v).want = 0 := pv.1
      have y0 := pv.2
      subst hE
      simp_arith [b1__law_let, w0, y0]) (fun v hv nv => by
      subst hE
      by_cases w0 : (nth g.days v).want = 0
      · have y0 : y v = 0 := by
          rcases Classical.em (y v = 0) with q | q
          · exact q
          · exact absurd ⟨w0, q⟩ nv
        simp_arith [b1__law_let, w0, y0]
      · simp_arith [b1__law_let, w0])
    by_cases z : ∃ v, v < b.lights.length ∧ ((g.shop b.lights).want v = 0 ∧ y v ≠ 0)
    · rw [hd.1 z]
      exact l1.1 z
    · refine l1.2 z ?_
      have hd2 := hd.2 z
      rw [← hE]
      simp_arith []
      rw [hE]
      have key : ∀ s, s < b.lights.length → ∀ i, i < b.lights.length → (Bad (g.shop b.lights) b.lights.length y s i → Gives (turn (callN T (n + 1)) (.n 10) b3__law_let (.int i) [some b.d, some (.list ((List.range b.lights.length).map fun v => .int (y v))), some (.list (b.lights.map .int)), some .none, some (.list [g.d]), some (.list (g.days.map Row.d)), none, none, some (.int s), some (.list ((List.range b.lights.length).map fun v => optD (g.price s v))), none, none, none]) (.rt (.bool false))) ∧ (¬ Bad (g.shop b.lights) b.lights.length y s i → Nx (turn (callN T (n + 1)) (.n 10) b3__law_let (.int i) [some b.d, some (.list ((List.range b.lights.length).map fun v => .int (y v))), some (.list (b.lights.map .int)), some .none, some (.list [g.d]), some (.list (g.days.map Row.d)), none, none, some (.int s), some (.list ((List.range b.lights.length).map fun v => optD (g.price s v))), none, none, none]) [some b.d, some (.list ((List.range b.lights.length).map fun v => .int (y v))), some (.list (b.lights.map .int)), some .none, some (.list [g.d]), some (.list (g.days.map Row.d)), none, none, some (.int s), some (.list ((List.range b.lights.length).map fun v => optD (g.price s v))), none, none, none]) := by
        intro s hs i hi
        have L0 : 0 ≤ (g.shop b.lights).L s := ok.l s hs
        have stepc : ∀ j c, j < b.lights.length - i → (g.shop b.lights).c s (i + j) = some c → ysum (fun v => y v - ((g.shop b.lights).c s v).getD 0) i (j + 1) = ysum (fun v => y v - ((g.shop b.lights).c s v).getD 0) i j + (y (i + j) - c) ∧ (((nth g.days (i + j)).want = 0 ∧ y (i + j) - c = 0) ∨ ∃ p, 0 < (nth g.days (i + j)).want ∧ g.price s (i + j) = some p ∧ c = (nth g.days (i + j)).want * p) := by
          intro j c hj hc
          refine ⟨by simp only [ysum, hc, Option.getD_some], ?_⟩
          have nw := gok.2.2 _ (nth_mem (show i + j < g.days.length by omega))
          have hw : (g.shop b.lights).want (i + j) = (nth g.days (i + j)).want := rfl
          unfold Shop.c at hc
          rw [hw] at hc
          split at hc
          · rename_i q
            cases hc
            refine .inl ⟨q, ?_⟩
            rcases Classical.em (y (i + j) = 0) with q2 | q2
            · omega
            · exact absurd ⟨i + j, by omega, q, q2⟩ z
          · rename_i q
            obtain ⟨p, hp, e⟩ := Option.map_eq_some_iff.mp hc
            exact .inr ⟨p, by have := nw.1.1; omega, hp, e.symm⟩
        have lc := let_core (g.shop b.lights) (n := b.lights.length) y (s := s) (i := i) L0 (callN T (n + 1)) b2__law_let (.n 12) (fun j => .int (i + j : Nat)) (fun j => [some b.d, some (.list ((List.range b.lights.length).map fun v => .int (y v))), some (.list (b.lights.map .int)), some .none, some (.list [g.d]), some (.list (g.days.map Row.d)), none, none, some (.int s), some (.list ((List.range b.lights.length).map fun v => optD (g.price s v))), some (.int i), some (.int (ysum (fun v => y v - ((g.shop b.lights).c s v).getD 0) i j)), none])
          [some b.d, some (.list ((List.range b.lights.length).map fun v => .int (y v))), some (.list (b.lights.map .int)), some .none, some (.list [g.d]), some (.list (g.days.map Row.d)), none, none, some (.int s), some (.list ((List.range b.lights.length).map fun v => optD (g.price s v))), some (.int i), none, none]
          [some b.d, some (.list ((List.range b.lights.length).map fun v => .int (y v))), some (.list (b.lights.map .int)), some .none, some (.list [g.d]), some (.list (g.days.map Row.d)), none, none, some (.int s), some (.list ((List.range b.lights.length).map fun v => optD (g.price s v))), some (.int i), some (.int 0), none] (by simp_arith [ysum]) (by simp_arith []) (fun j hj hc => ?_) (fun j c hj hc ht => ?_) (fun j c hj hc ht => ?_)
        · simp_arith [b3__law_let]
          exact ⟨fun q => Gives.stop (lc.1 q), fun q => Nx.nx ((lc.2 q).seq (by simp_arith []))⟩
        · have v1 : i + j < b.lights.length := by omega
          have nw := gok.2.2 _ (nth_mem (show i + j < g.days.length by omega))
          have wp : 0 < (nth g.days (i + j)).want ∧ g.price s (i + j) = none := by
            unfold Shop.c at hc
            have hw : (g.shop b.lights).want (i + j) = (nth g.days (i + j)).want := rfl
            rw [hw] at hc
            split at hc
            · cases hc
            · rename_i q
              refine ⟨by have := nw.1.1; omega, ?_⟩
              have : (g.shop b.lights).p s (i + j) = none := by simpa using hc
              exact this
          simp_arith [b2__law_let, wp.1, wp.2]
        · have st := stepc j c hj hc
          have Lt : nth b.lights s < ysum (fun v => y v - ((g.shop b.lights).c s v).getD 0) i (j + 1) := ht
          rw [st.1] at Lt
          rcases st.2 with ⟨w0, y0⟩ | ⟨p, wp, hp, ec⟩
          · rw [y0] at Lt
            simp_arith [b2__law_let, w0, show ¬ (0 : Int) < 0 by omega, show nth b.lights s < ysum (fun v => y v - ((g.shop b.lights).c s v).getD 0) i j by omega]
          · have mul := mul_small (i := (nth g.days (i + j)).want) (j := p) (by have := (gok.2.2 _ (nth_mem (show i + j < g.days.length by omega))).1.2; omega)
            simp_arith [b2__law_let, wp, hp, mul, show nth b.lights s < ysum (fun v => y v - ((g.shop b.lights).c s v).getD 0) i j + y (i + j) - (nth g.days (i + j)).want * p by omega]
        · have st := stepc j c hj hc
          have Lt : ¬ nth b.lights s < ysum (fun v => y v - ((g.shop b.lights).c s v).getD 0) i (j + 1) := ht
          rcases st.2 with ⟨w0, y0⟩ | ⟨p, wp, hp, ec⟩
          · have e : ysum (fun v => y v - ((g.shop b.lights).c s v).getD 0) i (j + 1) = ysum (fun v => y v - ((g.shop b.lights).c s v).getD 0) i j := by omega
            rw [e] at Lt ⊢
            simp_arith [b2__law_let, w0, show ¬ (0 : Int) < 0 by omega, Lt]
          · have mul := mul_small (i := (nth g.days (i + j)).want) (j := p) (by have := (gok.2.2 _ (nth_mem (show i + j < g.days.length by omega))).1.2; omega)
            have e : ysum (fun v => y v - ((g.shop b.lights).c s v).getD 0) i (j + 1) = ysum (fun v => y v - ((g.shop b.lights).c s v).getD 0) i j + y (i + j) - (nth g.days (i + j)).want * p := by omega
            rw [e] at Lt ⊢
            simp_arith [b2__law_let, wp, hp, mul, Lt]
      have key2 : ∀ s, s < b.lights.length → ((∃ i, i < b.lights.length ∧ Bad (g.shop b.lights) b.lights.length y s i) → Gives (turn (callN T (n + 1)) (.n 8) b4__law_let (.int s) E0) (.rt (.bool false))) ∧ ((¬ ∃ i, i < b.lights.length ∧ Bad (g.shop b.lights) b.lights.length y s i) → Nx (turn (callN T (n + 1)) (.n 8) b4__law_let (.int s) E0) E0) := by
        intro s hs
        have lp : ∀ v, callN T (n + 1) 53 [g.d, .int s, .int (v : Nat)] = .ok (optD (g.price s v)) := fun v => law_price_ok X n g s v (by omega)
        have l2 := fun o => loop_or (C := callN T (n + 1)) (t := .nil) (b := b3__law_let) (g := .n 10) (h := fun i => .int (i : Nat)) (n := b.lights.length) (ρ := [some b.d, some (.list ((List.range b.lights.length).map fun v => .int (y v))), some (.list (b.lights.map .int)), some .none, some (.list [g.d]), some (.list (g.days.map Row.d)), none, none, some (.int s), some (.list ((List.range b.lights.length).map fun v => optD (g.price s v))), none, none, none]) (d := .bool false) (o := o) _ (fun i => Bad (g.shop b.lights) b.lights.length y s i) (Le.refl _) (fun i hi => (key s hs i hi).1) (fun i hi => (key s hs i hi).2)
        subst hE
        constructor
        · intro q
          simp_arith [b4__law_let, lp]
          exact (l2 (.rt (.bool false))).1 q
        · intro q
          simp_arith [b4__law_let, lp]
          exact Nx.nx ((l2 _).2 q (by simp_arith []))
      have l3 := loop_or (C := callN T (n + 1)) (t := (.cons (.ret (.k (.bool true))) .nil)) (b := b4__law_let) (g := .n 8) (h := fun i => .int (i : Nat)) (n := b.lights.length) (ρ := E0) (d := .bool false) (o := .rt d) E0 (fun s => ∃ i, i < b.lights.length ∧ Bad (g.shop b.lights) b.lights.length y s i) (Le.refl _) (fun s hs => (key2 s hs).1) (fun s hs => (key2 s hs).2)
      by_cases w : ∃ s, s < b.lights.length ∧ ∃ i, i < b.lights.length ∧ Bad (g.shop b.lights) b.lights.length y s i
      · rw [hd2.1 w]
        exact l3.1 w
      · refine l3.2 w ?_
        rw [hd2.2 w]
        subst hE
        simp_arith []
  by_cases z : ∃ v, v < b.lights.length ∧ ((g.shop b.lights).want v = 0 ∧ y v ≠ 0)
  · refine ⟨false, ⟨fun q => (by cases q), fun q => ?_⟩, big _ ⟨fun _ => rfl, fun q => absurd z q⟩⟩
    obtain ⟨i, h1, h2, h3⟩ := z
    exact absurd (q.1 i h1 h2) h3
  · by_cases w : ∃ s, s < b.lights.length ∧ ∃ i, i < b.lights.length ∧ Bad (g.shop b.lights) b.lights.length y s i
    · refine ⟨false, ⟨fun q => (by cases q), fun q => ?_⟩, big _ ⟨fun _ => rfl, fun _ => ⟨fun _ => rfl, fun q => absurd w q⟩⟩⟩
      obtain ⟨s, h1, i, h2, h3⟩ := w
      exact absurd h3 (q.2 s h1 i h2)
    · refine ⟨true, ⟨fun _ => ⟨fun v hv hw => ?_, fun s hs i hi hb => w ⟨s, hs, i, hi, hb⟩⟩, fun _ => rfl⟩, big _ ⟨fun q => absurd q z, fun _ => ⟨fun q => absurd q w, fun _ => rfl⟩⟩⟩
      rcases Classical.em (y v = 0) with q | q
      · exact q
      · exact absurd ⟨v, hv, hw, q⟩ z
end Pr
/-! ### bounds -/
theorem c_nn {b : Bak} {g : Good} (h : Pl b g) {s v : Nat} (hs : s < b.lights.length) (hv : v < b.lights.length) {x : Int} (e : (g.shop b.lights).c s v = some x) : 0 ≤ x := by
  have ok := pl_ok h
  by_cases hw : (g.shop b.lights).want v = 0
  · unfold Shop.c at e
    rw [if_pos hw] at e
    cases e
    omega
  · obtain ⟨z, hz, ez⟩ := Shop.c_some e hw
    rw [ez]
    exact Int.mul_nonneg (ok.w v hv) (price_nn h.gok hs hz)
theorem R_nn {b : Bak} {g : Good} (h : Pl b g) {k j : Nat} (hk : k ≤ b.lights.length) (hj : j ≤ k) : 0 ≤ (g.shop b.lights).R k j := by
  have ok := pl_ok h
  have e := row_int h hk hj
  obtain ⟨S, s1, s2⟩ := Shop.row_get e
  have dS := (downTo_down k).sub s1
  obtain ⟨y, hy, le⟩ := s2 _ rfl
  obtain ⟨p, q, hp, hq, e2⟩ := addO_some hy
  cases hq
  have l0 := Shop.lights_nn ok (S := S) fun s hs => by have := dS.lt s hs; omega
  have p0 : ∀ m x, m ≤ b.lights.length → smO ((g.shop b.lights).mw S) 0 m = some x → 0 ≤ x := by
    intro m
    induction m with
    | zero => intro x _ hx; cases hx; omega
    | succ m ih =>
      intro x hm hx
      obtain ⟨a, c, ha, hc, rfl⟩ := addO_some hx
      have h1 := ih a (by omega) ha
      rw [Nat.zero_add] at hc
      have h2 : 0 ≤ c := by
        unfold Shop.mw at hc
        split at hc
        · cases hc; omega
        · obtain ⟨t, ht, hc⟩ := Shop.mc_get hc
          have := dS.lt t ht
          exact c_nn h (by omega) (by omega) hc
      omega
  have := p0 j p (by omega) hp
  omega
theorem R_le {b : Bak} {g : Good} (h : Pl b g) {k : Nat} (hk : k ≤ b.lights.length) : ∀ j, j ≤ k → (g.shop b.lights).R k j ≤ j * 1000000001000000000
  | 0, _ => by
    have : (g.shop b.lights).R k 0 = 0 := by
      unfold Shop.R
      rw [Shop.row_0 (pl_ok h) hk]
      rfl
    omega
  | j + 1, hj => by
    have ih := R_le h hk j (by omega)
    obtain ⟨x, hx⟩ := Shop.c_own (pl_own h) (show j < b.lights.length by omega)
    have e : smO ((g.shop b.lights).c j) j 1 = some x := by
      simp only [smO, Nat.add_zero]
      rw [hx]
      simp [addO]
    have := Shop.R_block (pl_ok h) (pl_own h) hk (i := j) (m := 1) (s := j) (by omega) (by omega) e
    have l1 : (g.shop b.lights).L j ≤ 1000000000 := (h.ok.lit _ (nth_mem (show j < b.lights.length by omega))).2
    have gr := h.gok.2.2 _ (nth_mem (show j < g.days.length by rw [h.len]; omega))
    have x1 : x ≤ 1000000000000000000 := by
      unfold Shop.c at hx
      split at hx
      · cases hx; omega
      · have pe := price_own h.gok (show j < b.lights.length by omega)
        have hx' : (g.price j j).map (fun x => (nth g.days j).want * x) = some x := hx
        rw [pe] at hx'
        cases hx'
        have a1 := gr.1
        have a2 := gr.2.1
        calc (nth g.days j).want * (nth g.days j).loaf ≤ 1000000000 * (nth g.days j).loaf := Int.mul_le_mul_of_nonneg_right a1.2 a2.1
          _ ≤ 1000000000 * 1000000000 := Int.mul_le_mul_of_nonneg_left a2.2 (by omega)
          _ = 1000000000000000000 := by decide
    omega
theorem yv_small {b : Bak} {g : Good} (h : Pl b g) {v : Nat} (hv : v < b.lights.length) : -(10 ^ 30) < yv b g v ∧ yv b g v < 10 ^ 30 := by
  have few := h.ok.few
  have a1 := R_nn h (Nat.le_refl b.lights.length) (show v ≤ _ by omega)
  have a2 := R_nn h (Nat.le_refl b.lights.length) (show v + 1 ≤ _ by omega)
  have b1 := R_le h (Nat.le_refl b.lights.length) v (by omega)
  have b2 := R_le h (Nat.le_refl b.lights.length) (v + 1) (by omega)
  unfold yv
  constructor <;> omega
theorem repr_ints {α : Type} {f : α → Int} {xs : List α} (h : ∀ x ∈ xs, -(10 ^ 30) < f x ∧ f x < 10 ^ 30) (hl : xs.length ≤ 1000) : biD .repr [.list (xs.map fun x => .int (f x))] = .ok (.str (PyData.shown (.list (xs.map fun x => .int (f x))))) := by
  refine repr_ok (n := 2) (by simp only [plain]; exact plains_map fun x _ => by simp [plain]) (by omega) ?_ ?_
  · simp only [PyData.showable]
    refine shows_map fun x hx => ?_
    simp only [PyData.showable, decide_eq_true_eq]
    have := h x hx
    exact log_small (by omega) (by omega)
  · have := nodes_map (h := fun x => PyData.int (f x)) (k := 1) (xs := xs) fun x _ => by simp [nodes]
    simp only [nodes]
    omega
theorem repr_prices {b : Bak} {g : Good} (h : Pl b g) : biD .repr [.list (prD b g)] = .ok (.str (PyData.shown (.list (prD b g)))) :=
  repr_ints (fun v hv => yv_small h (List.mem_range.mp hv)) (by have := h.ok.few; simp; omega)
theorem sum_prices {b : Bak} {g : Good} (h : Pl b g) : biD .sum [.list (prD b g)] = .ok (.int (lr b g b.lights.length)) := by
  unfold prD
  rw [sum_map, sum_range, ysum_yv, Nat.zero_add]
  have : (g.shop b.lights).R b.lights.length 0 = 0 := by
    unfold Shop.R
    rw [Shop.row_0 (pl_ok h) (Nat.le_refl _)]
    rfl
  rw [this]
  show Res.ok (PyData.int (lr b g b.lights.length - 0)) = _
  rw [Int.sub_zero]
theorem lr_last {b : Bak} {g : Good} : ixD (.list (lrD b g)) (.int (-1)) = .ok (.int (lr b g b.lights.length)) := by
  unfold lrD
  rw [List.range_succ, List.map_append, List.map_cons, List.map_nil, ix_last]
end Bk
/-! Bk: the program's look at prices. -/
namespace Bk
open PySem
/-- what the stretch that is worth most till then is worth -/
def runL (c : Nat → Option Int) (y : Nat → Int) : Nat → Int
  | 0 => 0
  | i + 1 => match c i with
    | none => 0
    | some x => (if 0 > runL c y i then 0 else runL c y i) + y i - x
theorem runL_is (c : Nat → Option Int) (y : Nat → Int) : ∀ k, ∃ j m x, j + m = k ∧ smO c j m = some x ∧ runL c y k = ysum y j m - x
  | 0 => ⟨0, 0, 0, rfl, rfl, rfl⟩
  | k + 1 => by
    simp only [runL]
    cases hc : c k with
    | none => exact ⟨k + 1, 0, 0, rfl, rfl, rfl⟩
    | some x =>
      dsimp only
      by_cases q : 0 > runL c y k
      · rw [if_pos q]
        refine ⟨k, 1, x, rfl, ?_, ?_⟩
        · simp [smO, addO, hc]
        · simp [ysum]
      · rw [if_neg q]
        obtain ⟨j, m, z, h1, h2, h3⟩ := runL_is c y k
        refine ⟨j, m + 1, z + x, by omega, ?_, ?_⟩
        · simp only [smO, h2, show j + m = k from h1, hc, addO]
        · simp only [ysum, h3, show j + m = k from h1]
          omega
theorem runL_ge {c : Nat → Option Int} {y : Nat → Int} {j : Nat} : ∀ {m : Nat} {x : Int}, smO c j m = some x → (m = 0 → ysum y j m - x = 0) ∧ (m ≠ 0 → ysum y j m - x ≤ runL c y (j + m))
  | 0, x, h => by
    simp only [smO, Option.some.injEq] at h
    subst h
    exact ⟨fun _ => rfl, fun z => absurd rfl z⟩
  | m + 1, x, h => by
    refine ⟨fun z => by omega, fun _ => ?_⟩
    simp only [smO] at h
    obtain ⟨x1, x2, h1, h2, rfl⟩ := addO_some h
    obtain ⟨a1, a2⟩ := runL_ge (y := y) h1
    rw [show j + (m + 1) = j + m + 1 by omega]
    simp only [runL, h2, ysum]
    by_cases hm : m = 0
    · have := a1 hm
      split <;> omega
    · have := a2 hm
      split <;> omega
theorem run_bad {H : Shop} {n : Nat} {y : Nat → Int} {s : Nat} (h0 : 0 ≤ H.L s) : (∃ i, i < n ∧ runL (H.c s) y (i + 1) > H.L s) ↔ ∃ i, i < n ∧ Bad H n y s i := by
  constructor
  · rintro ⟨i, hi, h⟩
    obtain ⟨j, m, x, h1, h2, h3⟩ := runL_is (H.c s) y (i + 1)
    have hm : m ≠ 0 := by
      intro z
      subst z
      simp only [smO, Option.some.injEq] at h2
      subst h2
      simp only [ysum] at h3
      omega
    exact ⟨j, by omega, m, x, by omega, h2, by omega⟩
  · rintro ⟨j, hj, m, x, h1, h2, h3⟩
    obtain ⟨a1, a2⟩ := runL_ge (y := y) h2
    have hm : m ≠ 0 := by
      intro z
      have := a1 z
      subst z
      simp only [smO, Option.some.injEq] at h2
      subst h2
      omega
    have := a2 hm
    refine ⟨j + m - 1, by omega, ?_⟩
    rw [show j + m - 1 + 1 = j + m by omega]
    omega
/-- prices that are let by come to no more than the cost of any first days -/
theorem let_below {H : Shop} {n : Nat} {y : Nat → Int} (l : LetBy H n y) {s i m : Nat} {x : Int} (hs : s < n) (him : i + m ≤ n) (hx : smO (H.c s) i m = some x) (h0 : 0 ≤ H.L s) : ysum y i m ≤ H.L s + x := by
  by_cases hi : i < n
  · have := l.2 s hs i hi
    rcases Int.lt_or_le (H.L s + x) (ysum y i m) with q | q
    · exact absurd ⟨m, x, him, hx, q⟩ this
    · exact q
  · have : m = 0 := by omega
    subst this
    simp only [smO, Option.some.injEq] at hx
    subst hx
    simp only [ysum]
    omega
namespace Pr
variable {T : Nat → Option Fn}
theorem holds_at_ok (X : Ext T) (n : Nat) (L : Int) (c : Nat → Option Int) (y : Nat → Int) (N : Nat) : ∃ B : Bool, (B = true ↔ ¬ ∃ i, i < N ∧ runL c y (i + 1) > L) ∧ callN T (n + 1) 77 [.int L, .list (rowL c N), .list ((List.range N).map fun v => .int (y v))] = .ok (.bool B) := by
  have big : ∀ d : D, ((∃ i, i < N ∧ runL c y (i + 1) > L) → d = .bool false) ∧ ((¬ ∃ i, i < N ∧ runL c y (i + 1) > L) → d = .bool true) → callN T (n + 1) 77 [.int L, .list (rowL c N), .list ((List.range N).map fun v => .int (y v))] = .ok d := by
    intro d hd
    refine call_do (X 77 _ rfl) rfl ?_
    unfold rowL
    simp_arith [f_holds_at, c_holds_at]
    have l1 := loop_orE (C := callN T n) (t := (.cons (.ret (.k (.bool true))) .nil)) (b := b1_holds_at) (g := (.t (.cons (.n 4) (.cons (.n 5) .nil)))) (h := fun i => .tuple [optD (c i), .int (y i)]) (n := N) (ρ := [some (.int L), some (.list ((List.range N).map fun j => optD (c j))), some (.list ((List.range N).map fun v => .int (y v))), some (.int 0), none, none]) (d := .bool false) (o := .rt d) (fun i => [some (.int L), some (.list ((List.range N).map fun j => optD (c j))), some (.list ((List.range N).map fun v => .int (y v))), some (.int (runL c y i)), none, none]) (fun i => runL c y (i + 1) > L) (by simp_arith [runL]) (fun i hi pi => by
      cases hc : c i with
      | none =>
        have e : runL c y (i + 1) = 0 := by simp only [runL, hc]
        rw [e] at pi
        simp_arith [b1_holds_at, pi]
      | some x =>
        have e : runL c y (i + 1) = (if 0 > runL c y i then 0 else runL c y i) + y i - x := by simp only [runL, hc]
        rw [e] at pi
        simp_arith [b1_holds_at, pi]) (fun i hi ni => by
      cases hc : c i with
      | none =>
        have e : runL c y (i + 1) = 0 := by simp only [runL, hc]
        rw [e] at ni
        rw [e]
        simp_arith [b1_holds_at, ni]
      | some x =>
        have e : runL c y (i + 1) = (if 0 > runL c y i then 0 else runL c y i) + y i - x := by simp only [runL, hc]
        rw [e] at ni
        rw [e]
        simp_arith [b1_holds_at, ni])
    by_cases z : ∃ i, i < N ∧ runL c y (i + 1) > L
    · rw [hd.1 z]
      exact l1.1 z
    · refine l1.2 z ?_
      rw [hd.2 z]
      simp_arith []
  by_cases z : ∃ i, i < N ∧ runL c y (i + 1) > L
  · exact ⟨false, ⟨fun q => (by cases q), fun q => absurd z q⟩, big _ ⟨fun _ => rfl, fun q => absurd z q⟩⟩
  · exact ⟨true, ⟨fun _ => z, fun _ => rfl⟩, big _ ⟨fun q => absurd q z, fun _ => rfl⟩⟩
theorem are_prices_ok (X : Ext T) (n : Nat) {b : Bak} {g : Good} (h : Pl b g) (y : Nat → Int) : ∃ B : Bool, (B = true ↔ ¬ ∃ v, v < b.lights.length ∧ ((nth g.days v).want = 0 ∧ y v ≠ 0)) ∧ callN T (n + 2) 76 [b.d, .list ((List.range b.lights.length).map fun v => .int (y v))] = .ok (.bool B) := by
  have hl := h.len
  have big : ∀ d : D, ((∃ v, v < b.lights.length ∧ ((nth g.days v).want = 0 ∧ y v ≠ 0)) → d = .bool false) ∧ ((¬ ∃ v, v < b.lights.length ∧ ((nth g.days v).want = 0 ∧ y v ≠ 0)) → d = .bool true) → callN T (n + 2) 76 [b.d, .list ((List.range b.lights.length).map fun v => .int (y v))] = .ok d := by
    intro d hd
    refine call_do (X 76 _ rfl) rfl ?_
    simp_arith [f_are_prices, c_are_prices, h.goods]
    have l1 := loop_or (C := callN T (n + 1)) (t := (.cons (.ret (.k (.bool true))) .nil)) (b := b1_are_prices) (g := (.t (.cons (.n 2) (.cons (.n 3) .nil)))) (h := fun v => .tuple [.int (y v), (nth g.days v).d]) (n := b.lights.length) (ρ := [some b.d, some (.list ((List.range b.lights.length).map fun v => .int (y v))), none, none]) (d := .bool false) (o := .rt d) [some b.d, some (.list ((List.range b.lights.length).map fun v => .int (y v))), none, none] (fun v => (nth g.days v).want = 0 ∧ y v ≠ 0) (Le.refl _) (fun v hv pv => by
      have w0 := pv.1
      have y0 := pv.2
      simp_arith [b1_are_prices, is_whole_ok X n, w0, y0]) (fun v hv nv => by
      by_cases w0 : (nth g.days v).want = 0
      · have y0 : y v = 0 := by
          rcases Classical.em (y v = 0) with q | q
          · exact q
          · exact absurd ⟨w0, q⟩ nv
        simp_arith [b1_are_prices, is_whole_ok X n, w0, y0]
      · simp_arith [b1_are_prices, is_whole_ok X n, w0])
    by_cases z : ∃ v, v < b.lights.length ∧ ((nth g.days v).want = 0 ∧ y v ≠ 0)
    · rw [hd.1 z]
      exact l1.1 z
    · refine l1.2 z ?_
      rw [hd.2 z]
      simp_arith []
  by_cases z : ∃ v, v < b.lights.length ∧ ((nth g.days v).want = 0 ∧ y v ≠ 0)
  · exact ⟨false, ⟨fun q => (by cases q), fun q => absurd z q⟩, big _ ⟨fun _ => rfl, fun q => absurd z q⟩⟩
  · exact ⟨true, ⟨fun _ => z, fun _ => rfl⟩, big _ ⟨fun q => absurd q z, fun _ => rfl⟩⟩
/-- lets_prices of a whole number for each day -/
theorem lets_prices_ok (X : Ext T) (n : Nat) {b : Bak} {g : Good} (h : Pl b g) (y : Nat → Int) : ∃ B : Bool, (B = true ↔ LetBy (g.shop b.lights) b.lights.length y) ∧ callN T (n + 9) 78 [b.d, .list ((List.range b.lights.length).map fun v => .int (y v))] = .ok (.bool B) := by
  have few := h.ok.few
  have hl := h.len
  have ok := pl_ok h
  have wf : ∀ s, s < b.lights.length → callN T (n + 8) 63 [g.d, .int (s : Nat)] = .ok (.list (rowL ((g.shop b.lights).c s) b.lights.length)) := fun s hs => wants_from_ok X (n + 4) h.gok b.lights hs few.2
  obtain ⟨B1, hB1, ap⟩ := are_prices_ok X (n + 6) h y
  have ha := fun s => holds_at_ok X (n + 7) (nth b.lights s) ((g.shop b.lights).c s) y b.lights.length
  have hw : ∀ v, (g.shop b.lights).want v = (nth g.days v).want := fun v => rfl
  have hLs : ∀ s, (g.shop b.lights).L s = nth b.lights s := fun s => rfl
  obtain ⟨f, hf⟩ : ∃ f : Nat → Bool, ∀ s, (f s = true ↔ ¬ ∃ i, i < b.lights.length ∧ runL ((g.shop b.lights).c s) y (i + 1) > nth b.lights s) ∧ callN T (n + 8) 77 [.int (nth b.lights s), .list (rowL ((g.shop b.lights).c s) b.lights.length), .list ((List.range b.lights.length).map fun v => .int (y v))] = .ok (.bool (f s)) :=
    ⟨fun s => Classical.choose (ha s), fun s => Classical.choose_spec (ha s)⟩
  refine ⟨B1 && (List.range b.lights.length).all f, ?_, ?_⟩
  · rw [Bool.and_eq_true, hB1, List.all_eq_true]
    constructor
    · rintro ⟨h1, h2⟩
      refine ⟨fun v hv w0 => ?_, fun s hs i hi bad => ?_⟩
      · rcases Classical.em (y v = 0) with q | q
        · exact q
        · exact absurd ⟨v, hv, w0, q⟩ h1
      · have := (hf s).1.mp (h2 s (List.mem_range.mpr hs))
        exact this ((run_bad (ok.l s hs)).mpr ⟨i, hi, bad⟩)
    · rintro ⟨h1, h2⟩
      refine ⟨fun ⟨v, hv, w0, q⟩ => q (h1 v hv w0), fun s hs => ?_⟩
      have hs := List.mem_range.mp hs
      refine (hf s).1.mpr fun q => ?_
      obtain ⟨i, hi, bad⟩ := (run_bad (ok.l s hs)).mp q
      exact h2 s hs i hi bad
  · refine call_do (X 78 _ rfl) rfl ?_
    cases B1 with
    | false => simp_arith [f_lets_prices, c_lets_prices, look_at_plain_ok X n h, ap]
    | true =>
      have hfe := fun s => (hf s).2
      simp_arith [f_lets_prices, c_lets_prices, look_at_plain_ok X n h, ap, h.goods, map_rng (h := PyData.int) (xs := b.lights) (n := b.lights.length) rfl, wf, hfe, all_map]
end Pr
end Bk
/-! Bk: steady bakeries, the last lit days. -/
namespace Bk
open PySem
/-- a steady bakery -/
structure St (b : Bak) (g : Good) : Prop extends Pl b g where
  nof : ∀ r ∈ g.days, r.fine = none
  cheap : ∀ i, i + 1 < b.lights.length → (nth g.days (i + 1)).loaf ≤ (nth g.days i).loaf + (nth g.days i).keep
section
variable {b : Bak} {g : Good}
theorem sm_one {f : Row → Int} {ds : List Row} {i : Nat} (h : i < ds.length) : sm f ds i (i + 1) = f (nth ds i) := by
  unfold sm
  rw [seg_cons ds (Nat.lt_succ_self i) h, seg_nil ds (Nat.le_refl _), nth_eq h]
  simp
theorem cheaper (h : St b g) {s : Nat} : ∀ {k : Nat}, s + k < b.lights.length → (nth g.days (s + k)).loaf ≤ (nth g.days s).loaf + sm Row.keep g.days s (s + k)
  | 0, _ => by
    have : sm Row.keep g.days s (s + 0) = 0 := by unfold sm; rw [seg_nil _ (by omega)]; rfl
    rw [this]
    simp
  | k + 1, hk => by
    have ih := cheaper h (s := s) (k := k) (by omega)
    have c := h.cheap (s + k) (by omega)
    rw [sm_split Row.keep g.days (show s ≤ s + k by omega) (show s + k ≤ s + (k + 1) by omega)]
    have e : sm Row.keep g.days (s + k) (s + (k + 1)) = (nth g.days (s + k)).keep := sm_one (by rw [h.len]; omega)
    rw [e]
    have : s + (k + 1) = s + k + 1 := by omega
    rw [this]
    omega
theorem price_ahead (h : St b g) {s v : Nat} (hs : s ≤ v) (hv : v < b.lights.length) {x : Int} : g.price s v = some x ↔ within g.life ((v : Int) - s) ∧ x = (nth g.days s).loaf + sm Row.keep g.days s v := by
  have l1 : s < g.days.length := by rw [h.len]; omega
  rw [price_eq l1, ← nth_eq l1]
  unfold Good.nights
  rw [if_pos hs, Option.map_eq_some_iff]
  constructor
  · rintro ⟨a, ha, rfl⟩
    obtain ⟨w, rfl⟩ := nAhead_iff.mp ha
    exact ⟨w, rfl⟩
  · rintro ⟨w, rfl⟩
    exact ⟨_, nAhead_iff.mpr ⟨w, rfl⟩, rfl⟩
theorem price_late (h : St b g) {s v : Nat} (hs : v < s) (hl : s < b.lights.length) : g.price s v = none := by
  have l1 : s < g.days.length := by rw [h.len]; omega
  have lv : v < g.days.length := by omega
  rw [price_eq l1]
  unfold Good.nights
  rw [if_neg (by omega)]
  cases e : nBehind g.days s v with
  | none => rfl
  | some a =>
    have := (nBehind_iff.mp e).1 g.days[v] (by rw [seg_cons g.days hs lv]; exact List.mem_cons_self)
    exact absurd (h.nof _ (List.getElem_mem lv)) this
/-- baking later is no dearer -/
theorem c_later (h : St b g) {s1 s2 v : Nat} (h1 : s1 ≤ s2) (h2 : s2 ≤ v) (hv : v < b.lights.length) : LeO ((g.shop b.lights).c s2 v) ((g.shop b.lights).c s1 v) := by
  have ok := pl_ok h.toPl
  by_cases hw : (g.shop b.lights).want v = 0
  · unfold Shop.c
    rw [if_pos hw, if_pos hw]
    exact LeO.refl _
  · intro y hy
    obtain ⟨x, hx, rfl⟩ := Shop.c_some hy hw
    obtain ⟨w, rfl⟩ := (price_ahead h (by omega) hv).mp hx
    have p2 : g.price s2 v = some _ := (price_ahead h h2 hv).mpr ⟨w.less (by omega), rfl⟩
    refine ⟨_, Shop.c_of p2 hw, Int.mul_le_mul_of_nonneg_left ?_ (ok.w v hv)⟩
    obtain ⟨k, rfl⟩ : ∃ k, s2 = s1 + k := ⟨s2 - s1, by omega⟩
    have := cheaper h (s := s1) (k := k) (by omega)
    rw [sm_split Row.keep g.days (show s1 ≤ s1 + k by omega) h2]
    omega
theorem c_before (h : St b g) {s v : Nat} (h1 : v < s) (hs : s < b.lights.length) (hw : (g.shop b.lights).want v ≠ 0) : (g.shop b.lights).c s v = none := by
  unfold Shop.c
  rw [if_neg hw]
  have : (g.shop b.lights).p s v = none := price_late h h1 hs
  rw [this]
  rfl
/-- the first days to at, then a light on at, that bakes for all up to j -/
def Tt (b : Bak) (g : Good) (a j : Nat) : Option Int := addO (some (lr b g a + nth b.lights a)) (smO ((g.shop b.lights).c a) a (j - a))
theorem lr_le (h : St b g) {a j : Nat} (ha : a < j) (hj : j ≤ b.lights.length) : LeO (some (lr b g j)) (Tt b g a j) := by
  have e1 := row_int h.toPl (k := j) (j := j) hj (Nat.le_refl j)
  have e0 := row_int h.toPl (k := a) (j := a) (by omega) (Nat.le_refl a)
  have sub : LeO ((g.shop b.lights).row (downTo j) j) ((g.shop b.lights).row (downTo (a + 1)) j) := Shop.row_sub (down_sub ((downTo_down (a + 1)).up (by omega))) j
  obtain ⟨k, rfl⟩ : ∃ k, j = a + (k + 1) := ⟨j - a - 1, by omega⟩
  have own : LeO ((g.shop b.lights).row (downTo (a + 1)) (a + (k + 1))) (addO (addO ((g.shop b.lights).row (downTo a) a) (smO ((g.shop b.lights).c a) a (k + 1))) (some ((g.shop b.lights).L a))) :=
    LeO.trans (lesO_r _ _) (addO_mono bestO_le (LeO.refl _))
  rw [e1] at sub
  rw [e0] at own
  have := LeO.trans sub own
  show LeO (some ((g.shop b.lights).R (a + (k + 1)) (a + (k + 1)))) _
  refine LeO.trans this ?_
  unfold Tt
  rw [show a + (k + 1) - a = k + 1 by omega]
  show LeO (addO (addO (some (lr b g a)) _) (some (nth b.lights a))) _
  rw [addO_comm (some (lr b g a)), addO_assoc]
  rw [addO_comm (some (lr b g a + nth b.lights a))]
  exact LeO.refl _
/-- there is a last lit day -/
theorem last_ex (h : St b g) {j : Nat} (hj : j < b.lights.length) (hw : (g.shop b.lights).want j ≠ 0) : ∃ a, a < j + 1 ∧ Tt b g a (j + 1) = some (lr b g (j + 1)) := by
  have ok := pl_ok h.toPl
  have e1 := row_int h.toPl (k := j + 1) (j := j + 1) (by omega) (Nat.le_refl _)
  obtain ⟨S, s1, s2⟩ := Shop.row_get e1
  have dS := (downTo_down (j + 1)).sub s1
  obtain ⟨y, hy, le⟩ := s2 _ rfl
  cases dS with
  | nil =>
    exfalso
    obtain ⟨p, q, hp, _, _⟩ := addO_some hy
    obtain ⟨p1, p2, _, hp2, _⟩ := addO_some hp
    rw [Nat.zero_add] at hp2
    unfold Shop.mw at hp2
    rw [if_neg hw] at hp2
    cases hp2
  | @cons _ s S hs t =>
    refine ⟨s, hs, LeO.anti (fun z hz => ?_) (lr_le h hs (by omega))⟩
    cases hz
    -- the set costs at least as much
    have big : LeO (Tt b g s (j + 1)) ((g.shop b.lights).sc (s :: S) (j + 1)) := by
      unfold Tt
      obtain ⟨k, ek⟩ : ∃ k, j + 1 = s + k := ⟨j + 1 - s, by omega⟩
      rw [ek, show s + k - s = k by omega]
      unfold Shop.sc
      rw [smO_add, Nat.zero_add]
      have a1 : LeO (smO ((g.shop b.lights).mw S) 0 s) (smO ((g.shop b.lights).mw (s :: S)) 0 s) := smO_mono fun v _ hv => by
        rw [Shop.mw_cons]
        unfold Shop.mw
        by_cases wv : (g.shop b.lights).want v = 0
        · rw [if_pos wv, if_pos wv]
          exact LeO.refl _
        · rw [if_neg wv, if_neg wv, c_before h (by omega) (by omega) wv]
          have : lesO ((g.shop b.lights).mc v S) none = (g.shop b.lights).mc v S := by cases (g.shop b.lights).mc v S <;> rfl
          rw [this]
          exact LeO.refl _
      have a2 : LeO (smO ((g.shop b.lights).c s) s k) (smO ((g.shop b.lights).mw (s :: S)) s k) := smO_mono fun v h1 h2 => by
        rw [Shop.mw_cons]
        by_cases wv : (g.shop b.lights).want v = 0
        · rw [if_pos wv]
          unfold Shop.c
          rw [if_pos wv]
          exact LeO.refl _
        · rw [if_neg wv]
          refine le_lesO (fun z hz => ?_) (LeO.refl _)
          obtain ⟨t', ht, hc⟩ := Shop.mc_get hz
          have := t.lt t' ht
          exact c_later h (by omega) h1 (by omega) z hc
      have a3 : LeO (some (lr b g s)) (addO (smO ((g.shop b.lights).mw S) 0 s) (some ((g.shop b.lights).lights S))) := by
        have := Shop.row_min ok t (show s ≤ b.lights.length by omega) (show s ≤ b.lights.length by omega)
        rw [row_int h.toPl (show s ≤ _ by omega) (Nat.le_refl s)] at this
        exact this
      have e4 : some (lr b g s + nth b.lights s) = addO (some (lr b g s)) (some ((g.shop b.lights).L s)) := rfl
      have e5 : some ((g.shop b.lights).lights (s :: S)) = addO (some ((g.shop b.lights).lights S)) (some ((g.shop b.lights).L s)) := rfl
      rw [e4, e5]
      have g1 : addO (addO (some (lr b g s)) (some ((g.shop b.lights).L s))) (smO ((g.shop b.lights).c s) s k) = addO (addO (some (lr b g s)) (smO ((g.shop b.lights).c s) s k)) (some ((g.shop b.lights).L s)) := by
        rw [addO_assoc, addO_comm (some ((g.shop b.lights).L s)), ← addO_assoc]
      have g2 : ∀ A B L1 L2 : Option Int, addO (addO A B) (addO L1 L2) = addO (addO (addO A L1) B) L2 := fun A B L1 L2 => by
        simp only [addO_assoc]
        congr 1
        rw [← addO_assoc, ← addO_assoc, addO_comm B L1]
      rw [g1, g2]
      refine addO_mono (addO_mono (LeO.trans a3 (addO_mono a1 (LeO.refl _))) a2) (LeO.refl _)
    obtain ⟨w, hw2, le2⟩ := big y hy
    exact ⟨w, hw2, Int.le_trans le2 le⟩
/-- the greatest number below, of which something holds -/
def great (P : Nat → Bool) : Nat → Option Nat
  | 0 => none
  | n + 1 => if P n then some n else great P n
theorem great_some {P : Nat → Bool} : ∀ {n k : Nat}, great P n = some k → k < n ∧ P k = true ∧ ∀ i, k < i → i < n → P i = false
  | 0, k, h => by cases h
  | n + 1, k, h => by
    simp only [great] at h
    split at h
    · rename_i q
      cases h
      exact ⟨by omega, q, fun i h1 h2 => by omega⟩
    · rename_i q
      obtain ⟨h1, h2, h3⟩ := great_some h
      refine ⟨by omega, h2, fun i h4 h5 => ?_⟩
      by_cases hi : i = n
      · subst hi; simpa using q
      · exact h3 i h4 (by omega)
theorem great_ex {P : Nat → Bool} {k : Nat} : ∀ {n : Nat}, k < n → P k = true → ∃ m, great P n = some m ∧ k ≤ m
  | n + 1, h, hp => by
    simp only [great]
    split
    · exact ⟨n, rfl, by omega⟩
    · rename_i q
      exact great_ex (by
        rcases Nat.lt_or_ge k n with z | z
        · exact z
        · have : k = n := by omega
          subst this
          exact absurd hp q) hp
/-- is a a last lit day of a cheapest plan of the first j days -/
def isL (b : Bak) (g : Good) (j a : Nat) : Bool := decide (Tt b g a j = some (lr b g j))
/-- the last lit days -/
def Lz (b : Bak) (g : Good) : Nat → Option Nat
  | 0 => none
  | j + 1 => if g.w j = 0 then Lz b g j else great (isL b g (j + 1)) (j + 1)
theorem Lz_lt : ∀ {j a : Nat}, Lz b g j = some a → a < j
  | 0, a, h => by cases h
  | j + 1, a, h => by
    simp only [Lz] at h
    split at h
    · have := Lz_lt h
      omega
    · exact (great_some h).1
theorem Lz_want (h : St b g) {j : Nat} (hj : j < b.lights.length) (hw : g.w j ≠ 0) : ∃ a, Lz b g (j + 1) = some a ∧ a < j + 1 ∧ Tt b g a (j + 1) = some (lr b g (j + 1)) ∧ ∀ i, a < i → i < j + 1 → Tt b g i (j + 1) ≠ some (lr b g (j + 1)) := by
  obtain ⟨k, hk, ek⟩ := last_ex h hj hw
  obtain ⟨a, ha, _⟩ := great_ex (P := isL b g (j + 1)) hk (decide_eq_true ek)
  obtain ⟨h1, h2, h3⟩ := great_some ha
  refine ⟨a, by simp only [Lz]; rw [if_neg hw, ha], h1, of_decide_eq_true h2, fun i h4 h5 q => ?_⟩
  have := h3 i h4 h5
  unfold isL at this
  rw [decide_eq_true q] at this
  cases this
/-- a day that is the last lit one for some first days -/
theorem Lz_opt (h : St b g) : ∀ {j a : Nat}, j ≤ b.lights.length → Lz b g j = some a → ∃ k, a < k ∧ k ≤ j ∧ Tt b g a k = some (lr b g k)
  | 0, a, _, e => by cases e
  | j + 1, a, hj, e => by
    by_cases hw : g.w j = 0
    · simp only [Lz] at e
      rw [if_pos hw] at e
      obtain ⟨k, h1, h2, h3⟩ := Lz_opt h (by omega) e
      exact ⟨k, h1, by omega, h3⟩
    · obtain ⟨a', ha, h1, h2, _⟩ := Lz_want h (by omega) hw
      rw [e] at ha
      cases ha
      exact ⟨j + 1, h1, Nat.le_refl _, h2⟩
theorem Tt_more {a k m : Nat} (h : a ≤ k) : Tt b g a (k + m) = addO (Tt b g a k) (smO ((g.shop b.lights).c a) k m) := by
  unfold Tt
  rw [show k + m - a = (k - a) + m by omega, smO_add, ← addO_assoc, show a + (k - a) = k by omega]
/-- a later day that is a last lit one earlier on is no worse -/
theorem Tt_better (h : St b g) {a a' k m : Nat} (ha : a' < a) (hk : a < k) (k3 : Tt b g a k = some (lr b g k)) (hm : k ≤ m) (hmn : m ≤ b.lights.length) (t : Tt b g a' m = some (lr b g m)) : Tt b g a m = some (lr b g m) := by
  obtain ⟨c, rfl⟩ : ∃ c, m = k + c := ⟨m - k, by omega⟩
  have le1 : LeO (some (lr b g k)) (Tt b g a' k) := lr_le h (by omega) (by omega)
  rw [← k3] at le1
  have le2 : LeO (smO ((g.shop b.lights).c a) k c) (smO ((g.shop b.lights).c a') k c) := smO_mono fun v h1 h2 => c_later h (by omega) (by omega) (by omega)
  have le3 : LeO (Tt b g a (k + c)) (Tt b g a' (k + c)) := by
    rw [Tt_more (by omega), Tt_more (by omega)]
    exact addO_mono le1 le2
  rw [t] at le3
  exact LeO.anti le3 (lr_le h (by omega) hmn)
theorem Lz_step (h : St b g) {j a : Nat} (hj : j < b.lights.length) (e : Lz b g j = some a) : ∃ a', Lz b g (j + 1) = some a' ∧ a ≤ a' := by
  by_cases hw : g.w j = 0
  · exact ⟨a, by simp only [Lz]; rw [if_pos hw, e], Nat.le_refl a⟩
  · obtain ⟨a', ha, h1, t1, t2⟩ := Lz_want h hj hw
    refine ⟨a', ha, ?_⟩
    rcases Nat.lt_or_ge a' a with lt | ge
    · obtain ⟨k, k1, k2, k3⟩ := Lz_opt h (by omega) e
      exact absurd (Tt_better h lt k1 k3 (by omega) (by omega) t1) (t2 a lt (by omega))
    · exact ge
/-- it never goes back -/
theorem Lz_mono (h : St b g) {i a : Nat} (e1 : Lz b g i = some a) : ∀ {k : Nat}, i + k ≤ b.lights.length → ∃ a', Lz b g (i + k) = some a' ∧ a ≤ a'
  | 0, _ => ⟨a, e1, Nat.le_refl a⟩
  | k + 1, hk => by
    obtain ⟨a1, h1, h2⟩ := Lz_mono h e1 (k := k) (by omega)
    obtain ⟨a2, h3, h4⟩ := Lz_step h (show i + k < _ by omega) h1
    exact ⟨a2, h3, Nat.le_trans h2 h4⟩
end
def gsumF (f : Nat → Int) (i : Nat) : Nat → Int
  | 0 => 0
  | m + 1 => gsumF f i m + f (i + m)
theorem smO_gsumF {f : Nat → Option Int} {i : Nat} : ∀ {m : Nat}, (∀ k, k < m → f (i + k) ≠ none) → smO f i m = some (gsumF (fun v => (f v).getD 0) i m)
  | 0, _ => rfl
  | m + 1, h => by
    rw [smO, smO_gsumF fun v hv => h v (by omega)]
    cases e : f (i + m) with
    | none => exact absurd e (h m (by omega))
    | some x => simp only [addO, gsumF, e, Option.getD_some]
/-! ### as the program reckons them -/
def optN (o : Option Nat) : Option Int := o.map Int.ofNat
def lzD (b : Bak) (g : Good) : List D := (List.range (b.lights.length + 1)).map fun j => optD (optN (Lz b g j))
theorem optN_some {k : Nat} : optN (some k) = some (k : Int) := rfl
theorem optN_none : optN none = none := rfl
theorem max_great {P : Nat → Bool} {n k : Nat} (h : great P n = some k) : biD .maxL [.list (((List.range n).filter P).map fun (i : Nat) => .int i)] = .ok (.int k) := by
  obtain ⟨h1, h2, h3⟩ := great_some h
  have kin : k ∈ (List.range n).filter P := List.mem_filter.mpr ⟨List.mem_range.mpr h1, h2⟩
  have all : ∀ i ∈ (List.range n).filter P, i ≤ k := fun i hi => by
    obtain ⟨i1, i2⟩ := List.mem_filter.mp hi
    have := List.mem_range.mp i1
    rcases Nat.lt_or_ge k i with z | z
    · rw [h3 i z this] at i2
      cases i2
    · exact z
  generalize (List.range n).filter P = L at *
  have io : ∀ L : List Nat, intsOf (L.map fun (i : Nat) => PyData.int i) = some (L.map fun (i : Nat) => (i : Int)) := by
    intro L
    induction L with
    | nil => rfl
    | cons x xs ih => simp only [List.map_cons, intsOf, ih, Option.map_some]
  cases L with
  | nil => cases kin
  | cons x xs =>
    have := io (x :: xs)
    simp only [List.map_cons] at this ⊢
    simp only [biD, this]
    have sp := maxI_spec (xs.map fun (i : Nat) => (i : Int)) x
    have up : maxI x (xs.map fun (i : Nat) => (i : Int)) ≤ k := by
      rcases sp.1 with e | e
      · rw [e]
        have := all x List.mem_cons_self
        omega
      · obtain ⟨u, hu, e2⟩ := List.mem_map.mp e
        have := all u (List.mem_cons_of_mem _ hu)
        omega
    have dn : (k : Int) ≤ maxI x (xs.map fun (i : Nat) => (i : Int)) := by
      rcases List.mem_cons.mp kin with rfl | e
      · exact sp.2.1
      · exact sp.2.2 _ (List.mem_map.mpr ⟨k, e, rfl⟩)
    rw [show maxI x (xs.map fun (i : Nat) => (i : Int)) = k by omega]
theorem set_rng {f : Nat → D} {n i : Nat} {x : D} (h : i < n) : ((List.range n).map f).set i x = (List.range n).map fun k => if k = i then x else f k := by
  apply List.ext_getElem?
  intro k
  rw [List.getElem?_set, List.getElem?_map, List.getElem?_map, List.length_map, List.length_range]
  by_cases hk : k < n
  · rw [List.getElem?_range hk]
    by_cases e : i = k
    · subst e
      rw [if_pos rfl, if_pos hk]
      simp
    · rw [if_neg e]
      have : ¬ k = i := fun q => e q.symm
      simp [this]
  · rw [List.getElem?_eq_none (by simpa using hk)]
    split <;> simp
    omega
namespace Pr
variable {T : Nat → Option Fn}
theorem is_steady_one_ok (X : Ext T) (n : Nat) {b : Bak} {g : Good} (h : St b g) : callN T (n + 1) 80 [b.d] = .ok (.bool true) := by
  have hl := h.len
  have few := h.ok.few
  refine call_do (X 80 _ rfl) rfl ?_
  simp_arith [f_is_steady_one, c_is_steady_one, h.goods]
  refine loop_enm (fun _ => [some b.d, some (.list (g.days.map Row.d)), none, none]) (by simp_arith []) (fun i hi => ?_) (by simp_arith [])
  have nf := h.nof _ (nth_mem hi)
  cases i with
  | zero => simp_arith [b1_is_steady_one, nf, show ¬ (0 : Nat) < 0 by omega]
  | succ i =>
    have c := h.cheap i (by omega)
    have e1 : i + 1 - 1 = i := by omega
    have ng : ¬ ((nth g.days i).loaf + (nth g.days i).keep < (nth g.days (i + 1)).loaf) := by omega
    simp_arith [b1_is_steady_one, nf, e1, ng]
theorem look_at_steady_ok (X : Ext T) (n : Nat) {b : Bak} {g : Good} (h : St b g) : callN T (n + 9) 82 [b.d] = .ok .none := by
  refine call_no (P := [some b.d]) (X 82 _ rfl) rfl rfl ?_
  simp_arith [f_look_at_steady, c_look_at_steady, look_at_plain_ok X n h.toPl, is_steady_one_ok X (n + 7) h]
theorem last_lits_of_ok (X : Ext T) (n : Nat) {b : Bak} {g : Good} (h : St b g) : callN T (n + 5) 83 [b.d, .list (lrD b g)] = .ok (.list (lzD b g)) := by
  have hl := h.len
  have few := h.ok.few
  have ln : (lrD b g).length = b.lights.length + 1 := by simp [lrD]
  have wf : ∀ s, s < b.lights.length → callN T (n + 4) 63 [g.d, .int (s : Nat)] = .ok (.list (rowL ((g.shop b.lights).c s) b.lights.length)) := fun s hs => wants_from_ok X n h.gok b.lights hs few.2
  have li : ∀ k, k < b.lights.length + 1 → ixD (.list (lrD b g)) (.int (k : Nat)) = .ok (.int (lr b g k)) := fun k hk => ixR hk
  have tt0 : ∀ a, Tt b g a 0 = some (lr b g a + nth b.lights a) := fun a => by
    unfold Tt
    rw [Nat.zero_sub]
    simp [smO, addO]
  refine call_do (X 83 _ rfl) rfl ?_
  have lzip : ∀ p ∈ b.lights.zipIdx, p.2 < b.lights.length + 1 ∧ p.1 = nth b.lights p.2 := fun p hp => by
    obtain ⟨x, i⟩ := p
    have := List.mem_zipIdx hp
    refine ⟨by have := this.2.1; omega, ?_⟩
    have e := this.2.2
    simp only [Nat.zero_add] at this
    rw [nth_eq (by omega)]
    simpa using e
  have ez : (b.lights.zipIdx.map fun p => PyData.int (lr b g p.2 + p.1)) = (List.range b.lights.length).map fun a => optD (Tt b g a 0) := by
    apply List.ext_getElem?
    intro k
    rw [List.getElem?_map, List.getElem?_map, List.getElem?_zipIdx]
    by_cases hk : k < b.lights.length
    · rw [List.getElem?_range hk, nth_get hk]
      simp [tt0]
    · rw [List.getElem?_eq_none (by omega), List.getElem?_eq_none (by simpa using hk)]
      rfl
  have li2 : ∀ p ∈ b.lights.zipIdx, ixD (.list (lrD b g)) (.int (p.2 : Nat)) = .ok (.int (lr b g p.2)) := fun p hp => ixR (lzip p hp).1
  have nsub : b.lights.length + 1 - 1 = b.lights.length := by omega
  simp_arith [f_last_lits_of, c_last_lits_of, h.goods, ln, nsub, wf, li2, ez]
  refine loop_enm (fun i => [some b.d, some (.list (lrD b g)), some g.d, some (.list ((List.range b.lights.length).map fun s => .list (rowL ((g.shop b.lights).c s) b.lights.length))), some (.list ((List.range b.lights.length).map fun a => optD (Tt b g a i))), some (.list ((List.range (i + 1)).map fun j => optD (optN (Lz b g j)))), none, none, none, none]) (by simp_arith [List.range_succ, List.range_zero, Lz, optN_none]) (fun i hi => ?_) ?_
  rotate_left
  · simp_arith [hl]
    rfl
  · have ci : ∀ a, ixD (.list (rowL ((g.shop b.lights).c a) b.lights.length)) (.int i) = .ok (optD ((g.shop b.lights).c a i)) := fun a => rowL_ix (by omega)
    simp_arith [b2_last_lits_of]
    refine Nx.nx (loop_rng (fun k => [some b.d, some (.list (lrD b g)), some g.d, some (.list ((List.range b.lights.length).map fun s => .list (rowL ((g.shop b.lights).c s) b.lights.length))), some (.list ((List.range b.lights.length).map fun a => optD (if a < k then Tt b g a (i + 1) else Tt b g a i))), some (.list ((List.range (i + 1)).map fun j => optD (optN (Lz b g j)))), some (.int i), some (nth g.days i).d, none, none]) (by simp_arith [show ∀ a : Nat, ¬ a < 0 by omega]) (fun k hk => ?_) ?_)
    · have st : addO (Tt b g k i) ((g.shop b.lights).c k i) = Tt b g k (i + 1) := by
        rw [Tt_more (show k ≤ i by omega) (m := 1)]
        simp only [smO, Nat.add_zero]
        rw [addO_comm (some 0), addO_zero]
      simp_arith [b1_last_lits_of, ci, together_ok X (n + 3), show ¬ k < k by omega, st, set_rng]
      congr 1
      refine List.map_congr_left fun a _ => ?_
      by_cases e : a = k
      · subst e
        simp
      · by_cases q : a < k
        · simp [e, q, show a < k + 1 by omega]
        · simp [e, q, show ¬ a < k + 1 by omega]
    · have et : ((List.range b.lights.length).map fun a => optD (if a < i + 1 then Tt b g a (i + 1) else Tt b g a i)) = (List.range b.lights.length).map fun a => optD (Tt b g a (i + 1)) := by
        refine List.map_congr_left fun a _ => ?_
        by_cases q : a < i + 1
        · rw [if_pos q]
        · rw [if_neg q]
          unfold Tt
          rw [show i - a = 0 by omega, show i + 1 - a = 0 by omega]
      rw [et]
      have w : g.w i = (nth g.days i).want := rfl
      have la : ixD (.list ((List.range (i + 1)).map fun j => optD (optN (Lz b g j)))) (.int (-1)) = .ok (optD (optN (Lz b g i))) := by
        rw [List.range_succ, List.map_append, List.map_cons, List.map_nil, ix_last]
      by_cases hw : (nth g.days i).want = 0
      · have e : Lz b g (i + 1) = Lz b g i := by simp only [Lz]; rw [w, if_pos hw]
        simp_arith [hw, la, List.range_succ (n := i + 1), List.map_append, e]
      · obtain ⟨a, ha, _⟩ := Lz_want h (by omega) (show g.w i ≠ 0 from hw)
        have ha2 : great (isL b g (i + 1)) (i + 1) = some a := by
          simp only [Lz] at ha
          rwa [w, if_neg hw] at ha
        have mg := max_great ha2
        have eo : ∀ o : Option Int, cmpD .eq (optD o) (.int (lr b g (i + 1))) = .ok (decide (o = some (lr b g (i + 1)))) := fun o => eq_opt o (some _)
        have fe : ∀ x, decide (Tt b g x (i + 1) = some (lr b g (i + 1))) = isL b g (i + 1) x := fun _ => rfl
        simp_arith [hw, li, eo, fe, mg, List.range_succ (n := i + 1), List.map_append, ha, optN_some]
theorem last_lits_ok (X : Ext T) (n : Nat) {b : Bak} {g : Good} (h : St b g) : callN T (n + 11) 84 [b.d] = .ok (.list (lzD b g)) := by
  refine call_do (X 84 _ rfl) rfl ?_
  simp_arith [f_last_lits, c_last_lits, look_at_steady_ok X (n + 1) h, least_row_int X (n + 1) h.toPl, last_lits_of_ok X (n + 5) h]
theorem stretch_of_ok (X : Ext T) (n : Nat) {b : Bak} {g : Good} (h : g.Ok b.lights.length) (hm : b.lights.length ≤ 40) {s f l : Nat} (hs : s < b.lights.length) (hf : f ≤ l) (hl : l < b.lights.length) : callN T (n + 3) 35 [g.d, .int s, .int f, .int l] = .ok (optD (smO ((g.shop b.lights).c s) f (l + 1 - f))) := by
  have ln := h.1
  refine call_do (X 35 _ rfl) rfl ?_
  simp_arith [f_stretch_of, c_stretch_of]
  have lo := fun o => loop_orE (C := callN T (n + 2)) (t := .cons (.ret (.v 4)) .nil) (b := b1_stretch_of) (g := .n 5) (h := fun i => .int (f + i : Nat)) (n := l + 1 - f) (d := .none) (o := o) (ρ := [some g.d, some (.int s), some (.int f), some (.int l), some (.int 0), none, none, none])
    (fun i => [some g.d, some (.int s), some (.int f), some (.int l), some (.int (gsumF (fun v => ((g.shop b.lights).c s v).getD 0) f i)), none, none, none])
    (fun i => (g.shop b.lights).c s (f + i) = none) (by simp_arith [gsumF]) (fun i hi pi => ?_) (fun i hi pi => ?_)
  · by_cases z : ∃ i, i < l + 1 - f ∧ (g.shop b.lights).c s (f + i) = none
    · obtain ⟨i, hi, ei⟩ := z
      have e : smO ((g.shop b.lights).c s) f (l + 1 - f) = none := by
        cases q : smO ((g.shop b.lights).c s) f (l + 1 - f) with
        | none => rfl
        | some x =>
          obtain ⟨y, hy⟩ := smO_some q (f + i) (by omega) (by omega)
          rw [ei] at hy
          cases hy
      rw [e]
      exact (lo (.rt .none)).1 ⟨i, hi, ei⟩
    · have e : smO ((g.shop b.lights).c s) f (l + 1 - f) = some (gsumF (fun v => ((g.shop b.lights).c s v).getD 0) f (l + 1 - f)) := smO_gsumF fun k hk q => z ⟨k, hk, q⟩
      rw [e]
      exact (lo _).2 z (by simp_arith [])
  all_goals
    have v1 : f + i < g.days.length := by omega
    have nw := (h.2.2 _ (nth_mem v1)).1
    have lp : callN T (n + 2) 30 [g.d, .int s, .int (f + i : Nat)] = .ok (optD (g.price s (f + i))) := price_of_ok X n g s (f + i) (by omega)
    have hw : (g.shop b.lights).want (f + i) = (nth g.days (f + i)).want := rfl
    have hp : (g.shop b.lights).p s (f + i) = g.price s (f + i) := rfl
  · unfold Shop.c at pi
    rw [hw, hp] at pi
    split at pi
    · cases pi
    · rename_i q
      have w0 : 0 < (nth g.days (f + i)).want := by have := nw.1; omega
      have pn : g.price s (f + i) = none := by simpa using pi
      simp_arith [b1_stretch_of, lp, w0, pn]
  · by_cases q : (nth g.days (f + i)).want = 0
    · have e : gsumF (fun v => ((g.shop b.lights).c s v).getD 0) f (i + 1) = gsumF (fun v => ((g.shop b.lights).c s v).getD 0) f i := by
        simp only [gsumF]
        have : (g.shop b.lights).c s (f + i) = some 0 := by unfold Shop.c; rw [hw, if_pos q]
        rw [this]
        simp
      simp_arith [b1_stretch_of, lp, q, e, show ¬ (0 : Int) < 0 by omega]
    · have w0 : 0 < (nth g.days (f + i)).want := by have := nw.1; omega
      obtain ⟨y, hy⟩ := Option.ne_none_iff_exists'.mp pi
      have hy2 := hy
      unfold Shop.c at hy2
      rw [hw, hp, if_neg q, Option.map_eq_some_iff] at hy2
      obtain ⟨x, hx, ex⟩ := hy2
      have e : gsumF (fun v => ((g.shop b.lights).c s v).getD 0) f (i + 1) = gsumF (fun v => ((g.shop b.lights).c s v).getD 0) f i + (nth g.days (f + i)).want * x := by
        simp only [gsumF, hy, Option.getD_some]
        rw [← ex]
      have mul := mul_small (i := (nth g.days (f + i)).want) (j := x) (by have := nw.2; omega)
      rw [e]
      simp_arith [b1_stretch_of, lp, w0, hx, mul]
theorem stretch_price_ok (X : Ext T) (n : Nat) {b : Bak} (h : b.Ok) {k s f l : Nat} (hk : k < b.goods.length) (hs : s < b.lights.length) (hf : f ≤ l) (hl : l < b.lights.length) : callN T (n + 7) 36 [b.d, .int k, .int s, .int f, .int l] = .ok (optD (smO (((nth b.goods k).shop b.lights).c s) f (l + 1 - f))) := by
  refine call_do (X 36 _ rfl) rfl ?_
  simp_arith [f_stretch_price, c_stretch_price, b1_stretch_price, look_at_bakery_ok X n h, look_at_number_ok X (n + 3) hk, fun d (hd : d < b.lights.length) => look_at_day_ok X (n + 3) hd, stretch_of_ok X (n + 3) (h.good _ (nth_mem hk)) h.few.2 hs hf hl, show ¬ l < f by omega]
end Pr
/-! ### the steady bakeries that laws draw -/
/-- the days made steady -/
def std (rs : List Row) : Nat → Row
  | 0 => ⟨(nth rs 0).want, (nth rs 0).loaf, (nth rs 0).keep, none⟩
  | i + 1 => ⟨(nth rs (i + 1)).want, if (std rs i).loaf + (std rs i).keep < (nth rs (i + 1)).loaf then (std rs i).loaf + (std rs i).keep else (nth rs (i + 1)).loaf, (nth rs (i + 1)).keep, none⟩
theorem std_ok {rs : List Row} (h : ∀ r ∈ rs, r.Ok) : ∀ {i : Nat}, i < rs.length → (std rs i).Ok
  | 0, hi => by
    have := h _ (nth_mem hi)
    exact ⟨this.1, this.2.1, this.2.2.1, trivial⟩
  | i + 1, hi => by
    have h1 := h _ (nth_mem hi)
    have h2 := std_ok h (show i < rs.length by omega)
    refine ⟨h1.1, ?_, h1.2.2.1, trivial⟩
    simp only [std]
    have a := h1.2.1
    have c := h2.2.1
    have d := h2.2.2.1
    unfold Num at *
    split <;> omega
theorem below2 {ds : List Int} {s0 s1 : Int} (h : Below ds [s0, s1]) : ∃ a b : Int, ds = [a, b] ∧ (0 ≤ a ∧ a < s0) ∧ (0 ≤ b ∧ b < s1) := by
  match ds, h with
  | [a, b], h => exact ⟨a, b, rfl, h.1, h.2.1⟩
namespace Pr
variable {T : Nat → Option Fn}
theorem law_steady_ok (X : Ext T) (n : Nat) (ns : List Int) (upt : Nat) (salt : Int) (h0 : 0 ≤ salt) (h1 : salt ≤ 800000) (hu : 2 ≤ upt ∧ upt ≤ 41) :
    ∃ (b : Bak) (g : Good), callN T (n + 3) 92 [.list (ns.map .int), .int upt, .int salt] = .ok b.d ∧ St b g ∧ b.lights.length = max 2 (min upt ns.length) - 1 := by
  obtain ⟨hd, e1, bl⟩ := numbers_ok X (n + 1) (cellAt ns 0) salt [3, 12] h0 (by omega) (by decide) (by decide)
  obtain ⟨a, b, rfl, ha, hb⟩ := below2 bl
  have ec : callN T (n + 2) 11 [.list (ns.map .int), .int 0] = .ok (.int (cellAt ns 0)) := cell_at_ok X (n + 1) ns 0
  obtain ⟨ls, rs, e2, k1, k2, k3, k4⟩ := days_ok X n ns 1 upt salt false h0 (by omega) (by omega) (by omega)
  obtain ⟨l1, m1, i1⟩ := opt_at (os := lives) hb.1 (by simp [lives]; omega)
  have e1' : callN T (n + 2) 4 [.int (cellAt ns 0), .int salt, .list [.int 3, .int 12]] = .ok (.list [.int a, .int b]) := e1
  have i1' : ixD (.list [.none, .none, .int 0, .int 1, .int 2, .int 3, .int 4, .int 5, .int 7, .int 11, .int 23, .int 40]) (.int b) = .ok (optD l1) := i1
  have e2' : callN T (n + 2) 13 [.list (ns.map .int), .int 1, .int upt, .int salt, .bool false] = .ok (.tuple [.list (ls.map .int), .list (rs.map Row.d)]) := e2
  have nt : ∀ i, i < rs.length → nth ((List.range rs.length).map (std rs)) i = std rs i := fun i hi => by rw [nth_map (by simpa using hi), nth_range hi]
  refine ⟨⟨ls, none, [⟨(List.range rs.length).map (std rs), l1⟩]⟩, ⟨(List.range rs.length).map (std rs), l1⟩, call_do (X 92 _ rfl) rfl ?_, ⟨⟨⟨⟨by show 1 ≤ ls.length; omega, by show ls.length ≤ 40; omega⟩, k3, trivial, ⟨by simp, by simp⟩, ?_⟩, rfl, rfl⟩, ?_, ?_⟩, by show ls.length = _; omega⟩
  · simp_arith [f__law_steady, c__law_steady, ec, e1', e2', i1']
    refine loop_map (fun i => [some (.list (ns.map .int)), some (.int upt), some (.int salt), some (.list [.int a, .int b]), some (.list (ls.map .int)), some (.list (rs.map Row.d)), some (.list ((List.range i).map fun k => (std rs k).d)), none, none, none, none, none]) (by simp_arith [List.range_zero]) (fun i hi => ?_) ?_
    · have nn : cmpD .ne (.list ((List.range i).map fun k => (std rs k).d)) (.list []) = .ok (!((List.range i).map fun k => (std rs k).d).isEmpty) := ne_nil (plains_map fun k _ => plain_row _ 59)
      cases i with
      | zero =>
        have n0 : cmpD .ne (.list []) (.list []) = .ok false := ne_nil (xs := []) (by simp [plains])
        simp_arith [b1__law_steady, n0, List.range_zero, List.range_succ]
        simp [std, Row.d]
      | succ i =>
        have em : ((List.range (i + 1)).map fun k => (std rs k).d).isEmpty = false := by simp [List.range_succ]
        have la : ixD (.list ((List.range (i + 1)).map fun k => (std rs k).d)) (.int (-1)) = .ok (std rs i).d := by
          rw [List.range_succ, List.map_append, List.map_cons, List.map_nil, ix_last]
        simp_arith [b1__law_steady, nn, em, la, List.range_succ (n := i + 1), List.map_append]
        rfl
    · simp_arith [i1']
      show PyData.tuple [_, _, .list [.tuple [.list (((List.range rs.length).map (std rs)).map Row.d), optD l1]]] = _
      rw [List.map_map]
      rfl
  · intro g hg
    rw [List.mem_singleton] at hg
    subst hg
    refine ⟨by simp [k2], life_ok m1, fun r hr => ?_⟩
    obtain ⟨i, hi, rfl⟩ := List.mem_map.mp hr
    exact std_ok k4 (List.mem_range.mp hi)
  · intro r hr
    obtain ⟨i, hi, rfl⟩ := List.mem_map.mp hr
    cases i <;> rfl
  · intro i hi
    have hi' : i + 1 < rs.length := by rw [k2]; exact hi
    show (nth ((List.range rs.length).map (std rs)) (i + 1)).loaf ≤ (nth ((List.range rs.length).map (std rs)) i).loaf + (nth ((List.range rs.length).map (std rs)) i).keep
    rw [nt _ hi', nt _ (by omega)]
    simp only [std]
    split <;> omega
end Pr
/-! ### the first days alone -/
theorem st_first {b : Bak} {g : Good} (h : St b g) {k : Nat} (h1 : 1 ≤ k) (h2 : k ≤ b.lights.length) : St ⟨b.lights.take k, none, [⟨g.days.take k, g.life⟩]⟩ ⟨g.days.take k, g.life⟩ where
  toPl := pl_first h.toPl h1 h2
  nof := fun r hr => h.nof r (List.mem_of_mem_take hr)
  cheap := fun i hi => by
    have l : (b.lights.take k).length = k := by rw [List.length_take]; omega
    have hi' : i + 1 < k := by rw [← l]; exact hi
    show (nth (g.days.take k) (i + 1)).loaf ≤ (nth (g.days.take k) i).loaf + (nth (g.days.take k) i).keep
    rw [nth_take hi', nth_take (by omega)]
    exact h.cheap i (by omega)
theorem Tt_first {b : Bak} {g : Good} (h : Pl b g) {a j k : Nat} (ha : a < j) (hj : j ≤ k) (h2 : k ≤ b.lights.length) : Tt ⟨b.lights.take k, none, [⟨g.days.take k, g.life⟩]⟩ ⟨g.days.take k, g.life⟩ a j = Tt b g a j := by
  unfold Tt
  rw [lr_first h (by omega) h2]
  show addO (some (lr b g a + nth (b.lights.take k) a)) _ = _
  rw [nth_take (by omega)]
  congr 1
  refine smO_congr fun v h3 h4 => ?_
  unfold Shop.c
  show (if (nth (g.days.take k) v).want = 0 then _ else ((⟨g.days.take k, g.life⟩ : Good).price a v).map fun x => (nth (g.days.take k) v).want * x) = (if (nth g.days v).want = 0 then _ else (g.price a v).map fun x => (nth g.days v).want * x)
  rw [nth_take (by omega), price_first (by omega) (by omega) (by rw [h.len]; omega)]
theorem great_congr {P Q : Nat → Bool} : ∀ {n : Nat}, (∀ i, i < n → P i = Q i) → great P n = great Q n
  | 0, _ => rfl
  | n + 1, h => by
    have ih := great_congr (P := P) (Q := Q) (n := n) fun i hi => h i (by omega)
    simp only [great, h n (by omega), ih]
theorem Lz_first {b : Bak} {g : Good} (h : Pl b g) {k : Nat} (h2 : k ≤ b.lights.length) : ∀ {j : Nat}, j ≤ k → Lz ⟨b.lights.take k, none, [⟨g.days.take k, g.life⟩]⟩ ⟨g.days.take k, g.life⟩ j = Lz b g j
  | 0, _ => rfl
  | j + 1, hj => by
    simp only [Lz]
    have w : (⟨g.days.take k, g.life⟩ : Good).w j = g.w j := by
      show (nth (g.days.take k) j).want = (nth g.days j).want
      rw [nth_take (by omega)]
    rw [w, Lz_first h h2 (by omega)]
    congr 1
    refine great_congr fun i hi => ?_
    unfold isL
    rw [Tt_first h hi hj h2, lr_first h hj h2]
theorem lzD_first {b : Bak} {g : Good} (h : Pl b g) {k : Nat} (h2 : k ≤ b.lights.length) : lzD ⟨b.lights.take k, none, [⟨g.days.take k, g.life⟩]⟩ ⟨g.days.take k, g.life⟩ = (lzD b g).take (k + 1) := by
  have l : (b.lights.take k).length = k := by rw [List.length_take]; omega
  unfold lzD
  show (List.range ((b.lights.take k).length + 1)).map _ = _
  rw [l, ← List.map_take]
  have e : (List.range (b.lights.length + 1)).take (k + 1) = List.range (k + 1) := by
    apply List.ext_getElem?
    intro i
    rw [List.getElem?_take]
    by_cases hi : i < k + 1
    · rw [if_pos hi, List.getElem?_range hi, List.getElem?_range (by omega)]
    · rw [if_neg hi, List.getElem?_eq_none (by simpa using hi)]
  rw [e]
  refine List.map_congr_left fun j hj => ?_
  rw [Lz_first h h2 (by have := List.mem_range.mp hj; omega)]
theorem eq_self {k : Nat} {d : D} (h : plain k d = true) (hk : k ≤ 64) : cmpD .eq d d = .ok true := by
  rw [cmp_eqD (sh_plain h hk) (sh_plain h hk), SeqAt.eqv_refl d (plain_lay k d h).1]
theorem ne_self {k : Nat} {d : D} (h : plain k d = true) (hk : k ≤ 64) : cmpD .ne d d = .ok false := by
  rw [cmp_neD (sh_plain h hk) (sh_plain h hk), SeqAt.eqv_refl d (plain_lay k d h).1]
  rfl
end Bk
/-! Bk: a cheapest plan. -/
namespace Bk
open PySem
theorem non_some {H : Shop} : ∀ {u : Nat} {x : Int}, H.non u = some x → x = 0 ∧ ∀ v, v < u → H.want v = 0
  | 0, x, h => by
    simp only [Shop.non, Option.some.injEq] at h
    exact ⟨h.symm, fun v hv => by omega⟩
  | u + 1, x, h => by
    simp only [Shop.non] at h
    split at h
    · rename_i w
      obtain ⟨h1, h2⟩ := non_some h
      refine ⟨h1, fun v hv => ?_⟩
      by_cases e : v = u
      · subst e; exact w
      · exact h2 v (by omega)
    · cases h
/-- from which day on a lit day bakes -/
def Shop.bg (H : Shop) (k u : Nat) : Option Nat := great (fun j => decide (addO (addO (H.row (downTo k) j) (smO (H.c k) j (u - j))) (some (H.L k)) = H.row (downTo (k + 1)) u)) u
/-- who bakes for whom -/
def Shop.lots (H : Shop) : Nat → Nat → List (Nat × Nat × Nat)
  | 0, _ => []
  | k + 1, u => if H.row (downTo (k + 1)) u = H.row (downTo k) u then H.lots k u else match H.bg k u with
    | none => []
    | some j => H.lots k j ++ [(k, j, u)]
namespace Shop
variable {H : Shop} {n : Nat}
theorem bg_some {k u : Nat} {x : Int} (hx : H.row (downTo (k + 1)) u = some x) (ne : H.row (downTo (k + 1)) u ≠ H.row (downTo k) u) : ∃ j, H.bg k u = some j ∧ j < u ∧ ∃ a b, H.row (downTo k) j = some a ∧ smO (H.c k) j (u - j) = some b ∧ x = a + b + H.L k := by
  have e : H.row (downTo (k + 1)) u = lesO (H.row (downTo k) u) (H.own k (H.row (downTo k)) u) := rfl
  rcases lesO_or (H.row (downTo k) u) (H.own k (H.row (downTo k)) u) with q | q
  · rw [q] at e; exact absurd e ne
  · rw [q] at e
    have e2 := hx
    rw [e] at e2
    unfold own at e2
    obtain ⟨y, z, hy, hz, rfl⟩ := addO_some e2
    cases hz
    obtain ⟨i, hi, a, b, h1, h2, rfl⟩ := bestO_get hy
    obtain ⟨m, hm, _⟩ := great_ex (P := fun j => decide (addO (addO (H.row (downTo k) j) (smO (H.c k) j (u - j))) (some (H.L k)) = H.row (downTo (k + 1)) u)) hi (by
      rw [decide_eq_true_eq, h1, h2, hx]
      rfl)
    obtain ⟨m1, m2, _⟩ := great_some hm
    rw [decide_eq_true_eq, hx] at m2
    obtain ⟨p, q2, hp, hq, e3⟩ := addO_some m2
    obtain ⟨p1, p2, hp1, hp2, rfl⟩ := addO_some hp
    cases hq
    exact ⟨m, hm, m1, p1, p2, hp1, hp2, e3⟩
end Shop
/-- lots, one behind the other -/
inductive Lots (H : Shop) : Nat → Nat → List (Nat × Nat × Nat) → Prop
  | nil {k u : Nat} (h : ∀ v, v < u → H.want v = 0) : Lots H k u []
  | snoc {k d b t : Nat} {ls : List (Nat × Nat × Nat)} {z : Int} (h : d < k) (hb : b < t) (l : Lots H d b ls) (hz : smO (H.c d) b (t - b) = some z) (w : ∃ v, b ≤ v ∧ v < t ∧ H.want v ≠ 0) : Lots H k t (ls ++ [(d, b, t)])
theorem Lots.up {H : Shop} {k m u : Nat} {ls : List (Nat × Nat × Nat)} (h : Lots H k u ls) (l : k ≤ m) : Lots H m u ls := by
  cases h with
  | nil h => exact .nil h
  | snoc h hb l2 hz w => exact .snoc (by omega) hb l2 hz w
/-- what a lot costs -/
def lotC (H : Shop) (p : Nat × Nat × Nat) : Int := H.L p.1 + (smO (H.c p.1) p.2.1 (p.2.2 - p.2.1)).getD 0
theorem smO_zero {f : Nat → Option Int} {i : Nat} : ∀ {m : Nat}, (∀ v, i ≤ v → v < i + m → f v = some 0) → smO f i m = some 0
  | 0, _ => rfl
  | m + 1, h => by
    simp only [smO, smO_zero (m := m) fun v h1 h2 => h v h1 (by omega), h (i + m) (by omega) (by omega)]
    rfl
theorem row_zeros {H : Shop} {n : Nat} (ok : H.Ok n) {k i : Nat} (hk : k ≤ n) : ∀ {m : Nat}, i + m ≤ n → (∀ v, i ≤ v → v < i + m → H.want v = 0) → H.row (downTo k) (i + m) = H.row (downTo k) i
  | 0, _, _ => rfl
  | m + 1, h, w => by
    have := H.row_zero ok hk (v := i + m) (by omega) (w (i + m) (by omega) (by omega))
    rw [show i + (m + 1) = i + m + 1 by omega, this]
    exact row_zeros ok hk (by omega) fun v h1 h2 => w v h1 (by omega)
theorem lots_ok {H : Shop} {n : Nat} (ok : H.Ok n) : ∀ {k u : Nat} {x : Int}, k ≤ n → u ≤ n → H.row (downTo k) u = some x → Lots H k u (H.lots k u) ∧ x = ((H.lots k u).map (lotC H)).sum
  | 0, u, x, hk, hu, hx => by
    obtain ⟨h1, h2⟩ := non_some (H := H) hx
    exact ⟨.nil h2, h1⟩
  | k + 1, u, x, hk, hu, hx => by
    unfold Shop.lots
    by_cases q : H.row (downTo (k + 1)) u = H.row (downTo k) u
    · rw [if_pos q]
      rw [q] at hx
      obtain ⟨h1, h2⟩ := lots_ok ok (by omega) hu hx
      exact ⟨h1.up (by omega), h2⟩
    · rw [if_neg q]
      obtain ⟨j, h1, h2, a, b, h3, h4, h5⟩ := Shop.bg_some hx q
      rw [h1]
      dsimp only
      obtain ⟨i1, i2⟩ := lots_ok ok (k := k) (u := j) (by omega) (by omega) h3
      constructor
      · refine .snoc (by omega) h2 i1 h4 ?_
        rcases Classical.em (∃ v, j ≤ v ∧ v < u ∧ H.want v ≠ 0) with w | w
        · exact w
        · exfalso
          have wz : ∀ v, j ≤ v → v < j + (u - j) → H.want v = 0 := fun v v1 v2 => by
            rcases Classical.em (H.want v = 0) with z | z
            · exact z
            · exact absurd ⟨v, v1, by omega, z⟩ w
          have s0 : smO (H.c k) j (u - j) = some 0 := smO_zero fun v v1 v2 => by
            unfold Shop.c
            rw [if_pos (wz v v1 v2)]
          rw [s0] at h4
          cases h4
          have rz := row_zeros ok (k := k) (i := j) (m := u - j) (by omega) (by omega) wz
          rw [show j + (u - j) = u by omega] at rz
          have L0 := ok.l k (by omega)
          have sub : LeO (H.row (downTo (k + 1)) u) (H.row (downTo k) u) := by
            show LeO (lesO (H.row (downTo k) u) _) _
            exact lesO_l _ _
          rw [rz, h3, hx] at sub
          have := LeO.some.mp sub
          apply q
          rw [hx, rz, h3]
          congr 1
          omega
      · rw [List.map_append, List.sum_append, ← i2]
        simp only [List.map_cons, List.map_nil, List.sum_cons, List.sum_nil, lotC, h4, Option.getD_some]
        omega
end Bk
/-! Bk: the walk to a cheapest plan. -/
namespace Bk
open PySem
theorem downs_map (a : Int) : ∀ n, downs a (-1) n = (List.range n).map fun (i : Nat) => .int (a - i)
  | 0 => rfl
  | n + 1 => by
    simp only [downs]
    rw [List.range_succ_eq_map, List.map_cons, List.map_map, downs_map (a + -1) n]
    congr 1
    · simp
    · refine List.map_congr_left fun i _ => ?_
      show PyData.int (a + -1 - i) = .int (a - ((i + 1 : Nat) : Int))
      congr 1
      omega
theorem rngDn {u : Nat} (h : 1 ≤ u ∧ u ≤ 40) : rngD [.int ((u - 1 : Nat) : Int), .int (-1), .int (-1)] = .ok ((List.range u).map fun (i : Nat) => .int ((u - 1 - i : Nat) : Int)) := by
  have e : rngD [.int ((u - 1 : Nat) : Int), .int (-1), .int (-1)] = if smallI ((u - 1 : Nat) : Int) && smallI (-1) then .ok (downs ((u - 1 : Nat) : Int) (-1) ((((u - 1 : Nat) : Int) - (-1)).toNat)) else .bad := rfl
  have s1 : smallI ((u - 1 : Nat) : Int) = true := by simp only [smallI, Bool.and_eq_true, decide_eq_true_eq]; omega
  have s2 : smallI (-1) = true := by decide
  rw [e, s1, s2]
  simp only [Bool.and_self, if_true]
  rw [show (((u - 1 : Nat) : Int) - (-1)).toNat = u by omega, downs_map]
  congr 1
  refine List.map_congr_left fun i hi => ?_
  have := List.mem_range.mp hi
  congr 1
  omega
namespace Pr
variable {T : Nat → Option Fn}
theorem begin_of_ok (X : Ext T) (n : Nat) (c R : Nat → Option Int) (cost : Int) {u m j : Nat} (hu : u ≤ m) (hm : m ≤ 40) (hj : great (fun j => decide (addO (R j) (smO c j (u - j)) = some cost)) u = some j) : callN T (n + 1) 73 [.int cost, .list (rowL c m), .list (rowL R (m + 1)), .int u] = .ok (.int j) := by
  obtain ⟨j1, j2, j3⟩ := great_some hj
  rw [decide_eq_true_eq] at j2
  obtain ⟨a, z, ha, hz, rfl⟩ := addO_some j2
  have ci : ∀ d, d < m → ixD (.list (rowL c m)) (.int (d : Nat)) = .ok (optD (c d)) := fun d hd => rowL_ix hd
  have Ri : ∀ d, d < m → ixD (.list (rowL R (m + 1))) (.int (d : Nat)) = .ok (optD (R d)) := fun d hd => rowL_ix (by omega)
  have rd := rngDn (u := u) (by omega)
  have cs : ∀ d, j ≤ d → d < u → ∃ y, c d = some y := fun d d1 d2 => smO_some hz d d1 (by omega)
  have sm : ∀ i, i ≤ u - j → ∃ t, smO c (u - i) i = some t := by
    intro i
    induction i with
    | zero => intro _; exact ⟨0, rfl⟩
    | succ i ih =>
      intro hi
      obtain ⟨t, ht⟩ := ih (by omega)
      obtain ⟨y, hy⟩ := cs (u - (i + 1)) (by omega) (by omega)
      rw [smO_cons, hy, show u - (i + 1) + 1 = u - i by omega, ht]
      exact ⟨_, rfl⟩
  refine call_do (X 73 _ rfl) rfl ?_
  simp_arith [f_begin_of, c_begin_of, rd]
  refine loop_hit (fun i => [some (.int (a + z)), some (.list (rowL c m)), some (.list (rowL R (m + 1))), some (.int u), some (.int ((smO c (u - i) i).getD 0)), none]) (by simp_arith [smO, Option.getD_some]) (u - 1 - j) (fun i y hi hy => ?_) (y := .int (j : Nat)) ?_ ?_
  · rw [List.getElem?_map, List.getElem?_range (by omega)] at hy
    cases hy
    obtain ⟨t, ht⟩ := sm i (by omega)
    obtain ⟨y, hy⟩ := cs (u - 1 - i) (by omega) (by omega)
    have ht2 : smO c (u - (i + 1)) (i + 1) = some (t + y) := by
      rw [smO_cons, show u - (i + 1) = u - 1 - i by omega, hy, show u - 1 - i + 1 = u - i by omega, ht, Int.add_comm t y]
      rfl
    have no := j3 (u - 1 - i) (by omega) (by omega)
    rw [decide_eq_false_iff_not, show u - (u - 1 - i) = i + 1 by omega, show u - 1 - i = u - (i + 1) by omega, ht2] at no
    rw [ht, ht2]
    have hd : u - 1 - i < m := by omega
    cases hR : R (u - (i + 1)) with
    | none => 
      rw [show u - (i + 1) = u - 1 - i by omega] at hR
      simp_arith [b1_begin_of, ci _ hd, Ri _ hd, hy, hR, Option.getD_some]
    | some r =>
      rw [hR] at no
      have ne : ¬ (r + (t + y) = a + z) := fun q => no (by
        show some (r + (t + y)) = _
        rw [q])
      rw [show u - (i + 1) = u - 1 - i by omega] at hR
      simp_arith [b1_begin_of, ci _ hd, Ri _ hd, hy, hR, ne, Option.getD_some]
  · rw [List.getElem?_map, List.getElem?_range (by omega)]
    simp
    omega
  · obtain ⟨t, ht⟩ := sm (u - 1 - j) (by omega)
    obtain ⟨y, hy⟩ := cs j (by omega) (by omega)
    have e : smO c j (u - j) = some (y + t) := by
      rw [show u - j = (u - 1 - j) + 1 by omega, smO_cons, hy, show j + 1 = u - (u - 1 - j) by omega, ht]
      rfl
    rw [e] at hz
    cases hz
    rw [ht]
    have eq : a + (t + y) = a + (y + t) := by omega
    simp_arith [b1_begin_of, ci j (by omega), Ri j (by omega), hy, ha, eq, Option.getD_some]
end Pr
/-- where the search stands after some days, the last ones: until, and what was found -/
def Shop.st (H : Shop) (n : Nat) : Nat → Nat × List (Nat × Nat × Nat)
  | 0 => (n, [])
  | i + 1 => if H.row (downTo (n - 1 - i + 1)) (H.st n i).1 = H.row (downTo (n - 1 - i)) (H.st n i).1 then H.st n i else match H.bg (n - 1 - i) (H.st n i).1 with
    | none => H.st n i
    | some j => (j, (H.st n i).2 ++ [(n - 1 - i, j, (H.st n i).1)])
theorem st_ok {H : Shop} {n : Nat} {x0 : Int} (h0 : H.row (downTo n) n = some x0) : ∀ {i : Nat}, i ≤ n → (H.st n i).1 ≤ n ∧ (∃ x, H.row (downTo (n - i)) (H.st n i).1 = some x) ∧ H.lots n n = H.lots (n - i) (H.st n i).1 ++ (H.st n i).2.reverse ∧ (H.st n i).2.length ≤ i
  | 0, _ => ⟨Nat.le_refl n, ⟨x0, h0⟩, by simp [Shop.st], Nat.le_refl 0⟩
  | i + 1, hi => by
    obtain ⟨h1, ⟨x, h2⟩, h3, h4⟩ := st_ok h0 (i := i) (by omega)
    have ek : n - i = n - 1 - i + 1 := by omega
    rw [ek] at h2 h3
    rw [show n - (i + 1) = n - 1 - i by omega]
    simp only [Shop.st]
    by_cases q : H.row (downTo (n - 1 - i + 1)) (H.st n i).1 = H.row (downTo (n - 1 - i)) (H.st n i).1
    · rw [if_pos q]
      refine ⟨h1, ⟨x, by rw [← q]; exact h2⟩, ?_, by omega⟩
      rw [h3]
      simp only [Shop.lots]
      rw [if_pos q]
    · rw [if_neg q]
      obtain ⟨j, b1, b2, a, b, b3, b4, b5⟩ := Shop.bg_some h2 q
      rw [b1]
      dsimp only
      refine ⟨by omega, ⟨a, b3⟩, ?_, by rw [List.length_append]; simp; omega⟩
      rw [h3]
      simp only [Shop.lots]
      rw [if_neg q, b1]
      dsimp only
      rw [List.reverse_append, List.append_assoc]
      rfl
def lotD (p : Nat × Nat × Nat) : D := .tuple [.int p.1, .int p.2.1, .int p.2.2]
namespace Pr
variable {T : Nat → Option Fn}
theorem lot_rows_ok (X : Ext T) (n : Nat) {b : Bak} {g : Good} (h : Pl b g) : callN T (n + 6) 74 [b.d] = .ok (.list (((g.shop b.lights).lots b.lights.length b.lights.length).map lotD)) := by
  have few := h.ok.few
  have ok := pl_ok h
  obtain ⟨x0, hx0⟩ := Shop.row_some ok (pl_own h) (Nat.le_refl _) (Nat.le_refl b.lights.length)
  have kr := known_rows_ok X n h
  have wf : ∀ s, s < b.lights.length → callN T (n + 5) 63 [g.d, .int (s : Nat)] = .ok (.list (rowL ((g.shop b.lights).c s) b.lights.length)) := fun s hs => wants_from_ok X (n + 1) h.gok b.lights hs few.2
  have hLs : ∀ s, (g.shop b.lights).L s = nth b.lights s := fun s => rfl
  generalize hH : g.shop b.lights = H at *
  have ri : ∀ k, k < b.lights.length + 1 → ixD (.list ((List.range (b.lights.length + 1)).map fun k => PyData.list (rowL (H.row (downTo k)) (b.lights.length + 1)))) (.int (k : Nat)) = .ok (.list (rowL (H.row (downTo k)) (b.lights.length + 1))) := fun k hk => ixR hk
  have rx : ∀ k u, u < b.lights.length + 1 → ixD (.list (rowL (H.row (downTo k)) (b.lights.length + 1))) (.int (u : Nat)) = .ok (optD (H.row (downTo k) u)) := fun k u hu => rowL_ix hu
  have rd := rngDn (u := b.lights.length) (by omega)
  refine call_do (X 74 _ rfl) rfl ?_
  simp_arith [f_lot_rows, c_lot_rows, kr, rd]
  generalize hr : (List.range (b.lights.length + 1)).map (fun k => PyData.list (rowL (H.row (downTo k)) (b.lights.length + 1))) = rws at *
  refine loop_rng (fun i => [some b.d, some (.list rws), some (.int (H.st b.lights.length i).1), some (.list ((H.st b.lights.length i).2.map lotD)), none, none, none]) (by simp_arith [Shop.st]) (fun i hi => ?_) ?_
  · obtain ⟨h1, ⟨x, h2⟩, h3, h4⟩ := st_ok hx0 (i := i) (by omega)
    rw [show b.lights.length - i = b.lights.length - 1 - i + 1 by omega] at h2
    simp only [Shop.st]
    have hk : b.lights.length - 1 - i < b.lights.length := by omega
    generalize hu : H.st b.lights.length i = s at *
    obtain ⟨u, acc⟩ := s
    dsimp only at *
    have hu2 : u < b.lights.length + 1 := by omega
    have hk1 : b.lights.length - 1 - i < b.lights.length + 1 := by omega
    have hk2 : b.lights.length - 1 - i + 1 < b.lights.length + 1 := by omega
    generalize b.lights.length - 1 - i = k at *
    by_cases q : H.row (downTo (k + 1)) u = H.row (downTo k) u
    · rw [if_pos q]
      have ne0 : cmpD .ne (optD (H.row (downTo (k + 1)) u)) (optD (H.row (downTo k) u)) = .ok false := by rw [q, ne_opt]; simp
      simp_arith [b1_lot_rows, ri k hk1, ri (k + 1) hk2, rx k u hu2, rx (k + 1) u hu2, ne0]
    · rw [if_neg q]
      obtain ⟨j, b1, b2, a, z, b3, b4, b5⟩ := Shop.bg_some h2 q
      rw [b1]
      dsimp only
      have ne1 : cmpD .ne (.int x) (optD (H.row (downTo k) u)) = .ok true := by
        rw [h2] at q
        have := ne_opt (some x) (H.row (downTo k) u)
        rw [optD_s] at this
        rw [this]
        simp [q]
      have rx1 := rx (k + 1) u hu2
      rw [h2, optD_s] at rx1
      have gr : great (fun j => decide (addO (H.row (downTo k) j) (smO (H.c k) j (u - j)) = some (x - nth b.lights k))) u = some j := by
        rw [← b1]
        unfold Shop.bg
        refine great_congr fun i _ => ?_
        rw [h2, hLs]
        cases addO (H.row (downTo k) i) (smO (H.c k) i (u - i)) with
        | none => simp [addO]
        | some w =>
          have e : addO (some w) (some (nth b.lights k)) = some (w + nth b.lights k) := rfl
          rw [Bool.eq_iff_iff, decide_eq_true_eq, decide_eq_true_eq, e, Option.some.injEq, Option.some.injEq]
          omega
      have bo : callN T (n + 5) 73 [.int (x - nth b.lights k), .list (rowL (H.c k) b.lights.length), .list (rowL (H.row (downTo k)) (b.lights.length + 1)), .int u] = .ok (.int j) := begin_of_ok X (n + 4) (H.c k) (H.row (downTo k)) (x - nth b.lights k) (by omega) few.2 gr
      have al : (acc.map lotD).length < 16777216 := by rw [List.length_map]; omega
      simp_arith [b1_lot_rows, ri k hk1, ri (k + 1) hk2, rx k u hu2, rx1, ne1, h.goods, wf k hk, bo, al]
      simp [lotD]
  · obtain ⟨h1, h2, h3, h4⟩ := st_ok hx0 (i := b.lights.length) (Nat.le_refl _)
    rw [h3, Nat.sub_self]
    simp_arith []
    simp [Shop.lots]
end Pr
end Bk
/-! Bk: a cheapest plan's entries. -/
namespace Bk
open PySem
/-- the entries of a lot's first days -/
def ents (H : Shop) (p : Nat × Nat × Nat) (i : Nat) : List (Nat × Nat) := ((List.range i).filter fun a => decide (0 < H.want (p.2.1 + a))).map fun a => (p.1, p.2.1 + a)
def lotE (H : Shop) (p : Nat × Nat × Nat) : List (Nat × Nat) := ents H p (p.2.2 - p.2.1)
def plan (H : Shop) (ls : List (Nat × Nat × Nat)) : List (Nat × Nat) := ls.flatMap (lotE H)
def entK (H : Shop) (e : Nat × Nat) : List Int := [(e.1 : Int), 0, (e.2 : Int), H.want e.2]
def entD (H : Shop) (e : Nat × Nat) : D := tupI (entK H e)
def eC (H : Shop) (e : Nat × Nat) : Int := (H.c e.1 e.2).getD 0
theorem ents_succ {H : Shop} {p : Nat × Nat × Nat} {i : Nat} : ents H p (i + 1) = if 0 < H.want (p.2.1 + i) then ents H p i ++ [(p.1, p.2.1 + i)] else ents H p i := by
  unfold ents
  rw [List.range_succ, List.filter_append]
  split <;> rename_i q <;> simp [q]
theorem ents_sum {H : Shop} {p : Nat × Nat × Nat} (w : ∀ v, v < p.2.2 → 0 ≤ H.want v) : ∀ {i : Nat} {z : Int}, p.2.1 + i ≤ p.2.2 → smO (H.c p.1) p.2.1 i = some z → ((ents H p i).map (eC H)).sum = z
  | 0, z, _, h => by
    simp only [smO, Option.some.injEq] at h
    subst h
    rfl
  | i + 1, z, hi, h => by
    simp only [smO] at h
    obtain ⟨y, x, h1, h2, rfl⟩ := addO_some h
    have ih := ents_sum w (i := i) (by omega) h1
    rw [ents_succ]
    by_cases q : 0 < H.want (p.2.1 + i)
    · rw [if_pos q, List.map_append, List.sum_append, ih]
      simp [eC, h2]
    · rw [if_neg q, ih]
      have w0 : H.want (p.2.1 + i) = 0 := by have := w (p.2.1 + i) (by omega); omega
      have : H.c p.1 (p.2.1 + i) = some 0 := by unfold Shop.c; rw [if_pos w0]
      rw [this] at h2
      cases h2
      omega
theorem mem_ents {H : Shop} {p : Nat × Nat × Nat} {i : Nat} {e : Nat × Nat} : e ∈ ents H p i ↔ e.1 = p.1 ∧ p.2.1 ≤ e.2 ∧ e.2 < p.2.1 + i ∧ 0 < H.want e.2 := by
  unfold ents
  rw [List.mem_map]
  constructor
  · rintro ⟨a, ha, rfl⟩
    rw [List.mem_filter, List.mem_range, decide_eq_true_eq] at ha
    exact ⟨rfl, by show p.2.1 ≤ p.2.1 + a; omega, by show p.2.1 + a < p.2.1 + i; omega, ha.2⟩
  · rintro ⟨h1, h2, h3, h4⟩
    refine ⟨e.2 - p.2.1, ?_, ?_⟩
    · rw [List.mem_filter, List.mem_range, decide_eq_true_eq, show p.2.1 + (e.2 - p.2.1) = e.2 by omega]
      exact ⟨by omega, h4⟩
    · obtain ⟨e1, e2⟩ := e
      dsimp only at *
      rw [h1, show p.2.1 + (e2 - p.2.1) = e2 by omega]
/-- what the plan's loaves cost -/
theorem plan_sum {H : Shop} {n k u : Nat} {ls : List (Nat × Nat × Nat)} (w : ∀ v, v < n → 0 ≤ H.want v) (h : Lots H k u ls) : u ≤ n → (ls.map (lotC H)).sum = (ls.map fun p => H.L p.1).sum + ((plan H ls).map (eC H)).sum := by
  induction h with
  | nil h => intro _; rfl
  | @snoc k d b t ls z hd hb l hz hw ih =>
    intro hu
    have := ih (by omega)
    have es := ents_sum (H := H) (p := (d, b, t)) (fun v hv => w v (by have : v < t := hv; omega)) (i := t - b) (by show b + (t - b) ≤ t; omega) hz
    have e2 : plan H (ls ++ [(d, b, t)]) = plan H ls ++ ents H (d, b, t) (t - b) := by
      unfold plan
      rw [List.flatMap_append]
      simp [lotE]
    rw [e2, List.map_append, List.map_append, List.map_append, List.sum_append, List.sum_append, List.sum_append, this, es]
    simp only [List.map_cons, List.map_nil, List.sum_cons, List.sum_nil, lotC, hz, Option.getD_some]
    omega
/-- each entry is of a lot -/
theorem mem_plan {H : Shop} {n k u : Nat} {ls : List (Nat × Nat × Nat)} (h : Lots H k u ls) : ∀ e ∈ plan H ls, e.1 < k ∧ e.2 < u ∧ 0 < H.want e.2 ∧ ∃ x, H.c e.1 e.2 = some x := by
  induction h with
  | nil h => intro e he; cases he
  | @snoc k d b t ls z hd hb l hz hw ih =>
    intro e he
    have e2 : plan H (ls ++ [(d, b, t)]) = plan H ls ++ ents H (d, b, t) (t - b) := by
      unfold plan
      rw [List.flatMap_append]
      simp [lotE]
    rw [e2, List.mem_append] at he
    rcases he with he | he
    · obtain ⟨h1, h2, h3⟩ := ih e he
      exact ⟨by omega, by omega, h3⟩
    · obtain ⟨h1, h2, h3, h4⟩ := mem_ents.mp he
      have h1 : e.1 = d := h1
      have h2 : b ≤ e.2 := h2
      have h3 : e.2 < b + (t - b) := h3
      refine ⟨by omega, by omega, h4, ?_⟩
      rw [h1]
      exact smO_some hz e.2 h2 h3
/-- the lit days, rising -/
theorem lots_rise {H : Shop} {k u : Nat} {ls : List (Nat × Nat × Nat)} (h : Lots H k u ls) : (∀ p ∈ ls, p.1 < k) ∧ (ls.map fun p => (p.1 : Int)).Pairwise (· < ·) := by
  induction h with
  | nil h => exact ⟨fun p hp => (by cases hp), List.Pairwise.nil⟩
  | @snoc k d b t ls z hd hb l hz hw ih =>
    obtain ⟨h1, h2⟩ := ih
    constructor
    · intro p hp
      rcases List.mem_append.mp hp with hp | hp
      · have := h1 p hp
        omega
      · rw [List.mem_singleton] at hp
        subst hp
        exact hd
    · rw [List.map_append, List.pairwise_append]
      refine ⟨h2, by simp, fun x hx y hy => ?_⟩
      obtain ⟨p, hp, rfl⟩ := List.mem_map.mp hx
      simp only [List.map_cons, List.map_nil, List.mem_singleton] at hy
      subst hy
      have := h1 p hp
      omega
theorem lots_lit {H : Shop} {n k u : Nat} {ls : List (Nat × Nat × Nat)} (w : ∀ v, v < n → 0 ≤ H.want v) (h : Lots H k u ls) : u ≤ n → ∀ p ∈ ls, ∃ e ∈ plan H ls, e.1 = p.1 := by
  induction h with
  | nil h => intro _ p hp; cases hp
  | @snoc k d b t ls z hd hb l hz hw ih =>
    intro hu p hp
    have e2 : plan H (ls ++ [(d, b, t)]) = plan H ls ++ ents H (d, b, t) (t - b) := by
      unfold plan
      rw [List.flatMap_append]
      simp [lotE]
    rw [e2]
    rcases List.mem_append.mp hp with hp | hp
    · obtain ⟨e, he, e1⟩ := ih (by omega) p hp
      exact ⟨e, List.mem_append.mpr (.inl he), e1⟩
    · rw [List.mem_singleton] at hp
      subst hp
      obtain ⟨v, v1, v2, v3⟩ := hw
      have := w v (by omega)
      exact ⟨(d, v), List.mem_append.mpr (.inr (mem_ents.mpr ⟨rfl, v1, by show v < b + (t - b); omega, by show 0 < H.want v; omega⟩)), rfl⟩
theorem plan_lot {H : Shop} : ∀ {ls : List (Nat × Nat × Nat)}, ∀ e ∈ plan H ls, ∃ p ∈ ls, e.1 = p.1 := by
  intro ls e he
  obtain ⟨p, hp, h⟩ := List.mem_flatMap.mp he
  exact ⟨p, hp, (mem_ents.mp h).1⟩
theorem ents_len {H : Shop} {p : Nat × Nat × Nat} {i : Nat} : (ents H p i).length ≤ i := by
  unfold ents
  rw [List.length_map]
  have := List.length_filter_le (fun a => decide (0 < H.want (p.2.1 + a))) (List.range i)
  rwa [List.length_range] at this
theorem plan_len {H : Shop} {k u : Nat} {ls : List (Nat × Nat × Nat)} (h : Lots H k u ls) : (plan H ls).length ≤ u := by
  induction h with
  | nil h => simp [plan]
  | @snoc k d b t ls z hd hb l hz hw ih =>
    have e2 : plan H (ls ++ [(d, b, t)]) = plan H ls ++ ents H (d, b, t) (t - b) := by
      unfold plan
      rw [List.flatMap_append]
      simp [lotE]
    have := ents_len (H := H) (p := (d, b, t)) (i := t - b)
    rw [e2, List.length_append]
    omega
theorem perm_map {α β : Type} {f : α → β} : ∀ {l l' : List β}, l.Perm l' → ∀ es : List α, l' = es.map f → ∃ es' : List α, l = es'.map f ∧ es'.Perm es := by
  intro l l' p
  induction p with
  | nil => intro es h; exact ⟨[], rfl, by cases es with | nil => exact .nil | cons a r => cases h⟩
  | cons x p ih =>
    intro es h
    cases es with
    | nil => cases h
    | cons a r =>
      simp only [List.map_cons, List.cons.injEq] at h
      obtain ⟨h1, h2⟩ := h
      obtain ⟨r', e1, e2⟩ := ih r h2
      exact ⟨a :: r', by rw [e1, h1]; rfl, e2.cons a⟩
  | swap x y l =>
    intro es h
    match es, h with
    | a :: c :: r, h =>
      simp only [List.map_cons, List.cons.injEq] at h
      obtain ⟨h1, h2, h3⟩ := h
      exact ⟨c :: a :: r, by rw [h1, h2, h3]; rfl, .swap a c r⟩
  | trans p q ih1 ih2 =>
    intro es h
    obtain ⟨es1, e1, q1⟩ := ih2 es h
    obtain ⟨es2, e2, q2⟩ := ih1 es1 e1
    exact ⟨es2, e2, q2.trans q1⟩
end Bk
/-! Bk: the walk of the cheapest plan. -/
namespace Bk
open PySem
theorem lots_in {H : Shop} {k u : Nat} {ls : List (Nat × Nat × Nat)} (h : Lots H k u ls) : ∀ p ∈ ls, p.1 < k ∧ p.2.1 < p.2.2 ∧ p.2.2 ≤ u := by
  induction h with
  | nil h => intro p hp; cases hp
  | @snoc k d b t ls z hd hb l hz hw ih =>
    intro p hp
    rcases List.mem_append.mp hp with hp | hp
    · obtain ⟨h1, h2, h3⟩ := ih p hp
      exact ⟨by omega, h2, by omega⟩
    · rw [List.mem_singleton] at hp
      subst hp
      exact ⟨hd, hb, Nat.le_refl _⟩
theorem intsOf_m : ∀ ns : List Int, intsOf (ns.map .int) = some ns
  | [] => rfl
  | n :: ns => by simp only [List.map_cons, intsOf, intsOf_m ns, Option.map_some]
theorem tupsOf_m : ∀ ks : List (List Int), tupsOf (ks.map tupI) = some ks
  | [] => rfl
  | k :: ks => by simp only [List.map_cons, tupI, tupsOf, intsOf_m, tupsOf_m ks]
theorem sorted_tups {ks : List (List Int)} (h : tupsOk ks = true) : biD .sorted [.list (ks.map tupI)] = .ok (.list ((sortC ks).map tupI)) := by
  cases ks with
  | nil => rfl
  | cons k ks =>
    have e : biD .sorted [.list ((k :: ks).map tupI)] = (match intsOf ((k :: ks).map tupI) with
      | some ns => if ns.length < 64 then .ok (.list ((sortI ns).map .int)) else .bad
      | none => match tupsOf ((k :: ks).map tupI) with
        | some ks => if tupsOk ks then .ok (.list ((sortC ks).map tupI)) else .bad
        | none => .bad) := rfl
    rw [e, show intsOf ((k :: ks).map tupI) = none from rfl, tupsOf_m]
    dsimp only
    rw [if_pos h]
theorem plan_take {H : Shop} {ls : List (Nat × Nat × Nat)} {i : Nat} (h : i < ls.length) : plan H (ls.take (i + 1)) = plan H (ls.take i) ++ lotE H (nth ls i) := by
  unfold plan
  rw [List.take_succ_eq_append_getElem h, List.flatMap_append, ← nth_eq h]
  simp
namespace Pr
variable {T : Nat → Option Fn}
theorem cheapest_ok (X : Ext T) (n : Nat) {b : Bak} {g : Good} (h : Pl b g) : ∃ es : List (Nat × Nat), es.Perm (plan (g.shop b.lights) ((g.shop b.lights).lots b.lights.length b.lights.length)) ∧ callN T (n + 9) 75 [b.d] = .ok (.list (es.map (entD (g.shop b.lights)))) := by
  have few := h.ok.few
  have ok := pl_ok h
  have hl := h.len
  have gok := h.gok
  obtain ⟨x0, hx0⟩ := Shop.row_some ok (pl_own h) (Nat.le_refl _) (Nat.le_refl b.lights.length)
  obtain ⟨lo, _⟩ := lots_ok ok (Nat.le_refl _) (Nat.le_refl _) hx0
  have lr := lot_rows_ok X (n + 2) h
  have hw : ∀ v, (g.shop b.lights).want v = (nth g.days v).want := fun v => rfl
  generalize hLS : (g.shop b.lights).lots b.lights.length b.lights.length = LS at *
  generalize hH : g.shop b.lights = H at *
  have inn := lots_in lo
  have pl := plan_len lo
  have mp := mem_plan (n := 0) lo
  have key : ∀ d : D, biD .sorted [.list ((plan H LS).map (entD H))] = .ok d → callN T (n + 9) 75 [b.d] = .ok d := by
    intro d hd
    refine call_do (X 75 _ rfl) rfl ?_
    simp_arith [f_cheapest, c_cheapest, look_at_plain_ok X n h, lr]
    refine loop_map (fun i => [some b.d, some (.list ((plan H (LS.take i)).map (entD H))), none, none, none, none, none]) (by simp_arith [plan, List.take_zero, List.flatMap_nil]) (fun i hi => ?_) ?_
    · obtain ⟨p1, p2, p3⟩ := inn _ (nth_mem hi)
      rw [plan_take hi]
      have tk : (plan H (LS.take i)).length ≤ (plan H LS).length := by
        have e : plan H LS = plan H (LS.take i) ++ plan H (LS.drop i) := by
          unfold plan
          rw [← List.flatMap_append, List.take_append_drop]
        rw [e, List.length_append]
        omega
      generalize hp : nth LS i = p at *
      obtain ⟨d0, b0, t0⟩ := p
      dsimp only at p1 p2 p3
      simp_arith [b2_cheapest, lotD]
      refine Nx.nx (loop_rng (fun j => [some b.d, some (.list ((plan H (LS.take i) ++ ents H (d0, b0, t0) j).map (entD H))), some (.int d0), some (.int b0), some (.int t0), none, none]) (by simp_arith [ents, List.range_zero, List.filter_nil, List.append_nil]) (fun j hj => ?_) (by simp_arith [lotE]))
      have hbj : b0 + j < g.days.length := by omega
      rw [ents_succ]
      have el := ents_len (H := H) (p := (d0, b0, t0)) (i := j)
      have al : ((plan H (LS.take i) ++ ents H (d0, b0, t0) j).map (entD H)).length < 16777216 := by
        rw [List.length_map, List.length_append]
        omega
      show Nx _ [some b.d, some (.list ((plan H (LS.take i) ++ (if 0 < H.want (b0 + j) then ents H (d0, b0, t0) j ++ [(d0, b0 + j)] else ents H (d0, b0, t0) j)).map (entD H))), some (.int d0), some (.int b0), some (.int t0), none, none]
      by_cases q : 0 < H.want (b0 + j)
      · rw [if_pos q]
        have q2 : (nth g.days (b0 + j)).want > 0 := by rw [← hw]; exact q
        simp_arith [b1_cheapest, h.goods, q2, al]
        simp [entD, entK, tupI, hw]
      · rw [if_neg q]
        have q2 : ¬ ((nth g.days (b0 + j)).want > 0) := by rw [← hw]; exact q
        simp_arith [b1_cheapest, h.goods, q2, al]
    · rw [List.take_length]
      simp_arith [hd]
  have ek : (plan H LS).map (entD H) = ((plan H LS).map (entK H)).map tupI := by rw [List.map_map]; rfl
  have tok : tupsOk ((plan H LS).map (entK H)) = true := by
    have all : ∀ k ∈ (plan H LS).map (entK H), k.length = 4 ∧ ∀ m ∈ k, 0 ≤ m ∧ m < 18446744073709551616 := by
      intro k hk
      obtain ⟨e, he, rfl⟩ := List.mem_map.mp hk
      obtain ⟨h1, h2, h3, _⟩ := mp e he
      have nw := (gok.2.2 _ (nth_mem (show e.2 < g.days.length by omega))).1
      rw [← hw] at nw
      have n1 := nw.1
      have n2 := nw.2
      refine ⟨rfl, fun m hm => ?_⟩
      simp only [entK, List.mem_cons, List.not_mem_nil, or_false] at hm
      rcases hm with rfl | rfl | rfl | rfl <;> omega
    have ln : ((plan H LS).map (entK H)).length < 64 := by rw [List.length_map]; omega
    generalize (plan H LS).map (entK H) = ks at *
    unfold tupsOk
    cases ks with
    | nil => rfl
    | cons k ks =>
      have k4 := (all k List.mem_cons_self).1
      simp only [Bool.and_eq_true, decide_eq_true_eq, List.all_eq_true]
      refine ⟨ln, by rw [k4]; omega, fun j hj => ?_⟩
      obtain ⟨a1, a2⟩ := all j hj
      exact ⟨by rw [a1, k4], fun m hm => a2 m hm⟩
  have st := sorted_tups tok
  rw [← ek] at st
  obtain ⟨es, e1, e2⟩ := perm_map (sortC_perm ((plan H LS).map (entK H))) (plan H LS) rfl
  refine ⟨es, e2, key _ ?_⟩
  rw [st, e1, List.map_map]
  rfl
end Pr
end Bk
namespace Bk.Lw
open PySem PySem.Spec PyProof.Rows L2
def top (i : Nat) : Stmt := PySem.Challenge.pw_bakeahead_k26_forty_days.main.body.getD i (.Pass ⟨0, 0, 0, 0⟩)
def ids : List (Str × Nat × Nat × Sh) := ("is_whole", 1, 1, Sh.f) :: ("is_within", 2, 3, Sh.f) :: ("is_number", 3, 1, Sh.f) :: ("is_day", 6, 1, Sh.f) :: ("are_lights", 7, 1, Sh.f) :: ("is_frame", 8, 1, Sh.f) :: ("look_at_good", 9, 3, Sh.f) :: ("look_at_bakery", 10, 1, Sh.f) :: ("is_plain_one", 23, 1, Sh.f) :: ("is_plain", 24, 1, Sh.f) :: ("look_at_plain", 61, 1, Sh.f) :: ("look_at_number", 26, 2, Sh.f) :: ("look_at_day", 27, 2, Sh.f) :: ("nights_ahead", 28, 4, Sh.f) :: ("nights_behind", 29, 3, Sh.f) :: ("price_of", 30, 3, Sh.f) :: ("prices_from", 62, 2, Sh.f) :: ("wants_from", 63, 2, Sh.f) :: ("price", 31, 4, Sh.f) :: ("lesser", 64, 2, Sh.f) :: ("together", 65, 2, Sh.f) :: ("unlit", 66, 1, Sh.f) :: ("lit_row", 67, 3, Sh.f) :: ("known_rows", 68, 1, Sh.f) :: ("least_row", 71, 1, Sh.f) :: ("prices_of", 79, 1, Sh.f) :: ("begin_of", 73, 4, Sh.f) :: ("lot_rows", 74, 1, Sh.f) :: ("cheapest", 75, 1, Sh.f) :: ("are_prices", 76, 2, Sh.f) :: ("holds_at", 77, 3, Sh.f) :: ("lets_prices", 78, 2, Sh.f) :: ("_law_cell_at", 11, 2, Sh.f) :: ("_law_numbers", 4, 3, Sh.f) :: ("_law_day", 12, 2, Sh.f) :: ("_law_days", 13, 5, Sh.f) :: ("_law_bakery", 69, 3, Sh.f) :: ("_law_cost", 1000, 2, Sh.f) :: ("_law_far_apart", 1001, 1, Sh.f) :: ("law", 1002, 1, Sh.f) :: []
def cs : List (Str × D) := [("MOST", (PyData.int 1000000000 : D)), ("MOST_DAYS", (PyData.int 40 : D)), ("MOST_LIFE", (PyData.int 40 : D)), ("MOST_GOODS", (PyData.int 2 : D))]
def n__law_cost : List Str := ["bakery", "plan", "lit", "total", "baked", "good", "given", "many", "day", "entry"]
def m__law_cost : List Sh := [Sh.f, Sh.f, Sh.f, Sh.f, Sh.f, Sh.f, Sh.f, Sh.f, Sh.f, Sh.f]
def n__law_far_apart : List Str := ["bakery", "days", "plain", "wanted", "worths", "day", "at", "light"]
def m__law_far_apart : List Sh := [Sh.f, Sh.f, Sh.f, Sh.f, (Sh.l Sh.f), Sh.f, Sh.f, Sh.f]
def n_law : List Str := ["script", "bakery", "least", "prices", "at", "wanted", "day", "more"]
def m_law : List Sh := [Sh.f, Sh.f, Sh.f, Sh.f, Sh.f, Sh.f, Sh.f, Sh.f]
def t_is_whole : Tx := ⟨"is_whole", 1, ["thing"], Pr.n_is_whole, Pr.m_is_whole, Sh.f, defArgs (top 8), defBody (top 8), defScope (top 8), Pr.c_is_whole⟩
theorem ok_is_whole : t_is_whole.Ok ids cs := ⟨by kernel_rfl, ⟨rfl, rfl, rfl, by decide +kernel, rfl, by decide +kernel, by decide +kernel⟩, by decide +kernel, fun _ _ _ _ _ _ _ _ us hl => match us, hl with
  | [_], _ => rfl⟩
def t_is_within : Tx := ⟨"is_within", 2, ["thing", "least", "most"], Pr.n_is_within, Pr.m_is_within, Sh.f, defArgs (top 9), defBody (top 9), defScope (top 9), Pr.c_is_within⟩
theorem ok_is_within : t_is_within.Ok ids cs := ⟨by kernel_rfl, ⟨rfl, rfl, rfl, by decide +kernel, rfl, by decide +kernel, by decide +kernel⟩, by decide +kernel, fun _ _ _ _ _ _ _ _ us hl => match us, hl with
  | [_, _, _], _ => rfl⟩
def t_is_number : Tx := ⟨"is_number", 3, ["thing"], Pr.n_is_number, Pr.m_is_number, Sh.f, defArgs (top 10), defBody (top 10), defScope (top 10), Pr.c_is_number⟩
theorem ok_is_number : t_is_number.Ok ids cs := ⟨by kernel_rfl, ⟨rfl, rfl, rfl, by decide +kernel, rfl, by decide +kernel, by decide +kernel⟩, by decide +kernel, fun _ _ _ _ _ _ _ _ us hl => match us, hl with
  | [_], _ => rfl⟩
def t_is_day : Tx := ⟨"is_day", 6, ["thing"], Pr.n_is_day, Pr.m_is_day, Sh.f, defArgs (top 15), defBody (top 15), defScope (top 15), Pr.c_is_day⟩
theorem ok_is_day : t_is_day.Ok ids cs := ⟨by kernel_rfl, ⟨rfl, rfl, rfl, by decide +kernel, rfl, by decide +kernel, by decide +kernel⟩, by decide +kernel, fun _ _ _ _ _ _ _ _ us hl => match us, hl with
  | [_], _ => rfl⟩
def t_are_lights : Tx := ⟨"are_lights", 7, ["thing"], Pr.n_are_lights, Pr.m_are_lights, Sh.f, defArgs (top 16), defBody (top 16), defScope (top 16), Pr.c_are_lights⟩
theorem ok_are_lights : t_are_lights.Ok ids cs := ⟨by kernel_rfl, ⟨rfl, rfl, rfl, by decide +kernel, rfl, by decide +kernel, by decide +kernel⟩, by decide +kernel, fun _ _ _ _ _ _ _ _ us hl => match us, hl with
  | [_], _ => rfl⟩
def t_is_frame : Tx := ⟨"is_frame", 8, ["thing"], Pr.n_is_frame, Pr.m_is_frame, Sh.f, defArgs (top 17), defBody (top 17), defScope (top 17), Pr.c_is_frame⟩
theorem ok_is_frame : t_is_frame.Ok ids cs := ⟨by kernel_rfl, ⟨rfl, rfl, rfl, by decide +kernel, rfl, by decide +kernel, by decide +kernel⟩, by decide +kernel, fun _ _ _ _ _ _ _ _ us hl => match us, hl with
  | [_], _ => rfl⟩
def t_look_at_good : Tx := ⟨"look_at_good", 9, ["number", "good", "many"], Pr.n_look_at_good, Pr.m_look_at_good, Sh.f, defArgs (top 18), defBody (top 18), defScope (top 18), Pr.c_look_at_good⟩
theorem ok_look_at_good : t_look_at_good.Ok ids cs := ⟨by kernel_rfl, ⟨rfl, rfl, rfl, by decide +kernel, rfl, by decide +kernel, by decide +kernel⟩, by decide +kernel, fun _ _ _ _ _ _ _ _ us hl => match us, hl with
  | [_, _, _], _ => rfl⟩
def t_look_at_bakery : Tx := ⟨"look_at_bakery", 10, ["thing"], Pr.n_look_at_bakery, Pr.m_look_at_bakery, Sh.f, defArgs (top 19), defBody (top 19), defScope (top 19), Pr.c_look_at_bakery⟩
theorem ok_look_at_bakery : t_look_at_bakery.Ok ids cs := ⟨by kernel_rfl, ⟨rfl, rfl, rfl, by decide +kernel, rfl, by decide +kernel, by decide +kernel⟩, by decide +kernel, fun _ _ _ _ _ _ _ _ us hl => match us, hl with
  | [_], _ => rfl⟩
def t_is_plain_one : Tx := ⟨"is_plain_one", 23, ["bakery"], Pr.n_is_plain_one, Pr.m_is_plain_one, Sh.f, defArgs (top 20), defBody (top 20), defScope (top 20), Pr.c_is_plain_one⟩
theorem ok_is_plain_one : t_is_plain_one.Ok ids cs := ⟨by kernel_rfl, ⟨rfl, rfl, rfl, by decide +kernel, rfl, by decide +kernel, by decide +kernel⟩, by decide +kernel, fun _ _ _ _ _ _ _ _ us hl => match us, hl with
  | [_], _ => rfl⟩
def t_is_plain : Tx := ⟨"is_plain", 24, ["bakery"], Pr.n_is_plain, Pr.m_is_plain, Sh.f, defArgs (top 21), defBody (top 21), defScope (top 21), Pr.c_is_plain⟩
theorem ok_is_plain : t_is_plain.Ok ids cs := ⟨by kernel_rfl, ⟨rfl, rfl, rfl, by decide +kernel, rfl, by decide +kernel, by decide +kernel⟩, by decide +kernel, fun _ _ _ _ _ _ _ _ us hl => match us, hl with
  | [_], _ => rfl⟩
def t_look_at_plain : Tx := ⟨"look_at_plain", 61, ["bakery"], Pr.n_look_at_plain, Pr.m_look_at_plain, Sh.f, defArgs (top 22), defBody (top 22), defScope (top 22), Pr.c_look_at_plain⟩
theorem ok_look_at_plain : t_look_at_plain.Ok ids cs := ⟨by kernel_rfl, ⟨rfl, rfl, rfl, by decide +kernel, rfl, by decide +kernel, by decide +kernel⟩, by decide +kernel, fun _ _ _ _ _ _ _ _ us hl => match us, hl with
  | [_], _ => rfl⟩
def t_look_at_number : Tx := ⟨"look_at_number", 26, ["bakery", "good"], Pr.n_look_at_number, Pr.m_look_at_number, Sh.f, defArgs (top 23), defBody (top 23), defScope (top 23), Pr.c_look_at_number⟩
theorem ok_look_at_number : t_look_at_number.Ok ids cs := ⟨by kernel_rfl, ⟨rfl, rfl, rfl, by decide +kernel, rfl, by decide +kernel, by decide +kernel⟩, by decide +kernel, fun _ _ _ _ _ _ _ _ us hl => match us, hl with
  | [_, _], _ => rfl⟩
def t_look_at_day : Tx := ⟨"look_at_day", 27, ["bakery", "day"], Pr.n_look_at_day, Pr.m_look_at_day, Sh.f, defArgs (top 24), defBody (top 24), defScope (top 24), Pr.c_look_at_day⟩
theorem ok_look_at_day : t_look_at_day.Ok ids cs := ⟨by kernel_rfl, ⟨rfl, rfl, rfl, by decide +kernel, rfl, by decide +kernel, by decide +kernel⟩, by decide +kernel, fun _ _ _ _ _ _ _ _ us hl => match us, hl with
  | [_, _], _ => rfl⟩
def t_nights_ahead : Tx := ⟨"nights_ahead", 28, ["days", "life", "baked", "given"], Pr.n_nights_ahead, Pr.m_nights_ahead, Sh.f, defArgs (top 26), defBody (top 26), defScope (top 26), Pr.c_nights_ahead⟩
theorem ok_nights_ahead : t_nights_ahead.Ok ids cs := ⟨by kernel_rfl, ⟨rfl, rfl, rfl, by decide +kernel, rfl, by decide +kernel, by decide +kernel⟩, by decide +kernel, fun _ _ _ _ _ _ _ _ us hl => match us, hl with
  | [_, _, _, _], _ => rfl⟩
def t_nights_behind : Tx := ⟨"nights_behind", 29, ["days", "baked", "given"], Pr.n_nights_behind, Pr.m_nights_behind, Sh.f, defArgs (top 27), defBody (top 27), defScope (top 27), Pr.c_nights_behind⟩
theorem ok_nights_behind : t_nights_behind.Ok ids cs := ⟨by kernel_rfl, ⟨rfl, rfl, rfl, by decide +kernel, rfl, by decide +kernel, by decide +kernel⟩, by decide +kernel, fun _ _ _ _ _ _ _ _ us hl => match us, hl with
  | [_, _, _], _ => rfl⟩
def t_price_of : Tx := ⟨"price_of", 30, ["good", "baked", "given"], Pr.n_price_of, Pr.m_price_of, Sh.f, defArgs (top 28), defBody (top 28), defScope (top 28), Pr.c_price_of⟩
theorem ok_price_of : t_price_of.Ok ids cs := ⟨by kernel_rfl, ⟨rfl, rfl, rfl, by decide +kernel, rfl, by decide +kernel, by decide +kernel⟩, by decide +kernel, fun _ _ _ _ _ _ _ _ us hl => match us, hl with
  | [_, _, _], _ => rfl⟩
def t_prices_from : Tx := ⟨"prices_from", 62, ["good", "baked"], Pr.n_prices_from, Pr.m_prices_from, Sh.f, defArgs (top 29), defBody (top 29), defScope (top 29), Pr.c_prices_from⟩
theorem ok_prices_from : t_prices_from.Ok ids cs := ⟨by kernel_rfl, ⟨rfl, rfl, rfl, by decide +kernel, rfl, by decide +kernel, by decide +kernel⟩, by decide +kernel, fun _ _ _ _ _ _ _ _ us hl => match us, hl with
  | [_, _], _ => rfl⟩
def t_wants_from : Tx := ⟨"wants_from", 63, ["good", "baked"], Pr.n_wants_from, Pr.m_wants_from, Sh.f, defArgs (top 30), defBody (top 30), defScope (top 30), Pr.c_wants_from⟩
theorem ok_wants_from : t_wants_from.Ok ids cs := ⟨by kernel_rfl, ⟨rfl, rfl, rfl, by decide +kernel, rfl, by decide +kernel, by decide +kernel⟩, by decide +kernel, fun _ _ _ _ _ _ _ _ us hl => match us, hl with
  | [_, _], _ => rfl⟩
def t_price : Tx := ⟨"price", 31, ["bakery", "good", "baked", "given"], Pr.n_price, Pr.m_price, Sh.f, defArgs (top 31), defBody (top 31), defScope (top 31), Pr.c_price⟩
theorem ok_price : t_price.Ok ids cs := ⟨by kernel_rfl, ⟨rfl, rfl, rfl, by decide +kernel, rfl, by decide +kernel, by decide +kernel⟩, by decide +kernel, fun _ _ _ _ _ _ _ _ us hl => match us, hl with
  | [_, _, _, _], _ => rfl⟩
def t_lesser : Tx := ⟨"lesser", 64, ["one", "other"], Pr.n_lesser, Pr.m_lesser, Sh.f, defArgs (top 33), defBody (top 33), defScope (top 33), Pr.c_lesser⟩
theorem ok_lesser : t_lesser.Ok ids cs := ⟨by kernel_rfl, ⟨rfl, rfl, rfl, by decide +kernel, rfl, by decide +kernel, by decide +kernel⟩, by decide +kernel, fun _ _ _ _ _ _ _ _ us hl => match us, hl with
  | [_, _], _ => rfl⟩
def t_together : Tx := ⟨"together", 65, ["one", "other"], Pr.n_together, Pr.m_together, Sh.f, defArgs (top 34), defBody (top 34), defScope (top 34), Pr.c_together⟩
theorem ok_together : t_together.Ok ids cs := ⟨by kernel_rfl, ⟨rfl, rfl, rfl, by decide +kernel, rfl, by decide +kernel, by decide +kernel⟩, by decide +kernel, fun _ _ _ _ _ _ _ _ us hl => match us, hl with
  | [_, _], _ => rfl⟩
def t_unlit : Tx := ⟨"unlit", 66, ["good"], Pr.n_unlit, Pr.m_unlit, Sh.f, defArgs (top 35), defBody (top 35), defScope (top 35), Pr.c_unlit⟩
theorem ok_unlit : t_unlit.Ok ids cs := ⟨by kernel_rfl, ⟨rfl, rfl, rfl, by decide +kernel, rfl, by decide +kernel, by decide +kernel⟩, by decide +kernel, fun _ _ _ _ _ _ _ _ us hl => match us, hl with
  | [_], _ => rfl⟩
def t_lit_row : Tx := ⟨"lit_row", 67, ["light", "costs", "known"], Pr.n_lit_row, Pr.m_lit_row, Sh.f, defArgs (top 36), defBody (top 36), defScope (top 36), Pr.c_lit_row⟩
theorem ok_lit_row : t_lit_row.Ok ids cs := ⟨by kernel_rfl, ⟨rfl, rfl, rfl, by decide +kernel, rfl, by decide +kernel, by decide +kernel⟩, by decide +kernel, fun _ _ _ _ _ _ _ _ us hl => match us, hl with
  | [_, _, _], _ => rfl⟩
def t_known_rows : Tx := ⟨"known_rows", 68, ["bakery"], Pr.n_known_rows, Pr.m_known_rows, Sh.f, defArgs (top 37), defBody (top 37), defScope (top 37), Pr.c_known_rows⟩
theorem ok_known_rows : t_known_rows.Ok ids cs := ⟨by kernel_rfl, ⟨rfl, rfl, rfl, by decide +kernel, rfl, by decide +kernel, by decide +kernel⟩, by decide +kernel, fun _ _ _ _ _ _ _ _ us hl => match us, hl with
  | [_], _ => rfl⟩
def t_least_row : Tx := ⟨"least_row", 71, ["bakery"], Pr.n_least_row, Pr.m_least_row, Sh.f, defArgs (top 38), defBody (top 38), defScope (top 38), Pr.c_least_row⟩
theorem ok_least_row : t_least_row.Ok ids cs := ⟨by kernel_rfl, ⟨rfl, rfl, rfl, by decide +kernel, rfl, by decide +kernel, by decide +kernel⟩, by decide +kernel, fun _ _ _ _ _ _ _ _ us hl => match us, hl with
  | [_], _ => rfl⟩
def t_prices_of : Tx := ⟨"prices_of", 79, ["bakery"], Pr.n_prices_of, Pr.m_prices_of, Sh.f, defArgs (top 40), defBody (top 40), defScope (top 40), Pr.c_prices_of⟩
theorem ok_prices_of : t_prices_of.Ok ids cs := ⟨by kernel_rfl, ⟨rfl, rfl, rfl, by decide +kernel, rfl, by decide +kernel, by decide +kernel⟩, by decide +kernel, fun _ _ _ _ _ _ _ _ us hl => match us, hl with
  | [_], _ => rfl⟩
def t_begin_of : Tx := ⟨"begin_of", 73, ["cost", "costs", "known", "until"], Pr.n_begin_of, Pr.m_begin_of, Sh.f, defArgs (top 42), defBody (top 42), defScope (top 42), Pr.c_begin_of⟩
theorem ok_begin_of : t_begin_of.Ok ids cs := ⟨by kernel_rfl, ⟨rfl, rfl, rfl, by decide +kernel, rfl, by decide +kernel, by decide +kernel⟩, by decide +kernel, fun _ _ _ _ _ _ _ _ us hl => match us, hl with
  | [_, _, _, _], _ => rfl⟩
def t_lot_rows : Tx := ⟨"lot_rows", 74, ["bakery"], Pr.n_lot_rows, Pr.m_lot_rows, Sh.f, defArgs (top 43), defBody (top 43), defScope (top 43), Pr.c_lot_rows⟩
theorem ok_lot_rows : t_lot_rows.Ok ids cs := ⟨by kernel_rfl, ⟨rfl, rfl, rfl, by decide +kernel, rfl, by decide +kernel, by decide +kernel⟩, by decide +kernel, fun _ _ _ _ _ _ _ _ us hl => match us, hl with
  | [_], _ => rfl⟩
def t_cheapest : Tx := ⟨"cheapest", 75, ["bakery"], Pr.n_cheapest, Pr.m_cheapest, Sh.f, defArgs (top 44), defBody (top 44), defScope (top 44), Pr.c_cheapest⟩
theorem ok_cheapest : t_cheapest.Ok ids cs := ⟨by kernel_rfl, ⟨rfl, rfl, rfl, by decide +kernel, rfl, by decide +kernel, by decide +kernel⟩, by decide +kernel, fun _ _ _ _ _ _ _ _ us hl => match us, hl with
  | [_], _ => rfl⟩
def t_are_prices : Tx := ⟨"are_prices", 76, ["bakery", "thing"], Pr.n_are_prices, Pr.m_are_prices, Sh.f, defArgs (top 46), defBody (top 46), defScope (top 46), Pr.c_are_prices⟩
theorem ok_are_prices : t_are_prices.Ok ids cs := ⟨by kernel_rfl, ⟨rfl, rfl, rfl, by decide +kernel, rfl, by decide +kernel, by decide +kernel⟩, by decide +kernel, fun _ _ _ _ _ _ _ _ us hl => match us, hl with
  | [_, _], _ => rfl⟩
def t_holds_at : Tx := ⟨"holds_at", 77, ["light", "costs", "prices"], Pr.n_holds_at, Pr.m_holds_at, Sh.f, defArgs (top 47), defBody (top 47), defScope (top 47), Pr.c_holds_at⟩
theorem ok_holds_at : t_holds_at.Ok ids cs := ⟨by kernel_rfl, ⟨rfl, rfl, rfl, by decide +kernel, rfl, by decide +kernel, by decide +kernel⟩, by decide +kernel, fun _ _ _ _ _ _ _ _ us hl => match us, hl with
  | [_, _, _], _ => rfl⟩
def t_lets_prices : Tx := ⟨"lets_prices", 78, ["bakery", "thing"], Pr.n_lets_prices, Pr.m_lets_prices, Sh.f, defArgs (top 48), defBody (top 48), defScope (top 48), Pr.c_lets_prices⟩
theorem ok_lets_prices : t_lets_prices.Ok ids cs := ⟨by kernel_rfl, ⟨rfl, rfl, rfl, by decide +kernel, rfl, by decide +kernel, by decide +kernel⟩, by decide +kernel, fun _ _ _ _ _ _ _ _ us hl => match us, hl with
  | [_, _], _ => rfl⟩
def t__law_cell_at : Tx := ⟨"_law_cell_at", 11, ["script", "k"], Pr.n__law_cell_at, Pr.m__law_cell_at, Sh.f, defArgs (top 50), defBody (top 50), defScope (top 50), Pr.c__law_cell_at⟩
theorem ok__law_cell_at : t__law_cell_at.Ok ids cs := ⟨by kernel_rfl, ⟨rfl, rfl, rfl, by decide +kernel, rfl, by decide +kernel, by decide +kernel⟩, by decide +kernel, fun _ _ _ _ _ _ _ _ us hl => match us, hl with
  | [_, _], _ => rfl⟩
def t__law_numbers : Tx := ⟨"_law_numbers", 4, ["cell", "salt", "sizes"], Pr.n__law_numbers, Pr.m__law_numbers, Sh.f, defArgs (top 51), defBody (top 51), defScope (top 51), Pr.c__law_numbers⟩
theorem ok__law_numbers : t__law_numbers.Ok ids cs := ⟨by kernel_rfl, ⟨rfl, rfl, rfl, by decide +kernel, rfl, by decide +kernel, by decide +kernel⟩, by decide +kernel, fun _ _ _ _ _ _ _ _ us hl => match us, hl with
  | [_, _, _], _ => rfl⟩
def t__law_day : Tx := ⟨"_law_day", 12, ["digits", "late"], Pr.n__law_day, Pr.m__law_day, Sh.f, defArgs (top 52), defBody (top 52), defScope (top 52), Pr.c__law_day⟩
theorem ok__law_day : t__law_day.Ok ids cs := ⟨by kernel_rfl, ⟨rfl, rfl, rfl, by decide +kernel, rfl, by decide +kernel, by decide +kernel⟩, by decide +kernel, fun _ _ _ _ _ _ _ _ us hl => match us, hl with
  | [_, _], _ => rfl⟩
def t__law_days : Tx := ⟨"_law_days", 13, ["script", "first", "upto", "salt", "late"], Pr.n__law_days, Pr.m__law_days, Sh.f, defArgs (top 53), defBody (top 53), defScope (top 53), Pr.c__law_days⟩
theorem ok__law_days : t__law_days.Ok ids cs := ⟨by kernel_rfl, ⟨rfl, rfl, rfl, by decide +kernel, rfl, by decide +kernel, by decide +kernel⟩, by decide +kernel, fun _ _ _ _ _ _ _ _ us hl => match us, hl with
  | [_, _, _, _, _], _ => rfl⟩
def t__law_bakery : Tx := ⟨"_law_bakery", 69, ["script", "upto", "salt"], Pr.n__law_bakery, Pr.m__law_bakery, Sh.f, defArgs (top 54), defBody (top 54), defScope (top 54), Pr.c__law_bakery⟩
theorem ok__law_bakery : t__law_bakery.Ok ids cs := ⟨by kernel_rfl, ⟨rfl, rfl, rfl, by decide +kernel, rfl, by decide +kernel, by decide +kernel⟩, by decide +kernel, fun _ _ _ _ _ _ _ _ us hl => match us, hl with
  | [_, _, _], _ => rfl⟩
def b1__law_cost : S :=
  (.cons (.set (.n 3) (.op .add (.v 3) (.op .mul (.v 7) (.call 31 (.cons (.v 0) (.cons (.v 5) (.cons (.v 4) (.cons (.v 6) .nil))))))))
  .nil)
def c__law_cost : S :=
  (.cons (.set (.n 2) (.bi .setl (.cons (.lc (.n 9) (.cons (.v 1) .nil) .nil (.ix (.v 9) (.k (.int 0)))) .nil)))
  (.cons (.set (.n 3) (.bi .sum (.cons (.lc (.n 8) (.cons (.v 2) .nil) .nil (.ix (.ix (.v 0) (.k (.int 0))) (.v 8))) .nil)))
  (.cons (.for_ (.t (.cons (.n 4) (.cons (.n 5) (.cons (.n 6) (.cons (.n 7) .nil))))) (.cons (.v 1) .nil) b1__law_cost)
  (.cons (.ret (.v 3))
  .nil))))
def t__law_cost : Tx := ⟨"_law_cost", 1000, ["bakery", "plan"], n__law_cost, m__law_cost, Sh.f, defArgs (top 55), defBody (top 55), defScope (top 55), c__law_cost⟩
theorem ok__law_cost : t__law_cost.Ok ids cs := ⟨by kernel_rfl, ⟨rfl, rfl, rfl, by decide +kernel, rfl, by decide +kernel, by decide +kernel⟩, by decide +kernel, fun _ _ _ _ _ _ _ _ us hl => match us, hl with
  | [_, _], _ => rfl⟩
def c__law_far_apart : S :=
  (.cons (.set (.n 1) (.lc (.n 5) (.cons (.ix (.ix (.ix (.v 0) (.k (.int 2))) (.k (.int 0))) (.k (.int 0))) .nil) .nil (.tup (.cons (.ix (.v 5) (.k (.int 0))) (.cons (.k (.int 5)) (.cons (.k (.int 0)) (.cons (.k (.int 0)) .nil)))))))
  (.cons (.set (.n 2) (.tup (.cons (.lc (.n 7) (.cons (.ix (.v 0) (.k (.int 0))) .nil) .nil (.k (.int 7))) (.cons (.k .none) (.cons (.lst (.cons (.tup (.cons (.v 1) (.cons (.k .none) .nil))) .nil)) .nil)))))
  (.cons (.set (.n 3) (.lc (.t (.cons (.n 6) (.cons (.n 5) .nil))) (.enm (.v 1)) (.cons (.cmp .gt (.ix (.v 5) (.k (.int 0))) (.k (.int 0))) .nil) (.v 6)))
  (.cons (.ife (.cmp .lt (.bi .len (.cons (.v 3) .nil)) (.k (.int 2)))
    (.cons (.ret (.k (.bool true)))
    .nil)
    .nil)
  (.cons (.own 4 (.lc (.n 5) (.cons (.v 1) .nil) .nil (.op .mul (.k (.int 5)) (.ix (.v 5) (.k (.int 0))))))
  (.cons (.put (.v 4) (.ix (.v 3) (.k (.int 0))) (.op .add (.ix (.v 4) (.ix (.v 3) (.k (.int 0)))) (.k (.int 7))))
  (.cons (.ife (.or (.cmp .isn (.cb 78 (.cons (.v 2) (.cons (.v 4) .nil))) (.k (.bool true))) (.cmp .ne (.ix (.call 71 (.cons (.v 2) .nil)) (.neg (.k (.int 1)))) (.bi .sum (.cons (.v 4) .nil))))
    (.cons (.ret (.k (.bool false)))
    .nil)
    .nil)
  (.cons (.put (.v 4) (.ix (.v 3) (.neg (.k (.int 1)))) (.op .add (.ix (.v 4) (.ix (.v 3) (.neg (.k (.int 1))))) (.k (.int 1))))
  (.cons (.ret (.cmp .is (.call 78 (.cons (.v 2) (.cons (.v 4) .nil))) (.k (.bool false))))
  .nil)))))))))
def t__law_far_apart : Tx := ⟨"_law_far_apart", 1001, ["bakery"], n__law_far_apart, m__law_far_apart, Sh.f, defArgs (top 56), defBody (top 56), defScope (top 56), c__law_far_apart⟩
theorem ok__law_far_apart : t__law_far_apart.Ok ids cs := ⟨by kernel_rfl, ⟨rfl, rfl, rfl, by decide +kernel, rfl, by decide +kernel, by decide +kernel⟩, by decide +kernel, fun _ _ _ _ _ _ _ _ us hl => match us, hl with
  | [_], _ => rfl⟩
def c_law : S :=
  (.cons (.set (.n 1) (.call 69 (.cons (.v 0) (.cons (.k (.int 41)) (.cons (.k (.int 2600)) .nil)))))
  (.cons (.ife (.not (.call 1001 (.cons (.v 1) .nil)))
    (.cons (.ret (.k (.bool false)))
    .nil)
    .nil)
  (.cons (.set (.n 2) (.ix (.call 71 (.cons (.v 1) .nil)) (.neg (.k (.int 1)))))
  (.cons (.set (.n 3) (.call 79 (.cons (.v 1) .nil)))
  (.cons (.ife (.or (.not (.call 78 (.cons (.v 1) (.cons (.v 3) .nil)))) (.or (.cmp .ne (.bi .sum (.cons (.v 3) .nil)) (.v 2)) (.cmp .ne (.call 1000 (.cons (.v 1) (.cons (.call 75 (.cons (.v 1) .nil)) .nil))) (.v 2))))
    (.cons (.ret (.k (.bool false)))
    .nil)
    .nil)
  (.cons (.set (.n 4) (.op .mod (.ix (.call 4 (.cons (.call 11 (.cons (.v 0) (.cons (.k (.int 0)) .nil))) (.cons (.k (.int 2690)) (.cons (.lst (.cons (.k (.int 41)) .nil)) .nil)))) (.k (.int 0))) (.bi .len (.cons (.v 3) .nil))))
  (.cons (.set (.n 5) (.lc (.n 6) (.rng (.cons (.bi .len (.cons (.v 3) .nil)) .nil)) (.cons (.cmp .gt (.ix (.ix (.ix (.ix (.ix (.v 1) (.k (.int 2))) (.k (.int 0))) (.k (.int 0))) (.v 6)) (.k (.int 0))) (.k (.int 0))) .nil) (.v 6)))
  (.cons (.ife (.cmp .ne (.v 5) (.lst .nil))
    (.cons (.set (.n 6) (.ix (.v 5) (.op .mod (.v 4) (.bi .len (.cons (.v 5) .nil)))))
    (.cons (.set (.n 7) (.op .add (.op .add (.sl (.v 3) .nil (.cons (.v 6) .nil)) (.lst (.cons (.op .add (.ix (.v 3) (.v 6)) (.k (.int 1))) .nil))) (.sl (.v 3) (.cons (.op .add (.v 6) (.k (.int 1))) .nil) .nil)))
    (.cons (.ife (.cmp .isn (.call 78 (.cons (.v 1) (.cons (.v 7) .nil))) (.k (.bool false)))
      (.cons (.ret (.k (.bool false)))
      .nil)
      .nil)
    .nil)))
    .nil)
  (.cons (.ret (.k (.bool true)))
  .nil)))))))))
def t_law : Tx := ⟨"law", 1002, ["script"], n_law, m_law, Sh.f, defArgs (top 57), defBody (top 57), defScope (top 57), c_law⟩
theorem ok_law : t_law.Ok ids cs := ⟨by kernel_rfl, ⟨rfl, rfl, rfl, by decide +kernel, rfl, by decide +kernel, by decide +kernel⟩, by decide +kernel, fun _ _ _ _ _ _ _ _ us hl => match us, hl with
  | [_], _ => rfl⟩
def T : Nat → Option Fn
  | 1000 => some t__law_cost.fn
  | 1001 => some t__law_far_apart.fn
  | 1002 => some t_law.fn
  | k => Pr.T0 k
theorem ext : Pr.Ext T := fun k fn h => by unfold T; split <;> first | exact h | cases h
def fn : List He.DefD := ⟨("is_whole", none), "is_whole", "is_whole", defArgs (top 8), defBody (top 8), defScope (top 8), [], []⟩ :: ⟨("is_within", none), "is_within", "is_within", defArgs (top 9), defBody (top 9), defScope (top 9), [], []⟩ :: ⟨("is_number", none), "is_number", "is_number", defArgs (top 10), defBody (top 10), defScope (top 10), [], []⟩ :: ⟨("is_day", none), "is_day", "is_day", defArgs (top 15), defBody (top 15), defScope (top 15), [], []⟩ :: ⟨("are_lights", none), "are_lights", "are_lights", defArgs (top 16), defBody (top 16), defScope (top 16), [], []⟩ :: ⟨("is_frame", none), "is_frame", "is_frame", defArgs (top 17), defBody (top 17), defScope (top 17), [], []⟩ :: ⟨("look_at_good", none), "look_at_good", "look_at_good", defArgs (top 18), defBody (top 18), defScope (top 18), [], []⟩ :: ⟨("look_at_bakery", none), "look_at_bakery", "look_at_bakery", defArgs (top 19), defBody (top 19), defScope (top 19), [], []⟩ :: ⟨("is_plain_one", none), "is_plain_one", "is_plain_one", defArgs (top 20), defBody (top 20), defScope (top 20), [], []⟩ :: ⟨("is_plain", none), "is_plain", "is_plain", defArgs (top 21), defBody (top 21), defScope (top 21), [], []⟩ :: ⟨("look_at_plain", none), "look_at_plain", "look_at_plain", defArgs (top 22), defBody (top 22), defScope (top 22), [], []⟩ :: ⟨("look_at_number", none), "look_at_number", "look_at_number", defArgs (top 23), defBody (top 23), defScope (top 23), [], []⟩ :: ⟨("look_at_day", none), "look_at_day", "look_at_day", defArgs (top 24), defBody (top 24), defScope (top 24), [], []⟩ :: ⟨("nights_ahead", none), "nights_ahead", "nights_ahead", defArgs (top 26), defBody (top 26), defScope (top 26), [], []⟩ :: ⟨("nights_behind", none), "nights_behind", "nights_behind", defArgs (top 27), defBody (top 27), defScope (top 27), [], []⟩ :: ⟨("price_of", none), "price_of", "price_of", defArgs (top 28), defBody (top 28), defScope (top 28), [], []⟩ :: ⟨("prices_from", none), "prices_from", "prices_from", defArgs (top 29), defBody (top 29), defScope (top 29), [], []⟩ :: ⟨("wants_from", none), "wants_from", "wants_from", defArgs (top 30), defBody (top 30), defScope (top 30), [], []⟩ :: ⟨("price", none), "price", "price", defArgs (top 31), defBody (top 31), defScope (top 31), [], []⟩ :: ⟨("lesser", none), "lesser", "lesser", defArgs (top 33), defBody (top 33), defScope (top 33), [], []⟩ :: ⟨("together", none), "together", "together", defArgs (top 34), defBody (top 34), defScope (top 34), [], []⟩ :: ⟨("unlit", none), "unlit", "unlit", defArgs (top 35), defBody (top 35), defScope (top 35), [], []⟩ :: ⟨("lit_row", none), "lit_row", "lit_row", defArgs (top 36), defBody (top 36), defScope (top 36), [], []⟩ :: ⟨("known_rows", none), "known_rows", "known_rows", defArgs (top 37), defBody (top 37), defScope (top 37), [], []⟩ :: ⟨("least_row", none), "least_row", "least_row", defArgs (top 38), defBody (top 38), defScope (top 38), [], []⟩ :: ⟨("prices_of", none), "prices_of", "prices_of", defArgs (top 40), defBody (top 40), defScope (top 40), [], []⟩ :: ⟨("begin_of", none), "begin_of", "begin_of", defArgs (top 42), defBody (top 42), defScope (top 42), [], []⟩ :: ⟨("lot_rows", none), "lot_rows", "lot_rows", defArgs (top 43), defBody (top 43), defScope (top 43), [], []⟩ :: ⟨("cheapest", none), "cheapest", "cheapest", defArgs (top 44), defBody (top 44), defScope (top 44), [], []⟩ :: ⟨("are_prices", none), "are_prices", "are_prices", defArgs (top 46), defBody (top 46), defScope (top 46), [], []⟩ :: ⟨("holds_at", none), "holds_at", "holds_at", defArgs (top 47), defBody (top 47), defScope (top 47), [], []⟩ :: ⟨("lets_prices", none), "lets_prices", "lets_prices", defArgs (top 48), defBody (top 48), defScope (top 48), [], []⟩ :: ⟨("_law_cell_at", none), "_law_cell_at", "_law_cell_at", defArgs (top 50), defBody (top 50), defScope (top 50), [], []⟩ :: ⟨("_law_numbers", none), "_law_numbers", "_law_numbers", defArgs (top 51), defBody (top 51), defScope (top 51), [], []⟩ :: ⟨("_law_day", none), "_law_day", "_law_day", defArgs (top 52), defBody (top 52), defScope (top 52), [], []⟩ :: ⟨("_law_days", none), "_law_days", "_law_days", defArgs (top 53), defBody (top 53), defScope (top 53), [], []⟩ :: ⟨("_law_bakery", none), "_law_bakery", "_law_bakery", defArgs (top 54), defBody (top 54), defScope (top 54), [], []⟩ :: ⟨("_law_cost", none), "_law_cost", "_law_cost", defArgs (top 55), defBody (top 55), defScope (top 55), [], []⟩ :: ⟨("_law_far_apart", none), "_law_far_apart", "_law_far_apart", defArgs (top 56), defBody (top 56), defScope (top 56), [], []⟩ :: ⟨("law", none), "law", "law", defArgs (top 57), defBody (top 57), defScope (top 57), [], []⟩ :: []
def fa : List He.Fa := He.Fa.glo "is_whole" :: He.Fa.glo "is_within" :: He.Fa.glo "is_number" :: He.Fa.glo "is_day" :: He.Fa.glo "are_lights" :: He.Fa.glo "is_frame" :: He.Fa.glo "look_at_good" :: He.Fa.glo "look_at_bakery" :: He.Fa.glo "is_plain_one" :: He.Fa.glo "is_plain" :: He.Fa.glo "look_at_plain" :: He.Fa.glo "look_at_number" :: He.Fa.glo "look_at_day" :: He.Fa.glo "nights_ahead" :: He.Fa.glo "nights_behind" :: He.Fa.glo "price_of" :: He.Fa.glo "prices_from" :: He.Fa.glo "wants_from" :: He.Fa.glo "price" :: He.Fa.glo "lesser" :: He.Fa.glo "together" :: He.Fa.glo "unlit" :: He.Fa.glo "lit_row" :: He.Fa.glo "known_rows" :: He.Fa.glo "least_row" :: He.Fa.glo "prices_of" :: He.Fa.glo "begin_of" :: He.Fa.glo "lot_rows" :: He.Fa.glo "cheapest" :: He.Fa.glo "are_prices" :: He.Fa.glo "holds_at" :: He.Fa.glo "lets_prices" :: He.Fa.glo "_law_cell_at" :: He.Fa.glo "_law_numbers" :: He.Fa.glo "_law_day" :: He.Fa.glo "_law_days" :: He.Fa.glo "_law_bakery" :: He.Fa.glo "_law_cost" :: He.Fa.glo "_law_far_apart" :: He.Fa.glo "law" :: He.Fa.free "isinstance" :: He.Fa.free "range" :: He.Fa.free "enumerate" :: He.Fa.free "zip" :: He.Fa.free "len" :: He.Fa.free "sum" :: He.Fa.free "all" :: He.Fa.free "sorted" :: He.Fa.free "list" :: He.Fa.free "tuple" :: He.Fa.free "int" :: He.Fa.free "str" :: He.Fa.free "repr" :: He.Fa.free "abs" :: He.Fa.free "max" :: He.Fa.free "min" :: He.Fa.free "bool" :: He.Fa.free "dict" :: He.Fa.free "set" :: He.Fa.int "MOST" 1000000000 :: He.Fa.int "MOST_DAYS" 40 :: He.Fa.int "MOST_LIFE" 40 :: He.Fa.int "MOST_GOODS" 2 :: []
theorem world (K : PySem.W.Frag) (h : Heap) (mg : Str → Option Value) (X : K.In h) (G : h.Ns mainGlobals mg) (c : He.SaysD fa fn K) : World1 K mg ids cs T where
  blt := by
    intro x hx
    simp only [frees, List.mem_cons, List.not_mem_nil, or_false] at hx
    rcases hx with rfl | rfl | rfl | rfl | rfl | rfl | rfl | rfl | rfl | rfl | rfl | rfl | rfl | rfl | rfl | rfl | rfl | rfl | rfl
    · exact He.free_ok X G (c.fact 40 (f := .free "isinstance") rfl)
    · exact He.free_ok X G (c.fact 41 (f := .free "range") rfl)
    · exact He.free_ok X G (c.fact 42 (f := .free "enumerate") rfl)
    · exact He.free_ok X G (c.fact 43 (f := .free "zip") rfl)
    · exact He.free_ok X G (c.fact 44 (f := .free "len") rfl)
    · exact He.free_ok X G (c.fact 45 (f := .free "sum") rfl)
    · exact He.free_ok X G (c.fact 46 (f := .free "all") rfl)
    · exact He.free_ok X G (c.fact 47 (f := .free "sorted") rfl)
    · exact He.free_ok X G (c.fact 48 (f := .free "list") rfl)
    · exact He.free_ok X G (c.fact 49 (f := .free "tuple") rfl)
    · exact He.free_ok X G (c.fact 50 (f := .free "int") rfl)
    · exact He.free_ok X G (c.fact 51 (f := .free "str") rfl)
    · exact He.free_ok X G (c.fact 52 (f := .free "repr") rfl)
    · exact He.free_ok X G (c.fact 53 (f := .free "abs") rfl)
    · exact He.free_ok X G (c.fact 54 (f := .free "max") rfl)
    · exact He.free_ok X G (c.fact 55 (f := .free "min") rfl)
    · exact He.free_ok X G (c.fact 56 (f := .free "bool") rfl)
    · exact He.free_ok X G (c.fact 57 (f := .free "dict") rfl)
    · exact He.free_ok X G (c.fact 58 (f := .free "set") rfl)
  con := by
    intro x d h
    refine look_cons (Q := ConQ K mg) h ?_ fun x d h => ?_
    · obtain ⟨t, e⟩ := He.int_ok X G (c.fact 59 (f := He.Fa.int "MOST" 1000000000) rfl)
      exact ⟨_, V.int _, e, ⟨t, rfl⟩, fun H => by rw [Dv]⟩
    refine look_cons (Q := ConQ K mg) h ?_ fun x d h => ?_
    · obtain ⟨t, e⟩ := He.int_ok X G (c.fact 60 (f := He.Fa.int "MOST_DAYS" 40) rfl)
      exact ⟨_, V.int _, e, ⟨t, rfl⟩, fun H => by rw [Dv]⟩
    refine look_cons (Q := ConQ K mg) h ?_ fun x d h => ?_
    · obtain ⟨t, e⟩ := He.int_ok X G (c.fact 61 (f := He.Fa.int "MOST_LIFE" 40) rfl)
      exact ⟨_, V.int _, e, ⟨t, rfl⟩, fun H => by rw [Dv]⟩
    refine look_cons (Q := ConQ K mg) h ?_ fun x d h => ?_
    · obtain ⟨t, e⟩ := He.int_ok X G (c.fact 62 (f := He.Fa.int "MOST_GOODS" 2) rfl)
      exact ⟨_, V.int _, e, ⟨t, rfl⟩, fun H => by rw [Dv]⟩
    cases h
  fns := by
    intro x v h
    refine look_cons (Q := FnQ K mg ids cs T) h ?_ fun x v h => ?_
    · obtain ⟨fd, F⟩ := c.def_ 0 rfl
      exact ⟨t_is_whole, _, _, fd, He.glo_ok X G (c.fact 0 (f := .glo "is_whole") rfl), F, ok_is_whole, rfl, rfl, rfl⟩
    refine look_cons (Q := FnQ K mg ids cs T) h ?_ fun x v h => ?_
    · obtain ⟨fd, F⟩ := c.def_ 1 rfl
      exact ⟨t_is_within, _, _, fd, He.glo_ok X G (c.fact 1 (f := .glo "is_within") rfl), F, ok_is_within, rfl, rfl, rfl⟩
    refine look_cons (Q := FnQ K mg ids cs T) h ?_ fun x v h => ?_
    · obtain ⟨fd, F⟩ := c.def_ 2 rfl
      exact ⟨t_is_number, _, _, fd, He.glo_ok X G (c.fact 2 (f := .glo "is_number") rfl), F, ok_is_number, rfl, rfl, rfl⟩
    refine look_cons (Q := FnQ K mg ids cs T) h ?_ fun x v h => ?_
    · obtain ⟨fd, F⟩ := c.def_ 3 rfl
      exact ⟨t_is_day, _, _, fd, He.glo_ok X G (c.fact 3 (f := .glo "is_day") rfl), F, ok_is_day, rfl, rfl, rfl⟩
    refine look_cons (Q := FnQ K mg ids cs T) h ?_ fun x v h => ?_
    · obtain ⟨fd, F⟩ := c.def_ 4 rfl
      exact ⟨t_are_lights, _, _, fd, He.glo_ok X G (c.fact 4 (f := .glo "are_lights") rfl), F, ok_are_lights, rfl, rfl, rfl⟩
    refine look_cons (Q := FnQ K mg ids cs T) h ?_ fun x v h => ?_
    · obtain ⟨fd, F⟩ := c.def_ 5 rfl
      exact ⟨t_is_frame, _, _, fd, He.glo_ok X G (c.fact 5 (f := .glo "is_frame") rfl), F, ok_is_frame, rfl, rfl, rfl⟩
    refine look_cons (Q := FnQ K mg ids cs T) h ?_ fun x v h => ?_
    · obtain ⟨fd, F⟩ := c.def_ 6 rfl
      exact ⟨t_look_at_good, _, _, fd, He.glo_ok X G (c.fact 6 (f := .glo "look_at_good") rfl), F, ok_look_at_good, rfl, rfl, rfl⟩
    refine look_cons (Q := FnQ K mg ids cs T) h ?_ fun x v h => ?_
    · obtain ⟨fd, F⟩ := c.def_ 7 rfl
      exact ⟨t_look_at_bakery, _, _, fd, He.glo_ok X G (c.fact 7 (f := .glo "look_at_bakery") rfl), F, ok_look_at_bakery, rfl, rfl, rfl⟩
    refine look_cons (Q := FnQ K mg ids cs T) h ?_ fun x v h => ?_
    · obtain ⟨fd, F⟩ := c.def_ 8 rfl
      exact ⟨t_is_plain_one, _, _, fd, He.glo_ok X G (c.fact 8 (f := .glo "is_plain_one") rfl), F, ok_is_plain_one, rfl, rfl, rfl⟩
    refine look_cons (Q := FnQ K mg ids cs T) h ?_ fun x v h => ?_
    · obtain ⟨fd, F⟩ := c.def_ 9 rfl
      exact ⟨t_is_plain, _, _, fd, He.glo_ok X G (c.fact 9 (f := .glo "is_plain") rfl), F, ok_is_plain, rfl, rfl, rfl⟩
    refine look_cons (Q := FnQ K mg ids cs T) h ?_ fun x v h => ?_
    · obtain ⟨fd, F⟩ := c.def_ 10 rfl
      exact ⟨t_look_at_plain, _, _, fd, He.glo_ok X G (c.fact 10 (f := .glo "look_at_plain") rfl), F, ok_look_at_plain, rfl, rfl, rfl⟩
    refine look_cons (Q := FnQ K mg ids cs T) h ?_ fun x v h => ?_
    · obtain ⟨fd, F⟩ := c.def_ 11 rfl
      exact ⟨t_look_at_number, _, _, fd, He.glo_ok X G (c.fact 11 (f := .glo "look_at_number") rfl), F, ok_look_at_number, rfl, rfl, rfl⟩
    refine look_cons (Q := FnQ K mg ids cs T) h ?_ fun x v h => ?_
    · obtain ⟨fd, F⟩ := c.def_ 12 rfl
      exact ⟨t_look_at_day, _, _, fd, He.glo_ok X G (c.fact 12 (f := .glo "look_at_day") rfl), F, ok_look_at_day, rfl, rfl, rfl⟩
    refine look_cons (Q := FnQ K mg ids cs T) h ?_ fun x v h => ?_
    · obtain ⟨fd, F⟩ := c.def_ 13 rfl
      exact ⟨t_nights_ahead, _, _, fd, He.glo_ok X G (c.fact 13 (f := .glo "nights_ahead") rfl), F, ok_nights_ahead, rfl, rfl, rfl⟩
    refine look_cons (Q := FnQ K mg ids cs T) h ?_ fun x v h => ?_
    · obtain ⟨fd, F⟩ := c.def_ 14 rfl
      exact ⟨t_nights_behind, _, _, fd, He.glo_ok X G (c.fact 14 (f := .glo "nights_behind") rfl), F, ok_nights_behind, rfl, rfl, rfl⟩
    refine look_cons (Q := FnQ K mg ids cs T) h ?_ fun x v h => ?_
    · obtain ⟨fd, F⟩ := c.def_ 15 rfl
      exact ⟨t_price_of, _, _, fd, He.glo_ok X G (c.fact 15 (f := .glo "price_of") rfl), F, ok_price_of, rfl, rfl, rfl⟩
    refine look_cons (Q := FnQ K mg ids cs T) h ?_ fun x v h => ?_
    · obtain ⟨fd, F⟩ := c.def_ 16 rfl
      exact ⟨t_prices_from, _, _, fd, He.glo_ok X G (c.fact 16 (f := .glo "prices_from") rfl), F, ok_prices_from, rfl, rfl, rfl⟩
    refine look_cons (Q := FnQ K mg ids cs T) h ?_ fun x v h => ?_
    · obtain ⟨fd, F⟩ := c.def_ 17 rfl
      exact ⟨t_wants_from, _, _, fd, He.glo_ok X G (c.fact 17 (f := .glo "wants_from") rfl), F, ok_wants_from, rfl, rfl, rfl⟩
    refine look_cons (Q := FnQ K mg ids cs T) h ?_ fun x v h => ?_
    · obtain ⟨fd, F⟩ := c.def_ 18 rfl
      exact ⟨t_price, _, _, fd, He.glo_ok X G (c.fact 18 (f := .glo "price") rfl), F, ok_price, rfl, rfl, rfl⟩
    refine look_cons (Q := FnQ K mg ids cs T) h ?_ fun x v h => ?_
    · obtain ⟨fd, F⟩ := c.def_ 19 rfl
      exact ⟨t_lesser, _, _, fd, He.glo_ok X G (c.fact 19 (f := .glo "lesser") rfl), F, ok_lesser, rfl, rfl, rfl⟩
    refine look_cons (Q := FnQ K mg ids cs T) h ?_ fun x v h => ?_
    · obtain ⟨fd, F⟩ := c.def_ 20 rfl
      exact ⟨t_together, _, _, fd, He.glo_ok X G (c.fact 20 (f := .glo "together") rfl), F, ok_together, rfl, rfl, rfl⟩
    refine look_cons (Q := FnQ K mg ids cs T) h ?_ fun x v h => ?_
    · obtain ⟨fd, F⟩ := c.def_ 21 rfl
      exact ⟨t_unlit, _, _, fd, He.glo_ok X G (c.fact 21 (f := .glo "unlit") rfl), F, ok_unlit, rfl, rfl, rfl⟩
    refine look_cons (Q := FnQ K mg ids cs T) h ?_ fun x v h => ?_
    · obtain ⟨fd, F⟩ := c.def_ 22 rfl
      exact ⟨t_lit_row, _, _, fd, He.glo_ok X G (c.fact 22 (f := .glo "lit_row") rfl), F, ok_lit_row, rfl, rfl, rfl⟩
    refine look_cons (Q := FnQ K mg ids cs T) h ?_ fun x v h => ?_
    · obtain ⟨fd, F⟩ := c.def_ 23 rfl
      exact ⟨t_known_rows, _, _, fd, He.glo_ok X G (c.fact 23 (f := .glo "known_rows") rfl), F, ok_known_rows, rfl, rfl, rfl⟩
    refine look_cons (Q := FnQ K mg ids cs T) h ?_ fun x v h => ?_
    · obtain ⟨fd, F⟩ := c.def_ 24 rfl
      exact ⟨t_least_row, _, _, fd, He.glo_ok X G (c.fact 24 (f := .glo "least_row") rfl), F, ok_least_row, rfl, rfl, rfl⟩
    refine look_cons (Q := FnQ K mg ids cs T) h ?_ fun x v h => ?_
    · obtain ⟨fd, F⟩ := c.def_ 25 rfl
      exact ⟨t_prices_of, _, _, fd, He.glo_ok X G (c.fact 25 (f := .glo "prices_of") rfl), F, ok_prices_of, rfl, rfl, rfl⟩
    refine look_cons (Q := FnQ K mg ids cs T) h ?_ fun x v h => ?_
    · obtain ⟨fd, F⟩ := c.def_ 26 rfl
      exact ⟨t_begin_of, _, _, fd, He.glo_ok X G (c.fact 26 (f := .glo "begin_of") rfl), F, ok_begin_of, rfl, rfl, rfl⟩
    refine look_cons (Q := FnQ K mg ids cs T) h ?_ fun x v h => ?_
    · obtain ⟨fd, F⟩ := c.def_ 27 rfl
      exact ⟨t_lot_rows, _, _, fd, He.glo_ok X G (c.fact 27 (f := .glo "lot_rows") rfl), F, ok_lot_rows, rfl, rfl, rfl⟩
    refine look_cons (Q := FnQ K mg ids cs T) h ?_ fun x v h => ?_
    · obtain ⟨fd, F⟩ := c.def_ 28 rfl
      exact ⟨t_cheapest, _, _, fd, He.glo_ok X G (c.fact 28 (f := .glo "cheapest") rfl), F, ok_cheapest, rfl, rfl, rfl⟩
    refine look_cons (Q := FnQ K mg ids cs T) h ?_ fun x v h => ?_
    · obtain ⟨fd, F⟩ := c.def_ 29 rfl
      exact ⟨t_are_prices, _, _, fd, He.glo_ok X G (c.fact 29 (f := .glo "are_prices") rfl), F, ok_are_prices, rfl, rfl, rfl⟩
    refine look_cons (Q := FnQ K mg ids cs T) h ?_ fun x v h => ?_
    · obtain ⟨fd, F⟩ := c.def_ 30 rfl
      exact ⟨t_holds_at, _, _, fd, He.glo_ok X G (c.fact 30 (f := .glo "holds_at") rfl), F, ok_holds_at, rfl, rfl, rfl⟩
    refine look_cons (Q := FnQ K mg ids cs T) h ?_ fun x v h => ?_
    · obtain ⟨fd, F⟩ := c.def_ 31 rfl
      exact ⟨t_lets_prices, _, _, fd, He.glo_ok X G (c.fact 31 (f := .glo "lets_prices") rfl), F, ok_lets_prices, rfl, rfl, rfl⟩
    refine look_cons (Q := FnQ K mg ids cs T) h ?_ fun x v h => ?_
    · obtain ⟨fd, F⟩ := c.def_ 32 rfl
      exact ⟨t__law_cell_at, _, _, fd, He.glo_ok X G (c.fact 32 (f := .glo "_law_cell_at") rfl), F, ok__law_cell_at, rfl, rfl, rfl⟩
    refine look_cons (Q := FnQ K mg ids cs T) h ?_ fun x v h => ?_
    · obtain ⟨fd, F⟩ := c.def_ 33 rfl
      exact ⟨t__law_numbers, _, _, fd, He.glo_ok X G (c.fact 33 (f := .glo "_law_numbers") rfl), F, ok__law_numbers, rfl, rfl, rfl⟩
    refine look_cons (Q := FnQ K mg ids cs T) h ?_ fun x v h => ?_
    · obtain ⟨fd, F⟩ := c.def_ 34 rfl
      exact ⟨t__law_day, _, _, fd, He.glo_ok X G (c.fact 34 (f := .glo "_law_day") rfl), F, ok__law_day, rfl, rfl, rfl⟩
    refine look_cons (Q := FnQ K mg ids cs T) h ?_ fun x v h => ?_
    · obtain ⟨fd, F⟩ := c.def_ 35 rfl
      exact ⟨t__law_days, _, _, fd, He.glo_ok X G (c.fact 35 (f := .glo "_law_days") rfl), F, ok__law_days, rfl, rfl, rfl⟩
    refine look_cons (Q := FnQ K mg ids cs T) h ?_ fun x v h => ?_
    · obtain ⟨fd, F⟩ := c.def_ 36 rfl
      exact ⟨t__law_bakery, _, _, fd, He.glo_ok X G (c.fact 36 (f := .glo "_law_bakery") rfl), F, ok__law_bakery, rfl, rfl, rfl⟩
    refine look_cons (Q := FnQ K mg ids cs T) h ?_ fun x v h => ?_
    · obtain ⟨fd, F⟩ := c.def_ 37 rfl
      exact ⟨t__law_cost, _, _, fd, He.glo_ok X G (c.fact 37 (f := .glo "_law_cost") rfl), F, ok__law_cost, rfl, rfl, rfl⟩
    refine look_cons (Q := FnQ K mg ids cs T) h ?_ fun x v h => ?_
    · obtain ⟨fd, F⟩ := c.def_ 38 rfl
      exact ⟨t__law_far_apart, _, _, fd, He.glo_ok X G (c.fact 38 (f := .glo "_law_far_apart") rfl), F, ok__law_far_apart, rfl, rfl, rfl⟩
    refine look_cons (Q := FnQ K mg ids cs T) h ?_ fun x v h => ?_
    · obtain ⟨fd, F⟩ := c.def_ 39 rfl
      exact ⟨t_law, _, _, fd, He.glo_ok X G (c.fact 39 (f := .glo "law") rfl), F, ok_law, rfl, rfl, rfl⟩
    cases h
end Bk.Lw
namespace Bk.Lw
open PySem PySem.Spec PyProof.Rows L2 Bk.Pr
theorem ysum_add (y : Nat → Int) (i m : Nat) : ∀ k, ysum y i (m + k) = ysum y i m + ysum y (i + m) k
  | 0 => by simp [ysum]
  | k + 1 => by
    rw [show m + (k + 1) = (m + k) + 1 by omega]
    simp only [ysum, ysum_add y i m k]
    rw [show i + (m + k) = i + m + k by omega]
    omega
theorem ysum_zero {y : Nat → Int} {i : Nat} : ∀ {m : Nat}, (∀ v, i ≤ v → v < i + m → y v = 0) → ysum y i m = 0
  | 0, _ => rfl
  | m + 1, h => by
    simp only [ysum]
    rw [ysum_zero (m := m) fun v h1 h2 => h v h1 (by omega), h (i + m) (by omega) (by omega)]
    rfl
/-- prices that are let by come to no more than the least cost -/
theorem let_le {H : Shop} {n : Nat} (ok : H.Ok n) {y : Nat → Int} (l : LetBy H n y) : ∀ {k j : Nat} {x : Int}, k ≤ n → j ≤ n → H.row (downTo k) j = some x → ysum y 0 j ≤ x
  | 0, j, x, hk, hj, h => by
    obtain ⟨h1, h2⟩ := non_some (H := H) h
    have := ysum_zero (y := y) (i := 0) (m := j) fun v _ hv => l.1 v (by omega) (h2 v (by omega))
    omega
  | k + 1, j, x, hk, hj, h => by
    have e : H.row (downTo (k + 1)) j = lesO (H.row (downTo k) j) (H.own k (H.row (downTo k)) j) := rfl
    rcases lesO_or (H.row (downTo k) j) (H.own k (H.row (downTo k)) j) with q | q
    · rw [e, q] at h
      exact let_le ok l (by omega) hj h
    · rw [e, q] at h
      unfold Shop.own at h
      obtain ⟨w, z, hw, hz, rfl⟩ := addO_some h
      cases hz
      obtain ⟨i, hi, a, c, h1, h2, rfl⟩ := bestO_get hw
      have i1 := let_le ok l (k := k) (j := i) (by omega) (by omega) h1
      have i2 := let_below l (s := k) (i := i) (m := j - i) (by omega) (by omega) h2 (ok.l k (by omega))
      have sp := ysum_add y 0 i (j - i)
      rw [show i + (j - i) = j by omega, Nat.zero_add] at sp
      omega
theorem perm_sum {l l' : List Int} (p : l.Perm l') : l.sum = l'.sum := by
  induction p with
  | nil => rfl
  | cons x p ih => simp only [List.sum_cons, ih]
  | swap x y l => simp only [List.sum_cons]; omega
  | trans p q i1 i2 => rw [i1, i2]
theorem law_cost_ok (n : Nat) {b : Bak} {g : Good} (h : Pl b g) {es : List (Nat × Nat)} (pm : es.Perm (plan (g.shop b.lights) ((g.shop b.lights).lots b.lights.length b.lights.length))) : callN T (n + 8) 1000 [b.d, .list (es.map (entD (g.shop b.lights)))] = .ok (.int ((g.shop b.lights).R b.lights.length b.lights.length)) := by
  have few := h.ok.few
  have ok := pl_ok h
  have hl := h.len
  have gok := h.gok
  have req := Shop.R_eq ok (pl_own h) (Nat.le_refl _) (Nat.le_refl b.lights.length)
  obtain ⟨lo, x1⟩ := lots_ok ok (Nat.le_refl _) (Nat.le_refl _) req
  have hw : ∀ v, (g.shop b.lights).want v = (nth g.days v).want := fun v => rfl
  have hL : ∀ v, (g.shop b.lights).L v = nth b.lights v := fun v => rfl
  have hp : ∀ s v, (g.shop b.lights).p s v = g.price s v := fun s v => rfl
  generalize hLS : (g.shop b.lights).lots b.lights.length b.lights.length = LS at *
  generalize hH : g.shop b.lights = H at *
  generalize hx : H.R b.lights.length b.lights.length = x at *
  have inn := lots_in lo
  have pl := plan_len lo
  have mp := mem_plan (n := 0) lo
  have pr := lots_rise lo
  have lit := lots_lit (n := b.lights.length) ok.w lo (Nat.le_refl _)
  have psum := plan_sum (n := b.lights.length) ok.w lo (Nat.le_refl _)
  have ln : es.length < 64 := by rw [pm.length_eq]; omega
  have ixe : ∀ e, ixD (entD H e) (.int 0) = .ok (.int (e.1 : Nat)) := fun e => rfl
  have st : biD .setl [.list (es.map fun e => PyData.int (e.1 : Nat))] = .ok (.list (LS.map fun p => .int (p.1 : Nat))) := by
    have e1 : (es.map fun e => PyData.int (e.1 : Nat)) = ((es.map fun e => (e.1 : Int)).map .int) := by rw [List.map_map]; rfl
    have e2 : biD .setl [.list ((es.map fun e => (e.1 : Int)).map .int)] = (match intsOf ((es.map fun e => (e.1 : Int)).map .int) with
      | some ns => if ns.length < 64 then .ok (.list ((sortU ns).map .int)) else .bad
      | none => .bad) := rfl
    rw [e1, e2, intsOf_m]
    dsimp only
    rw [if_pos (by rw [List.length_map]; exact ln)]
    have e3 : sortU (es.map fun e => (e.1 : Int)) = LS.map fun p => (p.1 : Int) := rise_eq (sortU_rise _) pr.2 fun k => by
      rw [sortU_mem, List.mem_map, List.mem_map]
      constructor
      · rintro ⟨e, he, rfl⟩
        obtain ⟨p, hp, e4⟩ := plan_lot e (pm.mem_iff.mp he)
        exact ⟨p, hp, by rw [e4]⟩
      · rintro ⟨p, hp, rfl⟩
        obtain ⟨e, he, e4⟩ := lit p hp
        exact ⟨e, pm.mem_iff.mpr he, by rw [e4]⟩
    rw [e3, List.map_map]
    rfl
  have li : ∀ p ∈ LS, ixD (.list (b.lights.map .int)) (.int (p.1 : Nat)) = .ok (.int (nth b.lights p.1)) := fun p hp => ixM (inn p hp).1
  refine call_do rfl rfl ?_
  simp_arith [t__law_cost, Tx.fn, c__law_cost, n__law_cost, ixe, st, li]
  refine loop_map (fun i => [some b.d, some (.list (es.map (entD H))), some (.list (LS.map fun p => .int (p.1 : Nat))), some (.int ((LS.map fun p => nth b.lights p.1).sum + ((es.take i).map (eC H)).sum)), none, none, none, none, none, none]) (by simp_arith [List.take_zero, List.map_nil, List.sum_nil, Int.add_zero]) (fun i hi => ?_) ?_
  · obtain ⟨e1, e2, e3, c, e4⟩ := mp _ (pm.mem_iff.mp (nth_mem hi))
    have tk : ((es.take (i + 1)).map (eC H)).sum = ((es.take i).map (eC H)).sum + eC H (nth es i) := by
      rw [List.take_succ_eq_append_getElem hi, List.map_append, List.sum_append, ← nth_eq hi]
      simp
    rw [tk]
    generalize nth es i = e at *
    have wz : (nth g.days e.2).want ≠ 0 := by have := hw e.2; omega
    have ec : eC H e = c := by unfold eC; rw [e4]; rfl
    obtain ⟨p, p1, p2⟩ := Shop.c_some e4 (by rw [hw]; exact wz)
    rw [hp] at p1
    rw [hw] at p2
    have g0 : b.goods[0]'(by rw [h.goods]; simp) = g := by simp [h.goods]
    have po := price_ok ext n h.ok (g := 0) (x := e.1) (y := e.2) (by rw [h.goods]; simp) e1 e2
    rw [g0, p1, optD_s] at po
    have po' : callN T (n + 7) 31 [b.d, .int 0, .int e.1, .int e.2] = .ok (.int p) := po
    have wb := (gok.2.2 _ (nth_mem (show e.2 < g.days.length by omega))).1
    have ms : opD .mul (.int (nth g.days e.2).want) (.int p) = .ok (.int ((nth g.days e.2).want * p)) := mul_small (by have := wb.1; have := wb.2; constructor <;> omega)
    have ed : entD H e = .tuple [.int e.1, .int 0, .int e.2, .int (nth g.days e.2).want] := by rw [← hw]; rfl
    rw [ec, p2]
    simp_arith [b1__law_cost, ed, po', ms, Int.add_assoc]
  · rw [List.take_length, perm_sum (pm.map (eC H))]
    have : (LS.map fun p => nth b.lights p.1).sum + ((plan H LS).map (eC H)).sum = x := by
      rw [x1, psum, show (fun p : Nat × Nat × Nat => H.L p.1) = (fun p => nth b.lights p.1) from funext fun p => hL _]
    rw [this]
    simp_arith []
/-! ### a bakery in which all nights are free and all days are alike -/
def evenRow (r : Row) : Row := ⟨r.want, 5, 0, some 0⟩
def evenG (g : Good) : Good := ⟨g.days.map evenRow, none⟩
def evenB (b : Bak) (g : Good) : Bak := ⟨b.lights.map fun _ => 7, none, [evenG g]⟩
theorem even_pl {b : Bak} {g : Good} (h : Pl b g) : Pl (evenB b g) (evenG g) where
  ok := {
    few := by
      have e : (evenB b g).lights.length = b.lights.length := by simp [evenB]
      rw [e]
      exact h.ok.few
    lit := fun l hl => by
      obtain ⟨_, _, rfl⟩ := List.mem_map.mp hl
      exact ⟨by omega, by omega⟩
    bound := trivial
    many := ⟨Nat.le_refl 1, by show 1 ≤ 2; omega⟩
    good := fun g' hg => by
      rw [show g' = evenG g from List.mem_singleton.mp hg]
      refine ⟨?_, trivial, fun r hr => ?_⟩
      · show (g.days.map evenRow).length = (b.lights.map fun _ => (7 : Int)).length
        rw [List.length_map, List.length_map]
        exact h.len
      · obtain ⟨r0, h0, rfl⟩ := List.mem_map.mp hr
        have := (h.gok.2.2 r0 h0).1
        exact ⟨this, ⟨by show (0 : Int) ≤ 5; omega, by show (5 : Int) ≤ 1000000000; omega⟩, ⟨by show (0 : Int) ≤ 0; omega, by show (0 : Int) ≤ 1000000000; omega⟩, ⟨by omega, by omega⟩⟩ }
  bound := rfl
  goods := rfl
theorem sum0 {rs : List Row} {f : Row → Int} (h : ∀ r ∈ rs, f r = 0) : (rs.map f).sum = 0 := by
  induction rs with
  | nil => rfl
  | cons r rs ih => rw [List.map_cons, List.sum_cons, h r List.mem_cons_self, ih fun x hx => h x (List.mem_cons_of_mem _ hx)]; rfl
theorem osum0 {rs : List Row} (h : ∀ r ∈ rs, r.fine = some 0) : optSum (rs.map Row.fine) = some 0 := by
  induction rs with
  | nil => rfl
  | cons r rs ih => simp only [List.map_cons, optSum, h r List.mem_cons_self, ih fun x hx => h x (List.mem_cons_of_mem _ hx), Option.map_some]; rfl
theorem seg_mem {α : Type} {xs : List α} {i j : Nat} {x : α} (h : x ∈ seg xs i j) : x ∈ xs := List.mem_of_mem_take (List.mem_of_mem_drop h)
theorem even_price {g : Good} {s v : Nat} (hs : s < g.days.length) : (evenG g).price s v = some 5 := by
  have hs2 : s < (evenG g).days.length := by show s < (g.days.map evenRow).length; rw [List.length_map]; exact hs
  have all : ∀ r ∈ (evenG g).days, r.loaf = 5 ∧ r.keep = 0 ∧ r.fine = some 0 := fun r hr => by
    obtain ⟨r0, _, rfl⟩ := List.mem_map.mp hr
    exact ⟨rfl, rfl, rfl⟩
  rw [price_eq hs2, (all _ (List.getElem_mem hs2)).1]
  have e : (evenG g).nights s v = some 0 := by
    unfold Good.nights
    split
    · show some _ = some _
      congr 1
      exact sum0 fun r hr => (all r (seg_mem hr)).2.1
    · exact osum0 fun r hr => (all r (seg_mem hr)).2.2
  rw [e]
  rfl
theorem ysum_one (y : Nat → Int) (f : Nat) (d : Int) (i : Nat) : ∀ m, ysum (fun v => y v + if v = f then d else 0) i m = ysum y i m + if i ≤ f ∧ f < i + m then d else 0
  | 0 => by
    rw [if_neg (by omega)]
    simp [ysum]
  | m + 1 => by
    simp only [ysum, ysum_one y f d i m]
    by_cases q : i + m = f
    · rw [if_pos q, if_neg (by omega), if_pos (by omega)]
      omega
    · rw [if_neg q]
      by_cases q2 : i ≤ f ∧ f < i + m
      · rw [if_pos q2, if_pos (by omega)]
        omega
      · rw [if_neg q2, if_neg (by omega)]
        omega
theorem smO_const {f : Nat → Option Int} {u : Nat → Int} {i : Nat} : ∀ {m : Nat}, (∀ v, i ≤ v → v < i + m → f v = some (u v)) → smO f i m = some (ysum u i m)
  | 0, _ => rfl
  | m + 1, h => by
    simp only [smO, smO_const (m := m) fun v h1 h2 => h v h1 (by omega), h (i + m) (by omega) (by omega), ysum]
    rfl
section
variable {b : Bak} {g : Good}
theorem even_len : (evenB b g).lights.length = b.lights.length := by simp [evenB]
theorem even_want (h : Pl b g) {v : Nat} (hv : v < b.lights.length) : ((evenG g).shop (evenB b g).lights).want v = (nth g.days v).want := by
  have hl := h.len
  show (nth (g.days.map evenRow) v).want = _
  rw [nth_map (by omega)]
  rfl
theorem even_c (h : Pl b g) {s v : Nat} (hs : s < b.lights.length) (hv : v < b.lights.length) : ((evenG g).shop (evenB b g).lights).c s v = some (5 * (nth g.days v).want) := by
  unfold Shop.c
  rw [even_want h hv]
  by_cases q : (nth g.days v).want = 0
  · rw [if_pos q, q]
    rfl
  · rw [if_neg q]
    show ((evenG g).price s v).map _ = _
    rw [even_price (by have := h.len; omega)]
    show some _ = some _
    rw [Int.mul_comm]
theorem even_L {s : Nat} (hs : s < b.lights.length) : ((evenG g).shop (evenB b g).lights).L s = 7 := by
  show nth (b.lights.map fun _ => (7 : Int)) s = 7
  rw [nth_map hs]
def y1 (g : Good) (f v : Nat) : Int := 5 * (nth g.days v).want + if v = f then 7 else 0
def y2 (g : Good) (f l v : Nat) : Int := y1 g f v + if v = l then 1 else 0
theorem even_sum (h : Pl b g) {s i m : Nat} (hs : s < b.lights.length) (hm : i + m ≤ b.lights.length) : smO (((evenG g).shop (evenB b g).lights).c s) i m = some (ysum (fun v => 5 * (nth g.days v).want) i m) :=
  smO_const fun v h1 h2 => even_c h hs (by omega)
theorem even_let (h : Pl b g) {f : Nat} (hf : (nth g.days f).want ≠ 0) : LetBy ((evenG g).shop (evenB b g).lights) b.lights.length (y1 g f) := by
  constructor
  · intro v hv w
    rw [even_want h hv] at w
    have : v ≠ f := fun q => hf (by rw [← q]; exact w)
    unfold y1
    rw [w, if_neg this]
    rfl
  · rintro s hs i hi ⟨m, x, h1, h2, h3⟩
    rw [even_sum h hs h1] at h2
    cases h2
    rw [even_L hs] at h3
    have := ysum_one (fun v => 5 * (nth g.days v).want) f 7 i m
    have e : ysum (y1 g f) i m = _ := this
    rw [e] at h3
    split at h3 <;> omega
theorem even_not (h : Pl b g) {f l : Nat} (hf : f < b.lights.length) (hl : l < b.lights.length) : ¬ LetBy ((evenG g).shop (evenB b g).lights) b.lights.length (y2 g f l) := by
  intro q
  have few := h.ok.few
  refine q.2 0 (by omega) 0 (by omega) ⟨b.lights.length, _, by omega, even_sum h (by omega) (by omega), ?_⟩
  rw [even_L (by omega)]
  have e1 : ysum (y1 g f) 0 b.lights.length = _ := ysum_one (fun v => 5 * (nth g.days v).want) f 7 0 b.lights.length
  have e2 : ysum (y2 g f l) 0 b.lights.length = _ := ysum_one (y1 g f) l 1 0 b.lights.length
  rw [e2, e1, if_pos (by omega), if_pos (by omega)]
  omega
theorem even_row (h : Pl b g) {f : Nat} (hf : f < b.lights.length) (wf : (nth g.days f).want ≠ 0) : lr (evenB b g) (evenG g) b.lights.length = ysum (y1 g f) 0 b.lights.length := by
  have few := h.ok.few
  have hp := even_pl h
  have ok := pl_ok hp
  have ow := pl_own hp
  rw [even_len] at ok ow
  have r1 := let_le ok (even_let h wf) (Nat.le_refl _) (Nat.le_refl _) (Shop.R_eq ok ow (Nat.le_refl _) (Nat.le_refl b.lights.length))
  have r2 := Shop.R_block ok ow (k := b.lights.length) (i := 0) (m := b.lights.length) (s := 0) (Nat.le_refl _) (by omega) (by omega) (even_sum h (by omega) (by omega))
  have r3 : ((evenG g).shop (evenB b g).lights).R b.lights.length 0 = 0 := by
    have e1 := Shop.R_eq ok ow (Nat.le_refl _) (Nat.zero_le b.lights.length)
    rw [Shop.row_0 ok (Nat.le_refl _)] at e1
    exact (Option.some.inj e1).symm
  rw [r3, even_L (by omega), Nat.zero_add] at r2
  have e1 : ysum (y1 g f) 0 b.lights.length = _ := ysum_one (fun v => 5 * (nth g.days v).want) f 7 0 b.lights.length
  rw [if_pos (by omega)] at e1
  show ((evenG g).shop (evenB b g).lights).R b.lights.length b.lights.length = _
  omega
theorem far_ok (n : Nat) (h : Pl b g) : callN T (n + 10) 1001 [b.d] = .ok (.bool true) := by
  have few := h.ok.few
  have hl := h.len
  have ed : (g.days.map fun x => PyData.tuple [.int x.want, .int 5, .int 0, .int 0]) = (List.range b.lights.length).map fun v => (evenRow (nth g.days v)).d := by
    rw [← hl]
    exact (map_rng (h := fun x : Row => PyData.tuple [.int x.want, .int 5, .int 0, .int 0]) rfl)
  refine call_do rfl rfl ?_
  simp_arith [t__law_far_apart, Tx.fn, c__law_far_apart, n__law_far_apart, h.goods, ed]
  have wm : ∀ x ∈ List.filter (fun x => decide (0 < (evenRow (nth g.days x)).want)) (List.range b.lights.length), x < b.lights.length ∧ (nth g.days x).want ≠ 0 := fun x hx => by
    rw [List.mem_filter, List.mem_range, decide_eq_true_eq] at hx
    have : 0 < (nth g.days x).want := hx.2
    exact ⟨hx.1, by omega⟩
  generalize List.filter (fun x => decide (0 < (evenRow (nth g.days x)).want)) (List.range b.lights.length) = W at *
  by_cases q : W.length < 2
  · have q2 : ((W.length : Nat) : Int) < 2 := by omega
    simp_arith [q2]
  · have q2 : ¬ ((W.length : Nat) : Int) < 2 := by omega
    have i0 : ixD (.list (W.map fun x => PyData.int (x : Nat))) (.int 0) = .ok (.int (nth W 0 : Nat)) := ixM (i := 0) (f := fun x : Nat => PyData.int x) (by omega)
    have il : ixD (.list (W.map fun x => PyData.int (x : Nat))) (.int (-1)) = .ok (.int (nth W (W.length - 1) : Nat)) := ix_lastM (f := fun x : Nat => PyData.int x) (by omega)
    obtain ⟨f1, f2⟩ := wm _ (nth_mem (xs := W) (i := 0) (by omega))
    obtain ⟨l1, l2⟩ := wm _ (nth_mem (xs := W) (i := W.length - 1) (by omega))
    generalize nth W 0 = f at *
    generalize nth W (W.length - 1) = l at *
    have bd : PyData.tuple [.list (b.lights.map fun _ => PyData.int 7), .none, .list [.tuple [.list ((List.range b.lights.length).map fun v => (evenRow (nth g.days v)).d), .none]]] = (evenB b g).d := by
      rw [← hl, ← map_rng (h := fun x : Row => (evenRow x).d) rfl]
      show _ = PyData.tuple [.list ((b.lights.map fun _ => (7 : Int)).map .int), .none, .list [.tuple [.list ((g.days.map evenRow).map Row.d), .none]]]
      rw [List.map_map, List.map_map]
      rfl
    have s1 : ((List.range b.lights.length).map fun x => PyData.int (5 * (evenRow (nth g.days x)).want)).set f (.int (5 * (evenRow (nth g.days f)).want + 7)) = (List.range b.lights.length).map fun v => .int (y1 g f v) := by
      rw [set_rng f1]
      refine List.map_congr_left fun k _ => ?_
      unfold y1
      by_cases e : k = f
      · rw [if_pos e, if_pos e, e]; rfl
      · rw [if_neg e, if_neg e, Int.add_zero]; rfl
    have s2 : ((List.range b.lights.length).map fun v => PyData.int (y1 g f v)).set l (.int (y1 g f l + 1)) = (List.range b.lights.length).map fun v => .int (y2 g f l v) := by
      rw [set_rng l1]
      refine List.map_congr_left fun k _ => ?_
      unfold y2
      by_cases e : k = l
      · rw [if_pos e, if_pos e, e]
      · rw [if_neg e, if_neg e, Int.add_zero]
    obtain ⟨B1, hB1, lt1⟩ := lets_prices_ok ext n (even_pl h) (y1 g f)
    obtain ⟨B2, hB2, lt2⟩ := lets_prices_ok ext n (even_pl h) (y2 g f l)
    rw [even_len] at hB1 hB2 lt1 lt2
    have hT := hB1.mpr (even_let h f2)
    subst hT
    have hF : B2 = false := by
      cases B2 with
      | false => rfl
      | true => exact absurd (hB2.mp rfl) (even_not h f1 l1)
    subst hF
    have lrw := least_row_int ext n (even_pl h)
    have la := lr_last (b := evenB b g) (g := evenG g)
    rw [even_len, even_row h f1 f2] at la
    have sm : biD .sum [.list ((List.range b.lights.length).map fun v => PyData.int (y1 g f v))] = .ok (.int (ysum (y1 g f) 0 b.lights.length)) := by rw [sum_map, sum_range]
    simp_arith [q2, i0, il, bd, s1, s2, lt1, lt2, lrw, la, sm]
end
/-- one more on a want isn't let by -/
theorem more_not {b : Bak} {g : Good} (h : Pl b g) {v : Nat} (hv : v < b.lights.length) : ¬ LetBy (g.shop b.lights) b.lights.length (fun k => yv b g k + if k = v then 1 else 0) := by
  intro q
  have ok := pl_ok h
  have ow := pl_own h
  have r1 := let_le ok q (Nat.le_refl _) (Nat.le_refl _) (Shop.R_eq ok ow (Nat.le_refl _) (Nat.le_refl b.lights.length))
  have r3 : (g.shop b.lights).R b.lights.length 0 = 0 := by
    have e1 := Shop.R_eq ok ow (Nat.le_refl _) (Nat.zero_le b.lights.length)
    rw [Shop.row_0 ok (Nat.le_refl _)] at e1
    exact (Option.some.inj e1).symm
  rw [ysum_one, if_pos (by omega), ysum_yv, r3, Nat.zero_add] at r1
  omega
theorem more_list {b : Bak} {g : Good} {v : Nat} (hv : v < b.lights.length) : (prD b g).take v ++ [.int (yv b g v + 1)] ++ (prD b g).drop (v + 1) = (List.range b.lights.length).map fun k => .int (yv b g k + if k = v then 1 else 0) := by
  have e : (prD b g).set v (.int (yv b g v + 1)) = (List.range b.lights.length).map fun k => .int (yv b g k + if k = v then 1 else 0) := by
    unfold prD
    rw [set_rng hv]
    refine List.map_congr_left fun k _ => ?_
    by_cases q : k = v
    · rw [if_pos q, if_pos q, q]
    · rw [if_neg q, if_neg q, Int.add_zero]
  rw [← e, List.set_eq_take_append_cons_drop, if_pos (by simpa [prD] using hv)]
  simp
theorem says (nums : List Int) (h : nums.length ≤ 63) (_ : ∀ i ∈ nums, Builtin.Int.intBits i ≤ 1048576) : callN T 12 1002 [.list (nums.map .int)] = .ok (.bool true) := by
  obtain ⟨b, g, e1, hp, hl⟩ := law_bakery_ok ext 8 nums 41 2600 (by omega) (by omega) (by omega)
  have e1' : callN T 11 69 [.list (nums.map .int), .int 41, .int 2600] = .ok b.d := e1
  have few := hp.ok.few
  have hl := hp.len
  have ok := pl_ok hp
  have far := far_ok 1 hp
  have lrow := least_row_int ext 2 hp
  have pr : callN T 11 79 [b.d] = .ok (.list (prD b g)) := prices_gen ext 2 hp (ext 79 _ rfl) (.inl rfl)
  obtain ⟨B, hB, lt⟩ := lets_prices_ok ext 2 hp (yv b g)
  have hT := hB.mpr (yv_let hp)
  subst hT
  have lt' : callN T 11 78 [b.d, .list (prD b g)] = .ok (.bool true) := lt
  obtain ⟨es, pm, ch⟩ := cheapest_ok ext 2 hp
  have lc : callN T 11 1000 [b.d, .list (es.map (entD (g.shop b.lights)))] = .ok (.int (lr b g b.lights.length)) := law_cost_ok 3 hp pm
  have ln : (prD b g).length = b.lights.length := by simp [prD]
  obtain ⟨d0, e2, bl⟩ := numbers_ok ext 10 (cellAt nums 0) 2690 [41] (by omega) (by omega) (by decide) (by decide)
  obtain ⟨a, rfl, a0, a1⟩ := below1 bl
  have e2' : callN T 11 4 [.int (cellAt nums 0), .int 2690, .list [.int 41]] = .ok (.list [.int a]) := e2
  have ec : callN T 11 11 [.list (nums.map .int), .int 0] = .ok (.int (cellAt nums 0)) := cell_at_ok ext 10 nums 0
  refine call_do rfl rfl ?_
  simp_arith [t_law, Tx.fn, c_law, n_law, e1', far, lrow, lr_last, pr, lt', sum_prices hp, ch, lc, e2', ec, ln, hp.goods]
  have wm : ∀ x ∈ List.filter (fun x => decide (0 < (nth g.days x).want)) (List.range b.lights.length), x < b.lights.length := fun x hx => by
    rw [List.mem_filter, List.mem_range] at hx
    exact hx.1
  generalize List.filter (fun x => decide (0 < (nth g.days x).want)) (List.range b.lights.length) = W at *
  have nn : cmpD .ne (.list (W.map fun i => PyData.int (i : Nat))) (.list []) = .ok (!(W.map fun i => PyData.int (i : Nat)).isEmpty) := ne_nil (plains_map fun k _ => by simp [plain])
  cases W with
  | nil =>
    have n0 : cmpD .ne (.list (([] : List Nat).map fun i => PyData.int (i : Nat))) (.list []) = .ok false := nn
    simp only [List.map_nil] at n0
    simp_arith [n0, List.map_nil]
  | cons w0 W' =>
    have n1 : cmpD .ne (.list ((w0 :: W').map fun i => PyData.int (i : Nat))) (.list []) = .ok true := nn
    have wl : 0 < (w0 :: W').length := by simp
    generalize w0 :: W' = W at *
    have wl2 : (0 : Int) < (W.length : Nat) := by omega
    have m0 := Int.emod_nonneg (a % (b.lights.length : Nat)) (show ((W.length : Nat) : Int) ≠ 0 by omega)
    have m1 := Int.emod_lt_of_pos (a % (b.lights.length : Nat)) wl2
    obtain ⟨t, ht⟩ := Int.eq_ofNat_of_zero_le m0
    have htl : t < W.length := by omega
    have md : opD .mod (.int (a % (b.lights.length : Nat))) (.int (W.length : Nat)) = .ok (.int (t : Nat)) := by
      rw [← ht]
      simp_arith []
    have iw : ixD (.list (W.map fun i => PyData.int (i : Nat))) (.int (t : Nat)) = .ok (.int (nth W t : Nat)) := ixM (f := fun i : Nat => PyData.int i) htl
    have hv := wm _ (nth_mem htl)
    generalize nth W t = v at *
    have iy : ixD (.list (prD b g)) (.int (v : Nat)) = .ok (.int (yv b g v)) := ixR hv
    have c1 : cutL (prD b g) none (some (v : Nat)) = (prD b g).take v := cut_0n
    have c2 : cutL (prD b g) (some ((v + 1 : Nat) : Int)) none = (prD b g).drop (v + 1) := cut_n0
    have o1 : opD .add (.list ((prD b g).take v)) (.list [.int (yv b g v + 1)]) = .ok (.list ((prD b g).take v ++ [.int (yv b g v + 1)])) := op_addLL (by rw [List.length_take, ln]; simp; omega)
    have o2 : opD .add (.list ((prD b g).take v ++ [.int (yv b g v + 1)])) (.list ((prD b g).drop (v + 1))) = .ok (.list ((List.range b.lights.length).map fun k => .int (yv b g k + if k = v then 1 else 0))) := by
      rw [← more_list hv]
      exact op_addLL (by rw [List.length_append, List.length_take, List.length_drop, ln]; simp; omega)
    obtain ⟨B2, hB2, lt2⟩ := lets_prices_ok ext 2 hp (fun k => yv b g k + if k = v then 1 else 0)
    have hF : B2 = false := by
      cases B2 with
      | false => rfl
      | true => exact absurd (hB2.mp rfl) (more_not hp hv)
    subst hF
    have lt3 : callN T 11 78 [b.d, .list ((List.range b.lights.length).map fun k => .int (yv b g k + if k = v then 1 else 0))] = .ok (.bool false) := lt2
    simp_arith [n1, md, iw, iy, c1, c2, o1, o2, lt3]
end Bk.Lw
namespace Bk.Lw
open PySem PySem.Spec PyProof.Rows L2
abbrev R : PySem.W.OpenRow := PySem.W.OpenLaw.row PySem.Challenge.rw_bakeahead_k26_forty_days
abbrev hk : PySem.W.Hook := He.hookD 4 fa fn
def ob (s : PySem.W.SharedT) : He.AlD := He.obsDG 4 fa fn (HandSHeadRun.getT s)
theorem ob_eq (s : PySem.W.SharedT) : ob s = hk.obs s.abs := He.obsDG_eq (HandSHeadRun.getT_eq s)
def loose : List Str := "BakeError" :: "NoBakery" :: "NoDay" :: "NoGood" :: "NotPlain" :: "MOST" :: "is_whole" :: "is_within" :: "is_number" :: "MOST_DAYS" :: "MOST_LIFE" :: "MOST_GOODS" :: "is_day" :: "are_lights" :: "is_frame" :: "look_at_good" :: "look_at_bakery" :: "is_plain_one" :: "is_plain" :: "look_at_plain" :: "look_at_number" :: "look_at_day" :: "nights_ahead" :: "nights_behind" :: "price_of" :: "prices_from" :: "wants_from" :: "price" :: "lesser" :: "together" :: "unlit" :: "lit_row" :: "known_rows" :: "least_row" :: "prices_of" :: "begin_of" :: "lot_rows" :: "cheapest" :: "are_prices" :: "holds_at" :: "lets_prices" :: "_law_cell_at" :: "_law_numbers" :: "_law_day" :: "_law_days" :: "_law_bakery" :: "_law_cost" :: "_law_far_apart" :: []
theorem run (w : PySem.World) : HandSHeadRun.RunEq R (PySem.W.view R.prog [57]) hk ob 4000 loose w := by
  intro os
  kernel_rfl
end Bk.Lw
open PySem PySem.W PySem.Calls PyProof.Rows
theorem PySem.Challenge.cw_bakeahead_k26_forty_days_holds : PySem.Challenge.rw_bakeahead_k26_forty_days.Holds := by
  w_on; o_law
  refine HandSHeadRun.head_any (r := OpenLaw.row PySem.Challenge.rw_bakeahead_k26_forty_days) (q := view (OpenLaw.row PySem.Challenge.rw_bakeahead_k26_forty_days).prog [57]) (H := Bk.Lw.hk) (ob := Bk.Lw.ob) (M := 4000) (loose := Bk.Lw.loose) (d := HandSHeadRun.topDef (OpenLaw.row PySem.Challenge.rw_bakeahead_k26_forty_days).prog 57) (kwd := []) Bk.Lw.ob_eq
    (by kernel_rfl) (fun s => by kernel_rfl) Bk.Lw.run (by kernel_rfl) (by kernel_rfl) (by kernel_rfl) (by rfl) (by first | assumption | decide +kernel) (by decide +kernel) ⟨rfl, rfl, rfl, rfl, rfl, by decide +kernel⟩ ?hw ?hc
  case hw => w_witness2
  case hc =>
    exact Bk.walk_bk (l := PySem.Challenge.rw_bakeahead_k26_forty_days) (lv := 12) (k := 1002) (lw := "law") (ids := Bk.Lw.ids) (cs := Bk.Lw.cs) (T := Bk.Lw.T) rfl (by kernel_rfl) ⟨rfl, by decide, by decide⟩ (by kernel_rfl) rfl Bk.Lw.world Bk.Lw.says
