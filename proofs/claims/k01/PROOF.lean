import PyProof.Rows.All
import Wide.All
import OpenK.AllK
import Wide.FinOn
import HandS.Base
import HandS.Call
import HandS.List
import HandS.Text
import KE.LtData
import KE.DataCmp
import HandS.Exc
import HandS.ExcOwn
import HandS.Comp
import HandS.TupAny
import HandS.TupMul
import HandS.Style
import HandS.Words
import HandS.WordsExc
import HandS.IsInst
import KE.DataEq
import KE.DataIsa
import KE.DataFind
import HandS.Iter
import HandS.Defaults
import KE.KStateDown
import HandS.Ends
import HandS.More
import HandS.Head0
import HandS.Head1
import HandS.Head2
import HandS.HeadEnd
import HandS.HeadHook1
import HandS.HeadHook2
import HandS.HeadHook3
import HandS.HeadHook4
import PySem.Challenge.RW_queryheld_k01_whole_least_differences
set_option Elab.async false
set_option linter.all false
set_option maxRecDepth 100000
set_option maxHeartbeats 0
/-! The mini language and its interpreter. -/
namespace Qh
open PySem PySem.Spec PyProof.Rows PySem.W

/-- data by value -/
inductive D where
  | non | bl (b : Bool) | int (i : Int) | str (s : Str) | tup (l : List D) | lst (l : List D) | scr (l : List Int) | dct (ks vs : List D)

mutual
def D.py : D → PyData
  | .non => .none
  | .bl b => .bool b
  | .int i => .int i
  | .str s => .str s
  | .tup l => .tuple (D.pys l)
  | .lst l => .list (D.pys l)
  | .scr l => .list (l.map PyData.int)
  | .dct _ _ => .dict []
def D.pys : List D → List PyData
  | [] => []
  | d :: ds => D.py d :: D.pys ds
end
mutual
def D.flat : D → Bool
  | .non | .bl _ | .int _ | .str _ | .scr _ => true
  | .tup l => D.flats l
  | .lst _ | .dct _ _ => false
def D.flats : List D → Bool
  | [] => true
  | d :: ds => D.flat d && D.flats ds
end
mutual
def D.dep : D → Option Nat
  | .non | .bl _ | .int _ | .str _ => some 0
  | .tup l | .lst l => (D.deps l).map (· + 1)
  | .scr _ => some 1
  | .dct _ _ => none
def D.deps : List D → Option Nat
  | [] => some 0
  | d :: ds => match D.dep d, D.deps ds with
    | some a, some b => some (max a b)
    | _, _ => none
end
def D.eq (a b : D) : Bool := PyData.eqv a.py b.py

/-- an object that may change -/
inductive O where
  | lst (l : List D) | dct (ks vs : List D) | ins (c : Nat) (fs : List (Str × D))
inductive Sl where
  | non | dat (d : D) | own (o : O)
abbrev En := List Sl
def Sl.isOwn : Sl → Bool
  | .own _ => true
  | _ => false
def En.at (env : En) (i : Nat) : Sl := env.getD i .non

structure Exn where
  c : Nat
  ix : Option Int
inductive Res (α : Type) where
  | ok (a : α) (e : En) | exc (x : Exn) (e : En) | bad
def Res.bind {α β : Type} : Res α → (α → En → Res β) → Res β
  | .ok a e, k => k a e
  | .exc x e, _ => .exc x e
  | .bad, _ => .bad
def onBl {α : Type} (x : D) (e : En) (A B : En → Res α) : Res α := match x with
  | .bl true => A e
  | .bl false => B e
  | _ => .bad
def opt {α : Type} (o : Option α) (e : En) : Res α := match o with
  | some a => .ok a e
  | none => .bad

inductive BO where
  | add | sub | mul | fdiv | mod | pow
inductive CO where
  | eq | ne | lt | le | gt | ge | isin | notin | is | isnot
inductive Bi where
  | len | all | any | sum | tuple | list | min | max | int | str | sorted | sset | lenset | bool
inductive Me where
  | split | partition | join | count | index | get
inductive Ty where
  | int | bool | str | tuple | list
deriving DecidableEq

mutual
inductive E where
  | var (i : Nat)
  | bor (i : Nat)
  | cst (d : D)
  | glo (g : Nat)
  | bin (op : BO) (a b : E)
  | cmp (op : CO) (a b : E)
  | chn (op op' : CO) (a b c : E)
  | and (a b : E)
  | or (a b : E)
  | not (a : E)
  | ife (t a b : E)
  | tup (es : Es)
  | lst (es : Es)
  | ix (a i : E)
  | sl (a : E) (lo hi : Oe)
  | rev (a : E)
  | call (f : Nat) (as : As)
  | bi (b : Bi) (as : Es)
  | me (m : Me) (o : E) (as : Es)
  | isi (e : E) (ts : List Ty)
  | lc (own : List Nat) (it : It) (g : Tg) (t : Oe) (e : E)
  | lc2 (own own1 : List Nat) (it : It) (g : Tg) (it2 : It) (g2 : Tg) (e : E)
inductive Es where
  | nil
  | cons (e : E) (es : Es)
inductive Oe where
  | none
  | some (e : E)
inductive As where
  | nil
  | val (e : E) (as : As)
  | io (i : Nat) (as : As)
inductive It where
  | seq (e : E)
  | rng1 (e : E)
  | rng2 (a b : E)
  | enum (e : E)
inductive Tg where
  | nm (i : Nat)
  | tp (gs : Tgs)
inductive Tgs where
  | nil
  | cons (g : Tg) (gs : Tgs)
end

/-! ### operations on data -/
def cmul (i j : Int) : Bool := (decide (-(2 ^ 64) < i) && decide (i < 2 ^ 64)) || (decide (-(2 ^ 64) < j) && decide (j < 2 ^ 64))
def big : Nat := 100000
def opBin : BO → D → D → Option D
  | .add, .int i, .int j => some (.int (i + j))
  | .add, .str x, .str y => if x.length + y.length ≤ big then some (.str (x ++ y)) else none
  | .add, .tup xs, .tup ys => if xs.length + ys.length ≤ big then some (.tup (xs ++ ys)) else none
  | .add, .lst xs, .lst ys => if xs.length + ys.length ≤ big then some (.lst (xs ++ ys)) else none
  | .sub, .int i, .int j => some (.int (i - j))
  | .mul, .int i, .int j => if cmul i j then some (.int (i * j)) else none
  | .mul, .lst xs, .int k => if decide (0 ≤ k) && decide (k ≤ 1000) && decide (xs.length ≤ 100) then some (.lst (List.replicate k.toNat xs).flatten) else none
  | .fdiv, .int i, .int j => if decide (j ≠ 0) && decide (j.natAbs < 1073741824) then some (.int (i.fdiv j)) else none
  | .mod, .int i, .int j => if decide (j ≠ 0) then some (.int (i.fmod j)) else none
  | .pow, .int i, .int j => if decide (0 ≤ j) && decide (j ≤ 1000) && decide (i.natAbs < 2 ^ 64) then some (.int (i ^ j.toNat)) else none
  | _, _, _ => none
def eqOk (a b : D) : Bool := match a.dep, b.dep with
  | some m, some n => decide (m ≤ 40) && decide (n ≤ 40)
  | _, _ => false
def D.items : D → Option (List D)
  | .tup l => some l
  | .lst l => some l
  | _ => none
def inD (x : D) (ys : List D) : Bool := ys.any fun y => D.eq y x
def opIn (x y : D) : Option Bool := match y.items with
  | some ys => if eqOk x (.tup ys) then some (inD x ys) else none
  | none => match y with
    | .str z => (match x with
      | .str s => some (!(Builtin.Str.occurrences z s 0 z.length 1).isEmpty)
      | _ => none)
    | .dct ks _ => if eqOk x (.tup ks) then some (inD x ks) else none
    | _ => none
def ltOk (a b : D) : Bool := alike a.py b.py && eqOk a b && (match a with
  | .non => false
  | _ => true)
def D.lt (a b : D) : Option Bool := if ltOk a b then some (dataLt a.py b.py) else none
def D.le (a b : D) : Option Bool := if ltOk a b then some (!dataLt b.py a.py) else none
def opCmp : CO → D → D → Option Bool
  | .eq, a, b => if eqOk a b then some (D.eq a b) else none
  | .ne, a, b => if eqOk a b then some (!D.eq a b) else none
  | .lt, a, b => D.lt a b
  | .le, a, b => D.le a b
  | .gt, .int i, .int j => some (decide (j < i))
  | .ge, .int i, .int j => some (decide (j ≤ i))
  | .isin, a, b => opIn a b
  | .notin, a, b => (opIn a b).map (!·)
  | .is, a, .non => some (match a with | .non => true | _ => false)
  | .isnot, a, .non => some (match a with | .non => false | _ => true)
  | .is, .bl a, .bl b => some (a == b)
  | .isnot, .bl a, .bl b => some (!(a == b))
  | .is, .non, .bl _ => some false
  | .isnot, .non, .bl _ => some true
  | _, _, _ => none
def opIx : D → D → Option D
  | .tup l, .int i => L2.atI l i
  | .lst l, .int i => L2.atI l i
  | .scr l, .int i => (L2.atI l i).map .int
  | .dct ks vs, k => if eqOk k (.tup ks) then ((ks.zip vs).find? fun p => D.eq p.1 k).map (·.2) else none
  | _, _ => none
def cutD (l : List D) (lo hi : Option Int) : List D := (l.drop (HT.sIx l.length 0 lo)).take (HT.sIx l.length l.length hi - HT.sIx l.length 0 lo)
def opSl : D → Option Int → Option Int → Option D
  | .tup l, lo, hi => some (.tup (cutD l lo hi))
  | .lst l, lo, hi => some (.lst (cutD l lo hi))
  | _, _, _ => none
def opRev : D → Option D
  | .tup l => some (.tup l.reverse)
  | _ => none
def allInts : List D → Option (List Int)
  | [] => some []
  | .int i :: r => (allInts r).map (i :: ·)
  | _ => none
def allBls : List D → Option (List Bool)
  | [] => some []
  | .bl i :: r => (allBls r).map (i :: ·)
  | _ => none
def opBi : Bi → List D → Option D
  | .len, [.tup l] => some (.int l.length)
  | .len, [.lst l] => some (.int l.length)
  | .len, [.scr l] => some (.int l.length)
  | .all, [.lst l] => (allBls l).map fun bs => .bl (bs.all id)
  | .any, [.lst l] => (allBls l).map fun bs => .bl (bs.any id)
  | .sum, [.lst l] => (allInts l).map fun ns => .int ns.sum
  | .tuple, [.lst l] => some (.tup l)
  | .list, [.tup l] => some (.lst l)
  | .list, [.lst l] => some (.lst l)
  | .min, [.int i, .int j] => some (.int (if j < i then j else i))
  | .max, [.int i, .int j] => some (.int (if j > i then j else i))
  | .int, [.int i] => some (.int i)
  | .int, [.bl b] => some (.int (if b then 1 else 0))
  | .bool, [.bl b] => some (.bl b)
  | _, _ => none
def tyOf : Ty → D → Bool
  | .int, .int _ => true
  | .int, .bl _ => true
  | .bool, .bl _ => true
  | .str, .str _ => true
  | .tuple, .tup _ => true
  | .list, .lst _ => true
  | .list, .scr _ => true
  | _, _ => false
def countD (x : D) (l : List D) : Nat := l.countP fun y => D.eq y x
def opMe : Me → D → List D → Option D
  | .split, .str a, [.str b] => if decide (b.length ≠ 0) && decide (a.length ≤ 50000) then some (.lst ((Txt.split a b).map .str)) else none
  | .count, .lst l, [x] => if eqOk x (.tup l) then some (.int (countD x l)) else none
  | _, _, _ => none

/-- whose method it is -/
def meTy : Me → D → Bool
  | .split, .str _ => true
  | .partition, .str _ => true
  | .join, .str _ => true
  | .count, .lst _ => true
  | .index, .str _ => true
  | .get, .dct _ _ => true
  | _, _ => false
/-! ### the interpreter -/
/-- what a name holds as a value -/
def Sl.val : Sl → Option D
  | .dat x => some x
  | _ => none
def Sl.bor : Sl → Option D
  | .own (.lst l) => some (.lst l)
  | .own (.dct ks vs) => some (.dct ks vs)
  | _ => none
def setAt (env : En) (i : Nat) (s : Sl) : En := env.set i s
mutual
def Tg.slots : Tg → List Nat
  | .nm i => [i]
  | .tp gs => gs.slots
def Tgs.slots : Tgs → List Nat
  | .nil => []
  | .cons g gs => g.slots ++ gs.slots
end
mutual
def asgT : Tg → D → En → Option En
  | .nm i, d, env => match env.at i with
    | .own _ => none
    | _ => some (env.set i (.dat d))
  | .tp gs, d, env => match d with
    | .tup l => asgTs gs l env
    | _ => none
def asgTs : Tgs → List D → En → Option En
  | .nil, [], env => some env
  | .cons g gs, d :: ds, env => (asgT g d env).bind (asgTs gs ds)
  | _, _, _ => none
end
def wipeE (env : En) : List Nat → En
  | [] => env
  | v :: vs => (wipeE env vs).set v .non
/-- the comprehension's own names back to what they were -/
def backE (orig env : En) : List Nat → En
  | [] => env
  | v :: vs => (backE orig env vs).set v (match orig.at v with
    | .dat d => .dat d
    | _ => .non)
inductive AV where
  | dat (d : D) | bo (i : Nat) | io (i : Nat)
def AV.sl (env : En) : AV → Sl
  | .dat x => .dat x
  | .bo i => match (env.at i).bor with
    | some d => .dat d
    | none => .non
  | .io i => env.at i
def AV.isB : AV → Bool
  | .bo _ => true
  | _ => false
def AV.slots : List AV → List Nat
  | [] => []
  | .dat _ :: r => AV.slots r
  | .bo i :: r => i :: AV.slots r
  | .io i :: r => i :: AV.slots r
def AV.apart (l : List AV) : Bool := decide (AV.slots l).Nodup
def putOuts : List AV → List Sl → En → Option En
  | [], _, env => some env
  | .io i :: as, .own o :: ss, env => match env.at i with
    | .own _ => (putOuts as ss env).map fun e => e.set i (.own o)
    | _ => none
  | .io _ :: _, _, _ => none
  | _ :: as, _ :: ss, env => putOuts as ss env
  | _ :: _, [], _ => none
def Sl.flat : Sl → Bool
  | .own (.lst l) => D.flats l
  | .own _ => false
  | _ => true
/-- the caller's names behind a call; what was lent was not kept -/
def callEnd (avs : List AV) (outs : List Sl) (env : En) : Option En := if avs.any AV.isB && !(outs.all Sl.flat) then none else putOuts avs outs env
abbrev Run := Nat → List Sl → Res D
def isBor : E → Bool
  | .bor _ => true
  | _ => false
/-- an operand as it stands when it is used -/
def rd : E → D → En → Option D
  | .bor i, _, env => (env.at i).bor
  | _, x, _ => some x
def rd2 {α : Type} (a b : E) (x y : D) (env : En) (k : D → D → Option α) : Option α := match rd a x env, rd b y env with
  | some x, some y => k x y
  | _, _ => none
def rds : Es → List D → En → Option (List D)
  | .nil, [], _ => some []
  | .cons e es, x :: xs, env => match rd e x env, rds es xs env with
    | some y, some ys => some (y :: ys)
    | _, _ => none
  | _, _, _ => none
/-- a comprehension's turn -/
def lcBody (own : List Nat) (g : D → En → Option En) (t : En → Res Bool) (el : En → Res D) (x : D) (env : En) : Res (Option D) := match g x env with
  | none => .bad
  | some e2 => (t e2).bind fun b e3 => if b = true then (el e3).bind fun y e4 => .ok (some y) (wipeE e4 own) else .ok none (wipeE e3 own)
/-- a loop over items: acc what is made so far -/
def lcLoop (body : D → En → Res (Option D)) : List D → List D → En → Res (List D)
  | [], acc, env => if acc.length < big then .ok acc env else .bad
  | x :: xs, acc, env => if acc.length < big then (body x env).bind fun o env' => lcLoop body xs (acc ++ o.toList) env' else .bad
/-- two clauses -/
def lc2Loop (own own1 : List Nat) (g : D → En → Option En) (iti : En → Res (List D)) (body : D → En → Res (Option D)) : List D → List D → En → Res (List D)
  | [], acc, env => .ok acc env
  | x :: xs, acc, env => match g x env with
    | none => .bad
    | some e2 => (iti e2).bind fun items e3 => (lcLoop body items acc (wipeE e3 own1)).bind fun acc' e4 => lc2Loop own own1 g iti body xs acc' (wipeE e4 own)
def noExc {α : Type} : Res α → Res α
  | .exc _ _ => .bad
  | r => r
def enumD (l : List D) : List D := List.zipWith (fun (i : Nat) x => D.tup [.int (i : Int), x]) (List.range l.length) l
def rangeD (lo : Int) (n : Nat) : List D := (List.range n).map fun (k : Nat) => D.int (lo + (k : Int))
section
variable (G : Nat → Option D) (run : Run)
def truth : D → Option Bool
  | .bl b => some b
  | _ => none
mutual
def evE : E → En → Res D
  | .var i, env => opt (env.at i).val env
  | .bor i, env => opt (env.at i).bor env
  | .cst d, env => .ok d env
  | .glo g, env => opt (G g) env
  | .bin op a b, env => (evE a env).bind fun x e1 => (evE b e1).bind fun y e2 => opt (opBin op x y) e2
  | .cmp op a b, env => (evE a env).bind fun x e1 => (evE b e1).bind fun y e2 => opt ((rd2 a b x y e2 (opCmp op)).map .bl) e2
  | .chn op op' a b c, env => (evE a env).bind fun x e1 => (evE b e1).bind fun y e2 => match opCmp op x y with
    | some true => (evE c e2).bind fun z e3 => opt ((opCmp op' y z).map .bl) e3
    | some false => .ok (.bl false) e2
    | none => .bad
  | .and a b, env => (evE a env).bind fun x e1 => onBl x e1 (evE b) (Res.ok (.bl false))
  | .or a b, env => (evE a env).bind fun x e1 => onBl x e1 (Res.ok (.bl true)) (evE b)
  | .not a, env => (evE a env).bind fun x e1 => onBl x e1 (Res.ok (.bl false)) (Res.ok (.bl true))
  | .ife t a b, env => (evE t env).bind fun x e1 => onBl x e1 (evE a) (evE b)
  | .tup es, env => (evEs es env).bind fun l e1 => if l.length ≤ big then .ok (.tup l) e1 else .bad
  | .lst es, env => (evEs es env).bind fun l e1 => if l.length ≤ big then .ok (.lst l) e1 else .bad
  | .ix a i, env => (evE a env).bind fun x e1 => (evE i e1).bind fun y e2 => opt (rd2 a i x y e2 opIx) e2
  | .sl a lo hi, env => (evE a env).bind fun x e1 => (evO lo e1).bind fun l e2 => (evO hi e2).bind fun h e3 => opt ((rd a x e3).bind fun x => opSl x l h) e3
  | .rev a, env => (evE a env).bind fun x e1 => opt (opRev x) e1
  | .call f as, env => (evAs as env).bind fun avs e1 => if !AV.apart avs then .bad else match run f (avs.map (AV.sl e1)) with
    | .ok d outs => (match callEnd avs outs e1 with
      | some e2 => if avs.any AV.isB && !d.flat then .bad else .ok d e2
      | none => .bad)
    | .exc x outs => (match callEnd avs outs e1 with
      | some e2 => .exc x e2
      | none => .bad)
    | .bad => .bad
  | .bi b as, env => (evEs as env).bind fun l e1 => opt ((rds as l e1).bind (opBi b)) e1
  | .me m o as, env => (evE o env).bind fun x e1 => if !meTy m x then .bad else (evEs as e1).bind fun l e2 => opt ((rd o x e2).bind fun x => opMe m x l) e2
  | .isi e ts, env => (evE e env).bind fun x e1 => .ok (.bl (ts.any fun t => tyOf t x)) e1
  | .lc own it g t e, env => (evIt it env).bind fun items e1 => if own.any fun i => (e1.at i).isOwn then .bad else
      (noExc (lcLoop (lcBody own (asgT g) (evT t) (evE e)) items [] (wipeE e1 own))).bind fun l e5 => .ok (.lst l) (backE e1 e5 own)
  | .lc2 own own1 it g it2 g2 e, env => (evIt it env).bind fun items e1 => if (own.any fun i => (e1.at i).isOwn) || (own1.any fun i => !own.contains i) then .bad else
      (noExc (lc2Loop own own1 (asgT g) (evIt it2) (lcBody own1 (asgT g2) (fun e => .ok true e) (evE e)) items [] (wipeE e1 own))).bind fun l e5 => .ok (.lst l) (backE e1 e5 own)
def evEs : Es → En → Res (List D)
  | .nil, env => .ok [] env
  | .cons e es, env => (evE e env).bind fun x e1 => (evEs es e1).bind fun l e2 => .ok (x :: l) e2
def evO : Oe → En → Res (Option Int)
  | .none, env => .ok none env
  | .some e, env => (evE e env).bind fun x e1 => match x with
    | .int i => .ok (some i) e1
    | _ => .bad
def evT : Oe → En → Res Bool
  | .none, env => .ok true env
  | .some e, env => (evE e env).bind fun x e1 => match x with
    | .bl b => .ok b e1
    | _ => .bad
def evAs : As → En → Res (List AV)
  | .nil, env => .ok [] env
  | .val e as, env => (evE e env).bind fun x e1 => (evAs as e1).bind fun l e2 => .ok ((match e with
    | .bor i => .bo i
    | _ => .dat x) :: l) e2
  | .io i as, env => match env.at i with
    | .own _ => (evAs as env).bind fun l e1 => .ok (.io i :: l) e1
    | _ => .bad
def evIt : It → En → Res (List D)
  | .seq e, env => (evE e env).bind fun x e1 => match x with
    | .tup l => .ok l e1
    | .lst l => .ok l e1
    | _ => .bad
  | .rng1 e, env => (evE e env).bind fun x e1 => match x with
    | .int n => if decide (-(2 ^ 62) ≤ n) && decide (n < 2 ^ 62) then .ok (rangeD 0 n.toNat) e1 else .bad
    | _ => .bad
  | .rng2 a b, env => (evE a env).bind fun x e1 => (evE b e1).bind fun y e2 => match x, y with
    | .int i, .int j => if decide (-(2 ^ 62) ≤ i) && decide (i < 2 ^ 62) && decide (-(2 ^ 62) ≤ j) && decide (j < 2 ^ 62) then .ok (rangeD i (j - i).toNat) e2 else .bad
    | _, _ => .bad
  | .enum e, env => (evE e env).bind fun x e1 => match x with
    | .lst l => .ok (enumD l) e1
    | _ => .bad
end
end
end Qh

/-! What the interpreter's data stand for in the abstract heap. -/
namespace Qh
open PySem PySem.Spec PyProof.Rows L2
abbrev AS := Addr → Prop
/-- a written tuple -/
def KT (K : PySem.W.Frag) (a : Addr) (vs : List V) : Prop := ∀ H, SqT K H a vs
mutual
def VR (K : PySem.W.Frag) (F : AS) (H : Hp) : D → V → Prop
  | .non, v => v = .non
  | .bl b, v => v = .bl b
  | .int i, v => v = .int i
  | .str s, v => v = .str s
  | .tup ds, v => ∃ a vs, v = .ref a ∧ ((¬ F a ∧ H a = some (.tup vs)) ∨ KT K a vs) ∧ VRs K F H ds vs
  | .lst ds, v => ∃ a vs, v = .ref a ∧ ¬ F a ∧ H a = some (.lst vs) ∧ VRs K F H ds vs
  | .scr ns, v => ∃ a, v = .ref a ∧ ((¬ F a ∧ ∃ o, H a = some (.frz o (.lst (ns.map V.int)))) ∨ (∀ H, SqL K H a (ns.map V.int)))
  | .dct ks ds, v => False
def VRs (K : PySem.W.Frag) (F : AS) (H : Hp) : List D → List V → Prop
  | [], vs => vs = []
  | d :: ds, vs => ∃ v r, vs = v :: r ∧ VR K F H d v ∧ VRs K F H ds r
end
/-- what may be reached through a name of an object of one's own: the object itself besides -/
def VB (K : PySem.W.Frag) (F M : AS) (H : Hp) (d : D) (v : V) : Prop := VR K F H d v ∨ ∃ a vs ds, d = .lst ds ∧ v = .ref a ∧ M a ∧ H a = some (.lst vs) ∧ VRs K F H ds vs
/-- an object of one's own -/
def OR (K : PySem.W.Frag) (F : AS) (H : Hp) : O → Addr → Prop
  | .lst ds, a => ∃ vs, H a = some (.lst vs) ∧ VRs K F H ds vs
  | .dct _ _, _ => False
  | .ins _ _, _ => False
/-- what stands and is not M's stands on -/
structure Ext (M : AS) (H H' : Hp) : Prop where
  keep : ∀ a o, H a = some o → ¬ M a → H' a = some o
  dom : ∀ a, H a ≠ none → H' a ≠ none
theorem Ext.refl (M : AS) (H : Hp) : Ext M H H := ⟨fun _ _ h _ => h, fun _ h => h⟩
theorem Ext.trans {M : AS} {H H1 H2 : Hp} (a : Ext M H H1) (b : Ext M H1 H2) : Ext M H H2 :=
  ⟨fun x o h n => b.keep x o (a.keep x o h n) n, fun x h => b.dom x (a.dom x h)⟩
theorem Ext.mono {M M' : AS} {H H' : Hp} (h : Ext M H H') (s : ∀ a, M a → M' a) : Ext M' H H' := ⟨fun a o e n => h.keep a o e fun m => n (s a m), h.dom⟩
theorem Ext.new {M : AS} {H : Hp} {p : Addr} {o : HO} (h : H p = none) : Ext M H (upd H p o) :=
  ⟨fun a u e _ => by rw [upd_ne (ne_of_none e h)]; exact e, fun a e => by
    by_cases z : a = p
    · subst z; exact absurd h e
    · rw [upd_ne z]; exact e⟩
theorem Ext.put {M : AS} {H : Hp} {p : Addr} {o : HO} (h : M p) (d : H p ≠ none) : Ext M H (upd H p o) :=
  ⟨fun a u e n => by rw [upd_ne (fun z => n (by rw [z]; exact h))]; exact e, fun a e => by
    by_cases z : a = p
    · subst z; rw [upd_same]; intro q; cases q
    · rw [upd_ne z]; exact e⟩
theorem Ext.free {M : AS} {H H' : Hp} {p : Addr} (e : Ext M H H') (h : H' p = none) : H p = none := by
  cases q : H p with
  | none => rfl
  | some o => exact absurd h (e.dom p (by rw [q]; intro z; cases z))
section
variable {K : PySem.W.Frag} {F F' M M' : AS} {H H' : Hp}
mutual
theorem VR.mono (hk : ∀ a o, H a = some o → ¬ F a → H' a = some o) (hf : ∀ a o, H a = some o → ¬ F a → ¬ F' a) : ∀ (d : D) (v : V), VR K F H d v → VR K F' H' d v
  | .non, v, h => by simpa only [VR] using h
  | .bl b, v, h => by simpa only [VR] using h
  | .int i, v, h => by simpa only [VR] using h
  | .str s, v, h => by simpa only [VR] using h
  | .tup ds, v, h => by
    simp only [VR] at h ⊢
    obtain ⟨a, vs, e, q, r⟩ := h
    refine ⟨a, vs, e, ?_, VRs.mono hk hf ds vs r⟩
    rcases q with ⟨n, q⟩ | q
    · exact .inl ⟨hf a _ q n, hk a _ q n⟩
    · exact .inr q
  | .lst ds, v, h => by
    simp only [VR] at h ⊢
    obtain ⟨a, vs, e, n, q, r⟩ := h
    exact ⟨a, vs, e, hf a _ q n, hk a _ q n, VRs.mono hk hf ds vs r⟩
  | .scr ns, v, h => by
    simp only [VR] at h ⊢
    obtain ⟨a, e, q⟩ := h
    refine ⟨a, e, ?_⟩
    rcases q with ⟨n, o, q⟩ | q
    · exact .inl ⟨hf a _ q n, o, hk a _ q n⟩
    · exact .inr q
  | .dct ks ds, v, h => by simp only [VR] at h
theorem VRs.mono (hk : ∀ a o, H a = some o → ¬ F a → H' a = some o) (hf : ∀ a o, H a = some o → ¬ F a → ¬ F' a) : ∀ (ds : List D) (vs : List V), VRs K F H ds vs → VRs K F' H' ds vs
  | [], vs, h => by simpa only [VRs] using h
  | d :: ds, vs, h => by
    simp only [VRs] at h ⊢
    obtain ⟨v, r, e, h1, h2⟩ := h
    exact ⟨v, r, e, VR.mono hk hf d v h1, VRs.mono hk hf ds r h2⟩
end
theorem VR.ext {d : D} {v : V} (h : VR K F H d v) (e : Ext M H H') (s : ∀ a, M a → F a) : VR K F H' d v :=
  VR.mono (fun a o q n => e.keep a o q fun m => n (s a m)) (fun _ _ _ n => n) d v h
theorem VRs.ext {d : List D} {v : List V} (h : VRs K F H d v) (e : Ext M H H') (s : ∀ a, M a → F a) : VRs K F H' d v :=
  VRs.mono (fun a o q n => e.keep a o q fun m => n (s a m)) (fun _ _ _ n => n) d v h
/-- fewer are forbidden -/
theorem VR.less {d : D} {v : V} (h : VR K F H d v) (s : ∀ a, F' a → F a) : VR K F' H d v := VR.mono (fun _ _ q _ => q) (fun a _ _ n z => n (s a z)) d v h
theorem VRs.less {d : List D} {v : List V} (h : VRs K F H d v) (s : ∀ a, F' a → F a) : VRs K F' H d v := VRs.mono (fun _ _ q _ => q) (fun a _ _ n z => n (s a z)) d v h
/-- a fresh address may be forbidden -/
theorem VR.more {d : D} {v : V} {p : Addr} (h : VR K F H d v) (hp : H p = none) : VR K (fun a => F a ∨ a = p) H d v :=
  VR.mono (fun _ _ q _ => q) (fun a o q n z => z.elim n fun e => by rw [e, hp] at q; cases q) d v h
theorem VRs.more {d : List D} {v : List V} {p : Addr} (h : VRs K F H d v) (hp : H p = none) : VRs K (fun a => F a ∨ a = p) H d v :=
  VRs.mono (fun _ _ q _ => q) (fun a o q n z => z.elim n fun e => by rw [e, hp] at q; cases q) d v h
mutual
theorem VR.flat (hf : ∀ a, F' a → ¬ F a → ∃ vs, H a = some (.lst vs)) : ∀ (d : D) (v : V), d.flat = true → VR K F H d v → VR K F' H d v
  | .non, v, _, h => by simpa only [VR] using h
  | .bl b, v, _, h => by simpa only [VR] using h
  | .int i, v, _, h => by simpa only [VR] using h
  | .str s, v, _, h => by simpa only [VR] using h
  | .tup ds, v, z, h => by
    simp only [VR] at h ⊢
    obtain ⟨a, vs, e, q, r⟩ := h
    refine ⟨a, vs, e, ?_, VRs.flat hf ds vs (by simpa only [D.flat] using z) r⟩
    rcases q with ⟨n, q⟩ | q
    · refine .inl ⟨fun f => ?_, q⟩
      obtain ⟨ws, e2⟩ := hf a f n
      rw [q] at e2; cases e2
    · exact .inr q
  | .lst _, _, z, _ => by simp only [D.flat] at z; cases z
  | .scr ns, v, _, h => by
    simp only [VR] at h ⊢
    obtain ⟨a, e, q⟩ := h
    refine ⟨a, e, ?_⟩
    rcases q with ⟨n, o, q⟩ | q
    · refine .inl ⟨fun f => ?_, o, q⟩
      obtain ⟨ws, e2⟩ := hf a f n
      rw [q] at e2; cases e2
    · exact .inr q
  | .dct _ _, _, z, _ => by simp only [D.flat] at z; cases z
theorem VRs.flat (hf : ∀ a, F' a → ¬ F a → ∃ vs, H a = some (.lst vs)) : ∀ (ds : List D) (vs : List V), D.flats ds = true → VRs K F H ds vs → VRs K F' H ds vs
  | [], vs, _, h => by simpa only [VRs] using h
  | d :: ds, vs, z, h => by
    simp only [VRs] at h ⊢
    obtain ⟨v, r, e, h1, h2⟩ := h
    have z' : (D.flat d && D.flats ds) = true := by simpa only [D.flats] using z
    obtain ⟨z1, z2⟩ := Bool.and_eq_true_iff.mp z'
    exact ⟨v, r, e, VR.flat hf d v z1 h1, VRs.flat hf ds r z2 h2⟩
end
theorem VRs.nil_iff {vs : List V} : VRs K F H [] vs ↔ vs = [] := by simp only [VRs]
theorem VRs.cons_mk {d : D} {ds : List D} {v : V} {vs : List V} (h : VR K F H d v) (hs : VRs K F H ds vs) : VRs K F H (d :: ds) (v :: vs) := by
  simp only [VRs]
  exact ⟨v, vs, rfl, h, hs⟩
theorem VRs.cons_inv {d : D} {ds : List D} {vs : List V} (h : VRs K F H (d :: ds) vs) : ∃ v r, vs = v :: r ∧ VR K F H d v ∧ VRs K F H ds r := by simpa only [VRs] using h
theorem VRs.len : ∀ {ds : List D} {vs : List V}, VRs K F H ds vs → ds.length = vs.length
  | [], vs, h => by rw [VRs.nil_iff.mp h]; rfl
  | d :: ds, vs, h => by
    obtain ⟨v, r, rfl, _, h2⟩ := h.cons_inv
    simp only [List.length_cons, VRs.len h2]
theorem VRs.at_ : ∀ {ds : List D} {vs : List V} {i : Nat} {d : D}, VRs K F H ds vs → ds[i]? = some d → ∃ v, vs[i]? = some v ∧ VR K F H d v
  | [], _, i, d, _, e => by simp at e
  | x :: ds, vs, 0, d, h, e => by
    obtain ⟨v, r, rfl, h1, _⟩ := h.cons_inv
    simp at e; subst e
    exact ⟨v, rfl, h1⟩
  | x :: ds, vs, i + 1, d, h, e => by
    obtain ⟨v, r, rfl, _, h2⟩ := h.cons_inv
    obtain ⟨u, a, b⟩ := VRs.at_ (i := i) h2 (by simpa using e)
    exact ⟨u, by simpa using a, b⟩
theorem VRs.append : ∀ {ds es : List D} {vs ws : List V}, VRs K F H ds vs → VRs K F H es ws → VRs K F H (ds ++ es) (vs ++ ws)
  | [], es, vs, ws, h, h' => by rw [VRs.nil_iff.mp h]; exact h'
  | d :: ds, es, vs, ws, h, h' => by
    obtain ⟨v, r, rfl, h1, h2⟩ := h.cons_inv
    exact .cons_mk h1 (VRs.append h2 h')
theorem VRs.take : ∀ {ds : List D} {vs : List V} (n : Nat), VRs K F H ds vs → VRs K F H (ds.take n) (vs.take n)
  | ds, vs, 0, _ => by simp [VRs.nil_iff]
  | [], vs, n + 1, h => by rw [VRs.nil_iff.mp h]; simp [VRs.nil_iff]
  | d :: ds, vs, n + 1, h => by
    obtain ⟨v, r, rfl, h1, h2⟩ := h.cons_inv
    exact .cons_mk h1 (VRs.take n h2)
theorem VRs.drop : ∀ {ds : List D} {vs : List V} (n : Nat), VRs K F H ds vs → VRs K F H (ds.drop n) (vs.drop n)
  | ds, vs, 0, h => h
  | [], vs, n + 1, h => by rw [VRs.nil_iff.mp h]; simp [VRs.nil_iff]
  | d :: ds, vs, n + 1, h => by
    obtain ⟨v, r, rfl, h1, h2⟩ := h.cons_inv
    exact VRs.drop n h2
theorem VRs.set : ∀ {ds : List D} {vs : List V} {d : D} {v : V} (i : Nat), VR K F H d v → VRs K F H ds vs → VRs K F H (ds.set i d) (vs.set i v)
  | [], vs, d, v, i, _, h => by rw [VRs.nil_iff.mp h]; simp [VRs.nil_iff]
  | x :: ds, vs, d, v, 0, hv, h => by
    obtain ⟨u, r, rfl, h1, h2⟩ := h.cons_inv
    exact .cons_mk hv h2
  | x :: ds, vs, d, v, i + 1, hv, h => by
    obtain ⟨u, r, rfl, h1, h2⟩ := h.cons_inv
    exact .cons_mk h1 (VRs.set i hv h2)
theorem VRs.rev {ds : List D} : ∀ {vs : List V}, VRs K F H ds vs → VRs K F H ds.reverse vs.reverse := by
  induction ds with
  | nil => intro vs h; rw [VRs.nil_iff.mp h]; simp [VRs.nil_iff]
  | cons d ds ih =>
    intro vs h
    obtain ⟨u, r, rfl, h1, h2⟩ := h.cons_inv
    rw [List.reverse_cons, List.reverse_cons]
    exact (ih h2).append (.cons_mk h1 (VRs.nil_iff.mpr rfl))
theorem VRs.rep {ds : List D} {vs : List V} (h : VRs K F H ds vs) : ∀ k : Nat, VRs K F H (List.replicate k ds).flatten (List.replicate k vs).flatten
  | 0 => by simp [VRs.nil_iff]
  | k + 1 => by
    rw [List.replicate_succ, List.replicate_succ, List.flatten_cons, List.flatten_cons]
    exact h.append (VRs.rep h k)
theorem VRs.ints : ∀ {ds : List D} {vs : List V} {ns : List Int}, VRs K F H ds vs → allInts ds = some ns → vs = ns.map V.int
  | [], vs, ns, h, e => by
    rw [VRs.nil_iff.mp h]
    simp only [allInts, Option.some.injEq] at e
    subst e; rfl
  | d :: ds, vs, ns, h, e => by
    obtain ⟨v, r, rfl, h1, h2⟩ := h.cons_inv
    cases d <;> simp only [allInts] at e <;> try (cases e; done)
    rename_i i
    obtain ⟨m, em, rfl⟩ := Option.map_eq_some_iff.mp e
    have := VRs.ints h2 em
    simp only [VR] at h1
    subst h1 this
    rfl
theorem VRs.bls : ∀ {ds : List D} {vs : List V} {ns : List Bool}, VRs K F H ds vs → allBls ds = some ns → vs = ns.map V.bl
  | [], vs, ns, h, e => by
    rw [VRs.nil_iff.mp h]
    simp only [allBls, Option.some.injEq] at e
    subst e; rfl
  | d :: ds, vs, ns, h, e => by
    obtain ⟨v, r, rfl, h1, h2⟩ := h.cons_inv
    cases d <;> simp only [allBls] at e <;> try (cases e; done)
    rename_i i
    obtain ⟨m, em, rfl⟩ := Option.map_eq_some_iff.mp e
    have := VRs.bls h2 em
    simp only [VR] at h1
    subst h1 this
    rfl
theorem VR.new_tup {ds : List D} {vs : List V} {p : Addr} (h : VRs K F H ds vs) (hp : H p = none) (hn : ¬ F p) : VR K F (upd H p (.tup vs)) (.tup ds) (.ref p) := by
  simp only [VR]
  exact ⟨p, vs, rfl, .inl ⟨hn, upd_same⟩, h.ext (M := fun _ => False) (Ext.new hp) (fun _ z => z.elim)⟩
theorem VR.new_lst {ds : List D} {vs : List V} {p : Addr} (h : VRs K F H ds vs) (hp : H p = none) (hn : ¬ F p) : VR K F (upd H p (.lst vs)) (.lst ds) (.ref p) := by
  simp only [VR]
  exact ⟨p, vs, rfl, hn, upd_same, h.ext (M := fun _ => False) (Ext.new hp) (fun _ z => z.elim)⟩
theorem VR.tupT {ds : List D} {v : V} (h : VR K F H (.tup ds) v) : ∃ a vs, v = .ref a ∧ SqT K H a vs ∧ VRs K F H ds vs := by
  simp only [VR] at h
  obtain ⟨a, vs, e, q, r⟩ := h
  refine ⟨a, vs, e, ?_, r⟩
  rcases q with ⟨_, q⟩ | q
  · exact .of q
  · exact q H
theorem VB.lstL {ds : List D} {v : V} (h : VB K F M H (.lst ds) v) : ∃ a vs, v = .ref a ∧ H a = some (.lst vs) ∧ VRs K F H ds vs := by
  rcases h with h | ⟨a, vs, ds', e, ev, _, q, r⟩
  · simp only [VR] at h
    obtain ⟨a, vs, e, _, q, r⟩ := h
    exact ⟨a, vs, e, q, r⟩
  · cases e
    exact ⟨a, vs, ev, q, r⟩
theorem VB.tup {ds : List D} {v : V} (h : VB K F M H (.tup ds) v) : VR K F H (.tup ds) v := by
  rcases h with h | ⟨a, vs, ds', e, _⟩
  · exact h
  · cases e
theorem VR.scrL {ns : List Int} {v : V} (h : VR K F H (.scr ns) v) : ∃ a, v = .ref a ∧ SqL K H a (ns.map V.int) := by
  simp only [VR] at h
  obtain ⟨a, e, q⟩ := h
  refine ⟨a, e, ?_⟩
  rcases q with ⟨_, o, q⟩ | q
  · exact .inl (.inr ⟨o, q⟩)
  · exact q H
theorem VB.not_lst {d : D} {v : V} (h : VB K F M H d v) (n : ∀ l, d ≠ .lst l) : VR K F H d v := by
  rcases h with h | ⟨a, vs, ds', e, _⟩
  · exact h
  · exact absurd e (n ds')
theorem dp_ints {K : PySem.W.Frag} {H : Hp} : ∀ ns : List Int, DpAll K H (ns.map V.int) (ns.map PyData.int)
  | [] => .nil
  | i :: r => .cons (.int i) (dp_ints r)
theorem plain_ints : ∀ ns : List Int, PyData.plainAll (ns.map PyData.int) = true
  | [] => by simp only [List.map_nil, PyData.plainAll]
  | i :: r => by simp only [List.map_cons, PyData.plainAll, PyData.plain, Bool.true_and]; exact plain_ints r
theorem depth_ints : ∀ ns : List Int, PyData.depthAll (ns.map PyData.int) = 0
  | [] => by simp only [List.map_nil, PyData.depthAll]
  | i :: r => by simp only [List.map_cons, PyData.depthAll, PyData.depth, depth_ints r]; rfl
mutual
theorem VR.dp : ∀ (d : D) (v : V) (n : Nat), d.dep = some n → VR K F H d v → Dp K H v d.py
  | .non, v, _, _, h => by simp only [VR] at h; subst h; simp only [D.py]; exact .non
  | .bl b, v, _, _, h => by simp only [VR] at h; subst h; simp only [D.py]; exact .bl b
  | .int i, v, _, _, h => by simp only [VR] at h; subst h; simp only [D.py]; exact .int i
  | .str s, v, _, _, h => by simp only [VR] at h; subst h; simp only [D.py]; exact .str s
  | .tup ds, v, n, z, h => by
    obtain ⟨a, vs, e, q, r⟩ := h.tupT
    subst e
    simp only [D.py]
    simp only [D.dep] at z
    obtain ⟨m, em, _⟩ := Option.map_eq_some_iff.mp z
    exact .tup q (VRs.dp ds vs m em r)
  | .lst ds, v, n, z, h => by
    obtain ⟨a, vs, e, q, r⟩ := VB.lstL (M := fun _ => False) (.inl h)
    subst e
    simp only [D.py]
    simp only [D.dep] at z
    obtain ⟨m, em, _⟩ := Option.map_eq_some_iff.mp z
    exact .lst (.of q) (VRs.dp ds vs m em r)
  | .scr ns, v, _, _, h => by
    obtain ⟨a, e, q⟩ := h.scrL
    subst e
    simp only [D.py]
    exact .lst q (dp_ints ns)
  | .dct _ _, _, _, z, _ => by simp only [D.dep] at z; cases z
theorem VRs.dp : ∀ (ds : List D) (vs : List V) (n : Nat), D.deps ds = some n → VRs K F H ds vs → DpAll K H vs (D.pys ds)
  | [], vs, _, _, h => by rw [VRs.nil_iff.mp h]; simp only [D.pys]; exact .nil
  | d :: ds, vs, n, z, h => by
    obtain ⟨v, r, rfl, h1, h2⟩ := h.cons_inv
    simp only [D.pys]
    simp only [D.deps] at z
    cases e1 : D.dep d with
    | none => rw [e1] at z; cases z
    | some a =>
      cases e2 : D.deps ds with
      | none => rw [e1, e2] at z; cases z
      | some b => exact .cons (VR.dp d v a e1 h1) (VRs.dp ds r b e2 h2)
end
theorem VB.dp {d : D} {v : V} {n : Nat} (z : d.dep = some n) (h : VB K F M H d v) : Dp K H v d.py := by
  rcases h with h | ⟨a, vs, ds, rfl, rfl, _, q, r⟩
  · exact VR.dp d v n z h
  · simp only [D.py]
    simp only [D.dep] at z
    obtain ⟨m, em, _⟩ := Option.map_eq_some_iff.mp z
    exact .lst (.of q) (VRs.dp ds vs m em r)
end
mutual
theorem D.plain_py : ∀ (d : D) (n : Nat), d.dep = some n → d.py.plain = true
  | .non, _, _ => by simp only [D.py, PyData.plain]
  | .bl _, _, _ => by simp only [D.py, PyData.plain]
  | .int _, _, _ => by simp only [D.py, PyData.plain]
  | .str _, _, _ => by simp only [D.py, PyData.plain]
  | .tup ds, n, z => by
    simp only [D.dep] at z
    obtain ⟨m, em, _⟩ := Option.map_eq_some_iff.mp z
    simp only [D.py, PyData.plain]
    exact D.plain_pys ds m em
  | .lst ds, n, z => by
    simp only [D.dep] at z
    obtain ⟨m, em, _⟩ := Option.map_eq_some_iff.mp z
    simp only [D.py, PyData.plain]
    exact D.plain_pys ds m em
  | .scr ns, _, _ => by
    simp only [D.py, PyData.plain]
    exact plain_ints ns
  | .dct _ _, _, z => by simp only [D.dep] at z; cases z
theorem D.plain_pys : ∀ (ds : List D) (n : Nat), D.deps ds = some n → PyData.plainAll (D.pys ds) = true
  | [], _, _ => by simp only [D.pys, PyData.plainAll]
  | d :: ds, n, z => by
    simp only [D.deps] at z
    cases e1 : D.dep d with
    | none => rw [e1] at z; cases z
    | some a =>
      cases e2 : D.deps ds with
      | none => rw [e1, e2] at z; cases z
      | some b => simp only [D.pys, PyData.plainAll, D.plain_py d a e1, D.plain_pys ds b e2, Bool.and_self]
end
mutual
theorem D.depth_py : ∀ (d : D) (n : Nat), d.dep = some n → d.py.depth ≤ n
  | .non, _, _ => by simp only [D.py, PyData.depth]; exact Nat.zero_le _
  | .bl _, _, _ => by simp only [D.py, PyData.depth]; exact Nat.zero_le _
  | .int _, _, _ => by simp only [D.py, PyData.depth]; exact Nat.zero_le _
  | .str _, _, _ => by simp only [D.py, PyData.depth]; exact Nat.zero_le _
  | .tup ds, n, z => by
    simp only [D.dep] at z
    obtain ⟨m, em, e⟩ := Option.map_eq_some_iff.mp z
    simp only [D.py, PyData.depth]
    have := D.depth_pys ds m em
    omega
  | .lst ds, n, z => by
    simp only [D.dep] at z
    obtain ⟨m, em, e⟩ := Option.map_eq_some_iff.mp z
    simp only [D.py, PyData.depth]
    have := D.depth_pys ds m em
    omega
  | .scr ns, n, z => by
    simp only [D.dep, Option.some.injEq] at z
    simp only [D.py, PyData.depth, depth_ints]
    omega
  | .dct _ _, _, z => by simp only [D.dep] at z; cases z
theorem D.depth_pys : ∀ (ds : List D) (n : Nat), D.deps ds = some n → PyData.depthAll (D.pys ds) ≤ n
  | [], _, _ => by simp only [D.pys, PyData.depthAll]; exact Nat.zero_le _
  | d :: ds, n, z => by
    simp only [D.deps] at z
    cases e1 : D.dep d with
    | none => rw [e1] at z; cases z
    | some a =>
      cases e2 : D.deps ds with
      | none => rw [e1, e2] at z; cases z
      | some b =>
        rw [e1, e2] at z
        simp only [Option.some.injEq] at z
        have h1 := D.depth_py d a e1
        have h2 := D.depth_pys ds b e2
        simp only [D.pys, PyData.depthAll]
        omega
end
end Qh

/-! The operations: what the interpreter says of them is what the machine does. -/
namespace Qh
open PySem PySem.Spec PyProof.Rows L2 PySem.W
def NoM : AS := fun _ => False
/-- a value comes, nothing that stood is changed -/
def PVal (K : PySem.W.Frag) (F : AS) (H : Hp) (d : D) (Q : VK) : Prop := ∀ z H', Ext NoM H H' → VR K F H' d z → Q z H'
section
variable {K : PySem.W.Frag} {F M : AS} {H : Hp} {Q : VK} {x y d : D} {v w : V}
theorem PVal.here (q : PVal K F H d Q) (h : VR K F H d v) : Q v H := q v H (Ext.refl _ _) h
theorem PVal.int {i : Int} (q : PVal K F H (.int i) Q) : Q (.int i) H := q.here (by simp only [VR])
theorem PVal.bl {b : Bool} (q : PVal K F H (.bl b) Q) : Q (.bl b) H := q.here (by simp only [VR])
theorem PVal.str {b : Str} (q : PVal K F H (.str b) Q) : Q (.str b) H := q.here (by simp only [VR])
theorem PVal.tup {ds : List D} {vs : List V} {p : Addr} (q : PVal K F H (.tup ds) Q) (h : VRs K F H ds vs) (hp : H p = none) (fr : ∀ p, H p = none → ¬ F p) : Q (.ref p) (upd H p (.tup vs)) :=
  q _ _ (Ext.new hp) (VR.new_tup h hp (fr p hp))
theorem PVal.lst {ds : List D} {vs : List V} {p : Addr} (q : PVal K F H (.lst ds) Q) (h : VRs K F H ds vs) (hp : H p = none) (fr : ∀ p, H p = none → ¬ F p) : Q (.ref p) (upd H p (.lst vs)) :=
  q _ _ (Ext.new hp) (VR.new_lst h hp (fr p hp))
theorem VR.intI {i : Int} (h : VR K F H (.int i) v) : v = .int i := by simpa only [VR] using h
theorem VR.blI {i : Bool} (h : VR K F H (.bl i) v) : v = .bl i := by simpa only [VR] using h
theorem VR.strI {i : Str} (h : VR K F H (.str i) v) : v = .str i := by simpa only [VR] using h
theorem VR.nonI (h : VR K F H .non v) : v = .non := by simpa only [VR] using h
theorem big_line {n : Nat} (h : n ≤ big) : n ≤ sizeLine := Nat.le_trans h (by rw [sizeLine_eq]; decide)
theorem cmul_ok {i j : Int} (h : cmul i j = true) : CMul i j := by
  unfold cmul at h
  simp only [Bool.or_eq_true, Bool.and_eq_true, decide_eq_true_eq] at h
  exact h
def BO.py : BO → Operator
  | .add => .Add | .sub => .Sub | .mul => .Mult | .fdiv => .FloorDiv | .mod => .Mod | .pow => .Pow
def rStr : R2 := fun x y H Q => ∃ i j, x = .str i ∧ y = .str j ∧ i.length + j.length ≤ sizeLine ∧ Q (.str (i ++ j)) H
def rB (K : PySem.W.Frag) : BO → R2
  | .add => fun x y H Q => rI0 (fun i j => .int (i + j)) x y H Q ∨ (rStr x y H Q ∨ (rCatA K x y H Q ∨ rCat x y H Q))
  | .sub => rI0 fun i j => .int (i - j)
  | .mul => fun x y H Q => rI CMul (fun i j => .int (i * j)) x y H Q ∨ rRep x y H Q
  | .fdiv => rI CDivN fun i j => .int (i.fdiv j)
  | .mod => rI (fun _ j => j ≠ 0) fun i j => .int (i.fmod j)
  | .pow => rI CPow fun i j => .int (i ^ j.toNat)
theorem op_B {X : Cx} : ∀ op : BO, OpR X (binaryOp op.py) (rB X.K op)
  | .add => op_add.or (op_add_str.or (op_catA.or op_cat))
  | .sub => op_sub
  | .mul => op_mul.or op_rep
  | .fdiv => op_fdivN
  | .mod => op_modN
  | .pow => op_pow
theorem bin_ok {op : BO} (h : opBin op x y = some d) (hx : VR K F H x v) (hy : VR K F H y w) (fr : ∀ p, H p = none → ¬ F p) (q : PVal K F H d Q) : rB K op v w H Q := by
  unfold opBin at h
  split at h
  · cases hx.intI; cases hy.intI; cases h
    exact .inl ⟨_, _, rfl, rfl, q.int⟩
  · rename_i s t
    split at h
    · rename_i hl
      cases hx.strI; cases hy.strI; cases h
      exact .inr (.inl ⟨_, _, rfl, rfl, big_line hl, q.str⟩)
    · cases h
  · rename_i xs ys
    split at h
    · rename_i hl
      cases h
      obtain ⟨a, vs, rfl, ta, ra⟩ := hx.tupT
      obtain ⟨b, ws, rfl, tb, rb⟩ := hy.tupT
      refine .inr (.inr (.inl ⟨a, b, vs, ws, rfl, rfl, ta, tb, by rw [← ra.len, ← rb.len]; exact big_line hl, fun e => ?_, fun _ e => ?_, fun _ _ p hp => ?_⟩))
      · have : xs = [] := List.length_eq_zero_iff.mp (by rw [ra.len, e]; rfl)
        subst this
        exact q.here hy
      · have : ys = [] := List.length_eq_zero_iff.mp (by rw [rb.len, e]; rfl)
        subst this
        rw [List.append_nil] at q
        exact q.here hx
      · exact q.tup (ra.append rb) hp fr
    · cases h
  · rename_i xs ys
    split at h
    · rename_i hl
      cases h
      obtain ⟨a, vs, rfl, ta, ra⟩ := VB.lstL (M := NoM) (.inl hx)
      obtain ⟨b, ws, rfl, tb, rb⟩ := VB.lstL (M := NoM) (.inl hy)
      exact .inr (.inr (.inr ⟨a, b, vs, ws, rfl, rfl, ta, tb, by rw [← ra.len, ← rb.len]; exact big_line hl, fun p hp => q.lst (ra.append rb) hp fr⟩))
    · cases h
  · cases hx.intI; cases hy.intI; cases h
    exact ⟨_, _, rfl, rfl, q.int⟩
  · split at h
    · rename_i hc
      cases hx.intI; cases hy.intI; cases h
      exact .inl ⟨_, _, rfl, rfl, cmul_ok hc, q.int⟩
    · cases h
  · rename_i xs k
    split at h
    · rename_i hc
      simp only [Bool.and_eq_true, decide_eq_true_eq] at hc
      cases h
      cases hy.intI
      obtain ⟨a, vs, rfl, ta, ra⟩ := VB.lstL (M := NoM) (.inl hx)
      have hz : vs.length * k.toNat ≤ sizeLine := by
        rw [sizeLine_eq, ← ra.len]
        have h1 : xs.length ≤ 100 := hc.2
        have h2 : k.toNat ≤ 1000 := by omega
        calc xs.length * k.toNat ≤ 100 * 1000 := Nat.mul_le_mul h1 h2
          _ ≤ 16777216 := by decide
      exact .inr ⟨a, k, vs, rfl, rfl, ta, by omega, by omega, hz, fun p hp => q.lst (ra.rep _) hp fr⟩
    · cases h
  · split at h
    · rename_i hc
      simp only [Bool.and_eq_true, decide_eq_true_eq] at hc
      cases hx.intI; cases hy.intI; cases h
      exact ⟨_, _, rfl, rfl, hc, q.int⟩
    · cases h
  · split at h
    · rename_i hc
      simp only [decide_eq_true_eq] at hc
      cases hx.intI; cases hy.intI; cases h
      exact ⟨_, _, rfl, rfl, hc, q.int⟩
    · cases h
  · split at h
    · rename_i hc
      simp only [Bool.and_eq_true, decide_eq_true_eq] at hc
      cases hx.intI; cases hy.intI; cases h
      exact ⟨_, _, rfl, rfl, ⟨hc.1.1, by omega, hc.2⟩, q.int⟩
    · cases h
  · cases h

/-! ### comparisons -/
def CO.py : CO → CmpOp
  | .eq => .Eq | .ne => .NotEq | .lt => .Lt | .le => .LtE | .gt => .Gt | .ge => .GtE | .isin => .In | .notin => .NotIn | .is => .Is | .isnot => .IsNot
def rData (g : PyData → PyData → Bool → Prop) (K : PySem.W.Frag) : R2 := fun x y H Q => ∃ d e k, Dp K H x d ∧ Dp K H y e ∧ d.plain = true ∧ e.plain = true ∧ d.depth ≤ 40 ∧ e.depth ≤ 40 ∧ g d e k ∧ Q (.bl k) H
def rInD (neg : Bool) (K : PySem.W.Frag) : R2 := fun x y H Q => ∃ a d ds vs, y = .ref a ∧ (SqL K H a vs ∨ SqT K H a vs) ∧ Dp K H x d ∧ DpAll K H vs ds ∧ d.plain = true ∧ PyData.plainAll ds = true ∧ d.depth ≤ 40 ∧ PyData.depthAll ds ≤ 40 ∧
  Q (.bl (if neg then !(ds.any fun y => PyData.eqv y d) else ds.any fun y => PyData.eqv y d)) H
section
variable {X : Cx}
theorem rd_ok {x : V} {u : Value} {d : PyData} {pins : List (Addr × Obj)} {σ : L2.St} {s : Shared} (I : Inv X pins σ H s) (h : Dp X.K H x d) (r : RelV x u) : ∃ as, Reads s.heap u d as := Dp.reads I d x u h r
theorem op_eqP (hu : X.A.units + 64 < cLine) : OpR X (compareOp .Eq) (rData (fun d e k => k = PyData.eqv d e) X.K) := by
  intro pins s σ H x y v u Q I rx ry h
  obtain ⟨d, e, k, hd, he, pd, pe, z1, z2, rfl, q⟩ := h
  obtain ⟨as, r1⟩ := rd_ok I hd rx
  obtain ⟨bs, r2⟩ := rd_ok I he ry
  exact PySem.SeqAt.eq_plain r1 r2 pd pe (by omega) ⟨.bl _, H, I, rfl, q⟩
theorem op_neP (hu : X.A.units + 64 < cLine) : OpR X (compareOp .NotEq) (rData (fun d e k => k = !PyData.eqv d e) X.K) := by
  intro pins s σ H x y v u Q I rx ry h
  obtain ⟨d, e, k, hd, he, pd, pe, z1, z2, rfl, q⟩ := h
  obtain ⟨as, r1⟩ := rd_ok I hd rx
  obtain ⟨bs, r2⟩ := rd_ok I he ry
  exact PySem.SeqAt.ne_plain r1 r2 pd pe (by omega) ⟨.bl _, H, I, rfl, q⟩
theorem op_ltP (hu : X.A.units + 64 < cLine) : OpR X (compareOp .Lt) (rData (fun d e k => alike d e = true ∧ d ≠ .none ∧ k = dataLt d e) X.K) := by
  intro pins s σ H x y v u Q I rx ry h
  obtain ⟨d, e, k, hd, he, pd, pe, z1, z2, ⟨al, nn, rfl⟩, q⟩ := h
  obtain ⟨as, r1⟩ := rd_ok I hd rx
  obtain ⟨bs, r2⟩ := rd_ok I he ry
  exact rcLt_alike d e X.A s v u as bs r1 r2 al nn (by omega) _ _ _ _ ⟨.bl _, H, I, rfl, q⟩
theorem op_leP (hu : X.A.units + 64 < cLine) : OpR X (compareOp .LtE) (rData (fun d e k => alike d e = true ∧ d ≠ .none ∧ k = !dataLt e d) X.K) := by
  intro pins s σ H x y v u Q I rx ry h
  obtain ⟨d, e, k, hd, he, pd, pe, z1, z2, ⟨al, nn, rfl⟩, q⟩ := h
  obtain ⟨as, r1⟩ := rd_ok I hd rx
  obtain ⟨bs, r2⟩ := rd_ok I he ry
  exact rcLe_alike d e X.A s v u as bs r1 r2 al nn (by omega) _ _ _ _ ⟨.bl _, H, I, rfl, q⟩
theorem op_inP (hu : X.A.units + 64 < cLine) : OpR X (compareOp .In) (rInD false X.K) := by
  intro pins s σ H x y v u Q I rx ry h
  obtain ⟨a, d, ds, vs, rfl, hs, hd, hds, pd, pds, z1, z2, q⟩ := h
  obtain ⟨as, r1⟩ := rd_ok I hd rx
  cases hs with
  | inl hl =>
    obtain ⟨bs, r2⟩ := rd_ok I (.lst hl hds) ry
    exact PySem.SeqAt.in_list_data r2 r1 pds pd (by omega) ⟨.bl _, H, I, rfl, by simpa using q⟩
  | inr ht =>
    obtain ⟨bs, r2⟩ := rd_ok I (.tup ht hds) ry
    exact PySem.SeqAt.in_tuple_data r2 r1 pds pd (by omega) ⟨.bl _, H, I, rfl, by simpa using q⟩
theorem op_notInP (hu : X.A.units + 64 < cLine) : OpR X (compareOp .NotIn) (rInD true X.K) := by
  intro pins s σ H x y v u Q I rx ry h
  obtain ⟨a, d, ds, vs, rfl, hs, hd, hds, pd, pds, z1, z2, q⟩ := h
  obtain ⟨as, r1⟩ := rd_ok I hd rx
  cases hs with
  | inl hl =>
    obtain ⟨bs, r2⟩ := rd_ok I (.lst hl hds) ry
    exact PySem.SeqAt.notIn_list_data r2 r1 pds pd (by omega) ⟨.bl _, H, I, rfl, by simpa using q⟩
  | inr ht =>
    obtain ⟨bs, r2⟩ := rd_ok I (.tup ht hds) ry
    exact PySem.SeqAt.notIn_tuple_data r2 r1 pds pd (by omega) ⟨.bl _, H, I, rfl, by simpa using q⟩
/-- None is True, None is False -/
def rNonBl (k : Bool) : R2 := fun x y H Q => ∃ b : Bool, x = .non ∧ y = .bl b ∧ Q (.bl k) H
theorem op_isNB : OpR X (compareOp .Is) (rNonBl false) := by
  intro pins s σ H x y v u Q I rx ry h
  obtain ⟨b, rfl, rfl, q⟩ := h
  cases (show v = Value.none from rx)
  cases (show u = Value.bool b from ry)
  exact wpAny_is_other rfl (fun z => nomatch z) ⟨.bl false, H, I, rfl, q⟩
theorem op_notNB : OpR X (compareOp .IsNot) (rNonBl true) := by
  intro pins s σ H x y v u Q I rx ry h
  obtain ⟨b, rfl, rfl, q⟩ := h
  cases (show v = Value.none from rx)
  cases (show u = Value.bool b from ry)
  exact wpAny_isNot_other rfl (fun z => nomatch z) ⟨.bl true, H, I, rfl, q⟩
end
def rInStr : R2 := fun x y H Q => ∃ i j, x = .str i ∧ y = .str j ∧ Q (.bl (!(Builtin.Str.occurrences j i 0 j.length 1).isEmpty)) H
def rNotInStr : R2 := fun x y H Q => ∃ i j, x = .str i ∧ y = .str j ∧ Q (.bl (!(!(Builtin.Str.occurrences j i 0 j.length 1).isEmpty))) H
def rIsNon : R2 := fun x y H Q => y = .non ∧ Q (.bl (decide (x = .non))) H
def rNotNon : R2 := fun x y H Q => y = .non ∧ Q (.bl (!decide (x = .non))) H
def rC (K : PySem.W.Frag) : CO → R2
  | .eq => rData (fun d e k => k = PyData.eqv d e) K
  | .ne => rData (fun d e k => k = !PyData.eqv d e) K
  | .lt => rData (fun d e k => alike d e = true ∧ d ≠ .none ∧ k = dataLt d e) K
  | .le => rData (fun d e k => alike d e = true ∧ d ≠ .none ∧ k = !dataLt e d) K
  | .gt => rI0 fun i j => .bl (decide (j < i))
  | .ge => rI0 fun i j => .bl (decide (j ≤ i))
  | .isin => fun x y H Q => rInD false K x y H Q ∨ rInStr x y H Q
  | .notin => fun x y H Q => rInD true K x y H Q ∨ rNotInStr x y H Q
  | .is => fun x y H Q => rIsNon x y H Q ∨ (rIsB x y H Q ∨ rNonBl false x y H Q)
  | .isnot => fun x y H Q => rNotNon x y H Q ∨ (rNotB x y H Q ∨ rNonBl true x y H Q)
theorem op_C {X : Cx} (hu : X.A.units + 64 < cLine) : ∀ op : CO, OpR X (compareOp op.py) (rC X.K op)
  | .eq => op_eqP hu
  | .ne => op_neP hu
  | .lt => op_ltP hu
  | .le => op_leP hu
  | .gt => op_gt
  | .ge => op_ge
  | .isin => (op_inP hu).or op_in_str
  | .notin => (op_notInP hu).or op_notin_str
  | .is => op_isN.or (op_isBl.or op_isNB)
  | .isnot => op_notN.or (op_notBl.or op_notNB)
theorem eqOk_inv (h : eqOk x y = true) : ∃ m n, x.dep = some m ∧ y.dep = some n ∧ m ≤ 40 ∧ n ≤ 40 := by
  unfold eqOk at h
  cases e1 : x.dep with
  | none => rw [e1] at h; cases h
  | some m =>
    cases e2 : y.dep with
    | none => rw [e1, e2] at h; cases h
    | some n =>
      rw [e1, e2] at h
      simp only [Bool.and_eq_true, decide_eq_true_eq] at h
      exact ⟨m, n, rfl, rfl, h.1, h.2⟩
theorem data_ok {g : PyData → PyData → Bool → Prop} {k : Bool} (h : eqOk x y = true) (hx : VB K F M H x v) (hy : VB K F M H y w) (hg : g x.py y.py k) (q : Q (.bl k) H) : rData g K v w H Q := by
  obtain ⟨m, n, e1, e2, z1, z2⟩ := eqOk_inv h
  exact ⟨x.py, y.py, k, hx.dp e1, hy.dp e2, D.plain_py x m e1, D.plain_py y n e2, Nat.le_trans (D.depth_py x m e1) z1, Nat.le_trans (D.depth_py y n e2) z2, hg, q⟩
theorem ltOk_inv (h : ltOk x y = true) : alike x.py y.py = true ∧ eqOk x y = true ∧ x.py ≠ .none := by
  unfold ltOk at h
  simp only [Bool.and_eq_true] at h
  refine ⟨h.1.1, h.1.2, fun z => ?_⟩
  cases x with
  | non => exact absurd h.2 (by decide)
  | _ => simp only [D.py] at z; cases z
theorem any_py (ds : List D) (x : D) : (D.pys ds).any (fun y => PyData.eqv y x.py) = inD x ds := by
  induction ds with
  | nil => simp only [D.pys, List.any_nil, inD]
  | cons a r ih =>
    unfold inD at ih ⊢
    simp only [D.pys, List.any_cons, ih]
    rfl
theorem seq_of {l : List D} (e : y.items = some l) (hy : VB K F M H y w) : ∃ a vs, w = .ref a ∧ (SqL K H a vs ∨ SqT K H a vs) ∧ VRs K F H l vs := by
  cases y <;> simp only [D.items, Option.some.injEq, reduceCtorEq] at e
  · subst e
    obtain ⟨a, vs, e, t, r⟩ := hy.tup.tupT
    exact ⟨a, vs, e, .inr t, r⟩
  · subst e
    obtain ⟨a, vs, e, t, r⟩ := hy.lstL
    exact ⟨a, vs, e, .inl (.of t), r⟩
theorem in_ok {neg k : Bool} (h : opIn x y = some k) (hx : VB K F M H x v) (hy : VB K F M H y w) (q : Q (.bl (if neg then !k else k)) H) : (rInD neg K v w H Q ∨ (if neg then rNotInStr else rInStr) v w H Q) := by
  unfold opIn at h
  split at h
  · rename_i l el
    split at h
    · rename_i hk
      cases h
      obtain ⟨m, n, e1, e2, z1, z2⟩ := eqOk_inv hk
      obtain ⟨a, vs, rfl, hs, hr⟩ := seq_of el hy
      simp only [D.dep] at e2
      obtain ⟨n', en, en2⟩ := Option.map_eq_some_iff.mp e2
      refine .inl ⟨a, x.py, D.pys l, vs, rfl, hs, hx.dp e1, VRs.dp l vs n' en hr, D.plain_py x m e1, D.plain_pys l n' en, Nat.le_trans (D.depth_py x m e1) z1, Nat.le_trans (D.depth_pys l n' en) (by omega), ?_⟩
      rw [any_py]
      exact q
    · cases h
  · split at h
    · split at h
      · cases h
        cases (hy.not_lst (fun _ z => nomatch z)).strI
        cases (hx.not_lst (fun _ z => nomatch z)).strI
        cases neg with
        | true => exact .inr ⟨_, _, rfl, rfl, q⟩
        | false => exact .inr ⟨_, _, rfl, rfl, q⟩
      · cases h
    · rename_i ks vs
      have hy' := hy.not_lst (fun _ z => nomatch z)
      simp only [VR] at hy'
    · cases h
def D.isNon : D → Bool
  | .non => true
  | _ => false
theorem VB.non_iff (h : VB K F M H x v) : decide (v = .non) = x.isNon := by
  cases x with
  | non => have := (h.not_lst (fun _ z => nomatch z)).nonI; subst this; rfl
  | bl b => have := (h.not_lst (fun _ z => nomatch z)).blI; subst this; rfl
  | int b => have := (h.not_lst (fun _ z => nomatch z)).intI; subst this; rfl
  | str b => have := (h.not_lst (fun _ z => nomatch z)).strI; subst this; rfl
  | tup l => obtain ⟨a, vs, e, _⟩ := h.tup.tupT; subst e; rfl
  | lst l => obtain ⟨a, vs, e, _⟩ := h.lstL; subst e; rfl
  | scr l => obtain ⟨a, e, _⟩ := (h.not_lst (fun _ z => nomatch z)).scrL; subst e; rfl
  | dct ks vs => have h' := h.not_lst (fun _ z => nomatch z); simp only [VR] at h'
theorem cmp_ok {op : CO} {k : Bool} (h : opCmp op x y = some k) (hx : VB K F M H x v) (hy : VB K F M H y w) (q : Q (.bl k) H) : rC K op v w H Q := by
  unfold opCmp at h
  split at h
  · split at h
    · rename_i hk; cases h
      exact data_ok hk hx hy rfl q
    · cases h
  · split at h
    · rename_i hk; cases h
      exact data_ok hk hx hy rfl q
    · cases h
  · unfold D.lt at h
    split at h
    · rename_i hk; cases h
      obtain ⟨h1, h2, h3⟩ := ltOk_inv hk
      exact data_ok h2 hx hy ⟨h1, h3, rfl⟩ q
    · cases h
  · unfold D.le at h
    split at h
    · rename_i hk; cases h
      obtain ⟨h1, h2, h3⟩ := ltOk_inv hk
      exact data_ok h2 hx hy ⟨h1, h3, rfl⟩ q
    · cases h
  · cases h
    cases (hx.not_lst (fun _ z => nomatch z)).intI
    cases (hy.not_lst (fun _ z => nomatch z)).intI
    exact ⟨_, _, rfl, rfl, q⟩
  · cases h
    cases (hx.not_lst (fun _ z => nomatch z)).intI
    cases (hy.not_lst (fun _ z => nomatch z)).intI
    exact ⟨_, _, rfl, rfl, q⟩
  · exact in_ok (neg := false) h hx hy q
  · obtain ⟨b, eb, rfl⟩ := Option.map_eq_some_iff.mp h
    exact in_ok (neg := true) eb hx hy q
  · cases (hy.not_lst (fun _ z => nomatch z)).nonI
    refine .inl ⟨rfl, ?_⟩
    rw [hx.non_iff]
    cases h
    cases x <;> exact q
  · cases (hy.not_lst (fun _ z => nomatch z)).nonI
    refine .inl ⟨rfl, ?_⟩
    rw [hx.non_iff]
    cases h
    cases x <;> exact q
  · cases h
    cases (hx.not_lst (fun _ z => nomatch z)).blI
    cases (hy.not_lst (fun _ z => nomatch z)).blI
    refine .inr (.inl ⟨_, _, rfl, rfl, ?_⟩)
    rw [← Bool.beq_eq_decide_eq]
    exact q
  · cases h
    cases (hx.not_lst (fun _ z => nomatch z)).blI
    cases (hy.not_lst (fun _ z => nomatch z)).blI
    refine .inr (.inl ⟨_, _, rfl, rfl, ?_⟩)
    rw [← Bool.beq_eq_decide_eq]
    exact q
  · cases h
    cases (hx.not_lst (fun _ z => nomatch z)).nonI
    cases (hy.not_lst (fun _ z => nomatch z)).blI
    exact .inr (.inr ⟨_, rfl, rfl, q⟩)
  · cases h
    cases (hx.not_lst (fun _ z => nomatch z)).nonI
    cases (hy.not_lst (fun _ z => nomatch z)).blI
    exact .inr (.inr ⟨_, rfl, rfl, q⟩)
  · cases h

/-! ### an item, a slice -/
theorem VRs.atI {l : List D} {vs : List V} {i : Int} {d : D} (h : VRs K F H l vs) (e : L2.atI l i = some d) : ∃ u, L2.atI vs i = some u ∧ VR K F H d u := by
  unfold L2.atI at e ⊢
  rw [← h.len]
  cases q : ixN l.length i with
  | none => rw [q] at e; cases e
  | some j =>
    rw [q] at e
    exact h.at_ e
def rIxD (K : PySem.W.Frag) : R2 := fun x y H Q => rIxL K x y H Q ∨ rIxT K x y H Q
theorem ix_D {X : Cx} : IxR X (rIxD X.K) := ix_list.or ix_tup
theorem ix_ok (h : opIx x y = some d) (hx : VB K F M H x v) (hy : VB K F M H y w) (q : ∀ z, VR K F H d z → Q z H) : rIxD K v w H Q := by
  unfold opIx at h
  split at h
  · cases (hy.not_lst (fun _ z => nomatch z)).intI
    obtain ⟨a, vs, rfl, t, r⟩ := hx.tup.tupT
    obtain ⟨u, e, ru⟩ := r.atI h
    exact .inr ⟨a, vs, _, u, rfl, rfl, t, e, q u ru⟩
  · cases (hy.not_lst (fun _ z => nomatch z)).intI
    obtain ⟨a, vs, rfl, t, r⟩ := hx.lstL
    obtain ⟨u, e, ru⟩ := r.atI h
    exact .inl ⟨a, vs, _, u, rfl, rfl, .of t, e, q u ru⟩
  · rename_i l i
    cases (hy.not_lst (fun _ z => nomatch z)).intI
    obtain ⟨a, rfl, t⟩ := (hx.not_lst (fun _ z => nomatch z)).scrL
    obtain ⟨n, en, rfl⟩ := Option.map_eq_some_iff.mp h
    refine .inl ⟨a, _, _, .int n, rfl, rfl, t, ?_, q _ (by simp only [VR])⟩
    unfold L2.atI at en ⊢
    rw [List.length_map]
    cases q : ixN l.length i with
    | none => rw [q] at en; cases en
    | some j =>
      rw [q] at en
      show (l.map V.int)[j]? = _
      rw [List.getElem?_map, show l[j]? = some n from en]
      rfl
  · have h' := hx.not_lst (fun _ z => nomatch z)
    simp only [VR] at h'
  · cases h
theorem cutD_rel {l : List D} {vs : List V} {lo hi : Option Int} (h : VRs K F H l vs) : VRs K F H (cutD l lo hi) (cutV vs lo hi) := by
  unfold cutD cutV
  rw [← h.len]
  exact VRs.take _ (VRs.drop _ h)
def rSlD (K : PySem.W.Frag) : V → Option Int → Option Int → Hp → VK → Prop := fun x lo hi H Q => rSlA K x lo hi H Q ∨ rSlL K x lo hi H Q
theorem sl_D {X : Cx} : SlR X (rSlD X.K) := sl_tupA.or sl_list
theorem sl_ok {lo hi : Option Int} (h : opSl x lo hi = some d) (hx : VB K F M H x v) (fr : ∀ p, H p = none → ¬ F p) (q : PVal K F H d Q) : rSlD K v lo hi H Q := by
  unfold opSl at h
  split at h
  · rename_i l
    cases h
    have hx' := hx.tup
    obtain ⟨a, vs, rfl, t, r⟩ := hx'.tupT
    refine .inl ⟨a, vs, rfl, t, fun e => ?_, fun _ p hp => q.tup (cutD_rel r) hp fr⟩
    have hl := r.len
    rw [← hl] at e
    have el : cutD l lo hi = l := by
      unfold cutD
      rw [e.1, e.2, List.drop_zero, Nat.sub_zero, List.take_length]
    rw [el] at q
    exact q.here hx'
  · cases h
    obtain ⟨a, vs, rfl, t, r⟩ := hx.lstL
    exact .inr ⟨a, vs, rfl, .of t, fun p hp => q.lst (cutD_rel r) hp fr⟩
  · cases h
end
end Qh

/-! The state that stands for an environment; what follows a run of the interpreter; built-ins. -/
namespace Qh
open PySem PySem.Spec PyProof.Rows L2 PySem.W
abbrev SS := L2.St
def NotTup (H : Hp) (a : Addr) : Prop := ∃ o, H a = some o ∧ ∀ vs, o ≠ .tup vs
/-- nothing that stands becomes a tuple -/
structure Ex (M : AS) (H H' : Hp) : Prop extends Ext M H H' where
  nt : ∀ a, NotTup H a → NotTup H' a
theorem Ex.refl (M : AS) (H : Hp) : Ex M H H := ⟨Ext.refl M H, fun _ h => h⟩
theorem Ex.trans {M : AS} {H H1 H2 : Hp} (a : Ex M H H1) (b : Ex M H1 H2) : Ex M H H2 := ⟨a.toExt.trans b.toExt, fun x h => b.nt x (a.nt x h)⟩
theorem Ex.mono {M M' : AS} {H H' : Hp} (h : Ex M H H') (s : ∀ a, M a → M' a) : Ex M' H H' := ⟨h.toExt.mono s, h.nt⟩
theorem Ext.ex {H H' : Hp} (h : Ext NoM H H') : Ex NoM H H' := ⟨h, fun a ⟨o, e, n⟩ => ⟨o, h.keep a o e (fun z => z), n⟩⟩
theorem Ext.exM {M : AS} {H H' : Hp} (h : Ext NoM H H') : Ex M H H' := h.ex.mono fun _ z => z.elim
structure Rel (K : PySem.W.Frag) (F M : AS) (env : En) (σ : SS) (H : Hp) : Prop where
  len : env.length = σ.length
  dat : ∀ (i : Nat) (d : D), env[i]? = some (Sl.dat d) → ∃ v, σ[i]? = some (some v) ∧ VR K F H d v
  own : ∀ (i : Nat) (o : O), env[i]? = some (Sl.own o) → ∃ a, σ[i]? = some (some (V.ref a)) ∧ M a ∧ OR K F H o a
  apart : ∀ (i j : Nat) (o o' : O) (a : Addr), env[i]? = some (Sl.own o) → env[j]? = some (Sl.own o') → σ[i]? = some (some (V.ref a)) → σ[j]? = some (some (V.ref a)) → i = j
  sub : ∀ a, M a → F a
  there : ∀ a, F a → NotTup H a
section
variable {K : PySem.W.Frag} {F M : AS} {env : En} {σ : SS} {H H' : Hp}
theorem Rel.fresh (r : Rel K F M env σ H) : ∀ p, H p = none → ¬ F p := fun p h z => by
  obtain ⟨o, e, _⟩ := r.there p z
  rw [h] at e; cases e
theorem OR.ext {M' : AS} {o : O} {a : Addr} (h : OR K F H o a) (n : ¬ M' a) (e : Ext M' H H') (s : ∀ a, M' a → F a) : OR K F H' o a := by
  cases o with
  | lst ds => obtain ⟨vs, q, r⟩ := h; exact ⟨vs, e.keep _ _ q n, r.ext e s⟩
  | dct ks vs => exact h
  | ins c fs => exact h
theorem Rel.ext (r : Rel K F M env σ H) (e : Ex NoM H H') : Rel K F M env σ H' where
  len := r.len
  dat := fun i d h => let ⟨v, a, b⟩ := r.dat i d h; ⟨v, a, b.ext e.toExt (fun _ z => z.elim)⟩
  own := fun i o h => let ⟨a, b, c, d⟩ := r.own i o h; ⟨a, b, c, d.ext (fun z => z) e.toExt (fun _ z => z.elim)⟩
  apart := r.apart
  sub := r.sub
  there := fun a z => e.nt a (r.there a z)
theorem En.at_of {i : Nat} {s : Sl} (h : env.at i = s) (n : s ≠ .non) : env[i]? = some s := by
  unfold En.at at h
  rw [List.getD_eq_getElem?_getD] at h
  cases q : env[i]? with
  | none => rw [q] at h; exact absurd h.symm n
  | some t => rw [q] at h; exact congrArg some h
/-- a value under a name -/
theorem Rel.val (r : Rel K F M env σ H) {i : Nat} {d : D} (h : (env.at i).val = some d) : ∃ v, σ[i]? = some (some v) ∧ VR K F H d v := by
  cases q : env.at i with
  | non => rw [q] at h; cases h
  | own o => rw [q] at h; cases h
  | dat x =>
    rw [q] at h; cases h
    exact r.dat i _ (En.at_of q (fun z => nomatch z))
theorem Rel.bor (r : Rel K F M env σ H) {i : Nat} {d : D} (h : (env.at i).bor = some d) : ∃ v, σ[i]? = some (some v) ∧ VB K F M H d v := by
  cases q : env.at i with
  | non => rw [q] at h; cases h
  | dat x => rw [q] at h; cases h
  | own o =>
    rw [q] at h
    obtain ⟨a, e, m, k⟩ := r.own i _ (En.at_of q (fun z => nomatch z))
    cases o with
    | lst l =>
      cases h
      obtain ⟨vs, e1, e2⟩ := k
      exact ⟨_, e, .inr ⟨a, vs, l, rfl, rfl, m, e1, e2⟩⟩
    | dct ks vs => exact k.elim
    | ins c fs => cases h
end
/-- what an expression's value is: a borrowed one the name's own object -/
def VX (K : PySem.W.Frag) (F : AS) (σ : SS) (e : E) (d : D) (v : V) (H : Hp) : Prop := match e with
  | .bor i => σ[i]? = some (some v)
  | _ => VR K F H d v
def ExcR (exc : Nat → Addr) (x : Exn) (cls : Value) (dd : Option Addr) (H : Hp) : Prop := cls = .ref (exc x.c) ∧ match x.ix with
  | none => dd = none
  | some i => ∃ d, dd = some d ∧ H d = some (.xd [(("index" : Str), .int i)])
section
variable (K : PySem.W.Frag) (exc : Nat → Addr) (W : WX) (F M : AS) (σ : SS)
/-- what is to follow, by how the interpreter ends -/
def Post {α β : Type} (H : Hp) (R : α → β → Hp → Prop) (r : Res α) (Q : β → Hp → Prop) : Prop := match r with
  | .ok a env => ∀ v H', Ex M H H' → Rel K F M env σ H' → R a v H' → Q v H'
  | .exc x env => ∀ cls dd H', Ex M H H' → Rel K F M env σ H' → ExcR exc x cls dd H' → W cls dd σ H'
  | .bad => False
end
section
variable {K : PySem.W.Frag} {exc : Nat → Addr} {W : WX} {F M : AS} {σ : SS} {H H' : Hp}
theorem Post.shift {α β : Type} {R : α → β → Hp → Prop} {r : Res α} {Q : β → Hp → Prop} (p : Post K exc W F M σ H R r Q) (e : Ex M H H') : Post K exc W F M σ H' R r Q := by
  cases r with
  | ok a env => exact fun v H2 e2 => p v H2 (e.trans e2)
  | exc x env => exact fun c d H2 e2 => p c d H2 (e.trans e2)
  | bad => exact p
theorem Post.bind {α β γ δ : Type} {R : α → β → Hp → Prop} {R' : γ → δ → Hp → Prop} {r : Res α} {k : α → En → Res γ} {Q' : δ → Hp → Prop} {G : β → Hp → Prop} (p : Post K exc W F M σ H R' (r.bind k) Q')
    (h : ∀ a env v H1, r = .ok a env → Ex M H H1 → Rel K F M env σ H1 → R a v H1 → Post K exc W F M σ H1 R' (k a env) Q' → G v H1) : Post K exc W F M σ H R r G := by
  cases r with
  | ok a env => exact fun v H1 e rl ra => h a env v H1 rfl e rl ra (Post.shift (r := k a env) p e)
  | exc x env => exact p
  | bad => exact p
theorem Post.opt {α β : Type} {R : α → β → Hp → Prop} {o : Option α} {env : En} {Q : β → Hp → Prop} (p : Post K exc W F M σ H R (opt o env) Q) : ∃ a, o = some a ∧ Post K exc W F M σ H R (.ok a env) Q := by
  cases o with
  | none => exact p.elim
  | some a => exact ⟨a, rfl, p⟩
theorem Post.here {α β : Type} {R : α → β → Hp → Prop} {a : α} {env : En} {Q : β → Hp → Prop} {v : β} (p : Post K exc W F M σ H R (.ok a env) Q) (rl : Rel K F M env σ H) (ra : R a v H) : Q v H := p v H (Ex.refl _ _) rl ra
/-- the end is a value that comes -/
theorem Post.pval {e : E} {d : D} {env : En} {Q : VK} (hb : isBor e = false) (p : Post K exc W F M σ H (VX K F σ e) (.ok d env) Q) (rl : Rel K F M env σ H) : PVal K F H d Q := fun z H' ex vr =>
  p z H' ex.exM (rl.ext ex.ex) (by cases e <;> first | exact vr | cases hb)
theorem VX.vr {e : E} {d : D} {v : V} (hb : isBor e = false) (h : VX K F σ e d v H) : VR K F H d v := by
  cases e <;> first | exact h | cases hb
/-- an operand when it is used -/
theorem VX.use {e : E} {d x : D} {v : V} {env : En} (h : VX K F σ e d v H) (e1 : Ex M H H') (rl : Rel K F M env σ H') (hr : rd e d env = some x) (s : ∀ a, M a → F a) : VB K F M H' x v := by
  cases e with
  | bor i =>
    obtain ⟨u, e2, k⟩ := rl.bor (i := i) hr
    have e3 : σ[i]? = some (some v) := h
    rw [e2] at e3
    cases e3
    exact k
  | _ => cases hr; exact .inl (VR.ext h e1.toExt s)
end

/-! ### the transformers -/
def asB : D → En → Res Bool
  | .bl b, e => .ok b e
  | _, _ => .bad
theorem bind_bool {γ : Type} (r : Res D) (A B : En → Res γ) : (r.bind fun x e => onBl x e A B) = (r.bind asB).bind fun b e => if b = true then A e else B e := by
  cases r with
  | bad => rfl
  | exc x e => rfl
  | ok d e => cases d <;> first | rfl | (rename_i b; cases b <;> rfl)
theorem onBl_bind {α β : Type} (x : D) (e : En) (A B : En → Res α) (k : α → En → Res β) : (onBl x e A B).bind k = onBl x e (fun e => (A e).bind k) (fun e => (B e).bind k) := by
  cases x <;> first | rfl | (rename_i b; cases b <;> rfl)
theorem bind_assoc {α β γ : Type} (r : Res α) (f : α → En → Res β) (g : β → En → Res γ) : (r.bind f).bind g = r.bind fun a e => (f a e).bind g := by
  cases r <;> rfl
section
variable (K : PySem.W.Frag) (exc : Nat → Addr) (W : WX) (G : Nat → Option D) (run : Run)
def tE (m : E) : TE := fun σ H Q => ∃ F M env, Rel K F M env σ H ∧ Post K exc W F M σ H (VX K F σ m) (evE G run m env) Q
def tT (m : E) : TT := fun σ H Q => ∃ F M env, Rel K F M env σ H ∧ Post K exc W F M σ H (fun d b _ => d = b) ((evE G run m env).bind asB) Q
def tOT (m : Oe) : TT := fun σ H Q => ∃ F M env, Rel K F M env σ H ∧ Post K exc W F M σ H (fun d b _ => d = b) (evT G run m env) Q
/-- the values of expressions -/
def VXs (K : PySem.W.Frag) (F : AS) (σ : SS) : Es → List D → List V → Hp → Prop
  | .nil, ds, vs, _ => ds = [] ∧ vs = []
  | .cons e es, ds, vs, H => ∃ d r v u, ds = d :: r ∧ vs = v :: u ∧ VX K F σ e d v H ∧ VXs K F σ es r u H
def tEs (m : Es) : TA := fun σ H Q => ∃ F M env, Rel K F M env σ H ∧ Post K exc W F M σ H (VXs K F σ m) (evEs G run m env) Q
def tOe (m : Oe) : TO := fun σ H Q => ∃ F M env, Rel K F M env σ H ∧ Post K exc W F M σ H (fun d b _ => d = b) (evO G run m env) Q
def VA (K : PySem.W.Frag) (F : AS) (σ : SS) : List AV → List V → Hp → Prop
  | [], vs, _ => vs = []
  | a :: as, vs, H => ∃ v u, vs = v :: u ∧ (match a with
    | .dat d => VR K F H d v
    | .bo i => σ[i]? = some (some v)
    | .io i => σ[i]? = some (some v)) ∧ VA K F σ as u H
def tAs (m : As) : TA := fun σ H Q => ∃ F M env, Rel K F M env σ H ∧ Post K exc W F M σ H (VA K F σ) (evAs G run m env) Q
end
section
variable {K : PySem.W.Frag} {F M : AS} {σ : SS} {H H' : Hp}
theorem VX.ext {e : E} {d : D} {v : V} (h : VX K F σ e d v H) (ex : Ex M H H') (s : ∀ a, M a → F a) : VX K F σ e d v H' := by
  cases e <;> first | exact h | exact VR.ext h ex.toExt s
theorem VXs.ext : ∀ {es : Es} {ds : List D} {vs : List V}, VXs K F σ es ds vs H → Ex M H H' → (∀ a, M a → F a) → VXs K F σ es ds vs H'
  | .nil, _, _, h, _, _ => h
  | .cons e es, _, _, ⟨d, r, v, u, e1, e2, h1, h2⟩, ex, s => ⟨d, r, v, u, e1, e2, h1.ext ex s, VXs.ext h2 ex s⟩
/-- data in a row, perhaps borrowed -/
def VBs (K : PySem.W.Frag) (F M : AS) (H : Hp) : List D → List V → Prop
  | [], vs => vs = []
  | d :: ds, vs => ∃ v r, vs = v :: r ∧ VB K F M H d v ∧ VBs K F M H ds r
theorem VXs.use : ∀ {es : Es} {ds xs : List D} {vs : List V} {env : En}, VXs K F σ es ds vs H → Rel K F M env σ H → rds es ds env = some xs → VBs K F M H xs vs
  | .nil, _, _, _, _, ⟨e1, e2⟩, _, hr => by subst e1 e2; cases hr; exact rfl
  | .cons e es, _, xs, _, env, ⟨d, r, v, u, e1, e2, h1, h2⟩, rl, hr => by
    subst e1 e2
    simp only [rds] at hr
    cases q1 : rd e d env with
    | none => rw [q1] at hr; cases hr
    | some x =>
      cases q2 : rds es r env with
      | none => rw [q1, q2] at hr; cases hr
      | some ys =>
        rw [q1, q2] at hr
        cases hr
        exact ⟨v, u, rfl, h1.use (Ex.refl M H) rl q1 rl.sub, VXs.use h2 rl q2⟩
def Es.noBor : Es → Bool
  | .nil => true
  | .cons e es => !isBor e && Es.noBor es
theorem VXs.vrs : ∀ {es : Es} {ds : List D} {vs : List V}, es.noBor = true → VXs K F σ es ds vs H → VRs K F H ds vs
  | .nil, _, _, _, ⟨e1, e2⟩ => by subst e1 e2; exact VRs.nil_iff.mpr rfl
  | .cons e es, _, _, hb, ⟨d, r, v, u, e1, e2, h1, h2⟩ => by
    subst e1 e2
    simp only [Es.noBor, Bool.and_eq_true, Bool.not_eq_true'] at hb
    exact .cons_mk (h1.vr hb.1) (VXs.vrs hb.2 h2)
theorem VBs.one {d : D} {vs : List V} (h : VBs K F M H [d] vs) : ∃ v, vs = [v] ∧ VB K F M H d v := by
  obtain ⟨v, r, e, h1, h2⟩ := h
  have h3 : r = [] := h2
  subst h3
  exact ⟨v, e, h1⟩
theorem VBs.two {d d' : D} {vs : List V} (h : VBs K F M H [d, d'] vs) : ∃ v v', vs = [v, v'] ∧ VB K F M H d v ∧ VB K F M H d' v' := by
  obtain ⟨v, r, e, h1, h2⟩ := h
  obtain ⟨w, rfl, h3⟩ := VBs.one h2
  exact ⟨v, w, e, h1, h3⟩
end

/-! ### built-ins -/
def Bi.py : Bi → Str
  | .len => "len" | .all => "all" | .any => "any" | .sum => "sum" | .tuple => "tuple" | .list => "list" | .min => "min" | .max => "max" | .int => "int" | .str => "str" | .sorted => "sorted" | .sset => "" | .lenset => "" | .bool => "bool"
/-- a built-in function, by its name; else a type -/
def Bi.fn : Bi → Option String
  | .len => some "len" | .all => some "all" | .any => some "any" | .sum => some "sum" | .min => some "min" | .max => some "max" | .sorted => some "sorted" | _ => none
def Bi.ty : Bi → Option String
  | .tuple => some "tuple" | .list => some "list" | .int => some "int" | .bool => some "bool" | _ => none
def rBi (K : PySem.W.Frag) : Bi → List V → Hp → VK → Prop
  | .len => fun xs H Q => ∃ p ys, xs = [.ref p] ∧ (SqL K H p ys ∨ SqT K H p ys) ∧ Q (.int ys.length) H
  | .all => rAll K
  | .any => rAny K
  | .sum => rSum K
  | .min => fun xs H Q => ∃ i j, xs = [.int i, .int j] ∧ Q (.int (if j < i then j else i)) H
  | .max => fun xs H Q => ∃ i j, xs = [.int i, .int j] ∧ Q (.int (if j > i then j else i)) H
  | .tuple => fun xs H Q => ∃ p ys, xs = [.ref p] ∧ ((SqL K H p ys ∧ ∀ l, H l = none → Q (.ref l) (upd H l (.tup ys))) ∨ (SqT K H p ys ∧ Q (.ref p) H))
  | .list => fun xs H Q => ∃ p ys, xs = [.ref p] ∧ (SqL K H p ys ∨ SqT K H p ys) ∧ ∀ l, H l = none → Q (.ref l) (upd H l (.lst ys))
  | .int => fun xs H Q => (∃ i, xs = [.int i] ∧ Q (.int i) H) ∨ ∃ k, xs = [.bl k] ∧ Q (.int (if k then 1 else 0)) H
  | .bool => fun xs H Q => (∃ i, xs = [.int i] ∧ Q (.bl (i != 0)) H) ∨ ∃ k, xs = [.bl k] ∧ Q (.bl k) H
  | .str => fun _ _ _ => False
  | .sorted => fun _ _ _ => False
  | .sset => fun _ _ _ => False
  | .lenset => fun _ _ _ => False
theorem call_Bi {X : Cx} (hc : X.calm = true) : ∀ {b : Bi} {id : String}, b.fn = some id → CallR X (.builtin id) (rBi X.K b)
  | .len, _, h => by cases h; exact call_len_seq
  | .all, _, h => by cases h; exact cr_all hc
  | .any, _, h => by cases h; exact cr_any hc
  | .sum, _, h => by cases h; exact cr_sum hc
  | .min, _, h => by cases h; exact call_min2 hc
  | .max, _, h => by cases h; exact call_max2 hc
  | .sorted, _, h => by cases h; exact fun _ _ _ _ _ _ _ _ _ z => False.elim z
  | .tuple, _, h => by cases h
  | .list, _, h => by cases h
  | .int, _, h => by cases h
  | .str, _, h => by cases h
  | .sset, _, h => by cases h
  | .lenset, _, h => by cases h
  | .bool, _, h => by cases h
theorem call_BiT {X : Cx} : ∀ {b : Bi} {id : String}, b.ty = some id → CallR X (.type id) (rBi X.K b)
  | .tuple, _, h => by cases h; exact call_tuple_of
  | .list, _, h => by cases h; exact call_list_of
  | .int, _, h => by cases h; exact call_int1
  | .bool, _, h => by cases h; exact call_bool1
  | .len, _, h => by cases h
  | .all, _, h => by cases h
  | .any, _, h => by cases h
  | .sum, _, h => by cases h
  | .min, _, h => by cases h
  | .max, _, h => by cases h
  | .sorted, _, h => by cases h
  | .str, _, h => by cases h
  | .sset, _, h => by cases h
  | .lenset, _, h => by cases h
theorem boot_Bi : ∀ {b : Bi} {id : String}, b.fn = some id → bootBuiltins b.py = some (.builtin id)
  | .len, _, h => by cases h; decide +kernel
  | .all, _, h => by cases h; decide +kernel
  | .any, _, h => by cases h; decide +kernel
  | .sum, _, h => by cases h; decide +kernel
  | .min, _, h => by cases h; decide +kernel
  | .max, _, h => by cases h; decide +kernel
  | .sorted, _, h => by cases h; decide +kernel
  | .tuple, _, h => by cases h
  | .list, _, h => by cases h
  | .int, _, h => by cases h
  | .str, _, h => by cases h
  | .sset, _, h => by cases h
  | .lenset, _, h => by cases h
  | .bool, _, h => by cases h
theorem boot_BiT : ∀ {b : Bi} {id : String}, b.ty = some id → bootBuiltins b.py = some (.type id)
  | .tuple, _, h => by cases h; decide +kernel
  | .list, _, h => by cases h; decide +kernel
  | .int, _, h => by cases h; decide +kernel
  | .bool, _, h => by cases h; decide +kernel
  | .len, _, h => by cases h
  | .all, _, h => by cases h
  | .any, _, h => by cases h
  | .sum, _, h => by cases h
  | .min, _, h => by cases h
  | .max, _, h => by cases h
  | .sorted, _, h => by cases h
  | .str, _, h => by cases h
  | .sset, _, h => by cases h
  | .lenset, _, h => by cases h
section
variable {K : PySem.W.Frag} {F M : AS} {H : Hp} {Q : VK}
theorem VR.lstL {l : List D} {v : V} (h : VR K F H (.lst l) v) : ∃ a vs, v = .ref a ∧ H a = some (.lst vs) ∧ VRs K F H l vs := VB.lstL (M := NoM) (.inl h)
theorem VB.intI {i : Int} {v : V} (h : VB K F M H (.int i) v) : v = .int i := (h.not_lst (fun _ z => nomatch z)).intI
theorem VB.blI {i : Bool} {v : V} (h : VB K F M H (.bl i) v) : v = .bl i := (h.not_lst (fun _ z => nomatch z)).blI
theorem VB.strI {i : Str} {v : V} (h : VB K F M H (.str i) v) : v = .str i := (h.not_lst (fun _ z => nomatch z)).strI
theorem bi_ok {b : Bi} {l : List D} {d : D} {vs : List V} (h : opBi b l = some d) (hv : VBs K F M H l vs) (fr : ∀ p, H p = none → ¬ F p) (q : PVal K F H d Q) : rBi K b vs H Q := by
  unfold opBi at h
  split at h
  · cases h
    obtain ⟨v, rfl, k⟩ := hv.one
    obtain ⟨a, ws, rfl, t, r⟩ := k.tup.tupT
    refine ⟨a, ws, rfl, .inr t, ?_⟩
    rw [← r.len]; exact q.int
  · cases h
    obtain ⟨v, rfl, k⟩ := hv.one
    obtain ⟨a, ws, rfl, t, r⟩ := k.lstL
    refine ⟨a, ws, rfl, .inl (.of t), ?_⟩
    rw [← r.len]; exact q.int
  · cases h
    obtain ⟨v, rfl, k⟩ := hv.one
    obtain ⟨a, rfl, t⟩ := (k.not_lst (fun _ z => nomatch z)).scrL
    refine ⟨a, _, rfl, .inl t, ?_⟩
    rw [List.length_map]; exact q.int
  · obtain ⟨bs, eb, rfl⟩ := Option.map_eq_some_iff.mp h
    obtain ⟨v, rfl, k⟩ := hv.one
    obtain ⟨a, ws, rfl, t, r⟩ := k.lstL
    have := r.bls eb
    subst this
    exact ⟨a, bs, rfl, .of t, q.bl⟩
  · obtain ⟨bs, eb, rfl⟩ := Option.map_eq_some_iff.mp h
    obtain ⟨v, rfl, k⟩ := hv.one
    obtain ⟨a, ws, rfl, t, r⟩ := k.lstL
    have := r.bls eb
    subst this
    exact ⟨a, bs, rfl, .of t, q.bl⟩
  · obtain ⟨bs, eb, rfl⟩ := Option.map_eq_some_iff.mp h
    obtain ⟨v, rfl, k⟩ := hv.one
    obtain ⟨a, ws, rfl, t, r⟩ := k.lstL
    have := r.ints eb
    subst this
    exact ⟨a, bs, rfl, .of t, q.int⟩
  · cases h
    obtain ⟨v, rfl, k⟩ := hv.one
    obtain ⟨a, ws, rfl, t, r⟩ := k.lstL
    exact ⟨a, ws, rfl, .inl ⟨.of t, fun p hp => q.tup r hp fr⟩⟩
  · cases h
    obtain ⟨v, rfl, k⟩ := hv.one
    obtain ⟨a, ws, rfl, t, r⟩ := k.tup.tupT
    exact ⟨a, ws, rfl, .inr t, fun p hp => q.lst r hp fr⟩
  · cases h
    obtain ⟨v, rfl, k⟩ := hv.one
    obtain ⟨a, ws, rfl, t, r⟩ := k.lstL
    exact ⟨a, ws, rfl, .inl (.of t), fun p hp => q.lst r hp fr⟩
  · cases h
    obtain ⟨v, w, rfl, k1, k2⟩ := hv.two
    cases k1.intI; cases k2.intI
    exact ⟨_, _, rfl, q.int⟩
  · cases h
    obtain ⟨v, w, rfl, k1, k2⟩ := hv.two
    cases k1.intI; cases k2.intI
    exact ⟨_, _, rfl, q.int⟩
  · cases h
    obtain ⟨v, rfl, k⟩ := hv.one
    cases k.intI
    exact .inl ⟨_, rfl, q.int⟩
  · cases h
    obtain ⟨v, rfl, k⟩ := hv.one
    cases k.blI
    exact .inr ⟨_, rfl, q.int⟩
  · cases h
    obtain ⟨v, rfl, k⟩ := hv.one
    cases k.blI
    exact .inr ⟨_, rfl, q.bl⟩
  · cases h
/-! ### isinstance -/
def Ty.py : Ty → String
  | .int => "int" | .bool => "bool" | .str => "str" | .tuple => "tuple" | .list => "list"
def Ty.nm : Ty → Str
  | .int => "int" | .bool => "bool" | .str => "str" | .tuple => "tuple" | .list => "list"
theorem boot_Ty : ∀ t : Ty, bootBuiltins t.nm = some (.type t.py)
  | .int => by decide +kernel
  | .bool => by decide +kernel
  | .str => by decide +kernel
  | .tuple => by decide +kernel
  | .list => by decide +kernel
def tyName : D → String
  | .non => "NoneType" | .bl _ => "bool" | .int _ => "int" | .str _ => "str" | .tup _ => "tuple" | .lst _ => "list" | .scr _ => "list" | .dct _ _ => "dict"
theorem kit_D {K : PySem.W.Frag} (d : D) (hd : ∀ ks vs, d ≠ .dct ks vs) (t : Ty) : PySem.W.kitOne K (.type (tyName d)) (.type t.py) = some (tyOf t d) := by
  cases d <;> first | exact absurd rfl (hd _ _) | (cases t <;> (apply kit_ty; simp only [tyName, Ty.py, tyOf]; decide +kernel))
theorem tyx_of {d : D} {v : V} (h : VB K F M H d v) : TyX K H v (.type (tyName d)) := by
  cases d with
  | non => have := (h.not_lst (fun _ z => nomatch z)).nonI; subst this; exact .base .non
  | bl b => cases h.blI; exact .base (.bl _)
  | int b => cases h.intI; exact .base (.int _)
  | str b => cases h.strI; exact .base (.str _)
  | tup l =>
    obtain ⟨a, vs, rfl, t, _⟩ := h.tup.tupT
    rcases t with (t | ⟨o, t⟩) | ⟨o, its, n, e, c, _⟩
    · exact .base (.tup t)
    · exact .fTuple t
    · exact .kTuple e c
  | lst l => obtain ⟨a, vs, rfl, t, _⟩ := h.lstL; exact .base (.lst t)
  | scr l =>
    obtain ⟨a, rfl, t⟩ := (h.not_lst (fun _ z => nomatch z)).scrL
    rcases t with (t | ⟨o, t⟩) | ⟨o, its, n, e, c, _⟩
    · exact .base (.lst t)
    · exact .base (.frz t)
    · exact .kList e c
  | dct ks vs => have h' := h.not_lst (fun _ z => nomatch z); simp only [VR] at h'
theorem VB.notDct {d : D} {v : V} (h : VB K F M H d v) : ∀ ks vs, d ≠ .dct ks vs := fun ks vs e => by
  subst e
  have h' := h.not_lst (fun _ z => nomatch z)
  simp only [VR] at h'
theorem kit_any {d : D} (hd : ∀ ks vs, d ≠ .dct ks vs) : ∀ ts : List Ty, PySem.W.kitAny K (.type (tyName d)) (ts.map fun t => .type t.py) = some (ts.any fun t => tyOf t d)
  | [] => kitAny_nil
  | t :: ts => by
    refine kitAny_cons (kit_D d hd t) (fun hb => ?_) (fun hb => ?_)
    · rw [kit_any hd ts]
      simp [hb]
    · simp [hb]
theorem clsv_tys : ∀ ts : List Ty, Paired ClsV (ts.map fun t => V.ty t.py) (ts.map fun t => Value.type t.py)
  | [] => .nil
  | t :: ts => .cons (.ty _) (clsv_tys ts)
end
end Qh

/-! The check of a program's text against the mini text, and what it gives for expressions. -/
namespace Qh
open PySem PySem.Spec PyProof.Rows L2 PySem.W

/-! ### the check -/
def visB (sc : Scope) (x : Str) : Bool := (match sc.names.lookup x with
  | some .local => true
  | some .cell => true
  | some .free => true
  | _ => false) && (!(x == ("__debug__" : Str)) && !(x == ("__classdict__" : Str)))
def glB (sc : Scope) (x : Str) : Bool := (match sc.names.lookup x with
  | some .globalImplicit => true
  | _ => false) && (!(x == ("__debug__" : Str)) && !(x == ("__name__" : Str)))
def nameB (N : List Str) (sc : Scope) (i : Nat) (x : Str) : Bool := decide (N[i]? = some x) && visB sc x
/-- a name that a def may store -/
def locB (N : List Str) (sc : Scope) (i : Nat) (x : Str) : Bool := decide (N[i]? = some x) && (match sc.names.lookup x with
  | some .local => true
  | some .cell => true
  | _ => false)
def cstB : D → Const → Bool
  | .non, .none => true
  | .bl b, .bool c => b == c
  | .int i, .int j => decide (i = j)
  | .str x, .str y => decide (x = y)
  | _, _ => false
def plainIx : Expr → Bool
  | .Slice _ _ _ _ => false
  | _ => true
def opB (op : BO) (o : Operator) : Bool := match op, o with
  | .add, .Add => true
  | .sub, .Sub => true
  | .mul, .Mult => true
  | .fdiv, .FloorDiv => true
  | .mod, .Mod => true
  | .pow, .Pow => true
  | _, _ => false
theorem opB_ok {op : BO} {o : Operator} (h : opB op o = true) : o = op.py := by
  cases op <;> cases o <;> first | rfl | cases h
def opC (op : CO) (o : CmpOp) : Bool := match op, o with
  | .eq, .Eq => true
  | .ne, .NotEq => true
  | .lt, .Lt => true
  | .le, .LtE => true
  | .gt, .Gt => true
  | .ge, .GtE => true
  | .isin, .In => true
  | .notin, .NotIn => true
  | .is, .Is => true
  | .isnot, .IsNot => true
  | _, _ => false
theorem opC_ok {op : CO} {o : CmpOp} (h : opC op o = true) : o = op.py := by
  cases op <;> cases o <;> first | rfl | cases h
def noSet : Expr → Bool
  | .Set _ _ _ => false
  | _ => true
def noStar : Expr → Bool
  | .Starred _ _ => false
  | _ => true
structure FnI where
  name : Str
  ps : Nat
  N : List Str
structure Tab where
  fns : List FnI
  globs : List (Str × D)
  blts : List Str
def tyB (sc : Scope) (bl : List Str) (t : Ty) : Expr → Bool
  | .Name x _ => decide (x = t.nm) && (glB sc x && bl.contains x)
  | _ => false
def tysB (sc : Scope) (bl : List Str) : List Ty → List Expr → Bool
  | [], [] => true
  | t :: ts, e :: es => tyB sc bl t e && tysB sc bl ts es
  | _, _ => false
/-- a method's object: not the plain call without arguments -/
def mb : Expr → Bool
  | .Call _ [] _ _ => false
  | _ => true
theorem mb_ok {o : Expr} {m : Str} {env : Env} {w : Sem Value} (h : mb o = true) : attributeBase o m env w = w := by
  cases o <;> try rfl
  rename_i f args kws pos
  cases args with
  | nil => cases h
  | cons a as => cases f <;> rfl
def Me.py : Me → Str
  | .split => "split" | .partition => "partition" | .join => "join" | .count => "count" | .index => "index" | .get => "get"
/-- the methods that are covered, with one argument -/
def Me.one : Me → Bool
  | .split => true
  | _ => false
section
variable (T : Tab) (N : List Str)
mutual
def chkE (sc : Scope) : E → Expr → Bool
  | .var i, .Name x _ => nameB N sc i x
  | .bor i, .Name x _ => nameB N sc i x
  | .cst d, .Constant c _ _ => cstB d c
  | .glo g, .Name x _ => glB sc x && (match T.globs[g]? with
    | some (y, _) => decide (x = y)
    | none => false)
  | .bin op a b, .BinOp l o r _ => (!isBor a && !isBor b) && (opB op o && (chkE sc a l && chkE sc b r))
  | .cmp op a b, .Compare l [o] [r] _ => opC op o && (noSet r && (chkE sc a l && chkE sc b r))
  | .chn op op' a b c, .Compare l [o, o'] [r, r'] _ => (!isBor a && (!isBor b && !isBor c)) && ((opC op o && opC op' o') && ((noSet r && noSet r') && (chkE sc a l && (chkE sc b r && chkE sc c r'))))
  | .and a b, .BoolOp .And (x :: y :: rest) pos => (!isBor a && !isBor b) && (chkE sc a x && (match rest with
    | [] => chkE sc b y
    | _ :: _ => chkE sc b (.BoolOp .And (y :: rest) pos)))
  | .or a b, .BoolOp .Or (x :: y :: rest) pos => (!isBor a && !isBor b) && (chkE sc a x && (match rest with
    | [] => chkE sc b y
    | _ :: _ => chkE sc b (.BoolOp .Or (y :: rest) pos)))
  | .not a, .UnaryOp .Not x _ => !isBor a && chkE sc a x
  | .ife t a b, .IfExp t' a' b' _ => (!isBor t && (!isBor a && !isBor b)) && (chkE sc t t' && (chkE sc a a' && chkE sc b b'))
  | .tup es, .Tuple xs _ _ => es.noBor && chkEs sc es xs
  | .lst es, .List xs _ => es.noBor && chkEs sc es xs
  | .ix a i, .Subscript v s _ => plainIx s && (chkE sc a v && chkE sc i s)
  | .sl a lo hi, .Subscript v (.Slice l h none _) _ => chkE sc a v && (chkO sc lo l && chkO sc hi h)
  | .call f as, .Call (.Name x _) args [] _ => glB sc x && ((match T.fns[f]? with
    | some i => decide (x = i.name)
    | none => false) && chkAs sc as args)
  | .bi b as, .Call (.Name x _) (a :: args) [] _ => glB sc x && (decide (x = b.py) && (T.blts.contains x && ((b.fn.isSome || b.ty.isSome) && chkEs sc as (a :: args))))
  | .me m o as, .Call (.Attribute ov nm ap) [a] [] pos => ((decide (nm = m.py) && ap.endLine == pos.line) && (mb ov && m.one)) && ((!isBor o && as.noBor) && (chkE sc o ov && chkEs sc as [a]))
  | .isi e ts, .Call (.Name x _) [a, t] [] _ => glB sc x && (decide (x = "isinstance") && (T.blts.contains x && (!isBor e && (chkE sc e a && (match t with
    | .Tuple es _ _ => decide (ts.length ≤ 10) && tysB sc T.blts ts es
    | .Name _ _ => tysB sc T.blts ts [t]
    | _ => false)))))
  | .lc own it g t e, .ListComp elt [⟨tg, iter, ifs, a⟩] scope _ => (decide (a = 0) && (!isBor e && chkIt sc tg it iter)) && (blkC N sc scope (own.filterMap fun i => (N[i]?).map fun x => (x, i)) && (((decide ((own.filterMap fun i => (N[i]?).map fun x => (x, i)).map (·.2) = own) && noSet iter) && g.slots.all fun i => own.contains i) &&
      (chkTg scope g tg && (chkE (relS scope sc) e elt && chkT (relS scope sc) t ifs))))
  | .lc2 own own1 it g it2 g2 e, .ListComp elt [⟨tg, iter, [], a⟩, ⟨tg1, iter1, [], a1⟩] scope _ => ((decide (a = 0) && decide (a1 = 0)) && (!isBor e && chkIt sc tg it iter)) && (blkC N sc scope (own.filterMap fun i => (N[i]?).map fun x => (x, i)) && (((decide ((own.filterMap fun i => (N[i]?).map fun x => (x, i)).map (·.2) = own) && (noSet iter && noSet iter1)) && ((g.slots.all fun i => own.contains i) && ((g2.slots.all fun i => own1.contains i) && (own1.all fun i => own.contains i)))) &&
      ((chkTg scope g tg && chkTg scope g2 tg1) && (chkE (relS scope sc) e elt && chkIt (relS scope sc) tg1 it2 iter1))))
  | _, _ => false
def chkEs (sc : Scope) : Es → List Expr → Bool
  | .nil, [] => true
  | .cons e es, x :: xs => chkE sc e x && chkEs sc es xs
  | _, _ => false
def chkO (sc : Scope) : Oe → Option Expr → Bool
  | .none, none => true
  | .some e, some x => !isBor e && chkE sc e x
  | _, _ => false
def chkT (sc : Scope) : Oe → List Expr → Bool
  | .none, [] => true
  | .some m, [c] => !isBor m && chkE sc m c
  | _, _ => false
def chkAs (sc : Scope) : As → List Expr → Bool
  | .nil, [] => true
  | .val e as, x :: xs => chkE sc e x && chkAs sc as xs
  | .io i as, .Name x _ :: xs => nameB N sc i x && chkAs sc as xs
  | _, _ => false
def chkIt (sc : Scope) (tg : Expr) : It → Expr → Bool
  | .seq e, x => !isBor e && chkE sc e x
  | .rng1 e, .Call (.Name x _) [a] [] _ => glB sc x && (decide (x = "range") && (T.blts.contains x && (!isBor e && chkE sc e a)))
  | .rng2 e e', .Call (.Name x _) [a, b] [] _ => glB sc x && (decide (x = "range") && (T.blts.contains x && ((!isBor e && !isBor e') && (chkE sc e a && chkE sc e' b))))
  | .enum e, .Call (.Name x _) [a] [] _ => (glB sc x && (decide (x = "enumerate") && (T.blts.contains x && (!isBor e && chkE sc e a)))) && (match tg with
    | .Tuple _ _ _ => true
    | _ => false)
  | _, _ => false
def chkTg (sc : Scope) : Tg → Expr → Bool
  | .nm i, .Name x _ => locB N sc i x
  | .tp gs, .Tuple es _ _ => chkTgs sc gs es
  | _, _ => false
def chkTgs (sc : Scope) : Tgs → List Expr → Bool
  | .nil, [] => true
  | .cons g gs, e :: es => chkTg sc g e && chkTgs sc gs es
  | _, _ => false
end
end
theorem vis_of {sc : Scope} {x : Str} (h : visB sc x = true) : Vis sc x ∧ (x == ("__debug__" : Str)) = false ∧ (x == ("__classdict__" : Str)) = false := by
  unfold visB at h
  simp only [Bool.and_eq_true, Bool.not_eq_true'] at h
  refine ⟨?_, h.2.1, h.2.2⟩
  have h1 := h.1
  unfold Vis
  split at h1
  · rename_i q; exact .inl q
  · rename_i q; exact .inr (.inl q)
  · rename_i q; exact .inr (.inr q)
  · cases h1
theorem gl_of {sc : Scope} {x : Str} (h : glB sc x = true) : sc.names.lookup x = some .globalImplicit ∧ (x == ("__debug__" : Str)) = false ∧ x ≠ "__name__" := by
  unfold glB at h
  simp only [Bool.and_eq_true, Bool.not_eq_true'] at h
  refine ⟨?_, h.2.1, fun e => ?_⟩
  · have h1 := h.1
    split at h1
    · assumption
    · cases h1
  · have := h.2.2
    rw [e] at this
    simp at this
theorem plainIx_ok {b : Expr} (h : plainIx b = true) : PlainIx b := by
  intro o i
  cases b <;> first | rfl | cases h
theorem noSet_mark {op : CmpOp} {b : Expr} (h : noSet b = true) : behindInMarks op b = false := by
  cases b <;> first | rfl | cases h
theorem noSet_fold {b : Expr} {env : Env} (h : noSet b = true) : ∀ x, foldedSetIterable b env x = pure x := by
  intro x
  cases b <;> first | rfl | cases h
theorem star_cons {e : Expr} {es : List Expr} {env : Env} (h : noStar e = true) : starEach (e :: es) env = (false, eval e env) :: starEach es env := by
  cases e <;> first | rfl | cases h
theorem star_any {es : List Expr} {env : Env} {pos : Pos} (h : es.all noStar = true) : (backTo pos (starEach es env)).any (·.1) = false := by
  induction es with
  | nil => rfl
  | cons e r ih =>
    simp only [List.all_cons, Bool.and_eq_true] at h
    rw [star_cons h.1]
    unfold backTo at ih ⊢
    rw [List.map_cons, List.any_cons, ih h.2]
    rfl
section
variable {T : Tab} {N : List Str} {sc : Scope}
theorem chkE_noStar {m : E} {e : Expr} (h : chkE T N sc m e = true) : noStar e = true := by
  cases e <;> first | rfl | (cases m <;> simp only [chkE] at h <;> cases h)
theorem chkEs_noStar : ∀ {m : Es} {es : List Expr}, chkEs T N sc m es = true → es.all noStar = true
  | .nil, [], _ => rfl
  | .nil, _ :: _, h => by simp only [chkEs] at h; cases h
  | .cons e es, [], h => by simp only [chkEs] at h; cases h
  | .cons e es, x :: xs, h => by
    simp only [chkEs, Bool.and_eq_true] at h
    simp only [List.all_cons, Bool.and_eq_true]
    exact ⟨chkE_noStar h.1, chkEs_noStar h.2⟩
theorem chkAs_noStar : ∀ {m : As} {es : List Expr}, chkAs T N sc m es = true → es.all noStar = true
  | .nil, [], _ => rfl
  | .nil, _ :: _, h => by simp only [chkAs] at h; cases h
  | .val e es, [], h => by simp only [chkAs] at h; cases h
  | .val e es, x :: xs, h => by
    simp only [chkAs, Bool.and_eq_true] at h
    simp only [List.all_cons, Bool.and_eq_true]
    exact ⟨chkE_noStar h.1, chkAs_noStar h.2⟩
  | .io i es, [], h => by simp only [chkAs] at h; cases h
  | .io i es, x :: xs, h => by
    cases x <;> first | (simp only [chkAs] at h; cases h; done) | skip
    simp only [chkAs, Bool.and_eq_true] at h
    simp only [List.all_cons, Bool.and_eq_true]
    exact ⟨rfl, chkAs_noStar h.2⟩
end
end Qh

/-! Expressions: the machine does what the interpreter says. -/
namespace Qh
open PySem PySem.Spec PyProof.Rows L2 PySem.W
def globD (T : Tab) (g : Nat) : Option D := (T.globs[g]?).map (·.2)
/-- what the written part says of the table's names -/
structure Facts (T : Tab) (K : PySem.W.Frag) (mg : Str → Option Value) (fa : Nat → Addr) (fd : Nat → FuncData) : Prop where
  fn : ∀ (f : Nat) (i : FnI), T.fns[f]? = some i → mg i.name = some (.ref (fa f)) ∧ PySem.W.keepIn K (.ref (fa f)) = true ∧ Binds K (fd f) (i.N.take i.ps) []
  glob : ∀ (g : Nat) (x : Str) (d : D), T.globs[g]? = some (x, d) → ∃ u v, mg x = some u ∧ RelV v u ∧ ∀ F H, VR K F H d v
  blt : ∀ x, T.blts.contains x = true → mg x = none
/-- a call: the arguments' values by the interpreter, its answer -/
def spF (K : PySem.W.Frag) (exc : Nat → Addr) (run : Run) (f : Nat) : Sp := fun vs H Q E => ∃ F M xs, Rel K F M xs (vs.map some) H ∧ match run f xs with
  | .ok d outs => ∀ v H', Ex M H H' → Rel K F M outs (vs.map some) H' → VR K F H' d v → Q v H'
  | .exc x outs => ∀ cls dd H', Ex M H H' → Rel K F M outs (vs.map some) H' → ExcR exc x cls dd H' → E cls dd H'
  | .bad => False
structure CtxOk (T : Tab) (fa : Nat → Addr) (fd : Nat → FuncData) (exc : Nat → Addr) (run : Run) (n : Nat) (N : List Str) (W : WX) (sc : Scope) (X : Cx) : Prop where
  nm : X.N = N
  nd : N.Nodup
  sc : X.env.scope = sc
  calm : X.calm = true
  room : Room n X.A
  tk : Takes X W
  facts : Facts T X.K X.mg fa fd
  ok : ∀ (f : Nat) (i : FnI), T.fns[f]? = some i → FnOk X.prog X.w X.K X.mg X.base (L2.CX X.prog X.w) n (fa f) (fd f) (i.N.take i.ps) (spF X.K exc run f)
section
variable {T : Tab} {fa : Nat → Addr} {fd : Nat → FuncData} {exc : Nat → Addr} {run : Run} {n : Nat} {N : List Str} {W : WX} {sc : Scope} {X : Cx}
theorem CtxOk.hu (C : CtxOk T fa fd exc run n N W sc X) : X.A.units + 64 < cLine := C.room.units
theorem CtxOk.vis (C : CtxOk T fa fd exc run n N W sc X) {x : Str} (h : Vis sc x) : Vis X.env.scope x := by rw [C.sc]; exact h
theorem CtxOk.gl (C : CtxOk T fa fd exc run n N W sc X) {x : Str} (h : sc.names.lookup x = some .globalImplicit) : Gl X x := by
  show X.env.scope.names.lookup x = _
  rw [C.sc]; exact h
theorem _root_.L2.PE.qimp {X : Cx} {e : Expr} {t t' : TE} (h : PE X e t) (i : ∀ σ H Q, t' σ H Q → t σ H Q) : PE X e t' := ⟨fun pins s σ H Q I q => h.run pins s σ H Q I (i σ H Q q)⟩
theorem _root_.L2.PT.qimp {X : Cx} {e : Expr} {t t' : TT} (h : PT X e t) (i : ∀ σ H Q, t' σ H Q → t σ H Q) : PT X e t' := ⟨fun pins s σ H Q I q => h.run pins s σ H Q I (i σ H Q q)⟩
theorem _root_.L2.PA.qimp {X : Cx} {e : List Expr} {t t' : TA} (h : PA X e t) (i : ∀ σ H Q, t' σ H Q → t σ H Q) : PA X e t' := ⟨fun pos pins s σ H Q I q => h.run pos pins s σ H Q I (i σ H Q q)⟩
theorem _root_.L2.PO.qimp {X : Cx} {e : Option Expr} {t t' : TO} (h : PO X e t) (i : ∀ σ H Q, t' σ H Q → t σ H Q) : PO X e t' := ⟨fun pins s σ H Q I q => h.run pins s σ H Q I (i σ H Q q)⟩
theorem PE.nameVar (C : CtxOk T fa fd exc run n N W sc X) {i : Nat} {x : Str} {pos : Pos} (h : nameB N sc i x = true) : PE X (.Name x pos) (tVar i) := by
  unfold nameB at h
  simp only [Bool.and_eq_true, decide_eq_true_eq] at h
  obtain ⟨v, h1, h2⟩ := vis_of h.2
  exact pe_var (by rw [C.nm]; exact h.1) (C.vis v) h1 h2

/-! ### the rules, one by one, over the transformers -/
section
variable {G : Nat → Option D}
theorem sim_bin (C : CtxOk T fa fd exc run n N W sc X) {op : BO} {a b : E} {l r : Expr} {pos : Pos} (na : isBor a = false) (nb : isBor b = false) (ha : PE X l ((tE X.K exc W G run) a)) (hb : PE X r ((tE X.K exc W G run) b)) : PE X (.BinOp l op.py r pos) ((tE X.K exc W G run) (.bin op a b)) := by
  refine (pe_op (op_B op) ha hb).qimp fun σ H Q h => ?_
  obtain ⟨F, M, env, rl, p⟩ := h
  simp only [evE] at p
  refine ⟨F, M, env, rl, p.bind fun x e1 v H1 _ ex1 rl1 hx p1 => ⟨F, M, e1, rl1, p1.bind fun y e2 w H2 _ ex2 rl2 hy p2 => ?_⟩⟩
  obtain ⟨d, ed, p3⟩ := p2.opt
  exact bin_ok ed ((hx.ext ex2 rl1.sub).vr na) (hy.vr nb) rl2.fresh (p3.pval rfl rl2)
theorem sim_cmp (C : CtxOk T fa fd exc run n N W sc X) {op : CO} {a b : E} {l r : Expr} {pos : Pos} (hr : noSet r = true) (ha : PE X l ((tE X.K exc W G run) a)) (hb : PE X r ((tE X.K exc W G run) b)) : PE X (.Compare l [op.py] [r] pos) ((tE X.K exc W G run) (.cmp op a b)) := by
  refine (pe_cmpR (op_C C.hu op) ha hb (noSet_mark hr)).qimp fun σ H Q h => ?_
  obtain ⟨F, M, env, rl, p⟩ := h
  simp only [evE] at p
  refine ⟨F, M, env, rl, p.bind fun x e1 v H1 _ ex1 rl1 hx p1 => ⟨F, M, e1, rl1, p1.bind fun y e2 w H2 _ ex2 rl2 hy p2 => ?_⟩⟩
  obtain ⟨d, ed, p3⟩ := p2.opt
  obtain ⟨k, ek, rfl⟩ := Option.map_eq_some_iff.mp ed
  unfold rd2 at ek
  split at ek
  · rename_i x' y' q1 q2
    exact cmp_ok ek (hx.use ex2 rl2 q1 rl2.sub) (hy.use (Ex.refl M H2) rl2 q2 rl2.sub) (p3.here rl2 (by simp only [VX, VR]))
  · cases ek
theorem sim_cmpT (C : CtxOk T fa fd exc run n N W sc X) {op : CO} {a b : E} {l r : Expr} {pos : Pos} (hr : noSet r = true) (ha : PE X l ((tE X.K exc W G run) a)) (hb : PE X r ((tE X.K exc W G run) b)) : PT X (.Compare l [op.py] [r] pos) ((tT X.K exc W G run) (.cmp op a b)) := by
  refine (pt_cmpR (op_C C.hu op) ha hb (noSet_mark hr)).qimp fun σ H Q h => ?_
  obtain ⟨F, M, env, rl, p⟩ := h
  simp only [evE, bind_assoc] at p
  refine ⟨F, M, env, rl, p.bind fun x e1 v H1 _ ex1 rl1 hx p1 => ⟨F, M, e1, rl1, p1.bind fun y e2 w H2 _ ex2 rl2 hy p2 => ?_⟩⟩
  cases ed : (rd2 a b x y e2 (opCmp op)) with
  | none => rw [ed] at p2; exact p2.elim
  | some k =>
    rw [ed] at p2
    unfold rd2 at ed
    split at ed
    · rename_i x' y' q1 q2
      exact cmp_ok ed (hx.use ex2 rl2 q1 rl2.sub) (hy.use (Ex.refl M H2) rl2 q2 rl2.sub) ⟨k, rfl, Post.here (a := k) (R := fun (d : Bool) b _ => d = b) p2 rl2 rfl⟩
    · cases ed
theorem chain_core (C : CtxOk T fa fd exc run n N W sc X) {op op' : CO} {a b c : E} (na : isBor a = false) (nb : isBor b = false) (nc : isBor c = false) {σ : SS} {H : Hp} {F M : AS} {env : En} {Z : V → Hp → Prop} (rl : Rel X.K F M env σ H)
    {α γ : Type} {kk : D → En → Res γ} {R' : γ → α → Hp → Prop} {Q' : α → Hp → Prop} (p : Post X.K exc W F M σ H R' ((evE G run (.chn op op' a b c) env).bind kk) Q')
    (fin : ∀ k H2 env', Rel X.K F M env' σ H2 → Post X.K exc W F M σ H2 R' (kk (.bl k) env') Q' → Z (.bl k) H2) :
    (tE X.K exc W G run) a σ H fun x H1 => (tE X.K exc W G run) b σ H1 fun y H2 => rC X.K op x y H2 fun z H3 => ∃ k, z = .bl k ∧ if k = true then (tE X.K exc W G run) c σ H3 fun w H4 => rC X.K op' y w H4 Z else Z (.bl false) H3 := by
  simp only [evE, bind_assoc] at p
  refine ⟨F, M, env, rl, p.bind fun x e1 v H1 _ ex1 rl1 hx p1 => ⟨F, M, e1, rl1, p1.bind fun y e2 w H2 _ ex2 rl2 hy p2 => ?_⟩⟩
  cases q : opCmp op x y with
  | none => rw [q] at p2; exact p2.elim
  | some k =>
    rw [q] at p2
    refine cmp_ok (F := F) (M := M) q (.inl ((hx.ext ex2 rl1.sub).vr na)) (.inl (hy.vr nb)) ⟨k, rfl, ?_⟩
    cases k with
    | false => exact fin false H2 e2 rl2 p2
    | true =>
      show (tE X.K exc W G run) c σ H2 _
      simp only [bind_assoc] at p2
      refine ⟨F, M, e2, rl2, p2.bind fun z e3 u H3 _ ex3 rl3 hz p3 => ?_⟩
      cases ed : opCmp op' y z with
      | none => rw [ed] at p3; exact p3.elim
      | some k' =>
        rw [ed] at p3
        exact cmp_ok (F := F) (M := M) ed (.inl ((hy.ext ex3 rl2.sub).vr nb)) (.inl (hz.vr nc)) (fin k' H3 e3 rl3 p3)
theorem bind_ok {α : Type} (r : Res α) : r.bind Res.ok = r := by cases r <;> rfl
theorem sim_and (C : CtxOk T fa fd exc run n N W sc X) {a b : E} {x y : Expr} {rest : List Expr} {pos : Pos} (na : isBor a = false) (nb : isBor b = false) (ha : PE X x ((tE X.K exc W G run) a)) (hb : PE X (.BoolOp .And (y :: rest) pos) ((tE X.K exc W G run) b)) : PE X (.BoolOp .And (x :: y :: rest) pos) ((tE X.K exc W G run) (.and a b)) := by
  refine (pe_and ha hb).qimp fun σ H Q h => ?_
  obtain ⟨F, M, env, rl, p⟩ := h
  simp only [evE] at p
  refine ⟨F, M, env, rl, p.bind fun x e1 v H1 q1 ex1 rl1 hx p1 => ?_⟩
  clear q1
  have hv := hx.vr na
  cases x <;> try exact p1.elim
  rename_i k
  cases hv.blI
  refine ⟨k, rfl, ?_⟩
  cases k with
  | true => exact ⟨F, M, e1, rl1, by cases b <;> first | exact p1 | cases nb⟩
  | false => exact p1.here rl1 (by simp only [VX, VR])
theorem sim_or (C : CtxOk T fa fd exc run n N W sc X) {a b : E} {x y : Expr} {rest : List Expr} {pos : Pos} (na : isBor a = false) (nb : isBor b = false) (ha : PE X x ((tE X.K exc W G run) a)) (hb : PE X (.BoolOp .Or (y :: rest) pos) ((tE X.K exc W G run) b)) : PE X (.BoolOp .Or (x :: y :: rest) pos) ((tE X.K exc W G run) (.or a b)) := by
  refine (pe_or ha hb).qimp fun σ H Q h => ?_
  obtain ⟨F, M, env, rl, p⟩ := h
  simp only [evE] at p
  refine ⟨F, M, env, rl, p.bind fun x e1 v H1 q1 ex1 rl1 hx p1 => ?_⟩
  clear q1
  have hv := hx.vr na
  cases x <;> try exact p1.elim
  rename_i k
  cases hv.blI
  refine ⟨k, rfl, ?_⟩
  cases k with
  | false => exact ⟨F, M, e1, rl1, by cases b <;> first | exact p1 | cases nb⟩
  | true => exact p1.here rl1 (by simp only [VX, VR])
theorem sim_andT (C : CtxOk T fa fd exc run n N W sc X) {a b : E} {x y : Expr} {rest : List Expr} {pos : Pos} (ha : PT X x ((tT X.K exc W G run) a)) (hb : PW X (.BoolOp .And (y :: rest) pos) ((tT X.K exc W G run) b)) : PW X (.BoolOp .And (x :: y :: rest) pos) ((tT X.K exc W G run) (.and a b)) := by
  refine ⟨fun wh pins s σ H Q I h => (pw_and ha hb).run wh pins s σ H Q I ?_⟩
  obtain ⟨F, M, env, rl, p⟩ := h
  simp only [evE, bind_assoc, onBl_bind] at p
  rw [bind_bool] at p
  refine ⟨F, M, env, rl, p.bind fun x e1 v H1 _ ex1 rl1 hx p1 => ?_⟩
  subst hx
  cases x with
  | true => exact ⟨F, M, e1, rl1, p1⟩
  | false => exact Post.here (a := false) (R := fun (d : Bool) b _ => d = b) p1 rl1 rfl
theorem sim_orT (C : CtxOk T fa fd exc run n N W sc X) {a b : E} {x y : Expr} {rest : List Expr} {pos : Pos} (ha : PT X x ((tT X.K exc W G run) a)) (hb : PW X (.BoolOp .Or (y :: rest) pos) ((tT X.K exc W G run) b)) : PW X (.BoolOp .Or (x :: y :: rest) pos) ((tT X.K exc W G run) (.or a b)) := by
  refine ⟨fun wh pins s σ H Q I h => (pw_or ha hb).run wh pins s σ H Q I ?_⟩
  obtain ⟨F, M, env, rl, p⟩ := h
  simp only [evE, bind_assoc, onBl_bind] at p
  rw [bind_bool] at p
  refine ⟨F, M, env, rl, p.bind fun x e1 v H1 _ ex1 rl1 hx p1 => ?_⟩
  subst hx
  cases x with
  | false => exact ⟨F, M, e1, rl1, p1⟩
  | true => exact Post.here (a := true) (R := fun (d : Bool) b _ => d = b) p1 rl1 rfl
theorem sim_not (C : CtxOk T fa fd exc run n N W sc X) {a : E} {x : Expr} {pos : Pos} (na : isBor a = false) (ha : PE X x ((tE X.K exc W G run) a)) : PE X (.UnaryOp .Not x pos) ((tE X.K exc W G run) (.not a)) := by
  refine (pe_not ha).qimp fun σ H Q h => ?_
  obtain ⟨F, M, env, rl, p⟩ := h
  simp only [evE] at p
  refine ⟨F, M, env, rl, p.bind fun x e1 v H1 q1 ex1 rl1 hx p1 => ?_⟩
  clear q1
  have hv := hx.vr na
  cases x <;> try exact p1.elim
  rename_i k
  cases hv.blI
  refine ⟨k, rfl, ?_⟩
  cases k with
  | true => exact p1.here rl1 (by simp only [VX, VR, Bool.not_true])
  | false => exact p1.here rl1 (by simp only [VX, VR, Bool.not_false])
theorem sim_notT (C : CtxOk T fa fd exc run n N W sc X) {a : E} {x : Expr} {pos : Pos} (ha : PT X x ((tT X.K exc W G run) a)) : PT X (.UnaryOp .Not x pos) ((tT X.K exc W G run) (.not a)) := by
  refine (pt_not ha).qimp fun σ H Q h => ?_
  obtain ⟨F, M, env, rl, p⟩ := h
  simp only [evE, bind_assoc, onBl_bind] at p
  rw [bind_bool] at p
  refine ⟨F, M, env, rl, p.bind fun x e1 v H1 _ ex1 rl1 hx p1 => ?_⟩
  subst hx
  cases x with
  | true => exact Post.here (a := false) (R := fun (d : Bool) b _ => d = b) p1 rl1 rfl
  | false => exact Post.here (a := true) (R := fun (d : Bool) b _ => d = b) p1 rl1 rfl
theorem sim_ife (C : CtxOk T fa fd exc run n N W sc X) {t a b : E} {t' a' b' : Expr} {pos : Pos} (na : isBor a = false) (nb : isBor b = false) (ht : PT X t' ((tT X.K exc W G run) t)) (ha : PE X a' ((tE X.K exc W G run) a)) (hb : PE X b' ((tE X.K exc W G run) b)) : PE X (.IfExp t' a' b' pos) ((tE X.K exc W G run) (.ife t a b)) := by
  refine (pe_ifExp ht ha hb).qimp fun σ H Q h => ?_
  obtain ⟨F, M, env, rl, p⟩ := h
  simp only [evE, bind_bool] at p
  refine ⟨F, M, env, rl, p.bind fun x e1 v H1 _ ex1 rl1 hx p1 => ?_⟩
  subst hx
  cases x with
  | true => exact ⟨F, M, e1, rl1, by cases a <;> first | exact p1 | cases na⟩
  | false => exact ⟨F, M, e1, rl1, by cases b <;> first | exact p1 | cases nb⟩
theorem sim_val {m : E} {e : Expr} (hm : isBor m = false) (h : PE X e ((tE X.K exc W G run) m)) (he : ∀ whole, isTrue e X.env whole = (do let v ← whole; standAt e.pos; holding [v] (truthy v))) : PT X e ((tT X.K exc W G run) m) := by
  refine (pt_val h he).qimp fun σ H Q q => ?_
  obtain ⟨F, M, env, rl, p⟩ := q
  refine ⟨F, M, env, rl, p.bind fun x e1 v H1 q1 ex1 rl1 hx p1 => ?_⟩
  clear q1
  have hv := hx.vr hm
  cases x <;> try exact p1.elim
  rename_i k
  cases hv.blI
  exact ⟨k, rfl, Post.here (a := k) (R := fun (d : Bool) b _ => d = b) p1 rl1 rfl⟩
theorem sim_chn (C : CtxOk T fa fd exc run n N W sc X) {op op' : CO} {a b c : E} {l r r' : Expr} {pos : Pos} (na : isBor a = false) (nb : isBor b = false) (nc : isBor c = false) (hr : noSet r' = true) (ha : PE X l ((tE X.K exc W G run) a)) (hb : PE X r ((tE X.K exc W G run) b)) (hc : PE X r' ((tE X.K exc W G run) c)) :
    PE X (.Compare l [op.py, op'.py] [r, r'] pos) ((tE X.K exc W G run) (.chn op op' a b c)) := by
  refine (pe_chain (op_C C.hu op) (op_C C.hu op') ha hb hc (noSet_mark hr)).qimp fun σ H Q h => ?_
  obtain ⟨F, M, env, rl, p⟩ := h
  rw [← bind_ok (evE _ _ _ _)] at p
  exact chain_core C na nb nc rl p fun k H2 env' rl' p' => p'.here rl' (by simp only [VX, VR])
theorem sim_chnT (C : CtxOk T fa fd exc run n N W sc X) {op op' : CO} {a b c : E} {l r r' : Expr} {pos : Pos} (na : isBor a = false) (nb : isBor b = false) (nc : isBor c = false) (hr : noSet r' = true) (ha : PE X l ((tE X.K exc W G run) a)) (hb : PE X r ((tE X.K exc W G run) b)) (hc : PE X r' ((tE X.K exc W G run) c)) :
    PT X (.Compare l [op.py, op'.py] [r, r'] pos) ((tT X.K exc W G run) (.chn op op' a b c)) := by
  refine (pt_chain (op_C C.hu op) (op_C C.hu op') ha hb hc (noSet_mark hr)).qimp fun σ H Q h => ?_
  obtain ⟨F, M, env, rl, p⟩ := h
  exact chain_core C na nb nc rl p fun k H2 env' rl' p' => ⟨k, rfl, Post.here (a := k) (R := fun (d : Bool) b _ => d = b) p' rl' rfl⟩
end
end
end Qh

/-! Expressions, further: names, displays, items, calls, comprehensions; all of them. -/
namespace Qh
open PySem PySem.Spec PyProof.Rows L2 PySem.W
section
variable {T : Tab} {fa : Nat → Addr} {fd : Nat → FuncData} {exc : Nat → Addr} {run : Run} {n : Nat} {N : List Str} {W : WX} {sc : Scope} {X : Cx}
section
variable {G : Nat → Option D}
theorem sim_var (C : CtxOk T fa fd exc run n N W sc X) {i : Nat} {x : Str} {pos : Pos} (h : nameB N sc i x = true) : PE X (.Name x pos) ((tE X.K exc W G run) (.var i)) := by
  refine (PE.nameVar C h).qimp fun σ H Q h => ?_
  obtain ⟨F, M, env, rl, p⟩ := h
  simp only [evE] at p
  obtain ⟨d, ed, p1⟩ := p.opt
  obtain ⟨v, e, hv⟩ := rl.val ed
  exact ⟨v, e, p1.here rl hv⟩
theorem sim_bor (C : CtxOk T fa fd exc run n N W sc X) {i : Nat} {x : Str} {pos : Pos} (h : nameB N sc i x = true) : PE X (.Name x pos) ((tE X.K exc W G run) (.bor i)) := by
  refine (PE.nameVar C h).qimp fun σ H Q h => ?_
  obtain ⟨F, M, env, rl, p⟩ := h
  simp only [evE] at p
  obtain ⟨d, ed, p1⟩ := p.opt
  obtain ⟨v, e, hv⟩ := rl.bor ed
  exact ⟨v, e, p1.here rl e⟩
theorem sim_cst {d : D} {c : Const} {k : Nat} {pos : Pos} (h : cstB d c = true) : PE X (.Constant c k pos) ((tE X.K exc W G run) (.cst d)) := by
  have key : ∀ v : V, (∀ F H, VR X.K F H d v) → ∀ σ H Q, (tE X.K exc W G run) (.cst d) σ H Q → tC v σ H Q := fun v hv σ H Q h => by
    obtain ⟨F, M, env, rl, p⟩ := h
    simp only [evE] at p
    exact p.here rl (hv F H)
  cases d <;> cases c <;> simp only [cstB] at h <;> try (cases h; done)
  · exact pe_non.qimp (key .non fun _ _ => by simp only [VR])
  · have e := eq_of_beq h
    subst e
    exact pe_bl.qimp (key (.bl _) fun _ _ => by simp only [VR])
  · have e := of_decide_eq_true h
    subst e
    exact pe_int.qimp (key (.int _) fun _ _ => by simp only [VR])
  · have e := of_decide_eq_true h
    subst e
    exact pe_str.qimp (key (.str _) fun _ _ => by simp only [VR])
theorem sim_glo (C : CtxOk T fa fd exc run n N W sc X) {g : Nat} {x y : Str} {d : D} {pos : Pos} (hg : glB sc x = true) (h : T.globs[g]? = some (y, d)) (e : x = y) : PE X (.Name x pos) (tE X.K exc W (globD T) run (.glo g)) := by
  subst e
  obtain ⟨g1, g2, g3⟩ := gl_of hg
  obtain ⟨u, v, hm, r, hv⟩ := C.facts.glob g x d h
  refine (pe_glob (C.gl g1) hm r g2).qimp fun σ H Q h' => ?_
  obtain ⟨F, M, env, rl, p⟩ := h'
  simp only [evE] at p
  obtain ⟨d', ed, p1⟩ := p.opt
  have e2 : d' = d := by
    unfold globD at ed
    rw [h] at ed
    exact (Option.some.inj ed).symm
  subst e2
  exact p1.here rl (hv F H)
theorem sim_es_nil : PA X [] (tEs X.K exc W G run .nil) := pa_nil.qimp fun σ H Q h => by
  obtain ⟨F, M, env, rl, p⟩ := h
  simp only [evEs] at p
  exact p.here rl ⟨rfl, rfl⟩
theorem sim_es_cons {e : E} {es : Es} {x : Expr} {xs : List Expr} (hs : noStar x = true) (ha : PE X x ((tE X.K exc W G run) e)) (hr : PA X xs (tEs X.K exc W G run es)) : PA X (x :: xs) (tEs X.K exc W G run (.cons e es)) := by
  refine (pa_cons ha hr (star_cons hs)).qimp fun σ H Q h => ?_
  obtain ⟨F, M, env, rl, p⟩ := h
  simp only [evEs] at p
  refine ⟨F, M, env, rl, p.bind fun x e1 v H1 _ ex1 rl1 hx p1 => ⟨F, M, e1, rl1, p1.bind fun l e2 w H2 _ ex2 rl2 hl p2 => ?_⟩⟩
  exact p2.here rl2 ⟨x, l, v, w, rfl, rfl, hx.ext ex2 rl1.sub, hl⟩
theorem sim_tup {es : Es} {xs : List Expr} {k : Nat} {pos : Pos} (hb : es.noBor = true) (h : PA X xs (tEs X.K exc W G run es)) : PE X (.Tuple xs k pos) ((tE X.K exc W G run) (.tup es)) := by
  refine (pe_tup h).qimp fun σ H Q q => ?_
  obtain ⟨F, M, env, rl, p⟩ := q
  simp only [evE] at p
  refine ⟨F, M, env, rl, p.bind fun l e1 vs H1 _ ex1 rl1 hl p1 => ?_⟩
  have hv := hl.vrs hb
  split at p1
  · rename_i hz
    exact ⟨by rw [← hv.len]; exact big_line hz, fun a ha => (p1.pval rfl rl1).tup hv ha rl1.fresh⟩
  · exact p1.elim
theorem sim_lst {es : Es} {xs : List Expr} {pos : Pos} (hb : es.noBor = true) (h : PA X xs (tEs X.K exc W G run es)) : PE X (.List xs pos) ((tE X.K exc W G run) (.lst es)) := by
  refine (pe_lst h).qimp fun σ H Q q => ?_
  obtain ⟨F, M, env, rl, p⟩ := q
  simp only [evE] at p
  refine ⟨F, M, env, rl, p.bind fun l e1 vs H1 _ ex1 rl1 hl p1 => ?_⟩
  have hv := hl.vrs hb
  split at p1
  · rename_i hz
    exact ⟨by rw [← hv.len]; exact big_line hz, fun a ha => (p1.pval rfl rl1).lst hv ha rl1.fresh⟩
  · exact p1.elim
theorem sim_ix {a i : E} {v s : Expr} {pos : Pos} (hp : plainIx s = true) (ha : PE X v ((tE X.K exc W G run) a)) (hi : PE X s ((tE X.K exc W G run) i)) : PE X (.Subscript v s pos) ((tE X.K exc W G run) (.ix a i)) := by
  refine (pe_ix ix_D ha hi (plainIx_ok hp)).qimp fun σ H Q h => ?_
  obtain ⟨F, M, env, rl, p⟩ := h
  simp only [evE] at p
  refine ⟨F, M, env, rl, p.bind fun x e1 v H1 _ ex1 rl1 hx p1 => ⟨F, M, e1, rl1, p1.bind fun y e2 w H2 _ ex2 rl2 hy p2 => ?_⟩⟩
  obtain ⟨d, ed, p3⟩ := p2.opt
  unfold rd2 at ed
  split at ed
  · rename_i x' y' q1 q2
    exact ix_ok ed (hx.use ex2 rl2 q1 rl2.sub) (hy.use (Ex.refl M H2) rl2 q2 rl2.sub) fun z hz => p3.here rl2 hz
  · cases ed
theorem sim_o_none : PO X none (tOe X.K exc W G run .none) := po_none.qimp fun σ H Q h => by
  obtain ⟨F, M, env, rl, p⟩ := h
  simp only [evO] at p
  exact p.here rl rfl
theorem sim_o_some {e : E} {x : Expr} (hb : isBor e = false) (h : PE X x ((tE X.K exc W G run) e)) : PO X (some x) (tOe X.K exc W G run (.some e)) := (po_some h).qimp fun σ H Q q => by
  obtain ⟨F, M, env, rl, p⟩ := q
  simp only [evO] at p
  refine ⟨F, M, env, rl, p.bind fun x e1 v H1 q1 ex1 rl1 hx p1 => ?_⟩
  clear q1
  have hv := hx.vr hb
  cases x <;> try exact p1.elim
  rename_i k
  cases hv.intI
  exact ⟨k, rfl, Post.here (a := some k) (R := fun (d : Option Int) b _ => d = b) p1 rl1 rfl⟩
theorem sim_sl {a : E} {lo hi : Oe} {v : Expr} {l h : Option Expr} {p2 pos : Pos} (ha : PE X v ((tE X.K exc W G run) a)) (hl : PO X l (tOe X.K exc W G run lo)) (hh : PO X h (tOe X.K exc W G run hi)) : PE X (.Subscript v (.Slice l h none p2) pos) ((tE X.K exc W G run) (.sl a lo hi)) := by
  refine (pe_slice sl_D ha hl hh).qimp fun σ H Q q => ?_
  obtain ⟨F, M, env, rl, p⟩ := q
  simp only [evE] at p
  refine ⟨F, M, env, rl, p.bind fun x e1 v H1 _ ex1 rl1 hx p1 => ⟨F, M, e1, rl1, p1.bind fun y e2 w H2 _ ex2 rl2 hy p2 => ⟨F, M, e2, rl2, p2.bind fun z e3 u H3 _ ex3 rl3 hz p3 => ?_⟩⟩⟩
  subst hy hz
  obtain ⟨d, ed, p4⟩ := p3.opt
  cases q1 : rd a x e3 with
  | none => rw [q1] at ed; cases ed
  | some x' =>
    rw [q1] at ed
    exact sl_ok ed (hx.use (ex2.trans ex3) rl3 q1 rl3.sub) rl3.fresh (p4.pval rfl rl3)
theorem sim_bi (C : CtxOk T fa fd exc run n N W sc X) {b : Bi} {as : Es} {x : Str} {a : Expr} {args : List Expr} {p0 pos : Pos} (hg : glB sc x = true) (hx : x = b.py) (hb : T.blts.contains x = true) (hf : (b.fn.isSome || b.ty.isSome) = true) (hs : (a :: args).all noStar = true)
    (h : PA X (a :: args) (tEs X.K exc W G run as)) : PE X (.Call (.Name x p0) (a :: args) [] pos) ((tE X.K exc W G run) (.bi b as)) := by
  obtain ⟨g1, g2, g3⟩ := gl_of hg
  have hm := C.facts.blt x hb
  simp only [List.all_cons, Bool.and_eq_true] at hs
  have key : PE X (.Call (.Name x p0) (a :: args) [] pos) (tCB (rBi X.K b) (tEs X.K exc W G run as)) := by
    cases q : b.fn with
    | some id => exact pe_callB (call_Bi C.calm q) (C.gl g1) hm (by rw [hx]; exact boot_Bi q) h g3 g2 (star_cons hs.1) (star_any hs.2)
    | none =>
      cases q2 : b.ty with
      | some id => exact pe_callTy (call_BiT q2) (C.gl g1) hm (by rw [hx]; exact boot_BiT q2) h g3 g2 (star_cons hs.1) (star_any hs.2)
      | none => rw [q, q2] at hf; cases hf
  refine key.qimp fun σ H Q q => ?_
  obtain ⟨F, M, env, rl, p⟩ := q
  simp only [evE] at p
  refine ⟨F, M, env, rl, p.bind fun l e1 vs H1 _ ex1 rl1 hl p1 => ?_⟩
  obtain ⟨d, ed, p2⟩ := p1.opt
  cases q1 : rds as l e1 with
  | none => rw [q1] at ed; cases ed
  | some l' =>
    rw [q1] at ed
    exact bi_ok ed (hl.use rl1 q1) rl1.fresh (p2.pval rfl rl1)
theorem pe_ty (C : CtxOk T fa fd exc run n N W sc X) {t : Ty} {e : Expr} (h : tyB sc T.blts t e = true) : PE X e (tC (.ty t.py)) ∧ noStar e = true := by
  cases e <;> simp only [tyB] at h <;> try (cases h; done)
  rename_i x pos
  simp only [Bool.and_eq_true, decide_eq_true_eq] at h
  obtain ⟨g1, g2, g3⟩ := gl_of h.2.1
  exact ⟨pe_bltn (C.gl g1) (C.facts.blt x h.2.2) (by rw [h.1]; exact boot_Ty t) rfl g3 g2, rfl⟩
theorem pa_tys (C : CtxOk T fa fd exc run n N W sc X) : ∀ {ts : List Ty} {es : List Expr}, tysB sc T.blts ts es = true → PA X es (fun σ H Q => Q (ts.map fun t => V.ty t.py) H) ∧ es.all noStar = true
  | [], [], _ => ⟨pa_nil, rfl⟩
  | [], _ :: _, h => by simp only [tysB] at h; cases h
  | _ :: _, [], h => by simp only [tysB] at h; cases h
  | t :: ts, e :: es, h => by
    simp only [tysB, Bool.and_eq_true] at h
    obtain ⟨h1, s1⟩ := pe_ty C h.1
    obtain ⟨h2, s2⟩ := pa_tys C h.2
    exact ⟨(pa_cons h1 h2 (star_cons s1)).qimp fun σ H Q q => q, by simp only [List.all_cons, s1, s2, Bool.and_self]⟩
theorem boot_isi : bootBuiltins ("isinstance" : Str) = some (.builtin "isinstance") := by decide +kernel
theorem sim_isi (C : CtxOk T fa fd exc run n N W sc X) {e : E} {ts : List Ty} {x : Str} {a t : Expr} {p0 pos : Pos} (hg : glB sc x = true) (hx : x = "isinstance") (hb : T.blts.contains x = true) (hs : noStar a = true) (nb : isBor e = false) (ha : PE X a ((tE X.K exc W G run) e))
    (ht : (match t with
      | .Tuple es _ _ => decide (ts.length ≤ 10) && tysB sc T.blts ts es
      | .Name _ _ => tysB sc T.blts ts [t]
      | _ => false) = true) : PE X (.Call (.Name x p0) [a, t] [] pos) ((tE X.K exc W G run) (.isi e ts)) := by
  subst hx
  obtain ⟨g1, g2, g3⟩ := gl_of hg
  have hm := C.facts.blt _ hb
  cases t <;> simp only at ht <;> try (cases ht; done)
  · rename_i y p2
    cases ts with
    | nil => simp only [tysB] at ht; cases ht
    | cons t ts' =>
      cases ts' with
      | cons _ _ => simp only [tysB, Bool.and_false] at ht; cases ht
      | nil =>
        simp only [tysB, Bool.and_true] at ht
        obtain ⟨h1, s1⟩ := pe_ty C ht
        have hA := pa_cons ha (pa_cons h1 pa_nil (star_cons s1)) (star_cons hs)
        refine (pe_callB call_isi (C.gl g1) hm boot_isi hA g3 g2 (star_cons hs) (star_any (by simp [s1]))).qimp fun σ H Q q => ?_
        obtain ⟨F, M, env, rl, p⟩ := q
        simp only [evE] at p
        refine ⟨F, M, env, rl, p.bind fun d e1 v H1 _ ex1 rl1 hd p1 => ?_⟩
        have hv : VB X.K F M H1 d v := .inl (hd.vr nb)
        refine ⟨v, _, _, _, _, rfl, .ty _, tyx_of hv, kit_D d hv.notDct t, ?_⟩
        have e2 : ([t].any fun t => tyOf t d) = tyOf t d := by simp
        rw [e2] at p1
        exact p1.here rl1 (by simp only [VX, VR])
  · rename_i es k pos2
    simp only [Bool.and_eq_true, decide_eq_true_eq] at ht
    obtain ⟨h1, s1⟩ := pa_tys C ht.2
    have hT : PE X (.Tuple es k pos2) _ := pe_tup h1
    have hA := pa_cons ha (pa_cons hT pa_nil (star_cons rfl)) (star_cons hs)
    refine (pe_callB call_isiT (C.gl g1) hm boot_isi hA g3 g2 (star_cons hs) (star_any rfl)).qimp fun σ H Q q => ?_
    obtain ⟨F, M, env, rl, p⟩ := q
    simp only [evE] at p
    refine ⟨F, M, env, rl, p.bind fun d e1 v H1 _ ex1 rl1 hd p1 => ⟨?_, fun tp htp => ?_⟩⟩
    · rw [List.length_map]; exact big_line (Nat.le_trans ht.1 (by decide))
    · have hv : VB X.K F M (upd H1 tp (.tup (ts.map fun t => V.ty t.py))) d v := .inl ((hd.vr nb).ext (Ext.new htp) rl1.sub)
      refine ⟨v, tp, _, _, _, _, rfl, upd_same, clsv_tys ts, tyx_of hv, kit_any hv.notDct ts, ?_⟩
      exact p1 _ _ (Ext.new (M := NoM) htp).exM (rl1.ext (Ext.new (M := NoM) htp).ex) (by simp only [VX, VR])
end
theorem few_1 {e : Expr} {env : Env} {cpos : Pos} (h : noStar e = true) : ((backTo cpos (starEach [e] env)).all (fun x => !x.1) && (backToKw cpos (keywordEach [] env)).all (fun x => x.1.isSome)
      && decide ([e].length + ([] : List Keyword).length + (if ([] : List Keyword).isEmpty then 0 else 1) < 30)) = true := by
  rw [star_cons h]
  rfl
theorem VRs.one {K : PySem.W.Frag} {F : AS} {H : Hp} {ds : List D} {v : V} (h : VRs K F H ds [v]) : ∃ d, ds = [d] ∧ VR K F H d v := by
  cases ds with
  | nil => simp only [VRs] at h; cases h
  | cons d r =>
    obtain ⟨v', r', e, h1, h2⟩ := h.cons_inv
    cases e
    cases r with
    | nil => exact ⟨d, rfl, h1⟩
    | cons _ _ => obtain ⟨_, _, e, _⟩ := h2.cons_inv; cases e
theorem VRs.strs {K : PySem.W.Frag} {F : AS} {H : Hp} : ∀ ys : List Str, VRs K F H (ys.map D.str) (ys.map V.str)
  | [] => VRs.nil_iff.mpr rfl
  | y :: ys => .cons_mk (by simp only [VR]) (VRs.strs ys)
theorem opMe_split {z : Str} {l : List D} {d : D} (h : opMe .split (.str z) l = some d) : ∃ b, l = [.str b] ∧ b.length ≠ 0 ∧ z.length ≤ 50000 ∧ d = .lst ((Txt.split z b).map .str) := by
  rcases l with _ | ⟨x, _ | ⟨_, _⟩⟩
  · cases h
  · cases x <;> try (cases h; done)
    rename_i b
    have h : (if decide (b.length ≠ 0) && decide (z.length ≤ 50000) then some (D.lst ((Txt.split z b).map .str)) else none) = some d := h
    split at h
    · rename_i hb
      simp only [Bool.and_eq_true, decide_eq_true_eq] at hb
      exact ⟨b, rfl, hb.1, hb.2, (Option.some.inj h).symm⟩
    · cases h
  · cases x <;> cases h
theorem sim_me1 (C : CtxOk T fa fd exc run n N W sc X) {m : Me} {o : E} {as : Es} {ov a : Expr} {nm : Str} {ap pos : Pos} (hn : nm = m.py) (hl : (ap.endLine == pos.line) = true) (hb : mb ov = true) (h1 : m.one = true) (no : isBor o = false) (na : as.noBor = true) (hs : noStar a = true)
    (ho : PE X ov (tE X.K exc W G run o)) (ha : PA X [a] (tEs X.K exc W G run as)) : PE X (.Call (.Attribute ov nm ap) [a] [] pos) (tE X.K exc W G run (.me m o as)) := by
  subst hn
  cases m <;> try (cases h1; done)
  refine (pe_bm PySem.F.plainAttrs_str PySem.F.slot_str_split PySem.F.type_str_split mt_split ho ha (mb_ok hb) (few_1 hs) hl (star_cons hs) rfl).qimp fun σ H Q q => ?_
  obtain ⟨F, M, env, rl, p⟩ := q
  simp only [evE] at p
  refine ⟨F, M, env, rl, p.bind fun x e1 v H1 q1 ex1 rl1 hx p1 => ?_⟩
  clear q1
  have hx := hx.vr no
  have ex : ∃ z, x = .str z := by
    cases x <;> first | exact p1.elim | exact ⟨_, rfl⟩
  obtain ⟨z, rfl⟩ := ex
  simp only [VR] at hx
  subst hx
  refine ⟨rfl, F, M, e1, rl1, Post.bind (k := fun l e2 => opt ((rd o (.str z) e2).bind fun x => opMe .split x l) e2) p1 fun l e2 vs H2 q2 ex2 rl2 hv p2 => ?_⟩
  clear q2
  obtain ⟨d, ed, p3⟩ := p2.opt
  have hvs := VXs.vrs na hv
  have erd : rd o (.str z) e2 = some (.str z) := by cases o <;> first | rfl | cases no
  rw [erd] at ed
  simp only [Option.bind_some] at ed
  obtain ⟨b, rfl, hb1, hb2, rfl⟩ := opMe_split ed
  obtain ⟨u, r, rfl, h2, h3⟩ := hvs.cons_inv
  have h4 := VRs.nil_iff.mp h3
  subst h4
  simp only [VR] at h2
  subst h2
  refine ⟨_, _, rfl, rfl, beq_eq_false_iff_ne.mpr hb1, ?_, fun l hl => ?_⟩
  · rw [sizeLine_eq]
    omega
  · refine p3 _ _ (Ext.new (M := NoM) hl).exM (rl2.ext (Ext.new hl).ex) ?_
    show VR X.K F _ (.lst _) (.ref l)
    exact VR.new_lst (VRs.strs _) hl (rl2.fresh l hl)
end
end Qh

/-! Calls. -/
namespace Qh
open PySem PySem.Spec PyProof.Rows L2 PySem.W
theorem slots_mem : ∀ {avs : List AV} {i : Nat}, AV.io i ∈ avs ∨ AV.bo i ∈ avs → i ∈ AV.slots avs
  | [], _, h => by simp at h
  | .dat d :: r, i, h => by
    simp only [AV.slots]
    exact slots_mem (by simpa using h)
  | .bo k :: r, i, h => by
    simp only [AV.slots, List.mem_cons]
    by_cases e : i = k
    · exact .inl e
    · exact .inr (slots_mem (h.imp (fun z => by simpa using z) fun z => by simpa [e] using z))
  | .io k :: r, i, h => by
    simp only [AV.slots, List.mem_cons]
    by_cases e : i = k
    · exact .inl e
    · exact .inr (slots_mem (h.imp (fun z => by simpa [e] using z) fun z => by simpa using z))
theorem slots_io : ∀ {avs : List AV} {i j k : Nat}, (AV.slots avs).Nodup → avs[j]? = some (.io i) → avs[k]? = some (.io i) → j = k
  | [], _, _, _, _, h, _ => by simp at h
  | a :: r, i, 0, 0, _, _, _ => rfl
  | a :: r, i, 0, k + 1, nd, h, h' => by
    simp at h h'; subst h
    simp only [AV.slots, List.nodup_cons] at nd
    exact absurd (slots_mem (.inl (List.mem_of_getElem? h'))) nd.1
  | a :: r, i, j + 1, 0, nd, h, h' => by
    simp at h h'; subst h'
    simp only [AV.slots, List.nodup_cons] at nd
    exact absurd (slots_mem (.inl (List.mem_of_getElem? h))) nd.1
  | a :: r, i, j + 1, k + 1, nd, h, h' => by
    simp at h h'
    have nd' : (AV.slots r).Nodup := by
      cases a <;> simp only [AV.slots, List.nodup_cons] at nd <;> first | exact nd | exact nd.2
    rw [slots_io nd' h h']
theorem slots_iobo : ∀ {avs : List AV} {i : Nat}, (AV.slots avs).Nodup → AV.io i ∈ avs → AV.bo i ∈ avs → False
  | [], _, _, h, _ => by simp at h
  | .dat d :: r, i, nd, h, h' => slots_iobo (avs := r) (i := i) (by simpa only [AV.slots] using nd) (by simpa using h) (by simpa using h')
  | .bo k :: r, i, nd, h, h' => by
    simp only [AV.slots, List.nodup_cons] at nd
    have h1 : AV.io i ∈ r := by simpa using h
    rcases List.mem_cons.mp h' with e | h2
    · cases e; exact nd.1 (slots_mem (.inl h1))
    · exact slots_iobo nd.2 h1 h2
  | .io k :: r, i, nd, h, h' => by
    simp only [AV.slots, List.nodup_cons] at nd
    have h1 : AV.bo i ∈ r := by simpa using h'
    rcases List.mem_cons.mp h with e | h2
    · cases e; exact nd.1 (slots_mem (.inr h1))
    · exact slots_iobo nd.2 h2 h1
theorem putOuts_len : ∀ {avs : List AV} {outs : List Sl} {env e2 : En}, putOuts avs outs env = some e2 → e2.length = env.length
  | [], _, env, e2, h => by simp only [putOuts, Option.some.injEq] at h; rw [h]
  | .io i :: as, [], env, e2, h => by simp only [putOuts] at h; cases h
  | .io i :: as, .non :: ss, env, e2, h => by simp only [putOuts] at h; cases h
  | .io i :: as, .dat _ :: ss, env, e2, h => by simp only [putOuts] at h; cases h
  | .io i :: as, .own o :: ss, env, e2, h => by
    simp only [putOuts] at h
    split at h
    · obtain ⟨e3, q, rfl⟩ := Option.map_eq_some_iff.mp h
      rw [List.length_set, putOuts_len q]
    · cases h
  | .dat d :: as, [], env, e2, h => by simp only [putOuts] at h; cases h
  | .dat d :: as, s :: ss, env, e2, h => putOuts_len (avs := as) (outs := ss) (by simpa only [putOuts] using h)
  | .bo d :: as, [], env, e2, h => by simp only [putOuts] at h; cases h
  | .bo d :: as, s :: ss, env, e2, h => putOuts_len (avs := as) (outs := ss) (by simpa only [putOuts] using h)
theorem putOuts_at : ∀ {avs : List AV} {outs : List Sl} {env e2 : En} {i : Nat} {s : Sl}, putOuts avs outs env = some e2 → e2[i]? = some s →
    (env[i]? = some s ∧ AV.io i ∉ avs) ∨ ∃ (j : Nat) (o o' : O), avs[j]? = some (.io i) ∧ outs[j]? = some (Sl.own o) ∧ s = Sl.own o ∧ env[i]? = some (Sl.own o')
  | [], _, env, e2, i, s, h, hs => by
    simp only [putOuts, Option.some.injEq] at h
    subst h
    exact .inl ⟨hs, by simp⟩
  | .io k :: as, [], env, e2, i, s, h, hs => by simp only [putOuts] at h; cases h
  | .io k :: as, .non :: ss, env, e2, i, s, h, hs => by simp only [putOuts] at h; cases h
  | .io k :: as, .dat _ :: ss, env, e2, i, s, h, hs => by simp only [putOuts] at h; cases h
  | .io k :: as, .own o :: ss, env, e2, i, s, h, hs => by
    simp only [putOuts] at h
    split at h
    · rename_i o' ho'
      obtain ⟨e3, q, rfl⟩ := Option.map_eq_some_iff.mp h
      have hk := En.at_of ho' (fun z => nomatch z)
      by_cases e : k = i
      · subst e
        have hl : k < e3.length := by
          rw [putOuts_len q]
          exact (List.getElem?_eq_some_iff.mp hk).1
        rw [List.getElem?_set_self hl] at hs
        exact .inr ⟨0, o, o', rfl, rfl, (Option.some.inj hs).symm, hk⟩
      · rw [List.getElem?_set_ne e] at hs
        rcases putOuts_at q hs with ⟨h1, h2⟩ | ⟨j, p, p', h1, h2, h3, h4⟩
        · exact .inl ⟨h1, fun z => by
            rcases List.mem_cons.mp z with z | z
            · cases z; exact e rfl
            · exact h2 z⟩
        · exact .inr ⟨j + 1, p, p', by simpa using h1, by simpa using h2, h3, h4⟩
    · cases h
  | .dat d :: as, [], env, e2, i, s, h, hs => by simp only [putOuts] at h; cases h
  | .dat d :: as, t :: ss, env, e2, i, s, h, hs => by
    rcases putOuts_at (avs := as) (outs := ss) (by simpa only [putOuts] using h) hs with ⟨h1, h2⟩ | ⟨j, p, p', h1, h2, h3, h4⟩
    · exact .inl ⟨h1, by simpa using h2⟩
    · exact .inr ⟨j + 1, p, p', by simpa using h1, by simpa using h2, h3, h4⟩
  | .bo d :: as, [], env, e2, i, s, h, hs => by simp only [putOuts] at h; cases h
  | .bo d :: as, t :: ss, env, e2, i, s, h, hs => by
    rcases putOuts_at (avs := as) (outs := ss) (by simpa only [putOuts] using h) hs with ⟨h1, h2⟩ | ⟨j, p, p', h1, h2, h3, h4⟩
    · exact .inl ⟨h1, by simpa using h2⟩
    · exact .inr ⟨j + 1, p, p', by simpa using h1, by simpa using h2, h3, h4⟩
section
variable {K : PySem.W.Frag} {F M : AS} {σ : SS} {H H' : Hp}
theorem VA.len : ∀ {avs : List AV} {vs : List V}, VA K F σ avs vs H → avs.length = vs.length
  | [], _, h => by simp only [VA] at h; subst h; rfl
  | a :: as, _, h => by
    simp only [VA] at h
    obtain ⟨v, u, rfl, _, h2⟩ := h
    simp only [List.length_cons, VA.len h2]
theorem VA.at_ : ∀ {avs : List AV} {vs : List V} {j : Nat} {a : AV}, VA K F σ avs vs H → avs[j]? = some a → ∃ v, vs[j]? = some v ∧ (match a with
    | .dat d => VR K F H d v
    | .bo i => σ[i]? = some (some v)
    | .io i => σ[i]? = some (some v))
  | [], _, _, _, _, e => by simp at e
  | b :: as, _, 0, a, h, e => by
    simp only [VA] at h
    obtain ⟨v, u, rfl, h1, _⟩ := h
    simp at e; subst e
    exact ⟨v, rfl, h1⟩
  | b :: as, _, j + 1, a, h, e => by
    simp only [VA] at h
    obtain ⟨v, u, rfl, _, h2⟩ := h
    obtain ⟨w, h3, h4⟩ := VA.at_ (j := j) h2 (by simpa using e)
    exact ⟨w, by simpa using h3, h4⟩
theorem VA.ext : ∀ {avs : List AV} {vs : List V}, VA K F σ avs vs H → Ex M H H' → (∀ a, M a → F a) → VA K F σ avs vs H'
  | [], _, h, _, _ => h
  | a :: as, _, h, ex, s => by
    simp only [VA] at h ⊢
    obtain ⟨v, u, e, h1, h2⟩ := h
    refine ⟨v, u, e, ?_, VA.ext h2 ex s⟩
    cases a with
    | dat d => exact VR.ext h1 ex.toExt s
    | bo i => exact h1
    | io i => exact h1
theorem OR.less {F' : AS} {o : O} {a : Addr} (h : OR K F H o a) (s : ∀ a, F' a → F a) : OR K F' H o a := by
  cases o with
  | lst ds => obtain ⟨vs, q, r⟩ := h; exact ⟨vs, q, r.less s⟩
  | dct ks vs => exact h
  | ins c fs => exact h
theorem OR.notTup {o : O} {a : Addr} (h : OR K F H o a) : NotTup H a := by
  cases o with
  | lst ds => obtain ⟨vs, q, r⟩ := h; exact ⟨_, q, fun _ z => nomatch z⟩
  | dct ks vs => exact h.elim
  | ins c fs => exact h.elim
def lent (σ : SS) (env : En) (avs : List AV) : AS := fun a => ∃ (i : Nat) (o : O), AV.bo i ∈ avs ∧ env[i]? = some (Sl.own o) ∧ σ[i]? = some (some (V.ref a))
def given (σ : SS) (env : En) (avs : List AV) : AS := fun a => ∃ (i : Nat) (o : O), AV.io i ∈ avs ∧ env[i]? = some (Sl.own o) ∧ σ[i]? = some (some (V.ref a))
theorem Rel.given_sub {env : En} (r : Rel K F M env σ H) {avs : List AV} : ∀ a, given σ env avs a → M a := fun a ⟨i, o, _, h2, h3⟩ => by
  obtain ⟨b, e, m, _⟩ := r.own i o h2
  rw [h3] at e; cases e
  exact m
/-- the callee's view of its arguments -/
theorem Rel.args {env : En} (r : Rel K F M env σ H) {avs : List AV} {vs : List V} (nd : (AV.slots avs).Nodup) (hv : VA K F σ avs vs H) :
    Rel K (fun a => F a ∧ ¬ lent σ env avs a) (given σ env avs) (avs.map (AV.sl env)) (vs.map some) H where
  len := by rw [List.length_map, List.length_map, hv.len]
  dat := fun j d h => by
    rw [List.getElem?_map] at h
    cases q : avs[j]? with
    | none => rw [q] at h; cases h
    | some a =>
      rw [q] at h
      obtain ⟨v, e, k⟩ := hv.at_ q
      refine ⟨v, by rw [List.getElem?_map, e]; rfl, ?_⟩
      cases a with
      | dat x => cases h; exact VR.less k fun a z => z.1
      | bo i =>
        have h2 : AV.sl env (.bo i) = .dat d := Option.some.inj h
        simp only [AV.sl] at h2
        cases q2 : (env.at i).bor with
        | none => rw [q2] at h2; cases h2
        | some x =>
          rw [q2] at h2; cases h2
          cases q3 : env.at i with
          | non => rw [q3] at q2; cases q2
          | dat x => rw [q3] at q2; cases q2
          | own o =>
            rw [q3] at q2
            have h4 := En.at_of q3 (fun z => nomatch z)
            obtain ⟨a, e2, m, k2⟩ := r.own i o h4
            have e3 : σ[i]? = some (some v) := k
            rw [e2] at e3; cases e3
            cases o with
            | lst l =>
              cases q2
              obtain ⟨ws, e4, e5⟩ := k2
              simp only [VR]
              exact ⟨a, ws, rfl, fun z => z.2 ⟨i, _, List.mem_of_getElem? q, h4, e2⟩, e4, e5.less fun a z => z.1⟩
            | dct ks vs => exact k2.elim
            | ins c fs => cases q2
      | io i =>
        have h2 : env.at i = .dat d := Option.some.inj h
        obtain ⟨u, e2, k2⟩ := r.dat i d (En.at_of h2 (fun z => nomatch z))
        have e3 : σ[i]? = some (some v) := k
        rw [e2] at e3; cases e3
        exact k2.less fun a z => z.1
  own := fun j o h => by
    rw [List.getElem?_map] at h
    cases q : avs[j]? with
    | none => rw [q] at h; cases h
    | some a =>
      rw [q] at h
      obtain ⟨v, e, k⟩ := hv.at_ q
      cases a with
      | dat x => cases h
      | bo i =>
        have h2 : AV.sl env (.bo i) = .own o := Option.some.inj h
        simp only [AV.sl] at h2
        split at h2 <;> cases h2
      | io i =>
        have h2 : env.at i = .own o := Option.some.inj h
        have h4 := En.at_of h2 (fun z => nomatch z)
        obtain ⟨a, e2, m, k2⟩ := r.own i o h4
        have e3 : σ[i]? = some (some v) := k
        rw [e2] at e3; cases e3
        exact ⟨a, by rw [List.getElem?_map, e]; rfl, ⟨i, o, List.mem_of_getElem? q, h4, e2⟩, k2.less fun a z => z.1⟩
  apart := fun j k o o' a h h' hs hs' => by
    have key : ∀ (j : Nat) (o : O), (avs.map (AV.sl env))[j]? = some (Sl.own o) → (vs.map some)[j]? = some (some (V.ref a)) → ∃ i, avs[j]? = some (.io i) ∧ env[i]? = some (Sl.own o) ∧ σ[i]? = some (some (V.ref a)) := fun j o h hs => by
      rw [List.getElem?_map] at h hs
      cases q : avs[j]? with
      | none => rw [q] at h; cases h
      | some b =>
        rw [q] at h
        obtain ⟨v, e, k⟩ := hv.at_ q
        rw [e] at hs
        cases b with
        | dat x => cases h
        | bo i =>
          have h2 : AV.sl env (.bo i) = .own o := Option.some.inj h
          simp only [AV.sl] at h2
          split at h2 <;> cases h2
        | io i =>
          have h2 : env.at i = .own o := Option.some.inj h
          have e3 : σ[i]? = some (some v) := k
          have e4 : v = V.ref a := Option.some.inj (Option.some.inj hs)
          rw [e4] at e3
          exact ⟨i, rfl, En.at_of h2 (fun z => nomatch z), e3⟩
    obtain ⟨i, h1, h2, h3⟩ := key j o h hs
    obtain ⟨i', g1, g2, g3⟩ := key k o' h' hs'
    have e := r.apart i i' o o' a h2 g2 h3 g3
    subst e
    exact slots_io nd h1 g1
  sub := fun a h => by
    obtain ⟨i, o, h1, h2, h3⟩ := h
    refine ⟨r.sub a (r.given_sub a ⟨i, o, h1, h2, h3⟩), fun ⟨i', o', g1, g2, g3⟩ => ?_⟩
    have e := r.apart i i' o o' a h2 g2 h3 g3
    subst e
    exact slots_iobo nd h1 g1
  there := fun a h => r.there a h.1
theorem anyB_lent {env : En} {avs : List AV} (h : avs.any AV.isB = false) : ∀ a, ¬ lent σ env avs a := fun a ⟨i, o, h1, _⟩ => by
  rw [List.any_eq_false] at h
  exact absurd rfl (h _ h1)
/-- behind the call -/
theorem Rel.back {env e2 : En} (r : Rel K F M env σ H) {avs : List AV} {vs : List V} {outs : List Sl} (nd : (AV.slots avs).Nodup) (hv : VA K F σ avs vs H) (hc : callEnd avs outs env = some e2) (ex : Ex (given σ env avs) H H')
    (r' : Rel K (fun a => F a ∧ ¬ lent σ env avs a) (given σ env avs) outs (vs.map some) H') : Rel K F M e2 σ H' ∧ ∀ d v, (avs.any AV.isB && !d.flat) = false → VR K (fun a => F a ∧ ¬ lent σ env avs a) H' d v → VR K F H' d v := by
  have hg : ∀ a, given σ env avs a → F a := fun a z => r.sub a (r.given_sub a z)
  have hl : ∀ a, F a → ¬ (F a ∧ ¬ lent σ env avs a) → ∃ vs, H' a = some (.lst vs) := fun a f n => by
    have l : lent σ env avs a := Classical.byContradiction fun z => n ⟨f, z⟩
    obtain ⟨i, o, h1, h2, h3⟩ := l
    obtain ⟨b, e, m, k⟩ := r.own i o h2
    rw [h3] at e; cases e
    cases o with
    | lst ds =>
      obtain ⟨ws, q, _⟩ := k
      refine ⟨ws, ex.keep a _ q fun ⟨i', o', g1, g2, g3⟩ => ?_⟩
      have e := r.apart i i' _ o' a h2 g2 h3 g3
      subst e
      exact slots_iobo nd g1 h1
    | dct ks vs => exact k.elim
    | ins c fs => exact k.elim
  unfold callEnd at hc
  split at hc
  · cases hc
  · rename_i hb
    have hb' : avs.any AV.isB = true → outs.all Sl.flat = true := fun z => by
      simp only [z, Bool.true_and, Bool.not_eq_true', Bool.not_eq_false] at hb
      simpa using hb
    refine ⟨⟨by rw [putOuts_len hc]; exact r.len, fun i d h => ?_, fun i o h => ?_, fun i j o o' a h h' hs hs' => ?_, r.sub, fun a f => ex.nt a (r.there a f)⟩, fun d v z k => ?_⟩
    · rcases putOuts_at hc h with ⟨h1, h2⟩ | ⟨j, o, o', _, _, h3, _⟩
      · obtain ⟨v, e, k⟩ := r.dat i d h1
        exact ⟨v, e, k.ext ex.toExt hg⟩
      · cases h3
    · rcases putOuts_at hc h with ⟨h1, h2⟩ | ⟨j, o2, o', h1, h2, h3, h4⟩
      · obtain ⟨a, e, m, k⟩ := r.own i o h1
        refine ⟨a, e, m, k.ext (fun ⟨i', o', g1, g2, g3⟩ => ?_) ex.toExt hg⟩
        have e' := r.apart i i' o o' a h1 g2 e g3
        subst e'
        exact h2 g1
      · cases h3
        obtain ⟨v, e, k⟩ := hv.at_ h1
        obtain ⟨a, e2, m, k2⟩ := r'.own j o h2
        rw [List.getElem?_map, e] at e2
        have e4 : v = V.ref a := Option.some.inj (Option.some.inj e2)
        subst e4
        refine ⟨a, k, r.given_sub a m, ?_⟩
        cases q : avs.any AV.isB with
        | false => exact k2.less fun a f => ⟨f, anyB_lent q a⟩
        | true =>
          have hf := List.all_eq_true.mp (hb' q) _ (List.mem_of_getElem? h2)
          cases o with
          | lst ds =>
            obtain ⟨ws, q2, r2⟩ := k2
            exact ⟨ws, q2, VRs.flat hl ds ws hf r2⟩
          | dct ks vs => cases hf
          | ins c fs => cases hf
    · have key : ∀ (i : Nat) (o : O), e2[i]? = some (Sl.own o) → ∃ o', env[i]? = some (Sl.own o') := fun i o h => by
        rcases putOuts_at hc h with ⟨h1, _⟩ | ⟨_, _, o', _, _, _, h4⟩
        · exact ⟨o, h1⟩
        · exact ⟨o', h4⟩
      obtain ⟨p, hp⟩ := key i o h
      obtain ⟨p', hp'⟩ := key j o' h'
      exact r.apart i j p p' a hp hp' hs hs'
    · cases q : avs.any AV.isB with
      | false => exact k.less fun a f => ⟨f, anyB_lent q a⟩
      | true =>
        rw [q] at z
        exact VR.flat hl d v (by simpa using z) k
end
section
variable {T : Tab} {fa : Nat → Addr} {fd : Nat → FuncData} {exc : Nat → Addr} {run : Run} {n : Nat} {N : List Str} {W : WX} {sc : Scope} {X : Cx}
variable {G : Nat → Option D}
theorem sim_as_nil : PA X [] (tAs X.K exc W G run .nil) := pa_nil.qimp fun σ H Q h => by
  obtain ⟨F, M, env, rl, p⟩ := h
  simp only [evAs] at p
  exact p.here rl (by simp only [VA])
theorem sim_as_val {e : E} {es : As} {x : Expr} {xs : List Expr} (hs : noStar x = true) (ha : PE X x ((tE X.K exc W G run) e)) (hr : PA X xs (tAs X.K exc W G run es)) : PA X (x :: xs) (tAs X.K exc W G run (.val e es)) := by
  refine (pa_cons ha hr (star_cons hs)).qimp fun σ H Q h => ?_
  obtain ⟨F, M, env, rl, p⟩ := h
  simp only [evAs] at p
  refine ⟨F, M, env, rl, p.bind fun x e1 v H1 _ ex1 rl1 hx p1 => ⟨F, M, e1, rl1, p1.bind fun l e2 w H2 _ ex2 rl2 hl p2 => ?_⟩⟩
  refine p2.here rl2 ?_
  simp only [VA]
  refine ⟨v, w, rfl, ?_, hl⟩
  cases e <;> first | exact hx | exact VR.ext hx ex2.toExt rl1.sub
theorem sim_as_io (C : CtxOk T fa fd exc run n N W sc X) {i : Nat} {es : As} {x : Str} {p0 : Pos} {xs : List Expr} (h : nameB N sc i x = true) (hr : PA X xs (tAs X.K exc W G run es)) : PA X (.Name x p0 :: xs) (tAs X.K exc W G run (.io i es)) := by
  refine (pa_cons (PE.nameVar C h) hr (star_cons rfl)).qimp fun σ H Q h => ?_
  obtain ⟨F, M, env, rl, p⟩ := h
  simp only [evAs] at p
  cases q : env.at i with
  | non => rw [q] at p; exact p.elim
  | dat d => rw [q] at p; exact p.elim
  | own o =>
    rw [q] at p
    obtain ⟨a, e, _, _⟩ := rl.own i o (En.at_of q (fun z => nomatch z))
    refine ⟨V.ref a, e, F, M, env, rl, p.bind fun l e1 w H1 _ ex1 rl1 hl p1 => ?_⟩
    refine p1.here rl1 ?_
    simp only [VA]
    exact ⟨_, w, rfl, e, hl⟩
theorem pe_callS0 {CX : CXT} {k : Nat} {f : Addr} {fd : FuncData} {ps : List Str} {sp : Sp} {E : SS → XK} {x : Str} {p pos : Pos} (F : FnOk X.prog X.w X.K X.mg X.base CX k f fd ps sp) (hr : Room k X.A) (hg : Gl X x) (hm : X.mg x = some (.ref f)) (hk : PySem.W.keepIn X.K (.ref f) = true) (hb : Binds X.K fd ps [])
    (hx : ∀ σ, PassesAt CX X σ (E σ)) (hdb : (x == ("__debug__" : Str)) = false) : PE X (.Call (.Name x p) [] [] pos) (tCallS sp E tNil) := by
  refine ⟨fun pins s σ H Q I h => ?_⟩
  refine wpAny_Call_Name_kw (ld_glob I hg hm ?_ hdb)
  exact PySem.W.callWith_K0 I.kIn hk (run_fnS (us := []) F hr hb (hx σ) I .nil h)
theorem call_end {f : Nat} {as : As} {avs : List AV} {vs : List V} {e1 : En} {σ : SS} {H1 : Hp} {F M : AS} {Q : VK} (rl1 : Rel X.K F M e1 σ H1) (hv : VA X.K F σ avs vs H1)
    (p1 : Post X.K exc W F M σ H1 (VX X.K F σ (.call f as)) (if !AV.apart avs then .bad else match run f (avs.map (AV.sl e1)) with
    | .ok d outs => (match callEnd avs outs e1 with
      | some e2 => if avs.any AV.isB && !d.flat then .bad else .ok d e2
      | none => .bad)
    | .exc x outs => (match callEnd avs outs e1 with
      | some e2 => .exc x e2
      | none => .bad)
    | .bad => .bad) Q) : spF X.K exc run f vs H1 Q (WE W σ) := by
  split at p1
  · exact p1.elim
  · rename_i hap
    have nd : (AV.slots avs).Nodup := by
      unfold AV.apart at hap
      simpa using hap
    refine ⟨_, _, _, rl1.args nd hv, ?_⟩
    cases q : run f (avs.map (AV.sl e1)) with
    | bad => rw [q] at p1; exact p1.elim
    | ok d outs =>
      rw [q] at p1
      intro v H2 ex2 rl2 hvr
      simp only at p1
      split at p1
      · rename_i e2 hc
        obtain ⟨rl3, hd⟩ := rl1.back nd hv hc ex2 rl2
        split at p1
        · exact p1.elim
        · rename_i hfl
          exact p1 v H2 (ex2.mono fun a z => rl1.given_sub a z) rl3 (hd d v (by simpa using hfl) hvr)
      · exact p1.elim
    | exc x outs =>
      rw [q] at p1
      intro cls dd H2 ex2 rl2 hxr
      simp only at p1
      split at p1
      · rename_i e2 hc
        obtain ⟨rl3, _⟩ := rl1.back nd hv hc ex2 rl2
        exact p1 cls dd H2 (ex2.mono fun a z => rl1.given_sub a z) rl3 hxr
      · exact p1.elim
theorem sim_call (C : CtxOk T fa fd exc run n N W sc X) {f : Nat} {i : FnI} {as : As} {x : Str} {a : Expr} {args : List Expr} {p0 pos : Pos} (hg : glB sc x = true) (hf : T.fns[f]? = some i) (hx : x = i.name) (hs : (a :: args).all noStar = true)
    (h : PA X (a :: args) (tAs X.K exc W G run as)) : PE X (.Call (.Name x p0) (a :: args) [] pos) ((tE X.K exc W G run) (.call f as)) := by
  subst hx
  obtain ⟨g1, g2, g3⟩ := gl_of hg
  obtain ⟨hm, hk, hb⟩ := C.facts.fn f i hf
  simp only [List.all_cons, Bool.and_eq_true] at hs
  refine (pe_callS (C.ok f i hf) C.room (C.gl g1) hm hk hb (fun σ => passAt C.tk σ) h g2 (star_cons hs.1) (star_any hs.2)).qimp fun σ H Q q => ?_
  obtain ⟨F, M, env, rl, p⟩ := q
  simp only [evE] at p
  exact ⟨F, M, env, rl, p.bind fun avs e1 vs H1 _ ex1 rl1 hv p1 => call_end rl1 hv p1⟩
theorem sim_call0 (C : CtxOk T fa fd exc run n N W sc X) {f : Nat} {i : FnI} {x : Str} {p0 pos : Pos} (hg : glB sc x = true) (hf : T.fns[f]? = some i) (hx : x = i.name) : PE X (.Call (.Name x p0) [] [] pos) ((tE X.K exc W G run) (.call f .nil)) := by
  subst hx
  obtain ⟨g1, g2, g3⟩ := gl_of hg
  obtain ⟨hm, hk, hb⟩ := C.facts.fn f i hf
  refine (pe_callS0 (C.ok f i hf) C.room (C.gl g1) hm hk hb (fun σ => passAt C.tk σ) g2).qimp fun σ H Q q => ?_
  obtain ⟨F, M, env, rl, p⟩ := q
  simp only [evE, evAs, Res.bind] at p
  exact call_end (avs := []) rl (by simp only [VA]) p
end
end Qh

/-! Targets, what is walked, comprehensions. -/
namespace Qh
open PySem PySem.Spec PyProof.Rows L2 PySem.W
/-! ### targets -/
mutual
def tgT (K : PySem.W.Frag) : Tg → TG
  | .nm i => gName i
  | .tp gs => gTup K gs.len (tgTs K gs)
def tgTs (K : PySem.W.Frag) : Tgs → TGs
  | .nil => gNil
  | .cons g gs => gCons (tgT K g) (tgTs K gs)
def Tgs.len : Tgs → Nat
  | .nil => 0
  | .cons _ gs => gs.len + 1
end
/-- objects of one's own stay where they are -/
def Hold (env : En) (σ : SS) (env' : En) (σ' : SS) : Prop := ∀ (j : Nat) (o : O), env[j]? = some (Sl.own o) → (∃ o', env'[j]? = some (Sl.own o')) ∧ σ'[j]? = σ[j]?
theorem Hold.refl (env : En) (σ : SS) : Hold env σ env σ := fun _ o h => ⟨⟨o, h⟩, rfl⟩
theorem Hold.trans {e1 e2 e3 : En} {s1 s2 s3 : SS} (a : Hold e1 s1 e2 s2) (b : Hold e2 s2 e3 s3) : Hold e1 s1 e3 s3 := fun j o h => by
  obtain ⟨⟨o', h'⟩, q⟩ := a j o h
  obtain ⟨h2, q2⟩ := b j o' h'
  exact ⟨h2, q2.trans q⟩
section
variable {K : PySem.W.Frag} {F M : AS} {σ : SS} {H H' : Hp}
theorem Rel.set {env : En} (r : Rel K F M env σ H) {i : Nat} {d : D} {v : V} (hv : VR K F H d v) (hn : ∀ o, env[i]? ≠ some (Sl.own o)) : Rel K F M (env.set i (.dat d)) (σ.set i (some v)) H where
  len := by rw [List.length_set, List.length_set]; exact r.len
  dat := fun j x h => by
    by_cases e : i = j
    · subst e
      have hl : i < env.length := by
        have := (List.getElem?_eq_some_iff.mp h).1
        rwa [List.length_set] at this
      rw [List.getElem?_set_self hl] at h
      cases h
      exact ⟨v, List.getElem?_set_self (by rw [← r.len]; exact hl), hv⟩
    · rw [List.getElem?_set_ne e] at h
      rw [List.getElem?_set_ne e]
      exact r.dat j x h
  own := fun j o h => by
    by_cases e : i = j
    · subst e
      have hl : i < env.length := by
        have := (List.getElem?_eq_some_iff.mp h).1
        rwa [List.length_set] at this
      rw [List.getElem?_set_self hl] at h
      cases h
    · rw [List.getElem?_set_ne e] at h
      rw [List.getElem?_set_ne e]
      exact r.own j o h
  apart := fun j k o o' a h h' hs hs' => by
    have key : ∀ (j : Nat) (o : O), (env.set i (.dat d))[j]? = some (Sl.own o) → i ≠ j := fun j o h e => by
      subst e
      have hl : i < env.length := by
        have := (List.getElem?_eq_some_iff.mp h).1
        rwa [List.length_set] at this
      rw [List.getElem?_set_self hl] at h
      cases h
    have e1 := key j o h
    have e2 := key k o' h'
    rw [List.getElem?_set_ne e1] at h hs
    rw [List.getElem?_set_ne e2] at h' hs'
    exact r.apart j k o o' a h h' hs hs'
  sub := r.sub
  there := r.there
theorem wipe_set {σ : SS} {x : Option V} {i : Nat} : ∀ {vs : List Nat}, i ∈ vs → wipe (σ.set i x) vs = wipe σ vs
  | [], h => by simp at h
  | v :: vs, h => by
    unfold wipe
    by_cases e : i ∈ vs
    · rw [wipe_set e]
    · have e2 : i = v := by rcases List.mem_cons.mp h with z | z <;> first | exact z | exact absurd z e
      subst e2
      have key : ∀ vs : List Nat, i ∉ vs → wipe (σ.set i x) vs = (wipe σ vs).set i x := by
        intro vs
        induction vs with
        | nil => intro _; rfl
        | cons w vs ih =>
          intro hn
          simp only [List.mem_cons, not_or] at hn
          unfold wipe
          rw [ih hn.2, List.set_comm _ _ hn.1]
      rw [key vs e, List.set_set]
mutual
theorem asg_ok : ∀ (g : Tg) (d : D) (env env' : En) (v : V) (σ : SS) (Q : SS → Hp → Prop), asgT g d env = some env' → Rel K F M env σ H → VR K F H d v →
    (∀ σ', Rel K F M env' σ' H → Hold env σ env' σ' → (∀ vs : List Nat, (∀ i ∈ g.slots, i ∈ vs) → wipe σ' vs = wipe σ vs) → Q σ' H) → tgT K g v σ H Q
  | .nm i, d, env, env', v, σ, Q, h, r, hv, q => by
    simp only [asgT] at h
    have key : (∀ o, env[i]? ≠ some (Sl.own o)) ∧ env' = env.set i (.dat d) := by
      split at h
      · cases h
      · rename_i hn
        cases h
        refine ⟨fun o e => hn o ?_, rfl⟩
        unfold En.at
        rw [List.getD_eq_getElem?_getD, e]
        rfl
    obtain ⟨hn, rfl⟩ := key
    simp only [tgT]
    refine q _ (r.set hv hn) (fun j o e => ?_) fun vs hs => wipe_set (hs i (by simp [Tg.slots]))
    have ne : i ≠ j := fun z => by subst z; exact hn o e
    exact ⟨⟨o, by rw [List.getElem?_set_ne ne]; exact e⟩, List.getElem?_set_ne ne⟩
  | .tp gs, d, env, env', v, σ, Q, h, r, hv, q => by
    simp only [asgT] at h
    split at h
    · rename_i l
      obtain ⟨a, vs, rfl, t, rr⟩ := hv.tupT
      simp only [tgT]
      obtain ⟨hl, key⟩ := asgs_ok gs l env env' vs σ Q h r rr q
      exact ⟨a, vs, rfl, t, hl, key⟩
    · cases h
theorem asgs_ok : ∀ (gs : Tgs) (ds : List D) (env env' : En) (vs : List V) (σ : SS) (Q : SS → Hp → Prop), asgTs gs ds env = some env' → Rel K F M env σ H → VRs K F H ds vs →
    (∀ σ', Rel K F M env' σ' H → Hold env σ env' σ' → (∀ vs : List Nat, (∀ i ∈ gs.slots, i ∈ vs) → wipe σ' vs = wipe σ vs) → Q σ' H) → vs.length = gs.len ∧ tgTs K gs vs σ H Q
  | .nil, [], env, env', vs, σ, Q, h, r, hv, q => by
    have e := VRs.nil_iff.mp hv
    subst e
    simp only [asgTs, Option.some.injEq] at h
    subst h
    simp only [tgTs, Tgs.len]
    exact ⟨rfl, rfl, q σ r (Hold.refl _ _) fun _ _ => rfl⟩
  | .nil, d :: ds, env, env', vs, σ, Q, h, r, hv, q => by simp only [asgTs] at h; cases h
  | .cons g gs, [], env, env', vs, σ, Q, h, r, hv, q => by simp only [asgTs] at h; cases h
  | .cons g gs, d :: ds, env, env', vs, σ, Q, h, r, hv, q => by
    obtain ⟨v, u, rfl, h1, h2⟩ := hv.cons_inv
    simp only [asgTs] at h
    cases q1 : asgT g d env with
    | none => rw [q1] at h; cases h
    | some e1 =>
      rw [q1] at h
      have h' : asgTs gs ds e1 = some env' := h
      have len : u.length = gs.len := by
        rw [← h2.len]
        exact asgs_len gs ds e1 env' h'
      refine ⟨by simp only [List.length_cons, Tgs.len, len], ?_⟩
      simp only [tgTs]
      refine ⟨v, u, rfl, asg_ok g d env e1 v σ _ q1 r h1 fun σ1 r1 k1 w1 => (asgs_ok gs ds e1 env' u σ1 Q h' r1 h2 fun σ2 r2 k2 w2 => q σ2 r2 (k1.trans k2) fun vs hs => ?_).2⟩
      rw [w2 vs fun i hi => hs i (by simp only [Tgs.slots, List.mem_append]; exact .inr hi), w1 vs fun i hi => hs i (by simp only [Tgs.slots, List.mem_append]; exact .inl hi)]
theorem asgs_len : ∀ (gs : Tgs) (ds : List D) (env env' : En), asgTs gs ds env = some env' → ds.length = gs.len
  | .nil, [], _, _, _ => by simp only [Tgs.len, List.length_nil]
  | .nil, _ :: _, _, _, h => by simp only [asgTs] at h; cases h
  | .cons _ _, [], _, _, h => by simp only [asgTs] at h; cases h
  | .cons g gs, d :: ds, env, env', h => by
    simp only [asgTs] at h
    cases q1 : asgT g d env with
    | none => rw [q1] at h; cases h
    | some e1 =>
      rw [q1] at h
      simp only [List.length_cons, Tgs.len, asgs_len gs ds e1 env' h]
end
end
/-- what a name's storing asks of the context -/
def StoreOk (N : List Str) (sc : Scope) (X : Cx) : Prop := ∀ (i : Nat) (x : Str), locB N sc i x = true → X.N[i]? = some x ∧ Loc X.env.scope x ∧ (X.fn x = true ∨ X.env.scope.names.lookup x = some .local)
theorem asE_cons {e : Expr} {es : List Expr} {env : Env} (h : noStar e = true) : assignEach (e :: es) env = (false, assign e env) :: assignEach es env := by
  cases e <;> first | rfl | cases h
section
variable {T : Tab} {N : List Str} {sc : Scope} {X : Cx}
theorem chkTg_noStar {g : Tg} {e : Expr} (h : chkTg T N sc g e = true) : noStar e = true := by
  cases e <;> first | rfl | (cases g <;> simp only [chkTg] at h <;> cases h)
theorem chkTgs_each {env : Env} : ∀ {gs : Tgs} {es : List Expr}, chkTgs T N sc gs es = true → (assignEach es env).length = gs.len ∧ (assignEach es env).findIdx? (·.1) = none
  | .nil, [], _ => ⟨rfl, rfl⟩
  | .nil, _ :: _, h => by simp only [chkTgs] at h; cases h
  | .cons _ _, [], h => by simp only [chkTgs] at h; cases h
  | .cons g gs, e :: es, h => by
    simp only [chkTgs, Bool.and_eq_true] at h
    obtain ⟨h1, h2⟩ := chkTgs_each (env := env) h.2
    rw [asE_cons (chkTg_noStar h.1)]
    refine ⟨by rw [List.length_cons, h1, Tgs.len], ?_⟩
    rw [List.findIdx?_cons, h2]
    rfl
mutual
theorem sim_tg (hN : X.N.Nodup) (hc : X.calm = true) (hs : StoreOk N sc X) : ∀ (g : Tg) (e : Expr), chkTg T N sc g e = true → PG X e (tgT X.K g)
  | .nm i, e, h => by
    cases e <;> simp only [chkTg] at h <;> try (cases h; done)
    rename_i x pos
    obtain ⟨h1, h2, h3⟩ := hs i x h
    simp only [tgT]
    exact pg_name hN h1 h2 h3
  | .tp gs, e, h => by
    cases e <;> simp only [chkTg] at h <;> try (cases h; done)
    simp only [tgT]
    exact pg_tup hc (sim_tgs hN hc hs gs _ h) (chkTgs_each h).1 (chkTgs_each h).2
theorem sim_tgs (hN : X.N.Nodup) (hc : X.calm = true) (hs : StoreOk N sc X) : ∀ (g : Tgs) (e : List Expr), chkTgs T N sc g e = true → PGs X e (tgTs X.K g)
  | .nil, [], _ => by simp only [tgTs]; exact pgs_nil
  | .nil, _ :: _, h => by simp only [chkTgs] at h; cases h
  | .cons _ _, [], h => by simp only [chkTgs] at h; cases h
  | .cons g gs, e :: es, h => by
    simp only [chkTgs, Bool.and_eq_true] at h
    simp only [tgTs]
    exact pgs_cons (sim_tg hN hc hs g e h.1) (sim_tgs hN hc hs gs es h.2) (by rw [asE_cons (chkTg_noStar h.1)]; rfl)
end
end

/-! ### what is walked -/
/-- an iterator that gives these items, while what is known stands; F' what is forbidden by then -/
def Yl (K : PySem.W.Frag) (F : AS) (items : List D) (J : L2.It) (H : Hp) : Prop := ∀ (F' : AS) (H' : Hp), (∀ a, F' a → F a ∨ H a = none) → Ex F' H H' → (∀ a, F' a → NotTup H' a) →
  (∀ (i : Nat) (d : D), items[i]? = some d → J.go i H' ∧ ∀ x H2, J.yld i H' x H2 → Ex NoM H' H2 ∧ VR K F' H2 d x) ∧ J.stop items.length H'
section
variable {K : PySem.W.Frag} {F M : AS} {H : Hp}
theorem VR.further {F' : AS} {H' : Hp} {d : D} {v : V} (h : VR K F H d v) (f : ∀ a, F' a → F a ∨ H a = none) (e : Ex F' H H') : VR K F' H' d v :=
  VR.ext (VR.mono (fun _ _ q _ => q) (fun a o e n z => by
    rcases f a z with z | z
    · exact n z
    · rw [e] at z; cases z) d v h) e.toExt fun _ z => z
theorem yl_list {l : List D} {v : V} (h : VR K F H (.lst l) v) : ∃ a, v = .ref a ∧ (∃ xs, SqL K H a xs) ∧ Yl K F l (Itl K a) H := by
  obtain ⟨a, vs, rfl, t, r⟩ := h.lstL
  refine ⟨a, rfl, ⟨vs, .of t⟩, fun F' H' f e _ => ?_⟩
  obtain ⟨a', vs', e1, t', r'⟩ := (h.further f e).lstL
  cases e1
  refine ⟨fun i d hd => ?_, ⟨vs', .of t', by rw [r'.len]; exact Nat.le_refl _⟩⟩
  obtain ⟨u, hu, ru⟩ := r'.at_ hd
  refine ⟨⟨vs', u, .of t', hu⟩, fun x H2 y => ?_⟩
  obtain ⟨rfl, y⟩ := y
  have e2 := y vs' (.of t')
  rw [hu] at e2
  cases e2
  exact ⟨Ex.refl _ _, ru⟩
theorem yl_tup {l : List D} {v : V} (h : VR K F H (.tup l) v) : ∃ a, v = .ref a ∧ (∃ xs, SqT K H a xs) ∧ Yl K F l (Itt K a) H := by
  obtain ⟨a, vs, rfl, t, r⟩ := h.tupT
  refine ⟨a, rfl, ⟨vs, t⟩, fun F' H' f e _ => ?_⟩
  obtain ⟨a', vs', e1, t', r'⟩ := (h.further f e).tupT
  cases e1
  refine ⟨fun i d hd => ?_, ⟨vs', t', by rw [r'.len]; exact Nat.le_refl _⟩⟩
  obtain ⟨u, hu, ru⟩ := r'.at_ hd
  refine ⟨⟨vs', u, t', hu⟩, fun x H2 y => ?_⟩
  obtain ⟨rfl, y⟩ := y
  have e2 := y vs' t'
  rw [hu] at e2
  cases e2
  exact ⟨Ex.refl _ _, ru⟩
theorem yl_range {lo : Int} {n : Nat} : Yl K F (rangeD lo n) (Itr lo n) H := fun F' H' _ _ _ => by
  refine ⟨fun i d hd => ?_, ?_⟩
  · unfold rangeD at hd
    rw [List.getElem?_map] at hd
    cases q : (List.range n)[i]? with
    | none => rw [q] at hd; cases hd
    | some k =>
      rw [q] at hd
      obtain ⟨h1, h2⟩ := List.getElem?_eq_some_iff.mp q
      rw [List.length_range] at h1
      rw [List.getElem_range] at h2
      subst h2
      refine ⟨h1, fun x H2 y => ?_⟩
      obtain ⟨rfl, rfl⟩ := y
      cases hd
      exact ⟨Ex.refl _ _, by simp only [VR]⟩
  · show n ≤ (rangeD lo n).length
    unfold rangeD
    rw [List.length_map, List.length_range]
    exact Nat.le_refl _
theorem yl_enum {l : List D} {v : V} (h : VR K F H (.lst l) v) : ∃ a xs, v = .ref a ∧ SqL K H a xs ∧ Yl K F (enumD l) (Ite K a) H := by
  obtain ⟨a, vs, rfl, t, r⟩ := h.lstL
  refine ⟨a, vs, rfl, .of t, fun F' H' f e fr => ?_⟩
  obtain ⟨a', vs', e1, t', r'⟩ := (h.further f e).lstL
  cases e1
  have el : (enumD l).length = l.length := by
    unfold enumD
    rw [List.length_zipWith, List.length_range, Nat.min_self]
  refine ⟨fun i d hd => ?_, ⟨vs', .of t', by rw [el, r'.len]; exact Nat.le_refl _⟩⟩
  unfold enumD at hd
  rw [List.getElem?_zipWith] at hd
  cases q : l[i]? with
  | none => rw [q] at hd; cases q2 : (List.range l.length)[i]? <;> rw [q2] at hd <;> cases hd
  | some x =>
    have hi := (List.getElem?_eq_some_iff.mp q).1
    rw [q, List.getElem?_range hi] at hd
    have hd' : D.tup [.int (i : Int), x] = d := Option.some.inj hd
    subst hd'
    obtain ⟨u, hu, ru⟩ := r'.at_ q
    refine ⟨⟨vs', u, .of t', hu⟩, fun y H2 yy => ?_⟩
    obtain ⟨T, w, rfl, hT, rfl, hw⟩ := yy
    have e2 := hw vs' (.of t')
    rw [hu] at e2
    cases e2
    refine ⟨(Ext.new hT).ex, VR.new_tup (.cons_mk (by simp only [VR]) (.cons_mk ru (VRs.nil_iff.mpr rfl))) hT fun f => ?_⟩
    obtain ⟨o, ho, _⟩ := fr T f
    rw [hT] at ho
    cases ho
end
section
variable {T : Tab} {fa : Nat → Addr} {fd : Nat → FuncData} {exc : Nat → Addr} {run : Run} {n : Nat} {N : List Str} {W : WX} {sc : Scope} {X : Cx}
variable {G : Nat → Option D}
def tI (K : PySem.W.Frag) (exc : Nat → Addr) (W : WX) (G : Nat → Option D) (run : Run) (m : It) : TI := fun σ H R => ∃ F M env, Rel K F M env σ H ∧ Post K exc W F M σ H (fun items J H => Yl K F items J H) (evIt G run m env) R
theorem sim_seq {e : E} {tg x : Expr} (nb : isBor e = false) (h : PE X x ((tE X.K exc W G run) e)) : PI X tg x (tI X.K exc W G run (.seq e)) := by
  refine ⟨fun pins s σ H R I q => ?_⟩
  obtain ⟨F, M, env, rl, p⟩ := q
  simp only [evIt] at p
  cases q : evE G run e env with
  | bad => rw [q] at p; exact p.elim
  | exc y e1 =>
    refine (pi_tup h).run pins s σ H R I ⟨F, M, env, rl, ?_⟩
    rw [q] at p ⊢
    exact p
  | ok d e1 =>
    rw [q] at p
    simp only [Res.bind] at p
    cases d <;> try exact p.elim
    · refine (pi_tup h).run pins s σ H R I ⟨F, M, env, rl, ?_⟩
      rw [q]
      intro v H1 ex rl1 hv
      obtain ⟨a, e2, hs, y⟩ := yl_tup (hv.vr nb)
      exact ⟨a, e2, hs, p _ H1 ex rl1 y⟩
    · refine (pi_list h).run pins s σ H R I ⟨F, M, env, rl, ?_⟩
      rw [q]
      intro v H1 ex rl1 hv
      obtain ⟨a, e2, hs, y⟩ := yl_list (hv.vr nb)
      exact ⟨a, e2, hs, p _ H1 ex rl1 y⟩
theorem _root_.L2.PI.qimp {X : Cx} {tg e : Expr} {t t' : TI} (h : PI X tg e t) (i : ∀ σ H Q, t' σ H Q → t σ H Q) : PI X tg e t' := ⟨fun pins s σ H Q I q => h.run pins s σ H Q I (i σ H Q q)⟩
theorem sim_rng1 (C : CtxOk T fa fd exc run n N W sc X) {e : E} {tg a : Expr} {x : Str} {p0 pos : Pos} (hg : glB sc x = true) (hx : x = "range") (hb : T.blts.contains x = true) (nb : isBor e = false) (hs : noStar a = true) (h : PE X a ((tE X.K exc W G run) e)) : PI X tg (.Call (.Name x p0) [a] [] pos) (tI X.K exc W G run (.rng1 e)) := by
  subst hx
  obtain ⟨g1, g2, g3⟩ := gl_of hg
  refine (pi_range1 (C.gl g1) (C.facts.blt _ hb) (pa_cons h pa_nil (star_cons hs)) (by rw [star_cons hs]; rfl)).qimp fun σ H R q => ?_
  obtain ⟨F, M, env, rl, p⟩ := q
  simp only [evIt] at p
  refine ⟨F, M, env, rl, p.bind fun d e1 v H1 q1 ex1 rl1 hd p1 => ?_⟩
  clear q1
  have hv := hd.vr nb
  cases d <;> try exact p1.elim
  rename_i k
  cases hv.intI
  simp only at p1
  split at p1
  · rename_i hk
    simp only [Bool.and_eq_true, decide_eq_true_eq] at hk
    exact ⟨k, rfl, hk.1, hk.2, Post.here (a := rangeD 0 k.toNat) (R := fun items J H => Yl X.K F items J H) p1 rl1 yl_range⟩
  · exact p1.elim
theorem sim_rng2 (C : CtxOk T fa fd exc run n N W sc X) {e e' : E} {tg a b : Expr} {x : Str} {p0 pos : Pos} (hg : glB sc x = true) (hx : x = "range") (hb : T.blts.contains x = true) (nb : isBor e = false) (nb' : isBor e' = false) (hs : noStar a = true) (hs' : noStar b = true) (h : PE X a ((tE X.K exc W G run) e)) (h' : PE X b ((tE X.K exc W G run) e')) :
    PI X tg (.Call (.Name x p0) [a, b] [] pos) (tI X.K exc W G run (.rng2 e e')) := by
  subst hx
  obtain ⟨g1, g2, g3⟩ := gl_of hg
  refine (pi_range2 (C.gl g1) (C.facts.blt _ hb) (pa_cons h (pa_cons h' pa_nil (star_cons hs')) (star_cons hs)) (by rw [star_cons hs, star_cons hs']; rfl) (by rw [star_cons hs']; rfl)).qimp fun σ H R q => ?_
  obtain ⟨F, M, env, rl, p⟩ := q
  simp only [evIt] at p
  refine ⟨F, M, env, rl, p.bind fun d e1 v H1 q1 ex1 rl1 hd p1 => ⟨F, M, e1, rl1, p1.bind fun d2 e2 v2 H2 q2 ex2 rl2 hd2 p2 => ?_⟩⟩
  clear q1 q2
  have hv := hd.vr nb
  have hv2 := hd2.vr nb'
  split at p2
  · rename_i i j
    cases hv.intI
    cases hv2.intI
    split at p2
    · rename_i hk
      simp only [Bool.and_eq_true, decide_eq_true_eq] at hk
      exact ⟨i, j, rfl, ⟨hk.1.1.1, hk.1.1.2, hk.1.2, hk.2⟩, Post.here (a := rangeD i (j - i).toNat) (R := fun items J H => Yl X.K F items J H) p2 rl2 yl_range⟩
    · exact p2.elim
  · exact p2.elim
theorem sim_enum (C : CtxOk T fa fd exc run n N W sc X) {e : E} {elts : List Expr} {kk : Nat} {tpos : Pos} {a : Expr} {x : Str} {p0 pos : Pos} (hg : glB sc x = true) (hx : x = "enumerate") (hb : T.blts.contains x = true) (nb : isBor e = false) (hs : noStar a = true) (h : PE X a ((tE X.K exc W G run) e)) :
    PI X (.Tuple elts kk tpos) (.Call (.Name x p0) [a] [] pos) (tI X.K exc W G run (.enum e)) := by
  subst hx
  obtain ⟨g1, g2, g3⟩ := gl_of hg
  refine (pi_enum (C.gl g1) (C.facts.blt _ hb) (pa_cons h pa_nil (star_cons hs)) (by rw [star_cons hs]; rfl)).qimp fun σ H R q => ?_
  obtain ⟨F, M, env, rl, p⟩ := q
  simp only [evIt] at p
  refine ⟨F, M, env, rl, p.bind fun d e1 v H1 q1 ex1 rl1 hd p1 => ?_⟩
  clear q1
  have hv := hd.vr nb
  cases d <;> try exact p1.elim
  rename_i l
  obtain ⟨a, xs, e2, hs2, y⟩ := yl_enum hv
  exact ⟨a, xs, by rw [e2], hs2, Post.here (a := enumD l) (R := fun items J H => Yl X.K F items J H) p1 rl1 y⟩
end
end Qh

/-! List comprehensions. -/
namespace Qh
open PySem PySem.Spec PyProof.Rows L2 PySem.W
def W0 : WX := fun _ _ _ _ => False
theorem wipe_none {σ : SS} {i : Nat} : ∀ {vs : List Nat}, i ∈ vs → ∀ v, (wipe σ vs)[i]? ≠ some (some v) := fun hi v h => (wipe_some h).2 hi
theorem wipe_at {σ : SS} {i : Nat} : ∀ {vs : List Nat}, i ∉ vs → (wipe σ vs)[i]? = σ[i]?
  | [], _ => rfl
  | v :: vs, h => by
    simp only [List.mem_cons, not_or] at h
    unfold wipe
    rw [List.getElem?_set_ne (Ne.symm h.1), wipe_at h.2]
theorem wipe_wipe {σ : SS} {vs : List Nat} : wipe (wipe σ vs) vs = wipe σ vs := by
  apply List.ext_getElem?
  intro i
  by_cases h : i ∈ vs
  · have a := wipe_none (σ := wipe σ vs) h
    have b := wipe_none (σ := σ) h
    have l : (wipe (wipe σ vs) vs).length = (wipe σ vs).length := by rw [wipe_length]
    cases q : (wipe (wipe σ vs) vs)[i]? with
    | none =>
      have := List.getElem?_eq_none_iff.mp q
      rw [l] at this
      rw [List.getElem?_eq_none this]
    | some x =>
      cases x with
      | some v => exact absurd q (a v)
      | none =>
        have := (List.getElem?_eq_some_iff.mp q).1
        rw [l] at this
        rw [List.getElem?_eq_getElem this]
        cases z : (wipe σ vs)[i] with
        | none => rfl
        | some v => exact absurd (by rw [List.getElem?_eq_getElem this, z]) (b v)
  · rw [wipe_at h]
theorem wipeE_len {env : En} : ∀ vs : List Nat, (wipeE env vs).length = env.length
  | [] => rfl
  | v :: vs => by unfold wipeE; rw [List.length_set, wipeE_len vs]
theorem wipeE_at {env : En} {i : Nat} : ∀ {vs : List Nat}, i ∉ vs → (wipeE env vs)[i]? = env[i]?
  | [], _ => rfl
  | v :: vs, h => by
    simp only [List.mem_cons, not_or] at h
    unfold wipeE
    rw [List.getElem?_set_ne (Ne.symm h.1), wipeE_at h.2]
theorem set_get {α : Type} {l : List α} {v i : Nat} {a x : α} (h : (l.set v a)[i]? = some x) : (i = v ∧ x = a) ∨ (i ≠ v ∧ l[i]? = some x) := by
  by_cases e : v = i
  · subst e
    have hl : v < l.length := by
      have := (List.getElem?_eq_some_iff.mp h).1
      rwa [List.length_set] at this
    rw [List.getElem?_set_self hl] at h
    cases h
    exact .inl ⟨rfl, rfl⟩
  · rw [List.getElem?_set_ne e] at h
    exact .inr ⟨fun z => e z.symm, h⟩
theorem wipeE_in {env : En} {i : Nat} {s : Sl} : ∀ {vs : List Nat}, i ∈ vs → (wipeE env vs)[i]? = some s → s = .non
  | [], h, _ => by simp at h
  | v :: vs, h, e => by
    unfold wipeE at e
    rcases set_get e with ⟨_, q⟩ | ⟨n, q⟩
    · exact q
    · rcases List.mem_cons.mp h with z | z
      · exact absurd z n
      · exact wipeE_in z q
theorem backE_len {orig env : En} : ∀ vs : List Nat, (backE orig env vs).length = env.length
  | [] => rfl
  | v :: vs => by unfold backE; rw [List.length_set, backE_len vs]
theorem backE_at {orig env : En} {i : Nat} : ∀ {vs : List Nat}, i ∉ vs → (backE orig env vs)[i]? = env[i]?
  | [], _ => rfl
  | v :: vs, h => by
    simp only [List.mem_cons, not_or] at h
    unfold backE
    rw [List.getElem?_set_ne (Ne.symm h.1), backE_at h.2]
theorem backE_in {orig env : En} {i : Nat} {s : Sl} : ∀ {vs : List Nat}, i ∈ vs → (backE orig env vs)[i]? = some s → s = .non ∨ ∃ d, s = .dat d ∧ orig[i]? = some (.dat d)
  | [], h, _ => by simp at h
  | v :: vs, h, e => by
    unfold backE at e
    rcases set_get e with ⟨rfl, q⟩ | ⟨n, q⟩
    · subst q
      split
      · rename_i d hd
        exact .inr ⟨d, rfl, En.at_of hd (fun z => nomatch z)⟩
      · exact .inl rfl
    · rcases List.mem_cons.mp h with z | z
      · exact absurd z n
      · exact backE_in z q
section
variable {K : PySem.W.Frag} {F F' M : AS} {σ : SS} {H H' : Hp} {env : En} {vs : List Nat}
theorem Rel.wipe (r : Rel K F M env σ H) (vs : List Nat) : Rel K F M (wipeE env vs) (L2.wipe σ vs) H := by
  have key : ∀ (i : Nat) (s : Sl), (wipeE env vs)[i]? = some s → s ≠ .non → i ∉ vs ∧ env[i]? = some s := fun i s h n => by
    have q : i ∉ vs := fun z => n (wipeE_in z h)
    exact ⟨q, by rw [← wipeE_at q]; exact h⟩
  exact {
    len := by rw [wipeE_len, wipe_length]; exact r.len
    dat := fun i d h => by
      obtain ⟨a, b⟩ := key i _ h (fun z => nomatch z)
      rw [wipe_at a]
      exact r.dat i d b
    own := fun i o h => by
      obtain ⟨a, b⟩ := key i _ h (fun z => nomatch z)
      rw [wipe_at a]
      exact r.own i o b
    apart := fun i j o o' a h h' s s' => by
      obtain ⟨a1, b1⟩ := key i _ h (fun z => nomatch z)
      obtain ⟨a2, b2⟩ := key j _ h' (fun z => nomatch z)
      rw [wipe_at a1] at s
      rw [wipe_at a2] at s'
      exact r.apart i j o o' a b1 b2 s s'
    sub := r.sub
    there := r.there }
/-- a new object besides that no value reaches -/
theorem Rel.more {D : Addr} {o : HO} (r : Rel K F M env σ H) (hD : H D = none) (ho : ∀ vs, o ≠ .tup vs) : Rel K (fun a => F a ∨ a = D) M env σ (upd H D o) where
  len := r.len
  dat := fun i d h => let ⟨v, a, b⟩ := r.dat i d h; ⟨v, a, (b.more hD).ext (M := NoM) (Ext.new hD) fun _ z => z.elim⟩
  own := fun i o' h => by
    obtain ⟨a, b, c, d⟩ := r.own i o' h
    refine ⟨a, b, c, ?_⟩
    have e : OR K (fun a => F a ∨ a = D) H o' a := by
      cases o' with
      | lst ds => obtain ⟨vs, q, rr⟩ := d; exact ⟨vs, q, rr.more hD⟩
      | dct _ _ => exact d
      | ins _ _ => exact d
    exact e.ext (M' := NoM) (fun z => z) (Ext.new hD) fun _ z => z.elim
  apart := r.apart
  sub := fun a m => .inl (r.sub a m)
  there := fun a z => by
    by_cases e : a = D
    · subst e; exact ⟨o, upd_same, ho⟩
    · rcases z with z | z
      · obtain ⟨u, q, n⟩ := r.there a z
        exact ⟨u, by rw [upd_ne e]; exact q, n⟩
      · exact absurd z e
/-- a forbidden object that is no name's own is changed -/
theorem Rel.poke {D : Addr} {o : HO} (r : Rel K F M env σ H) (hF : F D) (hM : ¬ M D) (ho : ∀ vs, o ≠ .tup vs) : Rel K F M env σ (upd H D o) := by
  have e : Ext (fun a => a = D) H (upd H D o) := Ext.put rfl (by obtain ⟨u, q, _⟩ := r.there D hF; rw [q]; intro z; cases z)
  exact {
    len := r.len
    dat := fun i d h => let ⟨v, a, b⟩ := r.dat i d h; ⟨v, a, b.ext e fun _ z => z ▸ hF⟩
    own := fun i o' h => by
      obtain ⟨a, b, c, d⟩ := r.own i o' h
      exact ⟨a, b, c, d.ext (M' := fun a => a = D) (fun z => hM (z ▸ c)) e fun _ z => z ▸ hF⟩
    apart := r.apart
    sub := r.sub
    there := fun a z => by
      by_cases e : a = D
      · subst e; exact ⟨o, upd_same, ho⟩
      · obtain ⟨u, q, n⟩ := r.there a z
        exact ⟨u, by rw [upd_ne e]; exact q, n⟩ }
theorem Rel.unwipe {e5 : En} {F' : AS} (r1 : Rel K F M env σ H) (r5 : Rel K F' M e5 (L2.wipe σ vs) H') (hF : ∀ a, F a → F' a) (ex : Ex M H H') : Rel K F M (backE env e5 vs) σ H' := by
  have own : ∀ (i : Nat) (o : O), (backE env e5 vs)[i]? = some (.own o) → i ∉ vs ∧ e5[i]? = some (.own o) := fun i o h => by
    have q : i ∉ vs := fun z => by
      rcases backE_in z h with q | ⟨d, q, _⟩ <;> cases q
    exact ⟨q, by rw [← backE_at q]; exact h⟩
  exact {
    len := by rw [backE_len, r5.len, wipe_length]
    dat := fun i d h => by
      by_cases q : i ∈ vs
      · rcases backE_in q h with z | ⟨d', z, e⟩
        · cases z
        · cases z
          obtain ⟨v, a, b⟩ := r1.dat i d e
          exact ⟨v, a, b.ext ex.toExt r1.sub⟩
      · rw [backE_at q] at h
        obtain ⟨v, a, b⟩ := r5.dat i d h
        rw [wipe_at q] at a
        exact ⟨v, a, b.less hF⟩
    own := fun i o h => by
      obtain ⟨q, h⟩ := own i o h
      obtain ⟨a, b, c, d⟩ := r5.own i o h
      rw [wipe_at q] at b
      exact ⟨a, b, c, d.less hF⟩
    apart := fun i j o o' a h h' s s' => by
      obtain ⟨q, h⟩ := own i o h
      obtain ⟨q', h'⟩ := own j o' h'
      rw [← wipe_at (vs := vs) q] at s
      rw [← wipe_at (vs := vs) q'] at s'
      exact r5.apart i j o o' a h h' s s'
    sub := r1.sub
    there := fun a z => r5.there a (hF a z) }
end
section
variable {T : Tab} {fa : Nat → Addr} {fd : Nat → FuncData} {exc : Nat → Addr} {run : Run} {n : Nat} {N : List Str} {W : WX} {sc : Scope} {X : Cx}
variable {G : Nat → Option D}
theorem noExc_ok {α : Type} {r : Res α} {K : PySem.W.Frag} {F M : AS} {σ : SS} {H : Hp} {β γ : Type} {R : γ → β → Hp → Prop} {k : α → En → Res γ} {Q : β → Hp → Prop} (p : Post K exc W F M σ H R ((noExc r).bind k) Q) : ∃ a e, r = .ok a e ∧ Post K exc W F M σ H R (k a e) Q := by
  cases r with
  | ok a e => exact ⟨a, e, rfl, p⟩
  | exc x e => exact p.elim
  | bad => exact p.elim
theorem lcBody_eq (own : List Nat) (g : D → En → Option En) (t : En → Res Bool) (el : En → Res D) (x : D) (env : En) : lcBody own g t el x env = match g x env with
  | none => .bad
  | some e2 => (t e2).bind fun b e3 => if b = true then (el e3).bind fun y e4 => .ok (some y) (wipeE e4 own) else .ok none (wipeE e3 own) := rfl
/-- the turns of a comprehension's loop, by an answer that came -/
theorem lc_loop {K : PySem.W.Frag} {own : List Nat} {it : It} {g : Tg} {t : Oe} {e : E} {env : En} {F M : AS} {σ : SS} {H : Hp} {Q : VK} (hsl : ∀ i ∈ g.slots, i ∈ own) (nb : isBor e = false) (rl : Rel K F M env σ H)
    (p : Post K exc W F M σ H (VX K F σ (.lc own it g t e)) (evE G run (.lc own it g t e) env) Q) :
    tLc (tI K exc W G run it) (tgT K g) (tOT K exc W0 G run t) (tE K exc W0 G run e) own σ H Q := by
  simp only [evE] at p
  refine ⟨F, M, env, rl, p.bind fun items e1 J H1 q1 ex1 rl1 hy p1 => ?_⟩
  clear q1
  split at p1
  · exact p1.elim
  obtain ⟨l, e5, q, p2⟩ := noExc_ok p1
  clear p p1
  intro D hD
  have nF : ¬ F D := rl1.fresh D hD
  have nM : ¬ M D := fun z => nF (rl1.sub D z)
  have exD : ∀ o, Ex M H1 (upd H1 D o) := fun o => (Ext.new (M := NoM) hD).exM
  have hF : ∀ a, F a → F a ∨ a = D := fun a z => .inl z
  have hsub : ∀ a, M a → F a ∨ a = D := fun a z => .inl (rl1.sub a z)
  have hfr : ∀ a, (F a ∨ a = D) → F a ∨ H1 a = none := fun a z => by
    rcases z with z | z
    · exact .inl z
    · exact .inr (by rw [z]; exact hD)
  refine ⟨fun i m H' => ∃ rest acc env' ws, rest = items.drop i ∧ i + rest.length = items.length ∧ m = rest.length ∧ lcLoop (lcBody own (asgT g) (evT G run t) (evE G run e)) rest acc env' = .ok l e5 ∧ Rel K (fun a => F a ∨ a = D) M env' (wipe σ own) H' ∧ Ex M H1 H' ∧ H' D = some (.lst ws) ∧ VRs K (fun a => F a ∨ a = D) H' acc ws,
    ⟨items.length, items, [], wipeE e1 own, [], rfl, by omega, rfl, q, (rl1.wipe own).more hD (fun _ z => nomatch z), exD _, upd_same, VRs.nil_iff.mpr rfl⟩, fun i m H' w => ?_⟩
  obtain ⟨rest, acc, env', ws, e1', e2', rfl, q, rl', ex', hw, hr⟩ := w
  obtain ⟨yl, ys⟩ := hy _ H' hfr (ex'.mono hsub) rl'.there
  cases rest with
  | nil =>
    simp only [List.length_nil, Nat.add_zero] at e2'
    subst e2'
    refine .inl ⟨ys, ?_⟩
    unfold lcLoop at q
    split at q
    · cases q
      refine p2 (.ref D) H' ex' (rl1.unwipe rl' hF ex') ?_
      show VR K F H' (.lst _) (.ref D)
      simp only [VR]
      exact ⟨D, ws, rfl, nF, hw, hr.less hF⟩
    · cases q
  | cons x xs =>
    have hi : items[i]? = some x := by
      rw [← List.head?_drop, ← e1']; rfl
    have hxs : xs = items.drop (i + 1) := by
      rw [← List.tail_drop, ← e1']; rfl
    obtain ⟨go, yld⟩ := yl i x hi
    refine .inr ⟨go, fun H'' => ∃ acc env' ws, lcLoop (lcBody own (asgT g) (evT G run t) (evE G run e)) xs acc env' = .ok l e5 ∧ Rel K (fun a => F a ∨ a = D) M env' (wipe σ own) H'' ∧ Ex M H1 H'' ∧ H'' D = some (.lst ws) ∧ VRs K (fun a => F a ∨ a = D) H'' acc ws,
      fun H'' ⟨acc, env', ws, a, b, c, d, f⟩ => ⟨xs.length, by simp, xs, acc, env', ws, hxs, by simp only [List.length_cons] at e2'; omega, rfl, a, b, c, d, f⟩, fun v H2 y => ?_⟩
    obtain ⟨ex2, hv⟩ := yld v H2 y
    unfold lcLoop at q
    split at q
    case isFalse => cases q
    rename_i hlt
    rw [lcBody_eq] at q
    cases q3 : asgT g x env' with
    | none => rw [q3] at q; cases q
    | some e2 =>
      rw [q3] at q
      simp only at q
      have rl2 := rl'.ext ex2
      refine asg_ok g x env' e2 v (wipe σ own) _ q3 rl2 hv fun σ2 rl3 _ wp => ?_
      have hwp : wipe σ2 own = wipe σ own := by rw [wp own hsl, wipe_wipe]
      refine ⟨hwp.trans (by rfl), ⟨_, M, e2, rl3, ?_⟩⟩
      cases q4 : evT G run t e2 with
      | bad => rw [q4] at q; cases q
      | exc y e3 => rw [q4] at q; cases q
      | ok b e3 =>
        rw [q4] at q
        intro b' H3 ex3 rl4 hb
        have hb : b = b' := hb
        subst hb
        have ex13 : Ex M H1 H3 := (ex'.trans (ex2.mono fun _ z => z.elim)).trans ex3
        have hD3 : H3 D = some (.lst ws) := ex3.keep D _ (ex2.keep D _ hw (fun z => z)) nM
        have hr3 : VRs K (fun a => F a ∨ a = D) H3 acc ws := (hr.ext ex2.toExt fun _ z => z.elim).ext ex3.toExt hsub
        cases b with
        | false =>
          simp only [Bool.false_eq_true, if_false]
          refine ⟨acc, wipeE e3 own, ws, ?_, ?_, ex13, hD3, hr3⟩
          · simpa [Res.bind] using q
          · have := rl4.wipe own
            rwa [hwp] at this
        | true =>
          simp only [if_true]
          refine ⟨_, M, e3, rl4, ?_⟩
          cases q5 : evE G run e e3 with
          | bad => simp [Res.bind, q5] at q
          | exc y e4 => simp [Res.bind, q5] at q
          | ok y e4 =>
            intro yv H4 ex4 rl5 hyv
            have hyv := hyv.vr nb
            have hD4 : H4 D = some (.lst ws) := ex4.keep D _ hD3 nM
            have hr4 : VRs K (fun a => F a ∨ a = D) H4 acc ws := hr3.ext ex4.toExt hsub
            have ep : Ext (fun a => a = D) H4 (upd H4 D (.lst (ws ++ [yv]))) := Ext.put rfl (by rw [hD4]; intro z; cases z)
            refine ⟨ws, hD4, ?_, acc ++ [y], wipeE e4 own, ws ++ [yv], ?_, ?_, ?_, upd_same, ?_⟩
            · rw [← hr4.len]
              exact Nat.lt_of_lt_of_le hlt (big_line (Nat.le_refl _))
            · simpa [Res.bind, q5] using q
            · have := (rl5.wipe own).poke (D := D) (o := .lst (ws ++ [yv])) (.inr rfl) nM (fun _ z => nomatch z)
              rwa [hwp] at this
            · have ex14 := ex13.trans ex4
              refine ⟨⟨fun a o ha hn => ?_, fun a ha => ep.dom a (ex14.dom a ha)⟩, fun a ha => ?_⟩
              · have hne : a ≠ D := fun z => by rw [z, hD] at ha; cases ha
                rw [upd_ne hne]
                exact ex14.keep a o ha hn
              · have hne : a ≠ D := fun z => by obtain ⟨o, ho, _⟩ := ha; rw [z, hD] at ho; cases ho
                obtain ⟨o, ho, hn⟩ := ex14.nt a ha
                exact ⟨o, by rw [upd_ne hne]; exact ho, hn⟩
            · exact (hr4.append (.cons_mk hyv (VRs.nil_iff.mpr rfl))).ext ep fun a z => .inr z
end
end Qh

/-! Two clauses; expressions as a whole. -/
namespace Qh
open PySem PySem.Spec PyProof.Rows L2 PySem.W
theorem wipe_sub {σ : SS} {vs ws : List Nat} (h : ∀ i ∈ ws, i ∈ vs) : wipe (wipe σ ws) vs = wipe σ vs := by
  apply List.ext_getElem?
  intro i
  by_cases hi : i ∈ vs
  · have a := wipe_none (σ := wipe σ ws) hi
    have b := wipe_none (σ := σ) hi
    have l : (wipe (wipe σ ws) vs).length = (wipe σ vs).length := by rw [wipe_length, wipe_length, wipe_length]
    cases q : (wipe (wipe σ ws) vs)[i]? with
    | none =>
      have := List.getElem?_eq_none_iff.mp q
      rw [l] at this
      rw [List.getElem?_eq_none this]
    | some x =>
      cases x with
      | some v => exact absurd q (a v)
      | none =>
        have := (List.getElem?_eq_some_iff.mp q).1
        rw [l] at this
        rw [List.getElem?_eq_getElem this]
        cases z : (wipe σ vs)[i] with
        | none => rfl
        | some v => exact absurd (by rw [List.getElem?_eq_getElem this, z]) (b v)
  · have hj : i ∉ ws := fun z => hi (h i z)
    rw [wipe_at hi, wipe_at hi, wipe_at hj]
section
variable {T : Tab} {fa : Nat → Addr} {fd : Nat → FuncData} {exc : Nat → Addr} {run : Run} {n : Nat} {N : List Str} {W : WX} {sc : Scope} {X : Cx}
variable {G : Nat → Option D}
theorem lc2_loop {K : PySem.W.Frag} {own own1 : List Nat} {it it2 : It} {g g2 : Tg} {e : E} {env : En} {F M : AS} {σ : SS} {H : Hp} {Q : VK} (hsl : ∀ i ∈ g.slots, i ∈ own) (hsl2 : ∀ i ∈ g2.slots, i ∈ own1) (hoo : ∀ i ∈ own1, i ∈ own) (nb : isBor e = false) (rl : Rel K F M env σ H)
    (p : Post K exc W F M σ H (VX K F σ (.lc2 own own1 it g it2 g2 e)) (evE G run (.lc2 own own1 it g it2 g2 e) env) Q) :
    tLc2 (tI K exc W G run it) (tgT K g) tYes (tI K exc W0 G run it2) (tgT K g2) tYes (tE K exc W0 G run e) own own1 σ H Q := by
  simp only [evE] at p
  refine ⟨F, M, env, rl, p.bind fun items e1 J H1 q1 ex1 rl1 hy p1 => ?_⟩
  clear q1
  split at p1
  · exact p1.elim
  obtain ⟨l, e5, q, p2⟩ := noExc_ok p1
  clear p p1
  intro D hD
  have nF : ¬ F D := rl1.fresh D hD
  have nM : ¬ M D := fun z => nF (rl1.sub D z)
  have exD : ∀ o, Ex M H1 (upd H1 D o) := fun o => (Ext.new (M := NoM) hD).exM
  have hF : ∀ a, F a → F a ∨ a = D := fun a z => .inl z
  have hsub : ∀ a, M a → F a ∨ a = D := fun a z => .inl (rl1.sub a z)
  have hfr : ∀ a, (F a ∨ a = D) → F a ∨ H1 a = none := fun a z => by
    rcases z with z | z
    · exact .inl z
    · exact .inr (by rw [z]; exact hD)
  have hfr2 : ∀ (H : Hp) a, (F a ∨ a = D) → (F a ∨ a = D) ∨ H a = none := fun H a z => .inl z
  generalize hbody : lcBody own1 (asgT g2) (fun e => .ok true e) (evE G run e) = body at q
  refine ⟨fun i m H' => ∃ rest acc env' ws, rest = items.drop i ∧ i + rest.length = items.length ∧ m = rest.length ∧ lc2Loop own own1 (asgT g) (evIt G run it2) body rest acc env' = .ok l e5 ∧ Rel K (fun a => F a ∨ a = D) M env' (wipe σ own) H' ∧ Ex M H1 H' ∧ H' D = some (.lst ws) ∧ VRs K (fun a => F a ∨ a = D) H' acc ws,
    ⟨items.length, items, [], wipeE e1 own, [], rfl, by omega, rfl, q, (rl1.wipe own).more hD (fun _ z => nomatch z), exD _, upd_same, VRs.nil_iff.mpr rfl⟩, fun i m H' w => ?_⟩
  obtain ⟨rest, acc, env', ws, e1', e2', rfl, q, rl', ex', hw, hr⟩ := w
  obtain ⟨yl, ys⟩ := hy _ H' hfr (ex'.mono hsub) rl'.there
  cases rest with
  | nil =>
    simp only [List.length_nil, Nat.add_zero] at e2'
    subst e2'
    refine .inl ⟨ys, ?_⟩
    unfold lc2Loop at q
    cases q
    refine p2 (.ref D) H' ex' (rl1.unwipe rl' hF ex') ?_
    show VR K F H' (.lst _) (.ref D)
    simp only [VR]
    exact ⟨D, ws, rfl, nF, hw, hr.less hF⟩
  | cons x xs =>
    have hi : items[i]? = some x := by
      rw [← List.head?_drop, ← e1']; rfl
    have hxs : xs = items.drop (i + 1) := by
      rw [← List.tail_drop, ← e1']; rfl
    obtain ⟨go, yld⟩ := yl i x hi
    refine .inr ⟨go, fun H'' => ∃ acc env' ws, lc2Loop own own1 (asgT g) (evIt G run it2) body xs acc env' = .ok l e5 ∧ Rel K (fun a => F a ∨ a = D) M env' (wipe σ own) H'' ∧ Ex M H1 H'' ∧ H'' D = some (.lst ws) ∧ VRs K (fun a => F a ∨ a = D) H'' acc ws,
      fun H'' ⟨acc, env', ws, a, b, c, d, f⟩ => ⟨xs.length, by simp, xs, acc, env', ws, hxs, by simp only [List.length_cons] at e2'; omega, rfl, a, b, c, d, f⟩, fun v H2 y => ?_⟩
    obtain ⟨ex2, hv⟩ := yld v H2 y
    unfold lc2Loop at q
    cases q3 : asgT g x env' with
    | none => rw [q3] at q; cases q
    | some e2 =>
      rw [q3] at q
      simp only at q
      have rl2 := rl'.ext ex2
      refine asg_ok g x env' e2 v (wipe σ own) _ q3 rl2 hv fun σ2 rl3 _ wp => ?_
      have hwp : wipe σ2 own = wipe σ own := by rw [wp own hsl, wipe_wipe]
      refine ⟨hwp.trans (by rfl), ?_⟩
      simp only [tYes, if_true]
      refine ⟨_, M, e2, rl3, ?_⟩
      cases q4 : evIt G run it2 e2 with
      | bad => rw [q4] at q; cases q
      | exc y e3 => rw [q4] at q; cases q
      | ok items2 e3 =>
        rw [q4] at q
        have q : (lcLoop body items2 acc (wipeE e3 own1)).bind (fun acc' e4 => lc2Loop own own1 (asgT g) (evIt G run it2) body xs acc' (wipeE e4 own)) = .ok l e5 := q
        cases q6 : lcLoop body items2 acc (wipeE e3 own1) with
        | bad => rw [q6] at q; cases q
        | exc y e4 => rw [q6] at q; cases q
        | ok acc' e4 =>
        rw [q6] at q
        have q : lc2Loop own own1 (asgT g) (evIt G run it2) body xs acc' (wipeE e4 own) = .ok l e5 := q
        intro J1 H3 ex3 rl4 hy2
        have ex13 : Ex M H1 H3 := (ex'.trans (ex2.mono fun _ z => z.elim)).trans ex3
        have hD3 : H3 D = some (.lst ws) := ex3.keep D _ (ex2.keep D _ hw (fun z => z)) nM
        have hr3 : VRs K (fun a => F a ∨ a = D) H3 acc ws := (hr.ext ex2.toExt fun _ z => z.elim).ext ex3.toExt hsub
        refine ⟨fun j k H' => ∃ rest acc env' ws, rest = items2.drop j ∧ j + rest.length = items2.length ∧ k = rest.length ∧ lcLoop body rest acc env' = .ok acc' e4 ∧ Rel K (fun a => F a ∨ a = D) M env' (wipe σ2 own1) H' ∧ Ex M H1 H' ∧ Ex (fun a => M a ∨ a = D) H3 H' ∧ H' D = some (.lst ws) ∧ VRs K (fun a => F a ∨ a = D) H' acc ws,
          ⟨items2.length, items2, acc, wipeE e3 own1, ws, rfl, by omega, rfl, q6, rl4.wipe own1, ex13, Ex.refl _ _, hD3, hr3⟩, fun j k H' w => ?_⟩
        clear hr hw hr3 hD3 q6 rl2 rl' ex' hv ex2 ex3 ex13
        obtain ⟨rest, acc, env', ws, f1', f2', rfl, q6, rl', ex', ex3', hw, hr⟩ := w
        obtain ⟨yl2, ys2⟩ := hy2 _ H' (hfr2 _) (ex3'.mono fun a z => by
          rcases z with z | z
          · exact hsub a z
          · exact .inr z) rl'.there
        cases rest with
        | nil =>
          simp only [List.length_nil, Nat.add_zero] at f2'
          subst f2'
          unfold lcLoop at q6
          split at q6
          · cases q6
            refine .inl ⟨ys2, _, _, ws, q, ?_, ex', hw, hr⟩
            have := rl'.wipe own
            rwa [wipe_sub hoo, hwp] at this
          · cases q6
        | cons x2 xs2 =>
          have hi2 : items2[j]? = some x2 := by
            rw [← List.head?_drop, ← f1']; rfl
          have hxs2 : xs2 = items2.drop (j + 1) := by
            rw [← List.tail_drop, ← f1']; rfl
          obtain ⟨go2, yld2⟩ := yl2 j x2 hi2
          refine .inr ⟨go2, fun H'' => ∃ acc env' ws, lcLoop body xs2 acc env' = .ok acc' e4 ∧ Rel K (fun a => F a ∨ a = D) M env' (wipe σ2 own1) H'' ∧ Ex M H1 H'' ∧ Ex (fun a => M a ∨ a = D) H3 H'' ∧ H'' D = some (.lst ws) ∧ VRs K (fun a => F a ∨ a = D) H'' acc ws,
            fun H'' ⟨acc, env', ws, a, b, c, c', d, f⟩ => ⟨xs2.length, by simp, xs2, acc, env', ws, hxs2, by simp only [List.length_cons] at f2'; omega, rfl, a, b, c, c', d, f⟩, fun v2 H4 y2 => ?_⟩
          obtain ⟨ex4, hv2⟩ := yld2 v2 H4 y2
          unfold lcLoop at q6
          split at q6
          case isFalse => cases q6
          rename_i hlt
          subst hbody
          rw [lcBody_eq] at q6
          cases q7 : asgT g2 x2 env' with
          | none => rw [q7] at q6; cases q6
          | some e6 =>
            rw [q7] at q6
            refine asg_ok g2 x2 env' e6 v2 (wipe σ2 own1) _ q7 (rl'.ext ex4) hv2 fun σ3 rl5 _ wp2 => ?_
            have hwp2 : wipe σ3 own1 = wipe σ2 own1 := by rw [wp2 own1 hsl2, wipe_wipe]
            refine ⟨hwp2.trans (by rfl), ?_⟩
            simp only [tYes, if_true]
            refine ⟨_, M, e6, rl5, ?_⟩
            cases q8 : evE G run e e6 with
            | bad => simp [Res.bind, q8] at q6
            | exc y e7 => simp [Res.bind, q8] at q6
            | ok y e7 =>
              intro yv H5 ex5 rl6 hyv
              have hyv := hyv.vr nb
              have ex45 : Ex M H' H5 := (ex4.mono fun _ z => z.elim).trans ex5
              have hD5 : H5 D = some (.lst ws) := ex45.keep D _ hw nM
              have hr5 : VRs K (fun a => F a ∨ a = D) H5 acc ws := hr.ext ex45.toExt hsub
              have ep : Ext (fun a => a = D) H5 (upd H5 D (.lst (ws ++ [yv]))) := Ext.put rfl (by rw [hD5]; intro z; cases z)
              have ep2 : Ex (fun a => M a ∨ a = D) H5 (upd H5 D (.lst (ws ++ [yv]))) := ⟨ep.mono fun a z => .inr z, fun a ha => by
                obtain ⟨o, ho, hn⟩ := ha
                by_cases e : a = D
                · subst e; exact ⟨_, upd_same, fun _ z => nomatch z⟩
                · exact ⟨o, by rw [upd_ne e]; exact ho, hn⟩⟩
              refine ⟨ws, hD5, ?_, acc ++ [y], wipeE e7 own1, ws ++ [yv], ?_, ?_, ?_, ?_, upd_same, ?_⟩
              · rw [← hr5.len]
                exact Nat.lt_of_lt_of_le hlt (big_line (Nat.le_refl _))
              · simpa [Res.bind, q8] using q6
              · have := (rl6.wipe own1).poke (D := D) (o := .lst (ws ++ [yv])) (.inr rfl) nM (fun _ z => nomatch z)
                rwa [hwp2] at this
              · have ex15 := ex'.trans ex45
                refine ⟨⟨fun a o ha hn => ?_, fun a ha => ep.dom a (ex15.dom a ha)⟩, fun a ha => ?_⟩
                · have hne : a ≠ D := fun z => by rw [z, hD] at ha; cases ha
                  rw [upd_ne hne]
                  exact ex15.keep a o ha hn
                · have hne : a ≠ D := fun z => by obtain ⟨o, ho, _⟩ := ha; rw [z, hD] at ho; cases ho
                  obtain ⟨o, ho, hn⟩ := ex15.nt a ha
                  exact ⟨o, by rw [upd_ne hne]; exact ho, hn⟩
              · exact (ex3'.trans (ex45.mono fun a z => .inl z)).trans ep2
              · exact (hr5.append (.cons_mk hyv (VRs.nil_iff.mpr rfl))).ext ep fun a z => .inr z
end
end Qh

/-! Expressions as a whole. -/
namespace Qh
open PySem PySem.Spec PyProof.Rows L2 PySem.W
section
variable {T : Tab} {fa : Nat → Addr} {fd : Nat → FuncData} {exc : Nat → Addr} {run : Run} {n : Nat} {N : List Str}
theorem CtxOk.blk {W : WX} {sc : Scope} {X : Cx} (C : CtxOk T fa fd exc run n N W sc X) (scope : Scope) (s : Shared) (H : Hp) (c : Addr) (cl : List (Str × Addr)) (fp : List Addr) :
    CtxOk T fa fd exc run n N W0 (relS scope sc) (X.blk s H scope (compEnvC scope cl c X.env) fp) where
  nm := C.nm
  nd := C.nd
  sc := by rw [← C.sc]; rfl
  calm := C.calm
  room := C.room
  tk := takes0
  facts := C.facts
  ok := C.ok
theorem StoreOk.blk {X : Cx} (scope : Scope) (hN : X.N = N) (s : Shared) (H : Hp) (c : Addr) (cl : List (Str × Addr)) (fp : List Addr) : StoreOk N scope (X.blk s H scope (compEnvC scope cl c X.env) fp) := fun i x h => by
  unfold locB at h
  simp only [Bool.and_eq_true, decide_eq_true_eq] at h
  refine ⟨by show X.N[i]? = _; rw [hN]; exact h.1, ?_⟩
  have h2 := h.2
  split at h2
  · rename_i q
    have := lookup_relS_keep (sc := X.env.scope) (k := .local) (by decide) q
    exact ⟨.inl this, .inr this⟩
  · rename_i q
    have := lookup_relS_keep (sc := X.env.scope) (k := .cell) (by decide) q
    exact ⟨.inr this, .inl (by show (scope.names.lookup x == some .cell) = true; rw [q]; rfl)⟩
  · cases h2
theorem own_ix {own : List Nat} (h : (own.filterMap fun i => (N[i]?).map fun x => (x, i)).map (·.2) = own) : True := trivial
theorem isB {e : E} (h : (!isBor e) = true) : isBor e = false := by cases q : isBor e <;> simp_all
theorem sim_ifeT {W : WX} {sc : Scope} {X : Cx} {G : Nat → Option D} {t a b : E} {t' a' b' : Expr} {pos : Pos} (ht : PT X t' (tT X.K exc W G run t)) (ha : PT X a' (tT X.K exc W G run a)) (hb : PT X b' (tT X.K exc W G run b)) : PT X (.IfExp t' a' b' pos) (tT X.K exc W G run (.ife t a b)) := by
  refine ⟨fun pins s σ H Q I h => ?_⟩
  obtain ⟨F, M, env, rl, p⟩ := h
  simp only [evE, bind_assoc, onBl_bind] at p
  rw [bind_bool] at p
  refine isTrue_IfExp (thn (ht.run pins s σ H (fun c H1 => (if c = true then tT X.K exc W G run a else tT X.K exc W G run b) σ H1 Q) I ⟨F, M, env, rl, p.bind fun x e1 v H1 _ ex1 rl1 hx p1 => ?_⟩) fun c s1 ⟨H1, I1, q1⟩ => ?_)
  · subst hx
    cases x with
    | true => exact ⟨F, M, e1, rl1, p1⟩
    | false => exact ⟨F, M, e1, rl1, p1⟩
  · cases c with
    | true => exact ha.run pins s1 σ H1 Q I1 q1
    | false => exact hb.run pins s1 σ H1 Q I1 q1
/-- a test by its value -/
def byVal : Expr → Bool
  | .UnaryOp .Not _ _ => false
  | .BoolOp _ _ _ => false
  | .IfExp _ _ _ _ => false
  | .Compare _ _ _ _ => false
  | _ => true
theorem byVal_ok {e : Expr} {env : Env} (h : byVal e = true) : ∀ whole, isTrue e env whole = (do let v ← whole; standAt e.pos; holding [v] (truthy v)) := by
  intro whole
  cases e <;> first | rfl | cases h | skip
  rename_i op a pos
  cases op <;> first | rfl | cases h
def isBool : Expr → Bool
  | .BoolOp _ (_ :: _ :: _) _ => true
  | _ => false
/-- an expression's three laws -/
structure Sim (exc : Nat → Addr) (run : Run) (T : Tab) (W : WX) (X : Cx) (m : E) (e : Expr) : Prop where
  pe : PE X e (tE X.K exc W (globD T) run m)
  pt : isBor m = false → PT X e (tT X.K exc W (globD T) run m)
  pw : isBool e = true → PW X e (tT X.K exc W (globD T) run m)
theorem Sim.val {W : WX} {X : Cx} {m : E} {e : Expr} (pe : PE X e (tE X.K exc W (globD T) run m)) (hv : byVal e = true) : Sim exc run T W X m e :=
  ⟨pe, fun hb => sim_val hb pe (byVal_ok hv), fun h => by cases e <;> first | cases h | cases hv⟩
mutual
theorem simE : ∀ (m : E) (e : Expr) (W : WX) (sc : Scope) (X : Cx), CtxOk T fa fd exc run n N W sc X → chkE T N sc m e = true → Sim exc run T W X m e
  | .var i, e, W, sc, X, C, h => by
    cases e <;> simp only [chkE] at h <;> try (cases h; done)
    exact .val (sim_var C h) rfl
  | .bor i, e, W, sc, X, C, h => by
    cases e <;> simp only [chkE] at h <;> try (cases h; done)
    exact .val (sim_bor C h) rfl
  | .cst d, e, W, sc, X, C, h => by
    cases e <;> simp only [chkE] at h <;> try (cases h; done)
    exact .val (sim_cst h) rfl
  | .glo g, e, W, sc, X, C, h => by
    cases e <;> simp only [chkE] at h <;> try (cases h; done)
    simp only [Bool.and_eq_true] at h
    have h2 := h.2
    split at h2
    · rename_i y d q
      exact .val (sim_glo C h.1 q (of_decide_eq_true h2)) rfl
    · cases h2
  | .bin op a b, e, W, sc, X, C, h => by
    cases e <;> simp only [chkE] at h <;> try (cases h; done)
    simp only [Bool.and_eq_true] at h
    rw [opB_ok h.2.1]
    exact .val (sim_bin C (isB h.1.1) (isB h.1.2) (simE a _ W sc X C h.2.2.1).pe (simE b _ W sc X C h.2.2.2).pe) rfl
  | .cmp op a b, e, W, sc, X, C, h => by
    cases e <;> try (first | (simp only [chkE] at h; done) | (simp only [chkE] at h; cases h; done))
    rename_i l ops rs pos
    rcases ops with _ | ⟨o, _ | ⟨o2, os⟩⟩ <;> rcases rs with _ | ⟨r, _ | ⟨r2, rs⟩⟩ <;> simp only [chkE] at h <;> try (cases h; done)
    simp only [Bool.and_eq_true] at h
    have ha := (simE a _ W sc X C h.2.2.1).pe
    have hb := (simE b _ W sc X C h.2.2.2).pe
    rw [opC_ok h.1]
    exact ⟨sim_cmp C h.2.1 ha hb, fun _ => sim_cmpT C h.2.1 ha hb, fun z => by cases z⟩
  | .chn op op' a b c, e, W, sc, X, C, h => by
    cases e <;> try (first | (simp only [chkE] at h; done) | (simp only [chkE] at h; cases h; done))
    rename_i l ops rs pos
    rcases ops with _ | ⟨o, _ | ⟨o2, _ | ⟨o3, os⟩⟩⟩ <;> rcases rs with _ | ⟨r, _ | ⟨r2, _ | ⟨r3, rs⟩⟩⟩ <;> simp only [chkE] at h <;> try (cases h; done)
    simp only [Bool.and_eq_true] at h
    have ha := (simE a _ W sc X C h.2.2.2.1).pe
    have hb := (simE b _ W sc X C h.2.2.2.2.1).pe
    have hc := (simE c _ W sc X C h.2.2.2.2.2).pe
    rw [opC_ok h.2.1.1, opC_ok h.2.1.2]
    exact ⟨sim_chn C (isB h.1.1) (isB h.1.2.1) (isB h.1.2.2) h.2.2.1.2 ha hb hc, fun _ => sim_chnT C (isB h.1.1) (isB h.1.2.1) (isB h.1.2.2) h.2.2.1.2 ha hb hc, fun z => by cases z⟩
  | .and a b, e, W, sc, X, C, h => by
    cases e <;> try (first | (simp only [chkE] at h; done) | (simp only [chkE] at h; cases h; done))
    rename_i op es pos
    cases op <;> try (first | (simp only [chkE] at h; done) | (simp only [chkE] at h; cases h; done))
    rcases es with _ | ⟨x, _ | ⟨y, rest⟩⟩ <;> try (first | (simp only [chkE] at h; done) | (simp only [chkE] at h; cases h; done))
    simp only [chkE, Bool.and_eq_true] at h
    have na := isB h.1.1
    have nb := isB h.1.2
    have ha := simE a _ W sc X C h.2.1
    have hr := h.2.2
    have key : PE X (.BoolOp .And (y :: rest) pos) (tE X.K exc W (globD T) run b) ∧ PW X (.BoolOp .And (y :: rest) pos) (tT X.K exc W (globD T) run b) := by
      cases rest with
      | nil =>
        have hb := simE b _ W sc X C hr
        exact ⟨pe_one hb.pe, pw_and1 (hb.pt nb)⟩
      | cons z zs =>
        have hb := simE b _ W sc X C hr
        exact ⟨hb.pe, hb.pw rfl⟩
    have w := sim_andT C (ha.pt na) key.2
    exact ⟨sim_and C na nb ha.pe key.1, fun _ => w.pt, fun _ => w⟩
  | .or a b, e, W, sc, X, C, h => by
    cases e <;> try (first | (simp only [chkE] at h; done) | (simp only [chkE] at h; cases h; done))
    rename_i op es pos
    cases op <;> try (first | (simp only [chkE] at h; done) | (simp only [chkE] at h; cases h; done))
    rcases es with _ | ⟨x, _ | ⟨y, rest⟩⟩ <;> try (first | (simp only [chkE] at h; done) | (simp only [chkE] at h; cases h; done))
    simp only [chkE, Bool.and_eq_true] at h
    have na := isB h.1.1
    have nb := isB h.1.2
    have ha := simE a _ W sc X C h.2.1
    have hr := h.2.2
    have key : PE X (.BoolOp .Or (y :: rest) pos) (tE X.K exc W (globD T) run b) ∧ PW X (.BoolOp .Or (y :: rest) pos) (tT X.K exc W (globD T) run b) := by
      cases rest with
      | nil =>
        have hb := simE b _ W sc X C hr
        exact ⟨pe_one hb.pe, pw_or1 (hb.pt nb)⟩
      | cons z zs =>
        have hb := simE b _ W sc X C hr
        exact ⟨hb.pe, hb.pw rfl⟩
    have w := sim_orT C (ha.pt na) key.2
    exact ⟨sim_or C na nb ha.pe key.1, fun _ => w.pt, fun _ => w⟩
  | .not a, e, W, sc, X, C, h => by
    cases e <;> try (first | (simp only [chkE] at h; done) | (simp only [chkE] at h; cases h; done))
    rename_i op x pos
    cases op <;> try (first | (simp only [chkE] at h; done) | (simp only [chkE] at h; cases h; done))
    simp only [chkE, Bool.and_eq_true] at h
    have ha := simE a _ W sc X C h.2
    exact ⟨sim_not C (isB h.1) ha.pe, fun _ => sim_notT C (ha.pt (isB h.1)), fun z => by cases z⟩
  | .ife t a b, e, W, sc, X, C, h => by
    cases e <;> try (first | (simp only [chkE] at h; done) | (simp only [chkE] at h; cases h; done))
    simp only [chkE, Bool.and_eq_true] at h
    have ht := simE t _ W sc X C h.2.1
    have ha := simE a _ W sc X C h.2.2.1
    have hb := simE b _ W sc X C h.2.2.2
    exact ⟨sim_ife C (isB h.1.2.1) (isB h.1.2.2) (ht.pt (isB h.1.1)) ha.pe hb.pe, fun _ => sim_ifeT (sc := sc) (ht.pt (isB h.1.1)) (ha.pt (isB h.1.2.1)) (hb.pt (isB h.1.2.2)), fun z => by cases z⟩
  | .tup es, e, W, sc, X, C, h => by
    cases e <;> try (first | (simp only [chkE] at h; done) | (simp only [chkE] at h; cases h; done))
    simp only [chkE, Bool.and_eq_true] at h
    exact .val (sim_tup h.1 (simEs es _ W sc X C h.2)) rfl
  | .lst es, e, W, sc, X, C, h => by
    cases e <;> try (first | (simp only [chkE] at h; done) | (simp only [chkE] at h; cases h; done))
    simp only [chkE, Bool.and_eq_true] at h
    exact .val (sim_lst h.1 (simEs es _ W sc X C h.2)) rfl
  | .ix a i, e, W, sc, X, C, h => by
    cases e <;> try (first | (simp only [chkE] at h; done) | (simp only [chkE] at h; cases h; done))
    simp only [chkE, Bool.and_eq_true] at h
    exact .val (sim_ix h.1 (simE a _ W sc X C h.2.1).pe (simE i _ W sc X C h.2.2).pe) rfl
  | .sl a lo hi, e, W, sc, X, C, h => by
    cases e <;> try (first | (simp only [chkE] at h; done) | (simp only [chkE] at h; cases h; done))
    rename_i v s pos
    cases s <;> try (first | (simp only [chkE] at h; done) | (simp only [chkE] at h; cases h; done))
    rename_i l hh st p2
    cases st <;> try (first | (simp only [chkE] at h; done) | (simp only [chkE] at h; cases h; done))
    simp only [chkE, Bool.and_eq_true] at h
    exact .val (sim_sl (simE a _ W sc X C h.1).pe (simO lo _ W sc X C h.2.1) (simO hi _ W sc X C h.2.2)) rfl
  | .rev a, e, W, sc, X, C, h => by
    cases e <;> simp only [chkE] at h <;> cases h
  | .call f as, e, W, sc, X, C, h => by
    cases e <;> try (first | (simp only [chkE] at h; done) | (simp only [chkE] at h; cases h; done))
    rename_i fn args kws pos
    cases fn <;> try (first | (simp only [chkE] at h; done) | (simp only [chkE] at h; cases h; done))
    cases kws <;> try (first | (simp only [chkE] at h; done) | (simp only [chkE] at h; cases h; done))
    simp only [chkE, Bool.and_eq_true] at h
    have h2 := h.2.1
    split at h2
    · rename_i i q
      cases args with
      | nil =>
        cases as <;> (try (have h3 := h.2.2; simp only [chkAs] at h3; cases h3; done))
        exact .val (sim_call0 C h.1 q (of_decide_eq_true h2)) rfl
      | cons a args => exact .val (sim_call C h.1 q (of_decide_eq_true h2) (chkAs_noStar h.2.2) (simAs as _ W sc X C h.2.2)) rfl
    · cases h2
  | .bi b as, e, W, sc, X, C, h => by
    cases e <;> try (first | (simp only [chkE] at h; done) | (simp only [chkE] at h; cases h; done))
    rename_i fn args kws pos
    cases fn <;> try (first | (simp only [chkE] at h; done) | (simp only [chkE] at h; cases h; done))
    cases kws <;> (try (cases args <;> simp only [chkE] at h <;> cases h; done))
    cases args <;> try (first | (simp only [chkE] at h; done) | (simp only [chkE] at h; cases h; done))
    simp only [chkE, Bool.and_eq_true] at h
    exact .val (sim_bi C h.1 (of_decide_eq_true h.2.1) h.2.2.1 h.2.2.2.1 (chkEs_noStar h.2.2.2.2) (simEs as _ W sc X C h.2.2.2.2)) rfl
  | .me m o as, e, W, sc, X, C, h => by
    cases e <;> try (first | (simp only [chkE] at h; done) | (simp only [chkE] at h; cases h; done))
    rename_i fn args kws pos
    cases fn <;> try (first | (simp only [chkE] at h; done) | (simp only [chkE] at h; cases h; done))
    cases kws <;> rcases args with _ | ⟨a, _ | ⟨t, args⟩⟩ <;> try (first | (simp only [chkE] at h; done) | (simp only [chkE] at h; cases h; done))
    simp only [chkE, Bool.and_eq_true, decide_eq_true_eq] at h
    have hst := chkEs_noStar h.2.2.2
    simp only [List.all_cons, List.all_nil, Bool.and_true] at hst
    exact .val (sim_me1 C h.1.1.1 h.1.1.2 h.1.2.1 h.1.2.2 (isB h.2.1.1) h.2.1.2 hst (simE o _ W sc X C h.2.2.1).pe (simEs as _ W sc X C h.2.2.2)) rfl
  | .isi x ts, e, W, sc, X, C, h => by
    cases e <;> try (first | (simp only [chkE] at h; done) | (simp only [chkE] at h; cases h; done))
    rename_i fn args kws pos
    cases fn <;> try (first | (simp only [chkE] at h; done) | (simp only [chkE] at h; cases h; done))
    cases kws <;> rcases args with _ | ⟨a, _ | ⟨t, _ | ⟨u, args⟩⟩⟩ <;> try (first | (simp only [chkE] at h; done) | (simp only [chkE] at h; cases h; done))
    simp only [chkE, Bool.and_eq_true] at h
    exact .val (sim_isi C h.1 (of_decide_eq_true h.2.1) h.2.2.1 (chkE_noStar h.2.2.2.2.1) (isB h.2.2.2.1) (simE x _ W sc X C h.2.2.2.2.1).pe h.2.2.2.2.2) rfl
  | .lc own it g t x, e, W, sc, X, C, h => by
    cases e <;> try (first | (simp only [chkE] at h; done) | (simp only [chkE] at h; cases h; done))
    rename_i elt gens scope pos
    rcases gens with _ | ⟨⟨tg, iter, ifs, a⟩, _ | ⟨g2, gs⟩⟩ <;> try (first | (simp only [chkE] at h; done) | (simp only [chkE] at h; cases h; done))
    simp only [chkE, Bool.and_eq_true, decide_eq_true_eq] at h
    obtain ⟨⟨ha, h1, h2⟩, h3, ⟨⟨h4, h5⟩, h6⟩, h7, h8, h9⟩ := h
    subst ha
    have B : BlkOk X.N X.env.scope scope (own.filterMap fun i => (N[i]?).map fun x => (x, i)) := by rw [C.nm, C.sc]; exact blkOk_by h3
    have hN : X.N.Nodup := by rw [C.nm]; exact C.nd
    refine .val ((pe_lc (g := tgT X.K g) (wi := tI X.K exc W (globD T) run it) (tt := tOT X.K exc W0 (globD T) run t) (te := tE X.K exc W0 (globD T) run x) C.calm hN (simIt it _ tg W sc X C h2) B (fun s H c cl fp => sim_tg (X := X.blk s H scope (compEnvC scope cl c X.env) fp) (T := T) (sc := scope) hN C.calm (StoreOk.blk scope C.nm s H c cl fp) g tg h7)
      (fun s H c cl fp => simT t ifs W0 (relS scope sc) _ (C.blk scope s H c cl fp) h9) (fun s H c cl fp => (simE x elt W0 (relS scope sc) _ (C.blk scope s H c cl fp) h8).pe) (noSet_fold h5)).qimp fun σ H Q q => ?_) rfl
    · obtain ⟨F, M, env, rl, p⟩ := q
      rw [h4]
      exact lc_loop (by
        intro i hi
        have := List.all_eq_true.mp h6 i hi
        exact List.contains_iff_mem.mp this) (isB h1) rl p
  | .lc2 own own1 it g it2 g2 x, e, W, sc, X, C, h => by
    cases e <;> try (first | (simp only [chkE] at h; done) | (simp only [chkE] at h; cases h; done))
    rename_i elt gens scope pos
    rcases gens with _ | ⟨⟨tg, iter, ifs, a⟩, _ | ⟨⟨tg1, iter1, ifs1, a1⟩, _ | ⟨_, _⟩⟩⟩ <;> try (first | (simp only [chkE] at h; done) | (simp only [chkE] at h; cases h; done))
    cases ifs <;> cases ifs1 <;> try (first | (simp only [chkE] at h; done) | (simp only [chkE] at h; cases h; done))
    simp only [chkE, Bool.and_eq_true, decide_eq_true_eq] at h
    obtain ⟨⟨⟨ha, ha1⟩, h1, h2⟩, h3, ⟨⟨h4, h5, h5'⟩, h6, h6', h6''⟩, ⟨h7, h7'⟩, h8, h9⟩ := h
    subst ha ha1
    have mem : ∀ {a b : List Nat}, (a.all fun i => b.contains i) = true → ∀ i ∈ a, i ∈ b := fun q i hi => List.contains_iff_mem.mp (List.all_eq_true.mp q i hi)
    have B : BlkOk X.N X.env.scope scope (own.filterMap fun i => (N[i]?).map fun x => (x, i)) := by rw [C.nm, C.sc]; exact blkOk_by h3
    have hN : X.N.Nodup := by rw [C.nm]; exact C.nd
    refine .val ((pe_lc2 (vs1 := own1) (g := tgT X.K g) (g1 := tgT X.K g2) (te := tE X.K exc W0 (globD T) run x) (wi1 := tI X.K exc W0 (globD T) run it2) C.calm hN (simIt it _ tg W sc X C h2) B (by rw [h4]; exact mem h6'') (fun s H c cl fp => sim_tg (X := X.blk s H scope (compEnvC scope cl c X.env) fp) (T := T) (sc := scope) hN C.calm (StoreOk.blk scope C.nm s H c cl fp) g tg h7) (fun s H c cl fp => pts_nil)
      (fun s H c cl fp => simIt it2 iter1 tg1 W0 (relS scope sc) _ (C.blk scope s H c cl fp) h9) (fun s H c cl fp => sim_tg (X := X.blk s H scope (compEnvC scope cl c X.env) fp) (T := T) (sc := scope) hN C.calm (StoreOk.blk scope C.nm s H c cl fp) g2 tg1 h7') (fun s H c cl fp => pts_nil)
      (fun s H c cl fp => (simE x elt W0 (relS scope sc) _ (C.blk scope s H c cl fp) h8).pe) (noSet_fold h5) (fun env => noSet_fold h5')).qimp fun σ H Q q => ?_) rfl
    obtain ⟨F, M, env, rl, p⟩ := q
    rw [h4]
    exact lc2_loop (mem h6) (mem h6') (mem h6'') (isB h1) rl p
theorem simEs : ∀ (m : Es) (es : List Expr) (W : WX) (sc : Scope) (X : Cx), CtxOk T fa fd exc run n N W sc X → chkEs T N sc m es = true → PA X es (tEs X.K exc W (globD T) run m)
  | .nil, [], W, sc, X, C, h => sim_es_nil
  | .nil, _ :: _, W, sc, X, C, h => by simp only [chkEs] at h; cases h
  | .cons e es, [], W, sc, X, C, h => by simp only [chkEs] at h; cases h
  | .cons e es, x :: xs, W, sc, X, C, h => by
    simp only [chkEs, Bool.and_eq_true] at h
    exact sim_es_cons (chkE_noStar h.1) (simE e _ W sc X C h.1).pe (simEs es _ W sc X C h.2)
theorem simO : ∀ (m : Oe) (e : Option Expr) (W : WX) (sc : Scope) (X : Cx), CtxOk T fa fd exc run n N W sc X → chkO T N sc m e = true → PO X e (tOe X.K exc W (globD T) run m)
  | .none, none, W, sc, X, C, h => sim_o_none
  | .none, some _, W, sc, X, C, h => by simp only [chkO] at h; cases h
  | .some e, none, W, sc, X, C, h => by simp only [chkO] at h; cases h
  | .some e, some x, W, sc, X, C, h => by
    simp only [chkO, Bool.and_eq_true] at h
    exact sim_o_some (isB h.1) (simE e _ W sc X C h.2).pe
theorem simT : ∀ (t : Oe) (ifs : List Expr) (W : WX) (sc : Scope) (X : Cx), CtxOk T fa fd exc run n N W sc X → chkT T N sc t ifs = true → PTs X ifs (tOT X.K exc W (globD T) run t)
  | .none, [], W, sc, X, C, h => ⟨fun pins s' σ H' Q I q => pts_nil.run pins s' σ H' Q I (by
      obtain ⟨F, M, env, rl, p⟩ := q
      exact Post.here (a := true) (R := fun (d : Bool) b _ => d = b) p rl rfl)⟩
  | .none, _ :: _, W, sc, X, C, h => by simp only [chkT] at h; cases h
  | .some m, [], W, sc, X, C, h => by simp only [chkT] at h; cases h
  | .some m, _ :: _ :: _, W, sc, X, C, h => by simp only [chkT] at h; cases h
  | .some m, [c'], W, sc, X, C, h => by
    simp only [chkT, Bool.and_eq_true] at h
    exact pts_one (((simE m c' W sc X C h.2).pt (isB h.1)).qimp fun σ H Q q => by
      obtain ⟨F, M, env, rl, p⟩ := q
      refine ⟨F, M, env, rl, ?_⟩
      have e : (evE (globD T) run m env).bind asB = evT (globD T) run (.some m) env := by
        simp only [evT]
        congr 1
        funext x e1
        cases x <;> rfl
      rw [e]; exact p)
theorem simAs : ∀ (m : As) (es : List Expr) (W : WX) (sc : Scope) (X : Cx), CtxOk T fa fd exc run n N W sc X → chkAs T N sc m es = true → PA X es (tAs X.K exc W (globD T) run m)
  | .nil, [], W, sc, X, C, h => sim_as_nil
  | .nil, _ :: _, W, sc, X, C, h => by simp only [chkAs] at h; cases h
  | .val e es, [], W, sc, X, C, h => by simp only [chkAs] at h; cases h
  | .val e es, x :: xs, W, sc, X, C, h => by
    simp only [chkAs, Bool.and_eq_true] at h
    exact sim_as_val (chkE_noStar h.1) (simE e _ W sc X C h.1).pe (simAs es _ W sc X C h.2)
  | .io i es, [], W, sc, X, C, h => by simp only [chkAs] at h; cases h
  | .io i es, x :: xs, W, sc, X, C, h => by
    cases x <;> try (simp only [chkAs] at h; cases h; done)
    simp only [chkAs, Bool.and_eq_true] at h
    exact sim_as_io C h.1 (simAs es _ W sc X C h.2)
theorem simIt : ∀ (m : It) (x tg : Expr) (W : WX) (sc : Scope) (X : Cx), CtxOk T fa fd exc run n N W sc X → chkIt T N sc tg m x = true → PI X tg x (tI X.K exc W (globD T) run m)
  | .seq e, x, tg, W, sc, X, C, h => by
    simp only [chkIt, Bool.and_eq_true] at h
    exact sim_seq (isB h.1) (simE e _ W sc X C h.2).pe
  | .rng1 e, x, tg, W, sc, X, C, h => by
    cases x <;> try (simp only [chkIt] at h; cases h; done)
    rename_i fn args kws pos
    cases fn <;> try (simp only [chkIt] at h; cases h; done)
    cases kws <;> rcases args with _ | ⟨a, _ | ⟨t, args⟩⟩ <;> try (simp only [chkIt] at h; cases h; done)
    simp only [chkIt, Bool.and_eq_true] at h
    exact sim_rng1 C h.1 (of_decide_eq_true h.2.1) h.2.2.1 (isB h.2.2.2.1) (chkE_noStar h.2.2.2.2) (simE e _ W sc X C h.2.2.2.2).pe
  | .rng2 e e', x, tg, W, sc, X, C, h => by
    cases x <;> try (simp only [chkIt] at h; cases h; done)
    rename_i fn args kws pos
    cases fn <;> try (simp only [chkIt] at h; cases h; done)
    cases kws <;> rcases args with _ | ⟨a, _ | ⟨t, _ | ⟨u, args⟩⟩⟩ <;> try (simp only [chkIt] at h; cases h; done)
    simp only [chkIt, Bool.and_eq_true] at h
    exact sim_rng2 C h.1 (of_decide_eq_true h.2.1) h.2.2.1 (isB h.2.2.2.1.1) (isB h.2.2.2.1.2) (chkE_noStar h.2.2.2.2.1) (chkE_noStar h.2.2.2.2.2) (simE e _ W sc X C h.2.2.2.2.1).pe (simE e' _ W sc X C h.2.2.2.2.2).pe
  | .enum e, x, tg, W, sc, X, C, h => by
    cases x <;> try (simp only [chkIt] at h; cases h; done)
    rename_i fn args kws pos
    cases fn <;> try (simp only [chkIt] at h; cases h; done)
    cases kws <;> rcases args with _ | ⟨a, _ | ⟨t, args⟩⟩ <;> try (simp only [chkIt] at h; cases h; done)
    simp only [chkIt, Bool.and_eq_true] at h
    cases tg <;> try (have h2 := h.2; cases h2; done)
    exact sim_enum C h.1.1 (of_decide_eq_true h.1.2.1) h.1.2.2.1 (isB h.1.2.2.2.1) (chkE_noStar h.1.2.2.2.2) (simE e _ W sc X C h.1.2.2.2.2).pe
end
end
end Qh

/-! An expression changes no name's kind. -/
namespace Qh
open PySem PySem.Spec PyProof.Rows L2 PySem.W
def pat (env : En) : List Bool := env.map Sl.isOwn
theorem pat_at {env : En} {i : Nat} : (env.at i).isOwn = (pat env).getD i false := by
  unfold En.at pat
  rw [List.getD_eq_getElem?_getD, List.getD_eq_getElem?_getD, List.getElem?_map]
  cases env[i]? <;> rfl
theorem pat_set {env : En} {i : Nat} {s : Sl} (h : (env.at i).isOwn = s.isOwn) : pat (env.set i s) = pat env := by
  unfold pat
  rw [List.map_set, ← h]
  unfold En.at
  rw [List.getD_eq_getElem?_getD]
  apply List.ext_getElem?
  intro j
  rw [List.getElem?_set]
  split
  · rename_i e
    subst e
    split
    · rename_i hl
      rw [List.length_map] at hl
      rw [List.getElem?_map, List.getElem?_eq_getElem hl]
      rfl
    · rename_i hl
      rw [List.getElem?_eq_none (by omega)]
  · rfl
def Keep {α : Type} (p : List Bool) : Res α → Prop
  | .ok _ e => pat e = p
  | .exc _ e => pat e = p
  | .bad => True
theorem Keep.bind {α β : Type} {p : List Bool} {r : Res α} {k : α → En → Res β} (h : Keep p r) (hk : ∀ a e, pat e = p → Keep p (k a e)) : Keep p (r.bind k) := by
  cases r with
  | ok a e => exact hk a e h
  | exc x e => exact h
  | bad => trivial
theorem Keep.opt {α : Type} {p : List Bool} {o : Option α} {e : En} (h : pat e = p) : Keep p (opt o e) := by
  cases o with
  | none => trivial
  | some a => exact h
theorem Keep.onBl {α : Type} {p : List Bool} {x : D} {e : En} {A B : En → Res α} (ha : Keep p (A e)) (hb : Keep p (B e)) : Keep p (onBl x e A B) := by
  cases x <;> try trivial
  rename_i b
  cases b
  · exact hb
  · exact ha
theorem Keep.noExc {α : Type} {p : List Bool} {r : Res α} (h : Keep p r) : Keep p (noExc r) := by
  cases r with
  | ok a e => exact h
  | exc x e => trivial
  | bad => trivial
mutual
theorem asgT_pat : ∀ (g : Tg) (d : D) (env e' : En), asgT g d env = some e' → pat e' = pat env
  | .nm i, d, env, e', h => by
    simp only [asgT] at h
    split at h
    · cases h
    · rename_i hn
      cases h
      refine pat_set ?_
      cases q : env.at i <;> first | rfl | exact absurd q (hn _)
  | .tp gs, d, env, e', h => by
    simp only [asgT] at h
    split at h
    · exact asgTs_pat gs _ env e' h
    · cases h
theorem asgTs_pat : ∀ (gs : Tgs) (ds : List D) (env e' : En), asgTs gs ds env = some e' → pat e' = pat env
  | .nil, [], env, e', h => by simp only [asgTs, Option.some.injEq] at h; rw [h]
  | .nil, _ :: _, env, e', h => by simp only [asgTs] at h; cases h
  | .cons _ _, [], env, e', h => by simp only [asgTs] at h; cases h
  | .cons g gs, d :: ds, env, e', h => by
    simp only [asgTs] at h
    cases q : asgT g d env with
    | none => rw [q] at h; cases h
    | some e1 =>
      rw [q] at h
      rw [asgTs_pat gs ds e1 e' h, asgT_pat g d env e1 q]
end
theorem wipeE_pat {env : En} : ∀ {vs : List Nat}, (∀ i ∈ vs, (env.at i).isOwn = false) → pat (wipeE env vs) = pat env
  | [], _ => rfl
  | v :: vs, h => by
    have ih := wipeE_pat (env := env) (vs := vs) fun i hi => h i (List.mem_cons_of_mem _ hi)
    unfold wipeE
    rw [pat_set, ih]
    rw [pat_at, ih, ← pat_at, h v List.mem_cons_self]
    rfl
theorem backE_pat {orig env : En} (hp : pat env = pat orig) : ∀ {vs : List Nat}, (∀ i ∈ vs, (orig.at i).isOwn = false) → pat (backE orig env vs) = pat orig
  | [], _ => hp
  | v :: vs, h => by
    have ih := backE_pat hp (vs := vs) fun i hi => h i (List.mem_cons_of_mem _ hi)
    unfold backE
    rw [pat_set, ih]
    rw [pat_at, ih, ← pat_at, h v List.mem_cons_self]
    cases orig.at v <;> rfl
theorem putOuts_pat : ∀ (avs : List AV) (outs : List Sl) (env e' : En), putOuts avs outs env = some e' → pat e' = pat env
  | [], outs, env, e', h => by simp only [putOuts, Option.some.injEq] at h; rw [h]
  | .io i :: as, [], env, e', h => by simp [putOuts] at h
  | .dat _ :: as, [], env, e', h => by simp [putOuts] at h
  | .bo _ :: as, [], env, e', h => by simp [putOuts] at h
  | .dat _ :: as, s :: ss, env, e', h => by
    simp only [putOuts] at h
    exact putOuts_pat as ss env e' h
  | .bo _ :: as, s :: ss, env, e', h => by
    simp only [putOuts] at h
    exact putOuts_pat as ss env e' h
  | .io i :: as, s :: ss, env, e', h => by
    cases s <;> simp only [putOuts] at h <;> try (cases h; done)
    split at h
    · rename_i o' q
      obtain ⟨e1, h1, rfl⟩ := Option.map_eq_some_iff.mp h
      have := putOuts_pat as ss env e1 h1
      rw [pat_set, this]
      rw [pat_at, this, ← pat_at, q]
      rfl
    · cases h
section
variable {G : Nat → Option D} {run : Run}
theorem lcLoop_pat {body : D → En → Res (Option D)} {p : List Bool} (hb : ∀ x e, pat e = p → Keep p (body x e)) : ∀ (xs acc : List D) (env : En), pat env = p → Keep p (lcLoop body xs acc env)
  | [], acc, env, h => by
    unfold lcLoop
    split
    · exact h
    · trivial
  | x :: xs, acc, env, h => by
    unfold lcLoop
    split
    · exact (hb x env h).bind fun o e he => lcLoop_pat hb xs _ e he
    · trivial
theorem lc2Loop_pat {own own1 : List Nat} {g : D → En → Option En} {iti : En → Res (List D)} {body : D → En → Res (Option D)} {p : List Bool} (hw : ∀ e, pat e = p → pat (wipeE e own) = p) (hw1 : ∀ e, pat e = p → pat (wipeE e own1) = p)
    (hg : ∀ x e e', pat e = p → g x e = some e' → pat e' = p) (hi : ∀ e, pat e = p → Keep p (iti e)) (hb : ∀ x e, pat e = p → Keep p (body x e)) : ∀ (xs acc : List D) (env : En), pat env = p → Keep p (lc2Loop own own1 g iti body xs acc env)
  | [], acc, env, h => h
  | x :: xs, acc, env, h => by
    unfold lc2Loop
    cases q : g x env with
    | none => trivial
    | some e2 => exact (hi e2 (hg x env e2 h q)).bind fun items e3 h3 => (lcLoop_pat hb items acc _ (hw1 e3 h3)).bind fun acc' e4 h4 => lc2Loop_pat hw hw1 hg hi hb xs acc' _ (hw e4 h4)
theorem lcBody_pat {own : List Nat} {g : D → En → Option En} {t : En → Res Bool} {el : En → Res D} {p : List Bool} (hw : ∀ e, pat e = p → pat (wipeE e own) = p)
    (hg : ∀ x e e', pat e = p → g x e = some e' → pat e' = p) (ht : ∀ e, pat e = p → Keep p (t e)) (he : ∀ e, pat e = p → Keep p (el e)) (x : D) (env : En) (h : pat env = p) : Keep p (lcBody own g t el x env) := by
  unfold lcBody
  cases q : g x env with
  | none => trivial
  | some e2 =>
    refine (ht e2 (hg x env e2 h q)).bind fun b e3 h3 => ?_
    split
    · exact (he e3 h3).bind fun y e4 h4 => hw e4 h4
    · exact hw e3 h3
theorem wipe_all {own : List Nat} {e1 : En} {p : List Bool} (h1 : pat e1 = p) (h : ¬ (own.any fun i => (e1.at i).isOwn) = true) : ∀ i ∈ own, ∀ e, pat e = p → (e.at i).isOwn = false := fun i hi e he => by
  cases q : (e.at i).isOwn with
  | false => rfl
  | true =>
    exfalso
    apply h
    rw [List.any_eq_true]
    exact ⟨i, hi, by rw [pat_at, h1, ← he, ← pat_at]; exact q⟩
mutual
theorem keepE : ∀ (m : E) (p : List Bool) (env : En), pat env = p → Keep p (evE G run m env)
  | .var i, p, env, h => by simp only [evE]; exact .opt h
  | .bor i, p, env, h => by simp only [evE]; exact .opt h
  | .cst d, p, env, h => by simp only [evE]; exact h
  | .glo g, p, env, h => by simp only [evE]; exact .opt h
  | .bin op a b, p, env, h => by simp only [evE]; exact (keepE a p env h).bind fun x e1 h1 => (keepE b p e1 h1).bind fun y e2 h2 => .opt h2
  | .cmp op a b, p, env, h => by simp only [evE]; exact (keepE a p env h).bind fun x e1 h1 => (keepE b p e1 h1).bind fun y e2 h2 => .opt h2
  | .chn op op' a b c, p, env, h => by
    simp only [evE]
    refine (keepE a p env h).bind fun x e1 h1 => (keepE b p e1 h1).bind fun y e2 h2 => ?_
    split
    · exact (keepE c p e2 h2).bind fun z e3 h3 => .opt h3
    · exact h2
    · trivial
  | .and a b, p, env, h => by simp only [evE]; exact (keepE a p env h).bind fun x e1 h1 => .onBl (keepE b p e1 h1) h1
  | .or a b, p, env, h => by simp only [evE]; exact (keepE a p env h).bind fun x e1 h1 => .onBl h1 (keepE b p e1 h1)
  | .not a, p, env, h => by simp only [evE]; exact (keepE a p env h).bind fun x e1 h1 => .onBl h1 h1
  | .ife t a b, p, env, h => by simp only [evE]; exact (keepE t p env h).bind fun x e1 h1 => .onBl (keepE a p e1 h1) (keepE b p e1 h1)
  | .tup es, p, env, h => by
    simp only [evE]
    refine (keepEs es p env h).bind fun l e1 h1 => ?_
    split
    · exact h1
    · trivial
  | .lst es, p, env, h => by
    simp only [evE]
    refine (keepEs es p env h).bind fun l e1 h1 => ?_
    split
    · exact h1
    · trivial
  | .ix a i, p, env, h => by simp only [evE]; exact (keepE a p env h).bind fun x e1 h1 => (keepE i p e1 h1).bind fun y e2 h2 => .opt h2
  | .sl a lo hi, p, env, h => by simp only [evE]; exact (keepE a p env h).bind fun x e1 h1 => (keepO lo p e1 h1).bind fun y e2 h2 => (keepO hi p e2 h2).bind fun z e3 h3 => .opt h3
  | .rev a, p, env, h => by simp only [evE]; exact (keepE a p env h).bind fun x e1 h1 => .opt h1
  | .call f as, p, env, h => by
    simp only [evE]
    refine (keepAs as p env h).bind fun avs e1 h1 => ?_
    have key : ∀ outs e2, callEnd avs outs e1 = some e2 → pat e2 = p := fun outs e2 q => by
      unfold callEnd at q
      split at q
      · cases q
      · rw [putOuts_pat _ _ _ _ q, h1]
    split
    · trivial
    · split
      · split
        · rename_i q
          split
          · trivial
          · exact key _ _ q
        · trivial
      · split
        · rename_i q
          exact key _ _ q
        · trivial
      · trivial
  | .bi b as, p, env, h => by simp only [evE]; exact (keepEs as p env h).bind fun l e1 h1 => .opt h1
  | .me m o as, p, env, h => by
    simp only [evE]
    refine (keepE o p env h).bind fun x e1 h1 => ?_
    split
    · trivial
    · exact (keepEs as p e1 h1).bind fun l e2 h2 => .opt h2
  | .isi e ts, p, env, h => by simp only [evE]; exact (keepE e p env h).bind fun x e1 h1 => h1
  | .lc own it g t e, p, env, h => by
    simp only [evE]
    refine (keepIt it p env h).bind fun items e1 h1 => ?_
    split
    · trivial
    · rename_i hn
      have hw := wipe_all h1 hn
      have hw' : ∀ e, pat e = p → pat (wipeE e own) = p := fun e he => by rw [wipeE_pat fun i hi => hw i hi e he]; exact he
      refine (Keep.noExc (lcLoop_pat (lcBody_pat hw' (fun x e e' he q => by rw [asgT_pat _ _ _ _ q]; exact he) (fun e he => keepT t p e he) (fun e' he => keepE e p e' he)) items [] _ (hw' e1 h1))).bind fun l e5 h5 => ?_
      show pat _ = p
      rw [backE_pat (by rw [h5, h1]) fun i hi => hw i hi e1 h1]
      exact h1
  | .lc2 own own1 it g it2 g2 e, p, env, h => by
    simp only [evE]
    refine (keepIt it p env h).bind fun items e1 h1 => ?_
    split
    · trivial
    · rename_i hn
      rw [Bool.or_eq_true, not_or] at hn
      have hw := wipe_all h1 hn.1
      have hsub : ∀ i ∈ own1, i ∈ own := fun i hi => by
        cases q : own.contains i with
        | true => exact List.contains_iff_mem.mp q
        | false => exact absurd (List.any_eq_true.mpr ⟨i, hi, by rw [q]; rfl⟩) hn.2
      have hw' : ∀ e, pat e = p → pat (wipeE e own) = p := fun e he => by rw [wipeE_pat fun i hi => hw i hi e he]; exact he
      have hw1 : ∀ e, pat e = p → pat (wipeE e own1) = p := fun e he => by rw [wipeE_pat fun i hi => hw i (hsub i hi) e he]; exact he
      refine (Keep.noExc (lc2Loop_pat hw' hw1 (fun x e e' he q => by rw [asgT_pat _ _ _ _ q]; exact he) (fun e he => keepIt it2 p e he)
        (lcBody_pat (t := fun e => .ok true e) hw1 (fun x e e' he q => by rw [asgT_pat _ _ _ _ q]; exact he) (fun e he => he) (fun e' he => keepE e p e' he)) items [] _ (hw' e1 h1))).bind fun l e5 h5 => ?_
      show pat _ = p
      rw [backE_pat (by rw [h5, h1]) fun i hi => hw i hi e1 h1]
      exact h1
theorem keepEs : ∀ (m : Es) (p : List Bool) (env : En), pat env = p → Keep p (evEs G run m env)
  | .nil, p, env, h => by simp only [evEs]; exact h
  | .cons e es, p, env, h => by simp only [evEs]; exact (keepE e p env h).bind fun x e1 h1 => (keepEs es p e1 h1).bind fun l e2 h2 => h2
theorem keepO : ∀ (m : Oe) (p : List Bool) (env : En), pat env = p → Keep p (evO G run m env)
  | .none, p, env, h => by simp only [evO]; exact h
  | .some e, p, env, h => by
    simp only [evO]
    refine (keepE e p env h).bind fun x e1 h1 => ?_
    split
    · exact h1
    · trivial
theorem keepT : ∀ (m : Oe) (p : List Bool) (env : En), pat env = p → Keep p (evT G run m env)
  | .none, p, env, h => by simp only [evT]; exact h
  | .some e, p, env, h => by
    simp only [evT]
    refine (keepE e p env h).bind fun x e1 h1 => ?_
    split
    · exact h1
    · trivial
theorem keepAs : ∀ (m : As) (p : List Bool) (env : En), pat env = p → Keep p (evAs G run m env)
  | .nil, p, env, h => by simp only [evAs]; exact h
  | .val e as, p, env, h => by simp only [evAs]; exact (keepE e p env h).bind fun x e1 h1 => (keepAs as p e1 h1).bind fun l e2 h2 => h2
  | .io i as, p, env, h => by
    simp only [evAs]
    split
    · exact (keepAs as p env h).bind fun l e1 h1 => h1
    · trivial
theorem keepIt : ∀ (m : It) (p : List Bool) (env : En), pat env = p → Keep p (evIt G run m env)
  | .seq e, p, env, h => by
    simp only [evIt]
    refine (keepE e p env h).bind fun x e1 h1 => ?_
    split
    · exact h1
    · exact h1
    · trivial
  | .rng1 e, p, env, h => by
    simp only [evIt]
    refine (keepE e p env h).bind fun x e1 h1 => ?_
    split
    · split
      · exact h1
      · trivial
    · trivial
  | .rng2 a b, p, env, h => by
    simp only [evIt]
    refine (keepE a p env h).bind fun x e1 h1 => (keepE b p e1 h1).bind fun y e2 h2 => ?_
    split
    · split
      · exact h2
      · trivial
    · trivial
  | .enum e, p, env, h => by
    simp only [evIt]
    refine (keepE e p env h).bind fun x e1 h1 => ?_
    split
    · exact h1
    · trivial
end
end
end Qh

/-! Statements, functions, their interpreter and their check. -/
namespace Qh
open PySem PySem.Spec PyProof.Rows L2 PySem.W
inductive Ps where
  | nil
  | val (e : E) (ps : Ps)
  | new (ps : Ps)
inductive PV where
  | val (d : D) | new
mutual
inductive S where
  | skip
  | bad
  | asg (g : Tg) (e : E)
  | own (i : Nat) (es : Es)
  | par (gs : List Nat) (ps : Ps)
  | setix (i : Nat) (k e : E)
  | app (i : Nat) (e : E)
  | ext (i : Nat) (e : E)
  | ex (e : E)
  | ite (t : E) (a b : Ss)
  | for (it : It) (g : Tg) (b : Ss)
  | ret (e : E)
  | retn
  | reto (i : Nat)
inductive Ss where
  | nil
  | cons (s : S) (r : Ss)
end
inductive SR where
  | nxt (e : En) | ret (d : D) (e : En) | exc (x : Exn) (e : En) | bad
def SR.next : SR → (En → SR) → SR
  | .nxt e, k => k e
  | r, _ => r
def Res.sr {α : Type} : Res α → (α → En → SR) → SR
  | .ok a e, k => k a e
  | .exc x e, _ => .exc x e
  | .bad, _ => .bad
def optS {α : Type} (o : Option α) (k : α → SR) : SR := match o with
  | some a => k a
  | none => .bad
def forS (g : D → En → Option En) (body : En → SR) : List D → En → SR
  | [], env => .nxt env
  | x :: xs, env => match g x env with
    | none => .bad
    | some e2 => (body e2).next (forS g body xs)
def ownL (env : En) (i : Nat) : Option (List D) := match env.at i with
  | .own (.lst l) => some l
  | _ => none
def asgPs : List Nat → List PV → En → Option En
  | [], [], env => some env
  | i :: gs, .val d :: pvs, env => match env.at i with
    | .own _ => none
    | _ => asgPs gs pvs (env.set i (.dat d))
  | i :: gs, .new :: pvs, env => if i < env.length then asgPs gs pvs (env.set i (.own (.lst []))) else none
  | _, _, _ => none
section
variable (G : Nat → Option D) (run : Run)
def evPs : Ps → En → Res (List PV)
  | .nil, env => .ok [] env
  | .val e ps, env => (evE G run e env).bind fun x e1 => (evPs ps e1).bind fun l e2 => .ok (.val x :: l) e2
  | .new ps, env => (evPs ps env).bind fun l e2 => .ok (.new :: l) e2
mutual
def evS : S → En → SR
  | .skip, env => .nxt env
  | .bad, _ => .bad
  | .asg g e, env => (evE G run e env).sr fun x e1 => optS (asgT g x e1) .nxt
  | .own i es, env => (evEs G run es env).sr fun l e1 => if decide (l.length ≤ big) && decide (i < e1.length) then .nxt (e1.set i (.own (.lst l))) else .bad
  | .par gs ps, env => (evPs G run ps env).sr fun l e1 => optS (asgPs gs l e1) .nxt
  | .setix i k e, env => optS (ownL env i) fun _ => (evE G run e env).sr fun x e1 => (evE G run k e1).sr fun y e2 => match ownL e2 i, y with
    | some l, .int n => optS (L2.ixN l.length n) fun j => .nxt (e2.set i (.own (.lst (l.set j x))))
    | _, _ => .bad
  | .app i e, env => optS (ownL env i) fun _ => (evE G run e env).sr fun x e1 => optS (ownL e1 i) fun l => if l.length < big then .nxt (e1.set i (.own (.lst (l ++ [x])))) else .bad
  | .ext i e, env => optS (ownL env i) fun _ => (evE G run e env).sr fun x e1 => optS (ownL e1 i) fun l => match x with
    | .lst m => if l.length + m.length ≤ big then .nxt (e1.set i (.own (.lst (l ++ m)))) else .bad
    | _ => .bad
  | .ex e, env => (evE G run e env).sr fun _ e1 => .nxt e1
  | .ite t a b, env => ((evE G run t env).bind asB).sr fun x e1 => if x = true then evSs a e1 else evSs b e1
  | .for it g b, env => (evIt G run it env).sr fun items e1 => forS (asgT g) (evSs b) items e1
  | .ret e, env => (evE G run e env).sr fun x e1 => .ret x e1
  | .retn, env => .ret .non env
  | .reto i, env => optS (ownL env i) fun l => .ret (.lst l) env
def evSs : Ss → En → SR
  | .nil, env => .nxt env
  | .cons s r, env => (evS s env).next (evSs r)
end
end
structure Fn where
  ps : Nat
  n : Nat
  body : Ss
def outs (xs : List Sl) (env : En) : List Sl := List.zipWith (fun x e => if x.isOwn then e else x) xs env
def finish (xs : List Sl) : SR → Res D
  | .nxt env => if xs.length ≤ env.length then .ok .non (outs xs env) else .bad
  | .ret d env => if xs.length ≤ env.length then .ok d (outs xs env) else .bad
  | .exc x env => if xs.length ≤ env.length then .exc x (outs xs env) else .bad
  | .bad => .bad
def runN (G : Nat → Option D) (P : Nat → Option Fn) : Nat → Run
  | 0 => fun _ _ => .bad
  | n + 1 => fun f xs => match P f with
    | some fn => if xs.length = fn.ps then finish xs (evSs G (runN G P n) fn.body (xs ++ List.replicate (fn.n - fn.ps) .non)) else .bad
    | none => .bad

/-! ### the check -/
def isComp : Expr → Bool
  | .ListComp _ _ _ _ => true
  | .SetComp _ _ _ _ => true
  | .DictComp _ _ _ _ _ => true
  | _ => false
def isTup : Expr → Bool
  | .Tuple _ _ _ => true
  | _ => false
/-- a plain name of the def at that line -/
def swName (sc : Scope) (line : Nat) : Expr → Option Str
  | .Name x p => match sc.names.lookup x with
    | some .local => if p.line = line then some x else none
    | _ => none
  | _ => none
def lenSw (ts vs : List Expr) : Bool := (ts.length == 2 || ts.length == 3) && vs.length == ts.length
def locals2 (sc : Scope) (x : Str) : Bool := match sc.names.lookup x with
  | some .local => true
  | _ => false
/-- no plain name of the def -/
def noLoc (sc : Scope) : Expr → Bool
  | .Name x _ => !locals2 sc x
  | _ => true
/-- a display to a display that is not swapped -/
def noSw (sc : Scope) : Expr → Expr → Bool
  | .Tuple ts _ _, .Tuple vs _ _ => !lenSw ts vs || ts.any (noLoc sc)
  | .List _ _, _ => false
  | _, _ => true
def kindF (sc : Scope) : Bool := match sc.kind with
  | .function => true
  | _ => false
/-- is a list comprehension to that name stored within its block -/
def setLc (sc : Scope) (x : Str) (px : Pos) (vp : Pos) (scope : Scope) : Bool := locals2 sc x && px.line == vp.line && !(scope.names.any fun y => y.1 == x && (y.2 == .local || y.2 == .cell))
section
variable (T : Tab) (N : List Str) (ps : Nat)
def chkPs (sc : Scope) : Ps → List Expr → Bool
  | .nil, [] => true
  | .val e r, x :: xs => !isBor e && (chkE T N sc e x && chkPs sc r xs)
  | .new r, .List [] _ :: xs => chkPs sc r xs
  | _, _ => false
/-- the stores of a display, all plain names -/
def chkGs (sc : Scope) : List Nat → Ps → List Expr → Bool
  | [], .nil, [] => true
  | i :: gs, .val _ r, .Name x _ :: xs => locB N sc i x && chkGs sc gs r xs
  | i :: gs, .new r, .Name x _ :: xs => locB N sc i x && (decide (ps ≤ i) && chkGs sc gs r xs)
  | _, _, _ => false
def lineOf : List Expr → Nat
  | t :: _ => t.pos.line
  | [] => 0
def chkSw (sc : Scope) (gs : List Nat) (ts vs : List Expr) : Bool := ((ts.all fun t => !noLoc sc t) && lenSw ts vs && decide gs.Nodup) && ((ts.all fun t => t.pos.line == lineOf ts) && (!vs.all (foldedForSure 8) && !vs.all (constantsAlone 8)))
def chkAsg (sc : Scope) (g : Tg) (e : E) : Stmt → Bool
  | .Assign [tg] v _ => chkTg T N sc g tg && (!isBor e && (chkE T N sc e v && (match v with
    | .ListComp _ _ _ _ => true
    | .SetComp _ _ _ _ => false
    | .DictComp _ _ _ _ _ => false
    | _ => noSw sc tg v)))
  | _ => false
def chkOwn (sc : Scope) (i : Nat) (es : Es) : Stmt → Bool
  | .Assign [.Name x _] (.List xs _) _ => locB N sc i x && (decide (ps ≤ i) && (es.noBor && chkEs T N sc es xs))
  | _ => false
def chkPar (sc : Scope) (gs : List Nat) (r : Ps) : Stmt → Bool
  | .Assign [.Tuple ts _ _] (.Tuple vs _ _) _ => ((chkSw sc gs ts vs || (noSw sc (.Tuple ts 0 ⟨0, 0, 0, 0⟩) (.Tuple vs 0 ⟨0, 0, 0, 0⟩) && (decide (vs.length = gs.length) && decide (vs.length ≤ big)))) && chkGs N ps sc gs r ts) && chkPs T N sc r vs
  | _ => false
def chkSetix (sc : Scope) (i : Nat) (k e : E) : Stmt → Bool
  | .Assign [.Subscript (.Name x _) y _] v _ => (nameB N sc i x && plainIx y) && ((!isBor k && !isBor e) && ((!isComp v && chkE T N sc e v) && chkE T N sc k y))
  | _ => false
def chkMeth (sc : Scope) (i : Nat) (name : Str) (e : E) : Stmt → Bool
  | .Expr (.Call (.Attribute (.Name x _) m ap) [a] [] cp) _ => (nameB N sc i x && (decide (m = name) && ap.endLine == cp.line)) && (!isBor e && chkE T N sc e a)
  | _ => false
def chkEx (sc : Scope) (e : E) : Stmt → Bool
  | .Expr v _ => !isBor e && (!isComp v && chkE T N sc e v)
  | _ => false
def chkRet (sc : Scope) (e : E) : Stmt → Bool
  | .Return (some v) _ => !isBor e && chkE T N sc e v
  | _ => false
def chkRetn : Stmt → Bool
  | .Return none _ => true
  | _ => false
def chkReto (sc : Scope) (i : Nat) : Stmt → Bool
  | .Return (some (.Name x _)) _ => nameB N sc i x && decide (ps ≤ i)
  | _ => false
def isPass : Stmt → Bool
  | .Pass _ => true
  | _ => false
def ifParts : Stmt → Option (Expr × List Stmt × List Stmt)
  | .If c x y _ => some (c, x, y)
  | _ => none
def forParts : Stmt → Option (Expr × Expr × List Stmt)
  | .For tg iter body [] _ => some (tg, iter, body)
  | _ => none
mutual
def chkS (sc : Scope) : S → Stmt → Bool
  | .skip, s => isPass s
  | .bad, _ => true
  | .asg g e, s => chkAsg T N sc g e s
  | .own i es, s => chkOwn T N ps sc i es s
  | .par gs r, s => chkPar T N ps sc gs r s
  | .setix i k e, s => chkSetix T N sc i k e s
  | .app i e, s => chkMeth T N sc i "append" e s
  | .ext i e, s => chkMeth T N sc i "extend" e s
  | .ex e, s => chkEx T N sc e s
  | .ite t a b, s => match ifParts s with
    | some (c, x, y) => (!isBor t && chkE T N sc t c) && (chkSs sc a x && chkSs sc b y)
    | none => false
  | .for it g b, s => match forParts s with
    | some (tg, iter, body) => (chkIt T N sc tg it iter && noSet iter) && (chkTg T N sc g tg && chkSs sc b body)
    | none => false
  | .ret e, s => chkRet T N sc e s
  | .retn, s => chkRetn s
  | .reto i, s => chkReto N ps sc i s
def chkSs (sc : Scope) : Ss → List Stmt → Bool
  | .nil, [] => true
  | .cons s r, x :: xs => chkS sc s x && chkSs sc r xs
  | _, _ => false
end
end
end Qh

/-! What a statement leaves. -/
namespace Qh
open PySem PySem.Spec PyProof.Rows L2 PySem.W
/-- a step: what is forbidden and what is one's own may grow -/
structure Go (ps : Nat) (F M : AS) (env : En) (σ : SS) (H : Hp) (F' M' : AS) (env' : En) (σ' : SS) (H' : Hp) : Prop where
  sub : ∀ a, F a → F' a
  new : ∀ a, F' a → F a ∨ H a = none
  mnew : ∀ a, M' a → M a ∨ H a = none
  ex : Ex M H H'
  hold : ∀ j, j < ps → ∀ o, env[j]? = some (Sl.own o) → (∃ o', env'[j]? = some (Sl.own o')) ∧ σ'[j]? = σ[j]?
  fresh : ∀ (i : Nat) (o : O) (a : Addr), env'[i]? = some (Sl.own o) → σ'[i]? = some (some (V.ref a)) → (∃ o0, env[i]? = some (Sl.own o0) ∧ σ[i]? = some (some (V.ref a))) ∨ ¬ F a
section
variable {K : PySem.W.Frag} {ps : Nat} {F M F' M' F1 M1 : AS} {env env' e1 : En} {σ σ' σ1 : SS} {H H' H1 : Hp}
theorem Go.trans (a : Go ps F M env σ H F1 M1 e1 σ1 H1) (b : Go ps F1 M1 e1 σ1 H1 F' M' env' σ' H') : Go ps F M env σ H F' M' env' σ' H' where
  sub := fun x h => b.sub x (a.sub x h)
  new := fun x h => by
    rcases b.new x h with z | z
    · exact a.new x z
    · exact .inr (a.ex.toExt.free z)
  mnew := fun x h => by
    rcases b.mnew x h with z | z
    · exact a.mnew x z
    · exact .inr (a.ex.toExt.free z)
  ex := by
    refine ⟨⟨fun x o h n => ?_, fun x h => b.ex.dom x (a.ex.dom x h)⟩, fun x h => b.ex.nt x (a.ex.nt x h)⟩
    refine b.ex.keep x o (a.ex.keep x o h n) fun z => ?_
    rcases a.mnew x z with z | z
    · exact n z
    · rw [h] at z; cases z
  hold := fun j hj o h => by
    obtain ⟨⟨o1, h1⟩, q⟩ := a.hold j hj o h
    obtain ⟨h2, q2⟩ := b.hold j hj o1 h1
    exact ⟨h2, q2.trans q⟩
  fresh := fun i o x h hs => by
    rcases b.fresh i o x h hs with ⟨o1, h1, s1⟩ | n
    · exact a.fresh i o1 x h1 s1
    · exact .inr fun z => n (a.sub x z)
theorem own_pat {e1 : En} (hp : pat e1 = pat env) {j : Nat} {o : O} (h : env[j]? = some (Sl.own o)) : ∃ o', e1[j]? = some (Sl.own o') := by
  have h2 : (pat e1)[j]? = some true := by
    rw [hp]
    unfold pat
    rw [List.getElem?_map, h]
    rfl
  unfold pat at h2
  rw [List.getElem?_map] at h2
  cases q : e1[j]? with
  | none => rw [q] at h2; cases h2
  | some s =>
    rw [q] at h2
    cases s with
    | own o' => exact ⟨o', rfl⟩
    | non => simp [Sl.isOwn] at h2
    | dat d => simp [Sl.isOwn] at h2
theorem Go.expr (ex : Ex M H H1) (hp : pat e1 = pat env) : Go ps F M env σ H F M e1 σ H1 where
  sub := fun _ h => h
  new := fun _ h => .inl h
  mnew := fun _ h => .inl h
  ex := ex
  hold := fun j _ o h => ⟨own_pat hp h, rfl⟩
  fresh := fun i o a h hs => .inl (by
    obtain ⟨o0, h0⟩ := own_pat hp.symm h
    exact ⟨o0, h0, hs⟩)
theorem Go.asg (hp : pat env' = pat env) (hh : Hold env σ env' σ') : Go ps F M env σ H F M env' σ' H where
  sub := fun _ h => h
  new := fun _ h => .inl h
  mnew := fun _ h => .inl h
  ex := Ex.refl _ _
  hold := fun j _ o h => hh j o h
  fresh := fun i o a h hs => .inl (by
    obtain ⟨o0, h0⟩ := own_pat hp.symm h
    obtain ⟨_, q⟩ := hh i o0 h0
    exact ⟨o0, h0, by rw [← q]; exact hs⟩)
/-- what is returned -/
def RetR (K : PySem.W.Frag) (ps : Nat) (F : AS) (env : En) (σ : SS) (d : D) (v : V) (H : Hp) : Prop := VR K F H d v ∨ ∃ (i : Nat) (l : List D), ps ≤ i ∧ d = .lst l ∧ env[i]? = some (Sl.own (.lst l)) ∧ σ[i]? = some (some v)
def PostS (K : PySem.W.Frag) (exc : Nat → Addr) (W : WX) (ps : Nat) (F M : AS) (env : En) (σ : SS) (H : Hp) (r : SR) (D : Ends) : Prop := match r with
  | .nxt env' => ∀ F' M' σ' H', Go ps F M env σ H F' M' env' σ' H' → Rel K F' M' env' σ' H' → D.nx σ' H'
  | .ret d env' => ∀ F' M' σ' v H', Go ps F M env σ H F' M' env' σ' H' → Rel K F' M' env' σ' H' → RetR K ps F' env' σ' d v H' → D.rt v H'
  | .exc x env' => ∀ F' M' σ' cls dd H', Go ps F M env σ H F' M' env' σ' H' → Rel K F' M' env' σ' H' → ExcR exc x cls dd H' → W cls dd σ' H'
  | .bad => False
variable {exc : Nat → Addr} {W : WX}
theorem PostS.go {r : SR} {D : Ends} (p : PostS K exc W ps F M env σ H r D) (g : Go ps F M env σ H F1 M1 e1 σ1 H1) : PostS K exc W ps F1 M1 e1 σ1 H1 r D := by
  cases r with
  | nxt env' => exact fun F' M' σ' H' g' => p F' M' σ' H' (g.trans g')
  | ret d env' => exact fun F' M' σ' v H' g' => p F' M' σ' v H' (g.trans g')
  | exc x env' => exact fun F' M' σ' c d H' g' => p F' M' σ' c d H' (g.trans g')
  | bad => exact p
theorem PostS.next {r : SR} {k : En → SR} {D : Ends} {nx : SS → Hp → Prop} {bk ct : SS → Hp → Prop} (p : PostS K exc W ps F M env σ H (r.next k) D)
    (h : ∀ env1 F1 M1 σ1 H1, r = .nxt env1 → Go ps F M env σ H F1 M1 env1 σ1 H1 → Rel K F1 M1 env1 σ1 H1 → PostS K exc W ps F1 M1 env1 σ1 H1 (k env1) D → nx σ1 H1) : PostS K exc W ps F M env σ H r { D with nx := nx, bk := bk, ct := ct } := by
  cases r with
  | nxt e1 => exact fun F1 M1 σ1 H1 g rl => h e1 F1 M1 σ1 H1 rfl g rl (PostS.go (r := k e1) p g)
  | ret d e1 => exact p
  | exc x e1 => exact p
  | bad => exact p
theorem PostS.ofE {α β : Type} {R : α → β → Hp → Prop} {r : Res α} {k : α → En → SR} {D : Ends} {G : β → Hp → Prop} (p : PostS K exc W ps F M env σ H (r.sr k) D) (kp : Keep (pat env) r)
    (h : ∀ a env1 v H1, r = .ok a env1 → Ex M H H1 → Rel K F M env1 σ H1 → R a v H1 → pat env1 = pat env → PostS K exc W ps F M env1 σ H1 (k a env1) D → G v H1) : Post K exc W F M σ H R r G := by
  cases r with
  | ok a e1 => exact fun v H1 ex rl ra => h a e1 v H1 rfl ex rl ra kp (PostS.go (r := k a e1) p (Go.expr ex kp))
  | exc x e1 => exact fun c d H1 ex rl xr => p F M σ c d H1 (Go.expr ex kp) rl xr
  | bad => exact p
theorem PostS.opt {α : Type} {o : Option α} {k : α → SR} {D : Ends} (p : PostS K exc W ps F M env σ H (optS o k) D) : ∃ a, o = some a ∧ PostS K exc W ps F M env σ H (k a) D := by
  cases o with
  | none => exact p.elim
  | some a => exact ⟨a, rfl, p⟩

/-! ### objects of one's own -/
theorem set_own {i j : Nat} {s : Sl} {o : O} (h : (env.set i s)[j]? = some (Sl.own o)) : (i = j ∧ s = .own o) ∨ (i ≠ j ∧ env[j]? = some (Sl.own o)) := by
  rcases set_get h with ⟨rfl, q⟩ | ⟨n, q⟩
  · exact .inl ⟨rfl, q.symm⟩
  · exact .inr ⟨fun z => n z.symm, q⟩
/-- an object that is forbidden and no name's own becomes a name's own -/
theorem Rel.adopt (r : Rel K F M env σ H) {i : Nat} {l : Addr} {ds : List D} {vs : List V} (hF : F l) (hM : ¬ M l) (hl : H l = some (.lst vs)) (hv : VRs K F H ds vs) (hi : i < env.length) :
    Rel K F (fun a => M a ∨ a = l) (env.set i (.own (.lst ds))) (σ.set i (some (V.ref l))) H where
  len := by rw [List.length_set, List.length_set]; exact r.len
  dat := fun j d h => by
    rcases set_get h with ⟨rfl, q⟩ | ⟨n, q⟩
    · cases q
    · rw [List.getElem?_set_ne (Ne.symm n)]
      exact r.dat j d q
  own := fun j o h => by
    rcases set_own h with ⟨rfl, q⟩ | ⟨n, q⟩
    · cases q
      exact ⟨l, List.getElem?_set_self (by rw [← r.len]; exact hi), .inr rfl, vs, hl, hv⟩
    · rw [List.getElem?_set_ne n]
      obtain ⟨a, b, c, d⟩ := r.own j o q
      exact ⟨a, b, .inl c, d⟩
  apart := fun j k o o' a h h' s s' => by
    have key : ∀ (j : Nat) (o : O), j ≠ i → env[j]? = some (Sl.own o) → σ[j]? = some (some (V.ref l)) → False := fun j o _ h s => by
      obtain ⟨a, b, c, _⟩ := r.own j o h
      rw [s] at b
      cases b
      exact hM c
    rcases set_own h with ⟨rfl, q⟩ | ⟨n, q⟩ <;> rcases set_own h' with ⟨rfl, q'⟩ | ⟨n', q'⟩
    · rfl
    · rw [List.getElem?_set_self (by rw [← r.len]; exact hi)] at s
      cases s
      rw [List.getElem?_set_ne n'] at s'
      exact (key k o' (Ne.symm n') q' s').elim
    · rw [List.getElem?_set_self (by rw [← r.len]; exact hi)] at s'
      cases s'
      rw [List.getElem?_set_ne n] at s
      exact (key j o (Ne.symm n) q s).elim
    · rw [List.getElem?_set_ne n] at s
      rw [List.getElem?_set_ne n'] at s'
      exact r.apart j k o o' a q q' s s'
  sub := fun a z => by
    rcases z with z | z
    · exact r.sub a z
    · rw [z]; exact hF
  there := r.there
/-- a name's own list is changed -/
theorem Rel.put (r : Rel K F M env σ H) {i : Nat} {l : Addr} {ds ds' : List D} {vs' : List V} (hi : env[i]? = some (Sl.own (.lst ds))) (hs : σ[i]? = some (some (V.ref l))) (hv : VRs K F H ds' vs') :
    Rel K F M (env.set i (.own (.lst ds'))) σ (upd H l (.lst vs')) ∧ Ex M H (upd H l (.lst vs')) := by
  obtain ⟨l', hs', hM, vs, hl, _⟩ := r.own i _ hi
  rw [hs] at hs'
  cases hs'
  have hlt := (List.getElem?_eq_some_iff.mp hi).1
  have e : Ext (fun a => a = l) H (upd H l (.lst vs')) := Ext.put rfl (by rw [hl]; intro z; cases z)
  have hF : F l := r.sub l hM
  refine ⟨{ len := ?_, dat := ?_, own := ?_, apart := ?_, sub := r.sub, there := ?_ }, ⟨e.mono fun a z => z ▸ hM, fun a h => ?_⟩⟩
  · rw [List.length_set]; exact r.len
  · intro j d h
    rcases set_get h with ⟨rfl, q⟩ | ⟨n, q⟩
    · cases q
    · obtain ⟨v, a, b⟩ := r.dat j d q
      exact ⟨v, a, b.ext e fun a z => z ▸ hF⟩
  · intro j o h
    rcases set_own h with ⟨rfl, q⟩ | ⟨n, q⟩
    · cases q
      exact ⟨l, hs, hM, vs', upd_same, hv.ext e fun a z => z ▸ hF⟩
    · obtain ⟨a, b, c, d⟩ := r.own j o q
      have ne : a ≠ l := fun z => by
        subst z
        exact n (r.apart i j _ o a hi q hs b)
      exact ⟨a, b, c, d.ext (M' := fun a => a = l) ne e fun a z => z ▸ hF⟩
  · intro j k o o' a h h' s s'
    have key : ∀ (j : Nat) (o : O), (env.set i (Sl.own (.lst ds')))[j]? = some (Sl.own o) → ∃ o0, env[j]? = some (Sl.own o0) := fun j o h => by
      rcases set_own h with ⟨rfl, _⟩ | ⟨_, q⟩
      · exact ⟨_, hi⟩
      · exact ⟨_, q⟩
    obtain ⟨o1, h1⟩ := key j o h
    obtain ⟨o2, h2⟩ := key k o' h'
    exact r.apart j k o1 o2 a h1 h2 s s'
  · intro a z
    by_cases q : a = l
    · subst q; exact ⟨_, upd_same, fun _ z => nomatch z⟩
    · obtain ⟨o, ho, hn⟩ := r.there a z
      exact ⟨o, by rw [upd_ne q]; exact ho, hn⟩
  · by_cases q : a = l
    · subst q; exact ⟨_, upd_same, fun _ z => nomatch z⟩
    · obtain ⟨o, ho, hn⟩ := h
      exact ⟨o, by rw [upd_ne q]; exact ho, hn⟩
theorem Go.put {i : Nat} {ds ds' : List D} (hi : env[i]? = some (Sl.own (.lst ds))) (ex : Ex M H H') : Go ps F M env σ H F M (env.set i (.own (.lst ds'))) σ H' where
  sub := fun _ h => h
  new := fun _ h => .inl h
  mnew := fun _ h => .inl h
  ex := ex
  hold := fun j _ o h => by
    refine ⟨?_, rfl⟩
    by_cases e : i = j
    · subst e
      exact ⟨_, List.getElem?_set_self (List.getElem?_eq_some_iff.mp h).1⟩
    · exact ⟨o, by rw [List.getElem?_set_ne e]; exact h⟩
  fresh := fun j o a h hs => .inl (by
    rcases set_own h with ⟨rfl, _⟩ | ⟨_, q⟩
    · exact ⟨_, hi, hs⟩
    · exact ⟨_, q, hs⟩)
theorem ownL_of {i : Nat} {l : List D} (h : ownL env i = some l) : env[i]? = some (Sl.own (.lst l)) := by
  unfold ownL at h
  split at h
  · rename_i q
    cases h
    exact En.at_of q (fun z => nomatch z)
  · cases h
end
end Qh

/-! Statements, one by one. -/
namespace Qh
open PySem PySem.Spec PyProof.Rows L2 PySem.W
theorem _root_.L2.PS.qimp {X : Cx} {s : Stmt} {t t' : TS} (h : PS X s t) (i : ∀ D σ H, t' D σ H → t D σ H) : PS X s t' := ⟨fun pins s σ H D I q => h.run pins s σ H D I (i D σ H q)⟩
theorem _root_.L2.PSs.qimp {X : Cx} {s : List Stmt} {t t' : TS} (h : PSs X s t) (i : ∀ D σ H, t' D σ H → t D σ H) : PSs X s t' := ⟨fun pins s σ H D I q => h.run pins s σ H D I (i D σ H q)⟩
section
variable (K : PySem.W.Frag) (exc : Nat → Addr) (W : WX) (ps : Nat) (G : Nat → Option D) (run : Run)
def tS (m : S) : TS := fun D σ H => ∃ F M env, Rel K F M env σ H ∧ PostS K exc W ps F M env σ H (evS G run m env) D
def tSs (m : Ss) : TS := fun D σ H => ∃ F M env, Rel K F M env σ H ∧ PostS K exc W ps F M env σ H (evSs G run m env) D
end
structure StOk (T : Tab) (fa : Nat → Addr) (fd : Nat → FuncData) (exc : Nat → Addr) (run : Run) (n : Nat) (N : List Str) (W : WX) (scp : Scope) (X : Cx) : Prop extends CtxOk T fa fd exc run n N W scp X where
  pass : PassesOwn (model X.prog X.w) X.A X.env X.xe
  st : StoreOk N scp X
  kf : scp.kind = .function
section
variable {T : Tab} {fa : Nat → Addr} {fd : Nat → FuncData} {exc : Nat → Addr} {run : Run} {n : Nat} {N : List Str} {W : WX} {sc : Scope} {X : Cx} {ps : Nat}
variable {G : Nat → Option D}
/-! ### plain assignment -/
theorem asg_core {K : PySem.W.Frag} {g : Tg} {e : E} (nb : isBor e = false) {D : Ends} {σ : SS} {H : Hp} (q : tS K exc W ps G run (.asg g e) D σ H) : tAsg (tE K exc W G run e) (tgT K g) D σ H := by
  obtain ⟨F, M, env, rl, p⟩ := q
  simp only [evS] at p
  refine ⟨F, M, env, rl, p.ofE (keepE e _ env rfl) fun d e1 v H1 _ ex rl1 hv hp p1 => ?_⟩
  obtain ⟨e2, q2, p2⟩ := p1.opt
  exact asg_ok g d e1 e2 v σ _ q2 rl1 (hv.vr nb) fun σ' rl2 hold _ => p2 F M σ' H1 (Go.asg (asgT_pat g d e1 e2 q2) hold) rl2
theorem sw_not {e : Expr} {tg : Expr} {l : Nat} {env : Env} (h : isComp e = false) : swapsWithSole [tg] e l env = pure false := by
  cases e <;> first | rfl | cases h
theorem swp_not {tg e : Expr} {env : Env} (hsc : env.scope = sc) (h : noSw sc tg e = true) : swappedStores [tg] e env = pure none := by
  cases tg
  case Tuple ts k p =>
    cases e
    case Tuple vs k2 p2 =>
      simp only [noSw, Bool.or_eq_true, Bool.not_eq_true'] at h
      unfold swappedStores
      by_cases h1 : lenSw ts vs = true
      · have h2 : ts.any (noLoc sc) = true := by
          rcases h with h | h
          · rw [h1] at h; cases h
          · exact h
        have key : ∀ ts : List Expr, ts.any (noLoc sc) = true → ∀ f : Expr → Option Str, (∀ t, noLoc sc t = true → f t = none) → (ts.filterMap f).length ≠ ts.length := by
          intro ts
          induction ts with
          | nil => intro h; cases h
          | cons t r ih =>
            intro h f hf
            rw [List.filterMap_cons]
            cases q : f t with
            | none =>
              simp only [List.length_cons]
              have := List.length_filterMap_le f r
              omega
            | some x =>
              simp only [List.length_cons]
              have h3 : r.any (noLoc sc) = true := by
                rw [List.any_cons, Bool.or_eq_true] at h
                rcases h with h | h
                · rw [hf t h] at q; cases q
                · exact h
              have := ih h3 f hf
              omega
        simp only []
        split
        · rfl
        · split
          · rfl
          · split
            · rfl
            · rename_i hn
              exfalso
              apply hn
              rw [Bool.or_eq_true, bne_iff_ne]
              refine .inl (key ts h2 _ fun t ht => ?_)
              cases t <;> try rfl
              rename_i x p
              have hk : (env.kindOf x == some NameKind.local) = false := by
                show (env.scope.names.lookup x == some NameKind.local) = false
                rw [hsc]
                have ht : (!locals2 sc x) = true := ht
                unfold locals2 at ht
                generalize sc.names.lookup x = o at ht ⊢
                cases o with
                | none => rfl
                | some k => cases k <;> first | rfl | cases ht
              simp only [hk, Bool.false_and, Bool.false_eq_true, if_false]
      · simp only []
        split
        · rfl
        · rename_i hn
          exfalso
          apply hn
          unfold lenSw at h1
          rw [Bool.or_eq_true, Bool.or_eq_true, Bool.not_eq_true']
          cases h2 : (ts.length == 2 || ts.length == 3) with
          | false => exact .inl (.inl rfl)
          | true =>
            refine .inl (.inr ?_)
            rw [bne_iff_ne]
            intro z
            exact h1 (by rw [h2, z, beq_self_eq_true]; rfl)
    all_goals rfl
  case List es p => cases h
  all_goals (cases e <;> rfl)
theorem asE_one {T : Tab} {N : List Str} {sc : Scope} {g : Tg} {e : Expr} {env : Env} (h : chkTg T N sc g e = true) : (assignEach [e] env).map (·.2) = [assign e env] := by
  rw [asE_cons (chkTg_noStar h)]
  rfl
theorem sim_asg (C : StOk T fa fd exc run n N W sc X) {g : Tg} {e : E} {tg v : Expr} {pos : Pos} (nb : isBor e = false) (hg : chkTg T N sc g tg = true) (he : PE X v (tE X.K exc W G run e)) (hc : isComp v = false) (hs : noSw sc tg v = true) : PS X (.Assign [tg] v pos) ((tS X.K exc W ps G run) (.asg g e)) := by
  have hN : X.N.Nodup := by rw [C.nm]; exact C.nd
  exact (ps_asg he (sim_tg hN C.calm C.st g tg hg) (sw_not hc) (swp_not C.sc hs) (asE_one hg)).qimp fun D σ H q => asg_core nb q

/-! ### a display of one's own -/
theorem sim_own (C : StOk T fa fd exc run n N W sc X) {i : Nat} {es : Es} {x : Str} {px p2 pos : Pos} {xs : List Expr} (hx : locB N sc i x = true) (hi : ps ≤ i) (nb : es.noBor = true) (he : PA X xs (tEs X.K exc W G run es)) : PS X (.Assign [.Name x px] (.List xs p2) pos) ((tS X.K exc W ps G run) (.own i es)) := by
  have hN : X.N.Nodup := by rw [C.nm]; exact C.nd
  obtain ⟨h1, h2, h3⟩ := C.st i x hx
  refine (ps_set hN h1 h2 (pe_lst he) rfl h3).qimp fun D σ H q => ?_
  obtain ⟨F, M, env, rl, p⟩ := q
  simp only [evS] at p
  refine ⟨F, M, env, rl, p.ofE (keepEs es _ env rfl) fun ds e1 vs H1 _ ex rl1 hv hp p1 => ?_⟩
  split at p1
  · rename_i hl
    simp only [Bool.and_eq_true, decide_eq_true_eq] at hl
    have hvs := VXs.vrs nb hv
    refine ⟨by rw [← hvs.len]; exact big_line hl.1, fun a ha => ?_⟩
    have nF : ¬ F a := rl1.fresh a ha
    have nM : ¬ M a := fun z => nF (rl1.sub a z)
    have r2 := rl1.more (o := .lst vs) ha (fun _ z => nomatch z)
    have hvs2 : VRs X.K (fun b => F b ∨ b = a) (upd H1 a (.lst vs)) ds vs := (hvs.more ha).ext (M := NoM) (Ext.new ha) fun _ z => z.elim
    refine p1 (fun b => F b ∨ b = a) (fun b => M b ∨ b = a) _ _ ?_ (r2.adopt (.inr rfl) nM upd_same hvs2 hl.2)
    refine ⟨fun b z => .inl z, fun b z => ?_, fun b z => ?_, (Ext.new (M := NoM) ha).exM, fun j hj o h => ?_, fun j o b h hs => ?_⟩
    · rcases z with z | z
      · exact .inl z
      · exact .inr (by rw [z]; exact ha)
    · rcases z with z | z
      · exact .inl z
      · exact .inr (by rw [z]; exact ha)
    · have ne : i ≠ j := fun z => by omega
      exact ⟨⟨o, by rw [List.getElem?_set_ne ne]; exact h⟩, List.getElem?_set_ne ne⟩
    · rcases set_own h with ⟨rfl, _⟩ | ⟨ne, q⟩
      · have hlt : i < σ.length := by rw [← rl1.len]; exact hl.2
        rw [List.getElem?_set_self hlt] at hs
        cases hs
        exact .inr nF
      · rw [List.getElem?_set_ne ne] at hs
        exact .inl ⟨o, q, hs⟩
  · exact p1.elim

/-! ### displays side by side -/
def VPs (K : PySem.W.Frag) (F0 F M : AS) (H : Hp) : List PV → List V → Prop
  | [], vs => vs = []
  | .val d :: r, vs => ∃ v u, vs = v :: u ∧ VR K F H d v ∧ VPs K F0 F M H r u
  | .new :: r, vs => ∃ l u, vs = .ref l :: u ∧ F l ∧ ¬ F0 l ∧ ¬ M l ∧ H l = some (.lst []) ∧ VPs K (fun a => F0 a ∨ a = l) F M H r u
def PostP (K : PySem.W.Frag) (exc : Nat → Addr) (W : WX) (F M : AS) (σ : SS) (H : Hp) (r : Res (List PV)) (Q : List V → Hp → Prop) : Prop := match r with
  | .ok l env' => ∀ F' vs H', (∀ a, F a → F' a) → (∀ a, F' a → F a ∨ H a = none) → Ex M H H' → Rel K F' M env' σ H' → VPs K F F' M H' l vs → Q vs H'
  | .exc x env' => ∀ F' cls dd H', (∀ a, F a → F' a) → (∀ a, F' a → F a ∨ H a = none) → Ex M H H' → Rel K F' M env' σ H' → ExcR exc x cls dd H' → W cls dd σ H'
  | .bad => False
def tPs (K : PySem.W.Frag) (exc : Nat → Addr) (W : WX) (G : Nat → Option D) (run : Run) (m : Ps) : TA := fun σ H Q => ∃ F M env, Rel K F M env σ H ∧ PostP K exc W F M σ H (evPs G run m env) Q
section
variable {K : PySem.W.Frag} {F M F1 : AS} {σ : SS} {H H1 : Hp}
theorem VPs.less {F0 F0' F M : AS} {H : Hp} : ∀ {r : List PV} {vs : List V}, VPs K F0 F M H r vs → (∀ a, F0' a → F0 a) → VPs K F0' F M H r vs
  | [], _, h, _ => h
  | .val d :: r, _, ⟨v, u, e, a, b⟩, s => ⟨v, u, e, a, VPs.less b s⟩
  | .new :: r, _, ⟨l, u, e, a, b, c, d, f⟩, s => ⟨l, u, e, a, fun z => b (s _ z), c, d, VPs.less f fun a z => z.imp (s a) id⟩
theorem PostP.bind {α β : Type} {R : α → β → Hp → Prop} {r : Res α} {k : α → En → Res (List PV)} {Q : List V → Hp → Prop} {G : β → Hp → Prop} (p : PostP K exc W F M σ H (r.bind k) Q)
    (h : ∀ a env v H1, r = .ok a env → Ex M H H1 → Rel K F M env σ H1 → R a v H1 → PostP K exc W F M σ H1 (k a env) Q → G v H1) : Post K exc W F M σ H R r G := by
  cases r with
  | bad => exact p
  | exc x e => exact fun c d H1 ex rl xr => p F c d H1 (fun _ z => z) (fun _ z => .inl z) ex rl xr
  | ok a e =>
    intro v H1 ex rl ra
    refine h a e v H1 rfl ex rl ra ?_
    have p : PostP K exc W F M σ H (k a e) Q := p
    cases q : k a e with
    | bad => rw [q] at p; exact p
    | exc x e' => rw [q] at p; exact fun F' c d H' s f ex' => p F' c d H' s (fun a z => (f a z).imp id ex.toExt.free) (ex.trans ex')
    | ok l e' => rw [q] at p; exact fun F' vs H' s f ex' => p F' vs H' s (fun a z => (f a z).imp id ex.toExt.free) (ex.trans ex')
end
theorem pe_nil_list {p : Pos} : PE X (.List [] p) (fun σ H Q => ∀ a, H a = none → Q (.ref a) (upd H a (.lst []))) := (pe_lst pa_nil).qimp fun σ H Q h => ⟨Nat.zero_le _, h⟩
theorem sim_ps (C : CtxOk T fa fd exc run n N W sc X) : ∀ (m : Ps) (es : List Expr), chkPs T N sc m es = true → PA X es (tPs X.K exc W (globD T) run m)
  | .nil, [], _ => pa_nil.qimp fun σ H Q h => by
    obtain ⟨F, M, env, rl, p⟩ := h
    exact p F [] H (fun _ z => z) (fun _ z => .inl z) (Ex.refl _ _) rl rfl
  | .nil, _ :: _, h => by simp only [chkPs] at h; cases h
  | .val e r, [], h => by simp only [chkPs] at h; cases h
  | .new r, [], h => by simp only [chkPs] at h; cases h
  | .val e r, x :: xs, h => by
    simp only [chkPs, Bool.and_eq_true] at h
    refine (pa_cons (simE e x W sc X C h.2.1).pe (sim_ps C r xs h.2.2) (star_cons (chkE_noStar h.2.1))).qimp fun σ H Q q => ?_
    obtain ⟨F, M, env, rl, p⟩ := q
    simp only [evPs] at p
    refine ⟨F, M, env, rl, p.bind fun d e1 v H1 _ ex rl1 hv p1 => ⟨F, M, e1, rl1, ?_⟩⟩
    have hv := hv.vr (isB h.1)
    cases q : evPs (globD T) run r e1 with
    | bad => rw [q] at p1; exact p1
    | exc y e2 => rw [q] at p1; exact p1
    | ok l e2 =>
      rw [q] at p1
      intro F' vs H' s f ex' rl' hvs
      refine p1 F' (v :: vs) H' s f ex' rl' ⟨v, vs, rfl, ?_, hvs⟩
      exact (VR.mono (fun _ _ q _ => q) (fun a o e n z => by
        rcases f a z with z | z
        · exact n z
        · rw [e] at z; cases z) d v hv).ext ex'.toExt rl'.sub
  | .new r, x :: xs, h => by
    cases x <;> try (simp only [chkPs] at h; cases h; done)
    rename_i es p
    cases es with
    | cons _ _ => simp only [chkPs] at h; cases h
    | nil =>
      simp only [chkPs] at h
      refine (pa_cons pe_nil_list (sim_ps C r xs h) (star_cons rfl)).qimp fun σ H Q q => ?_
      obtain ⟨F, M, env, rl, p⟩ := q
      simp only [evPs] at p
      intro a ha
      have nF : ¬ F a := rl.fresh a ha
      have nM : ¬ M a := fun z => nF (rl.sub a z)
      refine ⟨_, M, env, rl.more (o := .lst []) ha (fun _ z => nomatch z), ?_⟩
      have ff : ∀ {F' : AS}, (∀ b, F' b → (F b ∨ b = a) ∨ upd H a (.lst []) b = none) → ∀ b, F' b → F b ∨ H b = none := fun f b z => by
        rcases f b z with (z | z) | z
        · exact .inl z
        · exact .inr (by rw [z]; exact ha)
        · exact .inr ((Ext.new (M := NoM) ha).free z)
      have e0 : Ex M H (upd H a (.lst [])) := (Ext.new (M := NoM) ha).exM
      cases q : evPs (globD T) run r env with
      | bad => rw [q] at p; exact p
      | exc y e2 => rw [q] at p; exact fun F' c d H' s f ex' => p F' c d H' (fun b z => s b (.inl z)) (ff f) (e0.trans ex')
      | ok l e2 =>
        rw [q] at p
        intro F' vs H' s f ex' rl' hvs
        exact p F' (.ref a :: vs) H' (fun b z => s b (.inl z)) (ff f) (e0.trans ex') rl' ⟨a, vs, rfl, s a (.inr rfl), nF, nM, ex'.keep a _ upd_same nM, hvs⟩
def setAll : List Nat → List V → SS → SS
  | i :: gs, v :: vs, σ => setAll gs vs (σ.set i (some v))
  | _, _, σ => σ
/-- the kept and the new among one's own -/
def Kept (ps : Nat) (F0 : AS) (env : En) (σ : SS) (env' : En) (σ' : SS) : Prop :=
  (∀ j, j < ps → ∀ o, env[j]? = some (Sl.own o) → (∃ o', env'[j]? = some (Sl.own o')) ∧ σ'[j]? = σ[j]?) ∧
  ∀ (i : Nat) (o : O) (a : Addr), env'[i]? = some (Sl.own o) → σ'[i]? = some (some (V.ref a)) → (∃ o0, env[i]? = some (Sl.own o0) ∧ σ[i]? = some (some (V.ref a))) ∨ ¬ F0 a
theorem Kept.trans {F0 F1 : AS} {env e1 e2 : En} {σ σ1 σ2 : SS} (a : Kept ps F0 env σ e1 σ1) (b : Kept ps F1 e1 σ1 e2 σ2) (s : ∀ a, F0 a → F1 a) : Kept ps F0 env σ e2 σ2 :=
  ⟨fun j hj o h => by
    obtain ⟨⟨o1, h1⟩, q⟩ := a.1 j hj o h
    obtain ⟨h2, q2⟩ := b.1 j hj o1 h1
    exact ⟨h2, q2.trans q⟩, fun i o x h hs => by
    rcases b.2 i o x h hs with ⟨o1, h1, s1⟩ | n
    · exact a.2 i o1 x h1 s1
    · exact .inr fun z => n (s _ z)⟩
theorem asgPs_ok {K : PySem.W.Frag} {H : Hp} {F : AS} : ∀ (gs : List Nat) (m : Ps) (l : List PV) (ts : List Expr) (vs : List V) (env env' : En) (σ : SS) (F0 M : AS), chkGs N ps sc gs m ts = true → (∃ r e, evPs G run m r = .ok l e) → asgPs gs l env = some env' → Rel K F M env σ H → (∀ a, F0 a → F a) → VPs K F0 F M H l vs →
    ∃ M', Rel K F M' env' (setAll gs vs σ) H ∧ (∀ a, M' a → M a ∨ (F a ∧ ¬ F0 a)) ∧ Kept ps F0 env σ env' (setAll gs vs σ) := by
  intro gs
  induction gs with
  | nil =>
    intro m l ts vs env env' σ F0 M hc hl ha rl s hv
    cases l with
    | nil =>
      cases ha
      exact ⟨M, by cases vs <;> exact rl, fun a z => .inl z, by
        have : setAll [] vs σ = σ := by cases vs <;> rfl
        rw [this]
        exact ⟨fun j _ o h => ⟨⟨o, h⟩, rfl⟩, fun i o a h hs => .inl ⟨o, h, hs⟩⟩⟩
    | cons _ _ => simp only [asgPs] at ha; cases ha
  | cons i gs ih =>
    intro m l ts vs env env' σ F0 M hc hl ha rl s hv
    cases l with
    | nil => simp only [asgPs] at ha; cases ha
    | cons pv l =>
      cases pv with
      | val d =>
        obtain ⟨v, u, rfl, h1, h2⟩ := hv
        cases m with
        | nil => obtain ⟨r, e, q⟩ := hl; simp only [evPs] at q; cases q
        | new m =>
          obtain ⟨r, e, q⟩ := hl
          simp only [evPs] at q
          cases q2 : evPs G run m r <;> rw [q2] at q <;> simp only [Res.bind] at q <;> cases q
        | val e0 m =>
          obtain ⟨t, ts', rfl⟩ : ∃ t ts', ts = t :: ts' := by
            cases ts with
            | nil => simp only [chkGs] at hc; cases hc
            | cons t ts' => exact ⟨t, ts', rfl⟩
          cases t <;> try (simp only [chkGs] at hc; cases hc; done)
          simp only [chkGs, Bool.and_eq_true] at hc
          have hl' : ∃ r e, evPs G run m r = .ok l e := by
            obtain ⟨r, e, q⟩ := hl
            simp only [evPs] at q
            cases q2 : evE G run e0 r with
            | bad => rw [q2] at q; cases q
            | exc _ _ => rw [q2] at q; cases q
            | ok x e1 =>
              rw [q2] at q
              simp only [Res.bind] at q
              cases q3 : evPs G run m e1 with
              | bad => rw [q3] at q; cases q
              | exc _ _ => rw [q3] at q; cases q
              | ok l' e2 => rw [q3] at q; cases q; exact ⟨_, _, q3⟩
          have key : (∀ o, env[i]? ≠ some (Sl.own o)) ∧ asgPs gs l (env.set i (.dat d)) = some env' := by
            simp only [asgPs] at ha
            split at ha
            · cases ha
            · rename_i hn
              refine ⟨fun o e => hn o ?_, ha⟩
              unfold En.at
              rw [List.getD_eq_getElem?_getD, e]
              rfl
          obtain ⟨M', r', hm, kp⟩ := ih m l ts' u _ env' (σ.set i (some v)) F0 M hc.2 hl' key.2 (rl.set h1 key.1) s h2
          refine ⟨M', r', hm, Kept.trans (F1 := F0) (e1 := env.set i (.dat d)) (σ1 := σ.set i (some v)) ⟨fun j _ o h => ?_, fun j o a h hs => ?_⟩ kp fun _ z => z⟩
          · have ne : i ≠ j := fun z => by subst z; exact key.1 o h
            exact ⟨⟨o, by rw [List.getElem?_set_ne ne]; exact h⟩, List.getElem?_set_ne ne⟩
          · rcases set_own h with ⟨_, q⟩ | ⟨ne, q⟩
            · cases q
            · rw [List.getElem?_set_ne ne] at hs
              exact .inl ⟨o, q, hs⟩
      | new =>
        obtain ⟨a, u, rfl, hF, n0, nM, hl0, h2⟩ := hv
        cases m with
        | nil => obtain ⟨r, e, q⟩ := hl; simp only [evPs] at q; cases q
        | val e0 m =>
          obtain ⟨r, e, q⟩ := hl
          simp only [evPs] at q
          cases q2 : evE G run e0 r <;> rw [q2] at q <;> simp only [Res.bind] at q <;> try (cases q; done)
          rename_i e1
          cases q3 : evPs G run m e1 <;> rw [q3] at q <;> simp only [Res.bind] at q <;> cases q
        | new m =>
          obtain ⟨t, ts', rfl⟩ : ∃ t ts', ts = t :: ts' := by
            cases ts with
            | nil => simp only [chkGs] at hc; cases hc
            | cons t ts' => exact ⟨t, ts', rfl⟩
          cases t <;> try (simp only [chkGs] at hc; cases hc; done)
          simp only [chkGs, Bool.and_eq_true, decide_eq_true_eq] at hc
          have hl' : ∃ r e, evPs G run m r = .ok l e := by
            obtain ⟨r, e, q⟩ := hl
            simp only [evPs] at q
            cases q3 : evPs G run m r with
            | bad => rw [q3] at q; cases q
            | exc _ _ => rw [q3] at q; cases q
            | ok l' e2 => rw [q3] at q; cases q; exact ⟨_, _, q3⟩
          simp only [asgPs] at ha
          split at ha
          · rename_i hi
            have h3 : VPs K (fun b => F0 b ∨ b = a) F (fun b => M b ∨ b = a) H l u := by
              have : ∀ (l : List PV) (u : List V) (P : AS), (P a) → VPs K P F M H l u → VPs K P F (fun b => M b ∨ b = a) H l u := by
                intro l
                induction l with
                | nil => intro u P hP h; exact h
                | cons pv l ih =>
                  intro u P hP h
                  cases pv with
                  | val d => obtain ⟨v, w, e, x, y⟩ := h; exact ⟨v, w, e, x, ih w P hP y⟩
                  | new =>
                    obtain ⟨b, w, e, x1, x2, x3, x4, x5⟩ := h
                    refine ⟨b, w, e, x1, x2, fun z => ?_, x4, ih w _ (.inl hP) x5⟩
                    rcases z with z | z
                    · exact x3 z
                    · rw [z] at x2; exact x2 hP
              exact this l u _ (.inr rfl) h2
            obtain ⟨M', r', hm, kp⟩ := ih m l ts' u _ env' (σ.set i (some (.ref a))) (fun b => F0 b ∨ b = a) (fun b => M b ∨ b = a) hc.2.2 hl' ha (rl.adopt hF nM hl0 (VRs.nil_iff.mpr rfl) hi) (fun b z => by
              rcases z with z | z
              · exact s b z
              · rw [z]; exact hF) h3
            refine ⟨M', r', fun b z => ?_, Kept.trans (F1 := fun b => F0 b ∨ b = a) (e1 := env.set i (.own (.lst []))) (σ1 := σ.set i (some (.ref a))) ⟨fun j hj o h => ?_, fun j o b h hs => ?_⟩ kp fun _ z => .inl z⟩
            · rcases hm b z with (z | z) | ⟨z1, z2⟩
              · exact .inl z
              · exact .inr ⟨by rw [z]; exact hF, by rw [z]; exact n0⟩
              · exact .inr ⟨z1, fun q => z2 (.inl q)⟩
            · have ne : i ≠ j := fun z => by have := hc.2.1; omega
              exact ⟨⟨o, by rw [List.getElem?_set_ne ne]; exact h⟩, List.getElem?_set_ne ne⟩
            · rcases set_own h with ⟨rfl, _⟩ | ⟨ne, q⟩
              · rw [List.getElem?_set_self (by rw [← rl.len]; exact hi)] at hs
                cases hs
                exact .inr n0
              · rw [List.getElem?_set_ne ne] at hs
                exact .inl ⟨o, q, hs⟩
          · cases ha
end
end Qh

/-! Statements, the rest; a def's body. -/
namespace Qh
open PySem PySem.Spec PyProof.Rows L2 PySem.W
theorem dups2 {x y : Str} (h : x ≠ y) : [x, y].eraseDups.length = 2 := by
  have h1 : (y == x) = false := by rw [beq_eq_false_iff_ne]; exact Ne.symm h
  simp [List.eraseDups, List.eraseDupsBy, List.eraseDupsBy.loop, h1]
theorem dups3 {x y z : Str} (h : x ≠ y) (h2 : x ≠ z) (h3 : y ≠ z) : [x, y, z].eraseDups.length = 3 := by
  have h1 : (y == x) = false := by rw [beq_eq_false_iff_ne]; exact Ne.symm h
  have h4 : (z == x) = false := by rw [beq_eq_false_iff_ne]; exact Ne.symm h2
  have h5 : (z == y) = false := by rw [beq_eq_false_iff_ne]; exact Ne.symm h3
  simp [List.eraseDups, List.eraseDupsBy, List.eraseDupsBy.loop, h1, h4, h5]
theorem nodup_ne {N : List Str} (hN : N.Nodup) {i j : Nat} {x y : Str} (hi : N[i]? = some x) (hj : N[j]? = some y) (h : i ≠ j) : x ≠ y := fun e => by
  subst e
  obtain ⟨h1, h2⟩ := List.getElem?_eq_some_iff.mp hi
  obtain ⟨h3, h4⟩ := List.getElem?_eq_some_iff.mp hj
  exact h ((List.getElem_inj hN).mp (h2.trans h4.symm))
theorem noStar_m {e : Expr} (h : noStar e = true) : (match e with | .Starred .. => true | _ => false) = false := by
  cases e <;> first | rfl | cases h
theorem sw2 {x y : Str} {px py pt p2 : Pos} {k k2 a b} {env : Env} (hb : env.blockKind = .function) (hx : env.kindOf x = some .local) (hy : env.kindOf y = some .local) (hl : py.line = px.line) (hne : x ≠ y) (ha : noStar a = true) (hb' : noStar b = true)
    (hf : [a, b].all (foldedForSure 8) = false) (hc : [a, b].all (constantsAlone 8) = false) : swappedStores [.Tuple [.Name x px, .Name y py] k pt] (.Tuple [a, b] k2 p2) env = pure (some [x, y]) := by
  have e1 : (env.blockKind != ScopeKind.function) = false := by rw [hb]; rfl
  have e2 : (env.kindOf x == some NameKind.local) = true := by rw [hx]; rfl
  have e3 : (env.kindOf y == some NameKind.local) = true := by rw [hy]; rfl
  have e4 : (py.line == px.line) = true := by rw [hl]; exact beq_self_eq_true _
  have hp : (Expr.Name x px).pos = px := rfl
  unfold swappedStores
  simp only [List.length_cons, List.length_nil, List.head?_cons, Option.map_some, Option.getD_some, List.any_cons, List.any_nil, List.filterMap_cons, List.filterMap_nil, e1, e2, e3, hp, e4, beq_self_eq_true, Bool.and_self, if_true, hf, hc, Bool.or_false, dups2 hne]
  refine (if_neg (by decide)).trans ((if_neg ?_).trans rfl)
  intro h
  rw [Bool.or_eq_true] at h
  rcases h with h | h
  · cases a <;> first | (cases ha; done) | (cases h; done)
  · cases b <;> first | (cases hb'; done) | (cases h; done)
theorem sw3 {x y z : Str} {px py pz pt p2 : Pos} {k k2 a b c} {env : Env} (hb : env.blockKind = .function) (hx : env.kindOf x = some .local) (hy : env.kindOf y = some .local) (hz : env.kindOf z = some .local) (hl : py.line = px.line) (hl2 : pz.line = px.line) (hne : x ≠ y) (hne2 : x ≠ z) (hne3 : y ≠ z) (ha : noStar a = true) (hb' : noStar b = true) (hc' : noStar c = true)
    (hf : [a, b, c].all (foldedForSure 8) = false) (hc : [a, b, c].all (constantsAlone 8) = false) : swappedStores [.Tuple [.Name x px, .Name y py, .Name z pz] k pt] (.Tuple [a, b, c] k2 p2) env = pure (some [x, y, z]) := by
  have e1 : (env.blockKind != ScopeKind.function) = false := by rw [hb]; rfl
  have e2 : (env.kindOf x == some NameKind.local) = true := by rw [hx]; rfl
  have e3 : (env.kindOf y == some NameKind.local) = true := by rw [hy]; rfl
  have e5 : (env.kindOf z == some NameKind.local) = true := by rw [hz]; rfl
  have e4 : (py.line == px.line) = true := by rw [hl]; exact beq_self_eq_true _
  have e6 : (pz.line == px.line) = true := by rw [hl2]; exact beq_self_eq_true _
  have hp : (Expr.Name x px).pos = px := rfl
  unfold swappedStores
  simp only [List.length_cons, List.length_nil, List.head?_cons, Option.map_some, Option.getD_some, List.any_cons, List.any_nil, List.filterMap_cons, List.filterMap_nil, e1, e2, e3, e5, hp, e4, e6, beq_self_eq_true, Bool.and_self, if_true, hf, hc, Bool.or_false, dups3 hne hne2 hne3]
  refine (if_neg (by decide)).trans ((if_neg ?_).trans rfl)
  intro h
  rw [Bool.or_eq_true, Bool.or_eq_true] at h
  rcases h with h | h | h
  · cases a <;> first | (cases ha; done) | (cases h; done)
  · cases b <;> first | (cases hb'; done) | (cases h; done)
  · cases c <;> first | (cases hc'; done) | (cases h; done)
section
variable {T : Tab} {fa : Nat → Addr} {fd : Nat → FuncData} {exc : Nat → Addr} {run : Run} {n : Nat} {N : List Str} {W : WX} {sc : Scope} {X : Cx} {ps : Nat}
theorem StOk.bk (C : StOk T fa fd exc run n N W sc X) : X.env.blockKind = .function := by
  unfold Env.blockKind
  rw [C.sc, C.kf]
  rfl
theorem StOk.kd (C : StOk T fa fd exc run n N W sc X) {x : Str} (h : locals2 sc x = true) : X.env.scope.names.lookup x = some .local := by
  rw [C.sc]
  unfold locals2 at h
  split at h
  · assumption
  · cases h
theorem locB_n {i : Nat} {x : Str} (h : locB N sc i x = true) : N[i]? = some x := by
  unfold locB at h
  simp only [Bool.and_eq_true, decide_eq_true_eq] at h
  exact h.1
theorem noLoc_l {x : Str} {p : Pos} (h : noLoc sc (.Name x p) = false) : locals2 sc x = true := by
  unfold noLoc at h
  simpa using h
theorem ps_noStar : ∀ {m : Ps} {es : List Expr}, chkPs T N sc m es = true → es.all noStar = true
  | .nil, [], _ => rfl
  | .nil, _ :: _, h => by simp only [chkPs] at h; cases h
  | .val e r, [], h => by simp only [chkPs] at h; cases h
  | .new r, [], h => by simp only [chkPs] at h; cases h
  | .val e r, x :: xs, h => by
    simp only [chkPs, Bool.and_eq_true] at h
    simp only [List.all_cons, Bool.and_eq_true]
    exact ⟨chkE_noStar h.2.1, ps_noStar h.2.2⟩
  | .new r, x :: xs, h => by
    cases x <;> try (simp only [chkPs] at h; cases h; done)
    rename_i es p
    cases es with
    | cons _ _ => simp only [chkPs] at h; cases h
    | nil =>
      simp only [chkPs] at h
      simp only [List.all_cons, Bool.and_eq_true]
      exact ⟨rfl, ps_noStar h⟩
theorem gs_inv : ∀ {gs : List Nat} {m : Ps} {ts : List Expr}, chkGs N ps sc gs m ts = true → gs.length = ts.length ∧ ∀ (k : Nat) (t : Expr), ts[k]? = some t → ∃ i x p, gs[k]? = some i ∧ t = .Name x p ∧ locB N sc i x = true
  | [], .nil, [], _ => ⟨rfl, fun k t h => by simp at h⟩
  | [], .nil, _ :: _, h => by simp only [chkGs] at h; cases h
  | [], .val _ _, _, h => by simp only [chkGs] at h; cases h
  | [], .new _, _, h => by simp only [chkGs] at h; cases h
  | _ :: _, .nil, _, h => by simp only [chkGs] at h; cases h
  | _ :: _, .val _ _, [], h => by simp only [chkGs] at h; cases h
  | _ :: _, .new _, [], h => by simp only [chkGs] at h; cases h
  | i :: gs, .val e r, x :: xs, h => by
    cases x <;> try (simp only [chkGs] at h; cases h; done)
    rename_i x p
    simp only [chkGs, Bool.and_eq_true, decide_eq_true_eq] at h
    obtain ⟨h1, h2⟩ := gs_inv h.2
    refine ⟨by simp only [List.length_cons, h1], fun k t hk => ?_⟩
    cases k with
    | zero => cases hk; exact ⟨i, x, p, rfl, rfl, h.1⟩
    | succ k => exact h2 k t hk
  | i :: gs, .new r, x :: xs, h => by
    cases x <;> try (simp only [chkGs] at h; cases h; done)
    rename_i x p
    simp only [chkGs, Bool.and_eq_true, decide_eq_true_eq] at h
    obtain ⟨h1, h2⟩ := gs_inv h.2.2
    refine ⟨by simp only [List.length_cons, h1], fun k t hk => ?_⟩
    cases k with
    | zero => cases hk; exact ⟨i, x, p, rfl, rfl, h.1⟩
    | succ k => exact h2 k t hk
theorem VPs.ext {K : PySem.W.Frag} {F M : AS} {H H' : Hp} (e : Ex NoM H H') : ∀ {F0 : AS} {l : List PV} {us : List V}, VPs K F0 F M H l us → VPs K F0 F M H' l us
  | _, [], _, h => h
  | _, .val d :: l, _, ⟨v, u, e1, h1, h2⟩ => ⟨v, u, e1, h1.ext e.toExt (fun _ z => z.elim), VPs.ext e h2⟩
  | _, .new :: l, _, ⟨v, u, e1, a, b, c, d, h2⟩ => ⟨v, u, e1, a, b, c, e.keep _ _ d (fun z => z), VPs.ext e h2⟩
theorem par_core {gs : List Nat} {m : Ps} {ts : List Expr} (hg : chkGs N ps sc gs m ts = true) {D : Ends} {σ : SS} {H : Hp} (q : tS X.K exc W ps (globD T) run (.par gs m) D σ H) : tPs X.K exc W (globD T) run m σ H fun vs H1 => ∀ H2, Ex NoM H1 H2 → D.nx (setAll gs vs σ) H2 := by
  obtain ⟨F, M, env, rl, p⟩ := q
  simp only [evS] at p
  refine ⟨F, M, env, rl, ?_⟩
  have kp : Keep (pat env) (evPs (globD T) run m env) := by
    have : ∀ (m : Ps) (env : En) (p : List Bool), pat env = p → Keep p (evPs (globD T) run m env) := by
      intro m
      induction m with
      | nil => intro env p h; exact h
      | val e r ih => intro env p h; exact (keepE e p env h).bind fun x e1 h1 => (ih e1 p h1).bind fun l e2 h2 => h2
      | new r ih => intro env p h; exact (ih env p h).bind fun l e2 h2 => h2
    exact this m env _ rfl
  cases q : evPs (globD T) run m env with
  | bad => rw [q] at p; exact p
  | exc x e1 =>
    rw [q] at p kp
    intro F' c d H' s f ex rl' xr
    refine p F' M σ c d H' ⟨s, f, fun a z => .inl z, ex, fun j _ o h => ⟨own_pat kp h, rfl⟩, fun i o a h hs => ?_⟩ rl' xr
    obtain ⟨o0, h0⟩ := own_pat kp.symm h
    exact .inl ⟨o0, h0, hs⟩
  | ok l e1 =>
    rw [q] at p kp
    have p : PostS X.K exc W ps F M env σ H (optS (asgPs gs l e1) .nxt) D := p
    obtain ⟨e2, q2, p2⟩ := p.opt
    intro F' vs H1 s f ex rl1 hv H' exn
    have rl' := rl1.ext exn
    have ex := ex.trans (exn.mono fun _ z => z.elim)
    have hv := hv.ext exn
    obtain ⟨M', r', hm, kp2⟩ := asgPs_ok (G := globD T) (run := run) gs m l ts vs e1 e2 σ F M hg ⟨env, e1, q⟩ q2 rl' s hv
    refine p2 F' M' _ H' ⟨s, f, fun a z => ?_, ex, fun j hj o h => ?_, fun i o a h hs => ?_⟩ r'
    · rcases hm a z with z | ⟨z1, z2⟩
      · exact .inl z
      · exact .inr ((f a z1).resolve_left z2)
    · obtain ⟨o1, h1⟩ := own_pat kp h
      exact kp2.1 j hj o1 h1
    · rcases kp2.2 i o a h hs with ⟨o1, h1, s1⟩ | z
      · obtain ⟨o0, h0⟩ := own_pat kp.symm h1
        exact .inl ⟨o0, h0, s1⟩
      · exact .inr z
theorem VPs.len {K : PySem.W.Frag} {F' M : AS} {H' : Hp} : ∀ {F0 : AS} (l : List PV) (us : List V), VPs K F0 F' M H' l us → us.length = l.length
  | _, [], _, h => by cases h; rfl
  | _, .val d :: l, _, ⟨v, u, e, _, h2⟩ => by subst e; simp only [List.length_cons, VPs.len l u h2]
  | _, .new :: l, _, ⟨v, u, e, _, _, _, _, h2⟩ => by subst e; simp only [List.length_cons, VPs.len l u h2]
theorem ps_len {G : Nat → Option D} : ∀ (m : Ps) (es : List Expr) (env e2 : En) (l : List PV), chkPs T N sc m es = true → evPs G run m env = .ok l e2 → l.length = es.length := by
  intro m
  induction m with
  | nil =>
    intro es env e2 l h q
    cases es with
    | nil => simp only [evPs] at q; cases q; rfl
    | cons _ _ => simp only [chkPs] at h; cases h
  | val e r ih =>
    intro es env e2 l h q
    cases es with
    | nil => simp only [chkPs] at h; cases h
    | cons x xs =>
      simp only [chkPs, Bool.and_eq_true] at h
      simp only [evPs] at q
      cases q1 : evE G run e env <;> rw [q1] at q <;> simp only [Res.bind] at q <;> try (cases q; done)
      rename_i e3
      cases q2 : evPs G run r e3 <;> rw [q2] at q <;> simp only [Res.bind] at q <;> try (cases q; done)
      cases q
      simp only [List.length_cons, ih xs _ _ _ h.2.2 q2]
  | new r ih =>
    intro es env e2 l h q
    cases es with
    | nil => simp only [chkPs] at h; cases h
    | cons x xs =>
      have h' : chkPs T N sc r xs = true := by
        cases x <;> try (simp only [chkPs] at h; cases h; done)
        rename_i es p
        cases es with
        | cons _ _ => simp only [chkPs] at h; cases h
        | nil => simpa only [chkPs] using h
      simp only [evPs] at q
      cases q2 : evPs G run r env <;> rw [q2] at q <;> simp only [Res.bind] at q <;> try (cases q; done)
      cases q
      simp only [List.length_cons, ih xs _ _ _ h' q2]
theorem sim_par (C : StOk T fa fd exc run n N W sc X) {gs : List Nat} {m : Ps} {ts vs : List Expr} {k k2} {pt p2 pos : Pos} (hs : chkSw sc gs ts vs = true) (hg : chkGs N ps sc gs m ts = true) (hv : chkPs T N sc m vs = true) :
    PS X (.Assign [.Tuple ts k pt] (.Tuple vs k2 p2) pos) (tS X.K exc W ps (globD T) run (.par gs m)) := by
  have hN : X.N.Nodup := by rw [C.nm]; exact C.nd
  have hPA := sim_ps (W := W) C.toCtxOk m vs hv
  unfold chkSw at hs
  simp only [Bool.and_eq_true, decide_eq_true_eq, Bool.not_eq_true', List.all_eq_true, beq_iff_eq] at hs
  obtain ⟨⟨⟨hlc, hl⟩, hnd⟩, hln, hf, hc⟩ := hs
  obtain ⟨hgl, hgi⟩ := gs_inv hg
  have hst := ps_noStar hv
  unfold lenSw at hl
  simp only [Bool.and_eq_true, Bool.or_eq_true, beq_iff_eq] at hl
  rcases hl with ⟨hl | hl, hl2⟩
  · match ts, hl, gs, hgl, vs, hl2, hgi, hst, hPA, hf, hc, hln, hnd, hg, hv, hlc with
    | [t, u], _, [i, j], _, [a, b], _, hgi, hst, hPA, hf, hc, hln, hnd, hg, hv, hlc =>
      obtain ⟨i', x, px, e1, rfl, bx⟩ := hgi 0 t rfl
      cases e1
      have nx := locB_n bx
      have lx := noLoc_l (hlc (.Name x px) (by simp))
      obtain ⟨j', y, py, e1, rfl, bY⟩ := hgi 1 u rfl
      cases e1
      have ny := locB_n bY
      have ly := noLoc_l (hlc (.Name y py) (by simp))
      have hij : i ≠ j := by
        intro z; subst z; simp at hnd
      have l1 := hln (.Name y py) (by simp)
      simp only [lineOf, Expr.pos] at l1
      simp only [List.all_cons, List.all_nil, Bool.and_true, Bool.and_eq_true] at hst
      exact (ps_par C.calm hN (by rw [C.nm]; exact nx) (by rw [C.nm]; exact ny) hij (C.kd lx) (C.kd ly) hPA (sw2 C.bk (C.kd lx) (C.kd ly) l1 (nodup_ne C.nd nx ny hij) hst.1 hst.2 hf hc)).qimp fun D σ H q => by
        obtain ⟨F, M, env, rl, p⟩ := par_core (X := X) hg q
        refine ⟨F, M, env, rl, ?_⟩
        cases q2 : evPs (globD T) run m env with
        | bad => rw [q2] at p; exact p
        | exc y e2 => rw [q2] at p; exact p
        | ok l e2 =>
          rw [q2] at p
          intro F' us H' s f ex rl' hvs
          have p3 := p F' us H' s f ex rl' hvs
          have hlen : us.length = 2 := by
            rw [VPs.len l us hvs, ps_len m [a, b] env e2 l hv q2]
            rfl
          match us, hlen, p3 with
          | [v, w], _, p3 => exact ⟨v, w, rfl, p3 _ (Ex.refl _ _)⟩
  · match ts, hl, gs, hgl, vs, hl2, hgi, hst, hPA, hf, hc, hln, hnd, hg, hv, hlc with
    | [t, u, r], _, [i, j, k], _, [a, b, c], _, hgi, hst, hPA, hf, hc, hln, hnd, hg, hv, hlc =>
      obtain ⟨i', x, px, e1, rfl, bx⟩ := hgi 0 t rfl
      cases e1
      have nx := locB_n bx
      have lx := noLoc_l (hlc (.Name x px) (by simp))
      obtain ⟨j', y, py, e1, rfl, bY⟩ := hgi 1 u rfl
      cases e1
      have ny := locB_n bY
      have ly := noLoc_l (hlc (.Name y py) (by simp))
      obtain ⟨k', z, pz, e1, rfl, bz⟩ := hgi 2 r rfl
      cases e1
      have nz := locB_n bz
      have lz := noLoc_l (hlc (.Name z pz) (by simp))
      have hij : i ≠ j := by intro z; subst z; simp at hnd
      have hik : i ≠ k := by intro z; subst z; simp at hnd
      have hjk : j ≠ k := by intro z; subst z; simp at hnd
      have l1 := hln (.Name y py) (by simp)
      have l2 := hln (.Name z pz) (by simp)
      simp only [lineOf, Expr.pos] at l1 l2
      simp only [List.all_cons, List.all_nil, Bool.and_true, Bool.and_eq_true] at hst
      exact (ps_par3 C.calm hN (by rw [C.nm]; exact nx) (by rw [C.nm]; exact ny) (by rw [C.nm]; exact nz) hij hik hjk (C.kd lx) (C.kd ly) (C.kd lz) hPA (sw3 C.bk (C.kd lx) (C.kd ly) (C.kd lz) l1 l2 (nodup_ne C.nd nx ny hij) (nodup_ne C.nd nx nz hik) (nodup_ne C.nd ny nz hjk) hst.1 hst.2.1 hst.2.2 hf hc)).qimp fun D σ H q => by
        obtain ⟨F, M, env, rl, p⟩ := par_core (X := X) hg q
        refine ⟨F, M, env, rl, ?_⟩
        cases q2 : evPs (globD T) run m env with
        | bad => rw [q2] at p; exact p
        | exc y e2 => rw [q2] at p; exact p
        | ok l e2 =>
          rw [q2] at p
          intro F' us H' s f ex rl' hvs
          have p3 := p F' us H' s f ex rl' hvs
          have hlen : us.length = 3 := by
            rw [VPs.len l us hvs, ps_len m [a, b, c] env e2 l hv q2]
            rfl
          match us, hlen, p3 with
          | [v, w, u], _, p3 => exact ⟨v, w, u, rfl, p3 _ (Ex.refl _ _)⟩
/-! ### by way of the tuple -/
def gNames (K : PySem.W.Frag) : List Nat → TGs
  | [] => gNil
  | i :: gs => gCons (gName i) (gNames K gs)
theorem gNames_ok {K : PySem.W.Frag} {H : Hp} {Q : SS → Hp → Prop} : ∀ (gs : List Nat) (vs : List V) (σ : SS), gs.length = vs.length → Q (setAll gs vs σ) H → gNames K gs vs σ H Q
  | [], [], σ, _, q => ⟨rfl, q⟩
  | [], _ :: _, σ, h, _ => by cases h
  | _ :: _, [], σ, h, _ => by cases h
  | i :: gs, v :: vs, σ, h, q => ⟨v, vs, rfl, gNames_ok gs vs _ (by simpa using h) q⟩
theorem pgs_names (C : StOk T fa fd exc run n N W sc X) : ∀ {gs : List Nat} {m : Ps} {ts : List Expr}, chkGs N ps sc gs m ts = true → PGs X ts (gNames X.K gs) ∧ (assignEach ts X.env).length = gs.length ∧ (assignEach ts X.env).findIdx? (·.1) = none
  | [], .nil, [], _ => ⟨pgs_nil, rfl, rfl⟩
  | [], .nil, _ :: _, h => by simp only [chkGs] at h; cases h
  | [], .val _ _, _, h => by simp only [chkGs] at h; cases h
  | [], .new _, _, h => by simp only [chkGs] at h; cases h
  | _ :: _, .nil, _, h => by simp only [chkGs] at h; cases h
  | _ :: _, .val _ _, [], h => by simp only [chkGs] at h; cases h
  | _ :: _, .new _, [], h => by simp only [chkGs] at h; cases h
  | i :: gs, .val e r, x :: xs, h => by
    cases x <;> try (simp only [chkGs] at h; cases h; done)
    rename_i x p
    simp only [chkGs, Bool.and_eq_true] at h
    obtain ⟨h1, h2, h3⟩ := pgs_names C h.2
    obtain ⟨n1, n2, n3⟩ := C.st i x h.1
    refine ⟨pgs_cons (pg_name (by rw [C.nm]; exact C.nd) n1 n2 n3) h1 rfl, ?_, ?_⟩
    · rw [asE_cons rfl, List.length_cons, h2, List.length_cons]
    · rw [asE_cons rfl, List.findIdx?_cons, h3]; rfl
  | i :: gs, .new r, x :: xs, h => by
    cases x <;> try (simp only [chkGs] at h; cases h; done)
    rename_i x p
    simp only [chkGs, Bool.and_eq_true] at h
    obtain ⟨h1, h2, h3⟩ := pgs_names C h.2.2
    obtain ⟨n1, n2, n3⟩ := C.st i x h.1
    refine ⟨pgs_cons (pg_name (by rw [C.nm]; exact C.nd) n1 n2 n3) h1 rfl, ?_, ?_⟩
    · rw [asE_cons rfl, List.length_cons, h2, List.length_cons]
    · rw [asE_cons rfl, List.findIdx?_cons, h3]; rfl
theorem noSw_any {ts vs : List Expr} {k k2 k3 k4 : Nat} {p p2 p3 p4 : Pos} (h : noSw sc (.Tuple ts k p) (.Tuple vs k2 p2) = true) : noSw sc (.Tuple ts k3 p3) (.Tuple vs k4 p4) = true := h
theorem sim_parT (C : StOk T fa fd exc run n N W sc X) {gs : List Nat} {m : Ps} {ts vs : List Expr} {k k2} {pt p2 pos : Pos} (hs : noSw sc (.Tuple ts k pt) (.Tuple vs k2 p2) = true) (hg : chkGs N ps sc gs m ts = true) (hv : chkPs T N sc m vs = true) (hl : vs.length = gs.length) (hz : vs.length ≤ big) :
    PS X (.Assign [.Tuple ts k pt] (.Tuple vs k2 p2) pos) (tS X.K exc W ps (globD T) run (.par gs m)) := by
  obtain ⟨h1, h2, h3⟩ := pgs_names C hg
  have hPA := sim_ps (W := W) C.toCtxOk m vs hv
  refine (ps_asg (pe_tup hPA) (pg_tup C.calm h1 h2 h3) rfl (swp_not C.sc hs) rfl).qimp fun D σ H q => ?_
  obtain ⟨F, M, env, rl, p⟩ := par_core (X := X) hg q
  refine ⟨F, M, env, rl, ?_⟩
  cases q2 : evPs (globD T) run m env with
  | bad => rw [q2] at p; exact p
  | exc y e2 => rw [q2] at p; exact p
  | ok l e2 =>
    rw [q2] at p
    intro F' us H' s f ex rl' hvs
    have p3 := p F' us H' s f ex rl' hvs
    have hlen : us.length = gs.length := by
      rw [VPs.len l us hvs, ps_len m vs env e2 l hv q2, hl]
    refine ⟨by rw [hlen, ← hl]; exact big_line hz, fun a ha => ⟨a, us, rfl, .inl (.inl upd_same), hlen, gNames_ok gs us σ hlen.symm (p3 _ (Ext.new ha).ex)⟩⟩
end
end Qh

/-! Statements as a whole. -/
namespace Qh
open PySem PySem.Spec PyProof.Rows L2 PySem.W
section
variable {T : Tab} {fa : Nat → Addr} {fd : Nat → FuncData} {exc : Nat → Addr} {run : Run} {n : Nat} {N : List Str} {W : WX} {sc : Scope} {X : Cx} {ps : Nat}
theorem Rel.ownAt {K : PySem.W.Frag} {F M : AS} {env : En} {σ : SS} {H : Hp} (rl : Rel K F M env σ H) {i : Nat} {l : List D} (h : ownL env i = some l) : ∃ a vs, env[i]? = some (Sl.own (.lst l)) ∧ σ[i]? = some (some (V.ref a)) ∧ M a ∧ H a = some (.lst vs) ∧ VRs K F H l vs := by
  have h1 := ownL_of h
  obtain ⟨a, b, c, vs, d, e⟩ := rl.own i _ h1
  exact ⟨a, vs, h1, b, c, d, e⟩
theorem sim_setix (C : StOk T fa fd exc run n N W sc X) {i : Nat} {k e : E} {x : Str} {px sp pos : Pos} {y v : Expr} (hx : nameB N sc i x = true) (hy : plainIx y = true) (nk : isBor k = false) (ne : isBor e = false) (hv : isComp v = false)
    (he : PE X v (tE X.K exc W (globD T) run e)) (hk : PE X y (tE X.K exc W (globD T) run k)) : PS X (.Assign [.Subscript (.Name x px) y sp] v pos) (tS X.K exc W ps (globD T) run (.setix i k e)) := by
  have hg : PG X (.Subscript (.Name x px) y sp) (gSub (tVar i) (tE X.K exc W (globD T) run k) rSetL) := pg_sub (PE.nameVar C.toCtxOk hx) hk set_list (by intro v; cases y <;> first | rfl | cases hy)
  refine (ps_asg he hg (sw_not hv) (by cases v <;> rfl) rfl).qimp fun D σ H q => ?_
  obtain ⟨F, M, env, rl, p⟩ := q
  simp only [evS] at p
  obtain ⟨l0, ql0, p⟩ := p.opt
  obtain ⟨a, vs0, _, hs, _, _, _⟩ := rl.ownAt ql0
  refine ⟨F, M, env, rl, p.ofE (keepE e _ env rfl) fun d e1 u H1 _ ex1 rl1 hu hp1 p1 => ⟨_, hs, F, M, e1, rl1, p1.ofE (keepE k _ e1 rfl) fun kd e2 w H2 qq ex2 rl2 hw hp2 p2 => ?_⟩⟩
  clear qq
  have hu := (hu.vr ne).ext ex2.toExt rl1.sub
  have hw := hw.vr nk
  cases ql : ownL e2 i with
  | none => rw [ql] at p2; exact p2.elim
  | some l =>
    rw [ql] at p2
    cases kd <;> try (exact p2.elim)
    obtain ⟨j, qj, p3⟩ := p2.opt
    obtain ⟨a', vs, h1, hs', hM, hl, hv'⟩ := rl2.ownAt ql
    rw [hs] at hs'
    cases hs'
    cases hw.intI
    obtain ⟨r3, ex3⟩ := rl2.put h1 hs (hv'.set j hu)
    exact ⟨a, vs, _, j, rfl, rfl, hl, by rw [← hv'.len]; exact qj, p3 F M σ _ (Go.put h1 ex3) r3⟩
theorem tyV_list {K : PySem.W.Frag} {a : Addr} {H : Hp} {vs : List V} (h : H a = some (.lst vs)) : tyV K "list" (.ref a) H := .inl ⟨rfl, vs, .of h⟩
theorem few1 {e : Expr} {env : Env} {cpos : Pos} (h : noStar e = true) : ((backTo cpos (starEach [e] env)).all (fun x => !x.1) && (backToKw cpos (keywordEach [] env)).all (fun x => x.1.isSome)
      && decide ([e].length + ([] : List Keyword).length + (if ([] : List Keyword).isEmpty then 0 else 1) < 30)) = true := by
  rw [star_cons h]
  rfl
theorem sim_app (C : StOk T fa fd exc run n N W sc X) {i : Nat} {e : E} {x m : Str} {px ap cp pos : Pos} {v : Expr} (hx : nameB N sc i x = true) (hm : m = "append") (hl : (ap.endLine == cp.line) = true) (ne : isBor e = false) (ns : noStar v = true)
    (he : PE X v (tE X.K exc W (globD T) run e)) : PS X (.Expr (.Call (.Attribute (.Name x px) m ap) [v] [] cp) pos) (tS X.K exc W ps (globD T) run (.app i e)) := by
  subst hm
  refine (ps_expr (pe_bm PySem.F.plainAttrs_list PySem.F.slot_list_append PySem.F.type_list_append mt_append (PE.nameVar C.toCtxOk hx) (pa_cons he pa_nil (star_cons ns)) rfl (few1 ns) hl (star_cons ns) rfl)).qimp fun D σ H q => ?_
  obtain ⟨F, M, env, rl, p⟩ := q
  simp only [evS] at p
  obtain ⟨l0, ql0, p⟩ := p.opt
  obtain ⟨a, vs0, _, hs, _, hl0, _⟩ := rl.ownAt ql0
  refine ⟨_, hs, tyV_list hl0, F, M, env, rl, p.ofE (keepE e _ env rfl) fun d e1 u H1 _ ex1 rl1 hu hp1 p1 => ?_⟩
  have hu := hu.vr ne
  obtain ⟨l, ql, p2⟩ := p1.opt
  split at p2
  · rename_i hlt
    obtain ⟨a', vs, h1, hs', hM, hl, hv'⟩ := rl1.ownAt ql
    rw [hs] at hs'
    cases hs'
    obtain ⟨r3, ex3⟩ := rl1.put h1 hs (hv'.append (.cons_mk hu (VRs.nil_iff.mpr rfl)))
    exact ⟨a, vs, u, rfl, rfl, hl, by rw [← hv'.len]; exact Nat.lt_of_lt_of_le hlt (big_line (Nat.le_refl _)), p2 F M σ _ (Go.put h1 ex3) r3⟩
  · exact p2.elim
theorem sim_ext (C : StOk T fa fd exc run n N W sc X) {i : Nat} {e : E} {x m : Str} {px ap cp pos : Pos} {v : Expr} (hx : nameB N sc i x = true) (hm : m = "extend") (hl : (ap.endLine == cp.line) = true) (ne : isBor e = false) (ns : noStar v = true)
    (he : PE X v (tE X.K exc W (globD T) run e)) : PS X (.Expr (.Call (.Attribute (.Name x px) m ap) [v] [] cp) pos) (tS X.K exc W ps (globD T) run (.ext i e)) := by
  subst hm
  refine (ps_expr (pe_bm PySem.F.plainAttrs_list PySem.F.slot_list_extend PySem.F.type_list_extend mt_extend (PE.nameVar C.toCtxOk hx) (pa_cons he pa_nil (star_cons ns)) rfl (few1 ns) hl (star_cons ns) rfl)).qimp fun D σ H q => ?_
  obtain ⟨F, M, env, rl, p⟩ := q
  simp only [evS] at p
  obtain ⟨l0, ql0, p⟩ := p.opt
  obtain ⟨a, vs0, _, hs, _, hl0, _⟩ := rl.ownAt ql0
  refine ⟨_, hs, tyV_list hl0, F, M, env, rl, p.ofE (keepE e _ env rfl) fun d e1 u H1 _ ex1 rl1 hu hp1 p1 => ?_⟩
  have hu := hu.vr ne
  obtain ⟨l, ql, p2⟩ := p1.opt
  split at p2
  · rename_i m
    split at p2
    · rename_i hlt
      obtain ⟨a', vs, h1, hs', hM, hl, hv'⟩ := rl1.ownAt ql
      rw [hs] at hs'
      cases hs'
      simp only [VR] at hu
      obtain ⟨b, zs, rfl, _, hb, hz⟩ := hu
      obtain ⟨r3, ex3⟩ := rl1.put h1 hs (hv'.append hz)
      exact ⟨a, b, vs, zs, rfl, rfl, hl, hb, by rw [← hv'.len, ← hz.len]; exact big_line hlt, p2 F M σ _ (Go.put h1 ex3) r3⟩
    · exact p2.elim
  · exact p2.elim
theorem sim_ex (C : StOk T fa fd exc run n N W sc X) {e : E} {v : Expr} {pos : Pos} (hc : isComp v = false) (he : PE X v (tE X.K exc W (globD T) run e)) : PS X (.Expr v pos) (tS X.K exc W ps (globD T) run (.ex e)) := by
  refine (ps_expr he (by cases v <;> first | rfl | cases hc)).qimp fun D σ H q => ?_
  obtain ⟨F, M, env, rl, p⟩ := q
  simp only [evS] at p
  exact ⟨F, M, env, rl, p.ofE (keepE e _ env rfl) fun d e1 u H1 _ ex1 rl1 hu hp1 p1 => p1 F M σ H1 (Go.expr (Ex.refl _ _) rfl) rl1⟩
theorem sim_ret (C : StOk T fa fd exc run n N W sc X) {e : E} {v : Expr} {pos : Pos} (nb : isBor e = false) (he : PE X v (tE X.K exc W (globD T) run e)) : PS X (.Return (some v) pos) (tS X.K exc W ps (globD T) run (.ret e)) := by
  refine (ps_ret he).qimp fun D σ H q => ?_
  obtain ⟨F, M, env, rl, p⟩ := q
  simp only [evS] at p
  exact ⟨F, M, env, rl, p.ofE (keepE e _ env rfl) fun d e1 u H1 _ ex1 rl1 hu hp1 p1 => p1 F M σ u H1 (Go.expr (Ex.refl _ _) rfl) rl1 (.inl (hu.vr nb))⟩
theorem sim_retn {pos : Pos} : PS X (.Return none pos) (tS X.K exc W ps (globD T) run .retn) := ps_retN.qimp fun D σ H q => by
  obtain ⟨F, M, env, rl, p⟩ := q
  simp only [evS] at p
  exact p F M σ .non H (Go.expr (Ex.refl _ _) rfl) rl (.inl (by simp only [VR]))
theorem sim_reto (C : StOk T fa fd exc run n N W sc X) {i : Nat} {x : Str} {px pos : Pos} (hx : nameB N sc i x = true) (hi : ps ≤ i) : PS X (.Return (some (.Name x px)) pos) (tS X.K exc W ps (globD T) run (.reto i)) := by
  refine (ps_ret (PE.nameVar C.toCtxOk hx)).qimp fun D σ H q => ?_
  obtain ⟨F, M, env, rl, p⟩ := q
  simp only [evS] at p
  obtain ⟨l, ql, p⟩ := p.opt
  obtain ⟨a, vs, h1, hs, _, _, _⟩ := rl.ownAt ql
  exact ⟨_, hs, p F M σ _ H (Go.expr (Ex.refl _ _) rfl) rl (.inr ⟨i, l, hi, rfl, h1, hs⟩)⟩
theorem sim_ite (C : StOk T fa fd exc run n N W sc X) {t : E} {a b : Ss} {c : Expr} {x y : List Stmt} {pos : Pos} (ht : PT X c (tT X.K exc W (globD T) run t)) (ha : PSs X x (tSs X.K exc W ps (globD T) run a)) (hb : PSs X y (tSs X.K exc W ps (globD T) run b)) : PS X (.If c x y pos) (tS X.K exc W ps (globD T) run (.ite t a b)) := by
  refine (ps_if ht ha hb).qimp fun D σ H q => ?_
  obtain ⟨F, M, env, rl, p⟩ := q
  simp only [evS] at p
  refine ⟨F, M, env, rl, p.ofE ((keepE t _ env rfl).bind fun d e1 h1 => by cases d <;> first | exact h1 | trivial) fun d e1 u H1 _ ex1 rl1 hu hp1 p1 => ?_⟩
  subst hu
  cases d with
  | true => exact ⟨F, M, e1, rl1, p1⟩
  | false => exact ⟨F, M, e1, rl1, p1⟩
theorem sim_for (C : StOk T fa fd exc run n N W sc X) {it : It} {g : Tg} {b : Ss} {tg iter : Expr} {body : List Stmt} {pos : Pos} (hi : PI X tg iter (tI X.K exc W (globD T) run it)) (hs : noSet iter = true) (hg : chkTg T N sc g tg = true) (hb : PSs X body (tSs X.K exc W ps (globD T) run b)) :
    PS X (.For tg iter body [] pos) (tS X.K exc W ps (globD T) run (.for it g b)) := by
  have hN : X.N.Nodup := by rw [C.nm]; exact C.nd
  refine (ps_for C.pass C.calm hi (sim_tg hN C.calm C.st g tg hg) hb (noSet_fold hs)).qimp fun D σ H q => ?_
  obtain ⟨F, M, env, rl, p⟩ := q
  simp only [evS] at p
  refine ⟨F, M, env, rl, p.ofE (keepIt it _ env rfl) fun items e1 J H1 _ ex1 rl1 hy hp1 p1 => ?_⟩
  refine ⟨fun i m σ' H' => ∃ rest env' F' M', rest = items.drop i ∧ i + rest.length = items.length ∧ m = rest.length ∧ Rel X.K F' M' env' σ' H' ∧ Go ps F M e1 σ H1 F' M' env' σ' H' ∧ PostS X.K exc W ps F' M' env' σ' H' (forS (asgT g) (evSs (globD T) run b) rest env') D,
    ⟨items.length, items, e1, F, M, rfl, by omega, rfl, rl1, Go.expr (Ex.refl _ _) rfl, p1⟩, fun i m σ' H' w => ?_⟩
  obtain ⟨rest, env', F', M', e1', e2', rfl, rl', go', p'⟩ := w
  obtain ⟨yl, ys⟩ := hy F' H' go'.new (go'.ex.mono fun a z => go'.sub a (rl1.sub a z)) rl'.there
  cases rest with
  | nil =>
    simp only [List.length_nil, Nat.add_zero] at e2'
    subst e2'
    exact .inl ⟨ys, p' F' M' σ' H' (Go.expr (Ex.refl _ _) rfl) rl'⟩
  | cons x xs =>
    have hi : items[i]? = some x := by
      rw [← List.head?_drop, ← e1']; rfl
    have hxs : xs = items.drop (i + 1) := by
      rw [← List.tail_drop, ← e1']; rfl
    obtain ⟨go, yld⟩ := yl i x hi
    refine .inr ⟨go, fun σ'' H'' => ∃ env'' F'' M'', Rel X.K F'' M'' env'' σ'' H'' ∧ Go ps F M e1 σ H1 F'' M'' env'' σ'' H'' ∧ PostS X.K exc W ps F'' M'' env'' σ'' H'' (forS (asgT g) (evSs (globD T) run b) xs env'') D,
      fun σ'' H'' ⟨env'', F'', M'', a, b, c⟩ => ⟨xs.length, by simp, xs, env'', F'', M'', hxs, by simp only [List.length_cons] at e2'; omega, rfl, a, b, c⟩, fun v H2 y => ?_⟩
    obtain ⟨ex2, hv⟩ := yld v H2 y
    have g2 : Go ps F' M' env' σ' H' F' M' env' σ' H2 := Go.expr (ex2.mono fun _ z => z.elim) rfl
    unfold forS at p'
    cases q3 : asgT g x env' with
    | none => rw [q3] at p'; exact p'.elim
    | some e2 =>
      rw [q3] at p'
      refine asg_ok g x env' e2 v σ' _ q3 (rl'.ext ex2) hv fun σ2 rl3 hold _ => ?_
      have g3 : Go ps F' M' env' σ' H' F' M' e2 σ2 H2 := g2.trans (Go.asg (asgT_pat g x env' e2 q3) hold)
      refine ⟨F', M', e2, rl3, PostS.next (p'.go g3) fun env1 F1 M1 σ1 H1 _ g4 rl4 p4 => ⟨env1, F1, M1, rl4, (go'.trans g3).trans g4, p4⟩⟩
/-! ### all together -/
theorem sim_lcs (C : StOk T fa fd exc run n N W sc X) {g : Tg} {own : List Nat} {it : It} {g1 : Tg} {t : Oe} {x : E} {y : Str} {py : Pos} {elt tg iter : Expr} {ifs : List Expr} {a : Int} {scope : Scope} {vp pos : Pos} (hg : chkTg T N sc g (.Name y py) = true) (hs : setLc sc y py vp scope = true)
    (h : chkE T N sc (.lc own it g1 t x) (.ListComp elt [⟨tg, iter, ifs, a⟩] scope vp) = true) : PS X (.Assign [.Name y py] (.ListComp elt [⟨tg, iter, ifs, a⟩] scope vp) pos) (tS X.K exc W ps (globD T) run (.asg g (.lc own it g1 t x))) := by
  simp only [chkE, Bool.and_eq_true, decide_eq_true_eq] at h
  obtain ⟨⟨ha, h1, h2⟩, h3, ⟨⟨h4, h5⟩, h6⟩, h7, h8, h9⟩ := h
  subst ha
  have B : BlkOk X.N X.env.scope scope (own.filterMap fun i => (N[i]?).map fun x => (x, i)) := by rw [C.nm, C.sc]; exact blkOk_by h3
  have hN : X.N.Nodup := by rw [C.nm]; exact C.nd
  cases g with
  | tp gs => simp only [chkTg] at hg; cases hg
  | nm i =>
    simp only [chkTg] at hg
    obtain ⟨n1, n2, n3⟩ := C.st i y hg
    unfold setLc at hs
    simp only [Bool.and_eq_true, Bool.not_eq_true'] at hs
    have ky := C.kd hs.1.1
    refine (ps_setLc (g := tgT X.K g1) (wi := tI X.K exc W (globD T) run it) (tt := tOT X.K exc W0 (globD T) run t) (te := tE X.K exc W0 (globD T) run x) C.calm hN n1 ky ?_ (simIt it _ tg W sc X C.toCtxOk h2) B
      (fun s H c cl fp => sim_tg (X := X.blk s H scope (compEnvC scope cl c X.env) fp) (T := T) (sc := scope) hN C.calm (StoreOk.blk scope C.nm s H c cl fp) g1 tg h7)
      (fun s H c cl fp => simT t ifs W0 (relS scope sc) _ (C.toCtxOk.blk scope s H c cl fp) h9) (fun s H c cl fp => (simE x elt W0 (relS scope sc) _ (C.toCtxOk.blk scope s H c cl fp) h8).pe) (noSet_fold h5)).qimp fun D σ H q => ?_
    · unfold swapsWith
      have e1 : (X.env.blockKind == ScopeKind.function) = true := by rw [C.bk]; rfl
      have e2 : (X.env.kindOf y == some NameKind.local) = true := by show (X.env.scope.names.lookup y == some NameKind.local) = true; rw [ky]; rfl
      have e3 : (py.line == (Expr.ListComp elt [⟨tg, iter, ifs, 0⟩] scope vp).pos.line) = true := hs.1.2
      have e4 : (scope.names.any fun (n, k) => n == y && (k == .local || k == .cell)) = false := hs.2
      simp only [pure_bind, e1, e2, e3, e4, Bool.and_self, Bool.not_false, Bool.and_true]
    · have q2 := asg_core (g := .nm i) (e := .lc own it g1 t x) rfl q
      obtain ⟨F, M, env, rl, p⟩ := q2
      rw [h4]
      have q3 := lc_loop (own := own) (it := it) (g := g1) (t := t) (e := x) (by
        intro i hi
        have := List.all_eq_true.mp h6 i hi
        exact List.contains_iff_mem.mp this) (isB h1) rl p
      simp only [tgT] at q3
      exact q3
end
end Qh

/-! Statements as a whole; defs. -/
namespace Qh
open PySem PySem.Spec PyProof.Rows L2 PySem.W
section
variable {T : Tab} {fa : Nat → Addr} {fd : Nat → FuncData} {exc : Nat → Addr} {run : Run} {n : Nat} {N : List Str} {W : WX} {sc : Scope} {X : Cx} {ps : Nat}
theorem sw_lc (C : StOk T fa fd exc run n N W sc X) {y : Str} {py : Pos} {elt : Expr} {gens : List Comprehension} {scope : Scope} {vp : Pos} {l : Nat} (hs : setLc sc y py vp scope = false) : swapsWithSole [.Name y py] (.ListComp elt gens scope vp) l X.env = pure false := by
  show swapsWith (.ListComp elt gens scope vp) (some (.Name y py)) l X.env = pure false
  unfold swapsWith
  have e1 : (X.env.blockKind == ScopeKind.function) = true := by rw [C.bk]; rfl
  have e2 : (X.env.kindOf y == some NameKind.local) = locals2 sc y := by
    show (X.env.scope.names.lookup y == some NameKind.local) = _
    rw [C.sc]
    unfold locals2
    cases sc.names.lookup y with
    | none => rfl
    | some k => cases k <;> rfl
  have e3 : (py.line == (Expr.ListComp elt gens scope vp).pos.line) = (py.line == vp.line) := rfl
  unfold setLc at hs
  simp only [pure_bind, e1, e2, e3, Bool.true_and]
  exact congrArg pure hs
theorem noSw_lc {tg : Expr} {g : Tg} (hg : chkTg T N sc g tg = true) {elt : Expr} {gens : List Comprehension} {scope : Scope} {vp : Pos} : noSw sc tg (.ListComp elt gens scope vp) = true := by
  cases tg <;> first | rfl | (cases g <;> simp only [chkTg] at hg <;> cases hg)
theorem lc_form {m : E} {elt : Expr} {gens : List Comprehension} {scope : Scope} {vp : Pos} (h : chkE T N sc m (.ListComp elt gens scope vp) = true) :
    (∃ own it g t x tg iter ifs a, m = .lc own it g t x ∧ gens = [⟨tg, iter, ifs, a⟩]) ∨ ∃ own own1 it g it2 g2 x tg iter tg1 iter1 a a1, m = .lc2 own own1 it g it2 g2 x ∧ gens = [⟨tg, iter, [], a⟩, ⟨tg1, iter1, [], a1⟩] := by
  cases m <;> try (first | (simp only [chkE] at h; done) | (simp only [chkE] at h; cases h; done))
  · rename_i own it g t x
    rcases gens with _ | ⟨⟨tg, iter, ifs, a⟩, _ | ⟨g2, gs⟩⟩ <;> try (first | (simp only [chkE] at h; done) | (simp only [chkE] at h; cases h; done))
    exact .inl ⟨own, it, g, t, x, tg, iter, ifs, a, rfl, rfl⟩
  · rename_i own own1 it g it2 g2 x
    rcases gens with _ | ⟨⟨tg, iter, ifs, a⟩, _ | ⟨⟨tg1, iter1, ifs1, a1⟩, _ | ⟨_, _⟩⟩⟩ <;> try (first | (simp only [chkE] at h; done) | (simp only [chkE] at h; cases h; done))
    cases ifs <;> cases ifs1 <;> try (first | (simp only [chkE] at h; done) | (simp only [chkE] at h; cases h; done))
    exact .inr ⟨own, own1, it, g, it2, g2, x, tg, iter, tg1, iter1, a, a1, rfl, rfl⟩
theorem sim_lcs2 (C : StOk T fa fd exc run n N W sc X) {g : Tg} {own own1 : List Nat} {it it2 : It} {g1 g2 : Tg} {x : E} {y : Str} {py : Pos} {elt tg iter tg1 iter1 : Expr} {a a1 : Int} {scope : Scope} {vp pos : Pos} (hg : chkTg T N sc g (.Name y py) = true) (hs : setLc sc y py vp scope = true)
    (h : chkE T N sc (.lc2 own own1 it g1 it2 g2 x) (.ListComp elt [⟨tg, iter, [], a⟩, ⟨tg1, iter1, [], a1⟩] scope vp) = true) : PS X (.Assign [.Name y py] (.ListComp elt [⟨tg, iter, [], a⟩, ⟨tg1, iter1, [], a1⟩] scope vp) pos) (tS X.K exc W ps (globD T) run (.asg g (.lc2 own own1 it g1 it2 g2 x))) := by
  simp only [chkE, Bool.and_eq_true, decide_eq_true_eq] at h
  obtain ⟨⟨⟨ha, ha1⟩, h1, h2⟩, h3, ⟨⟨h4, h5, h5'⟩, h6, h6', h6''⟩, ⟨h7, h7'⟩, h8, h9⟩ := h
  subst ha ha1
  have mem : ∀ {a b : List Nat}, (a.all fun i => b.contains i) = true → ∀ i ∈ a, i ∈ b := fun q i hi => List.contains_iff_mem.mp (List.all_eq_true.mp q i hi)
  have B : BlkOk X.N X.env.scope scope (own.filterMap fun i => (N[i]?).map fun x => (x, i)) := by rw [C.nm, C.sc]; exact blkOk_by h3
  have hN : X.N.Nodup := by rw [C.nm]; exact C.nd
  cases g with
  | tp gs => simp only [chkTg] at hg; cases hg
  | nm i =>
    simp only [chkTg] at hg
    obtain ⟨n1, n2, n3⟩ := C.st i y hg
    unfold setLc at hs
    simp only [Bool.and_eq_true, Bool.not_eq_true'] at hs
    have ky := C.kd hs.1.1
    refine (ps_setLc2 (vs1 := own1) (g := tgT X.K g1) (g1 := tgT X.K g2) (te := tE X.K exc W0 (globD T) run x) (wi := tI X.K exc W (globD T) run it) (wi1 := tI X.K exc W0 (globD T) run it2) C.calm hN n1 ky ?_ (simIt it _ tg W sc X C.toCtxOk h2) B (by rw [h4]; exact mem h6'')
      (fun s H c cl fp => sim_tg (X := X.blk s H scope (compEnvC scope cl c X.env) fp) (T := T) (sc := scope) hN C.calm (StoreOk.blk scope C.nm s H c cl fp) g1 tg h7) (fun s H c cl fp => pts_nil)
      (fun s H c cl fp => simIt it2 iter1 tg1 W0 (relS scope sc) _ (C.toCtxOk.blk scope s H c cl fp) h9) (fun s H c cl fp => sim_tg (X := X.blk s H scope (compEnvC scope cl c X.env) fp) (T := T) (sc := scope) hN C.calm (StoreOk.blk scope C.nm s H c cl fp) g2 tg1 h7') (fun s H c cl fp => pts_nil)
      (fun s H c cl fp => (simE x elt W0 (relS scope sc) _ (C.toCtxOk.blk scope s H c cl fp) h8).pe) (noSet_fold h5) (fun env => noSet_fold h5')).qimp fun D σ H q => ?_
    · unfold swapsWith
      have e1 : (X.env.blockKind == ScopeKind.function) = true := by rw [C.bk]; rfl
      have e2 : (X.env.kindOf y == some NameKind.local) = true := by show (X.env.scope.names.lookup y == some NameKind.local) = true; rw [ky]; rfl
      have e3 : (py.line == (Expr.ListComp elt [⟨tg, iter, [], 0⟩, ⟨tg1, iter1, [], 0⟩] scope vp).pos.line) = true := hs.1.2
      have e4 : (scope.names.any fun (n, k) => n == y && (k == .local || k == .cell)) = false := hs.2
      simp only [pure_bind, e1, e2, e3, e4, Bool.and_self, Bool.not_false, Bool.and_true]
    · have q2 := asg_core (g := .nm i) (e := .lc2 own own1 it g1 it2 g2 x) rfl q
      obtain ⟨F, M, env, rl, p⟩ := q2
      rw [h4]
      have q3 := lc2_loop (mem h6) (mem h6') (mem h6'') (isB h1) rl p
      simp only [tgT] at q3
      exact q3
theorem ps_bad {K : PySem.W.Frag} {G : Nat → Option D} {s : Stmt} : PS X s (tS K exc W ps G run .bad) := ps_never.qimp fun D σ H q => by
  obtain ⟨F, M, env, rl, p⟩ := q
  simp only [evS] at p
  exact p
theorem sim_asgL (C : StOk T fa fd exc run n N W sc X) {g : Tg} {e : E} {s : Stmt} (h : chkAsg T N sc g e s = true) : PS X s (tS X.K exc W ps (globD T) run (.asg g e)) := by
  unfold chkAsg at h
  split at h
  case h_2 => cases h
  rename_i tg v pos
  simp only [Bool.and_eq_true] at h
  obtain ⟨hg, nb, he, hs⟩ := h
  have hN : X.N.Nodup := by rw [C.nm]; exact C.nd
  have pe := (simE e v W sc X C.toCtxOk he).pe
  by_cases hc : isComp v = true
  · cases v <;> first | (cases hc; done) | (cases hs; done) | skip
    rename_i elt gens scope vp
    by_cases hn : ∃ y py, tg = .Name y py ∧ setLc sc y py vp scope = true
    · obtain ⟨y, py, rfl, hset⟩ := hn
      rcases lc_form he with ⟨own, it, g1, t, x, tg', iter, ifs, a, rfl, rfl⟩ | ⟨own, own1, it, g1, it2, g2, x, tg', iter, tg1, iter1, a, a1, rfl, rfl⟩
      · exact sim_lcs C hg hset he
      · exact sim_lcs2 C hg hset he
    · refine (ps_asg pe (sim_tg hN C.calm C.st g tg hg) ?_ (swp_not C.sc (noSw_lc hg)) (asE_one hg)).qimp fun D σ H q => asg_core (isB nb) q
      cases tg <;> try rfl
      rename_i y py
      refine sw_lc C ?_
      cases q : setLc sc y py vp scope with
      | false => rfl
      | true => exact absurd ⟨y, py, rfl, q⟩ hn
  · have hc : isComp v = false := by cases q : isComp v <;> simp_all
    refine sim_asg C (isB nb) hg pe hc ?_
    cases v <;> first | exact hs | (cases hc; done)
mutual
theorem simS (C : StOk T fa fd exc run n N W sc X) : ∀ (m : S) (s : Stmt), chkS T N ps sc m s = true → PS X s (tS X.K exc W ps (globD T) run m)
  | .bad, s, h => ps_bad
  | .skip, s, h => by
    simp only [chkS] at h
    unfold isPass at h
    split at h
    · refine ps_pass.qimp fun D σ H q => ?_
      obtain ⟨F, M, env, rl, p⟩ := q
      simp only [evS] at p
      exact p F M σ H (Go.expr (Ex.refl _ _) rfl) rl
    · cases h
  | .asg g e, s, h => by
    simp only [chkS] at h
    exact sim_asgL C h
  | .own i es, s, h => by
    simp only [chkS] at h
    unfold chkOwn at h
    split at h
    · simp only [Bool.and_eq_true, decide_eq_true_eq] at h
      exact sim_own C h.1 h.2.1 h.2.2.1 (simEs es _ W sc X C.toCtxOk h.2.2.2)
    · cases h
  | .par gs r, s, h => by
    simp only [chkS] at h
    unfold chkPar at h
    split at h
    · simp only [Bool.and_eq_true, Bool.or_eq_true] at h
      rcases h.1.1 with hs | hs
      · exact sim_par C hs h.1.2 h.2
      · exact sim_parT C (noSw_any hs.1) h.1.2 h.2 (of_decide_eq_true hs.2.1) (of_decide_eq_true hs.2.2)
    · cases h
  | .setix i k e, s, h => by
    simp only [chkS] at h
    unfold chkSetix at h
    split at h
    · simp only [Bool.and_eq_true, Bool.not_eq_true'] at h
      exact sim_setix C h.1.1 h.1.2 h.2.1.1 h.2.1.2 h.2.2.1.1 (simE e _ W sc X C.toCtxOk h.2.2.1.2).pe (simE k _ W sc X C.toCtxOk h.2.2.2).pe
    · cases h
  | .app i e, s, h => by
    simp only [chkS] at h
    unfold chkMeth at h
    split at h
    · simp only [Bool.and_eq_true, decide_eq_true_eq] at h
      exact sim_app C h.1.1 h.1.2.1 h.1.2.2 (isB h.2.1) (chkE_noStar h.2.2) (simE e _ W sc X C.toCtxOk h.2.2).pe
    · cases h
  | .ext i e, s, h => by
    simp only [chkS] at h
    unfold chkMeth at h
    split at h
    · simp only [Bool.and_eq_true, decide_eq_true_eq] at h
      exact sim_ext C h.1.1 h.1.2.1 h.1.2.2 (isB h.2.1) (chkE_noStar h.2.2) (simE e _ W sc X C.toCtxOk h.2.2).pe
    · cases h
  | .ex e, s, h => by
    simp only [chkS] at h
    unfold chkEx at h
    split at h
    · simp only [Bool.and_eq_true, Bool.not_eq_true'] at h
      exact sim_ex C h.2.1 (simE e _ W sc X C.toCtxOk h.2.2).pe
    · cases h
  | .ite t a b, s, h => by
    simp only [chkS] at h
    split at h
    · rename_i c x y q
      unfold ifParts at q
      split at q
      · cases q
        simp only [Bool.and_eq_true] at h
        exact sim_ite C ((simE t _ W sc X C.toCtxOk h.1.2).pt (isB h.1.1)) (simSs C a _ h.2.1) (simSs C b _ h.2.2)
      · cases q
    · cases h
  | .for it g b, s, h => by
    simp only [chkS] at h
    split at h
    · rename_i tg iter body q
      unfold forParts at q
      split at q
      · cases q
        simp only [Bool.and_eq_true] at h
        exact sim_for C (simIt it _ tg W sc X C.toCtxOk h.1.1) h.1.2 h.2.1 (simSs C b _ h.2.2)
      · cases q
    · cases h
  | .ret e, s, h => by
    simp only [chkS] at h
    unfold chkRet at h
    split at h
    · simp only [Bool.and_eq_true] at h
      exact sim_ret C (isB h.1) (simE e _ W sc X C.toCtxOk h.2).pe
    · cases h
  | .retn, s, h => by
    simp only [chkS] at h
    unfold chkRetn at h
    split at h
    · exact sim_retn
    · cases h
  | .reto i, s, h => by
    simp only [chkS] at h
    unfold chkReto at h
    split at h
    · simp only [Bool.and_eq_true, decide_eq_true_eq] at h
      exact sim_reto C h.1 h.2
    · cases h
theorem simSs (C : StOk T fa fd exc run n N W sc X) : ∀ (m : Ss) (s : List Stmt), chkSs T N ps sc m s = true → PSs X s (tSs X.K exc W ps (globD T) run m)
  | .nil, [], h => by
    refine pss_nil.qimp fun D σ H q => ?_
    obtain ⟨F, M, env, rl, p⟩ := q
    simp only [evSs] at p
    exact p F M σ H (Go.expr (Ex.refl _ _) rfl) rl
  | .nil, _ :: _, h => by simp only [chkSs] at h; cases h
  | .cons m r, [], h => by simp only [chkSs] at h; cases h
  | .cons m r, s :: ss, h => by
    simp only [chkSs, Bool.and_eq_true] at h
    refine (pss_cons (simS C m s h.1) (simSs C r ss h.2)).qimp fun D σ H q => ?_
    obtain ⟨F, M, env, rl, p⟩ := q
    simp only [evSs] at p
    exact ⟨F, M, env, rl, PostS.next p fun env1 F1 M1 σ1 H1 _ g rl1 p1 => ⟨F1, M1, env1, rl1, p1⟩⟩
end
end

/-! ### defs -/
def scOk (N P : List Str) (sc : Scope) : Bool := (match sc.kind with | .function => true | _ => false) && (!sc.isCoroutine && (!sc.isGenerator && (decide N.Nodup && (decide (N.take P.length = P) && ((P.all fun x => match sc.names.lookup x with | some .local => true | some .cell => true | _ => false) && sc.names.all fun y => match y.2 with | .free => false | _ => true)))))
theorem scOk_ok {N P : List Str} {sc : Scope} (h : scOk N P sc = true) : FnScope N P sc := by
  unfold scOk at h
  simp only [Bool.and_eq_true, Bool.not_eq_true', decide_eq_true_eq, List.all_eq_true] at h
  obtain ⟨h1, h2, h3, h4, h5, h6, h7⟩ := h
  refine ⟨?_, h2, h3, h4, h5, fun x hx => ?_, fun y hy e => ?_⟩
  · split at h1
    · assumption
    · cases h1
  · have q := h6 x hx
    split at q
    · rename_i e; exact .inl e
    · rename_i e; exact .inr e
    · cases q
  · have q := h7 y hy
    rw [e] at q
    cases q
/-- a mini def against the text's def -/
def chkFn (T : Tab) (i : FnI) (fn : Fn) (st : Stmt) : Bool := (scOk i.N (i.N.take i.ps) (defScope st) && (decide (fn.ps = i.ps) && (decide (fn.n = i.N.length) && decide (i.ps ≤ i.N.length)))) && chkSs T i.N i.ps (defScope st) fn.body (defBody st)
theorem outs_rel {K : PySem.W.Frag} {ps : Nat} {F M F' M' : AS} {xs : List Sl} {vs : List V} {pad : List (Option V)} {padE : List Sl} {env' : En} {σ' : SS} {H H' : Hp} (hps : xs.length = ps) (r : Rel K F M xs (vs.map some) H) (g : Go ps F M (xs ++ padE) (vs.map some ++ pad) H F' M' env' σ' H') (r' : Rel K F' M' env' σ' H')
    (hl : ps ≤ env'.length) : Rel K F M (outs xs env') (vs.map some) H' := by
  have hlen : vs.length = ps := by have := r.len; rw [List.length_map] at this; omega
  have at_ : ∀ (i : Nat) (s : Sl), (outs xs env')[i]? = some s → ∃ x e, xs[i]? = some x ∧ env'[i]? = some e ∧ s = if x.isOwn then e else x := fun i s h => by
    unfold outs at h
    rw [List.getElem?_zipWith] at h
    cases q : xs[i]? with
    | none => rw [q] at h; cases q2 : env'[i]? <;> rw [q2] at h <;> cases h
    | some x =>
      cases q2 : env'[i]? with
      | none => rw [q, q2] at h; cases h
      | some e =>
        rw [q, q2] at h
        exact ⟨x, e, rfl, rfl, (Option.some.inj h).symm⟩
  have app : ∀ (i : Nat) (x : Sl), xs[i]? = some x → i < ps ∧ (xs ++ padE)[i]? = some x ∧ (vs.map some ++ pad)[i]? = (vs.map some)[i]? := fun i x h => by
    have h1 := (List.getElem?_eq_some_iff.mp h).1
    exact ⟨by omega, by rw [List.getElem?_append_left h1]; exact h, by rw [List.getElem?_append_left (by rw [List.length_map]; omega)]⟩
  have own : ∀ (i : Nat) (o : O), (outs xs env')[i]? = some (.own o) → (∃ o0, xs[i]? = some (.own o0)) ∧ env'[i]? = some (.own o) ∧ σ'[i]? = (vs.map some)[i]? := fun i o h => by
    obtain ⟨x, e, h1, h2, h3⟩ := at_ i _ h
    obtain ⟨hi, h4, h5⟩ := app i x h1
    cases x with
    | non => cases h3
    | dat d => cases h3
    | own o0 =>
      have h3 : Sl.own o = e := h3
      subst h3
      obtain ⟨_, q⟩ := g.hold i hi o0 h4
      exact ⟨⟨o0, h1⟩, h2, q.trans h5⟩
  refine ⟨?_, fun i d h => ?_, fun i o h => ?_, fun i j o o' a h h' s s' => ?_, r.sub, fun a z => g.ex.nt a (r.there a z)⟩
  · unfold outs
    rw [List.length_zipWith, List.length_map]
    omega
  · obtain ⟨x, e, h1, h2, h3⟩ := at_ i _ h
    obtain ⟨hi, h4, h5⟩ := app i x h1
    cases x with
    | non => cases h3
    | dat d0 =>
      cases h3
      obtain ⟨v, q1, q2⟩ := r.dat i d h1
      exact ⟨v, q1, q2.ext g.ex.toExt r.sub⟩
    | own o0 =>
      have h3 : Sl.dat d = e := h3
      subst h3
      obtain ⟨⟨o', q⟩, _⟩ := g.hold i hi o0 h4
      rw [h2] at q
      cases q
  · obtain ⟨⟨o0, h1⟩, h2, h3⟩ := own i o h
    obtain ⟨a, b, c, d⟩ := r'.own i o h2
    obtain ⟨a', b', c', _⟩ := r.own i o0 h1
    rw [h3, b'] at b
    cases b
    exact ⟨_, b', c', d.less g.sub⟩
  · obtain ⟨⟨o0, h1⟩, _, _⟩ := own i o h
    obtain ⟨⟨o1, h2⟩, _, _⟩ := own j o' h'
    exact r.apart i j o0 o1 a h1 h2 s s'
section
variable {P : Program} {w : World} {K : PySem.W.Frag} {mg : Str → Option Value} {base : Heap} {T : Tab} {fa : Nat → Addr} {fd : Nat → FuncData} {exc : Nat → Addr} {prog : Nat → Option Fn}
theorem fn_ok {n f : Nat} {i : FnI} {fn : Fn} {st : Stmt} {x qual : Str} {pa : Arguments} {dvs : List V} {kws : List (Str × V)} (hF : Facts T K mg fa fd) (hp : prog f = some fn) (hc : chkFn T i fn st = true) (F : FunD K x qual pa (defBody st) (defScope st) dvs kws (fa f) (fd f))
    (ok : ∀ (f : Nat) (i : FnI), T.fns[f]? = some i → FnOk P w K mg base (L2.CX P w) n (fa f) (fd f) (i.N.take i.ps) (spF K exc (runN (globD T) prog n) f)) :
    FnOk P w K mg base (L2.CX P w) (n + 1) (fa f) (fd f) (i.N.take i.ps) (spF K exc (runN (globD T) prog (n + 1)) f) := by
  unfold chkFn at hc
  simp only [Bool.and_eq_true, decide_eq_true_eq] at hc
  obtain ⟨⟨hsc, hps, hn, hle⟩, hb⟩ := hc
  have S := scOk_ok hsc
  have lenI : (i.N.take i.ps).length = i.ps := by rw [List.length_take]; omega
  have hlen : ∀ vs H Q E, spF K exc (runN (globD T) prog (n + 1)) f vs H Q E → vs.length = i.ps ∧ ∃ F M xs, Rel K F M xs (vs.map some) H ∧ xs.length = fn.ps ∧ match finish xs (evSs (globD T) (runN (globD T) prog n) fn.body (xs ++ List.replicate (fn.n - fn.ps) .non)) with
      | .ok d outs => ∀ v H', Ex M H H' → Rel K F M outs (vs.map some) H' → VR K F H' d v → Q v H'
      | .exc x outs => ∀ cls dd H', Ex M H H' → Rel K F M outs (vs.map some) H' → ExcR exc x cls dd H' → E cls dd H'
      | .bad => False := fun vs H Q E h => by
    obtain ⟨F, M, xs, rl, q⟩ := h
    simp only [runN, hp] at q
    by_cases hx : xs.length = fn.ps
    · rw [if_pos hx] at q
      have := rl.len
      rw [List.length_map] at this
      exact ⟨by omega, F, M, xs, rl, hx, q⟩
    · rw [if_neg hx] at q
      exact q.elim
  refine F.ok (CX := L2.CX P w) S (fun vs H Q E h => by rw [lenI]; exact (hlen vs H Q E h).1) fun cdv A outer s H vs Q E hr h => ?_
  obtain ⟨hl, F0, M0, xs, rl, hx, q⟩ := hlen vs H Q E h
  have C : StOk T fa fd exc (runN (globD T) prog n) n i.N (fun cls d _ H' => E cls d H') (defScope st) (cxOf (L2.CX P w) P w K mg base i.N qual (defScope st) (fa f) cdv A outer s H E) := {
    nm := rfl
    nd := S.nd
    sc := rfl
    calm := rfl
    room := hr
    tk := takes_of rfl rfl rfl rfl
    facts := hF
    ok := ok
    pass := passes_of rfl
    st := fun j y hy => by
      unfold locB at hy
      simp only [Bool.and_eq_true, decide_eq_true_eq] at hy
      refine ⟨hy.1, ?_, .inl rfl⟩
      have h2 := hy.2
      split at h2
      · rename_i q; exact .inl q
      · rename_i q; exact .inr q
      · cases h2
    kf := S.kind }
  refine ⟨_, simSs (ps := i.ps) C fn.body _ hb, F0, M0, xs ++ List.replicate (fn.n - fn.ps) .non, ?_, ?_⟩
  · -- the start
    have hxl : xs.length = i.ps := by rw [hx, hps]
    have key : ∀ (j : Nat) (s : Sl), (xs ++ List.replicate (fn.n - fn.ps) .non)[j]? = some s → s ≠ .non → xs[j]? = some s ∧ (L2.start i.N vs)[j]? = (vs.map some)[j]? := fun j s hj hs => by
      by_cases hlt : j < xs.length
      · rw [List.getElem?_append_left hlt] at hj
        refine ⟨hj, ?_⟩
        unfold L2.start
        rw [List.getElem?_append_left (by rw [List.length_map]; omega)]
      · rw [List.getElem?_append_right (by omega)] at hj
        have := List.mem_of_getElem? hj
        rw [List.mem_replicate] at this
        exact absurd this.2 hs
    refine ⟨?_, fun j d hj => ?_, fun j o hj => ?_, fun j k o o' a hj hk s s' => ?_, rl.sub, rl.there⟩
    · unfold L2.start
      rw [List.length_append, List.length_append, List.length_replicate, List.length_replicate, List.length_map]
      omega
    · obtain ⟨h1, h2⟩ := key j _ hj (fun z => nomatch z)
      rw [h2]
      exact rl.dat j d h1
    · obtain ⟨h1, h2⟩ := key j _ hj (fun z => nomatch z)
      rw [h2]
      exact rl.own j o h1
    · obtain ⟨h1, h2⟩ := key j _ hj (fun z => nomatch z)
      obtain ⟨h3, h4⟩ := key k _ hk (fun z => nomatch z)
      rw [h2] at s
      rw [h4] at s'
      exact rl.apart j k o o' a h1 h3 s s'
  · have hxl : xs.length = i.ps := by rw [hx, hps]
    cases qe : evSs (globD T) (runN (globD T) prog n) fn.body (xs ++ List.replicate (fn.n - fn.ps) .non) with
    | bad => rw [qe] at q; exact q
    | nxt e1 =>
      rw [qe] at q
      simp only [finish] at q
      by_cases hle' : xs.length ≤ e1.length
      case neg => rw [if_neg hle'] at q; exact q.elim
      rw [if_pos hle'] at q
      intro F' M' σ' H' g r'
      exact q .non H' g.ex (outs_rel hxl rl g r' (by omega)) (by simp only [VR])
    | exc x e1 =>
      rw [qe] at q
      simp only [finish] at q
      by_cases hle' : xs.length ≤ e1.length
      case neg => rw [if_neg hle'] at q; exact q.elim
      rw [if_pos hle'] at q
      intro F' M' σ' cls dd H' g r' xr
      exact q cls dd H' g.ex (outs_rel hxl rl g r' (by omega)) xr
    | ret d e1 =>
      rw [qe] at q
      simp only [finish] at q
      by_cases hle' : xs.length ≤ e1.length
      case neg => rw [if_neg hle'] at q; exact q.elim
      rw [if_pos hle'] at q
      intro F' M' σ' v H' g r' rr
      refine q v H' g.ex (outs_rel hxl rl g r' (by omega)) ?_
      rcases rr with h | ⟨j, l, hj, rfl, h1, h2⟩
      · exact h.less g.sub
      · obtain ⟨a, b, c, us, d1, d2⟩ := r'.own j _ h1
        rw [h2] at b
        cases b
        simp only [VR]
        refine ⟨a, us, rfl, ?_, d1, d2.less g.sub⟩
        rcases g.fresh j _ a h1 h2 with ⟨o0, h3, _⟩ | z
        · rw [List.getElem?_append_right (by omega)] at h3
          have := List.mem_of_getElem? h3
          rw [List.mem_replicate] at this
          cases this.2
        · exact z
end
end Qh

/-! A law as a whole. -/
namespace Qh
open PySem PySem.Spec PyProof.Rows L2 PySem.W
structure DRow where
  i : FnI
  fn : Fn
  st : Stmt
abbrev FnP (K : PySem.W.Frag) (r : DRow) (f : Addr) (fd : FuncData) : Prop := FunD K r.i.name r.i.name (defArgs r.st) (defBody r.st) (defScope r.st) [] [] f fd
def DRow.d (r : DRow) : He.DefD := ⟨(r.i.name, none), r.i.name, r.i.name, defArgs r.st, defBody r.st, defScope r.st, [], []⟩
def chkRow (T : Tab) (r : DRow) : Bool := chkFn T r.i r.fn r.st
/-! ### what stands under a global name -/
mutual
def gB (K : PySem.W.Frag) : D → Value → Bool
  | .non, .none => true
  | .bl b, .bool c => b == c
  | .int i, .int j _ => decide (j = i)
  | .str s, .str t _ => decide (t = s)
  | .tup ds, .ref a => (match K.lookup a with
    | some ⟨.type c, _, .seq its _, _⟩ => decide (c = "tuple") && (decide (its.size ≤ sizeLine) && gBs K ds its.toList)
    | _ => false)
  | _, _ => false
def gBs (K : PySem.W.Frag) : List D → List Value → Bool
  | [], [] => true
  | d :: ds, v :: vs => gB K d v && gBs K ds vs
  | _, _ => false
end
mutual
theorem gB_ok {K : PySem.W.Frag} : ∀ (d : D) (u : Value), gB K d u = true → ∃ v, RelV v u ∧ ∀ F H, VR K F H d v
  | .non, u, h => by
    cases u <;> simp only [gB] at h <;> try (cases h; done)
    exact ⟨.non, rfl, fun F H => by simp only [VR]⟩
  | .bl b, u, h => by
    cases u <;> simp only [gB] at h <;> try (cases h; done)
    rename_i c
    have e := eq_of_beq h
    subst e
    exact ⟨.bl b, rfl, fun F H => by simp only [VR]⟩
  | .int i, u, h => by
    cases u <;> simp only [gB] at h <;> try (cases h; done)
    have e := of_decide_eq_true h
    subst e
    exact ⟨.int _, ⟨_, rfl⟩, fun F H => by simp only [VR]⟩
  | .str s, u, h => by
    cases u <;> simp only [gB] at h <;> try (cases h; done)
    have e := of_decide_eq_true h
    subst e
    exact ⟨.str _, ⟨_, rfl⟩, fun F H => by simp only [VR]⟩
  | .tup ds, u, h => by
    cases u <;> try (simp only [gB] at h; cases h; done)
    rename_i a
    simp only [gB] at h
    split at h
    · rename_i c od its n osl q
      simp only [Bool.and_eq_true, decide_eq_true_eq] at h
      obtain ⟨vs, hv, hr⟩ := gBs_ok ds its.toList h.2.2
      refine ⟨.ref a, rfl, fun F H => ?_⟩
      simp only [VR]
      exact ⟨a, vs, rfl, .inr fun H' => .inr ⟨_, its, n, q, congrArg Value.type h.1, rfl, h.2.1, hv⟩, hr F H⟩
    · cases h
  | .lst _, u, h => by cases u <;> simp only [gB] at h <;> cases h
  | .scr _, u, h => by cases u <;> simp only [gB] at h <;> cases h
  | .dct _ _, u, h => by cases u <;> simp only [gB] at h <;> cases h
theorem gBs_ok {K : PySem.W.Frag} : ∀ (ds : List D) (us : List Value), gBs K ds us = true → ∃ vs, Vals vs us ∧ ∀ F H, VRs K F H ds vs
  | [], [], _ => ⟨[], .nil, fun _ _ => VRs.nil_iff.mpr rfl⟩
  | [], _ :: _, h => by simp only [gBs] at h; cases h
  | _ :: _, [], h => by simp only [gBs] at h; cases h
  | d :: ds, u :: us, h => by
    simp only [gBs, Bool.and_eq_true] at h
    obtain ⟨v, hv, hr⟩ := gB_ok d u h.1
    obtain ⟨vs, hvs, hrs⟩ := gBs_ok ds us h.2
    exact ⟨v :: vs, .cons hv hvs, fun F H => .cons_mk (hr F H) (hrs F H)⟩
end
/-! ### all defs -/
def progOf (rows : List DRow) (f : Nat) : Option Fn := (rows[f]?).map (·.fn)
def faOf (K : PySem.W.Frag) (rows : List DRow) (f : Nat) : Addr := match rows[f]? with
  | some r => He.fAd K (r.i.name, none)
  | none => 0
section
variable {P : Program} {w : World} {K : PySem.W.Frag} {mg : Str → Option Value} {exc : Nat → Addr} {rows : List DRow} {globs : List (Str × D)} {blts : List Str}
theorem rows_at {f : Nat} {i : FnI} (h : (rows.map (·.i))[f]? = some i) : ∃ r, rows[f]? = some r ∧ r.i = i := by
  rw [List.getElem?_map] at h
  exact Option.map_eq_some_iff.mp h
theorem all_ok (hck : rows.all (chkRow ⟨rows.map (·.i), globs, blts⟩) = true) (hfd : ∀ r ∈ rows, ∃ fd, FnP K r (He.fAd K (r.i.name, none)) fd) (hmg : ∀ r ∈ rows, mg r.i.name = some (.ref (He.fAd K (r.i.name, none))))
    (hb : ∀ r ∈ rows, ∀ f fd, FnP K r f fd → Binds K fd (r.i.N.take r.i.ps) []) (hgl : ∀ p ∈ globs, ∃ u, mg p.1 = some u ∧ gB K p.2 u = true) (hbl : ∀ x ∈ blts, mg x = none) :
    ∃ fd : Nat → FuncData, (∀ f r, rows[f]? = some r → FnP K r (faOf K rows f) (fd f)) ∧ ∀ (base : Heap) n f i, (rows.map (·.i))[f]? = some i →
      FnOk P w K mg base (L2.CX P w) n (faOf K rows f) (fd f) (i.N.take i.ps) (spF K exc (runN (globD ⟨rows.map (·.i), globs, blts⟩) (progOf rows) n) f) := by
  have ex : ∀ f : Nat, ∃ fd : FuncData, ∀ r, rows[f]? = some r → FnP K r (faOf K rows f) fd := fun f => by
    cases q : rows[f]? with
    | none => exact ⟨default, fun r h => by cases h⟩
    | some r =>
      obtain ⟨fd, h⟩ := hfd r (List.mem_of_getElem? q)
      refine ⟨fd, fun r' h' => ?_⟩
      cases h'
      unfold faOf
      rw [q]
      exact h
  refine ⟨fun f => Classical.choose (ex f), fun f => Classical.choose_spec (ex f), fun base n => ?_⟩
  have hF : Facts ⟨rows.map (·.i), globs, blts⟩ K mg (faOf K rows) (fun f => Classical.choose (ex f)) := {
    fn := fun f i h => by
      obtain ⟨r, q, rfl⟩ := rows_at h
      have hm := List.mem_of_getElem? q
      have F := Classical.choose_spec (ex f) r q
      refine ⟨?_, F.kp, hb r hm _ _ F⟩
      unfold faOf
      rw [q]
      exact hmg r hm
    glob := fun g x d h => by
      obtain ⟨u, h1, h2⟩ := hgl (x, d) (List.mem_of_getElem? h)
      obtain ⟨v, h3, h4⟩ := gB_ok d u h2
      exact ⟨u, v, h1, h3, h4⟩
    blt := fun x h => hbl x (List.contains_iff_mem.mp h) }
  induction n with
  | zero =>
    intro f i h
    have no : ∀ vs H Q E, ¬ spF K exc (runN (globD ⟨rows.map (·.i), globs, blts⟩) (progOf rows) 0) f vs H Q E := fun vs H Q E z => by
      obtain ⟨F, M, xs, _, z⟩ := z
      exact z
    exact ⟨fun vs H Q E z => (no vs H Q E z).elim, fun A outer s H args us vs Q E _ _ _ _ z => (no vs H Q E z).elim⟩
  | succ n ih =>
    intro f i h
    obtain ⟨r, q, rfl⟩ := rows_at h
    have hm := List.mem_of_getElem? q
    exact fn_ok (fn := r.fn) (st := r.st) hF (by unfold progOf; rw [q]; rfl) (List.all_eq_true.mp hck r hm) (Classical.choose_spec (ex f) r q) ih
end
/-- the law's promise -/
theorem law_sp {K : PySem.W.Frag} {exc : Nat → Addr} {run : Run} {f : Nat} {ns : List Int} {o : En} (hr : run f [.dat (.scr ns)] = .ok (.bl true) o) (H : Hp) (a : Addr) (hO : Only H) (hS : SqL K H a (ns.map V.int)) : spF K exc run f [.ref a] H (fun v _ => v = .bl true) fun _ _ _ => False := by
  refine ⟨fun _ => False, fun _ => False, [.dat (.scr ns)], ⟨rfl, fun i d h => ?_, fun i o h => ?_, fun i j o o' a h => ?_, fun _ z => z, fun _ z => z.elim⟩, ?_⟩
  · cases i with
    | zero =>
      cases h
      refine ⟨.ref a, rfl, ?_⟩
      simp only [VR]
      refine ⟨a, rfl, ?_⟩
      rcases hS with h | h
      · left
        refine ⟨fun z => z, ?_⟩
        rcases h with h | ⟨o, h⟩
        · rcases hO a with q | ⟨o, xs, q⟩ <;> rw [q] at h <;> cases h
        · exact ⟨o, h⟩
      · right
        exact fun H' => .inr h
    | succ i => cases h
  · cases i with
    | zero => cases h
    | succ i => cases h
  · cases i with
    | zero => cases h
    | succ i => cases h
  · rw [hr]
    intro v H' _ _ h
    simpa only [VR] using h
theorem no_cx {P : Program} {w : World} (H : Hp) (s : Shared) (e : Value) (s' : Shared) (h : L2.CX P w [] H s (fun _ _ _ => False) e s') : False := by
  obtain ⟨_, _, _, _, _, _, _, _, _, _, _, _, z⟩ := h
  exact z.elim
/-- a law's walk, what may be let out by the world -/
theorem walk_own {l : PySem.W.OpenLaw} {k : Nat} {q : Program} {loose : List Str} {XP : (Str → Option Value) → Heap → Prop} {YP : World → Heap → Prop} {d : DefRec} {x : Str} (hn : l.most = some 63) (hdf : d.params.defaults = []) (hr : Room k callerA)
    (F : ∀ (w : World) (mg : Str → Option Value) (fa : Addr) (h : Heap), YP w h → h.Ns mainGlobals mg → mg d.name = some (.ref fa) → ∃ (K : PySem.W.Frag) (fd : FuncData) (sp : Sp), K.In h ∧
      (∀ (s : Shared) (u : Value), BindsTo s fd ⟨[u], []⟩ [(x, u)]) ∧ (∀ (H : Hp) (a : Addr) (ns : List Int), Only H → SqL K H a (ns.map V.int) → sp [.ref a] H (fun v _ => v = .bl true) fun _ _ _ => False) ∧
      ∀ base : Heap, K.In base → base.Ns mainGlobals mg → FnOk l.prog w K mg base (L2.CX l.prog w) k fa fd [x] sp) : PySem.W.WalkO q loose XP YP l.row.toRowW d [] (fun f vs => PySem.call f vs) := by
  refine Att.attach_call hn hdf fun w s0 s1 mg mb fa o pm cd doc a vs ns G Y _ _ _ hmg hobj hints hlen hg => ?_
  have TT := G.T
  obtain ⟨K, fd, sp, h1, h2, h3, h4⟩ := F w mg fa _ Y TT.g hmg
  refine law_call h1 TT.g TT.b TT.builtins TT.nolimit hg hobj hints ?_ hr h4 h2 (fun H => h3 H a ns) fun H e => no_cx H s1 e
  exact Nat.le_trans hlen (by rw [sizeLine_eq]; decide)
end Qh


namespace K01
open PySem PySem.Spec PyProof.Rows L2 Qh
def top (i : Nat) : Stmt := PySem.Challenge.pw_queryheld_k01_whole_least_differences.main.body.getD i (.Pass ⟨0, 0, 0, 0⟩)
abbrev F_is_integer : Nat := 0
abbrev F_is_in : Nat := 1
abbrev F_is_list : Nat := 2
abbrev F_words_of : Nat := 3
abbrev F_is_semantics : Nat := 4
abbrev F_need_semantics : Nat := 5
abbrev F_is_set : Nat := 6
abbrev F_negated : Nat := 7
abbrev F_both : Nat := 8
abbrev F_either : Nat := 9
abbrev F_united : Nat := 10
abbrev F_less : Nat := 11
abbrev F_in_both : Nat := 12
abbrev F_condition_size : Nat := 13
abbrev F_size_of : Nat := 14
abbrev F_is_expression : Nat := 15
abbrev F_need_expressions : Nat := 16
abbrev F_truth_in : Nat := 17
abbrev F_counted : Nat := 18
abbrev F_truths_of : Nat := 19
abbrev F_cases_of : Nat := 20
abbrev F_first_difference : Nat := 21
abbrev F_is_truth : Nat := 22
abbrev F_need_case : Nat := 23
abbrev F_count_at : Nat := 24
abbrev F_least_difference : Nat := 25
abbrev F__law_taken : Nat := 26
abbrev F__law_pick : Nat := 27
abbrev F__law_alike : Nat := 28
abbrev F__law_semantics : Nat := 29
abbrev F__law_join : Nat := 30
abbrev F__law_many : Nat := 31
abbrev F__law_condition : Nat := 32
abbrev F__law_expression : Nat := 33
abbrev F__law_leaves : Nat := 34
abbrev F__law_known : Nat := 35
abbrev F__law_count : Nat := 36
abbrev F__law_twins : Nat := 37
abbrev F__law_tuples : Nat := 38
abbrev F__law_tree : Nat := 39
abbrev F_law : Nat := 40
abbrev G_CHOICES : Nat := 0
abbrev G_MOST_LEAVES : Nat := 1
abbrev G_MOST_TUPLES : Nat := 2
abbrev G_MOST_COUNT : Nat := 3
abbrev G_KINDS : Nat := 4
abbrev G_TURNS : Nat := 5
def n0_0 : List Str := [("value" : Str)]
def i0 : FnI := ⟨"is_integer", 1, n0_0⟩
/-- is_integer(0 value) -/
def f_is_integer : Fn := ⟨1, 1, (.cons (.ret (.and (.isi (.var 0) [.int]) (.not (.isi (.var 0) [.bool])))) .nil)⟩
def n1_0 : List Str := [("value" : Str), ("least" : Str), ("most" : Str)]
def i1 : FnI := ⟨"is_in", 3, n1_0⟩
/-- is_in(0 value, 1 least, 2 most) -/
def f_is_in : Fn := ⟨3, 3, (.cons (.ret (.and (.call F_is_integer (.val (.var 0) .nil)) (.chn .le .le (.var 1) (.var 0) (.var 2)))) .nil)⟩
def n2_0 : List Str := [("value" : Str), ("least" : Str), ("most" : Str)]
def i2 : FnI := ⟨"is_list", 3, n2_0⟩
/-- is_list(0 value, 1 least, 2 most) -/
def f_is_list : Fn := ⟨3, 3, (.cons (.ret (.and (.isi (.var 0) [.tuple]) (.chn .le .le (.var 1) (.bi .len (.cons (.var 0) .nil)) (.var 2)))) .nil)⟩
def n3_0 : List Str := [("index" : Str)]
def i3 : FnI := ⟨"words_of", 1, n3_0⟩
/-- words_of(0 index) -/
def f_words_of : Fn := ⟨1, 1, (.cons (.ret (.me .split (.ix (.me .split (.glo G_CHOICES) (.cons (.cst (.str ";")) .nil)) (.var 0)) (.cons (.cst (.str " ")) .nil))) .nil)⟩
def n4_0 : List Str := [("value" : Str), ("index" : Str)]
def i4 : FnI := ⟨"is_semantics", 1, n4_0⟩
/-- is_semantics(0 value, 1 index) -/
def f_is_semantics : Fn := ⟨1, 2, (.cons (.ite (.not (.call F_is_list (.val (.var 0) (.val (.cst (.int 5)) (.val (.cst (.int 5)) .nil))))) (.cons (.ret (.cst (.bl false))) .nil) .nil) (.cons (.ret (.bi .all (.cons (.lc [1] (.rng1 (.cst (.int 5))) (.nm 1) .none (.and (.isi (.ix (.var 0) (.var 1)) [.str]) (.cmp .isin (.ix (.var 0) (.var 1)) (.call F_words_of (.val (.var 1) .nil))))) .nil))) .nil))⟩
def n5_0 : List Str := [("semantics" : Str)]
def i5 : FnI := ⟨"need_semantics", 1, n5_0⟩
/-- need_semantics(0 semantics) -/
def f_need_semantics : Fn := ⟨1, 1, (.cons (.ite (.not (.call F_is_semantics (.val (.var 0) .nil))) (.cons .bad .nil) .nil) .nil)⟩
def n6_0 : List Str := [("semantics" : Str)]
def i6 : FnI := ⟨"is_set", 1, n6_0⟩
/-- is_set(0 semantics) -/
def f_is_set : Fn := ⟨1, 1, (.cons (.ret (.cmp .eq (.ix (.var 0) (.cst (.int 0))) (.cst (.str "set")))) .nil)⟩
def n7_0 : List Str := [("value" : Str)]
def i7 : FnI := ⟨"negated", 1, n7_0⟩
/-- negated(0 value) -/
def f_negated : Fn := ⟨1, 1, (.cons (.ret (.ife (.cmp .is (.var 0) (.cst .non)) (.cst .non) (.not (.var 0)))) .nil)⟩
def n8_0 : List Str := [("one" : Str), ("other" : Str)]
def i8 : FnI := ⟨"both", 2, n8_0⟩
/-- both(0 one, 1 other) -/
def f_both : Fn := ⟨2, 2, (.cons (.ite (.or (.cmp .is (.var 0) (.cst (.bl false))) (.cmp .is (.var 1) (.cst (.bl false)))) (.cons (.ret (.cst (.bl false))) .nil) .nil) (.cons (.ret (.ife (.or (.cmp .is (.var 0) (.cst .non)) (.cmp .is (.var 1) (.cst .non))) (.cst .non) (.cst (.bl true)))) .nil))⟩
def n9_0 : List Str := [("one" : Str), ("other" : Str)]
def i9 : FnI := ⟨"either", 2, n9_0⟩
/-- either(0 one, 1 other) -/
def f_either : Fn := ⟨2, 2, (.cons (.ret (.call F_negated (.val (.call F_both (.val (.call F_negated (.val (.var 0) .nil)) (.val (.call F_negated (.val (.var 1) .nil)) .nil))) .nil))) .nil)⟩
def n10_0 : List Str := [("semantics" : Str), ("a" : Str), ("b" : Str)]
def i10 : FnI := ⟨"united", 3, n10_0⟩
/-- united(0 semantics, 1 a, 2 b) -/
def f_united : Fn := ⟨3, 3, (.cons (.ret (.ife (.cmp .eq (.ix (.var 0) (.cst (.int 1))) (.cst (.str "sum"))) (.bin .add (.var 1) (.var 2)) (.bi .max (.cons (.var 1) (.cons (.var 2) .nil))))) .nil)⟩
def n11_0 : List Str := [("semantics" : Str), ("a" : Str), ("b" : Str)]
def i11 : FnI := ⟨"less", 3, n11_0⟩
/-- less(0 semantics, 1 a, 2 b) -/
def f_less : Fn := ⟨3, 3, (.cons (.ite (.and (.cmp .eq (.ix (.var 0) (.cst (.int 2))) (.cst (.str "count"))) (.not (.call F_is_set (.val (.var 0) .nil)))) (.cons (.ret (.bi .max (.cons (.bin .sub (.var 1) (.var 2)) (.cons (.cst (.int 0)) .nil)))) .nil) .nil) (.cons (.ret (.ife (.cmp .gt (.var 2) (.cst (.int 0))) (.cst (.int 0)) (.var 1))) .nil))⟩
def n12_0 : List Str := [("semantics" : Str), ("a" : Str), ("b" : Str)]
def i12 : FnI := ⟨"in_both", 3, n12_0⟩
/-- in_both(0 semantics, 1 a, 2 b) -/
def f_in_both : Fn := ⟨3, 3, (.cons (.ret (.bi .min (.cons (.var 1) (.cons (.var 2) .nil)))) .nil)⟩
def n13_0 : List Str := [("value" : Str), ("part" : Str)]
def i13 : FnI := ⟨"condition_size", 1, n13_0⟩
/-- condition_size(0 value, 1 part) -/
def f_condition_size : Fn := ⟨1, 2, (.cons (.ite (.cmp .isin (.var 0) (.tup (.cons (.tup (.cons (.cst (.str "p")) .nil)) (.cons (.tup (.cons (.cst (.str "q")) .nil)) .nil)))) (.cons (.ret (.cst (.int 1))) .nil) .nil) (.cons (.ite (.or (.not (.isi (.var 0) [.tuple])) (.or (.cmp .notin (.bi .len (.cons (.var 0) .nil)) (.tup (.cons (.cst (.int 2)) (.cons (.cst (.int 3)) .nil)))) (.not (.isi (.ix (.var 0) (.cst (.int 0))) [.str])))) (.cons (.ret (.bin .add (.glo G_MOST_TUPLES) (.cst (.int 1)))) .nil) .nil) (.cons (.ite (.or (.and (.cmp .eq (.ix (.var 0) (.cst (.int 0))) (.cst (.str "not"))) (.cmp .eq (.bi .len (.cons (.var 0) .nil)) (.cst (.int 2)))) (.and (.cmp .isin (.ix (.var 0) (.cst (.int 0))) (.tup (.cons (.cst (.str "and")) (.cons (.cst (.str "or")) .nil)))) (.cmp .eq (.bi .len (.cons (.var 0) .nil)) (.cst (.int 3))))) (.cons (.ret (.bin .add (.cst (.int 1)) (.bi .sum (.cons (.lc [1] (.seq (.sl (.var 0) (.some (.cst (.int 1))) .none)) (.nm 1) .none (.call F_condition_size (.val (.var 1) .nil))) .nil)))) .nil) .nil) (.cons (.ret (.bin .add (.glo G_MOST_TUPLES) (.cst (.int 1)))) .nil))))⟩
def n14_0 : List Str := [("value" : Str), ("bad" : Str), ("first" : Str), ("leaves" : Str), ("tuples" : Str)]
def i14 : FnI := ⟨"size_of", 1, n14_0⟩
/-- size_of(0 value, 1 bad, 2 first, 3 leaves, 4 tuples) -/
def f_size_of : Fn := ⟨1, 5, (.cons (.asg (.nm 1) (.tup (.cons (.bin .add (.glo G_MOST_LEAVES) (.cst (.int 1))) (.cons (.bin .add (.glo G_MOST_TUPLES) (.cst (.int 1))) .nil)))) (.cons (.ite (.or (.not (.isi (.var 0) [.tuple])) (.or (.cmp .notin (.bi .len (.cons (.var 0) .nil)) (.tup (.cons (.cst (.int 2)) (.cons (.cst (.int 3)) .nil)))) (.not (.isi (.ix (.var 0) (.cst (.int 0))) [.str])))) (.cons (.ret (.var 1)) .nil) .nil) (.cons (.ite (.cmp .eq (.bi .len (.cons (.var 0) .nil)) (.cst (.int 2))) (.cons (.ret (.ife (.and (.cmp .eq (.ix (.var 0) (.cst (.int 0))) (.cst (.str "table"))) (.call F_is_in (.val (.ix (.var 0) (.cst (.int 1))) (.val (.cst (.int 0)) (.val (.cst (.int 1)) .nil))))) (.tup (.cons (.cst (.int 1)) (.cons (.cst (.int 1)) .nil))) (.var 1))) .nil) .nil) (.cons (.asg (.tp (.cons (.nm 3) (.cons (.nm 4) .nil))) (.call F_size_of (.val (.ix (.var 0) (.cst (.int 2))) .nil))) (.cons (.ite (.cmp .eq (.ix (.var 0) (.cst (.int 0))) (.cst (.str "filter"))) (.cons (.ret (.tup (.cons (.var 3) (.cons (.bin .add (.bin .add (.var 4) (.cst (.int 1))) (.call F_condition_size (.val (.ix (.var 0) (.cst (.int 1))) .nil))) .nil)))) .nil) .nil) (.cons (.ite (.cmp .notin (.ix (.var 0) (.cst (.int 0))) (.glo G_KINDS)) (.cons (.ret (.var 1)) .nil) .nil) (.cons (.asg (.nm 2) (.call F_size_of (.val (.ix (.var 0) (.cst (.int 1))) .nil))) (.cons (.ret (.tup (.cons (.bin .add (.var 3) (.ix (.var 2) (.cst (.int 0)))) (.cons (.bin .add (.bin .add (.var 4) (.cst (.int 1))) (.ix (.var 2) (.cst (.int 1)))) .nil)))) .nil))))))))⟩
def n15_0 : List Str := [("value" : Str), ("leaves" : Str), ("tuples" : Str)]
def i15 : FnI := ⟨"is_expression", 1, n15_0⟩
/-- is_expression(0 value, 1 leaves, 2 tuples) -/
def f_is_expression : Fn := ⟨1, 3, (.cons (.asg (.tp (.cons (.nm 1) (.cons (.nm 2) .nil))) (.call F_size_of (.val (.var 0) .nil))) (.cons (.ret (.and (.cmp .le (.var 1) (.glo G_MOST_LEAVES)) (.cmp .le (.var 2) (.glo G_MOST_TUPLES)))) .nil))⟩
def n16_0 : List Str := [("values" : Str), ("index" : Str)]
def i16 : FnI := ⟨"need_expressions", 1, n16_0⟩
/-- need_expressions(0 values, 1 index) -/
def f_need_expressions : Fn := ⟨1, 2, (.cons (.for (.rng1 (.bi .len (.cons (.var 0) .nil))) (.nm 1) (.cons (.ite (.not (.call F_is_expression (.val (.ix (.var 0) (.var 1)) .nil))) (.cons .bad .nil) .nil) .nil)) .nil)⟩
def n17_0 : List Str := [("condition" : Str), ("p" : Str), ("q" : Str), ("kind" : Str), ("one" : Str), ("other" : Str)]
def i17 : FnI := ⟨"truth_in", 3, n17_0⟩
/-- truth_in(0 condition, 1 p, 2 q, 3 kind, 4 one, 5 other) -/
def f_truth_in : Fn := ⟨3, 6, (.cons (.asg (.nm 3) (.ix (.var 0) (.cst (.int 0)))) (.cons (.ite (.cmp .isin (.var 3) (.tup (.cons (.cst (.str "p")) (.cons (.cst (.str "q")) .nil)))) (.cons (.ret (.ife (.cmp .eq (.var 3) (.cst (.str "p"))) (.var 1) (.var 2))) .nil) .nil) (.cons (.asg (.nm 4) (.call F_truth_in (.val (.ix (.var 0) (.cst (.int 1))) (.val (.var 1) (.val (.var 2) .nil))))) (.cons (.ite (.cmp .eq (.var 3) (.cst (.str "not"))) (.cons (.ret (.call F_negated (.val (.var 4) .nil))) .nil) .nil) (.cons (.asg (.nm 5) (.call F_truth_in (.val (.ix (.var 0) (.cst (.int 2))) (.val (.var 1) (.val (.var 2) .nil))))) (.cons (.ret (.ife (.cmp .eq (.var 3) (.cst (.str "and"))) (.call F_both (.val (.var 4) (.val (.var 5) .nil))) (.call F_either (.val (.var 4) (.val (.var 5) .nil))))) .nil))))))⟩
def n18_0 : List Str := [("semantics" : Str), ("expression" : Str), ("case" : Str), ("kind" : Str), ("other" : Str), ("one" : Str), ("many" : Str)]
def i18 : FnI := ⟨"counted", 3, n18_0⟩
/-- counted(0 semantics, 1 expression, 2 case, 3 kind, 4 other, 5 one, 6 many) -/
def f_counted : Fn := ⟨3, 7, (.cons (.asg (.nm 3) (.ix (.var 1) (.cst (.int 0)))) (.cons (.ite (.cmp .eq (.var 3) (.cst (.str "table"))) (.cons (.ret (.ix (.var 2) (.ix (.var 1) (.cst (.int 1))))) .nil) .nil) (.cons (.asg (.nm 4) (.call F_counted (.val (.var 0) (.val (.ix (.var 1) (.cst (.int 2))) (.val (.var 2) .nil))))) (.cons (.ite (.cmp .eq (.var 3) (.cst (.str "filter"))) (.cons (.ret (.ife (.cmp .is (.call F_truth_in (.val (.ix (.var 1) (.cst (.int 1))) (.val (.ix (.var 2) (.cst (.int 2))) (.val (.ix (.var 2) (.cst (.int 3))) .nil)))) (.cst (.bl true))) (.var 4) (.cst (.int 0)))) .nil) .nil) (.cons (.asg (.nm 5) (.call F_counted (.val (.var 0) (.val (.ix (.var 1) (.cst (.int 1))) (.val (.var 2) .nil))))) (.cons (.ite (.cmp .eq (.var 3) (.cst (.str "difference"))) (.cons (.ret (.call F_less (.val (.var 0) (.val (.var 5) (.val (.var 4) .nil))))) .nil) .nil) (.cons (.asg (.nm 6) (.ife (.cmp .eq (.var 3) (.cst (.str "union"))) (.call F_united (.val (.var 0) (.val (.var 5) (.val (.var 4) .nil)))) (.call F_in_both (.val (.var 0) (.val (.var 5) (.val (.var 4) .nil)))))) (.cons (.ret (.ife (.call F_is_set (.val (.var 0) .nil)) (.bi .min (.cons (.var 6) (.cons (.cst (.int 1)) .nil))) (.var 6))) .nil))))))))⟩
def n19_0 : List Str := [("semantics" : Str)]
def i19 : FnI := ⟨"truths_of", 1, n19_0⟩
/-- truths_of(0 semantics) -/
def f_truths_of : Fn := ⟨1, 1, (.cons (.ret (.bin .add (.lst (.cons (.cst (.bl true)) (.cons (.cst (.bl false)) .nil))) (.ife (.cmp .eq (.ix (.var 0) (.cst (.int 3))) (.cst (.str "unknown"))) (.lst (.cons (.cst .non) .nil)) (.lst .nil)))) .nil)⟩
def n20_0 : List Str := [("semantics" : Str), ("most" : Str), ("whole" : Str), ("found" : Str), ("truths" : Str), ("a" : Str), ("p" : Str), ("q" : Str)]
def i20 : FnI := ⟨"cases_of", 2, n20_0⟩
/-- cases_of(0 semantics, 1 most, 2 whole, 3 found, 4 truths, 5 a, 6 p, 7 q) -/
def f_cases_of : Fn := ⟨2, 8, (.cons (.par [3, 4] (.new (.val (.call F_truths_of (.val (.var 0) .nil)) .nil))) (.cons (.for (.rng1 (.bin .add (.bin .mul (.cst (.int 2)) (.var 1)) (.cst (.int 1)))) (.nm 2) (.cons (.for (.rng2 (.bi .max (.cons (.cst (.int 0)) (.cons (.bin .sub (.var 2) (.var 1)) .nil))) (.bin .add (.bi .min (.cons (.var 2) (.cons (.var 1) .nil))) (.cst (.int 1)))) (.nm 5) (.cons (.ext 3 (.lc2 [6, 7] [7] (.seq (.var 4)) (.nm 6) (.seq (.var 4)) (.nm 7) (.tup (.cons (.var 5) (.cons (.bin .sub (.var 2) (.var 5)) (.cons (.var 6) (.cons (.var 7) .nil))))))) .nil)) .nil)) (.cons (.reto 3) .nil)))⟩
def n21_0 : List Str := [("semantics" : Str), ("left" : Str), ("right" : Str), ("most" : Str), ("case" : Str)]
def i21 : FnI := ⟨"first_difference", 3, n21_0⟩
/-- first_difference(0 semantics, 1 left, 2 right, 3 most, 4 case) -/
def f_first_difference : Fn := ⟨3, 5, (.cons (.asg (.nm 3) (.ife (.call F_is_set (.val (.var 0) .nil)) (.cst (.int 1)) (.bin .mul (.glo G_TURNS) (.bi .max (.cons (.ix (.call F_size_of (.val (.var 1) .nil)) (.cst (.int 0))) (.cons (.ix (.call F_size_of (.val (.var 2) .nil)) (.cst (.int 0))) .nil)))))) (.cons (.for (.seq (.call F_cases_of (.val (.var 0) (.val (.var 3) .nil)))) (.nm 4) (.cons (.ite (.cmp .ne (.call F_counted (.val (.var 0) (.val (.var 1) (.val (.var 4) .nil)))) (.call F_counted (.val (.var 0) (.val (.var 2) (.val (.var 4) .nil))))) (.cons (.ret (.var 4)) .nil) .nil) .nil)) (.cons (.ret (.cst .non)) .nil)))⟩
def n22_0 : List Str := [("semantics" : Str), ("value" : Str)]
def i22 : FnI := ⟨"is_truth", 2, n22_0⟩
/-- is_truth(0 semantics, 1 value) -/
def f_is_truth : Fn := ⟨2, 2, (.cons (.ret (.or (.isi (.var 1) [.bool]) (.and (.cmp .is (.var 1) (.cst .non)) (.cmp .eq (.ix (.var 0) (.cst (.int 3))) (.cst (.str "unknown")))))) .nil)⟩
def n23_0 : List Str := [("semantics" : Str), ("case" : Str), ("most" : Str)]
def i23 : FnI := ⟨"need_case", 2, n23_0⟩
/-- need_case(0 semantics, 1 case, 2 most) -/
def f_need_case : Fn := ⟨2, 3, (.cons (.asg (.nm 2) (.ife (.call F_is_set (.val (.var 0) .nil)) (.cst (.int 1)) (.glo G_MOST_COUNT))) (.cons (.ite (.or (.not (.call F_is_list (.val (.var 1) (.val (.cst (.int 4)) (.val (.cst (.int 4)) .nil))))) (.or (.not (.call F_is_in (.val (.ix (.var 1) (.cst (.int 0))) (.val (.cst (.int 0)) (.val (.var 2) .nil))))) (.not (.call F_is_in (.val (.ix (.var 1) (.cst (.int 1))) (.val (.cst (.int 0)) (.val (.var 2) .nil))))))) (.cons .bad .nil) .nil) (.cons (.ite (.or (.not (.call F_is_truth (.val (.var 0) (.val (.ix (.var 1) (.cst (.int 2))) .nil)))) (.not (.call F_is_truth (.val (.var 0) (.val (.ix (.var 1) (.cst (.int 3))) .nil))))) (.cons .bad .nil) .nil) .nil)))⟩
def n24_0 : List Str := [("semantics" : Str), ("expression" : Str), ("case" : Str)]
def i24 : FnI := ⟨"count_at", 3, n24_0⟩
/-- count_at(0 semantics, 1 expression, 2 case) -/
def f_count_at : Fn := ⟨3, 3, (.cons (.ex (.call F_need_semantics (.val (.var 0) .nil))) (.cons (.ex (.call F_need_expressions (.val (.tup (.cons (.var 1) .nil)) .nil))) (.cons (.ex (.call F_need_case (.val (.var 0) (.val (.var 2) .nil)))) (.cons (.ret (.call F_counted (.val (.var 0) (.val (.var 1) (.val (.var 2) .nil))))) .nil))))⟩
def n25_0 : List Str := [("semantics" : Str), ("left" : Str), ("right" : Str)]
def i25 : FnI := ⟨"least_difference", 3, n25_0⟩
/-- least_difference(0 semantics, 1 left, 2 right) -/
def f_least_difference : Fn := ⟨3, 3, (.cons (.ex (.call F_need_semantics (.val (.var 0) .nil))) (.cons (.ex (.call F_need_expressions (.val (.tup (.cons (.var 1) (.cons (.var 2) .nil))) .nil))) (.cons (.ret (.call F_first_difference (.val (.var 0) (.val (.var 1) (.val (.var 2) .nil))))) .nil)))⟩
def n26_0 : List Str := [("_law_row" : Str), ("_law_many_here" : Str), ("_law_cell" : Str), ("_law_found" : Str)]
def i26 : FnI := ⟨"_law_taken", 2, n26_0⟩
/-- _law_taken(0 _law_row, 1 _law_many_here, 2 _law_cell, 3 _law_found) -/
def f__law_taken : Fn := ⟨2, 4, (.cons (.ite (.cmp .gt (.ix (.bor 0) (.cst (.int 3))) (.cst (.int 0))) (.cons (.asg (.nm 3) (.bin .mod (.bi .int (.cons (.ix (.bor 0) (.cst (.int 3))) .nil)) (.var 1))) (.cons (.setix 0 (.cst (.int 3)) (.bin .fdiv (.ix (.bor 0) (.cst (.int 3))) (.var 1))) (.cons (.ret (.var 3)) .nil))) .nil) (.cons (.setix 0 (.cst (.int 1)) (.bin .add (.ix (.bor 0) (.cst (.int 1))) (.cst (.int 1)))) (.cons (.ite (.cmp .gt (.ix (.bor 0) (.cst (.int 1))) (.bi .len (.cons (.ix (.bor 0) (.cst (.int 0))) .nil))) (.cons (.setix 0 (.cst (.int 2)) (.bin .mod (.bi .int (.cons (.bin .add (.bin .mul (.ix (.bor 0) (.cst (.int 2))) (.cst (.int 48271))) (.cst (.int 11))) .nil)) (.cst (.int 2147483647)))) (.cons (.ret (.bin .mod (.bi .int (.cons (.bin .fdiv (.ix (.bor 0) (.cst (.int 2))) (.cst (.int 7))) .nil)) (.var 1))) .nil)) .nil) (.cons (.asg (.nm 2) (.ix (.ix (.bor 0) (.cst (.int 0))) (.bin .sub (.ix (.bor 0) (.cst (.int 1))) (.cst (.int 1))))) (.cons (.setix 0 (.cst (.int 2)) (.bin .mod (.bi .int (.cons (.bin .add (.bin .add (.bin .mul (.ix (.bor 0) (.cst (.int 2))) (.cst (.int 48271))) (.var 2)) (.cst (.int 11))) .nil)) (.cst (.int 2147483647)))) (.cons (.ite (.cmp .ge (.var 2) (.bin .pow (.cst (.int 10)) (.cst (.int 18)))) (.cons (.setix 0 (.cst (.int 3)) (.bin .fdiv (.var 2) (.var 1))) .nil) .nil) (.cons (.ret (.bin .mod (.bi .int (.cons (.var 2) .nil)) (.var 1))) .nil)))))))⟩
def n27_0 : List Str := [("_law_row" : Str), ("_law_kinds" : Str)]
def i27 : FnI := ⟨"_law_pick", 2, n27_0⟩
/-- _law_pick(0 _law_row, 1 _law_kinds) -/
def f__law_pick : Fn := ⟨2, 2, (.cons (.ret (.ix (.var 1) (.call F__law_taken (.io 0 (.val (.bi .len (.cons (.var 1) .nil)) .nil))))) .nil)⟩
def n28_0 : List Str := [("_law_found" : Str), ("_law_due" : Str), ("_law_k" : Str)]
def i28 : FnI := ⟨"_law_alike", 2, n28_0⟩
/-- _law_alike(0 _law_found, 1 _law_due, 2 _law_k) -/
def f__law_alike : Fn := ⟨2, 3, (.cons (.ite (.isi (.var 1) [.tuple, .list]) (.cons (.ite (.or (.not (.isi (.var 0) [.tuple, .list])) (.cmp .ne (.isi (.var 0) [.list]) (.isi (.var 1) [.list]))) (.cons (.ret (.cst (.bl false))) .nil) .nil) (.cons (.ite (.cmp .ne (.bi .len (.cons (.var 0) .nil)) (.bi .len (.cons (.var 1) .nil))) (.cons (.ret (.cst (.bl false))) .nil) .nil) (.cons (.ret (.cmp .eq (.lc [2] (.rng1 (.bi .len (.cons (.var 1) .nil))) (.nm 2) (.some (.not (.call F__law_alike (.val (.ix (.var 0) (.var 2)) (.val (.ix (.var 1) (.var 2)) .nil))))) (.var 2)) (.lst .nil))) .nil))) .nil) (.cons (.ite (.or (.cmp .is (.var 1) (.cst .non)) (.isi (.var 1) [.str])) (.cons (.ret (.and (.cmp .eq (.var 0) (.var 1)) (.cmp .eq (.isi (.var 0) [.str]) (.isi (.var 1) [.str])))) .nil) .nil) (.cons (.ret (.and (.isi (.var 0) [.int]) (.and (.cmp .eq (.isi (.var 0) [.bool]) (.isi (.var 1) [.bool])) (.cmp .eq (.var 0) (.var 1))))) .nil)))⟩
def n29_0 : List Str := [("_law_row" : Str), ("_law_first" : Str), ("_law_second" : Str), ("_law_third" : Str), ("_law_fourth" : Str)]
def i29 : FnI := ⟨"_law_semantics", 1, n29_0⟩
/-- _law_semantics(0 _law_row, 1 _law_first, 2 _law_second, 3 _law_third, 4 _law_fourth) -/
def f__law_semantics : Fn := ⟨1, 5, (.cons (.par [1, 2] (.val (.call F__law_pick (.io 0 (.val (.lst (.cons (.cst (.str "bag")) (.cons (.cst (.str "bag")) (.cons (.cst (.str "set")) .nil)))) .nil))) (.val (.call F__law_pick (.io 0 (.val (.lst (.cons (.cst (.str "maximum")) (.cons (.cst (.str "sum")) .nil))) .nil))) .nil))) (.cons (.par [3, 4] (.val (.call F__law_pick (.io 0 (.val (.lst (.cons (.cst (.str "count")) (.cons (.cst (.str "kind")) .nil))) .nil))) (.val (.call F__law_pick (.io 0 (.val (.lst (.cons (.cst (.str "none")) (.cons (.cst (.str "unknown")) (.cons (.cst (.str "unknown")) (.cons (.cst (.str "value")) .nil))))) .nil))) .nil))) (.cons (.ret (.tup (.cons (.var 1) (.cons (.var 2) (.cons (.var 3) (.cons (.var 4) (.cons (.call F__law_pick (.io 0 (.val (.lst (.cons (.cst (.str "null")) (.cons (.cst (.str "zero")) .nil))) .nil))) .nil))))))) .nil)))⟩
def n30_0 : List Str := [("_law_word" : Str), ("_law_one" : Str), ("_law_other" : Str), ("_law_some" : Str)]
def i30 : FnI := ⟨"_law_join", 3, n30_0⟩
/-- _law_join(0 _law_word, 1 _law_one, 2 _law_other, 3 _law_some) -/
def f__law_join : Fn := ⟨3, 4, (.cons (.asg (.nm 3) (.lst (.cons (.var 1) (.cons (.var 2) .nil)))) (.cons (.ite (.cmp .eq (.var 0) (.cst (.str "and"))) (.cons (.ret (.ife (.cmp .isin (.cst (.bl false)) (.var 3)) (.cst (.bl false)) (.ife (.cmp .isin (.cst .non) (.var 3)) (.cst .non) (.cst (.bl true))))) .nil) .nil) (.cons (.ret (.ife (.cmp .isin (.cst (.bl true)) (.var 3)) (.cst (.bl true)) (.ife (.cmp .isin (.cst .non) (.var 3)) (.cst .non) (.cst (.bl false))))) .nil)))⟩
def n31_0 : List Str := [("_law_way" : Str), ("_law_word" : Str), ("_law_a" : Str), ("_law_b" : Str), ("_law_many_here" : Str)]
def i31 : FnI := ⟨"_law_many", 4, n31_0⟩
/-- _law_many(0 _law_way, 1 _law_word, 2 _law_a, 3 _law_b, 4 _law_many_here) -/
def f__law_many : Fn := ⟨4, 5, (.cons (.ite (.cmp .eq (.var 1) (.cst (.str "union"))) (.cons (.asg (.nm 4) (.ife (.cmp .eq (.ix (.var 0) (.cst (.int 1))) (.cst (.str "sum"))) (.bin .add (.var 2) (.var 3)) (.bi .max (.cons (.var 2) (.cons (.var 3) .nil))))) .nil) (.cons (.ite (.cmp .eq (.var 1) (.cst (.str "intersection"))) (.cons (.asg (.nm 4) (.bi .min (.cons (.var 2) (.cons (.var 3) .nil)))) .nil) (.cons (.ite (.or (.cmp .eq (.ix (.var 0) (.cst (.int 0))) (.cst (.str "set"))) (.cmp .eq (.ix (.var 0) (.cst (.int 2))) (.cst (.str "kind")))) (.cons (.asg (.nm 4) (.bin .mul (.var 2) (.bi .int (.cons (.cmp .eq (.var 3) (.cst (.int 0))) .nil)))) .nil) (.cons (.asg (.nm 4) (.bi .max (.cons (.cst (.int 0)) (.cons (.bin .sub (.var 2) (.var 3)) .nil)))) .nil)) .nil)) .nil)) (.cons (.ret (.ife (.cmp .eq (.ix (.var 0) (.cst (.int 0))) (.cst (.str "set"))) (.bi .min (.cons (.var 4) (.cons (.cst (.int 1)) .nil))) (.var 4))) .nil))⟩
def n32_0 : List Str := [("_law_row" : Str), ("_law_deep" : Str), ("_law_kind" : Str)]
def i32 : FnI := ⟨"_law_condition", 2, n32_0⟩
/-- _law_condition(0 _law_row, 1 _law_deep, 2 _law_kind) -/
def f__law_condition : Fn := ⟨2, 3, (.cons (.asg (.nm 2) (.call F__law_taken (.io 0 (.val (.bin .add (.cst (.int 3)) (.bin .mul (.cst (.int 3)) (.bi .int (.cons (.cmp .gt (.var 1) (.cst (.int 0))) .nil)))) .nil)))) (.cons (.ite (.cmp .lt (.var 2) (.cst (.int 3))) (.cons (.ret (.call F__law_pick (.io 0 (.val (.lst (.cons (.tup (.cons (.cst (.str "p")) .nil)) (.cons (.tup (.cons (.cst (.str "p")) .nil)) (.cons (.tup (.cons (.cst (.str "q")) .nil)) .nil)))) .nil)))) .nil) .nil) (.cons (.ite (.cmp .eq (.var 2) (.cst (.int 3))) (.cons (.ret (.tup (.cons (.cst (.str "not")) (.cons (.call F__law_condition (.io 0 (.val (.bin .sub (.var 1) (.cst (.int 1))) .nil))) .nil)))) .nil) .nil) (.cons (.ret (.tup (.cons (.call F__law_pick (.io 0 (.val (.lst (.cons (.cst (.str "and")) (.cons (.cst (.str "or")) .nil))) .nil))) (.cons (.call F__law_condition (.io 0 (.val (.bin .sub (.var 1) (.cst (.int 1))) .nil))) (.cons (.call F__law_condition (.io 0 (.val (.bin .sub (.var 1) (.cst (.int 1))) .nil))) .nil))))) .nil))))⟩
def n33_0 : List Str := [("_law_row" : Str), ("_law_leaves_here" : Str), ("_law_first" : Str), ("_law_word" : Str), ("_law_found" : Str)]
def i33 : FnI := ⟨"_law_expression", 2, n33_0⟩
/-- _law_expression(0 _law_row, 1 _law_leaves_here, 2 _law_first, 3 _law_word, 4 _law_found) -/
def f__law_expression : Fn := ⟨2, 5, (.cons (.ite (.or (.cmp .lt (.var 1) (.cst (.int 2))) (.cmp .eq (.call F__law_taken (.io 0 (.val (.cst (.int 7)) .nil))) (.cst (.int 0)))) (.cons (.ret (.ife (.cmp .gt (.call F__law_taken (.io 0 (.val (.cst (.int 3)) .nil))) (.cst (.int 0))) (.tup (.cons (.cst (.str "table")) (.cons (.call F__law_taken (.io 0 (.val (.cst (.int 2)) .nil))) .nil))) (.tup (.cons (.cst (.str "filter")) (.cons (.call F__law_condition (.io 0 (.val (.cst (.int 1)) .nil))) (.cons (.tup (.cons (.cst (.str "table")) (.cons (.call F__law_taken (.io 0 (.val (.cst (.int 2)) .nil))) .nil))) .nil)))))) .nil) .nil) (.cons (.asg (.nm 2) (.bin .add (.cst (.int 1)) (.call F__law_taken (.io 0 (.val (.bin .sub (.var 1) (.cst (.int 1))) .nil))))) (.cons (.asg (.nm 3) (.call F__law_pick (.io 0 (.val (.lst (.cons (.cst (.str "union")) (.cons (.cst (.str "union")) (.cons (.cst (.str "intersection")) (.cons (.cst (.str "difference")) (.cons (.cst (.str "difference")) .nil)))))) .nil)))) (.cons (.asg (.nm 4) (.tup (.cons (.var 3) (.cons (.call F__law_expression (.io 0 (.val (.var 2) .nil))) (.cons (.call F__law_expression (.io 0 (.val (.bin .sub (.var 1) (.var 2)) .nil))) .nil))))) (.cons (.ret (.ife (.cmp .eq (.call F__law_taken (.io 0 (.val (.cst (.int 6)) .nil))) (.cst (.int 0))) (.tup (.cons (.cst (.str "filter")) (.cons (.call F__law_condition (.io 0 (.val (.cst (.int 1)) .nil))) (.cons (.var 4) .nil)))) (.var 4))) .nil)))))⟩
def n34_0 : List Str := [("_law_tree_here" : Str)]
def i34 : FnI := ⟨"_law_leaves", 1, n34_0⟩
/-- _law_leaves(0 _law_tree_here) -/
def f__law_leaves : Fn := ⟨1, 1, (.cons (.ite (.cmp .eq (.ix (.var 0) (.cst (.int 0))) (.cst (.str "table"))) (.cons (.ret (.cst (.int 1))) .nil) .nil) (.cons (.ret (.bin .add (.call F__law_leaves (.val (.ix (.var 0) (.cst (.int 2))) .nil)) (.ife (.cmp .eq (.ix (.var 0) (.cst (.int 0))) (.cst (.str "filter"))) (.cst (.int 0)) (.call F__law_leaves (.val (.ix (.var 0) (.cst (.int 1))) .nil))))) .nil))⟩
def n35_0 : List Str := [("_law_mark" : Str), ("_law_p" : Str), ("_law_q" : Str), ("_law_one" : Str)]
def i35 : FnI := ⟨"_law_known", 3, n35_0⟩
/-- _law_known(0 _law_mark, 1 _law_p, 2 _law_q, 3 _law_one) -/
def f__law_known : Fn := ⟨3, 4, (.cons (.ite (.cmp .isin (.ix (.var 0) (.cst (.int 0))) (.lst (.cons (.cst (.str "p")) (.cons (.cst (.str "q")) .nil)))) (.cons (.ret (.ife (.cmp .eq (.ix (.var 0) (.cst (.int 0))) (.cst (.str "p"))) (.var 1) (.var 2))) .nil) .nil) (.cons (.asg (.nm 3) (.call F__law_known (.val (.ix (.var 0) (.cst (.int 1))) (.val (.var 1) (.val (.var 2) .nil))))) (.cons (.ite (.cmp .eq (.ix (.var 0) (.cst (.int 0))) (.cst (.str "not"))) (.cons (.ret (.ife (.cmp .is (.var 3) (.cst .non)) (.cst .non) (.not (.var 3)))) .nil) .nil) (.cons (.ret (.call F__law_join (.val (.ix (.var 0) (.cst (.int 0))) (.val (.var 3) (.val (.call F__law_known (.val (.ix (.var 0) (.cst (.int 2))) (.val (.var 1) (.val (.var 2) .nil)))) .nil))))) .nil))))⟩
def n36_0 : List Str := [("_law_way" : Str), ("_law_tree_here" : Str), ("_law_case" : Str)]
def i36 : FnI := ⟨"_law_count", 3, n36_0⟩
/-- _law_count(0 _law_way, 1 _law_tree_here, 2 _law_case) -/
def f__law_count : Fn := ⟨3, 3, (.cons (.ite (.cmp .eq (.ix (.var 1) (.cst (.int 0))) (.cst (.str "table"))) (.cons (.ret (.ix (.var 2) (.ix (.var 1) (.cst (.int 1))))) .nil) .nil) (.cons (.ite (.cmp .eq (.ix (.var 1) (.cst (.int 0))) (.cst (.str "filter"))) (.cons (.ret (.ife (.cmp .is (.call F__law_known (.val (.ix (.var 1) (.cst (.int 1))) (.val (.ix (.var 2) (.cst (.int 2))) (.val (.ix (.var 2) (.cst (.int 3))) .nil)))) (.cst (.bl true))) (.call F__law_count (.val (.var 0) (.val (.ix (.var 1) (.cst (.int 2))) (.val (.var 2) .nil)))) (.cst (.int 0)))) .nil) .nil) (.cons (.ret (.call F__law_many (.val (.var 0) (.val (.ix (.var 1) (.cst (.int 0))) (.val (.call F__law_count (.val (.var 0) (.val (.ix (.var 1) (.cst (.int 1))) (.val (.var 2) .nil)))) (.val (.call F__law_count (.val (.var 0) (.val (.ix (.var 1) (.cst (.int 2))) (.val (.var 2) .nil)))) .nil)))))) .nil)))⟩
def n37_0 : List Str := [("_law_row" : Str), ("_law_swaps" : Str), ("_law_one" : Str), ("_law_a" : Str), ("_law_b" : Str)]
def i37 : FnI := ⟨"_law_twins", 1, n37_0⟩
/-- _law_twins(0 _law_row, 1 _law_swaps, 2 _law_one, 3 _law_a, 4 _law_b) -/
def f__law_twins : Fn := ⟨1, 5, (.cons (.par [2, 3, 4] (.val (.call F__law_tree (.io 0 (.val (.cst (.int 3)) .nil))) (.val (.tup (.cons (.cst (.str "table")) (.cons (.cst (.int 0)) .nil))) (.val (.tup (.cons (.cst (.str "table")) (.cons (.cst (.int 1)) .nil))) .nil)))) (.cons (.asg (.nm 1) (.lst (.cons (.tup (.cons (.tup (.cons (.cst (.str "union")) (.cons (.var 3) (.cons (.tup (.cons (.cst (.str "intersection")) (.cons (.var 3) (.cons (.var 4) .nil)))) .nil)))) (.cons (.var 3) .nil))) (.cons (.tup (.cons (.tup (.cons (.cst (.str "intersection")) (.cons (.var 3) (.cons (.var 4) .nil)))) (.cons (.tup (.cons (.cst (.str "difference")) (.cons (.var 3) (.cons (.tup (.cons (.cst (.str "difference")) (.cons (.var 3) (.cons (.var 4) .nil)))) .nil)))) .nil))) .nil)))) (.cons (.asg (.nm 1) (.bin .add (.var 1) (.lst (.cons (.tup (.cons (.tup (.cons (.cst (.str "difference")) (.cons (.tup (.cons (.cst (.str "union")) (.cons (.var 3) (.cons (.var 4) .nil)))) (.cons (.var 4) .nil)))) (.cons (.tup (.cons (.cst (.str "difference")) (.cons (.var 3) (.cons (.var 4) .nil)))) .nil))) (.cons (.tup (.cons (.tup (.cons (.cst (.str "difference")) (.cons (.tup (.cons (.cst (.str "union")) (.cons (.var 3) (.cons (.var 4) .nil)))) (.cons (.var 4) .nil)))) (.cons (.var 3) .nil))) .nil))))) (.cons (.asg (.nm 1) (.bin .add (.var 1) (.lst (.cons (.tup (.cons (.tup (.cons (.cst (.str "union")) (.cons (.var 3) (.cons (.var 4) .nil)))) (.cons (.tup (.cons (.cst (.str "union")) (.cons (.var 4) (.cons (.var 3) .nil)))) .nil))) (.cons (.tup (.cons (.tup (.cons (.cst (.str "union")) (.cons (.var 3) (.cons (.var 3) .nil)))) (.cons (.var 3) .nil))) (.cons (.tup (.cons (.tup (.cons (.cst (.str "difference")) (.cons (.var 3) (.cons (.tup (.cons (.cst (.str "union")) (.cons (.var 4) (.cons (.var 4) .nil)))) .nil)))) (.cons (.tup (.cons (.cst (.str "difference")) (.cons (.var 3) (.cons (.var 4) .nil)))) .nil))) .nil)))))) (.cons (.asg (.nm 1) (.bin .add (.var 1) (.lst (.cons (.tup (.cons (.tup (.cons (.cst (.str "union")) (.cons (.var 2) (.cons (.var 3) .nil)))) (.cons (.tup (.cons (.cst (.str "union")) (.cons (.var 3) (.cons (.var 2) .nil)))) .nil))) (.cons (.tup (.cons (.tup (.cons (.cst (.str "filter")) (.cons (.tup (.cons (.cst (.str "or")) (.cons (.tup (.cons (.cst (.str "p")) .nil)) (.cons (.tup (.cons (.cst (.str "not")) (.cons (.tup (.cons (.cst (.str "p")) .nil)) .nil))) .nil)))) (.cons (.var 3) .nil)))) (.cons (.var 3) .nil))) (.cons (.tup (.cons (.var 2) (.cons (.var 2) .nil))) .nil)))))) (.cons (.asg (.nm 1) (.bin .add (.var 1) (.lst (.cons (.tup (.cons (.tup (.cons (.cst (.str "filter")) (.cons (.tup (.cons (.cst (.str "not")) (.cons (.tup (.cons (.cst (.str "p")) .nil)) .nil))) (.cons (.var 3) .nil)))) (.cons (.tup (.cons (.cst (.str "difference")) (.cons (.var 3) (.cons (.tup (.cons (.cst (.str "filter")) (.cons (.tup (.cons (.cst (.str "p")) .nil)) (.cons (.var 3) .nil)))) .nil)))) .nil))) (.cons (.tup (.cons (.tup (.cons (.cst (.str "intersection")) (.cons (.var 2) (.cons (.var 2) .nil)))) (.cons (.var 2) .nil))) .nil))))) (.cons (.asg (.nm 1) (.bin .add (.var 1) (.lst (.cons (.tup (.cons (.tup (.cons (.cst (.str "union")) (.cons (.tup (.cons (.cst (.str "difference")) (.cons (.var 3) (.cons (.var 4) .nil)))) (.cons (.tup (.cons (.cst (.str "intersection")) (.cons (.var 3) (.cons (.var 4) .nil)))) .nil)))) (.cons (.var 3) .nil))) (.cons (.tup (.cons (.tup (.cons (.cst (.str "intersection")) (.cons (.var 2) (.cons (.var 4) .nil)))) (.cons (.tup (.cons (.cst (.str "intersection")) (.cons (.var 4) (.cons (.var 2) .nil)))) .nil))) .nil))))) (.cons (.asg (.nm 1) (.bin .add (.var 1) (.lst (.cons (.tup (.cons (.tup (.cons (.cst (.str "union")) (.cons (.tup (.cons (.cst (.str "union")) (.cons (.var 3) (.cons (.var 4) .nil)))) (.cons (.var 2) .nil)))) (.cons (.tup (.cons (.cst (.str "union")) (.cons (.var 3) (.cons (.tup (.cons (.cst (.str "union")) (.cons (.var 4) (.cons (.var 2) .nil)))) .nil)))) .nil))) (.cons (.tup (.cons (.call F__law_tree (.io 0 (.val (.cst (.int 4)) .nil))) (.cons (.call F__law_tree (.io 0 (.val (.cst (.int 4)) .nil))) .nil))) .nil))))) (.cons (.ret (.call F__law_pick (.io 0 (.val (.var 1) .nil)))) .nil)))))))))⟩
def n38_0 : List Str := [("_law_tree_here" : Str), ("_law_part" : Str)]
def i38 : FnI := ⟨"_law_tuples", 1, n38_0⟩
/-- _law_tuples(0 _law_tree_here, 1 _law_part) -/
def f__law_tuples : Fn := ⟨1, 2, (.cons (.ret (.bin .add (.cst (.int 1)) (.bi .sum (.cons (.lc [1] (.seq (.sl (.var 0) (.some (.cst (.int 1))) .none)) (.nm 1) (.some (.isi (.var 1) [.tuple])) (.call F__law_tuples (.val (.var 1) .nil))) .nil)))) .nil)⟩
def n39_0 : List Str := [("_law_row" : Str), ("_law_leaves_here" : Str), ("_law_found" : Str)]
def i39 : FnI := ⟨"_law_tree", 2, n39_0⟩
/-- _law_tree(0 _law_row, 1 _law_leaves_here, 2 _law_found) -/
def f__law_tree : Fn := ⟨2, 3, (.cons (.asg (.nm 2) (.call F__law_expression (.io 0 (.val (.var 1) .nil)))) (.cons (.ret (.ife (.cmp .lt (.call F__law_tuples (.val (.var 2) .nil)) (.cst (.int 13))) (.var 2) (.tup (.cons (.cst (.str "union")) (.cons (.tup (.cons (.cst (.str "table")) (.cons (.cst (.int 0)) .nil))) (.cons (.tup (.cons (.cst (.str "table")) (.cons (.cst (.int 1)) .nil))) .nil)))))) .nil))⟩
def n40_0 : List Str := [("_law_script" : Str), ("_law_row" : Str), ("_law_turn" : Str), ("_law_most" : Str), ("_law_p" : Str), ("_law_total" : Str), ("_law_case" : Str), ("_law_way" : Str), ("_law_truths" : Str), ("_law_found" : Str), ("_law_pairs" : Str), ("_law_a" : Str), ("_law_left" : Str), ("_law_right" : Str), ("_law_some" : Str), ("_law_q" : Str), ("_law_pair" : Str)]
def i40 : FnI := ⟨"law", 1, n40_0⟩
/-- law(0 _law_script, 1 _law_row, 2 _law_turn, 3 _law_most, 4 _law_p, 5 _law_total, 6 _law_case, 7 _law_way, 8 _law_truths, 9 _law_found, 10 _law_pairs, 11 _law_a, 12 _law_left, 13 _law_right, 14 _law_some, 15 _law_q, 16 _law_pair) -/
def f_law : Fn := ⟨1, 17, (.cons (.own 1 (.cons (.var 0) (.cons (.cst (.int 0)) (.cons (.cst (.int 15321)) (.cons (.cst (.int 0)) .nil))))) (.cons (.for (.rng1 (.cst (.int 3))) (.nm 2) (.cons (.asg (.tp (.cons (.nm 7) (.cons (.tp (.cons (.nm 12) (.cons (.nm 13) .nil))) .nil))) (.tup (.cons (.call F__law_semantics (.io 1 .nil)) (.cons (.call F__law_twins (.io 1 .nil)) .nil)))) (.cons (.asg (.nm 3) (.ife (.cmp .eq (.ix (.var 7) (.cst (.int 0))) (.cst (.str "set"))) (.cst (.int 1)) (.bin .mul (.cst (.int 3)) (.bi .max (.cons (.call F__law_leaves (.val (.var 12) .nil)) (.cons (.call F__law_leaves (.val (.var 13) .nil)) .nil)))))) (.cons (.par [8, 9, 10] (.val (.bin .add (.lst (.cons (.cst (.bl true)) (.cons (.cst (.bl false)) .nil))) (.bin .mul (.lst (.cons (.cst .non) .nil)) (.bi .int (.cons (.cmp .eq (.ix (.var 7) (.cst (.int 3))) (.cst (.str "unknown"))) .nil)))) (.val (.cst .non) (.val (.lst .nil) .nil)))) (.cons (.for (.seq (.var 8)) (.nm 4) (.cons (.asg (.nm 10) (.bin .add (.var 10) (.lc [15] (.seq (.var 8)) (.nm 15) .none (.tup (.cons (.var 4) (.cons (.var 15) .nil)))))) .nil)) (.cons (.for (.rng1 (.bin .add (.bin .mul (.cst (.int 2)) (.var 3)) (.cst (.int 1)))) (.nm 5) (.cons (.for (.rng1 (.bin .add (.var 5) (.cst (.int 1)))) (.nm 11) (.cons (.ite (.and (.cmp .is (.var 9) (.cst .non)) (.and (.cmp .le (.var 11) (.var 3)) (.cmp .le (.bin .sub (.var 5) (.var 11)) (.var 3)))) (.cons (.asg (.nm 14) (.lc [16] (.seq (.var 10)) (.nm 16) .none (.bin .add (.tup (.cons (.var 11) (.cons (.bin .sub (.var 5) (.var 11)) .nil))) (.var 16)))) (.cons (.asg (.nm 14) (.lc [6] (.seq (.var 14)) (.nm 6) (.some (.cmp .ne (.call F__law_count (.val (.var 7) (.val (.var 12) (.val (.var 6) .nil)))) (.call F__law_count (.val (.var 7) (.val (.var 13) (.val (.var 6) .nil)))))) (.var 6))) (.cons (.asg (.nm 9) (.ife (.cmp .ne (.var 14) (.lst .nil)) (.ix (.var 14) (.cst (.int 0))) (.cst .non))) .nil))) .nil) .nil)) .nil)) (.cons (.ite (.not (.call F__law_alike (.val (.call F_least_difference (.val (.var 7) (.val (.var 12) (.val (.var 13) .nil)))) (.val (.var 9) .nil)))) (.cons (.ret (.cst (.bl false))) .nil) .nil) (.cons (.asg (.nm 6) (.tup (.cons (.call F__law_taken (.io 1 (.val (.bin .add (.var 3) (.cst (.int 1))) .nil))) (.cons (.call F__law_taken (.io 1 (.val (.bin .add (.var 3) (.cst (.int 1))) .nil))) (.cons (.call F__law_pick (.io 1 (.val (.var 8) .nil))) (.cons (.call F__law_pick (.io 1 (.val (.var 8) .nil))) .nil)))))) (.cons (.ite (.not (.call F__law_alike (.val (.call F_count_at (.val (.var 7) (.val (.var 12) (.val (.var 6) .nil)))) (.val (.call F__law_count (.val (.var 7) (.val (.var 12) (.val (.var 6) .nil)))) .nil)))) (.cons (.ret (.cst (.bl false))) .nil) .nil) .nil))))))))) (.cons (.ret (.cst (.bl true))) .nil)))⟩
def rows0 : List DRow := [⟨i0, f_is_integer, top 1⟩, ⟨i1, f_is_in, top 2⟩, ⟨i2, f_is_list, top 3⟩, ⟨i3, f_words_of, top 11⟩, ⟨i4, f_is_semantics, top 12⟩, ⟨i5, f_need_semantics, top 13⟩, ⟨i6, f_is_set, top 14⟩, ⟨i7, f_negated, top 16⟩, ⟨i8, f_both, top 17⟩, ⟨i9, f_either, top 18⟩, ⟨i10, f_united, top 20⟩, ⟨i11, f_less, top 21⟩, ⟨i12, f_in_both, top 22⟩, ⟨i13, f_condition_size, top 29⟩, ⟨i14, f_size_of, top 30⟩, ⟨i15, f_is_expression, top 31⟩, ⟨i16, f_need_expressions, top 32⟩, ⟨i17, f_truth_in, top 33⟩, ⟨i18, f_counted, top 34⟩, ⟨i19, f_truths_of, top 35⟩]
def rows1 : List DRow := [⟨i20, f_cases_of, top 36⟩, ⟨i21, f_first_difference, top 37⟩, ⟨i22, f_is_truth, top 38⟩, ⟨i23, f_need_case, top 39⟩, ⟨i24, f_count_at, top 40⟩, ⟨i25, f_least_difference, top 41⟩, ⟨i26, f__law_taken, top 43⟩, ⟨i27, f__law_pick, top 44⟩, ⟨i28, f__law_alike, top 45⟩, ⟨i29, f__law_semantics, top 46⟩, ⟨i30, f__law_join, top 47⟩, ⟨i31, f__law_many, top 48⟩, ⟨i32, f__law_condition, top 49⟩, ⟨i33, f__law_expression, top 50⟩, ⟨i34, f__law_leaves, top 51⟩, ⟨i35, f__law_known, top 52⟩, ⟨i36, f__law_count, top 53⟩, ⟨i37, f__law_twins, top 54⟩, ⟨i38, f__law_tuples, top 55⟩, ⟨i39, f__law_tree, top 56⟩]
def rows2 : List DRow := [⟨i40, f_law, top 57⟩]
def rows : List DRow := rows0 ++ rows1 ++ rows2
def globs : List (Str × D) := [("CHOICES", (.str "bag set;maximum sum;count kind;none unknown value;null zero")), ("MOST_LEAVES", (.int 6)), ("MOST_TUPLES", (.int 30)), ("MOST_COUNT", (.int 99)), ("KINDS", (.tup [(.str "union"), (.str "intersection"), (.str "difference")])), ("TURNS", (.int 3))]
def blts : List Str := ["isinstance", "len", "all", "sum", "tuple", "list", "min", "max", "int", "str", "bool", "range"]
def tab : Tab := ⟨rows.map (·.i), globs, blts⟩
def names0 : List PySem.Str := ["is_integer", "is_in", "is_list", "QueryError", "BadSemantics", "BadExpression", "BadCase", "CHOICES", "words_of", "is_semantics", "need_semantics", "is_set", "negated", "both", "either", "united", "less", "in_both", "MOST_LEAVES", "MOST_TUPLES"]
def names1 : List PySem.Str := ["MOST_COUNT", "KINDS", "TURNS", "condition_size", "size_of", "is_expression", "need_expressions", "truth_in", "counted", "truths_of", "cases_of", "first_difference", "is_truth", "need_case", "count_at", "least_difference", "_law_taken", "_law_pick", "_law_alike", "_law_semantics"]
def names2 : List PySem.Str := ["_law_join", "_law_many", "_law_condition", "_law_expression", "_law_leaves", "_law_known", "_law_count", "_law_twins", "_law_tuples", "_law_tree"]
def names : List PySem.Str := names0 ++ names1 ++ names2
theorem checked : rows.all (chkRow tab) = true := by decide +kernel
theorem allc {α : Type} {P : α → Prop} {a : α} {l : List α} (h : P a) (t : ∀ x ∈ l, P x) : ∀ x ∈ a :: l, P x := fun x hx => (List.mem_cons.mp hx).elim (fun e => e ▸ h) (t x)
theorem alla {α : Type} {P : α → Prop} {l r : List α} (h : ∀ x ∈ l, P x) (t : ∀ x ∈ r, P x) : ∀ x ∈ l ++ r, P x := fun x hx => (List.mem_append.mp hx).elim (h x) (t x)
def Bnd (r : DRow) : Prop := ∀ (K : PySem.W.Frag) (f : Addr) (fd : FuncData), FnP K r f fd → Binds K fd (r.i.N.take r.i.ps) []
theorem b0 : Bnd ⟨i0, f_is_integer, top 1⟩ := fun K f fd F => F.bindsN (ps := i0.N.take 1) fun _ _ _ _ _ _ us hl => match us, hl with | [_], _ => rfl
theorem b1 : Bnd ⟨i1, f_is_in, top 2⟩ := fun K f fd F => F.bindsN (ps := i1.N.take 3) fun _ _ _ _ _ _ us hl => match us, hl with | [_, _, _], _ => rfl
theorem b2 : Bnd ⟨i2, f_is_list, top 3⟩ := fun K f fd F => F.bindsN (ps := i2.N.take 3) fun _ _ _ _ _ _ us hl => match us, hl with | [_, _, _], _ => rfl
theorem b3 : Bnd ⟨i3, f_words_of, top 11⟩ := fun K f fd F => F.bindsN (ps := i3.N.take 1) fun _ _ _ _ _ _ us hl => match us, hl with | [_], _ => rfl
theorem b4 : Bnd ⟨i4, f_is_semantics, top 12⟩ := fun K f fd F => F.bindsN (ps := i4.N.take 1) fun _ _ _ _ _ _ us hl => match us, hl with | [_], _ => rfl
theorem b5 : Bnd ⟨i5, f_need_semantics, top 13⟩ := fun K f fd F => F.bindsN (ps := i5.N.take 1) fun _ _ _ _ _ _ us hl => match us, hl with | [_], _ => rfl
theorem b6 : Bnd ⟨i6, f_is_set, top 14⟩ := fun K f fd F => F.bindsN (ps := i6.N.take 1) fun _ _ _ _ _ _ us hl => match us, hl with | [_], _ => rfl
theorem b7 : Bnd ⟨i7, f_negated, top 16⟩ := fun K f fd F => F.bindsN (ps := i7.N.take 1) fun _ _ _ _ _ _ us hl => match us, hl with | [_], _ => rfl
theorem b8 : Bnd ⟨i8, f_both, top 17⟩ := fun K f fd F => F.bindsN (ps := i8.N.take 2) fun _ _ _ _ _ _ us hl => match us, hl with | [_, _], _ => rfl
theorem b9 : Bnd ⟨i9, f_either, top 18⟩ := fun K f fd F => F.bindsN (ps := i9.N.take 2) fun _ _ _ _ _ _ us hl => match us, hl with | [_, _], _ => rfl
theorem b10 : Bnd ⟨i10, f_united, top 20⟩ := fun K f fd F => F.bindsN (ps := i10.N.take 3) fun _ _ _ _ _ _ us hl => match us, hl with | [_, _, _], _ => rfl
theorem b11 : Bnd ⟨i11, f_less, top 21⟩ := fun K f fd F => F.bindsN (ps := i11.N.take 3) fun _ _ _ _ _ _ us hl => match us, hl with | [_, _, _], _ => rfl
theorem b12 : Bnd ⟨i12, f_in_both, top 22⟩ := fun K f fd F => F.bindsN (ps := i12.N.take 3) fun _ _ _ _ _ _ us hl => match us, hl with | [_, _, _], _ => rfl
theorem b13 : Bnd ⟨i13, f_condition_size, top 29⟩ := fun K f fd F => F.bindsN (ps := i13.N.take 1) fun _ _ _ _ _ _ us hl => match us, hl with | [_], _ => rfl
theorem b14 : Bnd ⟨i14, f_size_of, top 30⟩ := fun K f fd F => F.bindsN (ps := i14.N.take 1) fun _ _ _ _ _ _ us hl => match us, hl with | [_], _ => rfl
theorem b15 : Bnd ⟨i15, f_is_expression, top 31⟩ := fun K f fd F => F.bindsN (ps := i15.N.take 1) fun _ _ _ _ _ _ us hl => match us, hl with | [_], _ => rfl
theorem b16 : Bnd ⟨i16, f_need_expressions, top 32⟩ := fun K f fd F => F.bindsN (ps := i16.N.take 1) fun _ _ _ _ _ _ us hl => match us, hl with | [_], _ => rfl
theorem b17 : Bnd ⟨i17, f_truth_in, top 33⟩ := fun K f fd F => F.bindsN (ps := i17.N.take 3) fun _ _ _ _ _ _ us hl => match us, hl with | [_, _, _], _ => rfl
theorem b18 : Bnd ⟨i18, f_counted, top 34⟩ := fun K f fd F => F.bindsN (ps := i18.N.take 3) fun _ _ _ _ _ _ us hl => match us, hl with | [_, _, _], _ => rfl
theorem b19 : Bnd ⟨i19, f_truths_of, top 35⟩ := fun K f fd F => F.bindsN (ps := i19.N.take 1) fun _ _ _ _ _ _ us hl => match us, hl with | [_], _ => rfl
theorem b20 : Bnd ⟨i20, f_cases_of, top 36⟩ := fun K f fd F => F.bindsN (ps := i20.N.take 2) fun _ _ _ _ _ _ us hl => match us, hl with | [_, _], _ => rfl
theorem b21 : Bnd ⟨i21, f_first_difference, top 37⟩ := fun K f fd F => F.bindsN (ps := i21.N.take 3) fun _ _ _ _ _ _ us hl => match us, hl with | [_, _, _], _ => rfl
theorem b22 : Bnd ⟨i22, f_is_truth, top 38⟩ := fun K f fd F => F.bindsN (ps := i22.N.take 2) fun _ _ _ _ _ _ us hl => match us, hl with | [_, _], _ => rfl
theorem b23 : Bnd ⟨i23, f_need_case, top 39⟩ := fun K f fd F => F.bindsN (ps := i23.N.take 2) fun _ _ _ _ _ _ us hl => match us, hl with | [_, _], _ => rfl
theorem b24 : Bnd ⟨i24, f_count_at, top 40⟩ := fun K f fd F => F.bindsN (ps := i24.N.take 3) fun _ _ _ _ _ _ us hl => match us, hl with | [_, _, _], _ => rfl
theorem b25 : Bnd ⟨i25, f_least_difference, top 41⟩ := fun K f fd F => F.bindsN (ps := i25.N.take 3) fun _ _ _ _ _ _ us hl => match us, hl with | [_, _, _], _ => rfl
theorem b26 : Bnd ⟨i26, f__law_taken, top 43⟩ := fun K f fd F => F.bindsN (ps := i26.N.take 2) fun _ _ _ _ _ _ us hl => match us, hl with | [_, _], _ => rfl
theorem b27 : Bnd ⟨i27, f__law_pick, top 44⟩ := fun K f fd F => F.bindsN (ps := i27.N.take 2) fun _ _ _ _ _ _ us hl => match us, hl with | [_, _], _ => rfl
theorem b28 : Bnd ⟨i28, f__law_alike, top 45⟩ := fun K f fd F => F.bindsN (ps := i28.N.take 2) fun _ _ _ _ _ _ us hl => match us, hl with | [_, _], _ => rfl
theorem b29 : Bnd ⟨i29, f__law_semantics, top 46⟩ := fun K f fd F => F.bindsN (ps := i29.N.take 1) fun _ _ _ _ _ _ us hl => match us, hl with | [_], _ => rfl
theorem b30 : Bnd ⟨i30, f__law_join, top 47⟩ := fun K f fd F => F.bindsN (ps := i30.N.take 3) fun _ _ _ _ _ _ us hl => match us, hl with | [_, _, _], _ => rfl
theorem b31 : Bnd ⟨i31, f__law_many, top 48⟩ := fun K f fd F => F.bindsN (ps := i31.N.take 4) fun _ _ _ _ _ _ us hl => match us, hl with | [_, _, _, _], _ => rfl
theorem b32 : Bnd ⟨i32, f__law_condition, top 49⟩ := fun K f fd F => F.bindsN (ps := i32.N.take 2) fun _ _ _ _ _ _ us hl => match us, hl with | [_, _], _ => rfl
theorem b33 : Bnd ⟨i33, f__law_expression, top 50⟩ := fun K f fd F => F.bindsN (ps := i33.N.take 2) fun _ _ _ _ _ _ us hl => match us, hl with | [_, _], _ => rfl
theorem b34 : Bnd ⟨i34, f__law_leaves, top 51⟩ := fun K f fd F => F.bindsN (ps := i34.N.take 1) fun _ _ _ _ _ _ us hl => match us, hl with | [_], _ => rfl
theorem b35 : Bnd ⟨i35, f__law_known, top 52⟩ := fun K f fd F => F.bindsN (ps := i35.N.take 3) fun _ _ _ _ _ _ us hl => match us, hl with | [_, _, _], _ => rfl
theorem b36 : Bnd ⟨i36, f__law_count, top 53⟩ := fun K f fd F => F.bindsN (ps := i36.N.take 3) fun _ _ _ _ _ _ us hl => match us, hl with | [_, _, _], _ => rfl
theorem b37 : Bnd ⟨i37, f__law_twins, top 54⟩ := fun K f fd F => F.bindsN (ps := i37.N.take 1) fun _ _ _ _ _ _ us hl => match us, hl with | [_], _ => rfl
theorem b38 : Bnd ⟨i38, f__law_tuples, top 55⟩ := fun K f fd F => F.bindsN (ps := i38.N.take 1) fun _ _ _ _ _ _ us hl => match us, hl with | [_], _ => rfl
theorem b39 : Bnd ⟨i39, f__law_tree, top 56⟩ := fun K f fd F => F.bindsN (ps := i39.N.take 2) fun _ _ _ _ _ _ us hl => match us, hl with | [_, _], _ => rfl
theorem b40 : Bnd ⟨i40, f_law, top 57⟩ := fun K f fd F => F.bindsN (ps := i40.N.take 1) fun _ _ _ _ _ _ us hl => match us, hl with | [_], _ => rfl
theorem bs0 : ∀ r ∈ rows0, Bnd r := (allc b0 (allc b1 (allc b2 (allc b3 (allc b4 (allc b5 (allc b6 (allc b7 (allc b8 (allc b9 (allc b10 (allc b11 (allc b12 (allc b13 (allc b14 (allc b15 (allc b16 (allc b17 (allc b18 (allc b19 (fun _ h => by cases h)))))))))))))))))))))
theorem bs1 : ∀ r ∈ rows1, Bnd r := (allc b20 (allc b21 (allc b22 (allc b23 (allc b24 (allc b25 (allc b26 (allc b27 (allc b28 (allc b29 (allc b30 (allc b31 (allc b32 (allc b33 (allc b34 (allc b35 (allc b36 (allc b37 (allc b38 (allc b39 (fun _ h => by cases h)))))))))))))))))))))
theorem bs2 : ∀ r ∈ rows2, Bnd r := (allc b40 (fun _ h => by cases h))
theorem binds : ∀ r ∈ rows, Bnd r := (alla (alla bs0 bs1) bs2)
end K01

/-! Laws of the interpreter for symbolic runs. -/
namespace Qh
open PySem PySem.Spec PyProof.Rows L2 PySem.W
section
variable {α β : Type}
@[simp] theorem bind_ok' (a : α) (e : En) (k : α → En → Res β) : (Res.ok a e).bind k = k a e := rfl
@[simp] theorem bind_exc' (x : Exn) (e : En) (k : α → En → Res β) : (Res.exc x e).bind k = .exc x e := rfl
@[simp] theorem bind_bad' (k : α → En → Res β) : (Res.bad : Res α).bind k = .bad := rfl
@[simp] theorem sr_ok (a : α) (e : En) (k : α → En → SR) : (Res.ok a e).sr k = k a e := rfl
@[simp] theorem next_nxt (e : En) (k : En → SR) : (SR.nxt e).next k = k e := rfl
@[simp] theorem next_ret (d : D) (e : En) (k : En → SR) : (SR.ret d e).next k = .ret d e := rfl
@[simp] theorem opt_some (a : α) (e : En) : opt (some a) e = .ok a e := rfl
@[simp] theorem optS_some (a : α) (k : α → SR) : optS (some a) k = k a := rfl
@[simp] theorem onBl_t (e : En) (A B : En → Res α) : onBl (.bl true) e A B = A e := rfl
@[simp] theorem onBl_f (e : En) (A B : En → Res α) : onBl (.bl false) e A B = B e := rfl
@[simp] theorem asB_bl (b : Bool) (e : En) : asB (.bl b) e = .ok b e := rfl
@[simp] theorem at_0 (s : Sl) (l : En) : En.at (s :: l) 0 = s := rfl
@[simp] theorem at_s (s : Sl) (l : En) (n : Nat) : En.at (s :: l) (n + 1) = En.at l n := rfl
@[simp] theorem val_dat (d : D) : (Sl.dat d).val = some d := rfl
@[simp] theorem bor_lst (l : List D) : (Sl.own (.lst l)).bor = some (.lst l) := rfl
end
end Qh
namespace Qh
open PySem PySem.Spec PyProof.Rows L2 PySem.W
/-- a call with data only that answers -/
def Ans (run : Run) (f : Nat) (xs : List D) (d : D) : Prop := run f (xs.map .dat) = .ok d (xs.map .dat)
section
variable {G : Nat → Option D} {run : Run}
/-- an expression's value, nothing changed -/
def Ev (G : Nat → Option D) (run : Run) (env : En) (e : E) (d : D) : Prop := evE G run e env = .ok d env
def Evs (G : Nat → Option D) (run : Run) (env : En) (e : As) (ds : List D) : Prop := evAs G run e env = .ok (ds.map .dat) env
theorem putOuts_dat (env : En) : ∀ (ds : List D) (l : List Sl), l.length = ds.length → putOuts (ds.map AV.dat) l env = some env
  | [], _, _ => rfl
  | d :: ds, [], h => by cases h
  | d :: ds, s :: l, h => putOuts_dat env ds l (by simpa using h)
theorem slots_dat : ∀ ds : List D, AV.slots (ds.map AV.dat) = []
  | [] => rfl
  | d :: ds => slots_dat ds
theorem sl_dat (env : En) (ds : List D) : (ds.map AV.dat).map (AV.sl env) = ds.map Sl.dat := by
  rw [List.map_map]
  rfl
theorem isB_dat (ds : List D) : (ds.map AV.dat).any AV.isB = false := by
  induction ds with
  | nil => rfl
  | cons d ds ih => rw [List.map_cons, List.any_cons, ih]; rfl
theorem ev_call {f : Nat} {as : As} {env : En} {ds : List D} {d : D} (ha : Evs G run env as ds) (h : Ans run f ds d) : Ev G run env (.call f as) d := by
  unfold Ev
  simp only [evE]
  rw [ha]
  simp only [bind_ok']
  have e1 : AV.apart (ds.map AV.dat) = true := by
    unfold AV.apart
    rw [slots_dat]
    decide
  rw [e1]
  simp only [Bool.not_true, Bool.false_eq_true, if_false]
  rw [sl_dat, h]
  have e2 : callEnd (ds.map AV.dat) (ds.map .dat) env = some env := by
    unfold callEnd
    rw [isB_dat]
    simp only [Bool.false_and, Bool.false_eq_true, if_false]
    exact putOuts_dat env ds _ (by simp)
  simp only []
  rw [e2, isB_dat]
  rfl
end

theorem ixN_lt {n k : Nat} (h : k < n) : L2.ixN n (k : Int) = some k := by
  unfold L2.ixN
  rw [if_pos (by omega), if_pos (by omega)]
  rfl
theorem ixT (l : List D) (k : Nat) (h : k < l.length) : opIx (.tup l) (.int (k : Int)) = l[k]? := by
  show L2.atI l (k : Int) = _
  unfold L2.atI
  rw [ixN_lt h]
  rfl
theorem ixL (l : List D) (k : Nat) (h : k < l.length) : opIx (.lst l) (.int (k : Int)) = l[k]? := by
  show L2.atI l (k : Int) = _
  unfold L2.atI
  rw [ixN_lt h]
  rfl
@[simp] theorem ix_0 (a : D) (l : List D) : opIx (.tup (a :: l)) (.int 0) = some a := ixT (a :: l) 0 (by simp)
@[simp] theorem ix_1 (a b : D) (l : List D) : opIx (.tup (a :: b :: l)) (.int 1) = some b := ixT (a :: b :: l) 1 (by simp)
@[simp] theorem ix_2 (a b c : D) (l : List D) : opIx (.tup (a :: b :: c :: l)) (.int 2) = some c := ixT (a :: b :: c :: l) 2 (by simp)
@[simp] theorem ix_3 (a b c d : D) (l : List D) : opIx (.tup (a :: b :: c :: d :: l)) (.int 3) = some d := ixT (a :: b :: c :: d :: l) 3 (by simp)
@[simp] theorem ix_4 (a b c d e : D) (l : List D) : opIx (.tup (a :: b :: c :: d :: e :: l)) (.int 4) = some e := ixT (a :: b :: c :: d :: e :: l) 4 (by simp)
theorem eqS (a b : Str) : D.eq (.str a) (.str b) = decide (a = b) := by
  show PyData.eqv (.str a) (.str b) = _
  simp only [PyData.eqv]
  rfl
@[simp] theorem cmp_eqS (a b : Str) : opCmp .eq (.str a) (.str b) = some (decide (a = b)) := by
  show (if eqOk (.str a) (.str b) then some (D.eq (.str a) (.str b)) else none) = _
  rw [eqS]
  rfl
@[simp] theorem cmp_neS (a b : Str) : opCmp .ne (.str a) (.str b) = some (!decide (a = b)) := by
  show (if eqOk (.str a) (.str b) then some (!D.eq (.str a) (.str b)) else none) = _
  rw [eqS]
  rfl

section
variable {α β : Type}
theorem bind_cg {r r' : Res α} {k : α → En → Res β} (h : r = r') : r.bind k = r'.bind k := by rw [h]
theorem sr_cg {r r' : Res α} {k : α → En → SR} (h : r = r') : r.sr k = r'.sr k := by rw [h]
theorem next_cg {r r' : SR} {k : En → SR} (h : r = r') : r.next k = r'.next k := by rw [h]
theorem optS_cg {o o' : Option α} {k : α → SR} (h : o = o') : optS o k = optS o' k := by rw [h]
theorem onBl_cg {d d' : D} {e : En} {A B : En → Res α} (h : d = d') : onBl d e A B = onBl d' e A B := by rw [h]
end
theorem apart_dat (ds : List D) : AV.apart (ds.map AV.dat) = true := by
  unfold AV.apart
  rw [slots_dat]
  decide
def mx (a b : Int) : Int := if b > a then b else a
def mn (a b : Int) : Int := if b < a then b else a
@[simp] theorem min_i (i j : Int) : opBi .min [.int i, .int j] = some (.int (mn i j)) := rfl
@[simp] theorem max_i (i j : Int) : opBi .max [.int i, .int j] = some (.int (mx i j)) := rfl
@[simp] theorem cmp_gtI (i j : Int) : opCmp .gt (.int i) (.int j) = some (decide (j < i)) := rfl
@[simp] theorem cmp_geI (i j : Int) : opCmp .ge (.int i) (.int j) = some (decide (j ≤ i)) := rfl
theorem eqI (i j : Int) : D.eq (.int i) (.int j) = decide (i = j) := by
  show PyData.eqv (.int i) (.int j) = _
  simp only [PyData.eqv]
  rfl
@[simp] theorem cmp_eqI (i j : Int) : opCmp .eq (.int i) (.int j) = some (decide (i = j)) := by
  show (if eqOk (.int i) (.int j) then some (D.eq (.int i) (.int j)) else none) = _
  rw [eqI]
  rfl
@[simp] theorem cmp_neI (i j : Int) : opCmp .ne (.int i) (.int j) = some (!decide (i = j)) := by
  show (if eqOk (.int i) (.int j) then some (!D.eq (.int i) (.int j)) else none) = _
  rw [eqI]
  rfl
theorem ltI (i j : Int) : dataLt (.int i) (.int j) = decide (i < j) := dataLt_int i j
@[simp] theorem cmp_ltI (i j : Int) : opCmp .lt (.int i) (.int j) = some (decide (i < j)) := by
  show (if ltOk (.int i) (.int j) then some (dataLt (.int i) (.int j)) else none) = _
  rw [ltI]
  rfl
@[simp] theorem cmp_leI (i j : Int) : opCmp .le (.int i) (.int j) = some (decide (i ≤ j)) := by
  show (if ltOk (.int i) (.int j) then some (!dataLt (.int j) (.int i)) else none) = _
  rw [ltI]
  have e : (!decide (j < i)) = decide (i ≤ j) := by
    by_cases h : j < i
    · simp [h]
    · simp [h, Int.not_lt.mp h]
  rw [e]
  rfl

theorem sl_1 (a : D) (l : List D) : opSl (.tup (a :: l)) (some 1) none = some (.tup l) := by
  show some (D.tup (cutD (a :: l) (some 1) none)) = _
  have e : cutD (a :: l) (some 1) none = l := by
    unfold cutD
    simp [HT.sIx]
  rw [e]
theorem noNil (b : Bool) : (if b = true then Res.bad else Res.bad : Res D) = .bad := by cases b <;> rfl

/-! ### loops -/
theorem forS_inv {g : D → En → Option En} {body : En → SR} (items : List D) (P : Nat → En → Prop) (h : ∀ k x env, items[k]? = some x → P k env → ∃ e2 e3, g x env = some e2 ∧ body e2 = .nxt e3 ∧ P (k + 1) e3) (env : En) (h0 : P 0 env) :
    ∃ e, forS g body items env = .nxt e ∧ P items.length e := by
  have key : ∀ (rest : List D) (k : Nat) (env : En), items.drop k = rest → k + rest.length = items.length → P k env → ∃ e, forS g body rest env = .nxt e ∧ P items.length e := by
    intro rest
    induction rest with
    | nil =>
      intro k env hd hk hp
      refine ⟨env, rfl, ?_⟩
      simp only [List.length_nil, Nat.add_zero] at hk
      rw [← hk]; exact hp
    | cons x xs ih =>
      intro k env hd hk hp
      have hx : items[k]? = some x := by
        rw [← List.head?_drop, hd]; rfl
      obtain ⟨e2, e3, q1, q2, q3⟩ := h k x env hx hp
      have hd' : items.drop (k + 1) = xs := by
        rw [← List.tail_drop, hd]; rfl
      obtain ⟨e, q4, q5⟩ := ih (k + 1) e3 hd' (by simp only [List.length_cons] at hk; omega) q3
      refine ⟨e, ?_, q5⟩
      unfold forS
      rw [q1]
      simp only [q2]
      exact q4
  exact key items 0 env rfl (by simp) h0
/-- a list is made longer turn by turn -/
theorem forS_acc {g : D → En → Option En} {body : En → SR} {f : D → List D} {J : Type} (V : J → Prop) (E : List D → J → En) : ∀ (items : List D) (l : List D) (j : J), V j → l.length + (items.flatMap f).length ≤ big →
    (∀ x ∈ items, ∀ (l : List D) (j : J), V j → l.length + (f x).length ≤ big → ∃ e2 j', g x (E l j) = some e2 ∧ V j' ∧ body e2 = .nxt (E (l ++ f x) j')) →
    ∃ j', V j' ∧ forS g body items (E l j) = .nxt (E (l ++ items.flatMap f) j')
  | [], l, j, hj, _, _ => ⟨j, hj, by simp [forS]⟩
  | x :: xs, l, j, hj, hb, h => by
    rw [List.flatMap_cons, List.length_append] at hb
    obtain ⟨e2, j', q1, q2, q3⟩ := h x List.mem_cons_self l j hj (by omega)
    obtain ⟨j2, q4, q5⟩ := forS_acc V E xs (l ++ f x) j' q2 (by rw [List.length_append]; omega) (fun y hy => h y (List.mem_cons_of_mem _ hy))
    refine ⟨j2, q4, ?_⟩
    unfold forS
    rw [q1]
    simp only [q3]
    rw [show (SR.nxt (E (l ++ f x) j')).next (forS g body xs) = forS g body xs (E (l ++ f x) j') from rfl, q5, List.flatMap_cons, List.append_assoc]
/-- the first that is looked for is returned -/
theorem forS_find {g : D → En → Option En} {body : En → SR} {test : D → Bool} {J : Type} (V : J → Prop) (E : J → En) : ∀ (items : List D) (j : J), V j →
    (∀ x ∈ items, ∀ (j : J), V j → ∃ e2, g x (E j) = some e2 ∧ if test x = true then ∃ j', body e2 = .ret x (E j') else ∃ j', V j' ∧ body e2 = .nxt (E j')) →
    match items.find? test with
    | some x => ∃ j', forS g body items (E j) = .ret x (E j')
    | none => ∃ j', V j' ∧ forS g body items (E j) = .nxt (E j')
  | [], j, hj, _ => ⟨j, hj, rfl⟩
  | x :: xs, j, hj, h => by
    obtain ⟨e2, q1, q2⟩ := h x List.mem_cons_self j hj
    rw [List.find?_cons]
    cases ht : test x with
    | true =>
      rw [ht] at q2
      simp only [if_true] at q2
      obtain ⟨j', q3⟩ := q2
      refine ⟨j', ?_⟩
      unfold forS
      rw [q1]
      simp only [q3]
      rfl
    | false =>
      rw [ht] at q2
      simp only [Bool.false_eq_true, if_false] at q2
      obtain ⟨j', q3, q4⟩ := q2
      have ih := forS_find (g := g) (body := body) (test := test) V E xs j' q3 fun y hy => h y (List.mem_cons_of_mem _ hy)
      have e : forS g body (x :: xs) (E j) = forS g body xs (E j') := by
        conv => lhs; unfold forS
        rw [q1]
        simp only [q4]
        rfl
      rw [e]
      exact ih
theorem outs_dat : ∀ (ds : List D) (e : En), ds.length ≤ e.length → outs (ds.map .dat) e = ds.map .dat
  | [], _, _ => by simp [outs]
  | d :: ds, [], h => by simp at h
  | d :: ds, s :: e, h => by
    have ih := outs_dat ds e (by simpa using h)
    unfold outs at *
    rw [List.map_cons, List.zipWith_cons_cons, ih]
    rfl
theorem fin_ret {ds : List D} {d : D} {e : En} (h : ds.length ≤ e.length) : Qh.finish (ds.map .dat) (.ret d e) = .ok d (ds.map .dat) := by
  show (if (ds.map Sl.dat).length ≤ e.length then _ else _) = _
  rw [if_pos (by rw [List.length_map]; exact h), outs_dat ds e h]
theorem fin_nxt {ds : List D} {e : En} (h : ds.length ≤ e.length) : Qh.finish (ds.map .dat) (.nxt e) = .ok .non (ds.map .dat) := by
  show (if (ds.map Sl.dat).length ≤ e.length then _ else _) = _
  rw [if_pos (by rw [List.length_map]; exact h), outs_dat ds e h]
theorem rangeD_eq (lo : Int) (n : Nat) : rangeD lo n = (List.range n).map fun (k : Nat) => D.int (lo + (k : Int)) := rfl
theorem rangeD_len (lo : Int) (n : Nat) : (rangeD lo n).length = n := by rw [rangeD_eq, List.length_map, List.length_range]
theorem it_rng1 {G : Nat → Option D} {run : Run} {e : E} {env env' : En} {n : Int} (h : evE G run e env = .ok (.int n) env') (h1 : -(2 ^ 62) ≤ n) (h2 : n < 2 ^ 62) : evIt G run (.rng1 e) env = .ok (rangeD 0 n.toNat) env' := by
  simp only [evIt, h, bind_ok']
  rw [if_pos]
  simp only [Bool.and_eq_true, decide_eq_true_eq]
  exact ⟨h1, h2⟩
theorem it_rng2 {G : Nat → Option D} {run : Run} {e f : E} {env env1 env' : En} {i j : Int} (h : evE G run e env = .ok (.int i) env1) (h' : evE G run f env1 = .ok (.int j) env') (h1 : -(2 ^ 62) ≤ i) (h2 : i < 2 ^ 62) (h3 : -(2 ^ 62) ≤ j) (h4 : j < 2 ^ 62) :
    evIt G run (.rng2 e f) env = .ok (rangeD i (j - i).toNat) env' := by
  simp only [evIt, h, h', bind_ok']
  rw [if_pos]
  simp only [Bool.and_eq_true, decide_eq_true_eq]
  exact ⟨⟨⟨h1, h2⟩, h3⟩, h4⟩
theorem ss_for {G : Nat → Option D} {run : Run} {it : It} {g : Tg} {b r : Ss} {env e1 e2 : En} {items : List D} (hi : evIt G run it env = .ok items e1) (h : forS (asgT g) (evSs G run b) items e1 = .nxt e2) : evSs G run (.cons (.for it g b) r) env = evSs G run r e2 := by
  show (evS G run (.for it g b) env).next (evSs G run r) = _
  have : evS G run (.for it g b) env = .nxt e2 := by
    simp only [evS, hi, sr_ok]
    exact h
  rw [this]
  rfl
theorem ss_forR {G : Nat → Option D} {run : Run} {it : It} {g : Tg} {b r : Ss} {env e1 e2 : En} {items : List D} {d : D} (hi : evIt G run it env = .ok items e1) (h : forS (asgT g) (evSs G run b) items e1 = .ret d e2) : evSs G run (.cons (.for it g b) r) env = .ret d e2 := by
  show (evS G run (.for it g b) env).next (evSs G run r) = _
  have : evS G run (.for it g b) env = .ret d e2 := by
    simp only [evS, hi, sr_ok]
    exact h
  rw [this]
  rfl
theorem ss_ite_tr {G : Nat → Option D} {run : Run} {c : E} {a b r : Ss} {env e1 e2 : En} {d : D} (hc : (evE G run c env).bind asB = .ok true e1) (ha : evSs G run a e1 = .ret d e2) : evSs G run (.cons (.ite c a b) r) env = .ret d e2 := by
  show (evS G run (.ite c a b) env).next (evSs G run r) = _
  have : evS G run (.ite c a b) env = .ret d e2 := by
    simp only [evS]
    rw [hc]
    exact ha
  rw [this]
  rfl
theorem ss_ite_fn {G : Nat → Option D} {run : Run} {c : E} {a r : Ss} {env e1 : En} (hc : (evE G run c env).bind asB = .ok false e1) : evSs G run (.cons (.ite c a .nil) r) env = evSs G run r e1 := by
  show (evS G run (.ite c a .nil) env).next (evSs G run r) = _
  have : evS G run (.ite c a .nil) env = .nxt e1 := by
    simp only [evS]
    rw [hc]
    rfl
  rw [this]
  rfl
theorem ss_ret {G : Nat → Option D} {run : Run} {e : E} {r : Ss} {env e1 : En} {d : D} (h : evE G run e env = .ok d e1) : evSs G run (.cons (.ret e) r) env = .ret d e1 := by
  show (evS G run (.ret e) env).next (evSs G run r) = _
  simp only [evS, h, sr_ok, next_ret]
theorem ss_asg {G : Nat → Option D} {run : Run} {g : Tg} {e : E} {r : Ss} {env e1 e2 : En} {d : D} (h : evE G run e env = .ok d e1) (ha : asgT g d e1 = some e2) : evSs G run (.cons (.asg g e) r) env = evSs G run r e2 := by
  show (evS G run (.asg g e) env).next (evSs G run r) = _
  simp only [evS, h, sr_ok, ha, optS_some, next_nxt]

theorem asgT_nm {i : Nat} {d : D} {env : En} (h : (env.at i).isOwn = false) : asgT (.nm i) d env = some (env.set i (.dat d)) := by
  show (match env.at i with | .own _ => none | _ => some (env.set i (.dat d))) = _
  cases q : env.at i with
  | own o => rw [q] at h; cases h
  | non => rfl
  | dat x => rfl
/-- a state is carried through a loop -/
theorem forS_st {g : D → En → Option En} {body : En → SR} {St J : Type} (V : St → J → Prop) (E : St → J → En) (step : D → St → St) : ∀ (items : List D) (s : St) (j : J), V s j →
    (∀ x ∈ items, ∀ (s : St) (j : J), V s j → ∃ e2 j', g x (E s j) = some e2 ∧ V (step x s) j' ∧ body e2 = .nxt (E (step x s) j')) →
    ∃ j', V (items.foldl (fun s x => step x s) s) j' ∧ forS g body items (E s j) = .nxt (E (items.foldl (fun s x => step x s) s) j')
  | [], s, j, hj, _ => ⟨j, hj, rfl⟩
  | x :: xs, s, j, hj, h => by
    obtain ⟨e2, j', q1, q2, q3⟩ := h x List.mem_cons_self s j hj
    obtain ⟨j2, q4, q5⟩ := forS_st V E step xs (step x s) j' q2 fun y hy => h y (List.mem_cons_of_mem _ hy)
    refine ⟨j2, q4, ?_⟩
    conv => lhs; unfold forS
    rw [q1]
    simp only [q3]
    exact q5
theorem at_set {env : En} {v : Nat} {s : Sl} (h : v < env.length) : En.at (env.set v s) v = s := by
  unfold En.at
  rw [List.getD_eq_getElem?_getD, List.getElem?_set_self h]
  rfl
/-- a comprehension that keeps some -/
theorem lc_filter {G : Nat → Option D} {run : Run} {v : Nat} {it : It} {c : E} {env : En} {items : List D} {test : D → Bool} (hi : evIt G run it env = .ok items env) (hv : (env.at v).isOwn = false) (hl : v < env.length) (hb : items.length < big)
    (h : ∀ x ∈ items, evE G run c (env.set v (.dat x)) = .ok (.bl (test x)) (env.set v (.dat x))) : evE G run (.lc [v] it (.nm v) (.some c) (.var v)) env = .ok (.lst (items.filter test)) env := by
  have key : ∀ (xs acc : List D), (∀ x ∈ xs, x ∈ items) → acc.length + xs.length < big → lcLoop (lcBody [v] (asgT (.nm v)) (evT G run (.some c)) (evE G run (.var v))) xs acc (env.set v .non) = .ok (acc ++ xs.filter test) (env.set v .non) := by
    intro xs
    induction xs with
    | nil =>
      intro acc _ ha
      unfold lcLoop
      rw [if_pos (by simpa using ha)]
      simp
    | cons x xs ih =>
      intro acc hm ha
      simp only [List.length_cons] at ha
      have hx := h x (hm x List.mem_cons_self)
      have ea : asgT (.nm v) x (env.set v .non) = some (env.set v (.dat x)) := by
        rw [asgT_nm (by rw [at_set hl]; rfl), List.set_set]
      have et : evT G run (.some c) (env.set v (.dat x)) = .ok (test x) (env.set v (.dat x)) := by
        simp only [evT, hx, bind_ok']
      have ev : evE G run (.var v) (env.set v (.dat x)) = .ok x (env.set v (.dat x)) := by
        simp only [evE, at_set hl, val_dat, opt_some]
      have eb : lcBody [v] (asgT (.nm v)) (evT G run (.some c)) (evE G run (.var v)) x (env.set v .non) = .ok (if test x = true then some x else none) (env.set v .non) := by
        rw [lcBody_eq, ea]
        simp only [et, bind_ok', ev]
        split <;> simp only [wipeE, List.set_set]
      unfold lcLoop
      rw [if_pos (by omega), eb]
      simp only [bind_ok']
      cases ht : test x with
      | true =>
        simp only [if_true, Option.toList_some]
        rw [ih (acc ++ [x]) (fun y hy => hm y (List.mem_cons_of_mem _ hy)) (by rw [List.length_append]; simp only [List.length_singleton]; omega), List.filter_cons_of_pos ht, List.append_assoc]
        rfl
      | false =>
        simp only [Bool.false_eq_true, if_false, Option.toList_none, List.append_nil]
        rw [ih acc (fun y hy => hm y (List.mem_cons_of_mem _ hy)) (by omega), List.filter_cons_of_neg (by rw [ht]; simp)]
  have hk := key items [] (fun _ h => h) (by simpa using hb)
  have e1 : ([v].any fun i => (env.at i).isOwn) = false := by simp [hv]
  simp only [evE, hi, bind_ok', e1, Bool.false_eq_true, if_false]
  have ew : wipeE env [v] = env.set v .non := rfl
  rw [ew]
  have hk' : lcLoop (lcBody [v] (asgT (.nm v)) (evT G run (.some c)) fun env => opt (env.at v).val env) items [] (env.set v .non) = .ok ([] ++ items.filter test) (env.set v .non) := hk
  have hk'' := hk
  simp only [evE] at hk
  first | rw [hk] | rw [hk'']
  simp only [noExc, bind_ok', List.nil_append]
  congr 1
  have e3 : ∀ X : En, backE env X [v] = X.set v (env.at v) := by
    intro X
    unfold backE
    cases q : env.at v with
    | own o => rw [q] at hv; cases hv
    | non => rfl
    | dat x => rfl
  rw [e3]
  rw [List.set_set]
  apply List.ext_getElem?
  intro k
  by_cases hk : v = k
  · subst hk
    rw [List.getElem?_set_self hl, List.getElem?_eq_getElem hl]
    unfold En.at
    rw [List.getD_eq_getElem?_getD, List.getElem?_eq_getElem hl]
    rfl
  · rw [List.getElem?_set_ne hk]
theorem ss_ite_tn {G : Nat → Option D} {run : Run} {c : E} {a b r : Ss} {env e1 e2 : En} (hc : (evE G run c env).bind asB = .ok true e1) (ha : evSs G run a e1 = .nxt e2) : evSs G run (.cons (.ite c a b) r) env = evSs G run r e2 := by
  show (evS G run (.ite c a b) env).next (evSs G run r) = _
  have : evS G run (.ite c a b) env = .nxt e2 := by
    simp only [evS]
    rw [hc]
    exact ha
  rw [this]
  rfl
end Qh

namespace K01
open PySem PySem.Spec PyProof.Rows L2 Qh
/-! ### runs -/
abbrev G := globD tab
abbrev Pg := progOf rows
theorem run_at (n k : Nat) (fn : Fn) (xs : List Sl) (h : Pg k = some fn) (hl : xs.length = fn.ps) : runN G Pg (n + 1) k xs = Qh.finish xs (evSs G (runN G Pg n) fn.body (xs ++ List.replicate (fn.n - fn.ps) .non)) := by
  show (match Pg k with | some fn => _ | none => _) = _
  rw [h]
  exact if_pos hl
/-! ### conditions and expressions -/
inductive Cd where
  | p | q | not (a : Cd) | and (a b : Cd) | or (a b : Cd)
def Cd.d : Cd → D
  | .p => .tup [.str "p"]
  | .q => .tup [.str "q"]
  | .not a => .tup [.str "not", a.d]
  | .and a b => .tup [.str "and", a.d, b.d]
  | .or a b => .tup [.str "or", a.d, b.d]
def Cd.size : Cd → Nat
  | .p => 1
  | .q => 1
  | .not a => 1 + a.size
  | .and a b => 1 + (a.size + b.size)
  | .or a b => 1 + (a.size + b.size)
theorem Cd.pos (c : Cd) : 0 < c.size := by cases c <;> simp only [Cd.size] <;> omega
theorem Cd.dep : ∀ c : Cd, ∃ k, c.d.dep = some k ∧ k ≤ c.size
  | .p => ⟨1, rfl, by decide⟩
  | .q => ⟨1, rfl, by decide⟩
  | .not a => by
    obtain ⟨k, h, hk⟩ := a.dep
    refine ⟨max 0 (max k 0) + 1, ?_, ?_⟩
    · simp only [Cd.d, D.dep, D.deps, h, Option.map_some]
    · simp only [Cd.size]; omega
  | .and a b => by
    obtain ⟨k, h, hk⟩ := a.dep
    obtain ⟨k2, h2, hk2⟩ := b.dep
    refine ⟨max 0 (max k (max k2 0)) + 1, ?_, ?_⟩
    · simp only [Cd.d, D.dep, D.deps, h, h2, Option.map_some]
    · simp only [Cd.size]; omega
  | .or a b => by
    obtain ⟨k, h, hk⟩ := a.dep
    obtain ⟨k2, h2, hk2⟩ := b.dep
    refine ⟨max 0 (max k (max k2 0)) + 1, ?_, ?_⟩
    · simp only [Cd.d, D.dep, D.deps, h, h2, Option.map_some]
    · simp only [Cd.size]; omega
inductive Tr where
  | tab (b : Bool) | flt (c : Cd) (t : Tr) | uni (a b : Tr) | inn (a b : Tr) | dif (a b : Tr)
def bi (b : Bool) : Int := if b then 1 else 0
def Tr.d : Tr → D
  | .tab b => .tup [.str "table", .int (bi b)]
  | .flt c t => .tup [.str "filter", c.d, t.d]
  | .uni a b => .tup [.str "union", a.d, b.d]
  | .inn a b => .tup [.str "intersection", a.d, b.d]
  | .dif a b => .tup [.str "difference", a.d, b.d]
def Tr.leaves : Tr → Nat
  | .tab _ => 1
  | .flt _ t => t.leaves
  | .uni a b => a.leaves + b.leaves
  | .inn a b => a.leaves + b.leaves
  | .dif a b => a.leaves + b.leaves
def Tr.size : Tr → Nat
  | .tab _ => 1
  | .flt c t => 1 + c.size + t.size
  | .uni a b => 1 + a.size + b.size
  | .inn a b => 1 + a.size + b.size
  | .dif a b => 1 + a.size + b.size
/-! ### three values -/
abbrev Tv := Option Bool
def tv : Tv → D
  | none => .non
  | some b => .bl b
def not3 (a : Tv) : Tv := a.map (!·)
def and3 : Tv → Tv → Tv
  | some false, _ => some false
  | _, some false => some false
  | none, _ => none
  | _, none => none
  | some true, some true => some true
def or3 (a b : Tv) : Tv := not3 (and3 (not3 a) (not3 b))
def Cd.val (p q : Tv) : Cd → Tv
  | .p => p
  | .q => q
  | .not a => not3 (a.val p q)
  | .and a b => and3 (a.val p q) (b.val p q)
  | .or a b => or3 (a.val p q) (b.val p q)
theorem a_negated (n : Nat) (a : Tv) : Ans (runN G Pg (n + 1)) F_negated [tv a] (tv (not3 a)) := by
  rcases a with _ | (_ | _) <;> (unfold Ans; kernel_rfl)
theorem a_both (n : Nat) (a b : Tv) : Ans (runN G Pg (n + 1)) F_both [tv a, tv b] (tv (and3 a b)) := by
  rcases a with _ | (_ | _) <;> rcases b with _ | (_ | _) <;> (unfold Ans; kernel_rfl)
theorem a_either (n : Nat) (a b : Tv) : Ans (runN G Pg (n + 2)) F_either [tv a, tv b] (tv (or3 a b)) := by
  rcases a with _ | (_ | _) <;> rcases b with _ | (_ | _) <;> (unfold Ans; kernel_rfl)
/-- the simp set of a step -/
theorem s1 : (("p" : Str) = "q") = False := by decide +kernel
theorem s2 : (("q" : Str) = "p") = False := by decide +kernel
theorem s3 : (("not" : Str) = "p") = False := by decide +kernel
theorem s4 : (("not" : Str) = "q") = False := by decide +kernel
theorem s5 : (("and" : Str) = "p") = False := by decide +kernel
theorem s6 : (("and" : Str) = "q") = False := by decide +kernel
theorem s7 : (("or" : Str) = "p") = False := by decide +kernel
theorem s8 : (("or" : Str) = "q") = False := by decide +kernel
theorem s9 : (("and" : Str) = "not") = False := by decide +kernel
theorem s10 : (("or" : Str) = "not") = False := by decide +kernel
theorem s11 : (("or" : Str) = "and") = False := by decide +kernel
theorem s12 : (("not" : Str) = "and") = False := by decide +kernel
theorem s13 : (("not" : Str) = "or") = False := by decide +kernel
theorem s14 : (("and" : Str) = "or") = False := by decide +kernel
theorem t1 : (("filter" : Str) = "table") = False := by decide +kernel
theorem t2 : (("union" : Str) = "table") = False := by decide +kernel
theorem t3 : (("intersection" : Str) = "table") = False := by decide +kernel
theorem t4 : (("difference" : Str) = "table") = False := by decide +kernel
theorem t5 : (("union" : Str) = "filter") = False := by decide +kernel
theorem t6 : (("intersection" : Str) = "filter") = False := by decide +kernel
theorem t7 : (("difference" : Str) = "filter") = False := by decide +kernel
theorem t8 : (("union" : Str) = "difference") = False := by decide +kernel
theorem t9 : (("intersection" : Str) = "difference") = False := by decide +kernel
theorem t10 : (("intersection" : Str) = "union") = False := by decide +kernel
theorem t11 : (("table" : Str) = "filter") = False := by decide +kernel
theorem inS (x : Str) (ys : List Str) : opCmp .isin (.str x) (.tup (ys.map .str)) = some (decide (x ∈ ys)) := by
  have hd : ∀ ys : List Str, D.deps (ys.map .str) = some 0 := by
    intro ys
    induction ys with
    | nil => rfl
    | cons y ys ih => simp only [List.map_cons, D.deps, D.dep, ih]; rfl
  have e : eqOk (.str x) (.tup (ys.map .str)) = true := by
    unfold eqOk
    simp only [D.dep, hd, Option.map_some]
    rfl
  show (if eqOk (.str x) (.tup (ys.map .str)) then some (inD (.str x) (ys.map .str)) else none) = _
  rw [e]
  simp only [if_true]
  congr 1
  unfold inD
  rw [List.any_map]
  induction ys with
  | nil => rfl
  | cons y ys ih =>
    simp only [List.any_cons, Function.comp, eqS, List.mem_cons, Bool.decide_or]
    rw [← ih]
    · simp only [eq_comm, Function.comp, eqS]
    · unfold eqOk
      simp only [D.dep, hd, Option.map_some]
      rfl
theorem a_truth_in (p q : Tv) : ∀ (c : Cd) (n : Nat), c.size + 2 ≤ n → Ans (runN G Pg n) F_truth_in [c.d, tv p, tv q] (tv (c.val p q)) := by
  intro c
  induction c with
  | p =>
    intro n hn
    obtain ⟨m, rfl⟩ : ∃ m, n = m + 1 := ⟨n - 1, by omega⟩
    unfold Ans; kernel_rfl
  | q =>
    intro n hn
    obtain ⟨m, rfl⟩ : ∃ m, n = m + 1 := ⟨n - 1, by omega⟩
    unfold Ans; kernel_rfl
  | not a iha =>
    intro n hn
    simp only [Cd.size] at hn
    obtain ⟨m, rfl⟩ : ∃ m, n = m + 1 := ⟨n - 1, by omega⟩
    have ha := iha m (by omega)
    obtain ⟨k, rfl⟩ : ∃ k, m = k + 1 := ⟨m - 1, by omega⟩
    have hc := a_negated k (a.val p q)
    unfold Ans at *
    simp only [List.map_cons, List.map_nil, Cd.d] at *
    rw [run_at _ F_truth_in f_truth_in _ rfl rfl]
    have hi := inS "not" ["p", "q"]
    simp only [List.map_cons, List.map_nil] at hi
    generalize runN G Pg (k + 1) = r at *
    simp [f_truth_in, evSs, evS, evE, evEs, evAs, asgT, ha, hc, hi, rd2, rd, s3, s4, big, AV.apart, AV.slots, AV.sl, Qh.callEnd, AV.isB, putOuts, Qh.finish, outs, Sl.isOwn, Cd.val]
  | and a b iha ihb =>
    intro n hn
    simp only [Cd.size] at hn
    obtain ⟨m, rfl⟩ : ∃ m, n = m + 1 := ⟨n - 1, by omega⟩
    have ha := iha m (by have := b.pos; omega)
    have hb := ihb m (by have := a.pos; omega)
    obtain ⟨k, rfl⟩ : ∃ k, m = k + 1 := ⟨m - 1, by omega⟩
    have hc := a_both k (a.val p q) (b.val p q)
    unfold Ans at *
    simp only [List.map_cons, List.map_nil, Cd.d] at *
    rw [run_at _ F_truth_in f_truth_in _ rfl rfl]
    have hi := inS "and" ["p", "q"]
    simp only [List.map_cons, List.map_nil] at hi
    generalize runN G Pg (k + 1) = r at *
    simp [f_truth_in, evSs, evS, evE, evEs, evAs, asgT, ha, hb, hc, hi, rd2, rd, s5, s6, s9, big, AV.apart, AV.slots, AV.sl, Qh.callEnd, AV.isB, putOuts, Qh.finish, outs, Sl.isOwn, Cd.val]
  | or a b iha ihb =>
    intro n hn
    simp only [Cd.size] at hn
    obtain ⟨m, rfl⟩ : ∃ m, n = m + 1 := ⟨n - 1, by omega⟩
    have ha := iha m (by have := b.pos; omega)
    have hb := ihb m (by have := a.pos; omega)
    obtain ⟨k, rfl⟩ : ∃ k, m = k + 2 := ⟨m - 2, by have := a.pos; omega⟩
    have hc := a_either k (a.val p q) (b.val p q)
    unfold Ans at *
    simp only [List.map_cons, List.map_nil, Cd.d] at *
    rw [run_at _ F_truth_in f_truth_in _ rfl rfl]
    have hi := inS "or" ["p", "q"]
    simp only [List.map_cons, List.map_nil] at hi
    generalize runN G Pg (k + 2) = r at *
    simp [f_truth_in, evSs, evS, evE, evEs, evAs, asgT, ha, hb, hc, hi, rd2, rd, s7, s8, s10, s11, big, AV.apart, AV.slots, AV.sl, Qh.callEnd, AV.isB, putOuts, Qh.finish, outs, Sl.isOwn, Cd.val]

/-! ### the semantics -/
structure Sm where
  set : Bool
  sum : Bool
  kind : Bool
  unk : Fin 3
  zero : Bool
def Sm.d (S : Sm) : D := .tup [.str (if S.set then "set" else "bag"), .str (if S.sum then "sum" else "maximum"), .str (if S.kind then "kind" else "count"), .str (if S.unk = 0 then "none" else if S.unk = 1 then "unknown" else "value"), .str (if S.zero then "zero" else "null")]
@[simp] theorem sx0 (S : Sm) : opIx S.d (.int 0) = some (.str (if S.set then "set" else "bag")) := rfl
@[simp] theorem sx1 (S : Sm) : opIx S.d (.int 1) = some (.str (if S.sum then "sum" else "maximum")) := rfl
@[simp] theorem sx2 (S : Sm) : opIx S.d (.int 2) = some (.str (if S.kind then "kind" else "count")) := rfl
@[simp] theorem sx3 (S : Sm) : opIx S.d (.int 3) = some (.str (if S.unk = 0 then "none" else if S.unk = 1 then "unknown" else "value")) := rfl
def uniI (S : Sm) (a b : Int) : Int := if S.sum then a + b else mx a b
def lessI (S : Sm) (a b : Int) : Int := if S.kind || S.set then (if b > 0 then 0 else a) else mx (a - b) 0
def capI (S : Sm) (a : Int) : Int := if S.set then mn a 1 else a
def cnt (S : Sm) (a b : Int) (p q : Tv) : Tr → Int
  | .tab t => if t then b else a
  | .flt c t => if c.val p q = some true then cnt S a b p q t else 0
  | .uni x y => capI S (uniI S (cnt S a b p q x) (cnt S a b p q y))
  | .inn x y => capI S (mn (cnt S a b p q x) (cnt S a b p q y))
  | .dif x y => lessI S (cnt S a b p q x) (cnt S a b p q y)
def caseD (a b : Int) (p q : Tv) : D := .tup [.int a, .int b, tv p, tv q]
theorem a_is_set (n : Nat) (S : Sm) : Ans (runN G Pg (n + 1)) F_is_set [S.d] (.bl S.set) := by
  obtain ⟨s, a, b, c, d⟩ := S
  cases s <;> (unfold Ans; kernel_rfl)
theorem a_united (n : Nat) (S : Sm) (a b : Int) : Ans (runN G Pg (n + 1)) F_united [S.d, .int a, .int b] (.int (uniI S a b)) := by
  obtain ⟨s, x, y, c, d⟩ := S
  cases x <;> (unfold Ans; kernel_rfl)
theorem a_in_both (n : Nat) (S : Sm) (a b : Int) : Ans (runN G Pg (n + 1)) F_in_both [S.d, .int a, .int b] (.int (mn a b)) := by
  unfold Ans; kernel_rfl
theorem c1 : (("kind" : Str) = "count") = False := by decide +kernel
theorem a_less (n : Nat) (S : Sm) (a b : Int) : Ans (runN G Pg (n + 2)) F_less [S.d, .int a, .int b] (.int (lessI S a b)) := by
  have hs := a_is_set n S
  unfold Ans at *
  simp only [List.map_cons, List.map_nil] at *
  rw [run_at _ F_less f_less _ rfl rfl]
  generalize runN G Pg (n + 1) = r at *
  cases hk : S.kind <;> cases ht : S.set <;> rw [ht] at hs <;> by_cases hb : 0 < b <;>
    simp [f_less, evSs, evS, evE, evEs, evAs, asgT, hs, rd2, rd, rds, AV.apart, AV.slots, AV.sl, Qh.callEnd, AV.isB, putOuts, Qh.finish, outs, Sl.isOwn, lessI, hk, ht, hb, c1, opBin]
theorem cmp_isT (v : Tv) : opCmp .is (tv v) (.bl true) = some (decide (v = some true)) := by
  rcases v with _ | (_ | _) <;> rfl
theorem a_counted (S : Sm) (a b : Int) (p q : Tv) : ∀ (t : Tr) (n : Nat), t.size + 3 ≤ n → Ans (runN G Pg n) F_counted [S.d, t.d, caseD a b p q] (.int (cnt S a b p q t)) := by
  intro t
  induction t with
  | tab x =>
    intro n hn
    obtain ⟨m, rfl⟩ : ∃ m, n = m + 1 := ⟨n - 1, by omega⟩
    cases x <;> (unfold Ans; kernel_rfl)
  | flt c t ih =>
    intro n hn
    simp only [Tr.size] at hn
    obtain ⟨m, rfl⟩ : ∃ m, n = m + 1 := ⟨n - 1, by omega⟩
    have ha := ih m (by omega)
    have hc := a_truth_in p q c m (by omega)
    unfold Ans at *
    simp only [List.map_cons, List.map_nil, Tr.d, caseD] at *
    rw [run_at _ F_counted f_counted _ rfl rfl]
    generalize runN G Pg m = r at *
    have hi := cmp_isT (c.val p q)
    generalize tv (c.val p q) = u at *
    by_cases hv : c.val p q = some true <;>
      simp [f_counted, evSs, evS, evE, evEs, evAs, asgT, ha, hc, hi, rd2, rd, t1, t2, t3, AV.apart, AV.slots, AV.sl, Qh.callEnd, AV.isB, putOuts, Qh.finish, outs, Sl.isOwn, cnt, hv]
  | uni x y ihx ihy =>
    intro n hn
    simp only [Tr.size] at hn
    obtain ⟨m, rfl⟩ : ∃ m, n = m + 2 := ⟨n - 2, by omega⟩
    have hx := ihx (m + 1) (by omega)
    have hy := ihy (m + 1) (by omega)
    have hs := a_is_set m S
    have hu := a_united m S (cnt S a b p q x) (cnt S a b p q y)
    unfold Ans at *
    simp only [List.map_cons, List.map_nil, Tr.d, caseD] at *
    rw [run_at _ F_counted f_counted _ rfl rfl]
    generalize runN G Pg (m + 1) = r at *
    cases ht : S.set <;> rw [ht] at hs <;>
      simp [f_counted, evSs, evS, evE, evEs, evAs, asgT, hx, hy, hs, hu, rd2, rd, rds, t2, t5, t8, AV.apart, AV.slots, AV.sl, Qh.callEnd, AV.isB, putOuts, Qh.finish, outs, Sl.isOwn, cnt, capI, ht]
  | inn x y ihx ihy =>
    intro n hn
    simp only [Tr.size] at hn
    obtain ⟨m, rfl⟩ : ∃ m, n = m + 2 := ⟨n - 2, by omega⟩
    have hx := ihx (m + 1) (by omega)
    have hy := ihy (m + 1) (by omega)
    have hs := a_is_set m S
    have hu := a_in_both m S (cnt S a b p q x) (cnt S a b p q y)
    unfold Ans at *
    simp only [List.map_cons, List.map_nil, Tr.d, caseD] at *
    rw [run_at _ F_counted f_counted _ rfl rfl]
    generalize runN G Pg (m + 1) = r at *
    cases ht : S.set <;> rw [ht] at hs <;>
      simp [f_counted, evSs, evS, evE, evEs, evAs, asgT, hx, hy, hs, hu, rd2, rd, rds, t3, t6, t9, t10, AV.apart, AV.slots, AV.sl, Qh.callEnd, AV.isB, putOuts, Qh.finish, outs, Sl.isOwn, cnt, capI, ht]
  | dif x y ihx ihy =>
    intro n hn
    simp only [Tr.size] at hn
    obtain ⟨m, rfl⟩ : ∃ m, n = m + 3 := ⟨n - 3, by omega⟩
    have hx := ihx (m + 2) (by omega)
    have hy := ihy (m + 2) (by omega)
    have hu := a_less m S (cnt S a b p q x) (cnt S a b p q y)
    unfold Ans at *
    simp only [List.map_cons, List.map_nil, Tr.d, caseD] at *
    rw [run_at _ F_counted f_counted _ rfl rfl]
    generalize runN G Pg (m + 2) = r at *
    simp [f_counted, evSs, evS, evE, evEs, evAs, asgT, hx, hy, hu, rd2, rd, rds, t4, t7, AV.apart, AV.slots, AV.sl, Qh.callEnd, AV.isB, putOuts, Qh.finish, outs, Sl.isOwn, cnt]
end K01

namespace K01
open PySem PySem.Spec PyProof.Rows L2 Qh
/-! ### sizes, checks -/
def isPQ : Cd → Bool
  | .p => true
  | .q => true
  | _ => false
theorem c_in (c : Cd) (h : c.size ≤ 30) : opCmp .isin c.d (.tup [.tup [.str "p"], .tup [.str "q"]]) = some (isPQ c) := by
  obtain ⟨k, hd, hk⟩ := c.dep
  have e : eqOk c.d (.tup [.tup [.str "p"], .tup [.str "q"]]) = true := by
    unfold eqOk
    rw [hd]
    have : D.dep (.tup [.tup [.str "p"], .tup [.str "q"]]) = some 2 := by rfl
    rw [this]
    simp
    omega
  show (if eqOk c.d (.tup [.tup [.str "p"], .tup [.str "q"]]) then some (inD c.d [.tup [.str "p"], .tup [.str "q"]]) else none) = _
  rw [e]
  cases c <;> kernel_rfl
theorem u1 : (("and" : Str) = "and") = True := by simp
@[simp] theorem len_t (l : List D) : opBi .len [.tup l] = some (.int l.length) := rfl
theorem opCmp_notin (a b : D) : opCmp .notin a b = (opCmp .isin a b).map (!·) := by
  cases a <;> cases b <;> rfl
@[simp] theorem sum_l (l : List D) : opBi .sum [.lst l] = (allInts l).map fun ns => .int ns.sum := rfl
@[simp] theorem add_I (i j : Int) : opBin .add (.int i) (.int j) = some (.int (i + j)) := rfl
@[simp] theorem sub_I (i j : Int) : opBin .sub (.int i) (.int j) = some (.int (i - j)) := rfl
theorem in23 (i : Int) : opCmp .isin (.int i) (.tup [.int 2, .int 3]) = some (decide (2 = i) || decide (3 = i)) := by
  show (if eqOk (.int i) (.tup [.int 2, .int 3]) then some (inD (.int i) [.int 2, .int 3]) else none) = _
  have e : eqOk (.int i) (.tup [.int 2, .int 3]) = true := by rfl
  rw [e]
  simp only [if_true, inD, List.any_cons, List.any_nil, eqI, Bool.or_false]
theorem gT : G G_MOST_TUPLES = some (.int 30) := by kernel_rfl
theorem gL : G G_MOST_LEAVES = some (.int 6) := by kernel_rfl
theorem gK : G G_KINDS = some (.tup ((["union", "intersection", "difference"] : List Str).map .str)) := by kernel_rfl
theorem a_csize : ∀ (c : Cd) (n : Nat), c.size ≤ n → c.size ≤ 30 → Ans (runN G Pg n) F_condition_size [c.d] (.int c.size) := by
  intro c
  induction c with
  | p =>
    intro n hn _
    obtain ⟨m, rfl⟩ : ∃ m, n = m + 1 := ⟨n - 1, by simp only [Cd.size] at hn; omega⟩
    unfold Ans; kernel_rfl
  | q =>
    intro n hn _
    obtain ⟨m, rfl⟩ : ∃ m, n = m + 1 := ⟨n - 1, by simp only [Cd.size] at hn; omega⟩
    unfold Ans; kernel_rfl
  | not a iha =>
    intro n hn h30
    have hi := c_in (.not a) h30
    simp only [Cd.size] at hn h30
    obtain ⟨m, rfl⟩ : ∃ m, n = m + 1 := ⟨n - 1, by omega⟩
    have ha := iha m (by omega) (by omega)
    unfold Ans at *
    simp only [List.map_cons, List.map_nil, Cd.d] at *
    rw [run_at _ F_condition_size f_condition_size _ rfl rfl]
    generalize runN G Pg m = r at *
    simp [f_condition_size, evSs, evS, evE, evEs, evAs, evO, evT, evIt, asgT, ha, hi, isPQ, opCmp_notin, in23, rd2, rd, rds, sl_1, lcLoop, lcBody, noExc, wipeE, backE, tyOf, big, allInts, AV.apart, AV.slots, AV.sl, Qh.callEnd, AV.isB, putOuts, Qh.finish, outs, Sl.isOwn, Cd.size]
  | and a b iha ihb =>
    intro n hn h30
    have hi := c_in (.and a b) h30
    simp only [Cd.size] at hn h30
    obtain ⟨m, rfl⟩ : ∃ m, n = m + 1 := ⟨n - 1, by omega⟩
    have ha := iha m (by have := b.pos; omega) (by omega)
    have hb := ihb m (by have := a.pos; omega) (by omega)
    unfold Ans at *
    simp only [List.map_cons, List.map_nil, Cd.d] at *
    rw [run_at _ F_condition_size f_condition_size _ rfl rfl]
    have hj := inS "and" ["and", "or"]
    simp only [List.map_cons, List.map_nil] at hj
    generalize runN G Pg m = r at *
    simp [f_condition_size, evSs, evS, evE, evEs, evAs, evO, evT, evIt, asgT, ha, hb, hi, hj, s9, isPQ, opCmp_notin, in23, rd2, rd, rds, sl_1, lcLoop, lcBody, noExc, wipeE, backE, tyOf, big, allInts, AV.apart, AV.slots, AV.sl, Qh.callEnd, AV.isB, putOuts, Qh.finish, outs, Sl.isOwn, Cd.size]
  | or a b iha ihb =>
    intro n hn h30
    have hi := c_in (.or a b) h30
    simp only [Cd.size] at hn h30
    obtain ⟨m, rfl⟩ : ∃ m, n = m + 1 := ⟨n - 1, by omega⟩
    have ha := iha m (by have := b.pos; omega) (by omega)
    have hb := ihb m (by have := a.pos; omega) (by omega)
    unfold Ans at *
    simp only [List.map_cons, List.map_nil, Cd.d] at *
    rw [run_at _ F_condition_size f_condition_size _ rfl rfl]
    have hj := inS "or" ["and", "or"]
    simp only [List.map_cons, List.map_nil] at hj
    generalize runN G Pg m = r at *
    simp [f_condition_size, evSs, evS, evE, evEs, evAs, evO, evT, evIt, asgT, ha, hb, hi, hj, s10, isPQ, opCmp_notin, in23, rd2, rd, rds, sl_1, lcLoop, lcBody, noExc, wipeE, backE, tyOf, big, allInts, AV.apart, AV.slots, AV.sl, Qh.callEnd, AV.isB, putOuts, Qh.finish, outs, Sl.isOwn, Cd.size]
end K01

namespace K01
open PySem PySem.Spec PyProof.Rows L2 Qh
theorem Tr.pos (t : Tr) : 0 < t.size := by cases t <;> simp only [Tr.size] <;> omega
def szD (t : Tr) : D := .tup [.int t.leaves, .int t.size]
theorem a_size : ∀ (t : Tr) (n : Nat), t.size + 3 ≤ n → t.size ≤ 30 → Ans (runN G Pg n) F_size_of [t.d] (szD t) := by
  intro t
  induction t with
  | tab b =>
    intro n hn _
    obtain ⟨m, rfl⟩ : ∃ m, n = m + 3 := ⟨n - 3, by simp only [Tr.size] at hn; omega⟩
    cases b <;> (unfold Ans; kernel_rfl)
  | flt c t ih =>
    intro n hn h30
    simp only [Tr.size] at hn h30
    obtain ⟨m, rfl⟩ : ∃ m, n = m + 1 := ⟨n - 1, by omega⟩
    have ha := ih m (by omega) (by omega)
    have hc := a_csize c m (by omega) (by omega)
    unfold Ans at *
    simp only [List.map_cons, List.map_nil, Tr.d, szD] at *
    rw [run_at _ F_size_of f_size_of _ rfl rfl]
    generalize runN G Pg m = r at *
    simp [f_size_of, evSs, evS, evE, evEs, evAs, asgT, asgTs, ha, hc, gT, gL, opCmp_notin, in23, rd2, rd, rds, tyOf, big, AV.apart, AV.slots, AV.sl, Qh.callEnd, AV.isB, putOuts, Qh.finish, outs, Sl.isOwn, Tr.leaves, Tr.size]
    omega
  | uni x y ihx ihy =>
    intro n hn h30
    simp only [Tr.size] at hn h30
    obtain ⟨m, rfl⟩ : ∃ m, n = m + 1 := ⟨n - 1, by omega⟩
    have hx := ihx m (by omega) (by omega)
    have hy := ihy m (by omega) (by omega)
    unfold Ans at *
    simp only [List.map_cons, List.map_nil, Tr.d, szD] at *
    rw [run_at _ F_size_of f_size_of _ rfl rfl]
    generalize runN G Pg m = r at *
    have hk := inS "union" ["union", "intersection", "difference"]
    simp only [List.map_cons, List.map_nil] at hk
    simp [f_size_of, evSs, evS, evE, evEs, evAs, asgT, asgTs, hx, hy, gT, gL, gK, in23, opCmp_notin, hk, t5, rd2, rd, rds, tyOf, big, AV.apart, AV.slots, AV.sl, Qh.callEnd, AV.isB, putOuts, Qh.finish, outs, Sl.isOwn, Tr.leaves, Tr.size]
    omega
  | inn x y ihx ihy =>
    intro n hn h30
    simp only [Tr.size] at hn h30
    obtain ⟨m, rfl⟩ : ∃ m, n = m + 1 := ⟨n - 1, by omega⟩
    have hx := ihx m (by omega) (by omega)
    have hy := ihy m (by omega) (by omega)
    unfold Ans at *
    simp only [List.map_cons, List.map_nil, Tr.d, szD] at *
    rw [run_at _ F_size_of f_size_of _ rfl rfl]
    generalize runN G Pg m = r at *
    have hk := inS "intersection" ["union", "intersection", "difference"]
    simp only [List.map_cons, List.map_nil] at hk
    simp [f_size_of, evSs, evS, evE, evEs, evAs, asgT, asgTs, hx, hy, gT, gL, gK, in23, opCmp_notin, hk, t6, rd2, rd, rds, tyOf, big, AV.apart, AV.slots, AV.sl, Qh.callEnd, AV.isB, putOuts, Qh.finish, outs, Sl.isOwn, Tr.leaves, Tr.size]
    omega
  | dif x y ihx ihy =>
    intro n hn h30
    simp only [Tr.size] at hn h30
    obtain ⟨m, rfl⟩ : ∃ m, n = m + 1 := ⟨n - 1, by omega⟩
    have hx := ihx m (by omega) (by omega)
    have hy := ihy m (by omega) (by omega)
    unfold Ans at *
    simp only [List.map_cons, List.map_nil, Tr.d, szD] at *
    rw [run_at _ F_size_of f_size_of _ rfl rfl]
    generalize runN G Pg m = r at *
    have hk := inS "difference" ["union", "intersection", "difference"]
    simp only [List.map_cons, List.map_nil] at hk
    simp [f_size_of, evSs, evS, evE, evEs, evAs, asgT, asgTs, hx, hy, gT, gL, gK, in23, opCmp_notin, hk, t7, rd2, rd, rds, tyOf, big, AV.apart, AV.slots, AV.sl, Qh.callEnd, AV.isB, putOuts, Qh.finish, outs, Sl.isOwn, Tr.leaves, Tr.size]
    omega
def Tr.ok (t : Tr) : Prop := t.leaves ≤ 6 ∧ t.size ≤ 30
theorem a_isexpr (t : Tr) (n : Nat) (hn : 40 ≤ n) (h : t.ok) : Ans (runN G Pg n) F_is_expression [t.d] (.bl true) := by
  obtain ⟨h1, h2⟩ := h
  obtain ⟨m, rfl⟩ : ∃ m, n = m + 1 := ⟨n - 1, by omega⟩
  have ha := a_size t m (by omega) h2
  unfold Ans at *
  simp only [List.map_cons, List.map_nil, szD] at *
  rw [run_at _ F_is_expression f_is_expression _ rfl rfl]
  generalize runN G Pg m = r at *
  have e1 : ((t.leaves : Int) ≤ 6) = True := by simp; omega
  have e2 : ((t.size : Int) ≤ 30) = True := by simp; omega
  simp [f_is_expression, evSs, evS, evE, evEs, evAs, asgT, asgTs, ha, gT, gL, e1, e2, rd2, rd, AV.apart, AV.slots, AV.sl, Qh.callEnd, AV.isB, putOuts, Qh.finish, outs, Sl.isOwn]
theorem a_need1 (t : Tr) (n : Nat) (hn : 41 ≤ n) (h : t.ok) : Ans (runN G Pg n) F_need_expressions [.tup [t.d]] .non := by
  obtain ⟨m, rfl⟩ : ∃ m, n = m + 1 := ⟨n - 1, by omega⟩
  have ha := a_isexpr t m (by omega) h
  unfold Ans at *
  simp only [List.map_cons, List.map_nil] at *
  rw [run_at _ F_need_expressions f_need_expressions _ rfl rfl]
  generalize runN G Pg m = r at *
  simp [f_need_expressions, evSs, evS, evE, evEs, evAs, evIt, forS, rangeD, List.range, List.range.loop, asgT, ha, rd2, rd, rds, AV.apart, AV.slots, AV.sl, Qh.callEnd, AV.isB, putOuts, Qh.finish, outs, Sl.isOwn]
theorem a_need2 (t u : Tr) (n : Nat) (hn : 41 ≤ n) (h : t.ok) (h' : u.ok) : Ans (runN G Pg n) F_need_expressions [.tup [t.d, u.d]] .non := by
  obtain ⟨m, rfl⟩ : ∃ m, n = m + 1 := ⟨n - 1, by omega⟩
  have ha := a_isexpr t m (by omega) h
  have hb := a_isexpr u m (by omega) h'
  unfold Ans at *
  simp only [List.map_cons, List.map_nil] at *
  rw [run_at _ F_need_expressions f_need_expressions _ rfl rfl]
  generalize runN G Pg m = r at *
  simp [f_need_expressions, evSs, evS, evE, evEs, evAs, evIt, forS, rangeD, List.range, List.range.loop, asgT, ha, hb, rd2, rd, rds, AV.apart, AV.slots, AV.sl, Qh.callEnd, AV.isB, putOuts, Qh.finish, outs, Sl.isOwn]
theorem fin3 (c : Fin 3) : c = 0 ∨ c = 1 ∨ c = 2 := by
  rcases c with ⟨_ | _ | _ | k, h⟩
  · exact .inl rfl
  · exact .inr (.inl rfl)
  · exact .inr (.inr rfl)
  · omega
theorem a_needS (n : Nat) (S : Sm) : Ans (runN G Pg (n + 4)) F_need_semantics [S.d] .non := by
  obtain ⟨s, x, y, c, d⟩ := S
  rcases fin3 c with rfl | rfl | rfl <;> cases s <;> cases x <;> cases y <;> cases d <;> (unfold Ans; kernel_rfl)
def truths (S : Sm) : List Tv := if S.unk = 1 then [some true, some false, none] else [some true, some false]
theorem a_truths (n : Nat) (S : Sm) : Ans (runN G Pg (n + 1)) F_truths_of [S.d] (.lst ((truths S).map tv)) := by
  obtain ⟨s, x, y, c, d⟩ := S
  rcases fin3 c with rfl | rfl | rfl <;> (unfold Ans; kernel_rfl)
end K01

namespace K01
open PySem PySem.Spec PyProof.Rows L2 Qh
/-! ### cases -/
def blk (S : Sm) (w a : Int) : List D := (truths S).flatMap fun p => (truths S).map fun q => caseD a (w - a) p q
def fA (S : Sm) (w : Int) : D → List D
  | .int a => blk S w a
  | _ => []
def inner (S : Sm) (m w : Int) : List D := (rangeD (mx 0 (w - m)) (mn w m + 1 - mx 0 (w - m)).toNat).flatMap (fA S w)
def fW (S : Sm) (m : Int) : D → List D
  | .int w => inner S m w
  | _ => []
def casesL (S : Sm) (m : Nat) : List D := (rangeD 0 (2 * (m : Int) + 1).toNat).flatMap (fW S m)
theorem blk_len (S : Sm) (w a : Int) : (blk S w a).length ≤ 9 := by
  unfold blk truths
  split <;> simp
theorem flat_len {α β : Type} {f : α → List β} {c : Nat} : ∀ {l : List α}, (∀ x ∈ l, (f x).length ≤ c) → (l.flatMap f).length ≤ c * l.length
  | [], _ => by simp
  | x :: l, h => by
    rw [List.flatMap_cons, List.length_append, List.length_cons, Nat.mul_succ]
    have := flat_len (l := l) fun y hy => h y (List.mem_cons_of_mem _ hy)
    have := h x List.mem_cons_self
    omega
theorem inner_len (S : Sm) (m : Nat) (hm : m ≤ 18) (w : Int) : (inner S m w).length ≤ 171 := by
  unfold inner
  have h1 := flat_len (f := fA S w) (c := 9) (l := rangeD (mx 0 (w - m)) (mn w m + 1 - mx 0 (w - m)).toNat) (fun x _ => by
    cases x <;> simp only [fA, List.length_nil] <;> try omega
    exact blk_len S w _)
  rw [rangeD_len] at h1
  have h2 : (mn w m + 1 - mx 0 (w - m)).toNat ≤ 19 := by
    unfold mn mx
    split <;> split <;> omega
  omega
theorem rg_mem {lo : Int} {n : Nat} {x : D} (h : x ∈ rangeD lo n) : ∃ k : Nat, k < n ∧ x = .int (lo + k) := by
  rw [rangeD_eq, List.mem_map] at h
  obtain ⟨k, hk, rfl⟩ := h
  exact ⟨k, List.mem_range.mp hk, rfl⟩
theorem a_cases (S : Sm) (m : Nat) (hm : m ≤ 18) (n : Nat) : Ans (runN G Pg (n + 2)) F_cases_of [S.d, .int m] (.lst (casesL S m)) := by
  have ht := a_truths n S
  unfold Ans at *
  rw [run_at _ F_cases_of f_cases_of _ rfl rfl]
  generalize runN G Pg (n + 1) = r at *
  have e0 : (List.map Sl.dat [S.d, D.int m] ++ List.replicate (f_cases_of.n - f_cases_of.ps) Sl.non) = [.dat S.d, .dat (.int m), .non, .non, .non, .non, .non, .non] := rfl
  rw [e0]
  simp only [List.map_cons, List.map_nil] at ht
  -- the display side by side
  have e1 : ∀ (rest : Ss), evSs G r (.cons (.par [3, 4] (.new (.val (.call F_truths_of (.val (.var 0) .nil)) .nil))) rest) [.dat S.d, .dat (.int m), .non, .non, .non, .non, .non, .non] = evSs G r rest [.dat S.d, .dat (.int m), .non, .own (.lst []), .dat (.lst ((truths S).map tv)), .non, .non, .non] := by
    intro rest
    simp [evSs, evS, evPs, evE, evAs, ht, asgPs, AV.apart, AV.slots, AV.sl, Qh.callEnd, AV.isB, putOuts]
  show Qh.finish _ (evSs G r (.cons _ _) _) = _
  rw [e1]
  -- the loops
  have htr : truths S = [some true, some false, none] ∨ truths S = [some true, some false] := by
    unfold truths
    split
    · exact .inl rfl
    · exact .inr rfl
  obtain ⟨j', hj', hf⟩ := forS_acc (g := asgT (.nm 2)) (f := fW S m) (J := Sl × Sl) (fun j => j.1.isOwn = false ∧ j.2.isOwn = false) (fun l j => [.dat S.d, .dat (.int m), j.1, .own (.lst l), .dat (.lst ((truths S).map tv)), j.2, .non, .non])
    (body := evSs G r (.cons (.for (.rng2 (.bi .max (.cons (.cst (.int 0)) (.cons (.bin .sub (.var 2) (.var 1)) .nil))) (.bin .add (.bi .min (.cons (.var 2) (.cons (.var 1) .nil))) (.cst (.int 1)))) (.nm 5) (.cons (.ext 3 (.lc2 [6, 7] [7] (.seq (.var 4)) (.nm 6) (.seq (.var 4)) (.nm 7) (.tup (.cons (.var 5) (.cons (.bin .sub (.var 2) (.var 5)) (.cons (.var 6) (.cons (.var 7) .nil))))))) .nil)) .nil))
    (rangeD 0 (2 * (m : Int) + 1).toNat) [] (.non, .non) ⟨rfl, rfl⟩ (by
      have h1 := flat_len (f := fW S m) (c := 171) (l := rangeD 0 (2 * (m : Int) + 1).toNat) (fun x hx => by
        obtain ⟨k, _, rfl⟩ := rg_mem hx
        exact inner_len S m hm _)
      rw [rangeD_len] at h1
      simp only [List.length_nil, big]
      omega) (fun x hx l j hj hl => by
      obtain ⟨k, hk, rfl⟩ := rg_mem hx
      obtain ⟨j1, j2⟩ := j
      obtain ⟨hj1, hj2⟩ := hj
      refine ⟨[.dat S.d, .dat (.int m), .dat (.int (0 + k)), .own (.lst l), .dat (.lst ((truths S).map tv)), j2, .non, .non], ?_⟩
      obtain ⟨j3, hj3, hf⟩ := forS_acc (g := asgT (.nm 5)) (f := fA S (0 + k)) (J := Sl) (fun j => j.isOwn = false) (fun l j => [.dat S.d, .dat (.int m), .dat (.int (0 + k)), .own (.lst l), .dat (.lst ((truths S).map tv)), j, .non, .non])
        (body := evSs G r (.cons (.ext 3 (.lc2 [6, 7] [7] (.seq (.var 4)) (.nm 6) (.seq (.var 4)) (.nm 7) (.tup (.cons (.var 5) (.cons (.bin .sub (.var 2) (.var 5)) (.cons (.var 6) (.cons (.var 7) .nil))))))) .nil))
        (rangeD (mx 0 ((0 + k : Int) - m)) (mn (0 + k) m + 1 - mx 0 ((0 + k : Int) - m)).toNat) l j2 hj2 hl (fun x hx l j hj hl => by
          obtain ⟨k2, hk2, rfl⟩ := rg_mem hx
          refine ⟨[.dat S.d, .dat (.int m), .dat (.int (0 + k)), .own (.lst l), .dat (.lst ((truths S).map tv)), .dat (.int (mx 0 ((0 + k : Int) - m) + k2)), .non, .non], .dat (.int (mx 0 ((0 + k : Int) - m) + k2)), ?_, rfl, ?_⟩
          · cases j <;> first | rfl | cases hj
          · simp only [fA, blk, caseD] at hl ⊢
            generalize mx 0 ((0 + k : Int) - m) + k2 = a at *
            rcases htr with h | h <;> rw [h] at hl ⊢ <;>
              simp [evSs, evS, ownL, evE, evEs, evIt, lc2Loop, lcLoop, lcBody, wipeE, backE, noExc, asgT, Sl.isOwn, big, tv] at hl ⊢ <;> (rw [if_pos (by omega)]; rfl))
      refine ⟨(.dat (.int (0 + k)), j3), ?_, ⟨rfl, hj3⟩, ?_⟩
      · cases j1 <;> first | rfl | cases hj1
      · rw [ss_for (items := rangeD (mx 0 ((0 + k : Int) - m)) (mn (0 + k) m + 1 - mx 0 ((0 + k : Int) - m)).toNat) (e1 := [.dat S.d, .dat (.int m), .dat (.int (0 + k)), .own (.lst l), .dat (.lst ((truths S).map tv)), j2, .non, .non]) (it_rng2 (env1 := [.dat S.d, .dat (.int m), .dat (.int (0 + k)), .own (.lst l), .dat (.lst ((truths S).map tv)), j2, .non, .non])
          (by simp [evE, evEs, rds, rd]) (by simp [evE, evEs, rds, rd]) (by unfold mx; split <;> omega) (by unfold mx; split <;> omega) (by unfold mn; split <;> omega) (by unfold mn; split <;> omega)) hf]
        rfl)
  have hf2 : forS (asgT (.nm 2)) _ _ [.dat S.d, .dat (.int m), .non, .own (.lst []), .dat (.lst ((truths S).map tv)), .non, .non, .non] = _ := hf
  rw [ss_for (it_rng1 (n := 2 * (m : Int) + 1) (env' := [.dat S.d, .dat (.int m), .non, .own (.lst []), .dat (.lst ((truths S).map tv)), .non, .non, .non]) (by simp [evE, opBin, cmul]) (by omega) (by omega)) hf2]
  show Qh.finish _ (SR.next _ _) = _
  simp only [evS, ownL, at_s, at_0, optS_some, next_ret, List.nil_append]
  rw [fin_ret (by simp)]
  rfl
end K01

namespace K01
open PySem PySem.Spec PyProof.Rows L2 Qh
theorem gTu : G G_TURNS = some (.int 3) := by kernel_rfl
def most (S : Sm) (t u : Tr) : Nat := if S.set then 1 else 3 * max t.leaves u.leaves
def testI (S : Sm) (t u : Tr) : D → Bool
  | .tup [.int a, .int b, p, q] => match p, q with
    | .non, .non => !decide (cnt S a b none none t = cnt S a b none none u)
    | .bl x, .non => !decide (cnt S a b (some x) none t = cnt S a b (some x) none u)
    | .non, .bl y => !decide (cnt S a b none (some y) t = cnt S a b none (some y) u)
    | .bl x, .bl y => !decide (cnt S a b (some x) (some y) t = cnt S a b (some x) (some y) u)
    | _, _ => false
  | _ => false
theorem testI_case (S : Sm) (t u : Tr) (a b : Int) (p q : Tv) : testI S t u (caseD a b p q) = !decide (cnt S a b p q t = cnt S a b p q u) := by
  rcases p with _ | p <;> rcases q with _ | q <;> rfl
theorem case_mem {S : Sm} {m : Nat} {x : D} (h : x ∈ casesL S m) : ∃ a b p q, x = caseD a b p q := by
  unfold casesL at h
  obtain ⟨y, hy, hx⟩ := List.mem_flatMap.mp h
  obtain ⟨k, _, rfl⟩ := rg_mem hy
  have hx : x ∈ inner S m (0 + k) := hx
  unfold inner at hx
  obtain ⟨z, hz, hx⟩ := List.mem_flatMap.mp hx
  obtain ⟨k2, _, rfl⟩ := rg_mem hz
  have hx : x ∈ blk S (0 + k) (mx 0 (0 + k - m) + k2) := hx
  unfold blk at hx
  obtain ⟨p, _, hx⟩ := List.mem_flatMap.mp hx
  obtain ⟨q, _, rfl⟩ := List.mem_map.mp hx
  exact ⟨_, _, p, q, rfl⟩
def optD : Option D → D
  | some x => x
  | none => .non
def firstD (S : Sm) (t u : Tr) : D := optD ((casesL S (most S t u)).find? (testI S t u))
theorem mx_max (a b : Nat) : mx (a : Int) (b : Int) = ((max a b : Nat) : Int) := by
  unfold mx
  split <;> omega
@[simp] theorem mul_3 (j : Int) : opBin .mul (.int 3) (.int j) = some (.int (3 * j)) := by
  show (if cmul 3 j then some (D.int (3 * j)) else none) = _
  rw [if_pos (by unfold cmul; simp)]
theorem a_first (S : Sm) (t u : Tr) (ht : t.ok) (hu : u.ok) (n : Nat) (hn : 41 ≤ n) : Ans (runN G Pg n) F_first_difference [S.d, t.d, u.d] (firstD S t u) := by
  obtain ⟨m, rfl⟩ : ∃ m, n = m + 3 := ⟨n - 3, by omega⟩
  have hm : most S t u ≤ 18 := by
    have := ht.1
    have := hu.1
    unfold most
    split <;> omega
  have h1 := a_is_set (m + 1) S
  have h2 := a_size t (m + 2) (by have := ht.2; omega) ht.2
  have h3 := a_size u (m + 2) (by have := hu.2; omega) hu.2
  have h4 := a_cases S (most S t u) hm m
  have h5 : ∀ a b p q, Ans (runN G Pg (m + 2)) F_counted [S.d, t.d, caseD a b p q] (.int (cnt S a b p q t)) := fun a b p q => a_counted S a b p q t (m + 2) (by have := ht.2; omega)
  have h6 : ∀ a b p q, Ans (runN G Pg (m + 2)) F_counted [S.d, u.d, caseD a b p q] (.int (cnt S a b p q u)) := fun a b p q => a_counted S a b p q u (m + 2) (by have := hu.2; omega)
  unfold Ans at *
  rw [run_at _ F_first_difference f_first_difference _ rfl rfl]
  generalize runN G Pg (m + 2) = r at *
  have e0 : (List.map Sl.dat [S.d, t.d, u.d] ++ List.replicate (f_first_difference.n - f_first_difference.ps) Sl.non) = [.dat S.d, .dat t.d, .dat u.d, .non, .non] := rfl
  rw [e0]
  simp only [List.map_cons, List.map_nil] at h1 h2 h3 h4 h5 h6
  have e1 : ∀ rest, evSs G r (.cons (.asg (.nm 3) (.ife (.call F_is_set (.val (.var 0) .nil)) (.cst (.int 1)) (.bin .mul (.glo G_TURNS) (.bi .max (.cons (.ix (.call F_size_of (.val (.var 1) .nil)) (.cst (.int 0))) (.cons (.ix (.call F_size_of (.val (.var 2) .nil)) (.cst (.int 0))) .nil)))))) rest) [.dat S.d, .dat t.d, .dat u.d, .non, .non] =
      evSs G r rest [.dat S.d, .dat t.d, .dat u.d, .dat (.int (most S t u)), .non] := by
    intro rest
    cases hs : S.set <;> rw [hs] at h1 <;>
      simp [evSs, evS, evE, evEs, evAs, asgT, h1, h2, h3, szD, gTu, rd2, rd, rds, most, hs, mx_max, AV.apart, AV.slots, AV.sl, Qh.callEnd, AV.isB, putOuts]
  show Qh.finish _ (evSs G r (.cons _ _) _) = _
  rw [e1]
  have hi : evIt G r (.seq (.call F_cases_of (.val (.var 0) (.val (.var 3) .nil)))) [.dat S.d, .dat t.d, .dat u.d, .dat (.int (most S t u)), .non] = .ok (casesL S (most S t u)) [.dat S.d, .dat t.d, .dat u.d, .dat (.int (most S t u)), .non] := by
    simp [evIt, evE, evAs, h4, AV.apart, AV.slots, AV.sl, Qh.callEnd, AV.isB, putOuts]
  have hf := forS_find (g := asgT (.nm 4)) (test := testI S t u) (J := Sl) (fun j => j.isOwn = false) (fun j => [.dat S.d, .dat t.d, .dat u.d, .dat (.int (most S t u)), j])
    (body := evSs G r (.cons (.ite (.cmp .ne (.call F_counted (.val (.var 0) (.val (.var 1) (.val (.var 4) .nil)))) (.call F_counted (.val (.var 0) (.val (.var 2) (.val (.var 4) .nil))))) (.cons (.ret (.var 4)) .nil) .nil) .nil)) (casesL S (most S t u)) .non rfl (fun x hx j hj => by
      obtain ⟨a, b, p, q, rfl⟩ := case_mem hx
      refine ⟨[.dat S.d, .dat t.d, .dat u.d, .dat (.int (most S t u)), .dat (caseD a b p q)], (by cases j <;> first | rfl | cases hj), ?_⟩
      rw [testI_case]
      by_cases hc : cnt S a b p q t = cnt S a b p q u
      · rw [decide_eq_true hc]
        simp only [Bool.not_true, Bool.false_eq_true, if_false]
        refine ⟨.dat (caseD a b p q), rfl, ?_⟩
        simp [evSs, evS, evE, evAs, h5, h6, hc, rd2, rd, AV.apart, AV.slots, AV.sl, Qh.callEnd, AV.isB, putOuts]
      · rw [decide_eq_false hc]
        simp only [Bool.not_false, if_true]
        refine ⟨.dat (caseD a b p q), ?_⟩
        simp [evSs, evS, evE, evAs, h5, h6, hc, rd2, rd, AV.apart, AV.slots, AV.sl, Qh.callEnd, AV.isB, putOuts])
  unfold firstD
  cases q : (casesL S (most S t u)).find? (testI S t u) with
  | some x =>
    rw [q] at hf
    obtain ⟨j', hf⟩ := hf
    rw [ss_forR hi hf, fin_ret (by simp)]
    rfl
  | none =>
    rw [q] at hf
    obtain ⟨j', hj', hf⟩ := hf
    rw [ss_for hi hf]
    simp only [evSs, evS, evE, sr_ok, next_ret]
    rw [fin_ret (by simp)]
    rfl
theorem a_least (S : Sm) (t u : Tr) (ht : t.ok) (hu : u.ok) (n : Nat) (hn : 42 ≤ n) : Ans (runN G Pg n) F_least_difference [S.d, t.d, u.d] (firstD S t u) := by
  obtain ⟨m, rfl⟩ : ∃ m, n = m + 5 := ⟨n - 5, by omega⟩
  have h1 := a_needS m S
  have h2 := a_need2 t u (m + 4) (by omega) ht hu
  have h3 := a_first S t u ht hu (m + 4) (by omega)
  unfold Ans at *
  simp only [List.map_cons, List.map_nil] at *
  rw [run_at _ F_least_difference f_least_difference _ rfl rfl]
  generalize runN G Pg (m + 4) = r at *
  simp [f_least_difference, evSs, evS, evE, evEs, evAs, h1, h2, h3, big, AV.apart, AV.slots, AV.sl, Qh.callEnd, AV.isB, putOuts, Qh.finish, outs, Sl.isOwn]
end K01

namespace K01
open PySem PySem.Spec PyProof.Rows L2 Qh
theorem gMC : G G_MOST_COUNT = some (.int 99) := by kernel_rfl
theorem a_is_integer (n : Nat) (i : Int) : Ans (runN G Pg (n + 1)) F_is_integer [.int i] (.bl true) := by unfold Ans; kernel_rfl
theorem a_is_in (n : Nat) (i lo hi : Int) : Ans (runN G Pg (n + 2)) F_is_in [.int i, .int lo, .int hi] (.bl (decide (lo ≤ i) && decide (i ≤ hi))) := by
  have h := a_is_integer n i
  unfold Ans at *
  simp only [List.map_cons, List.map_nil] at *
  rw [run_at _ F_is_in f_is_in _ rfl rfl]
  generalize runN G Pg (n + 1) = r at *
  by_cases h1 : lo ≤ i <;>
    simp [f_is_in, evSs, evS, evE, evAs, h, h1, rd2, rd, AV.apart, AV.slots, AV.sl, Qh.callEnd, AV.isB, putOuts, Qh.finish, outs, Sl.isOwn]
theorem a_is_list4 (n : Nat) (a b c d : D) : Ans (runN G Pg (n + 1)) F_is_list [.tup [a, b, c, d], .int 4, .int 4] (.bl true) := by unfold Ans; kernel_rfl
theorem cmp_isN (v : Tv) : opCmp .is (tv v) .non = some (decide (v = none)) := by
  rcases v with _ | b <;> rfl
theorem a_is_truth (n : Nat) (S : Sm) (v : Tv) (h : v ∈ truths S) : Ans (runN G Pg (n + 1)) F_is_truth [S.d, tv v] (.bl true) := by
  obtain ⟨s, x, y, c, d⟩ := S
  rcases v with _ | b
  · rcases fin3 c with rfl | rfl | rfl
    · simp [truths] at h
    · unfold Ans; kernel_rfl
    · simp [truths] at h
  · cases b <;> (unfold Ans; kernel_rfl)
theorem a_need_case (n : Nat) (S : Sm) (a b : Int) (p q : Tv) (ha : 0 ≤ a ∧ a ≤ (if S.set then 1 else 99)) (hb : 0 ≤ b ∧ b ≤ (if S.set then 1 else 99)) (hp : p ∈ truths S) (hq : q ∈ truths S) : Ans (runN G Pg (n + 3)) F_need_case [S.d, caseD a b p q] .non := by
  have h1 := a_is_set (n + 1) S
  have h2 := a_is_list4 (n + 1) (.int a) (.int b) (tv p) (tv q)
  have h3 := a_is_in n a 0 (if S.set then 1 else 99)
  have h4 := a_is_in n b 0 (if S.set then 1 else 99)
  have h5 := a_is_truth (n + 1) S p hp
  have h6 := a_is_truth (n + 1) S q hq
  rw [decide_eq_true ha.1, decide_eq_true ha.2] at h3
  rw [decide_eq_true hb.1, decide_eq_true hb.2] at h4
  unfold Ans at *
  simp only [List.map_cons, List.map_nil, caseD] at *
  rw [run_at _ F_need_case f_need_case _ rfl rfl]
  generalize runN G Pg (n + 2) = r at *
  cases hs : S.set <;> rw [hs] at h1 h3 h4 <;> simp only [if_true, Bool.false_eq_true, if_false] at h3 h4 <;>
    simp [f_need_case, evSs, evS, evE, evAs, asgT, gMC, h1, h2, h3, h4, h5, h6, rd2, rd, AV.apart, AV.slots, AV.sl, Qh.callEnd, AV.isB, putOuts, Qh.finish, outs, Sl.isOwn]
theorem a_count_at (S : Sm) (t : Tr) (ht : t.ok) (a b : Int) (p q : Tv) (ha : 0 ≤ a ∧ a ≤ (if S.set then 1 else 99)) (hb : 0 ≤ b ∧ b ≤ (if S.set then 1 else 99)) (hp : p ∈ truths S) (hq : q ∈ truths S) (n : Nat) (hn : 42 ≤ n) :
    Ans (runN G Pg n) F_count_at [S.d, t.d, caseD a b p q] (.int (cnt S a b p q t)) := by
  obtain ⟨m, rfl⟩ : ∃ m, n = m + 5 := ⟨n - 5, by omega⟩
  have h1 := a_needS m S
  have h2 := a_need1 t (m + 4) (by omega) ht
  have h3 := a_need_case (m + 1) S a b p q ha hb hp hq
  have h4 := a_counted S a b p q t (m + 4) (by have := ht.2; omega)
  unfold Ans at *
  simp only [List.map_cons, List.map_nil] at *
  rw [run_at _ F_count_at f_count_at _ rfl rfl]
  generalize runN G Pg (m + 4) = r at *
  simp [f_count_at, evSs, evS, evE, evEs, evAs, h1, h2, h3, h4, big, AV.apart, AV.slots, AV.sl, Qh.callEnd, AV.isB, putOuts, Qh.finish, outs, Sl.isOwn]
end K01

namespace K01
open PySem PySem.Spec PyProof.Rows L2 Qh
/-! ### draws -/
def Rw (l : List D) : Prop := ∃ (ns : List Int) (i s z : Int), l = [.scr ns, .int i, .int s, .int z] ∧ 0 ≤ i ∧ 0 ≤ s ∧ s < 2147483647
/-- a run over the row: what it answers and leaves -/
def Dr (n f : Nat) (l : List D) (xs : List D) (d : D) (l' : List D) : Prop := runN G Pg n f (.own (.lst l) :: xs.map .dat) = .ok d (.own (.lst l') :: xs.map .dat)
@[simp] theorem il_0 (a : D) (l : List D) : opIx (.lst (a :: l)) (.int 0) = some a := ixL (a :: l) 0 (by simp)
@[simp] theorem il_1 (a b : D) (l : List D) : opIx (.lst (a :: b :: l)) (.int 1) = some b := ixL (a :: b :: l) 1 (by simp)
@[simp] theorem il_2 (a b c : D) (l : List D) : opIx (.lst (a :: b :: c :: l)) (.int 2) = some c := ixL (a :: b :: c :: l) 2 (by simp)
@[simp] theorem il_3 (a b c d : D) (l : List D) : opIx (.lst (a :: b :: c :: d :: l)) (.int 3) = some d := ixL (a :: b :: c :: d :: l) 3 (by simp)
theorem ix4_0 : L2.ixN 4 0 = some 0 := rfl
theorem ix4_1 : L2.ixN 4 1 = some 1 := rfl
theorem ix4_2 : L2.ixN 4 2 = some 2 := rfl
theorem ix4_3 : L2.ixN 4 3 = some 3 := rfl
theorem p1018 : opBin .pow (.int 10) (.int 18) = some (.int 1000000000000000000) := by kernel_rfl
@[simp] theorem int_i (i : Int) : opBi .int [.int i] = some (.int i) := rfl
@[simp] theorem int_b (b : Bool) : opBi .int [.bl b] = some (.int (if b then 1 else 0)) := rfl
@[simp] theorem len_s (l : List Int) : opBi .len [.scr l] = some (.int l.length) := rfl
@[simp] theorem len_l (l : List D) : opBi .len [.lst l] = some (.int l.length) := rfl
theorem mod_i (i j : Int) (h : j ≠ 0) : opBin .mod (.int i) (.int j) = some (.int (i.fmod j)) := by
  show (if decide (j ≠ 0) then some (D.int (i.fmod j)) else none) = _
  rw [if_pos (decide_eq_true h)]
theorem fdv_i (i j : Int) (h : 0 < j) (h' : j < 1073741824) : opBin .fdiv (.int i) (.int j) = some (.int (i.fdiv j)) := by
  show (if decide (j ≠ 0) && decide (j.natAbs < 1073741824) then some (D.int (i.fdiv j)) else none) = _
  rw [if_pos (by rw [Bool.and_eq_true, decide_eq_true_eq, decide_eq_true_eq]; omega)]
theorem mul_48 (i : Int) : opBin .mul (.int i) (.int 48271) = some (.int (i * 48271)) := by
  show (if cmul i 48271 then some (D.int (i * 48271)) else none) = _
  rw [if_pos (by unfold cmul; simp)]
theorem ix_sc (ns : List Int) (k : Nat) (c : Int) (h : ns[k]? = some c) : opIx (.scr ns) (.int (k : Int)) = some (.int c) := by
  show (L2.atI ns (k : Int)).map D.int = _
  unfold L2.atI
  have hk := (List.getElem?_eq_some_iff.mp h).1
  rw [ixN_lt hk, Option.bind_some, h]
  rfl
theorem fm_lt (i m : Int) (h : 0 < m) : 0 ≤ i.fmod m ∧ i.fmod m < m := ⟨Int.fmod_nonneg_of_pos i h, Int.fmod_lt_of_pos i h⟩
theorem a_taken (n : Nat) (l : List D) (hl : Rw l) (m : Int) (h0 : 0 < m) (h1 : m < 1073741824) : ∃ (x : Int) (l' : List D), Rw l' ∧ 0 ≤ x ∧ x < m ∧ Dr (n + 1) F__law_taken l [.int m] (.int x) l' := by
  obtain ⟨ns, i, s, z, rfl, hi, hs, hs2⟩ := hl
  have hm : m ≠ 0 := by omega
  unfold Dr
  simp only [List.map_cons, List.map_nil]
  rw [run_at _ F__law_taken f__law_taken _ rfl rfl]
  generalize runN G Pg n = r
  by_cases hz : 0 < z
  · refine ⟨z.fmod m, [.scr ns, .int i, .int s, .int (z.fdiv m)], ⟨ns, i, s, _, rfl, hi, hs, hs2⟩, (fm_lt z m h0).1, (fm_lt z m h0).2, ?_⟩
    simp [f__law_taken, evSs, evS, evE, evEs, asgT, ownL, hz, mod_i, fdv_i, hm, h0, h1, ix4_3, rd2, rd, rds, Qh.finish, outs, Sl.isOwn]
  · by_cases hlen : (ns.length : Int) < i + 1
    · have hb := fm_lt (s * 48271 + 11) 2147483647 (by decide)
      refine ⟨(((s * 48271 + 11).fmod 2147483647).fdiv 7).fmod m, [.scr ns, .int (i + 1), .int ((s * 48271 + 11).fmod 2147483647), .int z], ⟨ns, _, _, z, rfl, by omega, hb.1, hb.2⟩, (fm_lt _ m h0).1, (fm_lt _ m h0).2, ?_⟩
      simp [f__law_taken, evSs, evS, evE, evEs, asgT, ownL, hz, hlen, mod_i, fdv_i, hm, h0, h1, mul_48, ix4_1, ix4_2, ix4_3, rd2, rd, rds, Qh.finish, outs, Sl.isOwn]
    · obtain ⟨k, rfl⟩ : ∃ k : Nat, i = k := ⟨i.toNat, by omega⟩
      have hk : k < ns.length := by omega
      obtain ⟨c, hc⟩ : ∃ c, ns[k]? = some c := ⟨_, List.getElem?_eq_getElem hk⟩
      have hix := ix_sc ns k c hc
      have hb := fm_lt (s * 48271 + c + 11) 2147483647 (by decide)
      by_cases hbig : 1000000000000000000 ≤ c
      · refine ⟨c.fmod m, [.scr ns, .int (k + 1), .int ((s * 48271 + c + 11).fmod 2147483647), .int (c.fdiv m)], ⟨ns, _, _, _, rfl, by omega, hb.1, hb.2⟩, (fm_lt _ m h0).1, (fm_lt _ m h0).2, ?_⟩
        simp [f__law_taken, evSs, evS, evE, evEs, asgT, ownL, hz, hlen, mod_i, fdv_i, hm, h0, h1, mul_48, p1018, hix, hbig, ix4_1, ix4_2, ix4_3, rd2, rd, rds, Qh.finish, outs, Sl.isOwn]
      · refine ⟨c.fmod m, [.scr ns, .int (k + 1), .int ((s * 48271 + c + 11).fmod 2147483647), .int z], ⟨ns, _, _, _, rfl, by omega, hb.1, hb.2⟩, (fm_lt _ m h0).1, (fm_lt _ m h0).2, ?_⟩
        simp [f__law_taken, evSs, evS, evE, evEs, asgT, ownL, hz, hlen, mod_i, fdv_i, hm, h0, h1, mul_48, p1018, hix, hbig, ix4_1, ix4_2, ix4_3, rd2, rd, rds, Qh.finish, outs, Sl.isOwn]
theorem a_pick (n : Nat) (l : List D) (hl : Rw l) (ks : List D) (h0 : 0 < ks.length) (h1 : ks.length < 1000) : ∃ (d : D) (l' : List D), Rw l' ∧ d ∈ ks ∧ Dr (n + 2) F__law_pick l [.lst ks] d l' := by
  obtain ⟨x, l', hl', hx0, hx1, hr⟩ := a_taken n l hl ks.length (by omega) (by omega)
  obtain ⟨k, rfl⟩ : ∃ k : Nat, x = k := ⟨x.toNat, by omega⟩
  have hk : k < ks.length := by omega
  have hix := ixL ks k hk
  rw [List.getElem?_eq_getElem hk] at hix
  refine ⟨ks[k], l', hl', List.getElem_mem hk, ?_⟩
  unfold Dr at *
  simp only [List.map_cons, List.map_nil] at *
  rw [run_at _ F__law_pick f__law_pick _ rfl rfl]
  generalize runN G Pg (n + 1) = r at *
  simp [f__law_pick, evSs, evS, evE, evEs, evAs, hr, hix, AV.apart, AV.slots, AV.sl, Qh.callEnd, AV.isB, putOuts, rd2, rd, rds, Qh.finish, outs, Sl.isOwn]
end K01

namespace K01
open PySem PySem.Spec PyProof.Rows L2 Qh
/-! ### the law's own semantics -/
theorem a_joinA (n : Nat) (a b : Tv) : Ans (runN G Pg (n + 1)) F__law_join [.str "and", tv a, tv b] (tv (and3 a b)) := by
  rcases a with _ | (_ | _) <;> rcases b with _ | (_ | _) <;> (unfold Ans; kernel_rfl)
theorem a_joinO (n : Nat) (a b : Tv) : Ans (runN G Pg (n + 1)) F__law_join [.str "or", tv a, tv b] (tv (or3 a b)) := by
  rcases a with _ | (_ | _) <;> rcases b with _ | (_ | _) <;> (unfold Ans; kernel_rfl)
theorem inSL (x : Str) (ys : List Str) : opCmp .isin (.str x) (.lst (ys.map .str)) = some (decide (x ∈ ys)) := inS x ys
theorem a_known (p q : Tv) : ∀ (c : Cd) (n : Nat), c.size + 2 ≤ n → Ans (runN G Pg n) F__law_known [c.d, tv p, tv q] (tv (c.val p q)) := by
  intro c
  induction c with
  | p =>
    intro n hn
    obtain ⟨m, rfl⟩ : ∃ m, n = m + 1 := ⟨n - 1, by omega⟩
    unfold Ans; kernel_rfl
  | q =>
    intro n hn
    obtain ⟨m, rfl⟩ : ∃ m, n = m + 1 := ⟨n - 1, by omega⟩
    unfold Ans; kernel_rfl
  | not a iha =>
    intro n hn
    simp only [Cd.size] at hn
    obtain ⟨m, rfl⟩ : ∃ m, n = m + 1 := ⟨n - 1, by omega⟩
    have ha := iha m (by omega)
    unfold Ans at *
    simp only [List.map_cons, List.map_nil, Cd.d] at *
    rw [run_at _ F__law_known f__law_known _ rfl rfl]
    have hi := inSL "not" ["p", "q"]
    simp only [List.map_cons, List.map_nil] at hi
    generalize runN G Pg m = r at *
    simp only [Cd.val]
    generalize a.val p q = v at *
    have hn := cmp_isN v
    rcases v with _ | (_ | _) <;> simp only [tv] at ha hn <;>
      simp [f__law_known, evSs, evS, evE, evEs, evAs, asgT, ha, hi, hn, rd2, rd, s3, s4, big, AV.apart, AV.slots, AV.sl, Qh.callEnd, AV.isB, putOuts, Qh.finish, outs, Sl.isOwn, not3, tv]
  | and a b iha ihb =>
    intro n hn
    simp only [Cd.size] at hn
    obtain ⟨m, rfl⟩ : ∃ m, n = m + 2 := ⟨n - 2, by omega⟩
    have ha := iha (m + 1) (by have := b.pos; omega)
    have hb := ihb (m + 1) (by have := a.pos; omega)
    have hc := a_joinA m (a.val p q) (b.val p q)
    unfold Ans at *
    simp only [List.map_cons, List.map_nil, Cd.d] at *
    rw [run_at _ F__law_known f__law_known _ rfl rfl]
    have hi := inSL "and" ["p", "q"]
    simp only [List.map_cons, List.map_nil] at hi
    generalize runN G Pg (m + 1) = r at *
    simp [f__law_known, evSs, evS, evE, evEs, evAs, asgT, ha, hb, hc, hi, rd2, rd, s5, s6, s9, big, AV.apart, AV.slots, AV.sl, Qh.callEnd, AV.isB, putOuts, Qh.finish, outs, Sl.isOwn, Cd.val]
  | or a b iha ihb =>
    intro n hn
    simp only [Cd.size] at hn
    obtain ⟨m, rfl⟩ : ∃ m, n = m + 2 := ⟨n - 2, by omega⟩
    have ha := iha (m + 1) (by have := b.pos; omega)
    have hb := ihb (m + 1) (by have := a.pos; omega)
    have hc := a_joinO m (a.val p q) (b.val p q)
    unfold Ans at *
    simp only [List.map_cons, List.map_nil, Cd.d] at *
    rw [run_at _ F__law_known f__law_known _ rfl rfl]
    have hi := inSL "or" ["p", "q"]
    simp only [List.map_cons, List.map_nil] at hi
    generalize runN G Pg (m + 1) = r at *
    simp [f__law_known, evSs, evS, evE, evEs, evAs, asgT, ha, hb, hc, hi, rd2, rd, s7, s8, s10, s11, big, AV.apart, AV.slots, AV.sl, Qh.callEnd, AV.isB, putOuts, Qh.finish, outs, Sl.isOwn, Cd.val]
def mulB (a b : Int) : Int := a * (if b = 0 then 1 else 0)
def lessL (S : Sm) (a b : Int) : Int := capI S (if S.set || S.kind then mulB a b else mx 0 (a - b))
theorem mul_b (a : Int) (b : Int) : opBin .mul (.int a) (.int (if b = 0 then 1 else 0)) = some (.int (mulB a b)) := by
  show (if cmul a (if b = 0 then 1 else 0) then some (D.int (a * (if b = 0 then 1 else 0))) else none) = _
  rw [if_pos (by unfold cmul; split <;> simp)]
  rfl
theorem c2 : (("bag" : Str) = "set") = False := by decide +kernel
theorem c3 : (("count" : Str) = "kind") = False := by decide +kernel
theorem c4 : (("maximum" : Str) = "sum") = False := by decide +kernel
theorem a_manyU (n : Nat) (S : Sm) (a b : Int) : Ans (runN G Pg (n + 1)) F__law_many [S.d, .str "union", .int a, .int b] (.int (capI S (uniI S a b))) := by
  unfold Ans
  simp only [List.map_cons, List.map_nil]
  rw [run_at _ F__law_many f__law_many _ rfl rfl]
  generalize runN G Pg n = r at *
  cases hs : S.sum <;> cases ht : S.set <;>
    simp [f__law_many, evSs, evS, evE, evEs, evAs, asgT, hs, ht, rd2, rd, rds, c2, c4, AV.apart, AV.slots, AV.sl, Qh.callEnd, AV.isB, putOuts, Qh.finish, outs, Sl.isOwn, capI, uniI]
theorem a_manyI (n : Nat) (S : Sm) (a b : Int) : Ans (runN G Pg (n + 1)) F__law_many [S.d, .str "intersection", .int a, .int b] (.int (capI S (mn a b))) := by
  unfold Ans
  simp only [List.map_cons, List.map_nil]
  rw [run_at _ F__law_many f__law_many _ rfl rfl]
  generalize runN G Pg n = r at *
  cases ht : S.set <;>
    simp [f__law_many, evSs, evS, evE, evEs, evAs, asgT, ht, rd2, rd, rds, c2, t10, AV.apart, AV.slots, AV.sl, Qh.callEnd, AV.isB, putOuts, Qh.finish, outs, Sl.isOwn, capI]
theorem t12 : (("difference" : Str) = "union") = False := by decide +kernel
theorem t13 : (("difference" : Str) = "intersection") = False := by decide +kernel
theorem a_manyD (n : Nat) (S : Sm) (a b : Int) : Ans (runN G Pg (n + 1)) F__law_many [S.d, .str "difference", .int a, .int b] (.int (lessL S a b)) := by
  unfold Ans
  simp only [List.map_cons, List.map_nil]
  rw [run_at _ F__law_many f__law_many _ rfl rfl]
  generalize runN G Pg n = r at *
  have hm := mul_b a b
  cases hk : S.kind <;> cases ht : S.set <;>
    simp [f__law_many, evSs, evS, evE, evEs, evAs, asgT, hk, ht, hm, rd2, rd, rds, c2, c3, t12, t13, AV.apart, AV.slots, AV.sl, Qh.callEnd, AV.isB, putOuts, Qh.finish, outs, Sl.isOwn, capI, lessL]
def cntL (S : Sm) (a b : Int) (p q : Tv) : Tr → Int
  | .tab t => if t then b else a
  | .flt c t => if c.val p q = some true then cntL S a b p q t else 0
  | .uni x y => capI S (uniI S (cntL S a b p q x) (cntL S a b p q y))
  | .inn x y => capI S (mn (cntL S a b p q x) (cntL S a b p q y))
  | .dif x y => lessL S (cntL S a b p q x) (cntL S a b p q y)
theorem a_lcount (S : Sm) (a b : Int) (p q : Tv) : ∀ (t : Tr) (n : Nat), t.size + 3 ≤ n → Ans (runN G Pg n) F__law_count [S.d, t.d, caseD a b p q] (.int (cntL S a b p q t)) := by
  intro t
  induction t with
  | tab x =>
    intro n hn
    obtain ⟨m, rfl⟩ : ∃ m, n = m + 1 := ⟨n - 1, by omega⟩
    cases x <;> (unfold Ans; kernel_rfl)
  | flt c t ih =>
    intro n hn
    simp only [Tr.size] at hn
    obtain ⟨m, rfl⟩ : ∃ m, n = m + 1 := ⟨n - 1, by omega⟩
    have ha := ih m (by omega)
    have hc := a_known p q c m (by omega)
    unfold Ans at *
    simp only [List.map_cons, List.map_nil, Tr.d, caseD] at *
    rw [run_at _ F__law_count f__law_count _ rfl rfl]
    generalize runN G Pg m = r at *
    have hi := cmp_isT (c.val p q)
    generalize tv (c.val p q) = u at *
    by_cases hv : c.val p q = some true <;>
      simp [f__law_count, evSs, evS, evE, evEs, evAs, asgT, ha, hc, hi, rd2, rd, t1, t2, t3, AV.apart, AV.slots, AV.sl, Qh.callEnd, AV.isB, putOuts, Qh.finish, outs, Sl.isOwn, cntL, hv]
  | uni x y ihx ihy =>
    intro n hn
    simp only [Tr.size] at hn
    obtain ⟨m, rfl⟩ : ∃ m, n = m + 2 := ⟨n - 2, by omega⟩
    have hx := ihx (m + 1) (by omega)
    have hy := ihy (m + 1) (by omega)
    have hu := a_manyU m S (cntL S a b p q x) (cntL S a b p q y)
    unfold Ans at *
    simp only [List.map_cons, List.map_nil, Tr.d, caseD] at *
    rw [run_at _ F__law_count f__law_count _ rfl rfl]
    generalize runN G Pg (m + 1) = r at *
    simp [f__law_count, evSs, evS, evE, evEs, evAs, asgT, hx, hy, hu, rd2, rd, rds, t2, t5, AV.apart, AV.slots, AV.sl, Qh.callEnd, AV.isB, putOuts, Qh.finish, outs, Sl.isOwn, cntL]
  | inn x y ihx ihy =>
    intro n hn
    simp only [Tr.size] at hn
    obtain ⟨m, rfl⟩ : ∃ m, n = m + 2 := ⟨n - 2, by omega⟩
    have hx := ihx (m + 1) (by omega)
    have hy := ihy (m + 1) (by omega)
    have hu := a_manyI m S (cntL S a b p q x) (cntL S a b p q y)
    unfold Ans at *
    simp only [List.map_cons, List.map_nil, Tr.d, caseD] at *
    rw [run_at _ F__law_count f__law_count _ rfl rfl]
    generalize runN G Pg (m + 1) = r at *
    simp [f__law_count, evSs, evS, evE, evEs, evAs, asgT, hx, hy, hu, rd2, rd, rds, t3, t6, AV.apart, AV.slots, AV.sl, Qh.callEnd, AV.isB, putOuts, Qh.finish, outs, Sl.isOwn, cntL]
  | dif x y ihx ihy =>
    intro n hn
    simp only [Tr.size] at hn
    obtain ⟨m, rfl⟩ : ∃ m, n = m + 2 := ⟨n - 2, by omega⟩
    have hx := ihx (m + 1) (by omega)
    have hy := ihy (m + 1) (by omega)
    have hu := a_manyD m S (cntL S a b p q x) (cntL S a b p q y)
    unfold Ans at *
    simp only [List.map_cons, List.map_nil, Tr.d, caseD] at *
    rw [run_at _ F__law_count f__law_count _ rfl rfl]
    generalize runN G Pg (m + 1) = r at *
    simp [f__law_count, evSs, evS, evE, evEs, evAs, asgT, hx, hy, hu, rd2, rd, rds, t4, t7, AV.apart, AV.slots, AV.sl, Qh.callEnd, AV.isB, putOuts, Qh.finish, outs, Sl.isOwn, cntL]
/-- the two counts are one -/
theorem cnt_eq (S : Sm) (a b : Int) (p q : Tv) (ha : 0 ≤ a ∧ (S.set = true → a ≤ 1)) (hb : 0 ≤ b ∧ (S.set = true → b ≤ 1)) : ∀ t : Tr, cntL S a b p q t = cnt S a b p q t ∧ 0 ≤ cnt S a b p q t ∧ (S.set = true → cnt S a b p q t ≤ 1)
  | .tab x => by cases x <;> simp only [cntL, cnt, if_true, Bool.false_eq_true, if_false, true_and] <;> assumption
  | .flt c t => by
    obtain ⟨h1, h2, h3⟩ := cnt_eq S a b p q ha hb t
    simp only [cntL, cnt, h1]
    split
    · exact ⟨by first | rfl | trivial, h2, h3⟩
    · exact ⟨by first | rfl | trivial, by omega, fun _ => by omega⟩
  | .uni x y => by
    obtain ⟨h1, h2, h3⟩ := cnt_eq S a b p q ha hb x
    obtain ⟨g1, g2, g3⟩ := cnt_eq S a b p q ha hb y
    simp only [cntL, cnt, h1, g1, true_and]
    unfold capI uniI mx mn
    refine ⟨?_, fun hs => ?_⟩
    · split <;> split <;> (try split) <;> omega
    · rw [if_pos hs]; split <;> (try split) <;> omega
  | .inn x y => by
    obtain ⟨h1, h2, h3⟩ := cnt_eq S a b p q ha hb x
    obtain ⟨g1, g2, g3⟩ := cnt_eq S a b p q ha hb y
    simp only [cntL, cnt, h1, g1, true_and]
    unfold capI mn
    refine ⟨?_, fun hs => ?_⟩
    · split <;> split <;> (try split) <;> omega
    · rw [if_pos hs]; split <;> (try split) <;> omega
  | .dif x y => by
    obtain ⟨h1, h2, h3⟩ := cnt_eq S a b p q ha hb x
    obtain ⟨g1, g2, g3⟩ := cnt_eq S a b p q ha hb y
    simp only [cntL, cnt, h1, g1]
    generalize cnt S a b p q x = u at *
    generalize cnt S a b p q y = v at *
    have hm : mulB u v = if v > 0 then 0 else u := by
      unfold mulB
      by_cases hv : v = 0
      · subst hv; simp
      · rw [if_neg hv, if_pos (by omega)]; simp
    unfold lessL lessI capI
    rw [hm]
    cases hs : S.set <;> cases hk : S.kind <;> simp only [Bool.or_false, Bool.or_true, Bool.false_eq_true, if_false, if_true, hs, true_implies, false_implies, Bool.or_self, and_true] at *
    all_goals
      try unfold mx
      try unfold mn
      repeat' apply And.intro
      all_goals first | trivial | omega | (split <;> omega) | (split <;> split <;> omega)
end K01

namespace K01
open PySem PySem.Spec PyProof.Rows L2 Qh
/-! ### leaves, tuples, alike -/
theorem a_leaves : ∀ (t : Tr) (n : Nat), t.size ≤ n → Ans (runN G Pg n) F__law_leaves [t.d] (.int t.leaves) := by
  intro t
  induction t with
  | tab x =>
    intro n hn
    obtain ⟨m, rfl⟩ : ∃ m, n = m + 1 := ⟨n - 1, by simp only [Tr.size] at hn; omega⟩
    cases x <;> (unfold Ans; kernel_rfl)
  | flt c t ih =>
    intro n hn
    simp only [Tr.size] at hn
    obtain ⟨m, rfl⟩ : ∃ m, n = m + 1 := ⟨n - 1, by omega⟩
    have ha := ih m (by omega)
    unfold Ans at *
    simp only [List.map_cons, List.map_nil, Tr.d] at *
    rw [run_at _ F__law_leaves f__law_leaves _ rfl rfl]
    generalize runN G Pg m = r at *
    simp [f__law_leaves, evSs, evS, evE, evEs, evAs, ha, rd2, rd, t1, AV.apart, AV.slots, AV.sl, Qh.callEnd, AV.isB, putOuts, Qh.finish, outs, Sl.isOwn, Tr.leaves]
  | uni x y ihx ihy =>
    intro n hn
    simp only [Tr.size] at hn
    obtain ⟨m, rfl⟩ : ∃ m, n = m + 1 := ⟨n - 1, by omega⟩
    have hx := ihx m (by omega)
    have hy := ihy m (by omega)
    unfold Ans at *
    simp only [List.map_cons, List.map_nil, Tr.d] at *
    rw [run_at _ F__law_leaves f__law_leaves _ rfl rfl]
    generalize runN G Pg m = r at *
    simp [f__law_leaves, evSs, evS, evE, evEs, evAs, hx, hy, rd2, rd, t2, t5, AV.apart, AV.slots, AV.sl, Qh.callEnd, AV.isB, putOuts, Qh.finish, outs, Sl.isOwn, Tr.leaves, Int.add_comm]
  | inn x y ihx ihy =>
    intro n hn
    simp only [Tr.size] at hn
    obtain ⟨m, rfl⟩ : ∃ m, n = m + 1 := ⟨n - 1, by omega⟩
    have hx := ihx m (by omega)
    have hy := ihy m (by omega)
    unfold Ans at *
    simp only [List.map_cons, List.map_nil, Tr.d] at *
    rw [run_at _ F__law_leaves f__law_leaves _ rfl rfl]
    generalize runN G Pg m = r at *
    simp [f__law_leaves, evSs, evS, evE, evEs, evAs, hx, hy, rd2, rd, t3, t6, AV.apart, AV.slots, AV.sl, Qh.callEnd, AV.isB, putOuts, Qh.finish, outs, Sl.isOwn, Tr.leaves, Int.add_comm]
  | dif x y ihx ihy =>
    intro n hn
    simp only [Tr.size] at hn
    obtain ⟨m, rfl⟩ : ∃ m, n = m + 1 := ⟨n - 1, by omega⟩
    have hx := ihx m (by omega)
    have hy := ihy m (by omega)
    unfold Ans at *
    simp only [List.map_cons, List.map_nil, Tr.d] at *
    rw [run_at _ F__law_leaves f__law_leaves _ rfl rfl]
    generalize runN G Pg m = r at *
    simp [f__law_leaves, evSs, evS, evE, evEs, evAs, hx, hy, rd2, rd, t4, t7, AV.apart, AV.slots, AV.sl, Qh.callEnd, AV.isB, putOuts, Qh.finish, outs, Sl.isOwn, Tr.leaves, Int.add_comm]
def isT : D → Bool
  | .tup _ => true
  | _ => false
theorem isi_T (d : D) : ([Ty.tuple].any fun t => tyOf t d) = isT d := by cases d <;> rfl
theorem cd_T (c : Cd) : isT c.d = true := by cases c <;> rfl
theorem tr_T (t : Tr) : isT t.d = true := by cases t <;> rfl
theorem tup1 (k : Str) (x : D) (hx : isT x = true) (i : Int) (m : Nat) (h : Ans (runN G Pg m) F__law_tuples [x] (.int i)) : Ans (runN G Pg (m + 1)) F__law_tuples [.tup [.str k, x]] (.int (1 + i)) := by
  unfold Ans at *
  simp only [List.map_cons, List.map_nil] at *
  rw [run_at _ F__law_tuples f__law_tuples _ rfl rfl]
  generalize runN G Pg m = r at *
  obtain ⟨l, rfl⟩ : ∃ l, x = .tup l := by cases x <;> first | exact ⟨_, rfl⟩ | cases hx
  simp [f__law_tuples, evSs, evS, evE, evEs, evAs, evO, evT, evIt, asgT, h, sl_1, lcLoop, lcBody, noExc, wipeE, backE, tyOf, big, allInts, rd2, rd, rds, AV.apart, AV.slots, AV.sl, Qh.callEnd, AV.isB, putOuts, Qh.finish, outs, Sl.isOwn]
theorem tup2 (k : Str) (x y : D) (hx : isT x = true) (hy : isT y = true) (i j : Int) (m : Nat) (h : Ans (runN G Pg m) F__law_tuples [x] (.int i)) (h' : Ans (runN G Pg m) F__law_tuples [y] (.int j)) : Ans (runN G Pg (m + 1)) F__law_tuples [.tup [.str k, x, y]] (.int (1 + (i + j))) := by
  unfold Ans at *
  simp only [List.map_cons, List.map_nil] at *
  rw [run_at _ F__law_tuples f__law_tuples _ rfl rfl]
  generalize runN G Pg m = r at *
  obtain ⟨l, rfl⟩ : ∃ l, x = .tup l := by cases x <;> first | exact ⟨_, rfl⟩ | cases hx
  obtain ⟨l', rfl⟩ : ∃ l, y = .tup l := by cases y <;> first | exact ⟨_, rfl⟩ | cases hy
  simp [f__law_tuples, evSs, evS, evE, evEs, evAs, evO, evT, evIt, asgT, h, h', sl_1, lcLoop, lcBody, noExc, wipeE, backE, tyOf, big, allInts, rd2, rd, rds, AV.apart, AV.slots, AV.sl, Qh.callEnd, AV.isB, putOuts, Qh.finish, outs, Sl.isOwn]
theorem a_ctuples : ∀ (c : Cd) (n : Nat), c.size ≤ n → Ans (runN G Pg n) F__law_tuples [c.d] (.int c.size)
  | .p, n, hn => by
    obtain ⟨m, rfl⟩ : ∃ m, n = m + 1 := ⟨n - 1, by simp only [Cd.size] at hn; omega⟩
    unfold Ans; kernel_rfl
  | .q, n, hn => by
    obtain ⟨m, rfl⟩ : ∃ m, n = m + 1 := ⟨n - 1, by simp only [Cd.size] at hn; omega⟩
    unfold Ans; kernel_rfl
  | .not a, n, hn => by
    simp only [Cd.size] at hn
    obtain ⟨m, rfl⟩ : ∃ m, n = m + 1 := ⟨n - 1, by omega⟩
    have h := tup1 "not" a.d (cd_T a) a.size m (a_ctuples a m (by omega))
    have e : (1 + (a.size : Int)) = ((Cd.not a).size : Nat) := by simp only [Cd.size]; omega
    rw [e] at h
    exact h
  | .and a b, n, hn => by
    simp only [Cd.size] at hn
    obtain ⟨m, rfl⟩ : ∃ m, n = m + 1 := ⟨n - 1, by omega⟩
    have h := tup2 "and" a.d b.d (cd_T a) (cd_T b) a.size b.size m (a_ctuples a m (by omega)) (a_ctuples b m (by omega))
    have e : (1 + ((a.size : Int) + b.size)) = ((Cd.and a b).size : Nat) := by simp only [Cd.size]; omega
    rw [e] at h
    exact h
  | .or a b, n, hn => by
    simp only [Cd.size] at hn
    obtain ⟨m, rfl⟩ : ∃ m, n = m + 1 := ⟨n - 1, by omega⟩
    have h := tup2 "or" a.d b.d (cd_T a) (cd_T b) a.size b.size m (a_ctuples a m (by omega)) (a_ctuples b m (by omega))
    have e : (1 + ((a.size : Int) + b.size)) = ((Cd.or a b).size : Nat) := by simp only [Cd.size]; omega
    rw [e] at h
    exact h
theorem a_ttuples : ∀ (t : Tr) (n : Nat), t.size ≤ n → Ans (runN G Pg n) F__law_tuples [t.d] (.int t.size)
  | .tab b, n, hn => by
    obtain ⟨m, rfl⟩ : ∃ m, n = m + 1 := ⟨n - 1, by simp only [Tr.size] at hn; omega⟩
    cases b <;> (unfold Ans; kernel_rfl)
  | .flt a b, n, hn => by
    simp only [Tr.size] at hn
    obtain ⟨m, rfl⟩ : ∃ m, n = m + 1 := ⟨n - 1, by omega⟩
    have h := tup2 "filter" a.d b.d (cd_T a) (tr_T b) a.size b.size m (a_ctuples a m (by omega)) (a_ttuples b m (by omega))
    have e : (1 + ((a.size : Int) + b.size)) = ((Tr.flt a b).size : Nat) := by simp only [Tr.size]; omega
    rw [e] at h
    exact h
  | .uni a b, n, hn => by
    simp only [Tr.size] at hn
    obtain ⟨m, rfl⟩ : ∃ m, n = m + 1 := ⟨n - 1, by omega⟩
    have h := tup2 "union" a.d b.d (tr_T a) (tr_T b) a.size b.size m (a_ttuples a m (by omega)) (a_ttuples b m (by omega))
    have e : (1 + ((a.size : Int) + b.size)) = ((Tr.uni a b).size : Nat) := by simp only [Tr.size]; omega
    rw [e] at h
    exact h
  | .inn a b, n, hn => by
    simp only [Tr.size] at hn
    obtain ⟨m, rfl⟩ : ∃ m, n = m + 1 := ⟨n - 1, by omega⟩
    have h := tup2 "intersection" a.d b.d (tr_T a) (tr_T b) a.size b.size m (a_ttuples a m (by omega)) (a_ttuples b m (by omega))
    have e : (1 + ((a.size : Int) + b.size)) = ((Tr.inn a b).size : Nat) := by simp only [Tr.size]; omega
    rw [e] at h
    exact h
  | .dif a b, n, hn => by
    simp only [Tr.size] at hn
    obtain ⟨m, rfl⟩ : ∃ m, n = m + 1 := ⟨n - 1, by omega⟩
    have h := tup2 "difference" a.d b.d (tr_T a) (tr_T b) a.size b.size m (a_ttuples a m (by omega)) (a_ttuples b m (by omega))
    have e : (1 + ((a.size : Int) + b.size)) = ((Tr.dif a b).size : Nat) := by simp only [Tr.size]; omega
    rw [e] at h
    exact h
/-! ### alike -/
theorem eqB (a b : Bool) : D.eq (.bl a) (.bl b) = (a == b) := by
  show PyData.eqv (.bool a) (.bool b) = _
  simp only [PyData.eqv]
@[simp] theorem cmp_eqB (a b : Bool) : opCmp .eq (.bl a) (.bl b) = some (a == b) := by
  show (if eqOk (.bl a) (.bl b) then some (D.eq (.bl a) (.bl b)) else none) = _
  rw [eqB]
  rfl
@[simp] theorem cmp_neB (a b : Bool) : opCmp .ne (.bl a) (.bl b) = some (!(a == b)) := by
  show (if eqOk (.bl a) (.bl b) then some (!D.eq (.bl a) (.bl b)) else none) = _
  rw [eqB]
  rfl
theorem is_iN (i : Int) : opCmp .is (.int i) .non = some false := rfl
theorem al_int (n : Nat) (i : Int) : Ans (runN G Pg (n + 1)) F__law_alike [.int i, .int i] (.bl true) := by
  unfold Ans
  simp only [List.map_cons, List.map_nil]
  rw [run_at _ F__law_alike f__law_alike _ rfl rfl]
  generalize runN G Pg n = r at *
  simp [f__law_alike, evSs, evS, evE, evEs, evAs, is_iN, tyOf, rd2, rd, rds, Qh.finish, outs, Sl.isOwn]
theorem al_tv (n : Nat) (v : Tv) : Ans (runN G Pg (n + 1)) F__law_alike [tv v, tv v] (.bl true) := by
  rcases v with _ | (_ | _) <;> (unfold Ans; kernel_rfl)
theorem eq_nil : opCmp .eq (.lst []) (.lst []) = some true := by kernel_rfl
theorem al_case (n : Nat) (a b : Int) (p q : Tv) : Ans (runN G Pg (n + 2)) F__law_alike [caseD a b p q, caseD a b p q] (.bl true) := by
  have h1 := al_int n a
  have h2 := al_int n b
  have h3 := al_tv n p
  have h4 := al_tv n q
  unfold Ans at *
  simp only [List.map_cons, List.map_nil, caseD] at *
  rw [run_at _ F__law_alike f__law_alike _ rfl rfl]
  generalize runN G Pg (n + 1) = r at *
  simp [f__law_alike, evSs, evS, evE, evEs, evAs, evIt, evT, asgT, h1, h2, h3, h4, eq_nil, rangeD, List.range, List.range.loop, lcLoop, lcBody, noExc, wipeE, backE, big, tyOf, rd2, rd, rds, AV.apart, AV.slots, AV.sl, Qh.callEnd, AV.isB, putOuts, Qh.finish, outs, Sl.isOwn]
end K01

namespace K01
open PySem PySem.Spec PyProof.Rows L2 Qh
/-! ### what is drawn -/
theorem a_semantics (n : Nat) (l : List D) (hl : Rw l) : ∃ (S : Sm) (l' : List D), Rw l' ∧ Dr (n + 3) F__law_semantics l [] S.d l' := by
  obtain ⟨d1, l1, r1, m1, h1⟩ := a_pick n l hl [.str "bag", .str "bag", .str "set"] (by simp) (by simp)
  obtain ⟨d2, l2, r2, m2, h2⟩ := a_pick n l1 r1 [.str "maximum", .str "sum"] (by simp) (by simp)
  obtain ⟨d3, l3, r3, m3, h3⟩ := a_pick n l2 r2 [.str "count", .str "kind"] (by simp) (by simp)
  obtain ⟨d4, l4, r4, m4, h4⟩ := a_pick n l3 r3 [.str "none", .str "unknown", .str "unknown", .str "value"] (by simp) (by simp)
  obtain ⟨d5, l5, r5, m5, h5⟩ := a_pick n l4 r4 [.str "null", .str "zero"] (by simp) (by simp)
  have e1 : ∃ b : Bool, d1 = .str (if b then "set" else "bag") := by
    simp only [List.mem_cons, List.not_mem_nil, or_false] at m1
    rcases m1 with h | h | h
    · exact ⟨false, h⟩
    · exact ⟨false, h⟩
    · exact ⟨true, h⟩
  have e2 : ∃ b : Bool, d2 = .str (if b then "sum" else "maximum") := by
    simp only [List.mem_cons, List.not_mem_nil, or_false] at m2
    rcases m2 with h | h
    · exact ⟨false, h⟩
    · exact ⟨true, h⟩
  have e3 : ∃ b : Bool, d3 = .str (if b then "kind" else "count") := by
    simp only [List.mem_cons, List.not_mem_nil, or_false] at m3
    rcases m3 with h | h
    · exact ⟨false, h⟩
    · exact ⟨true, h⟩
  have e4 : ∃ c : Fin 3, d4 = .str (if c = 0 then "none" else if c = 1 then "unknown" else "value") := by
    simp only [List.mem_cons, List.not_mem_nil, or_false] at m4
    rcases m4 with h | h | h | h
    · exact ⟨0, h⟩
    · exact ⟨1, h⟩
    · exact ⟨1, h⟩
    · exact ⟨2, h⟩
  have e5 : ∃ b : Bool, d5 = .str (if b then "zero" else "null") := by
    simp only [List.mem_cons, List.not_mem_nil, or_false] at m5
    rcases m5 with h | h
    · exact ⟨false, h⟩
    · exact ⟨true, h⟩
  obtain ⟨b1, rfl⟩ := e1
  obtain ⟨b2, rfl⟩ := e2
  obtain ⟨b3, rfl⟩ := e3
  obtain ⟨b4, rfl⟩ := e4
  obtain ⟨b5, rfl⟩ := e5
  refine ⟨⟨b1, b2, b3, b4, b5⟩, l5, r5, ?_⟩
  unfold Dr at *
  simp only [List.map_cons, List.map_nil, Sm.d] at *
  rw [run_at _ F__law_semantics f__law_semantics _ rfl rfl]
  generalize runN G Pg (n + 2) = r at *
  simp [f__law_semantics, evSs, evS, evPs, evE, evEs, evAs, asgPs, h1, h2, h3, h4, h5, big, AV.apart, AV.slots, AV.sl, Qh.callEnd, AV.isB, putOuts, rd2, rd, rds, Qh.finish, outs, Sl.isOwn]
theorem mul_33 (b : Bool) : opBin .mul (.int 3) (.int (if b = true then 1 else 0)) = some (.int (if b = true then 3 else 0)) := by cases b <;> rfl
theorem a_cond0 (n : Nat) (l : List D) (hl : Rw l) : ∃ (c : Cd) (l' : List D), Rw l' ∧ c.size = 1 ∧ Dr (n + 3) F__law_condition l [.int 0] c.d l' := by
  obtain ⟨x, l1, r1, hx0, hx1, h1⟩ := a_taken (n + 1) l hl 3 (by decide) (by decide)
  obtain ⟨d, l2, r2, m2, h2⟩ := a_pick n l1 r1 [.tup [.str "p"], .tup [.str "p"], .tup [.str "q"]] (by simp) (by simp)
  have e : ∃ c : Cd, c.size = 1 ∧ d = c.d := by
    simp only [List.mem_cons, List.not_mem_nil, or_false] at m2
    rcases m2 with h | h | h
    · exact ⟨.p, rfl, h⟩
    · exact ⟨.p, rfl, h⟩
    · exact ⟨.q, rfl, h⟩
  obtain ⟨c, hc, rfl⟩ := e
  refine ⟨c, l2, r2, hc, ?_⟩
  unfold Dr at *
  simp only [List.map_cons, List.map_nil] at *
  rw [run_at _ F__law_condition f__law_condition _ rfl rfl]
  generalize runN G Pg (n + 2) = r at *
  have hm : opBin .mul (.int 3) (.int 0) = some (.int 0) := rfl
  simp [f__law_condition, evSs, evS, evE, evEs, evAs, asgT, h1, h2, hm, hx1, big, AV.apart, AV.slots, AV.sl, Qh.callEnd, AV.isB, putOuts, rd2, rd, rds, Qh.finish, outs, Sl.isOwn]
theorem a_cond1 (n : Nat) (l : List D) (hl : Rw l) : ∃ (c : Cd) (l' : List D), Rw l' ∧ c.size ≤ 3 ∧ Dr (n + 4) F__law_condition l [.int 1] c.d l' := by
  obtain ⟨x, l1, r1, hx0, hx1, h1⟩ := a_taken (n + 2) l hl 6 (by decide) (by decide)
  have hm : opBin .mul (.int 3) (.int 1) = some (.int 3) := rfl
  by_cases hx : x < 3
  · obtain ⟨d, l2, r2, m2, h2⟩ := a_pick (n + 1) l1 r1 [.tup [.str "p"], .tup [.str "p"], .tup [.str "q"]] (by simp) (by simp)
    have e : ∃ c : Cd, c.size = 1 ∧ d = c.d := by
      simp only [List.mem_cons, List.not_mem_nil, or_false] at m2
      rcases m2 with h | h | h
      · exact ⟨.p, rfl, h⟩
      · exact ⟨.p, rfl, h⟩
      · exact ⟨.q, rfl, h⟩
    obtain ⟨c, hc, rfl⟩ := e
    refine ⟨c, l2, r2, by omega, ?_⟩
    unfold Dr at *
    simp only [List.map_cons, List.map_nil] at *
    rw [run_at _ F__law_condition f__law_condition _ rfl rfl]
    generalize runN G Pg (n + 3) = r at *
    simp [f__law_condition, evSs, evS, evE, evEs, evAs, asgT, h1, h2, hm, hx, big, AV.apart, AV.slots, AV.sl, Qh.callEnd, AV.isB, putOuts, rd2, rd, rds, Qh.finish, outs, Sl.isOwn]
  · by_cases hx3 : x = 3
    · subst hx3
      obtain ⟨c, l2, r2, hc, h2⟩ := a_cond0 n l1 r1
      refine ⟨.not c, l2, r2, by simp only [Cd.size]; omega, ?_⟩
      unfold Dr at *
      simp only [List.map_cons, List.map_nil, Cd.d] at *
      rw [run_at _ F__law_condition f__law_condition _ rfl rfl]
      generalize runN G Pg (n + 3) = r at *
      simp [f__law_condition, evSs, evS, evE, evEs, evAs, asgT, h1, h2, hm, big, AV.apart, AV.slots, AV.sl, Qh.callEnd, AV.isB, putOuts, rd2, rd, rds, Qh.finish, outs, Sl.isOwn]
    · obtain ⟨d, l2, r2, m2, h2⟩ := a_pick (n + 1) l1 r1 [.str "and", .str "or"] (by simp) (by simp)
      obtain ⟨c, l3, r3, hc, h3⟩ := a_cond0 n l2 r2
      obtain ⟨c', l4, r4, hc', h4⟩ := a_cond0 n l3 r3
      have e : ∃ k : Cd, k.size = 3 ∧ .tup [d, c.d, c'.d] = k.d := by
        simp only [List.mem_cons, List.not_mem_nil, or_false] at m2
        rcases m2 with h | h
        · exact ⟨.and c c', by simp only [Cd.size]; omega, by rw [h]; rfl⟩
        · exact ⟨.or c c', by simp only [Cd.size]; omega, by rw [h]; rfl⟩
      obtain ⟨k, hk, he⟩ := e
      refine ⟨k, l4, r4, by omega, ?_⟩
      rw [← he]
      unfold Dr at *
      simp only [List.map_cons, List.map_nil] at *
      rw [run_at _ F__law_condition f__law_condition _ rfl rfl]
      generalize runN G Pg (n + 3) = r at *
      simp [f__law_condition, evSs, evS, evE, evEs, evAs, asgT, h1, h2, h3, h4, hm, hx, hx3, big, AV.apart, AV.slots, AV.sl, Qh.callEnd, AV.isB, putOuts, rd2, rd, rds, Qh.finish, outs, Sl.isOwn]
theorem bi_of (x : Int) (h0 : 0 ≤ x) (h1 : x < 2) : ∃ b, D.int x = .int (bi b) := by
  by_cases h : x = 0
  · exact ⟨false, by rw [h]; rfl⟩
  · exact ⟨true, by rw [show x = 1 by omega]; rfl⟩
/-- a leaf is drawn -/
theorem leaf_end (r : Qh.Run) (l : List D) (env2 : List Sl) : True := trivial
theorem a_expr : ∀ (k : Nat) (n : Nat) (l : List D), Rw l → 1 ≤ k → k ≤ 4 → k + 4 ≤ n → ∃ (t : Tr) (l' : List D), Rw l' ∧ t.leaves ≤ k ∧ t.size + 5 ≤ 10 * k ∧ Dr n F__law_expression l [.int k] t.d l' := by
  intro k
  induction k using Nat.strongRecOn with
  | ind k ih =>
    intro n l hl hk hk4 hn
    obtain ⟨m, rfl⟩ : ∃ m, n = m + 5 := ⟨n - 5, by omega⟩
    -- the leaf, from a row
    have leaf : ∀ l0 : List D, Rw l0 → ∃ (t : Tr) (l' : List D), Rw l' ∧ t.leaves = 1 ∧ t.size ≤ 5 ∧ ∀ z e, evE G (runN G Pg (m + 4)) (.ife (.cmp .gt (.call F__law_taken (.io 0 (.val (.cst (.int 3)) .nil))) (.cst (.int 0))) (.tup (.cons (.cst (.str "table")) (.cons (.call F__law_taken (.io 0 (.val (.cst (.int 2)) .nil))) .nil))) (.tup (.cons (.cst (.str "filter")) (.cons (.call F__law_condition (.io 0 (.val (.cst (.int 1)) .nil))) (.cons (.tup (.cons (.cst (.str "table")) (.cons (.call F__law_taken (.io 0 (.val (.cst (.int 2)) .nil))) .nil))) .nil))))) (.own (.lst l0) :: z :: e) = .ok t.d (.own (.lst l') :: z :: e) := by
      intro l0 hl0
      obtain ⟨x, l1, r1, hx0, hx1, h1⟩ := a_taken (m + 3) l0 hl0 3 (by decide) (by decide)
      by_cases hx : 0 < x
      · obtain ⟨y, l2, r2, hy0, hy1, h2⟩ := a_taken (m + 3) l1 r1 2 (by decide) (by decide)
        obtain ⟨b, hb⟩ := bi_of y hy0 hy1
        refine ⟨.tab b, l2, r2, rfl, by simp only [Tr.size]; omega, fun z e => ?_⟩
        unfold Dr at *
        rw [hb] at h2
        simp only [List.map_cons, List.map_nil, Tr.d] at *
        generalize runN G Pg (m + 4) = r at *
        simp [evE, evEs, evAs, h1, h2, hx, big, AV.apart, AV.slots, AV.sl, Qh.callEnd, AV.isB, putOuts, rd2, rd, rds]
      · obtain ⟨c, l2, r2, hc, h2⟩ := a_cond1 m l1 r1
        obtain ⟨y, l3, r3, hy0, hy1, h3⟩ := a_taken (m + 3) l2 r2 2 (by decide) (by decide)
        obtain ⟨b, hb⟩ := bi_of y hy0 hy1
        refine ⟨.flt c (.tab b), l3, r3, rfl, by simp only [Tr.size]; omega, fun z e => ?_⟩
        unfold Dr at *
        rw [hb] at h3
        simp only [List.map_cons, List.map_nil, Tr.d] at *
        generalize runN G Pg (m + 4) = r at *
        simp [evE, evEs, evAs, h1, h2, h3, hx, big, AV.apart, AV.slots, AV.sl, Qh.callEnd, AV.isB, putOuts, rd2, rd, rds]
    have fin : ∀ (t : Tr) (l' : List D) (rest : En), Qh.finish [.own (.lst l), .dat (.int k)] (.ret t.d (.own (.lst l') :: .dat (.int k) :: rest)) = .ok t.d [.own (.lst l'), .dat (.int k)] := by
      intro t l' rest
      simp [Qh.finish, outs, Sl.isOwn]
    by_cases h2k : k < 2
    · obtain ⟨t, l', r', ht, hs, he⟩ := leaf l hl
      refine ⟨t, l', r', by omega, by omega, ?_⟩
      have hk2 : decide ((k : Int) < 2) = true := decide_eq_true (by omega)
      unfold Dr
      simp only [List.map_cons, List.map_nil]
      rw [run_at _ F__law_expression f__law_expression _ rfl rfl]
      generalize runN G Pg (m + 4) = r at *
      rw [show evSs G r f__law_expression.body ([.own (.lst l), .dat (.int k)] ++ List.replicate (f__law_expression.n - f__law_expression.ps) .non) = .ret t.d (.own (.lst l') :: .dat (.int k) :: [.non, .non, .non]) from
        ss_ite_tr (e1 := [.own (.lst l), .dat (.int k), .non, .non, .non]) (by simp [evE, rd2, rd, hk2]; rfl) (ss_ret (he _ _))]
      exact fin t l' _
    · have hk2 : decide ((k : Int) < 2) = false := decide_eq_false (by omega)
      obtain ⟨x, l1, r1, hx0, hx1, h1⟩ := a_taken (m + 3) l hl 7 (by decide) (by decide)
      by_cases hx : x = 0
      · subst hx
        obtain ⟨t, l', r', ht, hs, he⟩ := leaf l1 r1
        refine ⟨t, l', r', by omega, by omega, ?_⟩
        unfold Dr at *
        simp only [List.map_cons, List.map_nil] at *
        rw [run_at _ F__law_expression f__law_expression _ rfl rfl]
        generalize runN G Pg (m + 4) = r at *
        rw [show evSs G r f__law_expression.body ([.own (.lst l), .dat (.int k)] ++ List.replicate (f__law_expression.n - f__law_expression.ps) .non) = .ret t.d (.own (.lst l') :: .dat (.int k) :: [.non, .non, .non]) from
          ss_ite_tr (e1 := [.own (.lst l1), .dat (.int k), .non, .non, .non]) (by simp [evE, evAs, h1, rd2, rd, hk2, AV.apart, AV.slots, AV.sl, Qh.callEnd, AV.isB, putOuts]; rfl) (ss_ret (he _ _))]
        exact fin t l' _
      · obtain ⟨y, l2, r2, hy0, hy1, h2⟩ := a_taken (m + 3) l1 r1 (k - 1) (by omega) (by omega)
        obtain ⟨j, rfl⟩ : ∃ j : Nat, y = j := ⟨y.toNat, by omega⟩
        obtain ⟨d, l3, r3, m3, h3⟩ := a_pick (m + 2) l2 r2 [.str "union", .str "union", .str "intersection", .str "difference", .str "difference"] (by simp) (by simp)
        obtain ⟨t, l4, r4, ht, hst, h4⟩ := ih (1 + j) (by omega) (m + 4) l3 r3 (by omega) (by omega) (by omega)
        obtain ⟨u, l5, r5, hu, hsu, h5⟩ := ih (k - (1 + j)) (by omega) (m + 4) l4 r4 (by omega) (by omega) (by omega)
        have e : ∃ v : Tr, v.leaves = t.leaves + u.leaves ∧ v.size = 1 + t.size + u.size ∧ .tup [d, t.d, u.d] = v.d := by
          simp only [List.mem_cons, List.not_mem_nil, or_false] at m3
          rcases m3 with h | h | h | h | h
          · exact ⟨.uni t u, rfl, rfl, by rw [h]; rfl⟩
          · exact ⟨.uni t u, rfl, rfl, by rw [h]; rfl⟩
          · exact ⟨.inn t u, rfl, rfl, by rw [h]; rfl⟩
          · exact ⟨.dif t u, rfl, rfl, by rw [h]; rfl⟩
          · exact ⟨.dif t u, rfl, rfl, by rw [h]; rfl⟩
        obtain ⟨v, hv1, hv2, hv3⟩ := e
        obtain ⟨z, l6, r6, hz0, hz1, h6⟩ := a_taken (m + 3) l5 r5 6 (by decide) (by decide)
        have c1 : ((1 + j : Nat) : Int) = 1 + (j : Int) := by omega
        have c2 : ((k - (1 + j) : Nat) : Int) = (k : Int) - (1 + (j : Int)) := by omega
        rw [c1] at h4
        rw [c2] at h5
        -- up to the last draw
        have go : ∀ r : Qh.Run, r = runN G Pg (m + 4) → evSs G r f__law_expression.body ([.own (.lst l), .dat (.int k)] ++ List.replicate (f__law_expression.n - f__law_expression.ps) .non) =
            evSs G r (.cons (.ret (.ife (.cmp .eq (.call F__law_taken (.io 0 (.val (.cst (.int 6)) .nil))) (.cst (.int 0))) (.tup (.cons (.cst (.str "filter")) (.cons (.call F__law_condition (.io 0 (.val (.cst (.int 1)) .nil))) (.cons (.var 4) .nil)))) (.var 4))) .nil) [.own (.lst l5), .dat (.int k), .dat (.int (1 + j)), .dat d, .dat v.d] := by
          intro r hr
          unfold Dr at h1 h2 h3 h4 h5
          simp only [List.map_cons, List.map_nil] at h1 h2 h3 h4 h5
          rw [← hr] at h1 h2 h3 h4 h5
          refine (ss_ite_fn (e1 := [.own (.lst l1), .dat (.int k), .non, .non, .non]) (by simp [evE, evAs, h1, hx, rd2, rd, hk2, AV.apart, AV.slots, AV.sl, Qh.callEnd, AV.isB, putOuts]; rfl)).trans ?_
          refine (ss_asg (d := .int (1 + j)) (e1 := [.own (.lst l2), .dat (.int k), .non, .non, .non]) (by simp [evE, evAs, h2, AV.apart, AV.slots, AV.sl, Qh.callEnd, AV.isB, putOuts]) rfl).trans ?_
          refine (ss_asg (d := d) (e1 := [.own (.lst l3), .dat (.int k), .dat (.int (1 + j)), .non, .non]) (by simp [evE, evEs, evAs, h3, big, AV.apart, AV.slots, AV.sl, Qh.callEnd, AV.isB, putOuts]) rfl).trans ?_
          refine (ss_asg (d := v.d) (e1 := [.own (.lst l5), .dat (.int k), .dat (.int (1 + j)), .dat d, .non]) (by simp [evE, evEs, evAs, h4, h5, ← hv3, big, AV.apart, AV.slots, AV.sl, Qh.callEnd, AV.isB, putOuts]) rfl).trans rfl
        by_cases hz : z = 0
        · subst hz
          obtain ⟨c, l7, r7, hc, h7⟩ := a_cond1 m l6 r6
          refine ⟨.flt c v, l7, r7, by simp only [Tr.leaves]; omega, by simp only [Tr.size]; omega, ?_⟩
          unfold Dr at h6 h7 ⊢
          simp only [List.map_cons, List.map_nil] at h6 h7 ⊢
          rw [run_at _ F__law_expression f__law_expression _ rfl rfl, go _ rfl]
          generalize runN G Pg (m + 4) = r at *
          rw [ss_ret (d := (Tr.flt c v).d) (e1 := [.own (.lst l7), .dat (.int k), .dat (.int (1 + j)), .dat d, .dat v.d]) (by simp [evE, evEs, evAs, h6, h7, big, rd2, rd, Tr.d, AV.apart, AV.slots, AV.sl, Qh.callEnd, AV.isB, putOuts])]
          exact fin _ l7 _
        · refine ⟨v, l6, r6, by omega, by omega, ?_⟩
          unfold Dr at h6 ⊢
          simp only [List.map_cons, List.map_nil] at h6 ⊢
          rw [run_at _ F__law_expression f__law_expression _ rfl rfl, go _ rfl]
          generalize runN G Pg (m + 4) = r at *
          rw [ss_ret (d := v.d) (e1 := [.own (.lst l6), .dat (.int k), .dat (.int (1 + j)), .dat d, .dat v.d]) (by simp [evE, evEs, evAs, h6, hz, big, rd2, rd, AV.apart, AV.slots, AV.sl, Qh.callEnd, AV.isB, putOuts])]
          exact fin _ l6 _
end K01

namespace K01
open PySem PySem.Spec PyProof.Rows L2 Qh
theorem a_tree (k : Nat) (hk : 1 ≤ k) (hk4 : k ≤ 4) (n : Nat) (hn : 46 ≤ n) (l : List D) (hl : Rw l) : ∃ (t : Tr) (l' : List D), Rw l' ∧ t.leaves ≤ max k 2 ∧ t.size ≤ 12 ∧ Dr n F__law_tree l [.int k] t.d l' := by
  obtain ⟨m, rfl⟩ : ∃ m, n = m + 1 := ⟨n - 1, by omega⟩
  obtain ⟨t, l1, r1, ht, hs, h1⟩ := a_expr k m l hl hk hk4 (by omega)
  have h2 := a_ttuples t m (by omega)
  by_cases h13 : t.size < 13
  · refine ⟨t, l1, r1, by omega, by omega, ?_⟩
    have e : ((t.size : Int) < 13) = True := by simp; omega
    unfold Dr Ans at *
    simp only [List.map_cons, List.map_nil] at *
    rw [run_at _ F__law_tree f__law_tree _ rfl rfl]
    generalize runN G Pg m = r at *
    simp [f__law_tree, evSs, evS, evE, evEs, evAs, asgT, h1, h2, e, h13, big, AV.apart, AV.slots, AV.sl, Qh.callEnd, AV.isB, putOuts, rd2, rd, rds, Qh.finish, outs, Sl.isOwn]
  · refine ⟨.uni (.tab false) (.tab true), l1, r1, by simp only [Tr.leaves]; omega, by simp [Tr.size], ?_⟩
    have e : ((t.size : Int) < 13) = False := by simp; omega
    unfold Dr Ans at *
    simp only [List.map_cons, List.map_nil] at *
    rw [run_at _ F__law_tree f__law_tree _ rfl rfl]
    generalize runN G Pg m = r at *
    simp [f__law_tree, evSs, evS, evE, evEs, evAs, asgT, h1, h2, e, h13, big, AV.apart, AV.slots, AV.sl, Qh.callEnd, AV.isB, putOuts, rd2, rd, rds, Qh.finish, outs, Sl.isOwn, Tr.d, bi]
theorem add_ll (a b : List D) (h : a.length + b.length ≤ 100000) : opBin .add (.lst a) (.lst b) = some (.lst (a ++ b)) := by
  show (if a.length + b.length ≤ big then some (D.lst (a ++ b)) else none) = _
  rw [if_pos (show a.length + b.length ≤ big from h)]
abbrev tA : Tr := .tab false
abbrev tB : Tr := .tab true
def swaps (t u v : Tr) : List D := [
  .tup [(Tr.uni tA (.inn tA tB)).d, tA.d], .tup [(Tr.inn tA tB).d, (Tr.dif tA (.dif tA tB)).d],
  .tup [(Tr.dif (.uni tA tB) tB).d, (Tr.dif tA tB).d], .tup [(Tr.dif (.uni tA tB) tB).d, tA.d],
  .tup [(Tr.uni tA tB).d, (Tr.uni tB tA).d], .tup [(Tr.uni tA tA).d, tA.d], .tup [(Tr.dif tA (.uni tB tB)).d, (Tr.dif tA tB).d],
  .tup [(Tr.uni t tA).d, (Tr.uni tA t).d], .tup [(Tr.flt (.or .p (.not .p)) tA).d, tA.d], .tup [t.d, t.d],
  .tup [(Tr.flt (.not .p) tA).d, (Tr.dif tA (.flt .p tA)).d], .tup [(Tr.inn t t).d, t.d],
  .tup [(Tr.uni (.dif tA tB) (.inn tA tB)).d, tA.d], .tup [(Tr.inn t tB).d, (Tr.inn tB t).d],
  .tup [(Tr.uni (.uni tA tB) t).d, (Tr.uni tA (.uni tB t)).d], .tup [u.d, v.d]]
theorem a_twins (n : Nat) (hn : 50 ≤ n) (l : List D) (hl : Rw l) : ∃ (t u : Tr) (l' : List D), Rw l' ∧ t.ok ∧ u.ok ∧ Dr n F__law_twins l [] (.tup [t.d, u.d]) l' := by
  obtain ⟨m, rfl⟩ : ∃ m, n = m + 3 := ⟨n - 3, by omega⟩
  obtain ⟨t, l1, r1, ht, hs, h1⟩ := a_tree 3 (by decide) (by decide) (m + 2) (by omega) l hl
  obtain ⟨u, l2, r2, hu, hsu, h2⟩ := a_tree 4 (by decide) (by decide) (m + 2) (by omega) l1 r1
  obtain ⟨v, l3, r3, hv, hsv, h3⟩ := a_tree 4 (by decide) (by decide) (m + 2) (by omega) l2 r2
  have h1 : Dr (m + 2) F__law_tree l [.int 3] t.d l1 := h1
  have h2 : Dr (m + 2) F__law_tree l1 [.int 4] u.d l2 := h2
  have h3 : Dr (m + 2) F__law_tree l2 [.int 4] v.d l3 := h3
  obtain ⟨d, l4, r4, hm, h4⟩ := a_pick m l3 r3 (swaps t u v) (by simp [swaps]) (by simp [swaps])
  have hp : ∃ x y : Tr, x.ok ∧ y.ok ∧ d = .tup [x.d, y.d] := by
    unfold swaps at hm
    simp only [List.mem_cons, List.not_mem_nil, or_false] at hm
    rcases hm with h | h | h | h | h | h | h | h | h | h | h | h | h | h | h | h <;>
      exact ⟨_, _, by constructor <;> (try simp [Tr.leaves, Tr.size, Cd.size]) <;> omega, by constructor <;> (try simp [Tr.leaves, Tr.size, Cd.size]) <;> omega, h⟩
  obtain ⟨x, y, hx, hy, rfl⟩ := hp
  refine ⟨x, y, l4, r4, hx, hy, ?_⟩
  unfold Dr at *
  simp only [List.map_cons, List.map_nil] at *
  generalize e0 : D.tup [x.d, y.d] = d at *
  rw [run_at _ F__law_twins f__law_twins _ rfl rfl]
  generalize runN G Pg (m + 2) = r at *
  simp only [swaps, Tr.d, Cd.d, bi, if_true, Bool.false_eq_true, if_false] at h4
  simp [f__law_twins, evSs, evS, evPs, asgPs, evE, evEs, evAs, asgT, h1, h2, h3, h4, add_ll, big, AV.apart, AV.slots, AV.sl, Qh.callEnd, AV.isB, putOuts, rd2, rd, rds, Qh.finish, outs, Sl.isOwn]
end K01

namespace K01
open PySem PySem.Spec PyProof.Rows L2 Qh
/-! ### the law's own search -/
def gA (S : Sm) (m w : Int) : D → List D
  | .int a => if a ≤ m ∧ w - a ≤ m then blk S w a else []
  | _ => []
def gW (S : Sm) (m : Int) : D → List D
  | .int w => (rangeD 0 (w + 1).toNat).flatMap (gA S m w)
  | _ => []
def stepA (S : Sm) (t u : Tr) (m w : Int) (f : Option D) (x : D) : Option D := match x with
  | .int a => if f = none ∧ a ≤ m ∧ w - a ≤ m then (blk S w a).find? (testI S t u) else f
  | _ => f
instance (f : Option D) : Decidable (f = none) := match f with
  | none => isTrue rfl
  | some _ => isFalse (fun h => nomatch h)
def stepW (S : Sm) (t u : Tr) (m : Int) (f : Option D) (x : D) : Option D := match x with
  | .int w => (rangeD 0 (w + 1).toNat).foldl (fun f x => stepA S t u m w f x) f
  | _ => f
theorem stepA_or (S : Sm) (t u : Tr) (m w : Int) (f : Option D) (x : D) : stepA S t u m w f x = f.or ((gA S m w x).find? (testI S t u)) := by
  cases x <;> try (cases f <;> rfl)
  rename_i a
  simp only [stepA, gA]
  by_cases h : a ≤ m ∧ w - a ≤ m
  · rw [if_pos h]
    cases f with
    | none => rw [if_pos ⟨rfl, h⟩]; rfl
    | some y => rw [if_neg (fun z => nomatch z.1)]; rfl
  · rw [if_neg h]
    cases f with
    | none => rw [if_neg (fun z => h z.2)]; rfl
    | some y => rw [if_neg (fun z => nomatch z.1)]; rfl
theorem foldA (S : Sm) (t u : Tr) (m w : Int) : ∀ (xs : List D) (f : Option D), xs.foldl (fun f x => stepA S t u m w f x) f = f.or ((xs.flatMap (gA S m w)).find? (testI S t u))
  | [], f => by cases f <;> rfl
  | x :: xs, f => by
    rw [List.foldl_cons, foldA S t u m w xs, stepA_or, List.flatMap_cons, List.find?_append, Option.or_assoc]
theorem stepW_or (S : Sm) (t u : Tr) (m : Int) (f : Option D) (x : D) : stepW S t u m f x = f.or ((gW S m x).find? (testI S t u)) := by
  cases x <;> try (cases f <;> rfl)
  simp only [stepW, gW]
  exact foldA S t u m _ _ f
theorem foldW (S : Sm) (t u : Tr) (m : Int) : ∀ (xs : List D) (f : Option D), xs.foldl (fun f x => stepW S t u m f x) f = f.or ((xs.flatMap (gW S m)).find? (testI S t u))
  | [], f => by cases f <;> rfl
  | x :: xs, f => by
    rw [List.foldl_cons, foldW S t u m xs, stepW_or, List.flatMap_cons, List.find?_append, Option.or_assoc]
theorem flat_nil {α β : Type} {f : α → List β} {l : List α} (h : ∀ x ∈ l, f x = []) : l.flatMap f = [] := List.flatMap_eq_nil_iff.mpr h
theorem flat_congr {α β : Type} {f g : α → List β} : ∀ {l : List α}, (∀ x ∈ l, f x = g x) → l.flatMap f = l.flatMap g
  | [], _ => rfl
  | x :: l, h => by
    rw [List.flatMap_cons, List.flatMap_cons, h x List.mem_cons_self, flat_congr fun y hy => h y (List.mem_cons_of_mem _ hy)]
theorem gW_fW (S : Sm) (m k : Nat) (hk : k ≤ 2 * m) : gW S m (.int (0 + k)) = fW S m (.int (0 + k)) := by
  show (rangeD 0 ((0 + (k : Int)) + 1).toNat).flatMap (gA S m (0 + k)) = (rangeD (mx 0 ((0 + k : Int) - m)) (mn (0 + k) m + 1 - mx 0 ((0 + k : Int) - m)).toNat).flatMap (fA S (0 + k))
  have e1 : ((0 + (k : Int)) + 1).toNat = (k - m) + ((min k m + 1 - (k - m)) + (k + 1 - (min k m + 1))) := by omega
  have e2 : mx 0 ((0 + k : Int) - m) = ((k - m : Nat) : Int) := by unfold mx; split <;> omega
  have e3 : (mn (0 + k) m + 1 - mx 0 ((0 + k : Int) - m)).toNat = min k m + 1 - (k - m) := by rw [e2]; unfold mn; split <;> omega
  rw [e3, e2, rangeD_eq, rangeD_eq, e1, List.range_add, List.range_add]
  simp only [List.map_append, List.flatMap_append, List.map_map]
  rw [flat_nil (l := (List.range (k - m)).map _) (fun x hx => by
    obtain ⟨j, hj, rfl⟩ := List.mem_map.mp hx
    have := List.mem_range.mp hj
    simp only [gA]
    rw [if_neg (by omega)])]
  rw [flat_nil (l := (List.range (k + 1 - (min k m + 1))).map _) (fun x hx => by
    obtain ⟨j, hj, rfl⟩ := List.mem_map.mp hx
    have := List.mem_range.mp hj
    simp only [gA, Function.comp]
    rw [if_neg (by omega)])]
  rw [List.nil_append, List.append_nil, List.flatMap_map, List.flatMap_map]
  refine flat_congr fun j hj => ?_
  have := List.mem_range.mp hj
  simp only [gA, fA, Function.comp]
  rw [if_pos (by omega)]
  congr 1
  omega
theorem search_eq (S : Sm) (t u : Tr) (m : Nat) : (rangeD 0 (2 * (m : Int) + 1).toNat).foldl (fun f x => stepW S t u m f x) none = (casesL S m).find? (testI S t u) := by
  rw [foldW]
  show ((rangeD 0 (2 * (m : Int) + 1).toNat).flatMap (gW S m)).find? _ = _
  unfold casesL
  rw [flat_congr (g := fW S m) fun x hx => by
    obtain ⟨k, hk, rfl⟩ := rg_mem hx
    exact gW_fW S m k (by omega)]
end K01

namespace K01
open PySem PySem.Spec PyProof.Rows L2 Qh
/-! ### a turn -/
def prs (S : Sm) : List D := (truths S).flatMap fun p => (truths S).map fun q => .tup [tv p, tv q]
def cs (f : Option D) : Prop := ∀ x, f = some x → ∃ a b p q, x = caseD a b p q
/-- the slots of law in a turn -/
def ev17 (ns : List Int) (l : List D) (j2 : Sl) (m : Nat) (j4 j5 j6 : Sl) (S : Sm) (f : Option D) (j11 : Sl) (t u : Tr) (j14 : Sl) : En :=
  [.dat (.scr ns), .own (.lst l), j2, .dat (.int m), j4, j5, j6, .dat S.d, .dat (.lst ((truths S).map tv)), .dat (optD f), .dat (.lst (prs S)), j11, .dat t.d, .dat u.d, j14, .non, .non]
theorem is_opt (f : Option D) (h : cs f) : opCmp .is (optD f) .non = some (decide (f = none)) := by
  cases f with
  | none => rfl
  | some x =>
    obtain ⟨a, b, p, q, rfl⟩ := h x rfl
    rfl
theorem tv_dep (v : Tv) : (tv v).dep = some 0 := by rcases v with _ | b <;> rfl
theorem case_dep (a b : Int) (p q : Tv) : (caseD a b p q).dep = some 1 := by
  simp only [caseD, D.dep, D.deps, tv_dep]
  rfl
theorem deps_case : ∀ {L : List D}, (∀ x ∈ L, ∃ a b p q, x = caseD a b p q) → ∃ k, D.deps L = some k ∧ k ≤ 1
  | [], _ => ⟨0, rfl, by omega⟩
  | x :: L, h => by
    obtain ⟨a, b, p, q, rfl⟩ := h x List.mem_cons_self
    obtain ⟨k, hk, hk1⟩ := deps_case fun y hy => h y (List.mem_cons_of_mem _ hy)
    refine ⟨max 1 k, ?_, by omega⟩
    simp only [D.deps, case_dep, hk]
theorem ne_nil (L : List D) (h : ∀ x ∈ L, ∃ a b p q, x = caseD a b p q) : opCmp .ne (.lst L) (.lst []) = some (!L.isEmpty) := by
  obtain ⟨k, hk, hk1⟩ := deps_case h
  have e : eqOk (.lst L) (.lst []) = true := by
    unfold eqOk
    have e2 : D.dep (.lst []) = some 1 := rfl
    have e3 : D.dep (.lst L) = some (k + 1) := by simp only [D.dep, hk, Option.map_some]
    have e4 : k + 1 ≤ 40 := by omega
    rw [e2, e3]
    simp [e4]
  show (if eqOk (.lst L) (.lst []) then some (!D.eq (.lst L) (.lst [])) else none) = _
  rw [e]
  cases L with
  | nil => rfl
  | cons x L =>
    show some (!PyData.eqv (.list (x.py :: D.pys L)) (.list [])) = _
    simp [PyData.eqv, PyData.eqvAll]
theorem blk_case {S : Sm} {w a : Int} {x : D} (h : x ∈ blk S w a) : ∃ p q, x = caseD a (w - a) p q := by
  unfold blk at h
  obtain ⟨p, _, hx⟩ := List.mem_flatMap.mp h
  obtain ⟨q, _, rfl⟩ := List.mem_map.mp hx
  exact ⟨p, q, rfl⟩
theorem htr (S : Sm) : truths S = [some true, some false, none] ∨ truths S = [some true, some false] := by
  unfold truths
  split
  · exact .inl rfl
  · exact .inr rfl
abbrev bodyA : Ss := (.cons (.ite (.and (.cmp .is (.var 9) (.cst .non)) (.and (.cmp .le (.var 11) (.var 3)) (.cmp .le (.bin .sub (.var 5) (.var 11)) (.var 3)))) (.cons (.asg (.nm 14) (.lc [16] (.seq (.var 10)) (.nm 16) .none (.bin .add (.tup (.cons (.var 11) (.cons (.bin .sub (.var 5) (.var 11)) .nil))) (.var 16)))) (.cons (.asg (.nm 14) (.lc [6] (.seq (.var 14)) (.nm 6) (.some (.cmp .ne (.call F__law_count (.val (.var 7) (.val (.var 12) (.val (.var 6) .nil)))) (.call F__law_count (.val (.var 7) (.val (.var 13) (.val (.var 6) .nil)))))) (.var 6))) (.cons (.asg (.nm 9) (.ife (.cmp .ne (.var 14) (.lst .nil)) (.ix (.var 14) (.cst (.int 0))) (.cst .non))) .nil))) .nil) .nil)
abbrev bodyW : Ss := (.cons (.for (.rng1 (.bin .add (.var 5) (.cst (.int 1)))) (.nm 11) bodyA) .nil)
theorem optD_head (L : List D) : (match !L.isEmpty with | true => L.head?.getD .non | false => .non) = optD L.head? := by
  cases L <;> rfl
theorem inner_run (r : Qh.Run) (ns : List Int) (l : List D) (j2 : Sl) (S : Sm) (t u : Tr) (m : Nat) (hm : S.set = true → m ≤ 1) (j4 j6 : Sl) (hj6 : j6.isOwn = false)
    (hc : ∀ v : Tr, (v = t ∨ v = u) → ∀ a b p q, r F__law_count ([S.d, v.d, caseD a b p q].map .dat) = .ok (.int (cntL S a b p q v)) ([S.d, v.d, caseD a b p q].map .dat))
    (w : Nat) (a : Nat) (ha : a ≤ w) (f : Option D) (hf : cs f) (j11 j14 : Sl) (h11 : j11.isOwn = false) (h14 : j14.isOwn = false) :
    ∃ j14', j14'.isOwn = false ∧ cs (stepA S t u m w f (.int (0 + a))) ∧ evSs G r bodyA (ev17 ns l j2 m j4 (.dat (.int w)) j6 S f (.dat (.int (0 + a))) t u j14) = .nxt (ev17 ns l j2 m j4 (.dat (.int w)) j6 S (stepA S t u m w f (.int (0 + a))) (.dat (.int (0 + a))) t u j14') := by
  have hi := is_opt f hf
  have e0 : (0 + (a : Int)) = a := by omega
  rw [e0]
  by_cases hcond : f = none ∧ (a : Int) ≤ m ∧ (w : Int) - a ≤ m
  · obtain ⟨rfl, h1, h2⟩ := hcond
    have hstep : stepA S t u m w none (.int a) = (blk S w a).find? (testI S t u) := if_pos ⟨rfl, h1, h2⟩
    rw [hstep]
    have hblk : ∀ x ∈ blk S w a, ∃ a b p q, x = caseD a b p q := fun x hx => by
      obtain ⟨p, q, rfl⟩ := blk_case hx
      exact ⟨_, _, p, q, rfl⟩
    have hfl : ∀ x ∈ (blk S w a).filter (testI S t u), ∃ a b p q, x = caseD a b p q := fun x hx => hblk x (List.mem_filter.mp hx).1
    refine ⟨.dat (.lst ((blk S w a).filter (testI S t u))), rfl, fun x hx => hblk x (List.mem_of_find?_eq_some hx), ?_⟩
    have hn := ne_nil _ hfl
    rw [← List.head?_filter]
    generalize hL : (blk S w a).filter (testI S t u) = L at *
    refine (ss_ite_tn (e1 := ev17 ns l j2 m j4 (.dat (.int w)) j6 S none (.dat (.int a)) t u j14) ?_ (e2 := ev17 ns l j2 m j4 (.dat (.int w)) j6 S L.head? (.dat (.int a)) t u (.dat (.lst L))) ?_).trans rfl
    · have g1 : a ≤ m := by omega
      have g2 : decide ((w : Int) - a ≤ m) = true := decide_eq_true h2
      have hi' : opCmp .is .non .non = some true := rfl
      simp only [ev17, optD]
      simp [evE, rd2, rd, hi', g1, g2]
    · refine (ss_asg (d := .lst (blk S w a)) (e1 := ev17 ns l j2 m j4 (.dat (.int w)) j6 S none (.dat (.int a)) t u j14) ?_ (e2 := ev17 ns l j2 m j4 (.dat (.int w)) j6 S none (.dat (.int a)) t u (.dat (.lst (blk S w a)))) (asgT_nm (env := ev17 ns l j2 m j4 (.dat (.int w)) j6 S none (.dat (.int a)) t u j14) (i := 14) h14)).trans ?_
      · unfold ev17 prs blk caseD
        rcases htr S with h | h <;> rw [h] <;>
          simp [evE, evEs, evIt, evT, lcLoop, lcBody, wipeE, backE, noExc, asgT, Sl.isOwn, big, tv, opBin]
      · refine (ss_asg (d := .lst L) (e1 := ev17 ns l j2 m j4 (.dat (.int w)) j6 S none (.dat (.int a)) t u (.dat (.lst (blk S w a)))) ?_ (e2 := ev17 ns l j2 m j4 (.dat (.int w)) j6 S none (.dat (.int a)) t u (.dat (.lst L))) rfl).trans ?_
        · rw [← hL]
          refine lc_filter (items := blk S w a) (test := testI S t u) ?_ hj6 (by simp [ev17]) (by have := blk_len S w a; unfold big; omega) fun x hx => ?_
          · simp [ev17, evIt, evE]
          · obtain ⟨p, q, rfl⟩ := blk_case hx
            have k1 := hc t (.inl rfl) a (w - a) p q
            have k2 := hc u (.inr rfl) a (w - a) p q
            simp only [List.map_cons, List.map_nil] at k1 k2
            have ba : 0 ≤ (a : Int) ∧ (S.set = true → (a : Int) ≤ 1) := ⟨by omega, fun hs => by have := hm hs; omega⟩
            have bb : 0 ≤ (w : Int) - a ∧ (S.set = true → (w : Int) - a ≤ 1) := ⟨by omega, fun hs => by have := hm hs; omega⟩
            rw [testI_case, ← (cnt_eq S a (w - a) p q ba bb t).1, ← (cnt_eq S a (w - a) p q ba bb u).1]
            simp [ev17, evE, evAs, k1, k2, rd2, rd, AV.apart, AV.slots, AV.sl, Qh.callEnd, AV.isB, putOuts]
        · refine (ss_asg (d := optD L.head?) (e1 := ev17 ns l j2 m j4 (.dat (.int w)) j6 S none (.dat (.int a)) t u (.dat (.lst L))) ?_ (e2 := ev17 ns l j2 m j4 (.dat (.int w)) j6 S L.head? (.dat (.int a)) t u (.dat (.lst L))) rfl).trans rfl
          cases L with
          | nil => simp [ev17, evE, evEs, rd2, rd, hn, big, optD]
          | cons x L => simp [ev17, evE, evEs, rd2, rd, hn, big, optD]
  · have hstep : stepA S t u m w f (.int a) = f := if_neg hcond
    rw [hstep]
    refine ⟨j14, h14, hf, ?_⟩
    refine (ss_ite_fn (e1 := ev17 ns l j2 m j4 (.dat (.int w)) j6 S f (.dat (.int a)) t u j14) ?_).trans rfl
    have g0 : opCmp .is (optD f) .non = some (decide (f = none)) := hi
    by_cases q1 : f = none
    · by_cases q2 : (a : Int) ≤ m
      · have q3 : decide ((w : Int) - a ≤ m) = false := decide_eq_false fun z => hcond ⟨q1, q2, z⟩
        have g1 : a ≤ m := by omega
        rw [decide_eq_true q1] at g0
        unfold ev17
        simp [evE, rd2, rd, g0, g1, q3]
      · have g1 : ¬ a ≤ m := by omega
        rw [decide_eq_true q1] at g0
        unfold ev17
        simp [evE, rd2, rd, g0, g1]
    · rw [decide_eq_false q1] at g0
      unfold ev17
      simp [evE, rd2, rd, g0]
end K01

namespace K01
open PySem PySem.Spec PyProof.Rows L2 Qh
theorem outer_run (r : Qh.Run) (ns : List Int) (l : List D) (j2 : Sl) (S : Sm) (t u : Tr) (m : Nat) (hm : S.set = true → m ≤ 1) (hm18 : m ≤ 18) (j4 j6 : Sl) (hj6 : j6.isOwn = false)
    (hc : ∀ v : Tr, (v = t ∨ v = u) → ∀ a b p q, r F__law_count ([S.d, v.d, caseD a b p q].map .dat) = .ok (.int (cntL S a b p q v)) ([S.d, v.d, caseD a b p q].map .dat))
    (w : Nat) (hw : w ≤ 2 * m) (f : Option D) (hf : cs f) (j11 j14 : Sl) (h11 : j11.isOwn = false) (h14 : j14.isOwn = false) :
    ∃ j11' j14', j11'.isOwn = false ∧ j14'.isOwn = false ∧ cs (stepW S t u m f (.int (0 + w))) ∧ evSs G r bodyW (ev17 ns l j2 m j4 (.dat (.int (0 + w))) j6 S f j11 t u j14) = .nxt (ev17 ns l j2 m j4 (.dat (.int (0 + w))) j6 S (stepW S t u m f (.int (0 + w))) j11' t u j14') := by
  have e0 : (0 + (w : Int)) = w := by omega
  rw [e0]
  obtain ⟨j', ⟨v1, v2, v3⟩, hfs⟩ := forS_st (g := asgT (.nm 11)) (body := evSs G r bodyA) (St := Option D) (J := Sl × Sl) (fun f j => cs f ∧ j.1.isOwn = false ∧ j.2.isOwn = false) (fun f j => ev17 ns l j2 m j4 (.dat (.int w)) j6 S f j.1 t u j.2) (fun x f => stepA S t u m w f x)
    (rangeD 0 ((w : Int) + 1).toNat) f (j11, j14) ⟨hf, h11, h14⟩ (fun x hx s j hv => by
      obtain ⟨k, hk, rfl⟩ := rg_mem hx
      obtain ⟨j14', q1, q2, q3⟩ := inner_run r ns l j2 S t u m hm j4 j6 hj6 hc w k (by omega) s hv.1 j.1 j.2 hv.2.1 hv.2.2
      exact ⟨_, (.dat (.int (0 + k)), j14'), asgT_nm (env := ev17 ns l j2 m j4 (.dat (.int w)) j6 S s j.1 t u j.2) (i := 11) hv.2.1, ⟨q2, rfl, q1⟩, q3⟩)
  refine ⟨j'.1, j'.2, v2, v3, v1, ?_⟩
  rw [ss_for (it_rng1 (n := (w : Int) + 1) (env' := ev17 ns l j2 m j4 (.dat (.int w)) j6 S f j11 t u j14) (by simp [ev17, evE]) (by omega) (by omega)) hfs]
  rfl
theorem loops_run (r : Qh.Run) (ns : List Int) (l : List D) (j2 : Sl) (S : Sm) (t u : Tr) (m : Nat) (hm : S.set = true → m ≤ 1) (hm18 : m ≤ 18) (j4 j5 j6 : Sl) (hj5 : j5.isOwn = false) (hj6 : j6.isOwn = false)
    (hc : ∀ v : Tr, (v = t ∨ v = u) → ∀ a b p q, r F__law_count ([S.d, v.d, caseD a b p q].map .dat) = .ok (.int (cntL S a b p q v)) ([S.d, v.d, caseD a b p q].map .dat))
    (j11 j14 : Sl) (h11 : j11.isOwn = false) (h14 : j14.isOwn = false) (rest : Ss) :
    ∃ j5' j11' j14', j5'.isOwn = false ∧ j11'.isOwn = false ∧ j14'.isOwn = false ∧ evSs G r (.cons (.for (.rng1 (.bin .add (.bin .mul (.cst (.int 2)) (.var 3)) (.cst (.int 1)))) (.nm 5) bodyW) rest) (ev17 ns l j2 m j4 j5 j6 S none j11 t u j14) =
      evSs G r rest (ev17 ns l j2 m j4 j5' j6 S ((casesL S m).find? (testI S t u)) j11' t u j14') := by
  obtain ⟨j', ⟨v1, v2, v3, v4⟩, hfs⟩ := forS_st (g := asgT (.nm 5)) (body := evSs G r bodyW) (St := Option D) (J := Sl × Sl × Sl) (fun f j => cs f ∧ j.1.isOwn = false ∧ j.2.1.isOwn = false ∧ j.2.2.isOwn = false) (fun f j => ev17 ns l j2 m j4 j.1 j6 S f j.2.1 t u j.2.2) (fun x f => stepW S t u m f x)
    (rangeD 0 (2 * (m : Int) + 1).toNat) none (j5, j11, j14) ⟨(fun x h => by cases h), hj5, h11, h14⟩ (fun x hx s j hv => by
      obtain ⟨k, hk, rfl⟩ := rg_mem hx
      obtain ⟨j11', j14', q1, q2, q3, q4⟩ := outer_run r ns l j2 S t u m hm hm18 j4 j6 hj6 hc k (by omega) s hv.1 j.2.1 j.2.2 hv.2.2.1 hv.2.2.2
      exact ⟨_, (.dat (.int (0 + k)), j11', j14'), asgT_nm (env := ev17 ns l j2 m j4 j.1 j6 S s j.2.1 t u j.2.2) (i := 5) hv.2.1, ⟨q3, rfl, q1, q2⟩, q4⟩)
  rw [search_eq] at hfs
  refine ⟨j'.1, j'.2.1, j'.2.2, v2, v3, v4, ?_⟩
  have hmul : opBin .mul (.int 2) (.int (m : Int)) = some (.int (2 * (m : Int))) := by
    show (if cmul 2 (m : Int) then some (D.int (2 * (m : Int))) else none) = _
    rw [if_pos (by unfold cmul; simp)]
  rw [ss_for (it_rng1 (n := 2 * (m : Int) + 1) (env' := ev17 ns l j2 m j4 j5 j6 S none j11 t u j14) (by simp [ev17, evE, hmul]) (by omega) (by omega)) hfs]
theorem asgT_tp (gs : Tgs) (l : List D) (env : En) : asgT (.tp gs) (.tup l) env = asgTs gs l env := rfl
theorem asgTs_c (g : Tg) (gs : Tgs) (d : D) (ds : List D) (env e1 : En) (h : asgT g d env = some e1) : asgTs (.cons g gs) (d :: ds) env = asgTs gs ds e1 := by
  show (asgT g d env).bind _ = _
  rw [h]
  rfl
def fuel : Nat := 60
abbrev body7 : Ss := (.cons (.asg (.nm 6) (.tup (.cons (.call F__law_taken (.io 1 (.val (.bin .add (.var 3) (.cst (.int 1))) .nil))) (.cons (.call F__law_taken (.io 1 (.val (.bin .add (.var 3) (.cst (.int 1))) .nil))) (.cons (.call F__law_pick (.io 1 (.val (.var 8) .nil))) (.cons (.call F__law_pick (.io 1 (.val (.var 8) .nil))) .nil)))))) (.cons (.ite (.not (.call F__law_alike (.val (.call F_count_at (.val (.var 7) (.val (.var 12) (.val (.var 6) .nil)))) (.val (.call F__law_count (.val (.var 7) (.val (.var 12) (.val (.var 6) .nil)))) .nil)))) (.cons (.ret (.cst (.bl false))) .nil) .nil) .nil))
abbrev body6 : Ss := (.cons (.ite (.not (.call F__law_alike (.val (.call F_least_difference (.val (.var 7) (.val (.var 12) (.val (.var 13) .nil)))) (.val (.var 9) .nil)))) (.cons (.ret (.cst (.bl false))) .nil) .nil) body7)
abbrev body5 : Ss := (.cons (.for (.rng1 (.bin .add (.bin .mul (.cst (.int 2)) (.var 3)) (.cst (.int 1)))) (.nm 5) bodyW) body6)
abbrev body4 : Ss := (.cons (.for (.seq (.var 8)) (.nm 4) (.cons (.asg (.nm 10) (.bin .add (.var 10) (.lc [15] (.seq (.var 8)) (.nm 15) .none (.tup (.cons (.var 4) (.cons (.var 15) .nil)))))) .nil)) body5)
abbrev body3 : Ss := (.cons (.par [8, 9, 10] (.val (.bin .add (.lst (.cons (.cst (.bl true)) (.cons (.cst (.bl false)) .nil))) (.bin .mul (.lst (.cons (.cst .non) .nil)) (.bi .int (.cons (.cmp .eq (.ix (.var 7) (.cst (.int 3))) (.cst (.str "unknown"))) .nil)))) (.val (.cst .non) (.val (.lst .nil) .nil)))) body4)
abbrev body2 : Ss := (.cons (.asg (.nm 3) (.ife (.cmp .eq (.ix (.var 7) (.cst (.int 0))) (.cst (.str "set"))) (.cst (.int 1)) (.bin .mul (.cst (.int 3)) (.bi .max (.cons (.call F__law_leaves (.val (.var 12) .nil)) (.cons (.call F__law_leaves (.val (.var 13) .nil)) .nil)))))) body3)
abbrev body1 : Ss := (.cons (.asg (.tp (.cons (.nm 7) (.cons (.tp (.cons (.nm 12) (.cons (.nm 13) .nil))) .nil))) (.tup (.cons (.call F__law_semantics (.io 1 .nil)) (.cons (.call F__law_twins (.io 1 .nil)) .nil)))) body2)
theorem law_body : f_law.body = .cons (.own 1 (.cons (.var 0) (.cons (.cst (.int 0)) (.cons (.cst (.int 15321)) (.cons (.cst (.int 0)) .nil))))) (.cons (.for (.rng1 (.cst (.int 3))) (.nm 2) body1) (.cons (.ret (.cst (.bl true))) .nil)) := rfl
theorem al_opt (n : Nat) (f : Option D) (hf : cs f) : Ans (runN G Pg (n + 2)) F__law_alike [optD f, optD f] (.bl true) := by
  cases f with
  | none => exact al_tv (n + 1) none
  | some x =>
    obtain ⟨a, b, p, q, rfl⟩ := hf x rfl
    exact al_case n a b p q
theorem turn_end (k : Nat) (hk : 55 ≤ k) (ns : List Int) (l : List D) (hl : Rw l) (j2 : Sl) (S : Sm) (t u : Tr) (ht : t.ok) (hu : u.ok) (j4 j5 j6 j11 j14 : Sl) (h4 : j4.isOwn = false) (h5 : j5.isOwn = false) (h6 : j6.isOwn = false) (h11 : j11.isOwn = false) (h14 : j14.isOwn = false) :
    ∃ l' j5' j6' j11' j14', Rw l' ∧ j5'.isOwn = false ∧ j6'.isOwn = false ∧ j11'.isOwn = false ∧ j14'.isOwn = false ∧
      evSs G (runN G Pg k) body5 (ev17 ns l j2 (most S t u) j4 j5 j6 S none j11 t u j14) = .nxt (ev17 ns l' j2 (most S t u) j4 j5' j6' S ((casesL S (most S t u)).find? (testI S t u)) j11' t u j14') := by
  obtain ⟨n, rfl⟩ : ∃ n, k = n + 2 := ⟨k - 2, by omega⟩
  have hm18 : most S t u ≤ 18 := by
    have := ht.1
    have := hu.1
    unfold most
    split <;> omega
  have hm1 : S.set = true → most S t u ≤ 1 := fun hs => by unfold most; rw [if_pos hs]; omega
  have hcount : ∀ v : Tr, (v = t ∨ v = u) → ∀ a b p q, Ans (runN G Pg (n + 2)) F__law_count [S.d, v.d, caseD a b p q] (.int (cntL S a b p q v)) := fun v hv a b p q => a_lcount S a b p q v (n + 2) (by
    have := ht.2
    have := hu.2
    rcases hv with rfl | rfl <;> omega)
  obtain ⟨j5', j11', j14', q5, q11, q14, hrun⟩ := loops_run (runN G Pg (n + 2)) ns l j2 S t u (most S t u) hm1 hm18 j4 j5 j6 h5 h6 hcount j11 j14 h11 h14 body6
  have hfin : cs ((casesL S (most S t u)).find? (testI S t u)) := fun x hx => case_mem (List.mem_of_find?_eq_some hx)
  have hleast := a_least S t u ht hu (n + 2) (by omega)
  have halike := al_opt n _ hfin
  obtain ⟨x, l1, r1, hx0, hx1, d1⟩ := a_taken (n + 1) l hl ((most S t u : Nat) + 1) (by omega) (by omega)
  obtain ⟨y, l2, r2, hy0, hy1, d2⟩ := a_taken (n + 1) l1 r1 ((most S t u : Nat) + 1) (by omega) (by omega)
  have hlen : 0 < ((truths S).map tv).length ∧ ((truths S).map tv).length < 1000 := by
    rcases htr S with h | h <;> rw [h] <;> simp
  obtain ⟨dp, l3, r3, mp, d3⟩ := a_pick n l2 r2 ((truths S).map tv) hlen.1 hlen.2
  obtain ⟨dq, l4, r4, mq, d4⟩ := a_pick n l3 r3 ((truths S).map tv) hlen.1 hlen.2
  obtain ⟨p, hp, rfl⟩ := List.mem_map.mp mp
  obtain ⟨q, hq, rfl⟩ := List.mem_map.mp mq
  have bx : 0 ≤ x ∧ x ≤ (if S.set then 1 else 99) := ⟨hx0, by
    cases hs : S.set
    · simp; omega
    · have := hm1 hs; simp; omega⟩
  have byy : 0 ≤ y ∧ y ≤ (if S.set then 1 else 99) := ⟨hy0, by
    cases hs : S.set
    · simp; omega
    · have := hm1 hs; simp; omega⟩
  have hat := a_count_at S t ht x y p q bx byy hp hq (n + 2) (by omega)
  have hlc := hcount t (.inl rfl) x y p q
  have hce := (cnt_eq S x y p q ⟨hx0, fun hs => by have := hm1 hs; omega⟩ ⟨hy0, fun hs => by have := hm1 hs; omega⟩ t).1
  rw [hce] at hlc
  have hal2 := al_int (n + 1) (cnt S x y p q t)
  refine ⟨l4, j5', .dat (caseD x y p q), j11', j14', r4, q5, rfl, q11, q14, ?_⟩
  rw [hrun]
  clear hrun hcount
  unfold firstD at hleast
  generalize (casesL S (most S t u)).find? (testI S t u) = f at *
  unfold Ans Dr at *
  simp only [List.map_cons, List.map_nil] at *
  generalize runN G Pg (n + 2) = r at *
  refine (ss_ite_fn (e1 := ev17 ns l j2 (most S t u) j4 j5' j6 S f j11' t u j14') ?_).trans ?_
  · simp [ev17, evE, evAs, hleast, halike, AV.apart, AV.slots, AV.sl, Qh.callEnd, AV.isB, putOuts]
  · refine (ss_asg (d := caseD x y p q) (e1 := ev17 ns l4 j2 (most S t u) j4 j5' j6 S f j11' t u j14') ?_ (e2 := ev17 ns l4 j2 (most S t u) j4 j5' (.dat (caseD x y p q)) S f j11' t u j14') (asgT_nm (env := ev17 ns l4 j2 (most S t u) j4 j5' j6 S f j11' t u j14') (i := 6) h6)).trans ?_
    · simp [ev17, evE, evEs, evAs, d1, d2, d3, d4, big, caseD, AV.apart, AV.slots, AV.sl, Qh.callEnd, AV.isB, putOuts]
    · refine (ss_ite_fn (e1 := ev17 ns l4 j2 (most S t u) j4 j5' (.dat (caseD x y p q)) S f j11' t u j14') ?_).trans rfl
      simp [ev17, evE, evAs, hat, hlc, hal2, AV.apart, AV.slots, AV.sl, Qh.callEnd, AV.isB, putOuts]
end K01

namespace K01
open PySem PySem.Spec PyProof.Rows L2 Qh
theorem turn_run (k : Nat) (hk : 55 ≤ k) (ns : List Int) (l : List D) (hl : Rw l) (j2 k3 k4 k5 k6 k7 k8 k9 k10 k11 k12 k13 k14 : Sl) (h3 : k3.isOwn = false) (h4 : k4.isOwn = false) (h5 : k5.isOwn = false) (h6 : k6.isOwn = false) (h7 : k7.isOwn = false) (h8 : k8.isOwn = false) (h9 : k9.isOwn = false) (h10 : k10.isOwn = false) (h11 : k11.isOwn = false) (h12 : k12.isOwn = false) (h13 : k13.isOwn = false) (h14 : k14.isOwn = false) :
    ∃ l' S t u f m j4 j5' j6' j11' j14', Rw l' ∧ j4.isOwn = false ∧ j5'.isOwn = false ∧ j6'.isOwn = false ∧ j11'.isOwn = false ∧ j14'.isOwn = false ∧
      evSs G (runN G Pg k) body1 [.dat (.scr ns), .own (.lst l), j2, k3, k4, k5, k6, k7, k8, k9, k10, k11, k12, k13, k14, .non, .non] = .nxt (ev17 ns l' j2 m j4 j5' j6' S f j11' t u j14') := by
  obtain ⟨n, rfl⟩ : ∃ n, k = n + 3 := ⟨k - 3, by omega⟩
  obtain ⟨S, l1, r1, d1⟩ := a_semantics n l hl
  obtain ⟨t, u, l2, r2, ht, hu, d2⟩ := a_twins (n + 3) (by omega) l1 r1
  have hlt := a_leaves t (n + 3) (by have := ht.2; omega)
  have hlu := a_leaves u (n + 3) (by have := hu.2; omega)
  have hj4 : ∃ j4 : Sl, j4.isOwn = false ∧ evSs G (runN G Pg (n + 3)) body1 [.dat (.scr ns), .own (.lst l), j2, k3, k4, k5, k6, k7, k8, k9, k10, k11, k12, k13, k14, .non, .non] = evSs G (runN G Pg (n + 3)) body5 (ev17 ns l2 j2 (most S t u) j4 k5 k6 S none k11 t u k14) := by
    unfold Ans Dr at *
    simp only [List.map_cons, List.map_nil] at *
    generalize runN G Pg (n + 3) = r at *
    refine ⟨.dat (if S.unk = 1 then .non else .bl false), rfl, ?_⟩
    refine (ss_asg (d := .tup [S.d, .tup [t.d, u.d]]) (e1 := [.dat (.scr ns), .own (.lst l2), j2, k3, k4, k5, k6, k7, k8, k9, k10, k11, k12, k13, k14, .non, .non]) ?_ (e2 := [.dat (.scr ns), .own (.lst l2), j2, k3, k4, k5, k6, .dat S.d, k8, k9, k10, k11, .dat t.d, .dat u.d, k14, .non, .non]) ?_).trans ?_
    · simp [evE, evEs, evAs, d1, d2, big, AV.apart, AV.slots, AV.sl, Qh.callEnd, AV.isB, putOuts]
    · have q7 := asgT_nm (d := S.d) (env := [.dat (.scr ns), .own (.lst l2), j2, k3, k4, k5, k6, k7, k8, k9, k10, k11, k12, k13, k14, .non, .non]) (i := 7) h7
      have q12 := asgT_nm (d := t.d) (env := [.dat (.scr ns), .own (.lst l2), j2, k3, k4, k5, k6, .dat S.d, k8, k9, k10, k11, k12, k13, k14, .non, .non]) (i := 12) h12
      have q13 := asgT_nm (d := u.d) (env := [.dat (.scr ns), .own (.lst l2), j2, k3, k4, k5, k6, .dat S.d, k8, k9, k10, k11, .dat t.d, k13, k14, .non, .non]) (i := 13) h13
      simp only [List.set_cons_succ, List.set_cons_zero] at q7 q12 q13
      rw [asgT_tp, asgTs_c _ _ _ _ _ _ q7]
      have q : asgT (.tp (.cons (.nm 12) (.cons (.nm 13) .nil))) (.tup [t.d, u.d]) [.dat (.scr ns), .own (.lst l2), j2, k3, k4, k5, k6, .dat S.d, k8, k9, k10, k11, k12, k13, k14, .non, .non] = some [.dat (.scr ns), .own (.lst l2), j2, k3, k4, k5, k6, .dat S.d, k8, k9, k10, k11, .dat t.d, .dat u.d, k14, .non, .non] := by
        rw [asgT_tp, asgTs_c _ _ _ _ _ _ q12, asgTs_c _ _ _ _ _ _ q13]
        rfl
      rw [asgTs_c _ _ _ _ _ _ q]
      rfl
    · refine (ss_asg (d := .int (most S t u)) (e1 := [.dat (.scr ns), .own (.lst l2), j2, k3, k4, k5, k6, .dat S.d, k8, k9, k10, k11, .dat t.d, .dat u.d, k14, .non, .non]) ?_ (e2 := [.dat (.scr ns), .own (.lst l2), j2, .dat (.int (most S t u)), k4, k5, k6, .dat S.d, k8, k9, k10, k11, .dat t.d, .dat u.d, k14, .non, .non]) (asgT_nm (env := [.dat (.scr ns), .own (.lst l2), j2, k3, k4, k5, k6, .dat S.d, k8, k9, k10, k11, .dat t.d, .dat u.d, k14, .non, .non]) (i := 3) h3)).trans ?_
      · cases hs : S.set <;> simp [evE, evEs, evAs, hlt, hlu, hs, c2, most, mx_max, rd2, rd, rds, AV.apart, AV.slots, AV.sl, Qh.callEnd, AV.isB, putOuts]
      · generalize most S t u = m at *
        have hp : evS G r (.par [8, 9, 10] (.val (.bin .add (.lst (.cons (.cst (.bl true)) (.cons (.cst (.bl false)) .nil))) (.bin .mul (.lst (.cons (.cst .non) .nil)) (.bi .int (.cons (.cmp .eq (.ix (.var 7) (.cst (.int 3))) (.cst (.str "unknown"))) .nil)))) (.val (.cst .non) (.val (.lst .nil) .nil)))) [.dat (.scr ns), .own (.lst l2), j2, .dat (.int m), k4, k5, k6, .dat S.d, k8, k9, k10, k11, .dat t.d, .dat u.d, k14, .non, .non] =
            .nxt [.dat (.scr ns), .own (.lst l2), j2, .dat (.int m), k4, k5, k6, .dat S.d, .dat (.lst ((truths S).map tv)), .dat .non, .dat (.lst []), k11, .dat t.d, .dat u.d, k14, .non, .non] := by
          have ep : evPs G r (.val (.bin .add (.lst (.cons (.cst (.bl true)) (.cons (.cst (.bl false)) .nil))) (.bin .mul (.lst (.cons (.cst .non) .nil)) (.bi .int (.cons (.cmp .eq (.ix (.var 7) (.cst (.int 3))) (.cst (.str "unknown"))) .nil)))) (.val (.cst .non) (.val (.lst .nil) .nil))) [.dat (.scr ns), .own (.lst l2), j2, .dat (.int m), k4, k5, k6, .dat S.d, k8, k9, k10, k11, .dat t.d, .dat u.d, k14, .non, .non] =
              .ok [.val (.lst ((truths S).map tv)), .val .non, .val (.lst [])] [.dat (.scr ns), .own (.lst l2), j2, .dat (.int m), k4, k5, k6, .dat S.d, k8, k9, k10, k11, .dat t.d, .dat u.d, k14, .non, .non] := by
            obtain ⟨s, x, y, c, d⟩ := S
            rcases fin3 c with rfl | rfl | rfl <;> kernel_rfl
          simp only [evS, ep, sr_ok]
          have a1 : asgPs [8, 9, 10] [.val (.lst ((truths S).map tv)), .val .non, .val (.lst [])] [.dat (.scr ns), .own (.lst l2), j2, .dat (.int m), k4, k5, k6, .dat S.d, k8, k9, k10, k11, .dat t.d, .dat u.d, k14, .non, .non] = some [.dat (.scr ns), .own (.lst l2), j2, .dat (.int m), k4, k5, k6, .dat S.d, .dat (.lst ((truths S).map tv)), .dat .non, .dat (.lst []), k11, .dat t.d, .dat u.d, k14, .non, .non] := by
            cases k8 <;> first | (cases h8; done) | skip
            all_goals (cases k9 <;> first | (cases h9; done) | skip)
            all_goals (cases k10 <;> first | (cases h10; done) | kernel_rfl)
          rw [a1]
          rfl
        have hp2 : evSs G r body3 [.dat (.scr ns), .own (.lst l2), j2, .dat (.int m), k4, k5, k6, .dat S.d, k8, k9, k10, k11, .dat t.d, .dat u.d, k14, .non, .non] = evSs G r body4 [.dat (.scr ns), .own (.lst l2), j2, .dat (.int m), k4, k5, k6, .dat S.d, .dat (.lst ((truths S).map tv)), .dat .non, .dat (.lst []), k11, .dat t.d, .dat u.d, k14, .non, .non] := by
          show (evS G r _ _).next _ = _
          rw [hp]
          rfl
        rw [hp2]
        refine (ss_for (items := (truths S).map tv) (e1 := [.dat (.scr ns), .own (.lst l2), j2, .dat (.int m), k4, k5, k6, .dat S.d, .dat (.lst ((truths S).map tv)), .dat .non, .dat (.lst []), k11, .dat t.d, .dat u.d, k14, .non, .non]) (by simp [evIt, evE]) (e2 := ev17 ns l2 j2 m (.dat (if S.unk = 1 then .non else .bl false)) k5 k6 S none k11 t u k14) ?_).trans rfl
        unfold ev17 prs
        by_cases hk : S.unk = 1
        · have e1 : truths S = [some true, some false, none] := by unfold truths; rw [if_pos hk]
          rw [e1, if_pos hk]
          cases k4 <;> first | (cases h4; done) | kernel_rfl
        · have e1 : truths S = [some true, some false] := by unfold truths; rw [if_neg hk]
          rw [e1, if_neg hk]
          cases k4 <;> first | (cases h4; done) | kernel_rfl
  obtain ⟨j4, hj4o, he⟩ := hj4
  obtain ⟨l', j5', j6', j11', j14', q1, q2, q3, q4, q5, q6⟩ := turn_end (n + 3) hk ns l2 r2 j2 S t u ht hu j4 k5 k6 k11 k14 hj4o h5 h6 h11 h14
  exact ⟨l', S, t, u, _, most S t u, j4, j5', j6', j11', j14', q1, hj4o, q2, q3, q4, q5, by rw [he, q6]⟩
end K01

namespace K01
open PySem PySem.Spec PyProof.Rows L2 Qh
def P17 (ns : List Int) (env : En) : Prop := ∃ l j2 k3 k4 k5 k6 k7 k8 k9 k10 k11 k12 k13 k14, Rw l ∧ Sl.isOwn j2 = false ∧ Sl.isOwn k3 = false ∧ Sl.isOwn k4 = false ∧ Sl.isOwn k5 = false ∧ Sl.isOwn k6 = false ∧ Sl.isOwn k7 = false ∧ Sl.isOwn k8 = false ∧ Sl.isOwn k9 = false ∧ Sl.isOwn k10 = false ∧ Sl.isOwn k11 = false ∧ Sl.isOwn k12 = false ∧ Sl.isOwn k13 = false ∧ Sl.isOwn k14 = false ∧ env = [.dat (.scr ns), .own (.lst l), j2, k3, k4, k5, k6, k7, k8, k9, k10, k11, k12, k13, k14, .non, .non]
theorem law_true (ns : List Int) : ∃ o, runN G Pg fuel F_law [.dat (.scr ns)] = .ok (.bl true) o := by
  obtain ⟨e, he, l, j2, k3, k4, k5, k6, k7, k8, k9, k10, k11, k12, k13, k14, _, _, _, _, _, _, _, _, _, _, _, _, _, _, rfl⟩ := forS_inv (g := asgT (.nm 2)) (body := evSs G (runN G Pg 59) body1) (rangeD 0 3) (fun _ env => P17 ns env) (fun k x env hx hp => by
    obtain ⟨l, j2, k3, k4, k5, k6, k7, k8, k9, k10, k11, k12, k13, k14, hl, h2, h3, h4, h5, h6, h7, h8, h9, h10, h11, h12, h13, h14, rfl⟩ := hp
    obtain ⟨l', S, t, u, f, m, j4, j5', j6', j11', j14', r1, r2, r3, r4, r5, r6, r7⟩ := turn_run 59 (by decide) ns l hl (.dat x) k3 k4 k5 k6 k7 k8 k9 k10 k11 k12 k13 k14 h3 h4 h5 h6 h7 h8 h9 h10 h11 h12 h13 h14
    exact ⟨_, _, asgT_nm (env := [.dat (.scr ns), .own (.lst l), j2, k3, k4, k5, k6, k7, k8, k9, k10, k11, k12, k13, k14, .non, .non]) (i := 2) h2, r7, l', .dat x, .dat (.int m), j4, j5', j6', .dat S.d, .dat (.lst ((truths S).map tv)), .dat (optD f), .dat (.lst (prs S)), j11', .dat t.d, .dat u.d, j14', r1, rfl, rfl, r2, r3, r4, rfl, rfl, rfl, rfl, r5, rfl, rfl, r6, rfl⟩)
    [.dat (.scr ns), .own (.lst [.scr ns, .int 0, .int 15321, .int 0]), .non, .non, .non, .non, .non, .non, .non, .non, .non, .non, .non, .non, .non, .non, .non]
    ⟨_, .non, .non, .non, .non, .non, .non, .non, .non, .non, .non, .non, .non, .non, ⟨ns, 0, 15321, 0, rfl, by decide, by decide, by decide⟩, rfl, rfl, rfl, rfl, rfl, rfl, rfl, rfl, rfl, rfl, rfl, rfl, rfl, rfl⟩
  have e1 : ∀ rest, evSs G (runN G Pg 59) (.cons (.own 1 (.cons (.var 0) (.cons (.cst (.int 0)) (.cons (.cst (.int 15321)) (.cons (.cst (.int 0)) .nil))))) rest) [.dat (.scr ns), .non, .non, .non, .non, .non, .non, .non, .non, .non, .non, .non, .non, .non, .non, .non, .non] = evSs G (runN G Pg 59) rest [.dat (.scr ns), .own (.lst [.scr ns, .int 0, .int 15321, .int 0]), .non, .non, .non, .non, .non, .non, .non, .non, .non, .non, .non, .non, .non, .non, .non] := fun rest => by kernel_rfl
  have main : runN G Pg (59 + 1) F_law [.dat (.scr ns)] = Qh.finish [.dat (.scr ns)] (.ret (.bl true) [.dat (.scr ns), .own (.lst l), j2, k3, k4, k5, k6, k7, k8, k9, k10, k11, k12, k13, k14, .non, .non]) := by
    rw [run_at 59 F_law f_law _ rfl rfl, law_body]
    show Qh.finish _ (evSs G (runN G Pg 59) _ [.dat (.scr ns), .non, .non, .non, .non, .non, .non, .non, .non, .non, .non, .non, .non, .non, .non, .non, .non]) = _
    rw [e1]
    generalize runN G Pg 59 = r at *
    rw [ss_for (it_rng1 (n := 3) (env' := [.dat (.scr ns), .own (.lst [.scr ns, .int 0, .int 15321, .int 0]), .non, .non, .non, .non, .non, .non, .non, .non, .non, .non, .non, .non, .non, .non, .non]) (by simp only [evE]) (by decide) (by decide)) he]
    rw [ss_ret (d := .bl true) (e1 := [.dat (.scr ns), .own (.lst l), j2, k3, k4, k5, k6, k7, k8, k9, k10, k11, k12, k13, k14, .non, .non]) (by simp only [evE])]
  exact ⟨[.dat (.scr ns)], main.trans (by simp [Qh.finish, outs, Sl.isOwn])⟩
end K01


namespace K01
open PySem PySem.Spec PyProof.Rows L2 Qh
def fa : List He.Fa := rows.map (fun r => He.Fa.glo r.i.name) ++ blts.map He.Fa.free
def fn : List He.DefD := rows.map DRow.d
def gl1 (K : PySem.W.Frag) (p : Str × D) : Bool := match PySem.W.nsIn K mainGlobals p.1 with
  | some (some u) => gB K p.2 u
  | _ => false
def ex (K : PySem.W.Frag) : Bool := globs.all (gl1 K)
abbrev R : PySem.W.OpenRow := PySem.W.OpenLaw.row PySem.Challenge.rw_queryheld_k01_whole_least_differences
abbrev hk : PySem.W.Hook := He.hookX 2 fa fn [] [] ex
def ob (s : PySem.W.SharedT) : He.AlX := He.obsX 2 fa fn [] [] ex (HandSHeadRun.getT s)
theorem ob_eq (s : PySem.W.SharedT) : ob s = hk.obs s.abs := He.obsX_eq (HandSHeadRun.getT_eq s)
theorem run (w : World) : HandSHeadRun.RunEq R (PySem.W.view R.prog [57]) hk ob 40000 names w :=
  PySem.W.byRow2 "special-get-raises" (P := fun w => HandSHeadRun.RunEq R (PySem.W.view R.prog [57]) hk ob 40000 names w) (fun w os => by kernel_rfl) (fun w os => by kernel_rfl) w
end K01


namespace K01
open PySem PySem.Spec PyProof.Rows L2 Qh
theorem promise {w : World} {K : PySem.W.Frag} {h : Heap} {mg : Str → Option Value} {f : Addr} (X : K.In h) (G : h.Ns mainGlobals mg) (hfa : mg ("law" : Str) = some (.ref f)) (c : He.SaysX fa fn [] [] ex w h K) :
    ∃ fd : FuncData, (∀ (s : Shared) (v : Value), BindsTo s fd ⟨[v], []⟩ [("_law_script", v)]) ∧ ∀ base : Heap, K.In base → base.Ns mainGlobals mg → FnOk (PySem.Challenge.rw_queryheld_k01_whole_least_differences).prog w K mg base (L2.CX (PySem.Challenge.rw_queryheld_k01_whole_least_differences).prog w) fuel f fd ["_law_script"] (spF K (fun _ => 0) (runN (globD tab) (progOf rows) fuel) 40) := by
  have cd := c.t.d
  obtain ⟨fd, hF, hk⟩ := all_ok (P := (PySem.Challenge.rw_queryheld_k01_whole_least_differences).prog) (w := w) (K := K) (mg := mg) (exc := fun _ => 0) (rows := rows) (globs := globs) (blts := blts) checked
    (fun r hr => cd.defs (d := r.d) (List.mem_map_of_mem hr)) (fun r hr => He.glo_ok X G (cd.facts (f := .glo r.i.name) (List.mem_append_left _ (List.mem_map_of_mem (f := fun r => He.Fa.glo r.i.name) hr))))
    (fun r hr f fd F => binds r hr K f fd F) (fun p hp => by
      have q := List.all_eq_true.mp (show globs.all (gl1 K) = true from c.more) p hp
      unfold gl1 at q
      split at q
      · rename_i u e
        exact ⟨u, PySem.W.mg_of X G e, q⟩
      · cases q) (fun x hx => He.free_ok X G (cd.facts (f := .free x) (List.mem_append_right _ (List.mem_map_of_mem hx))))
  have F := hF 40 ⟨i40, f_law, top 57⟩ rfl
  have ea : faOf K rows 40 = f := by
    have e2 := He.glo_ok X G (cd.facts (f := .glo "law") (List.mem_append_left _ (List.mem_map.mpr ⟨⟨i40, f_law, top 57⟩, List.mem_of_getElem? (i := 40) rfl, rfl⟩)))
    rw [hfa] at e2
    cases e2
    rfl
  rw [ea] at F
  refine ⟨fd 40, fun s v => FunD.bindsA (ps := ["_law_script"]) F (fun _ _ _ _ _ _ us hl => match us, hl with | [_], _ => rfl) s [v] rfl, fun base _ hG => ?_⟩
  have ok := hk base fuel 40 i40 rfl
  rw [ea] at ok
  exact ok
end K01
open PySem PySem.W PySem.Calls PyProof.Rows
theorem PySem.Challenge.cw_queryheld_k01_whole_least_differences_holds : PySem.Challenge.rw_queryheld_k01_whole_least_differences.Holds := by
  w_on; o_law
  refine HandSHeadRun.head_any (r := OpenLaw.row PySem.Challenge.rw_queryheld_k01_whole_least_differences) (q := view (OpenLaw.row PySem.Challenge.rw_queryheld_k01_whole_least_differences).prog [57]) (H := K01.hk) (ob := K01.ob) (M := 40000) (loose := K01.names) (kwd := []) (d := HandSHeadRun.topDef (OpenLaw.row PySem.Challenge.rw_queryheld_k01_whole_least_differences).prog 57)
    K01.ob_eq (by kernel_rfl) (fun s => by kernel_rfl) K01.run (by kernel_rfl) (by kernel_rfl) (by kernel_rfl) (by rfl) (by first | assumption | decide +kernel) (by decide +kernel) ⟨rfl, rfl, rfl, rfl, rfl, by decide +kernel⟩ ?hw ?hc
  case hw => w_witness2
  case hc =>
    refine Qh.walk_own (l := PySem.Challenge.rw_queryheld_k01_whole_least_differences) (k := K01.fuel) (x := "_law_script") rfl (by kernel_rfl) ⟨rfl, by decide, by decide⟩ ?F
    intro w mg fa h Y G hmg0
    obtain ⟨K, KX, c⟩ := Y
    have hmg : mg ("law" : PySem.Str) = some (.ref fa) := by
      have e : (HandSHeadRun.topDef (OpenLaw.row PySem.Challenge.rw_queryheld_k01_whole_least_differences).prog 57).name = ("law" : PySem.Str) := by kernel_rfl
      rw [← e]
      exact hmg0
    obtain ⟨fd, hb, hF⟩ := K01.promise (w := w) KX G hmg c
    exact ⟨K, fd, _, KX, hb, fun H a ns hO hS => by
      obtain ⟨o, ho⟩ := K01.law_true ns
      exact Qh.law_sp ho H a hO hS, hF⟩

