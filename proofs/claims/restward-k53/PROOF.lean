import PyProof.Rows.All
import Wide.All
import OpenK.AllK
import Wide.FinOn
import HandS.ForMost
import HandS.ForExc
import HandS.Wide
import HandS.Zip
import HandS.Rev
import HandS.Deep
import HandS.IsInst
import HandS.HotCalls
import HandS.ExcIs
import HandS.CallLocal
import HandS.Style
import HandS.SetFor
import HandS.TupAny
import HandS.Defaults
import HandS.Conv
import KE.DataFind
import HandS.HeadEnd
import HandS.HeadHook1
import HandS.HeadHook2
import HandS.HeadHook3
import HandS.HeadHook4
import HandS.Head0
import HandS.Head1
import HandS.Head2
import PySem.Challenge.RW_restward_k53_gained
set_option Elab.async false
set_option linter.all false
set_option maxRecDepth 100000
set_option autoImplicit false
set_option maxHeartbeats 0
namespace Py
open PySem

inductive W where
  | non | bl (b : Bool) | int (i : Int) | str (x : Str) | tup (ws : List W) | loc (n : Nat) | cl (ws : List W) | fn (x : Str)

abbrev Sto := List (List W)
abbrev Sl := List (Option W)

inductive R (α : Type) where
  | ok (a : α) (s : Sto) | exc (c : Str) (s : Sto) | bad
def R.bind {α β : Type} (r : R α) (f : α → Sto → R β) : R β := match r with
  | .ok a s => f a s
  | .exc c s => .exc c s
  | .bad => .bad
def R.noex {α : Type} (r : R α) : R α := match r with
  | .exc _ _ => .bad
  | r => r
@[simp] theorem R.bind_ok {α β : Type} (a : α) (s : Sto) (f : α → Sto → R β) : (R.ok a s).bind f = f a s := rfl
@[simp] theorem R.bind_exc {α β : Type} (c : Str) (s : Sto) (f : α → Sto → R β) : (R.exc c s : R α).bind f = .exc c s := rfl
@[simp] theorem R.bind_bad {α β : Type} (f : α → Sto → R β) : (R.bad : R α).bind f = .bad := rfl
@[simp] theorem R.noex_ok {α : Type} (a : α) (s : Sto) : (R.ok a s).noex = .ok a s := rfl
inductive Bop where | add | sub | mul | fdiv | mod | pow | shl | cnt
inductive Cop where | eq | ne | lt | le | gt | ge | isN | notN | isB | notB | inn | nin
inductive Ty where | int | bool | tuple | list | str | lt
inductive Bi where | len | abs | max2 | min2 | int | all | any | sum | list | tuple | str | lrng | trng
inductive Mt where | append | pop | popAt | extend | clear
inductive Ik where | seq | rng1 | rng2 | rng3 | enu | zip | rev
inductive Tn where | name (i : Nat) | nil | cons (t ts : Tn) | tup (ts : Tn)

inductive E where
  | var (i : Nat) | con (x : Str) | fref (x : Str)
  | int (i : Int) | bl (b : Bool) | non | str (x : Str)
  | nil | cons (a as : E)
  | bin (op : Bop) (a b : E) | neg (a : E) | no (a : E)
  | cmp (op : Cop) (a b : E) | chain (op op' : Cop) (a b c : E)
  | and (a b : E) | or (a b : E) | one (a : E) | ite (c a b : E)
  | tup (as : E) | lst (as : E)
  | ix (a b : E) | sl (a lo hi : E) | rv (a : E)
  | call (x : Str) (as : E) | callv (i : Nat) (as : E)
  | bi (f : Bi) (as : E) | mt (m : Mt) (o as : E) | isi (a : E) (t : Ty)
  | comp (own : List (Str × Nat)) (tg : Tn) (k : Ik) (as cond elt : E)

def big : Nat := 2 ^ 62
def bitsOk (i j : Int) : Bool := decide (i.natAbs.log2 + j.natAbs.log2 + 2 ≤ 134217728)
def divOk (j : Int) : Bool := decide (j ≠ 0)
def alloc (ws : List W) (s : Sto) : R W := .ok (.loc s.length) (s ++ [ws])
def lsq : W → Sto → Option (List W)
  | .loc n, s => s[n]?
  | .cl ws, _ => some ws
  | _, _ => none
def intsW : List W → Option (List Int)
  | [] => some []
  | .int i :: r => (intsW r).map (i :: ·)
  | _ :: _ => none
def powOk (i j : Int) : Bool := decide (0 ≤ j ∧ j ≤ 1000000 ∧ i.natAbs < 2 ^ 64)
def bop : Bop → W → W → Sto → R W
  | .add, .int i, .int j, s => .ok (.int (i + j)) s
  | .add, .int i, .bl k, s => .ok (.int (i + PyProof.Rows.b2i k)) s
  | .add, .str x, .str y, s => if x.length + y.length ≤ sizeLine then .ok (.str (x ++ y)) s else .bad
  | .add, .tup xs, .tup ys, s => if xs.length + ys.length ≤ sizeLine then .ok (.tup (xs ++ ys)) s else .bad
  | .add, a, b, s => match lsq a s, lsq b s with
    | some xs, some ys => if xs.length + ys.length ≤ sizeLine then alloc (xs ++ ys) s else .bad
    | _, _ => .bad
  | .sub, .int i, .int j, s => .ok (.int (i - j)) s
  | .mul, .int i, .int j, s => if bitsOk i j then .ok (.int (i * j)) s else .bad
  | .mul, .loc a, .int k, s => match s[a]? with
    | some xs => if -(2 ^ 63) ≤ k ∧ k < 2 ^ 63 ∧ xs.length * k.toNat ≤ sizeLine then alloc (List.replicate k.toNat xs).flatten s else .bad
    | none => .bad
  | .fdiv, .int i, .int j, s => if divOk j then .ok (.int (i.fdiv j)) s else .bad
  | .mod, .int i, .int j, s => if j ≠ 0 then .ok (.int (i.fmod j)) s else .bad
  | .pow, .int i, .int j, s => if powOk i j then .ok (.int (i ^ j.toNat)) s else .bad
  | .shl, .int i, .int j, s => if powOk i j then .ok (.int (i * 2 ^ j.toNat)) s else .bad
  | .cnt, a, .int i, s => match (lsq a s).bind intsW with
    | some ns => .ok (.int (ns.count i : Nat)) s
    | none => .bad
  | _, _, _, _ => .bad
def toD : Nat → Sto → W → Option PyData
  | 0, _, _ => none
  | _ + 1, _, .non => some .none
  | _ + 1, _, .bl b => some (.bool b)
  | _ + 1, _, .int i => some (.int i)
  | _ + 1, _, .str x => some (.str x)
  | n + 1, s, .tup ws => (ws.mapM (toD n s)).map .tuple
  | n + 1, s, .loc a => (s[a]?).bind fun ws => (ws.mapM (toD n s)).map .list
  | n + 1, s, .cl ws => (ws.mapM (toD n s)).map .list
  | _ + 1, _, .fn _ => none
def eqW (a b : W) (s : Sto) : Option Bool := match a, b with
  | .int i, .int j => some (decide (i = j))
  | .str x, .str y => some (decide (x = y))
  | a, b => match toD 16 s a, toD 16 s b with
    | some d, some e => if SeqAt.shaped d && SeqAt.shaped e then some (PyData.eqv d e) else none
    | _, _ => none
def inW (a b : W) (s : Sto) : Option Bool := match toD 16 s a, (lsq b s).bind fun ws => ws.mapM (toD 15 s) with
  | some d, some ds => if SeqAt.shaped d && SeqAt.shaped (.list ds) then some (ds.any fun z => PyData.eqv z d) else none
  | _, _ => none
def ob : Option Bool → Sto → R W
  | some b, s => .ok (.bl b) s
  | none, _ => .bad
def isNon : W → Bool
  | .non => true
  | _ => false
def cop : Cop → W → W → Sto → R W
  | .eq, a, b, s => ob (eqW a b s) s
  | .ne, a, b, s => ob ((eqW a b s).map (!·)) s
  | .lt, .int i, .int j, s => .ok (.bl (decide (i < j))) s
  | .le, .int i, .int j, s => .ok (.bl (decide (i ≤ j))) s
  | .gt, .int i, .int j, s => .ok (.bl (decide (j < i))) s
  | .ge, .int i, .int j, s => .ok (.bl (decide (j ≤ i))) s
  | .isN, a, .non, s => .ok (.bl (isNon a)) s
  | .notN, a, .non, s => .ok (.bl (!isNon a)) s
  | .isB, .bl a, .bl b, s => .ok (.bl (decide (a = b))) s
  | .notB, .bl a, .bl b, s => .ok (.bl (!decide (a = b))) s
  | .inn, a, b, s => ob (inW a b s) s
  | .nin, a, b, s => ob ((inW a b s).map (!·)) s
  | _, _, _, _ => .bad
def atW (ws : List W) (i : Int) : Option W := (L2.ixN ws.length i).bind fun j => ws[j]?
def ixW : W → W → Sto → R W
  | .tup ws, .int i, s => match atW ws i with
    | some w => .ok w s
    | none => .bad
  | .str x, .int i, s => if x.length ≤ sizeLine then match (L2.ixN x.cps.toList.length i).bind fun j => x.cps.toList[j]? with
    | some c => .ok (.str ⟨#[c]⟩) s
    | none => .bad
    else .bad
  | w, .int i, s => match lsq w s with
    | some ws => match atW ws i with
      | some w => .ok w s
      | none => .bad
    | none => .bad
  | _, _, _ => .bad
def cutW (ws : List W) (lo hi : Option Int) : List W := (ws.drop (HT.sIx ws.length 0 lo)).take (HT.sIx ws.length ws.length hi - HT.sIx ws.length 0 lo)
def slW : W → Option Int → Option Int → Sto → R W
  | .tup ws, lo, hi, s => if HT.sIx ws.length 0 lo = 0 ∧ HT.sIx ws.length ws.length hi = ws.length then .bad else .ok (.tup (cutW ws lo hi)) s
  | w, lo, hi, s => match lsq w s with
    | some ws => alloc (cutW ws lo hi) s
    | none => .bad
def negW : W → Sto → R W
  | .int i, s => .ok (.int (-i)) s
  | _, _ => .bad
def truW : W → Sto → Option Bool
  | .bl b, _ => some b
  | .non, _ => some false
  | .int i, _ => some (i != 0)
  | .loc n, s => (s[n]?).map fun ws => !ws.isEmpty
  | .cl ws, _ => some (!ws.isEmpty)
  | .tup ws, _ => some (!ws.isEmpty)
  | _, _ => none
def isiW : Ty → W → Option Bool
  | .int, .int _ => some true
  | .int, .bl _ => some true
  | .int, .fn _ => none
  | .int, _ => some false
  | .bool, .bl _ => some true
  | .bool, .fn _ => none
  | .bool, _ => some false
  | .tuple, .tup _ => some true
  | .tuple, .fn _ => none
  | .tuple, _ => some false
  | .list, .loc _ => some true
  | .list, .cl _ => some true
  | .list, .fn _ => none
  | .list, _ => some false
  | .str, .str _ => some true
  | .str, .fn _ => none
  | .str, _ => some false
  | .lt, .loc _ => some true
  | .lt, .cl _ => some true
  | .lt, .tup _ => some true
  | .lt, .fn _ => none
  | .lt, _ => some false
def bools : List W → Option (List Bool)
  | [] => some []
  | .bl b :: r => (bools r).map (b :: ·)
  | _ :: _ => none
def strOk (i : Int) : Bool := decide (i.natAbs.log2 < 1920)
def biLen (ws : List W) (s : Sto) : R W := match ws with
  | [.tup ws] => .ok (.int ws.length) s
  | [.str x] => if x.length ≤ sizeLine then .ok (.int x.length) s else .bad
  | [w] => match lsq w s with
    | some ws => .ok (.int ws.length) s
    | none => .bad
  | _ => .bad
def biAbs (ws : List W) (s : Sto) : R W := match ws with
  | [.int i] => .ok (.int (if i < 0 then -i else i)) s
  | _ => .bad
def biMax (ws : List W) (s : Sto) : R W := match ws with
  | [.int i, .int j] => .ok (.int (if j > i then j else i)) s
  | _ => .bad
def biMin (ws : List W) (s : Sto) : R W := match ws with
  | [.int i, .int j] => .ok (.int (if j < i then j else i)) s
  | _ => .bad
def biInt (ws : List W) (s : Sto) : R W := match ws with
  | [.int i] => .ok (.int i) s
  | [.bl b] => .ok (.int (if b then 1 else 0)) s
  | _ => .bad
def biAll (ws : List W) (s : Sto) : R W := match ws with
  | [w] => match (lsq w s).bind bools with
    | some bs => .ok (.bl (bs.all id)) s
    | none => .bad
  | _ => .bad
def biAny (ws : List W) (s : Sto) : R W := match ws with
  | [w] => match (lsq w s).bind bools with
    | some bs => .ok (.bl (bs.any id)) s
    | none => .bad
  | _ => .bad
def biSum (ws : List W) (s : Sto) : R W := match ws with
  | [w] => match (lsq w s).bind intsW with
    | some ns => .ok (.int ns.sum) s
    | none => .bad
  | _ => .bad
def biList (ws : List W) (s : Sto) : R W := match ws with
  | [.tup ws] => alloc ws s
  | [w] => match lsq w s with
    | some ws => alloc ws s
    | none => .bad
  | _ => .bad
def biTuple (ws : List W) (s : Sto) : R W := match ws with
  | [.tup ws] => .ok (.tup ws) s
  | [w] => match lsq w s with
    | some ws => .ok (.tup ws) s
    | none => .bad
  | _ => .bad
def biStr (ws : List W) (s : Sto) : R W := match ws with
  | [.int i] => if strOk i then .ok (.str (toString i)) s else .bad
  | _ => .bad
def rgI (n : Int) : List W := (List.range n.toNat).map fun i => W.int (i : Nat)
def biLrg (ws : List W) (s : Sto) : R W := match ws with
  | [.int n] => if -16777216 ≤ n ∧ n ≤ 16777216 then alloc (rgI n) s else .bad
  | _ => .bad
def biTrg (ws : List W) (s : Sto) : R W := match ws with
  | [.int n] => if -16777216 ≤ n ∧ n ≤ 16777216 then .ok (.tup (rgI n)) s else .bad
  | _ => .bad
def biW : Bi → List W → Sto → R W
  | .len => biLen
  | .abs => biAbs
  | .max2 => biMax
  | .min2 => biMin
  | .int => biInt
  | .all => biAll
  | .any => biAny
  | .sum => biSum
  | .list => biList
  | .tuple => biTuple
  | .str => biStr
  | .lrng => biLrg
  | .trng => biTrg
def mtAppend (n : Nat) (ws : List W) (s : Sto) : R W := match ws with
  | [w] => match s[n]? with
    | some ws => if ws.length < sizeLine then .ok .non (s.set n (ws ++ [w])) else .bad
    | none => .bad
  | _ => .bad
def mtPop (n : Nat) (ws : List W) (s : Sto) : R W := match ws with
  | [] => match s[n]? with
    | some ws => match ws[ws.length - 1]? with
      | some w => .ok w (s.set n ws.dropLast)
      | none => .bad
    | none => .bad
  | _ => .bad
def mtPopAt (n : Nat) (ws : List W) (s : Sto) : R W := match ws with
  | [.int i] => match s[n]? with
    | some ws => if -(2 ^ 63) ≤ i ∧ i < 2 ^ 63 then match seqIndex? i ws.length with
      | some k => match ws[k]? with
        | some w => .ok w (s.set n (ws.eraseIdx k))
        | none => .bad
      | none => .bad
      else .bad
    | none => .bad
  | _ => .bad
def mtExtend (n : Nat) (ws : List W) (s : Sto) : R W := match ws with
  | [.loc m] => match s[n]?, s[m]? with
    | some xs, some ys => if xs.length + ys.length ≤ sizeLine then .ok .non (s.set n (xs ++ ys)) else .bad
    | _, _ => .bad
  | _ => .bad
def mtClear (n : Nat) (ws : List W) (s : Sto) : R W := match ws with
  | [] => match s[n]? with
    | some _ => .ok .non (s.set n [])
    | none => .bad
  | _ => .bad
def mtW : Mt → W → List W → Sto → R W
  | .append, .loc n, ws, s => mtAppend n ws s
  | .pop, .loc n, ws, s => mtPop n ws s
  | .popAt, .loc n, ws, s => mtPopAt n ws s
  | .extend, .loc n, ws, s => mtExtend n ws s
  | .clear, .loc n, ws, s => mtClear n ws s
  | _, _, _, _ => .bad
def isLoc : W → Sto → Bool
  | .loc n, s => (s[n]?).isSome
  | _, _ => false
def setW : W → W → W → Sto → R Unit
  | .loc n, .int i, w, s => match s[n]? with
    | some ws => match L2.ixN ws.length i with
      | some j => .ok () (s.set n (ws.set j w))
      | none => .bad
    | none => .bad
  | _, _, _, _ => .bad

inductive Src where
  | li (w : W) | tu (ws : List W) | st (x : Str) | rng (lo c : Int) (n : Nat) | enu (w : W) | zp (w u : W) | zt (ws us : List W) | rv (w : W) (n : Nat) | rt (ws : List W)
def itAt : Src → Nat → Sto → Option (Option W)
  | .li w, i, s => (lsq w s).map fun ws => ws[i]?
  | .tu ws, i, _ => some ws[i]?
  | .st x, i, _ => some ((x.cps[i]?).map fun c => .str ⟨#[c]⟩)
  | .rng lo c n, i, _ => some (if i < n then some (.int (lo + (i : Nat) * c)) else none)
  | .enu w, i, s => (lsq w s).map fun ws => (ws[i]?).map fun x => .tup [.int (i : Nat), x]
  | .zp w u, i, s => match lsq w s, lsq u s with
    | some xs, some ys => some (match xs[i]?, ys[i]? with
      | some x, some y => some (.tup [x, y])
      | _, _ => none)
    | _, _ => none
  | .zt xs ys, i, _ => some (match xs[i]?, ys[i]? with
      | some x, some y => some (.tup [x, y])
      | _, _ => none)
  | .rv w n, i, s => if i < n then (lsq w s).bind fun ws => (ws[n - 1 - i]?).map some else some none
  | .rt ws, i, _ => if i < ws.length then (ws[ws.length - 1 - i]?).map some else some none
@[irreducible] def lim62 (i : Int) : Bool := decide (-(2 ^ 62) ≤ i ∧ i < 2 ^ 62)
def isLi : W → Sto → Bool
  | .loc n, s => (s[n]?).isSome
  | .cl _, _ => true
  | _, _ => false
def srcSeq (ws : List W) (s : Sto) : Option Src := match ws with
  | [.tup ws] => some (.tu ws)
  | [.str x] => some (.st x)
  | [w] => if isLi w s then some (.li w) else none
  | _ => none
def srcR1 (ws : List W) : Option Src := match ws with
  | [.int j] => if lim62 j then some (.rng 0 1 j.toNat) else none
  | _ => none
def srcR2 (ws : List W) : Option Src := match ws with
  | [.int i, .int j] => if lim62 i && lim62 j then some (.rng i 1 (j - i).toNat) else none
  | _ => none
def srcR3 (ws : List W) : Option Src := match ws with
  | [.int i, .int j, .int c] => if decide (c ≠ 0 ∧ c.natAbs < 1073741824) && Builtin.Range.small i j c then some (.rng i c (Builtin.Range.rangeSize i j c).toNat) else none
  | _ => none
def srcEnu (ws : List W) (s : Sto) : Option Src := match ws with
  | [w] => if isLi w s then some (.enu w) else none
  | _ => none
def srcZip (ws : List W) (s : Sto) : Option Src := match ws with
  | [.tup xs, .tup ys] => some (.zt xs ys)
  | [w, u] => if isLi w s && isLi u s then some (.zp w u) else none
  | _ => none
def srcRev (ws : List W) (s : Sto) : Option Src := match ws with
  | [.tup ws] => some (.rt ws)
  | [w] => (lsq w s).map fun ws => .rv w ws.length
  | _ => none
def srcOf : Ik → List W → Sto → Option Src
  | .seq, ws, s => srcSeq ws s
  | .rng1, ws, _ => srcR1 ws
  | .rng2, ws, _ => srcR2 ws
  | .rng3, ws, _ => srcR3 ws
  | .enu, ws, s => srcEnu ws s
  | .zip, ws, s => srcZip ws s
  | .rev, ws, s => srcRev ws s
mutual
def tnSet : Tn → W → Sl → Option Sl
  | .name i, w, e => some (e.set i (some w))
  | .tup ts, .tup ws, e => tnSets ts ws e
  | _, _, _ => none
def tnSets : Tn → List W → Sl → Option Sl
  | .nil, [], e => some e
  | .cons t ts, w :: ws, e => (tnSet t w e).bind fun e' => tnSets ts ws e'
  | _, _, _ => none
end
def compL (f : W → Sto → R (Option W)) : Nat → Src → Nat → List W → Sto → R (List W)
  | 0, _, _, _, _ => .bad
  | n + 1, src, i, acc, s => match itAt src i s with
    | none => .bad
    | some none => .ok acc s
    | some (some w) => (f w s).bind fun o s' => match o with
      | some v => if acc.length < sizeLine then compL f n src (i + 1) (acc ++ [v]) s' else .bad
      | none => compL f n src (i + 1) acc s'
def wipeS : Sl → List Nat → Sl
  | e, [] => e
  | e, v :: vs => (wipeS e vs).set v none

structure G where
  call : Str → List W → Sto → R W
  con : Str → Option W
  df : Str → Bool
  ex : Str → Bool

def rslot (e : Sl) (i : Nat) (s : Sto) : R W := match e[i]? with
  | some (some w) => .ok w s
  | _ => .bad
def toB : W → Sto → R Bool
  | .bl b, s => .ok b s
  | _, _ => .bad
def toT (w : W) (s : Sto) : R Bool := match truW w s with
  | some b => .ok b s
  | none => .bad
def toI (w : W) (s : Sto) : R Int := match w with
  | .int i => .ok i s
  | _ => .bad

mutual
def ev (g : G) : E → Sl → Sto → R W
  | .var i, e, s => rslot e i s
  | .con x, _, s => match g.con x with
    | some w => .ok w s
    | none => .bad
  | .fref x, _, s => if g.df x then .ok (.fn x) s else .bad
  | .int i, _, s => .ok (.int i) s
  | .bl b, _, s => .ok (.bl b) s
  | .non, _, s => .ok .non s
  | .str x, _, s => .ok (.str x) s
  | .bin op a b, e, s => (ev g a e s).bind fun w s1 => (ev g b e s1).bind fun u s2 => bop op w u s2
  | .neg a, e, s => (ev g a e s).bind fun w s1 => negW w s1
  | .no a, e, s => (ev g a e s).bind fun w s1 => (toB w s1).bind fun b s2 => .ok (.bl (!b)) s2
  | .cmp op a b, e, s => (ev g a e s).bind fun w s1 => (ev g b e s1).bind fun u s2 => cop op w u s2
  | .chain op op' a b c, e, s => (ev g a e s).bind fun w s1 => (ev g b e s1).bind fun u s2 => (cop op w u s2).bind fun z s3 => (toB z s3).bind fun k s3 => if k then (ev g c e s3).bind fun v s4 => cop op' u v s4 else .ok (.bl false) s3
  | .and a b, e, s => (ev g a e s).bind fun w s1 => (toB w s1).bind fun k s2 => if k then ev g b e s2 else .ok (.bl false) s2
  | .or a b, e, s => (ev g a e s).bind fun w s1 => (toB w s1).bind fun k s2 => if k then .ok (.bl true) s2 else ev g b e s2
  | .one a, e, s => ev g a e s
  | .ite c a b, e, s => (evT g c e s).bind fun k s1 => if k then ev g a e s1 else ev g b e s1
  | .tup as, e, s => (evs g as e s).bind fun ws s1 => if ws.length ≤ sizeLine then .ok (.tup ws) s1 else .bad
  | .lst as, e, s => (evs g as e s).bind fun ws s1 => if ws.length ≤ sizeLine then alloc ws s1 else .bad
  | .ix a b, e, s => (ev g a e s).bind fun w s1 => (ev g b e s1).bind fun u s2 => ixW w u s2
  | .sl a lo hi, e, s => (ev g a e s).bind fun w s1 => (evO g lo e s1).bind fun l s2 => (evO g hi e s2).bind fun h s3 => slW w l h s3
  | .rv a, e, s => (ev g a e s).bind fun w s1 => match lsq w s1 with
    | some ws => alloc ws.reverse s1
    | none => .bad
  | .call x as, e, s => (evs g as e s).bind fun ws s1 => g.call x ws s1
  | .callv i as, e, s => match e[i]? with
    | some (some (.fn x)) => if g.df x then (evs g as e s).bind fun ws s1 => g.call x ws s1 else .bad
    | _ => .bad
  | .bi f as, e, s => (evs g as e s).bind fun ws s1 => biW f ws s1
  | .mt m o as, e, s => (ev g o e s).bind fun w s1 => if isLoc w s1 then (evs g as e s1).bind fun ws s2 => mtW m w ws s2 else .bad
  | .isi a t, e, s => (ev g a e s).bind fun w s1 => ob (isiW t w) s1
  | .comp own tg k as cond elt, e, s => (evs g as e s).bind fun ws s1 => match srcOf k ws s1 with
    | none => .bad
    | some src => (compL (fun w s2 => R.noex (match tnSet tg w (wipeS e (own.map Prod.snd)) with
      | none => R.bad
      | some e' => (evT g cond e' s2).bind fun k s3 => if k then (ev g elt e' s3).bind fun v s4 => R.ok (some v) s4 else R.ok none s3)) big src 0 [] s1).bind fun acc s2 => alloc acc s2
  | _, _, _ => .bad
def evs (g : G) : E → Sl → Sto → R (List W)
  | .nil, _, s => .ok [] s
  | .cons a as, e, s => (ev g a e s).bind fun w s1 => (evs g as e s1).bind fun ws s2 => .ok (w :: ws) s2
  | _, _, _ => .bad
def evO (g : G) : E → Sl → Sto → R (Option Int)
  | .nil, _, s => .ok none s
  | .one a, e, s => (ev g a e s).bind fun w s1 => (toI w s1).bind fun i s2 => .ok (some i) s2
  | _, _, _ => .bad
def evT (g : G) : E → Sl → Sto → R Bool
  | .and a b, e, s => (evT g a e s).bind fun k s1 => if k then evT g b e s1 else .ok false s1
  | .or a b, e, s => (evT g a e s).bind fun k s1 => if k then .ok true s1 else evT g b e s1
  | .no a, e, s => (evT g a e s).bind fun k s1 => .ok (!k) s1
  | .one a, e, s => evT g a e s
  | .nil, _, s => .ok true s
  | .cmp op a b, e, s => (ev g a e s).bind fun w s1 => (ev g b e s1).bind fun u s2 => (cop op w u s2).bind fun z s3 => toB z s3
  | .chain op op' a b c, e, s => (ev g a e s).bind fun w s1 => (ev g b e s1).bind fun u s2 => (cop op w u s2).bind fun z s3 => (toB z s3).bind fun k s3 => if k then (ev g c e s3).bind fun v s4 => (cop op' u v s4).bind fun z s5 => toB z s5 else .ok false s3
  | .var i, e, s => (rslot e i s).bind fun w s1 => toT w s1
  | .call x as, e, s => (evs g as e s).bind fun ws s1 => (g.call x ws s1).bind fun w s2 => toT w s2
  | .bi f as, e, s => (evs g as e s).bind fun ws s1 => (biW f ws s1).bind fun w s2 => toT w s2
  | .isi a t, e, s => (ev g a e s).bind fun w s1 => (ob (isiW t w) s1).bind fun w s2 => toT w s2
  | _, _, _ => .bad
end

inductive Ta where | name (i : Nat) | sub (o i : E) | nil | cons (t ts : Ta) | tup (ts : Ta)
inductive Tk where | set (i : Nat) | ret | exp
inductive Sf where | ret | set (i : Nat) | retEq (x : Str)
inductive B where
  | done
  | asg (t : Ta) (e : E) (k : B)
  | par2 (i j : Nat) (a b : E) (k : B)
  | par3 (i j l : Nat) (a b c : E) (k : B)
  | aug (i : Nat) (op : Bop) (e : E) (k : B)
  | ite (c : E) (t f : B) (k : B)
  | whl (c : E) (b : B) (k : B)
  | for_ (t : Tn) (ik : Ik) (as : E) (b : B) (k : B)
  | ret (e : E) (k : B) | retn (k : B) | brk (k : B) | ct (k : B)
  | pass (k : B)
  | exp (e : E) (k : B)
  | raise (c : Str) (k : B)
  | tryr (j : Nat) (t : Tk) (e : E) (f : Sf) (k : B)
inductive Fl where | nx (e : Sl) | rt (w : W) | bk (e : Sl) | ct (e : Sl)
def excNames : List (Str × Str) := [("NoFraction", "fraction"), ("NoPolynomial", "polynomial"), ("NoStretch", "stretch"), ("NoRow", "row"), ("NoPair", "pair"), ("NoBack", "back"), ("NoForm", "form"), ("NoParts", "parts"),
  ("NoDegree", "degree"), ("NoSteps", "steps"), ("NoBox", "box"), ("NoGain", "gain"), ("NoText", "text"), ("NoLine", "line"), ("NoName", "name"), ("NoDeed", "deed")]
def whichOf (c : Str) : Option Str := excNames.lookup c
def taN : Ta → Nat
  | .nil => 0
  | .cons _ ts => taN ts + 1
  | _ => 0
mutual
def asg (g : G) : Ta → W → Sl → Sto → R Sl
  | .name i, w, e, s => .ok (e.set i (some w)) s
  | .sub o i, w, e, s => (ev g o e s).bind fun ow s1 => (ev g i e s1).bind fun iw s2 => (setW ow iw w s2).bind fun _ s3 => .ok e s3
  | .tup ts, .tup ws, e, s => if ws.length = taN ts then asgs g ts ws e s else .bad
  | .tup ts, .loc n, e, s => match s[n]? with
    | some ws => if ws.length = taN ts then asgs g ts ws e s else .bad
    | none => .bad
  | _, _, _, _ => .bad
def asgs (g : G) : Ta → List W → Sl → Sto → R Sl
  | .nil, [], e, s => .ok e s
  | .cons t ts, w :: ws, e, s => (asg g t w e s).bind fun e1 s1 => asgs g ts ws e1 s1
  | _, _, _, _ => .bad
end
def whileL (c : Sl → Sto → R Bool) (b : Sl → Sto → R Fl) : Nat → Sl → Sto → R Fl
  | 0, _, _ => .bad
  | n + 1, e, s => (c e s).bind fun t s1 => if t then (b e s1).bind fun f s2 => match f with
      | .nx e' => whileL c b n e' s2
      | .ct e' => whileL c b n e' s2
      | .bk e' => .ok (.nx e') s2
      | .rt w => .ok (.rt w) s2
    else .ok (.nx e) s1
def forL (f : W → Sl → Sto → R Fl) : Nat → Src → Nat → Sl → Sto → R Fl
  | 0, _, _, _, _ => .bad
  | n + 1, src, i, e, s => match itAt src i s with
    | none => .bad
    | some none => .ok (.nx e) s
    | some (some w) => (f w e s).bind fun fl s2 => match fl with
      | .nx e' => forL f n src (i + 1) e' s2
      | .ct e' => forL f n src (i + 1) e' s2
      | .bk e' => .ok (.nx e') s2
      | .rt w => .ok (.rt w) s2
def thn (r : R Fl) (k : Sl → Sto → R Fl) : R Fl := r.bind fun f s => match f with
  | .nx e => k e s
  | f => .ok f s
def tryK (t : Tk) (k : Sl → Sto → R Fl) (e : Sl) (w : W) (s : Sto) : R Fl := match t with
  | .set i => k (e.set i (some w)) s
  | .ret => .ok (.rt w) s
  | .exp => k e s
def tryX (j : Nat) (f : Sf) (k : Sl → Sto → R Fl) (e : Sl) (c : Str) (s : Sto) : R Fl := match whichOf c with
  | none => .bad
  | some x => match f with
    | .ret => .ok (.rt (.tup [.str "refused", .str x])) s
    | .set i => k ((e.set i (some (.tup [.str "refused", .str x]))).set j none) s
    | .retEq y => .ok (.rt (.bl (decide (x = y)))) s
def exS (g : G) : B → Sl → Sto → R Fl
  | .done, e, s => .ok (.nx e) s
  | .asg t v k, e, s => (ev g v e s).bind fun w s1 => (asg g t w e s1).bind fun e1 s2 => exS g k e1 s2
  | .par2 i j a b k, e, s => (ev g a e s).bind fun w s1 => (ev g b e s1).bind fun u s2 => exS g k ((e.set i (some w)).set j (some u)) s2
  | .par3 i j l a b c k, e, s => (ev g a e s).bind fun w s1 => (ev g b e s1).bind fun u s2 => (ev g c e s2).bind fun v s3 => exS g k (((e.set i (some w)).set j (some u)).set l (some v)) s3
  | .aug i op v k, e, s => (rslot e i s).bind fun w s1 => (ev g v e s1).bind fun u s2 => (match op, w, u with
      | .add, .int x, .int y => R.ok (W.int (x + y)) s2
      | .sub, .int x, .int y => R.ok (W.int (x - y)) s2
      | _, _, _ => R.bad).bind fun z s3 => exS g k (e.set i (some z)) s3
  | .ite c t f k, e, s => (evT g c e s).bind fun b s1 => thn (if b then exS g t e s1 else exS g f e s1) (exS g k)
  | .whl c b k, e, s => thn (whileL (evT g c) (exS g b) big e s) (exS g k)
  | .for_ t ik as b k, e, s => (evs g as e s).bind fun ws s1 => match srcOf ik ws s1 with
    | none => .bad
    | some src => thn (forL (fun w e s => match tnSet t w e with
      | none => .bad
      | some e' => exS g b e' s) big src 0 e s1) (exS g k)
  | .ret v _, e, s => (ev g v e s).bind fun w s1 => .ok (.rt w) s1
  | .retn _, _, s => .ok (.rt .non) s
  | .brk _, e, s => .ok (.bk e) s
  | .ct _, e, s => .ok (.ct e) s
  | .pass k, e, s => exS g k e s
  | .exp v k, e, s => (ev g v e s).bind fun _ s1 => exS g k e s1
  | .raise c _, _, s => if g.ex c then .exc c s else .bad
  | .tryr j t v f k, e, s => if g.ex "_law_which" && decide (j < e.length) then (match ev g v e s with
    | .ok w s1 => tryK t (exS g k) e w s1
    | .exc c s1 => tryX j f (exS g k) e c s1
    | .bad => .bad)
    else .bad

structure Fi where
  ps : List Str
  names : List Str
  body : B
def evF (g : G) (fi : Fi) (ws : List W) (s : Sto) : R W :=
  if ws.length = fi.ps.length then (exS g fi.body (ws.map some ++ List.replicate (fi.names.length - ws.length) none) s).bind fun f s1 => match f with
    | .nx _ => .ok .non s1
    | .rt w => .ok w s1
    | _ => .bad
  else .bad
def gam (tab : Str → Option Fi) (con : Str → Option W) (ex : Str → Bool) : Nat → G
  | 0 => ⟨fun _ _ _ => .bad, con, fun x => (tab x).isSome, ex⟩
  | k + 1 => ⟨fun x ws s => match tab x with
    | some fi => evF (gam tab con ex k) fi ws s
    | none => .bad, con, fun x => (tab x).isSome, ex⟩
end Py

namespace Py
open PySem PySem.Spec PyProof.Rows L2

def FzL (K : PySem.W.Frag) (H : Hp) (a : Addr) (vs : List V) : Prop := (∃ o, H a = some (.frz o (.lst vs))) ∨
  ∃ (o : Obj) (its : Array Value) (n : Nat), K.lookup a = some o ∧ o.cls = .type "list" ∧ o.dict = none ∧ o.data = .seq its n ∧ its.size ≤ sizeLine ∧ Vals vs its.toList
section
variable (K : PySem.W.Frag) (mg : Str → Option Value)
mutual
def RW (io : List Addr) (H : Hp) : W → V → Prop
  | .non, v => v = .non
  | .bl b, v => v = .bl b
  | .int i, v => v = .int i
  | .str x, v => v = .str x
  | .tup ws, v => ∃ a vs, v = .ref a ∧ SqT K H a vs ∧ RWs io H ws vs
  | .loc n, v => ∃ a, v = .ref a ∧ io[n]? = some a
  | .cl ws, v => ∃ a vs, v = .ref a ∧ FzL K H a vs ∧ RWs io H ws vs
  | .fn x, v => ∃ f, v = .ref f ∧ mg x = some (.ref f)
def RWs (io : List Addr) (H : Hp) : List W → List V → Prop
  | [], vs => vs = []
  | w :: ws, vs => ∃ v r, vs = v :: r ∧ RW io H w v ∧ RWs io H ws r
end
structure Rel (io : List Addr) (H : Hp) (s : Sto) : Prop where
  len : io.length = s.length
  nd : io.Nodup
  at_ : ∀ (n : Nat) (a : Addr) (ws : List W), io[n]? = some a → s[n]? = some ws → ∃ vs, H a = some (.lst vs) ∧ RWs K mg io H ws vs
end
structure Stp (io : List Addr) (H : Hp) (io' : List Addr) (H' : Hp) : Prop where
  pre : ∃ r, io' = io ++ r
  old : ∀ b o, H b = some o → b ∉ io → H' b = some o
  new : ∀ a, a ∈ io' → a ∈ io ∨ H a = none
theorem Stp.refl {io : List Addr} {H : Hp} : Stp io H io H := ⟨⟨[], by simp⟩, fun _ _ h _ => h, fun _ h => .inl h⟩
theorem Stp.trans {io io1 io2 : List Addr} {H H1 H2 : Hp} (a : Stp io H io1 H1) (b : Stp io1 H1 io2 H2) : Stp io H io2 H2 := by
  obtain ⟨r1, e1⟩ := a.pre
  obtain ⟨r2, e2⟩ := b.pre
  refine ⟨⟨r1 ++ r2, by rw [e2, e1, List.append_assoc]⟩, fun c o h hn => ?_, fun c hc => ?_⟩
  · refine b.old c o (a.old c o h hn) fun z => ?_
    rcases a.new c z with z | z
    · exact hn z
    · rw [z] at h; cases h
  · rcases b.new c hc with z | z
    · exact a.new c z
    · by_cases hm : c ∈ io
      · exact .inl hm
      · refine .inr ?_
        cases q : H c with
        | none => rfl
        | some o => rw [a.old c o q hm] at z; cases z
theorem Stp.get {io io' : List Addr} {H H' : Hp} (t : Stp io H io' H') {n : Nat} {a : Addr} (h : io[n]? = some a) : io'[n]? = some a := by
  obtain ⟨r, e⟩ := t.pre
  rw [e, List.getElem?_append_left (List.getElem?_eq_some_iff.mp h).1]
  exact h
section
variable {K : PySem.W.Frag} {mg : Str → Option Value} {io io' : List Addr} {H H' : Hp} {s : Sto}
theorem Rel.lst (r : Rel K mg io H s) {a : Addr} (h : a ∈ io) : ∃ vs, H a = some (.lst vs) := by
  obtain ⟨n, hn⟩ := List.mem_iff_getElem?.mp h
  have hl : n < s.length := by rw [← r.len]; exact (List.getElem?_eq_some_iff.mp hn).1
  obtain ⟨vs, q, _⟩ := r.at_ n a _ hn (List.getElem?_eq_getElem hl)
  exact ⟨vs, q⟩
structure Kp (H H' : Hp) : Prop where
  tup : ∀ a xs, H a = some (.tup xs) → H' a = some (.tup xs)
  frz : ∀ a o u, H a = some (.frz o u) → H' a = some (.frz o u)
theorem Kp.refl {H : Hp} : Kp H H := ⟨fun _ _ h => h, fun _ _ _ h => h⟩
theorem Kp.sqT (k : Kp H H') {a : Addr} {vs : List V} (h : SqT K H a vs) : SqT K H' a vs := by
  rcases h with (h | ⟨o, h⟩) | h
  · exact .inl (.inl (k.tup _ _ h))
  · exact .inl (.inr ⟨o, k.frz _ _ _ h⟩)
  · exact .inr h
theorem Kp.fzL (k : Kp H H') {a : Addr} {vs : List V} (h : FzL K H a vs) : FzL K H' a vs := by
  rcases h with ⟨o, h⟩ | h
  · exact .inl ⟨o, k.frz _ _ _ h⟩
  · exact .inr h
mutual
theorem RW.keep (k : Kp H H') {r : List Addr} : ∀ (w : W) (v : V), RW K mg io H w v → RW K mg (io ++ r) H' w v
  | .non, _, h => h
  | .bl _, _, h => h
  | .int _, _, h => h
  | .str _, _, h => h
  | .tup ws, _, ⟨a, vs, e, h1, h2⟩ => ⟨a, vs, e, k.sqT h1, RWs.keep k ws vs h2⟩
  | .loc n, _, ⟨a, e, h⟩ => ⟨a, e, by rw [List.getElem?_append_left (List.getElem?_eq_some_iff.mp h).1]; exact h⟩
  | .cl ws, _, ⟨a, vs, e, h1, h2⟩ => ⟨a, vs, e, k.fzL h1, RWs.keep k ws vs h2⟩
  | .fn _, _, h => h
theorem RWs.keep (k : Kp H H') {r : List Addr} : ∀ (ws : List W) (vs : List V), RWs K mg io H ws vs → RWs K mg (io ++ r) H' ws vs
  | [], _, h => h
  | w :: ws, _, ⟨v, q, e, h1, h2⟩ => ⟨v, q, e, RW.keep k w v h1, RWs.keep k ws q h2⟩
end
theorem Rel.kp (r : Rel K mg io H s) (t : Stp io H io' H') : Kp H H' := by
  refine ⟨fun a xs h => t.old _ _ h fun z => ?_, fun a o u h => t.old _ _ h fun z => ?_⟩
  · obtain ⟨vs, q⟩ := r.lst z
    rw [h] at q
    cases q
  · obtain ⟨vs, q⟩ := r.lst z
    rw [h] at q
    cases q
theorem Rel.mono (r : Rel K mg io H s) (t : Stp io H io' H') (w : W) (v : V) (h : RW K mg io H w v) : RW K mg io' H' w v := by
  obtain ⟨q, rfl⟩ := t.pre
  exact RW.keep (r.kp t) w v h
theorem Rel.monos (r : Rel K mg io H s) (t : Stp io H io' H') (ws : List W) (vs : List V) (h : RWs K mg io H ws vs) : RWs K mg io' H' ws vs := by
  obtain ⟨q, rfl⟩ := t.pre
  exact RWs.keep (r.kp t) ws vs h
theorem RWs.length : ∀ {ws : List W} {vs : List V}, RWs K mg io H ws vs → ws.length = vs.length
  | [], vs, h => by rw [show vs = [] from h]; rfl
  | w :: ws, _, ⟨v, q, e, h1, h2⟩ => by rw [e, List.length_cons, List.length_cons, RWs.length h2]
theorem RWs.get : ∀ {ws : List W} {vs : List V} {i : Nat} {w : W}, RWs K mg io H ws vs → ws[i]? = some w → ∃ v, vs[i]? = some v ∧ RW K mg io H w v
  | [], _, _, _, _, e => by simp at e
  | x :: ws, _, 0, w, ⟨v, q, e, h1, h2⟩, e1 => by
    rw [List.getElem?_cons_zero] at e1
    cases e1
    exact ⟨v, by rw [e]; rfl, h1⟩
  | x :: ws, _, i + 1, w, ⟨v, q, e, h1, h2⟩, e1 => by
    rw [List.getElem?_cons_succ] at e1
    obtain ⟨u, q1, q2⟩ := RWs.get h2 e1
    exact ⟨u, by rw [e, List.getElem?_cons_succ]; exact q1, q2⟩
theorem RWs.of : ∀ {ws : List W} {vs : List V}, ws.length = vs.length → (∀ (i : Nat) w v, ws[i]? = some w → vs[i]? = some v → RW K mg io H w v) → RWs K mg io H ws vs
  | [], [], _, _ => rfl
  | w :: ws, v :: vs, hl, h => ⟨v, vs, rfl, h 0 w v rfl rfl, RWs.of (by simpa using hl) fun i x y h1 h2 => h (i + 1) x y (by simpa using h1) (by simpa using h2)⟩
  | [], _ :: _, hl, _ => by simp at hl
  | _ :: _, [], hl, _ => by simp at hl
theorem RWs.get2 {ws : List W} {vs : List V} (h : RWs K mg io H ws vs) {i : Nat} {w : W} {v : V} (h1 : ws[i]? = some w) (h2 : vs[i]? = some v) : RW K mg io H w v := by
  obtain ⟨u, q1, q2⟩ := h.get h1
  rw [h2] at q1; cases q1
  exact q2
theorem RWs.take {ws : List W} {vs : List V} (n : Nat) (h : RWs K mg io H ws vs) : RWs K mg io H (ws.take n) (vs.take n) := by
  refine RWs.of (by rw [List.length_take, List.length_take, h.length]) fun i w v h1 h2 => ?_
  rw [List.getElem?_take] at h1 h2
  split at h1
  · rename_i hi
    rw [if_pos hi] at h2
    exact h.get2 h1 h2
  · cases h1
theorem RWs.drop {ws : List W} {vs : List V} (n : Nat) (h : RWs K mg io H ws vs) : RWs K mg io H (ws.drop n) (vs.drop n) := by
  refine RWs.of (by rw [List.length_drop, List.length_drop, h.length]) fun i w v h1 h2 => ?_
  rw [List.getElem?_drop] at h1 h2
  exact h.get2 h1 h2
theorem RWs.reverse {ws : List W} {vs : List V} (h : RWs K mg io H ws vs) : RWs K mg io H ws.reverse vs.reverse := by
  refine RWs.of (by rw [List.length_reverse, List.length_reverse, h.length]) fun i w v h1 h2 => ?_
  have hl := h.length
  have hi : i < ws.length := by have := (List.getElem?_eq_some_iff.mp h1).1; rwa [List.length_reverse] at this
  rw [List.getElem?_reverse hi] at h1
  rw [List.getElem?_reverse (by omega)] at h2
  rw [← hl] at h2
  exact h.get2 h1 h2
theorem RWs.set {ws : List W} {vs : List V} {w : W} {v : V} (j : Nat) (h : RWs K mg io H ws vs) (hw : RW K mg io H w v) : RWs K mg io H (ws.set j w) (vs.set j v) := by
  refine RWs.of (by rw [List.length_set, List.length_set, h.length]) fun i x y h1 h2 => ?_
  rw [List.getElem?_set] at h1 h2
  by_cases e : j = i
  · rw [if_pos e] at h1 h2
    split at h1
    · split at h2
      · cases h1; cases h2; exact hw
      · cases h2
    · cases h1
  · rw [if_neg e] at h1 h2
    exact h.get2 h1 h2
theorem RWs.dropLast {ws : List W} {vs : List V} (h : RWs K mg io H ws vs) : RWs K mg io H ws.dropLast vs.dropLast := by
  rw [List.dropLast_eq_take, List.dropLast_eq_take, h.length]
  exact h.take _
theorem RWs.one {w : W} {v : V} (h : RW K mg io H w v) : RWs K mg io H [w] [v] := ⟨v, [], rfl, h, rfl⟩
theorem stp_new {p : Addr} {o : HO} (hp : H p = none) : Stp io H (io ++ [p]) (upd H p o) :=
  ⟨⟨[p], rfl⟩, fun b u h _ => by rw [upd_ne (ne_of_none h hp)]; exact h, fun a h => by
    rcases List.mem_append.mp h with h | h
    · exact .inl h
    · rw [List.mem_singleton.mp h]; exact .inr hp⟩
theorem stp_tup {p : Addr} {o : HO} (hp : H p = none) : Stp io H io (upd H p o) :=
  ⟨⟨[], by simp⟩, fun b u h _ => by rw [upd_ne (ne_of_none h hp)]; exact h, fun a h => .inl h⟩
theorem stp_mut {a : Addr} {o : HO} (ha : a ∈ io) : Stp io H io (upd H a o) :=
  ⟨⟨[], by simp⟩, fun b u h hn => by rw [upd_ne (fun z => hn (by rw [z]; exact ha))]; exact h, fun a h => .inl h⟩
theorem Rel.new (r : Rel K mg io H s) {p : Addr} {ws : List W} {vs : List V} (hp : H p = none) (h : RWs K mg io H ws vs) : Rel K mg (io ++ [p]) (upd H p (.lst vs)) (s ++ [ws]) := by
  have t : Stp io H (io ++ [p]) (upd H p (.lst vs)) := stp_new hp
  have np : p ∉ io := fun z => by
    obtain ⟨xs, q⟩ := r.lst z
    rw [hp] at q; cases q
  refine ⟨by rw [List.length_append, List.length_append, r.len]; rfl, ?_, fun n a us h1 h2 => ?_⟩
  · rw [List.nodup_append]
    refine ⟨r.nd, by simp, fun a ha b hb e => ?_⟩
    rw [List.mem_singleton.mp hb] at e
    exact np (by rw [← e]; exact ha)
  · by_cases hn : n < io.length
    · rw [List.getElem?_append_left hn] at h1
      rw [List.getElem?_append_left (by rw [← r.len]; exact hn)] at h2
      obtain ⟨xs, q1, q2⟩ := r.at_ n a us h1 h2
      exact ⟨xs, by rw [upd_ne (ne_of_none q1 hp)]; exact q1, r.monos t _ _ q2⟩
    · have e : n = io.length := by
        have := (List.getElem?_eq_some_iff.mp h1).1
        rw [List.length_append, List.length_singleton] at this
        omega
      subst e
      rw [List.getElem?_append_right (Nat.le_refl _), Nat.sub_self] at h1
      rw [r.len, List.getElem?_append_right (Nat.le_refl _), Nat.sub_self] at h2
      cases h1; cases h2
      exact ⟨vs, upd_same, r.monos t _ _ h⟩
theorem Rel.tup (r : Rel K mg io H s) {p : Addr} {o : HO} (hp : H p = none) : Rel K mg io (upd H p o) s :=
  ⟨r.len, r.nd, fun n a us h1 h2 => by
    obtain ⟨xs, q1, q2⟩ := r.at_ n a us h1 h2
    exact ⟨xs, by rw [upd_ne (ne_of_none q1 hp)]; exact q1, r.monos (stp_tup hp) _ _ q2⟩⟩
theorem Rel.mut (r : Rel K mg io H s) {n : Nat} {a : Addr} {ws : List W} {vs : List V} (ha : io[n]? = some a) (h : RWs K mg io H ws vs) : Rel K mg io (upd H a (.lst vs)) (s.set n ws) := by
  have t : Stp io H io (upd H a (.lst vs)) := stp_mut (List.mem_of_getElem? ha)
  refine ⟨by rw [List.length_set]; exact r.len, r.nd, fun m b us h1 h2 => ?_⟩
  by_cases e : n = m
  · subst e
    rw [ha] at h1; cases h1
    rw [List.getElem?_set_self (by rw [← r.len]; exact (List.getElem?_eq_some_iff.mp ha).1)] at h2
    cases h2
    exact ⟨vs, upd_same, r.monos t _ _ h⟩
  · rw [List.getElem?_set_ne e] at h2
    obtain ⟨xs, q1, q2⟩ := r.at_ m b us h1 h2
    have ne : b ≠ a := fun z => by
      obtain ⟨l1, e1⟩ := List.getElem?_eq_some_iff.mp ha
      obtain ⟨l2, e2⟩ := List.getElem?_eq_some_iff.mp h1
      exact e ((List.getElem_inj r.nd).mp (e1.trans (z.symm.trans e2.symm)))
    exact ⟨xs, by rw [upd_ne ne]; exact q1, r.monos t _ _ q2⟩
end

section
variable {K : PySem.W.Frag} {mg : Str → Option Value} {io io1 : List Addr} {H H1 : Hp} {s : Sto} {D : Addr} {xs ys : List V}
theorem Stp.add (t : Stp io H io1 H1) (hD : H D = none) : Stp io H (io1 ++ [D]) H1 :=
  ⟨let ⟨r, e⟩ := t.pre; ⟨r ++ [D], by rw [e, List.append_assoc]⟩, t.old, fun a h => by
    rcases List.mem_append.mp h with h | h
    · exact t.new a h
    · rw [List.mem_singleton.mp h]; exact .inr hD⟩
theorem Rel.add {ws : List W} (r : Rel K mg io H s) (hn : D ∉ io) (hD : H D = some (.lst xs)) (k : RWs K mg io H ws xs) : Rel K mg (io ++ [D]) H (s ++ [ws]) := by
  refine ⟨by rw [List.length_append, List.length_append, r.len]; rfl, ?_, fun n a us h1 h2 => ?_⟩
  · rw [List.nodup_append]
    refine ⟨r.nd, by simp, fun a ha b hb e => ?_⟩
    rw [List.mem_singleton.mp hb] at e
    exact hn (by rw [← e]; exact ha)
  · by_cases hl : n < io.length
    · rw [List.getElem?_append_left hl] at h1
      rw [List.getElem?_append_left (by rw [← r.len]; exact hl)] at h2
      obtain ⟨zs, q1, q2⟩ := r.at_ n a us h1 h2
      exact ⟨zs, q1, RWs.keep .refl _ _ q2⟩
    · have e : n = io.length := by
        have := (List.getElem?_eq_some_iff.mp h1).1
        rw [List.length_append, List.length_singleton] at this
        omega
      subst e
      rw [List.getElem?_append_right (Nat.le_refl _), Nat.sub_self] at h1
      rw [r.len, List.getElem?_append_right (Nat.le_refl _), Nat.sub_self] at h2
      cases h1; cases h2
      exact ⟨xs, hD, RWs.keep .refl _ _ k⟩
end
section
variable {K : PySem.W.Frag} {mg : Str → Option Value} {α β : Type}
abbrev KO (α : Type) := α → Sto → List Addr → Hp → Prop
variable (K mg) in
def Out (r : R α) (io : List Addr) (H : Hp) (Q : KO α) (X : KO Str) : Prop := match r with
  | .ok a s => ∀ io' H', Stp io H io' H' → Rel K mg io' H' s → Q a s io' H'
  | .exc c s => ∀ io' H', Stp io H io' H' → Rel K mg io' H' s → X c s io' H'
  | .bad => False
variable {r : R α} {io io' : List Addr} {H H' : Hp} {Q Q' : KO α} {X X' : KO Str} {s : Sto}
theorem Out.imp (h : Out K mg r io H Q X) (hq : ∀ a s io' H', Stp io H io' H' → Rel K mg io' H' s → Q a s io' H' → Q' a s io' H') (hx : ∀ a s io' H', Stp io H io' H' → Rel K mg io' H' s → X a s io' H' → X' a s io' H') : Out K mg r io H Q' X' := by
  cases r with
  | ok a s => exact fun i h' t e => hq _ _ _ _ t e (h i h' t e)
  | exc c s => exact fun i h' t e => hx _ _ _ _ t e (h i h' t e)
  | bad => exact h
theorem Out.after (h : Out K mg r io H Q X) (t : Stp io H io' H') : Out K mg r io' H' Q X := by
  cases r with
  | ok a s => exact fun i h' t' e => h i h' (t.trans t') e
  | exc c s => exact fun i h' t' e => h i h' (t.trans t') e
  | bad => exact h
theorem Out.bind {f : α → Sto → R β} {Q : KO β} (h : Out K mg (r.bind f) io H Q X) : Out K mg r io H (fun a s io' H' => Out K mg (f a s) io' H' Q X) X := by
  cases r with
  | ok a s => exact fun i h' t e => Out.after h t
  | exc c s => exact h
  | bad => exact h
theorem Out.here {a : α} (h : Out K mg (.ok a s) io H Q X) (e : Rel K mg io H s) : Q a s io H := h io H .refl e
theorem Out.alloc {ws : List W} {vs : List V} {p : Addr} {Q : KO W} (h : Out K mg (alloc ws s) io H Q X) (e : Rel K mg io H s) (k : RWs K mg io H ws vs) (hp : H p = none) : Q (.loc s.length) (s ++ [ws]) (io ++ [p]) (upd H p (.lst vs)) :=
  h _ _ (stp_new hp) (e.new hp k)
abbrev KV (K : PySem.W.Frag) (mg : Str → Option Value) (Q : VK) : KO W := fun w _ io' H' => ∀ v, RW K mg io' H' w v → Q v H'
theorem Out.val {w : W} {v : V} {Q : VK} (h : Out K mg (.ok w s) io H (KV K mg Q) X) (e : Rel K mg io H s) (k : RW K mg io H w v) : Q v H := h io H .refl e v k
end
end Py

namespace Py
open PySem PySem.Spec PyProof.Rows L2

section
variable {K : PySem.W.Frag} {mg : Str → Option Value} {io : List Addr} {H : Hp} {s : Sto}
end

def rB (K : PySem.W.Frag) (mg : Str → Option Value) (f : W → W → Sto → R W) : R2 := fun x y H Q => ∃ io s w u Z, RW K mg io H w x ∧ RW K mg io H u y ∧ Rel K mg io H s ∧ Out K mg (f w u s) io H (KV K mg Q) Z
def Bop.op : Bop → Operator
  | .add => .Add
  | .sub => .Sub
  | .mul => .Mult
  | .fdiv => .FloorDiv
  | .mod => .Mod
  | .pow => .Pow
  | .shl => .LShift
  | .cnt => .MatMult
def Bop.pl : Bop → Bool
  | .cnt => false
  | _ => true
def Cop.op : Cop → CmpOp
  | .eq => .Eq
  | .ne => .NotEq
  | .lt => .Lt
  | .le => .LtE
  | .gt => .Gt
  | .ge => .GtE
  | .isN => .Is
  | .notN => .IsNot
  | .isB => .Is
  | .notB => .IsNot
  | .inn => .In
  | .nin => .NotIn
section
variable {X : Cx} {k : Nat}
structure Seer (X : Cx) : Prop where
  at_ : X.A.frames = some X.stack → ∀ h : Heap, (∀ b o, X.base.get? b = some o → h.get? b = some o) → SeerAt (model X.prog X.w) X.A h
  dp : X.A.depth + Builtin.pylongFrames < recursionLimit
  un : X.A.units + 300 < cLine
end
end Py

namespace Py
open PySem PySem.Spec PyProof.Rows L2
section
variable {X : Cx} {k : Nat}
def rSl (K : PySem.W.Frag) (mg : Str → Option Value) : V → Option Int → Option Int → Hp → VK → Prop := fun x lo hi H Q => ∃ io s w Z, RW K mg io H w x ∧ Rel K mg io H s ∧ Out K mg (slW w lo hi s) io H (KV K mg Q) Z
def rBi (K : PySem.W.Frag) (mg : Str → Option Value) (f : Bi) : List V → Hp → VK → Prop := fun xs H Q => ∃ io s ws Z, RWs K mg io H ws xs ∧ Rel K mg io H s ∧ Out K mg (biW f ws s) io H (KV K mg Q) Z
def Bi.nm : Bi → Str
  | .len => "len"
  | .abs => "abs"
  | .max2 => "max"
  | .min2 => "min"
  | .int => "int"
  | .all => "all"
  | .any => "any"
  | .sum => "sum"
  | .list => "list"
  | .tuple => "tuple"
  | .str => "str"
  | .lrng => "list"
  | .trng => "tuple"
def Bi.pl : Bi → Bool
  | .lrng => false
  | .trng => false
  | _ => true
def Bi.val : Bi → Value
  | .len => .builtin "len"
  | .abs => .builtin "abs"
  | .max2 => .builtin "max"
  | .min2 => .builtin "min"
  | .int => .type "int"
  | .all => .builtin "all"
  | .any => .builtin "any"
  | .sum => .builtin "sum"
  | .list => .type "list"
  | .tuple => .type "tuple"
  | .str => .type "str"
  | .lrng => .type "list"
  | .trng => .type "tuple"
def rMt (K : PySem.W.Frag) (mg : Str → Option Value) (m : Mt) : V → List V → Hp → VK → Prop := fun x xs H Q => ∃ io s w ws Z, RW K mg io H w x ∧ RWs K mg io H ws xs ∧ Rel K mg io H s ∧ Out K mg (mtW m w ws s) io H (KV K mg Q) Z
def Mt.nm : Mt → Str
  | .append => "append"
  | .pop => "pop"
  | .popAt => "pop"
  | .extend => "extend"
  | .clear => "clear"
def Mt.id : Mt → String
  | .append => "list.append"
  | .pop => "list.pop"
  | .popAt => "list.pop"
  | .extend => "list.extend"
  | .clear => "list.clear"
theorem Out.set {io : List Addr} {H : Hp} {s : Sto} {n : Nat} {a : Addr} {w : W} {v : V} {ws : List W} {vs : List V} {Q : VK} {Z : KO Str} (o : Out X.K X.mg (.ok w (s.set n ws)) io H (KV X.K X.mg Q) Z) (e : Rel X.K X.mg io H s) (ha : io[n]? = some a)
    (k : RWs X.K X.mg io H ws vs) (kw : RW X.K X.mg io H w v) : Q v (upd H a (.lst vs)) :=
  o io _ (stp_mut (List.mem_of_getElem? ha)) (e.mut ha k) v (e.mono (stp_mut (List.mem_of_getElem? ha)) _ _ kw)
def rSt (K : PySem.W.Frag) (mg : Str → Option Value) : TSet := fun o i v H Q => ∃ io s ow iw w Z, RW K mg io H ow o ∧ RW K mg io H iw i ∧ RW K mg io H w v ∧ Rel K mg io H s ∧ Out K mg (setW ow iw w s) io H (fun _ s' io' H' => Q H') Z
end
end Py

namespace Py
open PySem PySem.Spec PyProof.Rows L2
def okN (x : Str) : Bool := !(x == ("__debug__" : Str)) && !(x == ("__classdict__" : Str))
def visB (sc : Scope) (x : Str) : Bool := match sc.names.lookup x with
  | some .local => true
  | some .cell => true
  | some .free => true
  | _ => false
def locB (sc : Scope) (x : Str) : Bool := match sc.names.lookup x with
  | some .local => true
  | some .cell => true
  | _ => false
def glB (sc : Scope) (x : Str) : Bool := sc.names.lookup x == some .globalImplicit
def noStar : Expr → Bool
  | .Starred _ _ => false
  | _ => true
def noSet : Expr → Bool
  | .Set _ _ _ => false
  | _ => true
def rcv : Expr → Bool
  | .Name _ _ => true
  | .Subscript _ _ _ => true
  | _ => false
def isNil : E → Bool
  | .nil => true
  | _ => false
def Ty.nm : Ty → Str
  | .int => "int"
  | .bool => "bool"
  | .tuple => "tuple"
  | .list => "list"
  | .str => "str"
  | .lt => ""
mutual
def mTn (N : List Str) (fb : Str → Bool) (sc : Scope) : Tn → Expr → Bool
  | .name i, t => match t with
    | .Name x _ => N[i]? == some x && (sc.names.lookup x == some .local || (sc.names.lookup x == some .cell && fb x))
    | _ => false
  | .tup ts, t => match t with
    | .Tuple es _ _ => mTns N fb sc ts es
    | _ => false
  | _, _ => false
def mTns (N : List Str) (fb : Str → Bool) (sc : Scope) : Tn → List Expr → Bool
  | .nil, ts => match ts with
    | [] => true
    | _ => false
  | .cons t ts, es => match es with
    | x :: xs => noStar x && mTn N fb sc t x && mTns N fb sc ts xs
    | _ => false
  | _, _ => false
end
def tnIx : Tn → List Nat
  | .name i => [i]
  | .nil => []
  | .cons t ts => tnIx t ++ tnIx ts
  | .tup ts => tnIx ts
def isTup : Expr → Bool
  | .Tuple _ _ _ => true
  | _ => false
def call1 (nm : Str) (q : List Expr → Bool) (sc : Scope) : Expr → Bool
  | .Call (.Name y _) [a] [] _ => y == nm && glB sc y && q [a]
  | _ => false
def call2 (nm : Str) (q : List Expr → Bool) (sc : Scope) : Expr → Bool
  | .Call (.Name y _) [a, b] [] _ => y == nm && glB sc y && q [a, b]
  | _ => false
def call3 (nm : Str) (q : List Expr → Bool) (sc : Scope) : Expr → Bool
  | .Call (.Name y _) [a, b, c] [] _ => y == nm && glB sc y && q [a, b, c]
  | _ => false
def cntB : E → Bool
  | .int _ => true
  | .neg (.int _) => true
  | _ => false
def mI (q : List Expr → Bool) (sc : Scope) (t : Expr) : Ik → Expr → Bool
  | .seq, x => q [x]
  | .rng1, x => call1 "range" q sc x
  | .rng2, x => call2 "range" q sc x
  | .rng3, x => call3 "range" q sc x
  | .enu, x => isTup t && call1 "enumerate" q sc x
  | .zip, x => isTup t && call2 "zip" q sc x
  | .rev, x => call1 "reversed" q sc x
def tyOne : Ty → Bool
  | .lt => false
  | _ => true
mutual
def mE (N : List Str) (D : Str → Bool) : E → Scope → Expr → Bool
  | .var i, sc, x => match x with
    | .Name y _ => N[i]? == some y && visB sc y && okN y
    | _ => false
  | .con n, sc, x => match x with
    | .Name y _ => n == y && glB sc y && okN y
    | _ => false
  | .fref n, sc, x => match x with
    | .Name y _ => n == y && glB sc y && okN y
    | _ => false
  | .int i, sc, x => match x with
    | .Constant (.int j) _ _ => i == j
    | _ => false
  | .bl b, sc, x => match x with
    | .Constant (.bool c) _ _ => b == c
    | _ => false
  | .non, sc, x => match x with
    | .Constant .none _ _ => true
    | _ => false
  | .str z, sc, x => match x with
    | .Constant (.str y) _ _ => z == y
    | _ => false
  | .bin op a b, sc, x => match x with
    | .BinOp p o q _ => op.pl && o == op.op && mE N D a sc p && mE N D b sc q
    | .Call (.Attribute p y ap) [q] [] cp => !op.pl && cntB b && rcv p && y == "count" && (ap.endLine == cp.line) && noStar q && mE N D a sc p && mE N D b sc q
    | _ => false
  | .neg a, sc, x => match x with
    | .UnaryOp .USub p _ => mE N D a sc p
    | _ => false
  | .no a, sc, x => match x with
    | .UnaryOp .Not p _ => mE N D a sc p
    | _ => false
  | .cmp op a b, sc, x => match x with
    | .Compare p [o] [q] _ => o == op.op && noSet q && mE N D a sc p && mE N D b sc q
    | _ => false
  | .chain op op' a b c, sc, x => match x with
    | .Compare p [o, o'] [q, r] _ => o == op.op && o' == op'.op && noSet r && mE N D a sc p && mE N D b sc q && mE N D c sc r
    | _ => false
  | .and a b, sc, x => match x with
    | .BoolOp .And (p :: q :: r) pos => mE N D a sc p && mE N D b sc (.BoolOp .And (q :: r) pos)
    | _ => false
  | .or a b, sc, x => match x with
    | .BoolOp .Or (p :: q :: r) pos => mE N D a sc p && mE N D b sc (.BoolOp .Or (q :: r) pos)
    | _ => false
  | .one a, sc, x => match x with
    | .BoolOp _ [p] _ => mE N D a sc p
    | _ => false
  | .ite c a b, sc, x => match x with
    | .IfExp t p q _ => mT N D c sc t && mE N D a sc p && mE N D b sc q
    | _ => false
  | .tup as, sc, x => match x with
    | .Tuple es _ _ => mEs N D as sc es
    | _ => false
  | .lst as, sc, x => match x with
    | .List es _ => mEs N D as sc es
    | _ => false
  | .ix a b, sc, x => match x with
    | .Subscript p q _ => (match q with
      | .Slice _ _ _ _ => false
      | _ => mE N D a sc p && mE N D b sc q)
    | _ => false
  | .sl a lo hi, sc, x => match x with
    | .Subscript p (.Slice l h none _) _ => mE N D a sc p && mO N D lo sc l && mO N D hi sc h
    | _ => false
  | .rv a, sc, x => match x with
    | .Subscript p (.Slice none none (some (.UnaryOp .USub (.Constant (.int i) _ _) _)) _) _ => i == 1 && mE N D a sc p
    | _ => false
  | .call f as, sc, x => match x with
    | .Call (.Name y _) (e :: es) [] _ => D f && f == y && glB sc y && okN y && mEs N D as sc (e :: es)
    | _ => false
  | .callv i as, sc, x => match x with
    | .Call (.Name y _) (e :: es) [] _ => N[i]? == some y && visB sc y && okN y && mEs N D as sc (e :: es)
    | _ => false
  | .bi f as, sc, x => match x with
    | .Call (.Name y _) (e :: es) [] _ => f.nm == y && glB sc y && (match f.pl with
      | true => mEs N D as sc (e :: es)
      | false => es.isEmpty && call1 "range" (mEs N D as sc) sc e)
    | _ => false
  | .mt m o as, sc, x => match x with
    | .Call (.Attribute p y ap) [] [] cp => rcv p && m.nm == y && (ap.endLine == cp.line) && mE N D o sc p && isNil as
    | .Call (.Attribute p y ap) (e :: es) [] cp => rcv p && m.nm == y && (ap.endLine == cp.line) && decide (es.length < 20) && mE N D o sc p && mEs N D as sc (e :: es)
    | _ => false
  | .isi a t, sc, x => match x with
    | .Call (.Name y _) [p, .Name z _] [] _ => tyOne t && y == "isinstance" && glB sc y && glB sc z && t.nm == z && noStar p && mE N D a sc p
    | .Call (.Name y _) [p, .Tuple [.Name z _, .Name u _] _ _] [] _ => (match t with
      | .lt => true
      | _ => false) && y == "isinstance" && glB sc y && glB sc z && glB sc u && z == "list" && u == "tuple" && noStar p && mE N D a sc p
    | _ => false
  | .comp own tg k as cond elt, sc, x => match x with
    | .ListComp el [⟨t, iter, ifs, as'⟩] scope _ => as' == 0 && blkC N sc scope own && mTn N (fun x => scope.names.lookup x == some .cell) (relS scope sc) tg t && (tnIx tg).all (fun i => decide (i ∈ own.map Prod.snd)) && noSet iter && mI (mEs N D as sc) sc t k iter &&
        (match ifs with
          | [] => isNil cond
          | [c] => mT N D cond (relS scope sc) c
          | _ => false) && mE N D elt (relS scope sc) el
    | _ => false
  | .nil, _, _ => false
  | .cons _ _, _, _ => false
def mEs (N : List Str) (D : Str → Bool) : E → Scope → List Expr → Bool
  | .nil, sc, xs => match xs with
    | [] => true
    | _ => false
  | .cons a as, sc, xs => match xs with
    | x :: r => noStar x && mE N D a sc x && mEs N D as sc r
    | _ => false
  | _, _, _ => false
def mO (N : List Str) (D : Str → Bool) : E → Scope → Option Expr → Bool
  | .nil, sc, x => match x with
    | none => true
    | _ => false
  | .one a, sc, x => match x with
    | some e => mE N D a sc e
    | _ => false
  | _, _, _ => false
def mT (N : List Str) (D : Str → Bool) : E → Scope → Expr → Bool
  | .and a b, sc, x => match x with
    | .BoolOp .And (p :: q :: r) pos => mT N D a sc p && mW N D b sc (.BoolOp .And (q :: r) pos)
    | _ => false
  | .or a b, sc, x => match x with
    | .BoolOp .Or (p :: q :: r) pos => mT N D a sc p && mW N D b sc (.BoolOp .Or (q :: r) pos)
    | _ => false
  | .no a, sc, x => match x with
    | .UnaryOp .Not p _ => mT N D a sc p
    | _ => false
  | .cmp op a b, sc, x => match x with
    | .Compare p [o] [q] _ => o == op.op && noSet q && mE N D a sc p && mE N D b sc q
    | _ => false
  | .chain op op' a b c, sc, x => match x with
    | .Compare p [o, o'] [q, r] _ => o == op.op && o' == op'.op && noSet r && mE N D a sc p && mE N D b sc q && mE N D c sc r
    | _ => false
  | .var i, sc, x => match x with
    | .Name y _ => N[i]? == some y && visB sc y && okN y
    | _ => false
  | .call f as, sc, x => match x with
    | .Call (.Name y _) (e :: es) [] _ => D f && f == y && glB sc y && okN y && mEs N D as sc (e :: es)
    | _ => false
  | .bi f as, sc, x => match x with
    | .Call (.Name y _) (e :: es) [] _ => f.pl && f.nm == y && glB sc y && mEs N D as sc (e :: es)
    | _ => false
  | .isi a t, sc, x => match x with
    | .Call (.Name y _) [p, .Name z _] [] _ => tyOne t && y == "isinstance" && glB sc y && glB sc z && t.nm == z && noStar p && mE N D a sc p
    | .Call (.Name y _) [p, .Tuple [.Name z _, .Name u _] _ _] [] _ => (match t with
      | .lt => true
      | _ => false) && y == "isinstance" && glB sc y && glB sc z && glB sc u && z == "list" && u == "tuple" && noStar p && mE N D a sc p
    | _ => false
  | _, _, _ => false
def mW (N : List Str) (D : Str → Bool) : E → Scope → Expr → Bool
  | .and a b, sc, x => match x with
    | .BoolOp .And (p :: q :: r) pos => mT N D a sc p && mW N D b sc (.BoolOp .And (q :: r) pos)
    | _ => false
  | .or a b, sc, x => match x with
    | .BoolOp .Or (p :: q :: r) pos => mT N D a sc p && mW N D b sc (.BoolOp .Or (q :: r) pos)
    | _ => false
  | .one a, sc, x => match x with
    | .BoolOp _ [p] _ => mT N D a sc p
    | _ => false
  | _, _, _ => false
end
end Py

namespace Py
open PySem PySem.Spec PyProof.Rows L2
structure RSl (K : PySem.W.Frag) (mg : Str → Option Value) (io : List Addr) (H : Hp) (e : Sl) (σ : L2.St) : Prop where
  len : e.length = σ.length
  at_ : ∀ (i : Nat) (w : W), e[i]? = some (some w) → ∃ v, σ[i]? = some (some v) ∧ RW K mg io H w v
section
variable {K : PySem.W.Frag} {mg : Str → Option Value} {io io' : List Addr} {H H' : Hp} {s : Sto} {e : Sl} {σ : L2.St}
theorem RSl.mono (h : RSl K mg io H e σ) (r : Rel K mg io H s) (t : Stp io H io' H') : RSl K mg io' H' e σ :=
  ⟨h.len, fun i w q => let ⟨v, a, b⟩ := h.at_ i w q; ⟨v, a, r.mono t w v b⟩⟩
theorem RSl.set (h : RSl K mg io H e σ) {w : W} {v : V} (i : Nat) (k : RW K mg io H w v) : RSl K mg io H (e.set i (some w)) (σ.set i (some v)) := by
  refine ⟨by rw [List.length_set, List.length_set, h.len], fun j u q => ?_⟩
  rw [List.getElem?_set] at q
  by_cases z : i = j
  · rw [if_pos z] at q
    split at q
    · rename_i hl
      cases q
      exact ⟨v, by rw [List.getElem?_set, if_pos z, if_pos (by rw [← h.len]; exact hl)], k⟩
    · cases q
  · rw [if_neg z] at q
    obtain ⟨x, a, b⟩ := h.at_ j u q
    exact ⟨x, by rw [List.getElem?_set, if_neg z]; exact a, b⟩
mutual
def gOf (K : PySem.W.Frag) : Tn → TG
  | .name i => gName i
  | .tup ts => gTup K (gLen ts) (gsOf K ts)
  | .nil => fun _ _ _ _ => False
  | .cons _ _ => fun _ _ _ _ => False
def gsOf (K : PySem.W.Frag) : Tn → TGs
  | .nil => gNil
  | .cons t ts => gCons (gOf K t) (gsOf K ts)
  | .name _ => fun _ _ _ _ => False
  | .tup _ => fun _ _ _ _ => False
def gLen : Tn → Nat
  | .nil => 0
  | .cons _ ts => gLen ts + 1
  | _ => 0
end
end
section
variable {X : Cx}
end
section
variable {K : PySem.W.Frag} {mg : Str → Option Value} {io io' : List Addr} {H H' : Hp} {s : Sto}
def JR (K : PySem.W.Frag) (mg : Str → Option Value) (src : Src) (J : It) (io0 : List Addr) (H0 : Hp) : Prop :=
  ∀ (io : List Addr) (H : Hp) (s : Sto), Stp io0 H0 io H → Rel K mg io H s → ∀ i, match itAt src i s with
    | none => True
    | some none => J.stop i H
    | some (some w) => J.go i H ∧ ∀ x H', J.yld i H x H' → Stp io H io H' ∧ Rel K mg io H' s ∧ RW K mg io H' w x
end
end Py

namespace Py
open PySem PySem.Spec PyProof.Rows L2
structure FnW (P : Program) (w : World) (K : PySem.W.Frag) (mg : Str → Option Value) (base : Heap) (CX : CXT) (k : Nat) (f : Addr) (fd : FuncData) (ps : List Str) (sp : Addr → Addr → Sp) : Prop where
  len : ∀ D a vs H Q E, sp D a vs H Q E → vs.length = ps.length
  run : ∀ (A : Around) (outer : List Env) (s : Shared) (H : Hp) (args : Args) (us : List Value) (vs : List V) (Q : VK) (E : XK) (a D : Addr) (oe : Obj), L2H.RoomH k A → A.mark (some (.ref a)) = A → Zc (.ref D) none oe → (∃ vs, oe.data = .fields vs) → L2H.PinOk outer H s (a, oe) →
    Env0 P w K mg base A outer s H → BindsTo s fd args (ps.zip us) → Vals vs us → sp D a vs H Q E → codeAny (model P w) A (.call (.ref f) args) (CR CX outer P w H s Q E) s
section
variable {P : Program} {w : World} {K : PySem.W.Frag} {mg : Str → Option Value} {base : Heap} {CX : CXT} {k : Nat} {f : Addr} {fd : FuncData} {x qual : Str} {params : Arguments} {body : List Stmt} {scope : Scope} {N ps : List Str} {sp : Addr → Addr → Sp}
end
section
variable {X : Cx} {CX : CXT} {k : Nat} {f a D : Addr} {oe : Obj} {fd : FuncData} {ps : List Str} {sp : Addr → Addr → Sp} {E : L2.St → XK} {x : Str} {q pos : Pos} {e : Expr} {es : List Expr} {t : TA}
end
def spWh (mg : Str → Option Value) (D a : Addr) : Sp := fun vs H Q _ => vs = [.ref a] ∧ ∃ c x, whichOf c = some x ∧ mg c = some (.ref D) ∧ ∀ H', (∀ b o, H b = some o → H' b = some o) → Q (.str x) H'
structure Wh (P : Program) (w : World) (K : PySem.W.Frag) (mg : Str → Option Value) (base : Heap) : Prop where
  fn : ∃ f fd, mg "_law_which" = some (.ref f) ∧ PySem.W.keepIn K (.ref f) = true ∧ Binds K fd ["_law_e"] [] ∧ FnW P w K mg base (L2.CX P w) 1 f fd ["_law_e"] (spWh mg)
  ex : ∃ R, mg "RestError" = some (.ref R) ∧ ∀ c x C, whichOf c = some x → mg c = some (.ref C) → PySem.W.exmOne K (.ref C) (.ref R) = some true
end Py

namespace Py
open PySem PySem.Spec PyProof.Rows L2
def spG (K : PySem.W.Frag) (mg : Str → Option Value) (g : G) (x : Str) (n : Nat) : Sp := fun vs H Q E => vs.length = n ∧ ∃ io s ws, RWs K mg io H ws vs ∧ Rel K mg io H s ∧ Out K mg (g.call x ws s) io H (KV K mg Q) (fun c _ _ H' => ∀ C, mg c = some (.ref C) → E (.ref C) none H')
structure Fn1 (P : Program) (w : World) (K : PySem.W.Frag) (mg : Str → Option Value) (base : Heap) (k : Nat) (g : G) (x : Str) : Prop where
  ex : ∃ (f : Addr) (fd : FuncData) (ps : List Str), mg x = some (.ref f) ∧ PySem.W.keepIn K (.ref f) = true ∧ Binds K fd ps [] ∧ FnOk P w K mg base (L2.CX P w) k f fd ps (spG K mg g x ps.length) ∧ ∀ ws s, ws.length ≠ ps.length → g.call x ws s = .bad
abbrev veBm : List Value := [.type "ValueError", .type "Exception", .type "BaseException", .type "object"]
structure Ex1 (K : PySem.W.Frag) (mg : Str → Option Value) (c : Str) : Prop where
  ex : ∃ C, mg c = some (.ref C) ∧ PySem.W.excIn K C veBm "ValueError.__new__" = true ∧ PySem.W.keepIn K (.ref C) = true ∧ PySem.W.subIn K (.ref C) (.type "BaseException") = some true ∧ PySem.W.typeIn K (.ref C) = some (.type "type")
def bltNames : List Str := ["len", "abs", "max", "min", "int", "all", "any", "sum", "list", "tuple", "str", "range", "enumerate", "zip", "reversed", "isinstance", "bool", "ValueError"]
structure Mo (P : Program) (w : World) (K : PySem.W.Frag) (mg : Str → Option Value) (base : Heap) (k : Nat) (g : G) : Prop where
  fn : ∀ x, g.df x = true → Fn1 P w K mg base k g x
  nodf : ∀ x ws s, g.df x = false → g.call x ws s = .bad
  con : ∀ x c, g.con x = some c → ∃ u v, mg x = some u ∧ RelV v u ∧ ∀ io H, RW K mg io H c v
  blt : ∀ x, x ∈ bltNames → mg x = none
  exc : ∀ c, g.ex c = true → c ≠ "_law_which" → Ex1 K mg c
  wh : g.ex "_law_which" = true → Wh P w K mg base
abbrev Kx (mg : Str → Option Value) (W : WX) (σ : L2.St) : KO Str := fun c _ _ H' => ∀ C, mg c = some (.ref C) → W (.ref C) none σ H'
section
variable {α β : Type}
def tG (K : PySem.W.Frag) (mg : Str → Option Value) (W : WX) (f : Sl → Sto → R α) (Rv : List Addr → Hp → α → β → Prop) : L2.St → Hp → (β → Hp → Prop) → Prop := fun σ H Q =>
  ∃ io e s, RSl K mg io H e σ ∧ Rel K mg io H s ∧ Out K mg (f e s) io H (fun a _ io' H' => ∀ b, Rv io' H' a b → Q b H') (Kx mg W σ)
end
abbrev eqR {α : Type} : List Addr → Hp → α → α → Prop := fun _ _ a b => b = a
abbrev tE (K : PySem.W.Frag) (mg : Str → Option Value) (W : WX) (g : G) (a : E) : TE := tG K mg W (ev g a) (RW K mg)
abbrev tA (K : PySem.W.Frag) (mg : Str → Option Value) (W : WX) (g : G) (a : E) : TA := tG K mg W (evs g a) (RWs K mg)
abbrev tT (K : PySem.W.Frag) (mg : Str → Option Value) (W : WX) (g : G) (a : E) : TT := tG K mg W (evT g a) eqR
abbrev tP (K : PySem.W.Frag) (mg : Str → Option Value) (W : WX) (g : G) (a : E) : TO := tG K mg W (evO g a) eqR
def tI (K : PySem.W.Frag) (mg : Str → Option Value) (W : WX) (g : G) (k : Ik) (as : E) : TI := fun σ H R =>
  ∃ io e s, RSl K mg io H e σ ∧ Rel K mg io H s ∧ Out K mg (evs g as e s) io H (fun ws s' io' H' => ∃ src, srcOf k ws s' = some src ∧ ∀ J, JR K mg src J io' H' → R J H') (Kx mg W σ)
theorem PE.imp {X : Cx} {e : Expr} {t t' : TE} (h : PE X e t) (i : ∀ σ H Q, t' σ H Q → t σ H Q) : PE X e t' := ⟨fun pins s σ H Q I q => h.run pins s σ H Q I (i σ H Q q)⟩
theorem PT.imp {X : Cx} {e : Expr} {t t' : TT} (h : PT X e t) (i : ∀ σ H Q, t' σ H Q → t σ H Q) : PT X e t' := ⟨fun pins s σ H Q I q => h.run pins s σ H Q I (i σ H Q q)⟩
theorem PW.imp {X : Cx} {e : Expr} {t t' : TT} (h : PW X e t) (i : ∀ σ H Q, t' σ H Q → t σ H Q) : PW X e t' := ⟨fun wh pins s σ H Q I q => h.run wh pins s σ H Q I (i σ H Q q)⟩
theorem PA.imp {X : Cx} {e : List Expr} {t t' : TA} (h : PA X e t) (i : ∀ σ H Q, t' σ H Q → t σ H Q) : PA X e t' := ⟨fun p pins s σ H Q I q => h.run p pins s σ H Q I (i σ H Q q)⟩
theorem PO.imp {X : Cx} {e : Option Expr} {t t' : TO} (h : PO X e t) (i : ∀ σ H Q, t' σ H Q → t σ H Q) : PO X e t' := ⟨fun pins s σ H Q I q => h.run pins s σ H Q I (i σ H Q q)⟩
theorem PI.imp {X : Cx} {tg e : Expr} {t t' : TI} (h : PI X tg e t) (i : ∀ σ H Q, t' σ H Q → t σ H Q) : PI X tg e t' := ⟨fun pins s σ H Q I q => h.run pins s σ H Q I (i σ H Q q)⟩
theorem PI.or {X : Cx} {tg e : Expr} {t t' : TI} (h : PI X tg e t) (h' : PI X tg e t') : PI X tg e (fun σ H Q => t σ H Q ∨ t' σ H Q) := ⟨fun pins s σ H Q I q => q.elim (h.run pins s σ H Q I) (h'.run pins s σ H Q I)⟩
structure Good (X : Cx) (k : Nat) (g : G) (W : WX) : Prop where
  calm : X.calm = true
  room : Room k X.A
  nd : X.N.Nodup
  tk : Takes X W
  mo : Mo X.prog X.w X.K X.mg X.base k g
  seer : Seer X
section
variable {K : PySem.W.Frag} {mg : Str → Option Value} {io : List Addr} {H : Hp} {s : Sto}
def tyN : W → String
  | .non => "NoneType"
  | .bl _ => "bool"
  | .int _ => "int"
  | .str _ => "str"
  | .tup _ => "tuple"
  | .loc _ => "list"
  | .cl _ => "list"
  | .fn _ => ""
def Ty.tn : Ty → String
  | .int => "int"
  | .bool => "bool"
  | .tuple => "tuple"
  | .list => "list"
  | .str => "str"
  | .lt => ""
end
end Py

namespace Py
open PySem PySem.Spec PyProof.Rows L2
def tCallLS (i : Nat) (S : Addr → Sp → Prop) (E : L2.St → XK) (t : TA) : TE := fun σ H Q => ∃ f sp, σ[i]? = some (some (.ref f)) ∧ S f sp ∧ t σ H fun vs H1 => sp vs H1 Q (E σ)
section
variable {α β : Type} {K : PySem.W.Frag} {mg : Str → Option Value} {io : List Addr} {H : Hp} {s : Sto} {Q : KO α} {Z : KO Str}
theorem Out.toB {w : W} {Q : KO Bool} (o : Out K mg (toB w s) io H Q Z) : ∃ b, w = .bl b ∧ Out K mg (.ok b s) io H Q Z := by
  cases w <;> first | exact False.elim o | exact ⟨_, rfl, o⟩
theorem Out.toT {w : W} {Q : KO Bool} (o : Out K mg (Py.toT w s) io H Q Z) : ∃ b, truW w s = some b ∧ Out K mg (.ok b s) io H Q Z := by
  unfold Py.toT at o
  cases h : truW w s with
  | none => rw [h] at o; exact False.elim o
  | some b => rw [h] at o; exact ⟨b, rfl, o⟩
theorem Out.ob {b : Option Bool} {Q : KO W} (o : Out K mg (Py.ob b s) io H Q Z) : ∃ c, b = some c ∧ Out K mg (.ok (.bl c) s) io H Q Z := by
  cases b with
  | none => exact False.elim o
  | some c => exact ⟨c, rfl, o⟩
theorem Out.go {r : R α} {f : α → Sto → R β} {Q : KO β} {Q' : KO α} (o : Out K mg (r.bind f) io H Q Z) (h : ∀ a s io' H', Stp io H io' H' → Rel K mg io' H' s → Out K mg (f a s) io' H' Q Z → Q' a s io' H') : Out K mg r io H Q' Z :=
  o.bind.imp h fun _ _ _ _ _ _ z => z
end
section
variable {X : Cx} {k : Nat} {g : G} {W : WX}
end
end Py

namespace Py
open PySem PySem.Spec PyProof.Rows L2
section
variable {X : Cx} {k : Nat} {g : G} {W : WX}
abbrev PEx (X : Cx) (W : WX) (g : G) (a : E) (x : Expr) : Prop := PE X x (tE X.K X.mg W g a)
abbrev PTx (X : Cx) (W : WX) (g : G) (a : E) (x : Expr) : Prop := PT X x (tT X.K X.mg W g a)
abbrev PWx (X : Cx) (W : WX) (g : G) (a : E) (x : Expr) : Prop := PW X x (tT X.K X.mg W g a)
abbrev PAx (X : Cx) (W : WX) (g : G) (a : E) (x : List Expr) : Prop := PA X x (tA X.K X.mg W g a)
abbrev POx (X : Cx) (W : WX) (g : G) (a : E) (x : Option Expr) : Prop := PO X x (tP X.K X.mg W g a)
end
end Py

namespace Py
open PySem PySem.Spec PyProof.Rows L2
section
variable {X : Cx} {k : Nat} {g : G} {W : WX}
structure LS (X : Cx) (io1 : List Addr) (H1 : Hp) (D : Addr) (io : List Addr) (H : Hp) (s : Sto) (acc : List Py.W) (av : List V) : Prop where
  st : Stp io1 H1 io H
  rel : Rel X.K X.mg io H s
  nin : D ∉ io
  hD : H D = some (.lst av)
  kw : RWs X.K X.mg io H acc av
theorem LS.done {io1 io : List Addr} {H1 H : Hp} {s : Sto} {D : Addr} {acc : List Py.W} {av : List V} {Q : VK} {Z : KO Str} (l : LS X io1 H1 D io H s acc av) (h1 : H1 D = none) (o : Out X.K X.mg (alloc acc s) io1 H1 (KV X.K X.mg Q) Z) : Q (.ref D) H :=
  o (io ++ [D]) H (l.st.add h1) (l.rel.add l.nin l.hD l.kw) _ ⟨D, rfl, by rw [← l.rel.len, List.getElem?_append_right (Nat.le_refl _), Nat.sub_self]; rfl⟩
def compF (g : G) (own : List (Str × Nat)) (tg : Tn) (cond elt : E) (e : Sl) : Py.W → Sto → R (Option Py.W) := fun w s2 => R.noex (match tnSet tg w (wipeS e (own.map Prod.snd)) with
  | none => R.bad
  | some e' => (evT g cond e' s2).bind fun k s3 => if k then (ev g elt e' s3).bind fun v s4 => R.ok (some v) s4 else R.ok none s3)
theorem PTs.imp {e : List Expr} {t t' : TT} (h : PTs X e t) (i : ∀ σ H Q, t' σ H Q → t σ H Q) : PTs X e t' := ⟨fun pins s σ H Q I q => h.run pins s σ H Q I (i σ H Q q)⟩
end
section
variable {k : Nat} {g : G}
end
end Py

namespace Py
open PySem PySem.Spec PyProof.Rows L2
def isComp : Expr → Bool
  | .ListComp _ _ _ _ => true
  | .SetComp _ _ _ _ => true
  | .DictComp _ _ _ _ _ => true
  | _ => false
def notLoc (sc : Scope) : Expr → Bool
  | .Name y _ => !(sc.names.lookup y == some .local)
  | _ => true
def swNone (sc : Scope) : Expr → Expr → Bool
  | .Tuple ts _ _, .Tuple vs _ _ => ts.any (notLoc sc) || vs.all (foldedForSure 8)
  | .Tuple _ _ _, _ => true
  | .Subscript _ _ _, _ => true
  | _, _ => false
def lcSet (sc : Scope) (y : Str) (py : Pos) : Expr → Bool
  | .ListComp _ _ scope pos => py.line == pos.line && (scope.names.any fun (n, k) => n == y && (k == .local || k == .cell)) == false && sc.names.lookup y == some .local
  | _ => false
mutual
def mTa (N : List Str) (D : Str → Bool) (sc : Scope) : Ta → Expr → Bool
  | .name i, t => match t with
    | .Name x _ => N[i]? == some x && locB sc x
    | _ => false
  | .sub o i, t => match t with
    | .Subscript p q _ => (match q with
      | .Slice _ _ _ _ => false
      | _ => true) && mE N D o sc p && mE N D i sc q
    | _ => false
  | .tup ts, t => match t with
    | .Tuple es _ _ => mTas N D sc ts es
    | _ => false
  | _, _ => false
def mTas (N : List Str) (D : Str → Bool) (sc : Scope) : Ta → List Expr → Bool
  | .nil, ts => match ts with
    | [] => true
    | _ => false
  | .cons t ts, es => match es with
    | x :: xs => noStar x && mTa N D sc t x && mTas N D sc ts xs
    | _ => false
  | _, _ => false
end
def augOp : Bop → Bool
  | .add => true
  | .sub => true
  | _ => false
def wcB (sc : Scope) (n : Str) : Expr → Bool
  | .Call (.Name w _) [.Name m _] [] _ => w == "_law_which" && glB sc w && m == n
  | _ => false
def mTk (N : List Str) (D : Str → Bool) (sc : Scope) (t : Tk) (e : E) (b : Stmt) : Bool := match t with
  | .set i => (match b with
    | .Assign [.Name x _] v _ => N[i]? == some x && locB sc x && !isComp v && mE N D e sc v
    | _ => false)
  | .ret => (match b with
    | .Return (some v) _ => mE N D e sc v
    | _ => false)
  | .exp => (match b with
    | .Expr v _ => !isComp v && mE N D e sc v
    | _ => false)
def mSf (N : List Str) (sc : Scope) (n : Str) (f : Sf) (b : Stmt) : Bool := match f with
  | .ret => (match b with
    | .Return (some (.Tuple [.Constant (.str y) _ _, c] _ _)) _ => y == "refused" && wcB sc n c
    | _ => false)
  | .set i => (match b with
    | .Assign [.Name x _] (.Tuple [.Constant (.str y) _ _, c] _ _) _ => N[i]? == some x && locB sc x && y == "refused" && wcB sc n c
    | _ => false)
  | .retEq z => (match b with
    | .Return (some (.Compare c [.Eq] [.Constant (.str y) _ _] _)) _ => z == y && wcB sc n c
    | _ => false)
def mB (N : List Str) (D : Str → Bool) (sc : Scope) : B → List Stmt → Bool
  | .done, l => match l with
    | [] => true
    | _ => false
  | .asg t e k, l => match l with
    | .Assign [tg] v pos :: r => mTa N D sc t tg && mE N D e sc v && mB N D sc k r && (match tg with
      | .Name y py => if isComp v then lcSet sc y py v || (sc.names.lookup y == some .cell && (match v with
          | .ListComp _ _ _ _ => true
          | _ => false)) else true
      | _ => swNone sc tg v)
    | _ => false
  | .par2 i j a b k, l => match l with
    | .Assign [.Tuple [.Name x px, .Name y py] _ _] (.Tuple [p, q] _ _) _ :: r => N[i]? == some x && N[j]? == some y && sc.names.lookup x == some .local && sc.names.lookup y == some .local && !(x == y) && (py.line == px.line) &&
        noStar p && noStar q && !([p, q].all (foldedForSure 8)) && !([p, q].all (constantsAlone 8)) && mE N D a sc p && mE N D b sc q && mB N D sc k r
    | _ => false
  | .par3 i j m a b c k, l => match l with
    | .Assign [.Tuple [.Name x px, .Name y py, .Name z pz] _ _] (.Tuple [p, q, w] _ _) _ :: r => N[i]? == some x && N[j]? == some y && N[m]? == some z && sc.names.lookup x == some .local && sc.names.lookup y == some .local && sc.names.lookup z == some .local && !(x == y) && !(x == z) && !(y == z) && (py.line == px.line) && (pz.line == px.line) &&
        noStar p && noStar q && noStar w && !([p, q, w].all (foldedForSure 8)) && !([p, q, w].all (constantsAlone 8)) && mE N D a sc p && mE N D b sc q && mE N D c sc w && mB N D sc k r
    | _ => false
  | .aug i op e k, l => match l with
    | .AugAssign (.Name y _) o v _ :: r => augOp op && o == op.op && N[i]? == some y && locB sc y && mE N D e sc v && mB N D sc k r
    | _ => false
  | .ite c t f k, l => match l with
    | .If p x y _ :: r => mT N D c sc p && mB N D sc t x && mB N D sc f y && mB N D sc k r
    | _ => false
  | .whl c b k, l => match l with
    | .While p x [] _ :: r => mT N D c sc p && mB N D sc b x && mB N D sc k r
    | _ => false
  | .for_ t ik as b k, l => match l with
    | .For tg iter x [] _ :: r => mTn N (fun _ => true) sc t tg && noSet iter && mI (mEs N D as sc) sc tg ik iter && mB N D sc b x && mB N D sc k r
    | _ => false
  | .ret e k, l => match l with
    | [.Return (some v) _] => mE N D e sc v
    | _ => false
  | .retn k, l => match l with
    | [.Return none _] => true
    | _ => false
  | .brk k, l => match l with
    | [.Break _] => true
    | _ => false
  | .ct k, l => match l with
    | [.Continue _] => true
    | _ => false
  | .pass k, l => match l with
    | .Pass _ :: r => mB N D sc k r
    | _ => false
  | .exp e k, l => match l with
    | .Expr v _ :: r => !(isComp v) && mE N D e sc v && mB N D sc k r
    | _ => false
  | .raise c k, l => match l with
    | [.Raise (some (.Call (.Name y _) [.Constant (.str _) _ _] [] _)) none _] => y == c && glB sc y && okN y && !(c == "_law_which")
    | _ => false
  | .tryr j t e f k, l => match l with
    | .Try [bs] [.ExceptHandler (some (.Name rn _)) (some n) [su] _] [] [] _ :: r => rn == "RestError" && glB sc rn && N[j]? == some n && sc.names.lookup n == some .local && okN n && mTk N D sc t e bs && mSf N sc n f su && mB N D sc k r
    | _ => false
abbrev KxA (mg : Str → Option Value) (W : WX) : KO Str := fun c _ _ H' => ∀ C σ, mg c = some (.ref C) → W (.ref C) none σ H'
def KFl (K : PySem.W.Frag) (mg : Str → Option Value) (D : Ends) : KO Fl := fun f _ io' H' => match f with
  | .nx e => ∀ σ, RSl K mg io' H' e σ → D.nx σ H'
  | .rt w => ∀ v, RW K mg io' H' w v → D.rt v H'
  | .bk e => ∀ σ, RSl K mg io' H' e σ → D.bk σ H'
  | .ct e => ∀ σ, RSl K mg io' H' e σ → D.ct σ H'
def tB (K : PySem.W.Frag) (mg : Str → Option Value) (W : WX) (g : G) (b : B) : TS := fun D σ H => ∃ io e s, RSl K mg io H e σ ∧ Rel K mg io H s ∧ Out K mg (exS g b e s) io H (KFl K mg D) (KxA mg W)
theorem PSs.imp {X : Cx} {l : List Stmt} {t t' : TS} (h : PSs X l t) (i : ∀ D σ H, t' D σ H → t D σ H) : PSs X l t' := ⟨fun pins s σ H D I q => h.run pins s σ H D I (i D σ H q)⟩
structure GoodS (X : Cx) (k : Nat) (g : G) (W : WX) : Prop extends Good X k g W where
  kind : X.env.scope.kind = .function
  own : PassesOwn (model X.prog X.w) X.A X.env X.xe
  fn : ∀ x, X.fn x = true
  stk : X.stack = X.env :: X.outer
  frm : X.env.frame = some X.env.locals
section
variable {K : PySem.W.Frag} {mg : Str → Option Value} {W : WX} {g : G} {io : List Addr} {H : Hp} {s : Sto}
theorem Out.thn {r : R Fl} {k : B} {D : Ends} (o : Out K mg (Py.thn r (exS g k)) io H (KFl K mg D) (KxA mg W)) : Out K mg r io H (KFl K mg { D with nx := tB K mg W g k D }) (KxA mg W) := by
  refine Out.go o fun f s1 io1 H1 t1 r1 o1 => ?_
  cases f with
  | nx e => exact fun σ hs => ⟨io1, e, s1, hs, r1, o1⟩
  | rt w => exact o1.here r1
  | bk e => exact o1.here r1
  | ct e => exact o1.here r1
end
end Py

namespace Py
open PySem PySem.Spec PyProof.Rows L2
section
variable {k : Nat} {g : G} {W : WX} {X : Cx}
def tTa (K : PySem.W.Frag) (mg : Str → Option Value) (W : WX) (g : G) (t : Ta) : TG := fun v σ H Q => ∃ io e s w, RSl K mg io H e σ ∧ Rel K mg io H s ∧ RW K mg io H w v ∧ Out K mg (asg g t w e s) io H (fun e' _ io' H' => ∀ σ', RSl K mg io' H' e' σ' → Q σ' H') (KxA mg W)
def tTas (K : PySem.W.Frag) (mg : Str → Option Value) (W : WX) (g : G) (t : Ta) : TGs := fun vs σ H Q => ∃ io e s ws, RSl K mg io H e σ ∧ Rel K mg io H s ∧ RWs K mg io H ws vs ∧ Out K mg (asgs g t ws e s) io H (fun e' _ io' H' => ∀ σ', RSl K mg io' H' e' σ' → Q σ' H') (KxA mg W)
theorem PG.imp {x : Expr} {t t' : TG} (h : PG X x t) (i : ∀ v σ H Q, t' v σ H Q → t v σ H Q) : PG X x t' := ⟨fun pins s σ H v u Q I r q => h.run pins s σ H v u Q I r (i v σ H Q q)⟩
theorem PG.or {x : Expr} {t t' : TG} (h : PG X x t) (h' : PG X x t') : PG X x (fun v σ H Q => t v σ H Q ∨ t' v σ H Q) := ⟨fun pins s σ H v u Q I r q => q.elim (h.run pins s σ H v u Q I r) (h'.run pins s σ H v u Q I r)⟩
theorem PGs.imp {x : List Expr} {t t' : TGs} (h : PGs X x t) (i : ∀ v σ H Q, t' v σ H Q → t v σ H Q) : PGs X x t' := ⟨fun pins s σ H v u Q I r q => h.run pins s σ H v u Q I r (i v σ H Q q)⟩
def sfEnd (f : Sf) (x : Str) (D : Ends) (σ : L2.St) (H : Hp) : Prop := match f with
  | .ret => ∀ p, H p = none → D.rt (.ref p) (upd H p (.tup [.str "refused", .str x]))
  | .set i => ∀ p, H p = none → D.nx (σ.set i (some (.ref p))) (upd H p (.tup [.str "refused", .str x]))
  | .retEq y => D.rt (.bl (decide (x = y))) H
def tsf (mg : Str → Option Value) (j : Nat) (f : Sf) : Addr → Value → Option Addr → TS := fun a cls d D σ H => ∃ C c x, cls = .ref C ∧ d = none ∧ whichOf c = some x ∧ mg c = some (.ref C) ∧ σ[j]? = some (some (.ref a)) ∧
  ∀ H', (∀ b o, H b = some o → H' b = some o) → sfEnd f x D σ H'
def tTk (K : PySem.W.Frag) (mg : Str → Option Value) (g : G) (t : Tk) (e : E) (W : WX) : TS := match t with
  | .set i => tAsg (tE K mg W g e) (gName i)
  | .ret => tRet (tE K mg W g e)
  | .exp => tDrop (tE K mg W g e)
end
end Py

namespace Py
open PySem PySem.Spec PyProof.Rows L2
def rCntB (K : PySem.W.Frag) : V → List V → Hp → VK → Prop := fun x xs H Q => ∃ (p : Addr) (bs : List Bool) (b : Bool), x = .ref p ∧ xs = [.bl b] ∧ SqL K H p (bs.map V.bl) ∧ Q (.int (bs.count b : Nat)) H
end Py

namespace Py
open PySem PySem.Spec PyProof.Rows L2
def varB (N : List Str) (sc : Scope) (i : Nat) : Expr → Bool
  | .Name n _ => N[i]? == some n && (visB sc n && okN n)
  | _ => false
def glnB (sc : Scope) (c : Str) : Expr → Bool
  | .Name n _ => n == c && (glB sc n && okN n)
  | _ => false
def isB (N : List Str) (sc : Scope) (i : Nat) (c : Str) (x : Expr) : Bool := call2 "isinstance" (fun l => match l with
  | [a, b] => varB N sc i a && glnB sc c b
  | _ => false) sc x
def isBs (N : List Str) (sc : Scope) (i : Nat) : List Str → List Expr → Bool
  | [], es => es.isEmpty
  | c :: cs, es => match es with
    | e :: es => isB N sc i c e && isBs N sc i cs es
    | [] => false
structure Kit (X : Cx) (D : Addr) (c : Str) (b : Bool) : Prop where
  ex : ∃ C, X.mg c = some (.ref C) ∧ PySem.W.kitOne X.K (.ref D) (.ref C) = some b
section
variable {X : Cx} {a D : Addr} {oe : Obj} {i : Nat}
inductive Kits (X : Cx) (D : Addr) : List Str → List Bool → Prop
  | nil : Kits X D [] []
  | cons {c : Str} {b : Bool} {cs : List Str} {bs : List Bool} (h : Kit X D c b) (t : Kits X D cs bs) : Kits X D (c :: cs) (b :: bs)
end
end Py

namespace Py
open PySem PySem.Spec PyProof.Rows L2
def wN : List Str := ["_law_e", "_law_told", "_law_names"]
def wText : Str := "fraction polynomial stretch row pair back form parts degree steps box gain text line name deed"
def w1 (sc : Scope) (cs : List Str) : Stmt → Bool
  | .Assign [.Name t _] (.List es _) _ => t == "_law_told" && isBs wN sc 0 cs es
  | _ => false
def w2 (sc : Scope) (cs : List Str) : Stmt → Bool
  | .Assign [.Name t _] (.BinOp (.Name u _) .Add (.List es _) _) _ => t == "_law_told" && u == "_law_told" && isBs wN sc 0 cs es
  | _ => false
def w3 : Stmt → Bool
  | .Assign [.Name t _] (.Constant (.str x) _ _) _ => t == "_law_names" && x == wText
  | _ => false
def wM (m : Str) : Expr → Bool
  | .Call (.Attribute (.Name t _) n ap) [.Constant (.bool b) _ _] [] cp => t == "_law_told" && n == m && b && (ap.endLine == cp.line)
  | _ => false
def w4 (sc : Scope) : Stmt → Bool
  | .If (.BoolOp .Or [.Compare c [.NotEq] [.Constant (.int i) _ _] _, .UnaryOp .Not v _] _) [.Return (some (.Constant (.str o) _ _)) _] [] _ => wM "count" c && i == 1 && isB wN sc 0 "ValueError" v
  | _ => false
def w5 : Stmt → Bool
  | .Return (some (.Subscript (.Call (.Attribute (.Name n _) m ap) [.Constant (.str b) _ _] [] cp) ix _)) _ => n == "_law_names" && m == "split" && b == " " && (ap.endLine == cp.line) && wM "index" ix
  | _ => false
def wC1 : List Str := ["NoFraction", "NoPolynomial", "NoStretch", "NoRow"]
def wC2 : List Str := ["NoPair", "NoBack", "NoForm", "NoParts"]
def wC3 : List Str := ["NoDegree", "NoSteps", "NoBox", "NoGain"]
def wC4 : List Str := ["NoText", "NoLine", "NoName", "NoDeed"]
def whB (sc : Scope) : List Stmt → Bool
  | [a, b, c, d, n, i, r] => w1 sc wC1 a && w2 sc wC2 b && w2 sc wC3 c && w2 sc wC4 d && w3 n && w4 sc i && w5 r && (wN.all fun x => sc.names.lookup x == some .local)
  | _ => false
structure Clz (X : Cx) (D : Addr) (c : Str) : Prop where
  k : ∀ cs : List Str, (∀ d ∈ cs, ∃ x, whichOf d = some x) → Kits X D cs (cs.map fun d => decide (d = c))
  ex : ExcC X.K D
  ve : PySem.W.kitOne X.K (.ref D) (.type "ValueError") = some true
  mi : X.mg "isinstance" = none
  mv : X.mg "ValueError" = none
section
variable {X : Cx} {a D : Addr} {oe : Obj}
def WS (a : Addr) (H0 : Hp) (bs : List Bool) (σ : L2.St) (H : Hp) : Prop := ∃ p, σ = [some (.ref a), some (.ref p), none] ∧ H p = some (.lst (bs.map V.bl)) ∧ ∀ b o, H0 b = some o → H b = some o
end
end Py

namespace Py
open PySem PySem.Spec PyProof.Rows L2
def scopeB (fi : Fi) (sc : Scope) : Bool := (sc.kind == .function) && (sc.isCoroutine == false) && (sc.isGenerator == false) && decide fi.names.Nodup && decide (fi.names.take fi.ps.length = fi.ps) &&
  (fi.ps.all fun x => sc.names.lookup x == some .local || sc.names.lookup x == some .cell) && (sc.names.all fun y => !(y.2 == .free))
structure RowF (K : PySem.W.Frag) (mg : Str → Option Value) (st : Stmt) (x : Str) (fi : Fi) : Prop where
  ex : ∃ y f fd, mg x = some (.ref f) ∧ FunD K y y (defArgs st) (defBody st) (defScope st) [] [] f fd ∧ Binds K fd fi.ps []
  sc : scopeB fi (defScope st) = true
structure Fix (K : PySem.W.Frag) (mg : Str → Option Value) (tab : Str → Option Fi) (con : Str → Option W) (ex : Str → Bool) : Prop where
  rows : ∀ x fi, tab x = some fi → ∃ st, RowF K mg st x fi ∧ mB fi.names (fun x => (tab x).isSome) (defScope st) fi.body (defBody st) = true
  con : ∀ x c, con x = some c → ∃ u v, mg x = some u ∧ RelV v u ∧ ∀ io H, RW K mg io H c v
  blt : ∀ x, x ∈ bltNames → mg x = none
  exc : ∀ c, ex c = true → c ≠ "_law_which" → Ex1 K mg c
  wh : ∀ P w base, ex "_law_which" = true → Wh P w K mg base
section
variable {P : Program} {w : World} {K : PySem.W.Frag} {mg : Str → Option Value} {base : Heap} {tab : Str → Option Fi} {con : Str → Option W} {ex : Str → Bool}
structure Calm (P : Program) (base : Heap) : Prop where
  ns : base.NoSeer
  nt : P.given.tree = none
end
def plusF (K : PySem.W.Frag) (h : Heap) (l : List Addr) : PySem.W.Frag := K ++ l.filterMap fun a => (h.get? a).map fun o => (a, o)
end Py

namespace Py
open PySem PySem.Spec PyProof.Rows L2
def clzB (K : PySem.W.Frag) : Bool := excNames.all fun p => decide (PySem.W.findIn K (.ref (He.ga K p.1)) "__getattribute__" = some (some (.builtin "BaseException.__getattribute__"))) && decide (PySem.W.findIn K (.ref (He.ga K p.1)) "__getattr__" = some none) &&
  decide (PySem.W.subIn K (.ref (He.ga K p.1)) (.type "BaseException") = some true) && PySem.W.hasDictIn K (He.ga K p.1) && decide (PySem.W.findIn K (.ref (He.ga K p.1)) "__class__" = some (some (.builtin "object.__class__"))) &&
  decide (PySem.W.specialIn K (.builtin "object.__class__") "__get__" = some (some (.builtin "getset_descriptor.__get__"))) && decide (PySem.W.takesIn K (.builtin "object.__class__") = some true) && decide (PySem.W.mroIn K (He.ga K p.1) (.type "object") = some true) &&
  decide (PySem.W.kitOne K (.ref (He.ga K p.1)) (.type "ValueError") = some true) && decide (PySem.W.exmOne K (.ref (He.ga K p.1)) (.ref (He.ga K "RestError")) = some true) &&
  excNames.all fun q => decide (PySem.W.kitOne K (.ref (He.ga K p.1)) (.ref (He.ga K q.1)) = some (decide (q.1 = p.1)))
end Py

namespace Py
open PySem PySem.Spec PyProof.Rows L2
end Py

namespace Py
open PySem PySem.Spec PyProof.Rows L2
mutual
def cst (K : PySem.W.Frag) : W → Value → Bool
  | .non, u => (match u with
    | .none => true
    | _ => false)
  | .bl b, u => (match u with
    | .bool c => b == c
    | _ => false)
  | .int i, u => (match u with
    | .int j _ => decide (i = j)
    | _ => false)
  | .str x, u => (match u with
    | .str y _ => decide (x = y)
    | _ => false)
  | .tup ws, u => (match u with
    | .ref a => (match K.lookup a with
      | some ⟨.type c, _, .seq its _, _⟩ => decide (c = "tuple") && (decide (its.size ≤ sizeLine) && csts K ws its.toList)
      | _ => false)
    | _ => false)
  | .cl ws, u => (match u with
    | .ref a => (match K.lookup a with
      | some ⟨.type c, none, .seq its _, _⟩ => decide (c = "list") && (decide (its.size ≤ sizeLine) && csts K ws its.toList)
      | _ => false)
    | _ => false)
  | .loc _, _ => false
  | .fn _, _ => false
def csts (K : PySem.W.Frag) : List W → List Value → Bool
  | [], us => us.isEmpty
  | w :: ws, us => (match us with
    | u :: r => cst K w u && csts K ws r
    | [] => false)
end
section
variable {K : PySem.W.Frag} {mg : Str → Option Value}
end
def consB (cs : List (Str × W)) (K : PySem.W.Frag) : Bool := cs.all fun q => match PySem.W.nsIn K mainGlobals q.1 with
  | some (some u) => cst K q.2 u
  | _ => false
structure Row where
  x : Str
  i : Nat
  fi : Fi
  y : Str
def findR : List Row → Str → Option Row
  | [], _ => none
  | r :: rs, x => if r.x = x then some r else findR rs x
def findC {α : Type} : List (Str × α) → Str → Option α
  | [], _ => none
  | r :: rs, x => if r.1 = x then some r.2 else findC rs x
def tabR (rs : List Row) (x : Str) : Option Fi := (findR rs x).map (·.fi)
def exR (es : List Str) (c : Str) : Bool := es.any fun e => decide (e = c)
def rowD (top : Nat → Stmt) (r : Row) : He.DefD := ⟨(r.x, none), r.y, r.y, defArgs (top r.i), defBody (top r.i), defScope (top r.i), [], []⟩
def factsR (rs : List Row) (es : List Str) (xs : List He.Fa) : List He.Fa := (rs.map fun r => .glo r.x) ++ ((es.map fun c => .glo c) ++ ((es.map fun c => .exc c) ++ ((bltNames.map fun x => .free x) ++ xs)))
def lookB (top : Nat → Stmt) (ds : List Str) (r : Row) : Bool := scopeB r.fi (defScope (top r.i)) && mB r.fi.names (fun x => ds.any fun d => decide (d = x)) (defScope (top r.i)) r.fi.body (defBody (top r.i))
def BindR (top : Nat → Stmt) (r : Row) : Prop := ∀ (kV doc pm : Value) (an : Option Addr) (cdv ct : Value) (us : List Value), us.length = r.fi.ps.length →
  bindArgs (PySem.W.fnOf r.y r.y (defArgs (top r.i)) (defBody (top r.i)) (defScope (top r.i)) .none kV doc pm an cdv ct) ⟨us, []⟩ = pure (r.fi.ps.zip us)
def whR (i : Nat) : Row := ⟨"_law_which", i, ⟨["_law_e"], wN, .done⟩, "_law_which"⟩
def exW (wi : Option Nat) (es : List Str) : List Str := match wi with
  | none => es
  | some _ => "_law_which" :: es
def dW (top : Nat → Stmt) (wi : Option Nat) : List He.DefD := match wi with
  | none => []
  | some i => [rowD top (whR i)]
def xW (wi : Option Nat) : List He.Fa := match wi with
  | none => []
  | some _ => [.glo "_law_which"]
def lookW (top : Nat → Stmt) (wi : Option Nat) (es : List Str) : Bool := match wi with
  | none => !(es.any fun e => decide (e = "_law_which"))
  | some i => scopeB (whR i).fi (defScope (top i)) && whB (defScope (top i)) (defBody (top i)) && (excNames.all fun p => es.any fun e => decide (e = p.1)) && es.any fun e => decide (e = "RestError")
def clzW (wi : Option Nat) (K : PySem.W.Frag) : Bool := match wi with
  | none => true
  | some _ => clzB K
end Py

namespace Lw
open PySem PySem.Spec PyProof.Rows L2 Py
def fi_shared_divisor : Fi := ⟨["one", "other"], ["one", "other"], (.par2 0 1 (.bi .abs (.cons (.var 0) .nil)) (.bi .abs (.cons (.var 1) .nil)) (.whl (.cmp .gt (.var 1) (.int 0)) (.par2 0 1 (.var 1) (.bin .mod (.var 0) (.var 1)) .done) (.ret (.var 0) .done)))⟩
def fi_fraction : Fi := ⟨["top", "bottom"], ["top", "bottom", "divisor"], (.ite (.cmp .eq (.var 1) (.int 0)) (.raise "NoFraction" .done) .done (.asg (.name 2) (.call "shared_divisor" (.cons (.var 0) (.cons (.var 1) .nil))) (.ite (.cmp .lt (.var 1) (.int 0)) (.asg (.name 2) (.bin .sub (.int 0) (.var 2)) .done) .done (.ret (.tup (.cons (.bin .fdiv (.var 0) (.var 2)) (.cons (.bin .fdiv (.var 1) (.var 2)) .nil))) .done))))⟩
def fi_plus : Fi := ⟨["one", "other"], ["one", "other"], (.ret (.call "fraction" (.cons (.bin .add (.bin .mul (.ix (.var 0) (.int 0)) (.ix (.var 1) (.int 1))) (.bin .mul (.ix (.var 1) (.int 0)) (.ix (.var 0) (.int 1)))) (.cons (.bin .mul (.ix (.var 0) (.int 1)) (.ix (.var 1) (.int 1))) .nil))) .done)⟩
def fi_less : Fi := ⟨["one", "other"], ["one", "other"], (.ret (.call "fraction" (.cons (.bin .sub (.bin .mul (.ix (.var 0) (.int 0)) (.ix (.var 1) (.int 1))) (.bin .mul (.ix (.var 1) (.int 0)) (.ix (.var 0) (.int 1)))) (.cons (.bin .mul (.ix (.var 0) (.int 1)) (.ix (.var 1) (.int 1))) .nil))) .done)⟩
def fi_times : Fi := ⟨["one", "other"], ["one", "other"], (.ret (.call "fraction" (.cons (.bin .mul (.ix (.var 0) (.int 0)) (.ix (.var 1) (.int 0))) (.cons (.bin .mul (.ix (.var 0) (.int 1)) (.ix (.var 1) (.int 1))) .nil))) .done)⟩
def fi_over : Fi := ⟨["one", "other"], ["one", "other"], (.ret (.call "fraction" (.cons (.bin .mul (.ix (.var 0) (.int 0)) (.ix (.var 1) (.int 1))) (.cons (.bin .mul (.ix (.var 0) (.int 1)) (.ix (.var 1) (.int 0))) .nil))) .done)⟩
def fi_sign_of : Fi := ⟨["number"], ["number"], (.ret (.bin .sub (.bi .int (.cons (.cmp .gt (.ix (.var 0) (.int 0)) (.int 0)) .nil)) (.bi .int (.cons (.cmp .lt (.ix (.var 0) (.int 0)) (.int 0)) .nil))) .done)⟩
def fi_is_below : Fi := ⟨["one", "other"], ["one", "other"], (.ret (.cmp .lt (.bin .mul (.ix (.var 0) (.int 0)) (.ix (.var 1) (.int 1))) (.bin .mul (.ix (.var 1) (.int 0)) (.ix (.var 0) (.int 1)))) .done)⟩
def fi_row_lessened : Fi := ⟨["row", "number", "other"], ["row", "number", "other", "a", "b"], (.ret (.comp [("a", 3), ("b", 4)] (.tup (.cons (.name 3) (.cons (.name 4) .nil))) .zip (.cons (.var 0) (.cons (.var 2) .nil)) .nil (.call "less" (.cons (.var 3) (.cons (.call "times" (.cons (.var 1) (.cons (.var 4) .nil))) .nil)))) .done)⟩
def fi_place_of_lead : Fi := ⟨["rows", "i"], ["rows", "i", "k"], (.for_ (.name 2) .rng2 (.cons (.var 1) (.cons (.bi .len (.cons (.var 0) .nil)) .nil)) (.ite (.cmp .ne (.ix (.ix (.var 0) (.var 2)) (.var 1)) (.con "ZERO_tables")) (.ret (.var 2) .done) .done .done) (.ret .non .done))⟩
def fi_determinant : Fi := ⟨["table"], ["table", "rows", "found", "i", "k", "j"], (.asg (.name 1) (.bi .list (.cons (.var 0) .nil)) (.asg (.name 2) (.con "ONE_tables") (.for_ (.name 3) .rng1 (.cons (.bi .len (.cons (.var 0) .nil)) .nil) (.asg (.name 4) (.call "place_of_lead" (.cons (.var 1) (.cons (.var 3) .nil))) (.ite (.cmp .isN (.var 4) .non) (.ret (.con "ZERO_tables") .done) .done (.ite (.cmp .ne (.var 4) (.var 3)) (.asg (.tup (.cons (.sub (.var 1) (.var 3)) (.cons (.sub (.var 1) (.var 4)) .nil))) (.tup (.cons (.ix (.var 1) (.var 4)) (.cons (.ix (.var 1) (.var 3)) .nil))) (.asg (.name 2) (.call "less" (.cons (.con "ZERO_tables") (.cons (.var 2) .nil))) .done)) .done (.asg (.name 2) (.call "times" (.cons (.var 2) (.cons (.ix (.ix (.var 1) (.var 3)) (.var 3)) .nil))) (.for_ (.name 5) .rng2 (.cons (.bin .add (.var 3) (.int 1)) (.cons (.bi .len (.cons (.var 1) .nil)) .nil)) (.asg (.sub (.var 1) (.var 5)) (.call "row_lessened" (.cons (.ix (.var 1) (.var 5)) (.cons (.call "over" (.cons (.ix (.ix (.var 1) (.var 5)) (.var 3)) (.cons (.ix (.ix (.var 1) (.var 3)) (.var 3)) .nil))) (.cons (.ix (.var 1) (.var 3)) .nil)))) .done) .done))))) (.ret (.var 2) .done))))⟩
def fi_number_at : Fi := ⟨["p", "i"], ["p", "i"], (.ite (.cmp .lt (.var 1) (.bi .len (.cons (.var 0) .nil))) (.ret (.ix (.var 0) (.var 1)) .done) .done (.ret (.con "NOUGHT") .done))⟩
def fi_number_at_minors : Fi := ⟨["p", "power"], ["p", "power"], (.ite (.chain .le .lt (.int 0) (.var 1) (.bi .len (.cons (.var 0) .nil))) (.ret (.ix (.var 0) (.var 1)) .done) .done (.ret (.con "ZERO_minors") .done))⟩
def fi_steep : Fi := ⟨["p"], ["p", "many", "i", "j"], (.ite (.cmp .lt (.bi .len (.cons (.var 0) .nil)) (.int 2)) (.raise "NoPolynomial" .done) .done (.asg (.name 1) (.bin .sub (.bi .len (.cons (.var 0) .nil)) (.int 1)) (.ret (.comp [("i", 2)] (.name 2) .rng1 (.cons (.var 1) .nil) .nil (.comp [("j", 3)] (.name 3) .rng1 (.cons (.var 1) .nil) .nil (.call "number_at_minors" (.cons (.var 0) (.cons (.bin .add (.bin .sub (.bin .sub (.var 1) (.int 1)) (.bin .mul (.int 2) (.var 3))) (.var 2)) .nil))))) .done)))⟩
def fi_poly : Fi := ⟨["numbers"], ["numbers", "many"], (.asg (.name 1) (.bi .len (.cons (.var 0) .nil)) (.whl (.and (.cmp .gt (.var 1) (.int 0)) (.one (.cmp .eq (.ix (.var 0) (.bin .sub (.var 1) (.int 1))) (.con "NOUGHT")))) (.aug 1 .sub (.int 1) .done) (.ret (.bi .list (.cons (.sl (.var 0) .nil (.one (.var 1))) .nil)) .done)))⟩
def fi_number_at_polys : Fi := ⟨["p", "i"], ["p", "i"], (.ite (.cmp .lt (.var 1) (.bi .len (.cons (.var 0) .nil))) (.ret (.ix (.var 0) (.var 1)) .done) .done (.ret (.con "NOUGHT") .done))⟩
def fi_poly_sum : Fi := ⟨["p", "q"], ["p", "q", "i"], (.ret (.call "poly" (.cons (.comp [("i", 2)] (.name 2) .rng1 (.cons (.bi .max2 (.cons (.bi .len (.cons (.var 0) .nil)) (.cons (.bi .len (.cons (.var 1) .nil)) .nil))) .nil) .nil (.call "plus" (.cons (.call "number_at_polys" (.cons (.var 0) (.cons (.var 2) .nil))) (.cons (.call "number_at_polys" (.cons (.var 1) (.cons (.var 2) .nil))) .nil)))) .nil)) .done)⟩
def fi_poly_less : Fi := ⟨["p", "q"], ["p", "q", "i"], (.ret (.call "poly" (.cons (.comp [("i", 2)] (.name 2) .rng1 (.cons (.bi .max2 (.cons (.bi .len (.cons (.var 0) .nil)) (.cons (.bi .len (.cons (.var 1) .nil)) .nil))) .nil) .nil (.call "less" (.cons (.call "number_at_polys" (.cons (.var 0) (.cons (.var 2) .nil))) (.cons (.call "number_at_polys" (.cons (.var 1) (.cons (.var 2) .nil))) .nil)))) .nil)) .done)⟩
def fi_poly_times : Fi := ⟨["p", "q"], ["p", "q", "found", "i", "one", "j", "other"], (.ite (.or (.cmp .eq (.var 0) (.lst .nil)) (.one (.cmp .eq (.var 1) (.lst .nil)))) (.ret (.lst .nil) .done) .done (.asg (.name 2) (.bin .mul (.lst (.cons (.con "NOUGHT") .nil)) (.bin .sub (.bin .add (.bi .len (.cons (.var 0) .nil)) (.bi .len (.cons (.var 1) .nil))) (.int 1))) (.for_ (.tup (.cons (.name 3) (.cons (.name 4) .nil))) .enu (.cons (.var 0) .nil) (.for_ (.tup (.cons (.name 5) (.cons (.name 6) .nil))) .enu (.cons (.var 1) .nil) (.asg (.sub (.var 2) (.bin .add (.var 3) (.var 5))) (.call "plus" (.cons (.ix (.var 2) (.bin .add (.var 3) (.var 5))) (.cons (.call "times" (.cons (.var 4) (.cons (.var 6) .nil))) .nil))) .done) .done) (.ret (.var 2) .done))))⟩
def fi_scaled : Fi := ⟨["number", "p"], ["number", "p", "one"], (.ret (.call "poly" (.cons (.comp [("one", 2)] (.name 2) .seq (.cons (.var 1) .nil) .nil (.call "times" (.cons (.var 0) (.cons (.var 2) .nil)))) .nil)) .done)⟩
def fi_worth : Fi := ⟨["p", "number"], ["p", "number", "found", "one"], (.asg (.name 2) (.con "NOUGHT") (.for_ (.name 3) .rev (.cons (.var 0) .nil) (.asg (.name 2) (.call "plus" (.cons (.call "times" (.cons (.var 2) (.cons (.var 1) .nil))) (.cons (.var 3) .nil))) .done) (.ret (.var 2) .done)))⟩
def fi_slope : Fi := ⟨["p"], ["p", "i"], (.ret (.comp [("i", 1)] (.name 1) .rng2 (.cons (.int 1) (.cons (.bi .len (.cons (.var 0) .nil)) .nil)) .nil (.call "times" (.cons (.tup (.cons (.var 1) (.cons (.int 1) .nil))) (.cons (.ix (.var 0) (.var 1)) .nil)))) .done)⟩
def fi_divided : Fi := ⟨["p", "q"], ["p", "q", "found", "rest", "at"], (.ite (.cmp .eq (.var 1) (.lst .nil)) (.raise "NoPolynomial" .done) .done (.asg (.name 2) (.bin .mul (.lst (.cons (.con "NOUGHT") .nil)) (.bi .max2 (.cons (.int 0) (.cons (.bin .add (.bin .sub (.bi .len (.cons (.var 0) .nil)) (.bi .len (.cons (.var 1) .nil))) (.int 1)) .nil)))) (.asg (.name 3) (.bi .list (.cons (.var 0) .nil)) (.whl (.cmp .ge (.bi .len (.cons (.var 3) .nil)) (.bi .len (.cons (.var 1) .nil))) (.asg (.name 4) (.bin .sub (.bi .len (.cons (.var 3) .nil)) (.bi .len (.cons (.var 1) .nil))) (.asg (.sub (.var 2) (.var 4)) (.call "over" (.cons (.ix (.var 3) (.neg (.int 1))) (.cons (.ix (.var 1) (.neg (.int 1))) .nil))) (.asg (.name 3) (.call "poly_less" (.cons (.var 3) (.cons (.bin .add (.bin .mul (.lst (.cons (.con "NOUGHT") .nil)) (.var 4)) (.call "scaled" (.cons (.ix (.var 2) (.var 4)) (.cons (.var 1) .nil)))) .nil))) .done))) (.ret (.tup (.cons (.var 2) (.cons (.var 3) .nil))) .done)))))⟩
def fi_with_lead_one : Fi := ⟨["some"], ["some", "p"], (.ite (.cmp .eq (.ix (.var 0) (.int 0)) (.lst .nil)) (.ret (.var 0) .done) .done (.ret (.comp [("p", 1)] (.name 1) .seq (.cons (.var 0) .nil) .nil (.call "scaled" (.cons (.call "over" (.cons (.con "ONE_numbers") (.cons (.ix (.ix (.var 0) (.int 0)) (.neg (.int 1))) .nil))) (.cons (.var 1) .nil)))) .done))⟩
def fi_common : Fi := ⟨["p", "q"], ["p", "q", "one", "other", "quotient", "later", "a", "b"], (.par2 2 3 (.call "with_lead_one" (.cons (.lst (.cons (.var 0) (.cons (.lst (.cons (.con "ONE_numbers") .nil)) (.cons (.lst .nil) .nil)))) .nil)) (.call "with_lead_one" (.cons (.lst (.cons (.var 1) (.cons (.lst .nil) (.cons (.lst (.cons (.con "ONE_numbers") .nil)) .nil)))) .nil)) (.whl (.cmp .ne (.ix (.var 3) (.int 0)) (.lst .nil)) (.asg (.name 4) (.ix (.call "divided" (.cons (.ix (.var 2) (.int 0)) (.cons (.ix (.var 3) (.int 0)) .nil))) (.int 0)) (.asg (.name 5) (.comp [("a", 6), ("b", 7)] (.tup (.cons (.name 6) (.cons (.name 7) .nil))) .zip (.cons (.var 2) (.cons (.var 3) .nil)) .nil (.call "poly_less" (.cons (.var 6) (.cons (.call "poly_times" (.cons (.var 4) (.cons (.var 7) .nil))) .nil)))) (.par2 2 3 (.var 3) (.call "with_lead_one" (.cons (.var 5) .nil)) .done))) (.ite (.cmp .eq (.ix (.var 2) (.int 0)) (.lst .nil)) (.ret (.tup (.cons (.lst .nil) (.cons (.lst .nil) (.cons (.lst .nil) .nil)))) .done) .done (.ret (.bi .tuple (.cons (.var 2) .nil)) .done))))⟩
def fi_parted : Fi := ⟨["p"], ["p", "left", "here", "found", "often", "again", "part"], (.ite (.cmp .eq (.var 0) (.lst .nil)) (.raise "NoPolynomial" .done) .done (.asg (.name 1) (.ix (.call "common" (.cons (.var 0) (.cons (.call "slope" (.cons (.var 0) .nil)) .nil))) (.int 0)) (.asg (.name 2) (.ix (.call "divided" (.cons (.var 0) (.cons (.var 1) .nil))) (.int 0)) (.asg (.name 3) (.lst .nil) (.asg (.name 4) (.int 1) (.whl (.cmp .gt (.bi .len (.cons (.var 2) .nil)) (.int 1)) (.asg (.name 5) (.ix (.call "common" (.cons (.var 2) (.cons (.var 1) .nil))) (.int 0)) (.asg (.name 6) (.ix (.call "divided" (.cons (.var 2) (.cons (.var 5) .nil))) (.int 0)) (.ite (.cmp .gt (.bi .len (.cons (.var 6) .nil)) (.int 1)) (.exp (.mt .append (.var 3) (.cons (.tup (.cons (.ix (.call "with_lead_one" (.cons (.lst (.cons (.var 6) .nil)) .nil)) (.int 0)) (.cons (.var 4) .nil))) .nil)) .done) .done (.asg (.name 2) (.var 5) (.asg (.name 1) (.ix (.call "divided" (.cons (.var 1) (.cons (.var 5) .nil))) (.int 0)) (.aug 4 .add (.int 1) .done)))))) (.ret (.var 3) .done)))))))⟩
def fi_changes_in : Fi := ⟨["some"], ["some", "known", "sign", "one", "other"], (.asg (.name 1) (.comp [("sign", 2)] (.name 2) .seq (.cons (.var 0) .nil) (.cmp .ne (.var 2) (.int 0)) (.var 2)) (.ret (.bi .len (.cons (.comp [("one", 3), ("other", 4)] (.tup (.cons (.name 3) (.cons (.name 4) .nil))) .zip (.cons (.var 1) (.cons (.sl (.var 1) (.one (.int 1)) .nil) .nil)) (.cmp .ne (.var 3) (.var 4)) (.int 1)) .nil)) .done))⟩
def fi_changes_at : Fi := ⟨["row", "number"], ["row", "number", "p"], (.ret (.call "changes_in" (.cons (.comp [("p", 2)] (.name 2) .seq (.cons (.var 0) .nil) .nil (.call "sign_of" (.cons (.call "worth" (.cons (.var 2) (.cons (.var 1) .nil))) .nil))) .nil)) .done)⟩
def fi_changes_below : Fi := ⟨["row"], ["row", "p"], (.ret (.call "changes_in" (.cons (.comp [("p", 1)] (.name 1) .seq (.cons (.var 0) .nil) .nil (.bin .mul (.call "sign_of" (.cons (.ix (.var 1) (.neg (.int 1))) .nil)) (.bin .sub (.int 1) (.bin .mul (.int 2) (.bin .mod (.bin .sub (.bi .len (.cons (.var 1) .nil)) (.int 1)) (.int 2)))))) .nil)) .done)⟩
def fi_changes_above : Fi := ⟨["row"], ["row", "p"], (.ret (.call "changes_in" (.cons (.comp [("p", 1)] (.name 1) .seq (.cons (.var 0) .nil) .nil (.call "sign_of" (.cons (.ix (.var 1) (.neg (.int 1))) .nil))) .nil)) .done)⟩
def fi_without_size : Fi := ⟨["p"], ["p"], (.ret (.call "scaled" (.cons (.call "over" (.cons (.con "ONE_numbers") (.cons (.tup (.cons (.bi .abs (.cons (.ix (.ix (.var 0) (.neg (.int 1))) (.int 0)) .nil)) (.cons (.ix (.ix (.var 0) (.neg (.int 1))) (.int 1)) .nil))) .nil))) (.cons (.var 0) .nil))) .done)⟩
def fi_simple_row : Fi := ⟨["p"], ["p", "here", "found"], (.asg (.name 1) (.call "without_size" (.cons (.ix (.call "divided" (.cons (.var 0) (.cons (.ix (.call "common" (.cons (.var 0) (.cons (.call "slope" (.cons (.var 0) .nil)) .nil))) (.int 0)) .nil))) (.int 0)) .nil)) (.asg (.name 2) (.lst (.cons (.var 1) .nil)) (.asg (.name 1) (.call "slope" (.cons (.var 1) .nil)) (.whl (.cmp .ne (.var 1) (.lst .nil)) (.exp (.mt .append (.var 2) (.cons (.call "without_size" (.cons (.var 1) .nil)) .nil)) (.asg (.name 1) (.call "scaled" (.cons (.tup (.cons (.neg (.int 1)) (.cons (.int 1) .nil))) (.cons (.ix (.call "divided" (.cons (.ix (.var 2) (.neg (.int 2))) (.cons (.ix (.var 2) (.neg (.int 1))) .nil))) (.int 1)) .nil))) .done)) (.ret (.var 2) .done)))))⟩
def fi_root_count : Fi := ⟨["p", "low", "high"], ["p", "low", "high", "row", "ahead", "behind"], (.ite (.cmp .eq (.var 0) (.lst .nil)) (.raise "NoPolynomial" .done) .done (.ite (.and (.cmp .notN (.var 1) .non) (.and (.cmp .notN (.var 2) .non) (.one (.no (.call "is_below" (.cons (.var 1) (.cons (.var 2) .nil))))))) (.raise "NoStretch" .done) .done (.asg (.name 3) (.call "simple_row" (.cons (.var 0) .nil)) (.asg (.name 4) (.ite (.cmp .isN (.var 1) .non) (.call "changes_below" (.cons (.var 3) .nil)) (.call "changes_at" (.cons (.var 3) (.cons (.var 1) .nil)))) (.asg (.name 5) (.ite (.cmp .isN (.var 2) .non) (.call "changes_above" (.cons (.var 3) .nil)) (.call "changes_at" (.cons (.var 3) (.cons (.var 2) .nil)))) (.ret (.bin .sub (.var 4) (.var 5)) .done))))))⟩
def fi_far_end : Fi := ⟨["p"], ["p", "found", "number", "share"], (.asg (.name 1) (.con "NOUGHT") (.for_ (.name 2) .seq (.cons (.sl (.var 0) .nil (.one (.neg (.int 1)))) .nil) (.asg (.name 3) (.call "over" (.cons (.var 2) (.cons (.ix (.var 0) (.neg (.int 1))) .nil))) (.asg (.name 3) (.tup (.cons (.bi .abs (.cons (.ix (.var 3) (.int 0)) .nil)) (.cons (.ix (.var 3) (.int 1)) .nil))) (.ite (.call "is_below" (.cons (.var 1) (.cons (.var 3) .nil))) (.asg (.name 1) (.var 3) .done) .done .done))) (.ret (.call "plus" (.cons (.var 1) (.cons (.con "ONE_numbers") .nil))) .done)))⟩
def fi_parting_point : Fi := ⟨["p", "low", "high"], ["p", "low", "high", "wide", "some", "tenth", "number"], (.asg (.name 3) (.call "less" (.cons (.var 2) (.cons (.var 1) .nil))) (.asg (.name 4) (.comp [("tenth", 5)] (.name 5) .seq (.cons (.con "TENTHS") .nil) .nil (.call "plus" (.cons (.var 1) (.cons (.call "times" (.cons (.tup (.cons (.var 5) (.cons (.int 10) .nil))) (.cons (.var 3) .nil))) .nil)))) (.ret (.ix (.comp [("number", 6)] (.name 6) .seq (.cons (.var 4) .nil) (.cmp .ne (.call "worth" (.cons (.var 0) (.cons (.var 6) .nil))) (.con "NOUGHT")) (.var 6)) (.int 0)) .done)))⟩
def fi_stretches_of : Fi := ⟨["p"], ["p", "row", "end", "waiting", "found", "low", "high", "many", "middle"], (.ite (.cmp .eq (.var 0) (.lst .nil)) (.raise "NoPolynomial" .done) .done (.asg (.name 1) (.call "simple_row" (.cons (.var 0) .nil)) (.asg (.name 2) (.call "far_end" (.cons (.var 0) .nil)) (.asg (.name 3) (.lst (.cons (.tup (.cons (.call "times" (.cons (.tup (.cons (.neg (.int 1)) (.cons (.int 1) .nil))) (.cons (.var 2) .nil))) (.cons (.var 2) .nil))) .nil)) (.asg (.name 4) (.lst .nil) (.whl (.cmp .ne (.var 3) (.lst .nil)) (.asg (.tup (.cons (.name 5) (.cons (.name 6) .nil))) (.mt .pop (.var 3) .nil) (.asg (.name 7) (.bin .sub (.call "changes_at" (.cons (.var 1) (.cons (.var 5) .nil))) (.call "changes_at" (.cons (.var 1) (.cons (.var 6) .nil)))) (.ite (.cmp .eq (.var 7) (.int 1)) (.exp (.mt .append (.var 4) (.cons (.tup (.cons (.var 5) (.cons (.var 6) .nil))) .nil)) .done) .done (.ite (.cmp .gt (.var 7) (.int 1)) (.asg (.name 8) (.call "parting_point" (.cons (.var 0) (.cons (.var 5) (.cons (.var 6) .nil)))) (.exp (.mt .append (.var 3) (.cons (.tup (.cons (.var 8) (.cons (.var 6) .nil))) .nil)) (.exp (.mt .append (.var 3) (.cons (.tup (.cons (.var 5) (.cons (.var 8) .nil))) .nil)) .done))) .done .done)))) (.ret (.var 4) .done)))))))⟩
def fi_powers_like : Fi := ⟨["p", "place"], ["p", "place", "i", "number"], (.ret (.call "poly" (.cons (.comp [("i", 2), ("number", 3)] (.tup (.cons (.name 2) (.cons (.name 3) .nil))) .enu (.cons (.var 0) .nil) .nil (.ite (.cmp .eq (.bin .mod (.var 2) (.int 2)) (.bin .mod (.var 1) (.int 2))) (.var 3) (.con "ZERO_divisions"))) .nil)) .done)⟩
def fi_divisions : Fi := ⟨["p"], ["p", "first", "second", "quotients", "quotient", "rest"], (.ite (.cmp .eq (.var 0) (.lst .nil)) (.raise "NoPolynomial" .done) .done (.par2 1 2 (.call "powers_like" (.cons (.var 0) (.cons (.bin .sub (.bi .len (.cons (.var 0) .nil)) (.int 1)) .nil))) (.call "powers_like" (.cons (.var 0) (.cons (.bi .len (.cons (.var 0) .nil)) .nil))) (.asg (.name 3) (.lst .nil) (.whl (.cmp .ne (.var 2) (.lst .nil)) (.asg (.tup (.cons (.name 4) (.cons (.name 5) .nil))) (.call "divided" (.cons (.var 1) (.cons (.var 2) .nil))) (.exp (.mt .append (.var 3) (.cons (.var 4) .nil)) (.par2 1 2 (.var 2) (.var 5) .done))) (.ret (.tup (.cons (.var 3) (.cons (.var 1) .nil))) .done)))))⟩
def fi_side_of : Fi := ⟨["quotient"], ["quotient", "degree"], (.asg (.name 1) (.bin .sub (.bi .len (.cons (.var 0) .nil)) (.int 1)) (.ite (.cmp .eq (.bin .mod (.bin .fdiv (.bin .sub (.var 1) (.int 1)) (.int 2)) (.int 2)) (.int 1)) (.ret (.bin .sub (.int 0) (.call "sign_of" (.cons (.ix (.var 0) (.var 1)) .nil))) .done) .done (.ret (.call "sign_of" (.cons (.ix (.var 0) (.var 1)) .nil)) .done)))⟩
def fi_on_axis : Fi := ⟨["last"], ["last", "often", "found", "part", "k", "i"], (.asg (.name 1) (.int 0) (.whl (.cmp .eq (.ix (.var 0) (.var 1)) (.con "ZERO_three")) (.aug 1 .add (.int 1) .done) (.asg (.name 2) (.var 1) (.for_ (.tup (.cons (.name 3) (.cons (.name 4) .nil))) .seq (.cons (.call "parted" (.cons (.comp [("i", 5)] (.name 5) .rng3 (.cons (.var 1) (.cons (.bi .len (.cons (.var 0) .nil)) (.cons (.int 2) .nil))) .nil (.ix (.var 0) (.var 5))) .nil)) .nil) (.aug 2 .add (.bin .mul (.bin .mul (.int 2) (.var 4)) (.call "root_count" (.cons (.var 3) (.cons .non (.cons (.con "ZERO_three") .nil))))) .done) (.ret (.var 2) .done)))))⟩
def fi_three : Fi := ⟨["p"], ["p", "quotients", "last", "on", "left", "right", "quotient"], (.asg (.tup (.cons (.name 1) (.cons (.name 2) .nil))) (.call "divisions" (.cons (.var 0) .nil)) (.asg (.name 3) (.call "on_axis" (.cons (.var 2) .nil)) (.asg (.name 4) (.bin .fdiv (.bin .sub (.bin .sub (.bi .len (.cons (.var 2) .nil)) (.int 1)) (.var 3)) (.int 2)) (.asg (.name 5) (.var 4) (.for_ (.name 6) .seq (.cons (.var 1) .nil) (.aug 4 .add (.bin .fdiv (.bin .add (.bin .sub (.bi .len (.cons (.var 6) .nil)) (.int 1)) (.call "side_of" (.cons (.var 6) .nil))) (.int 2)) (.aug 5 .add (.bin .fdiv (.bin .sub (.bin .sub (.bi .len (.cons (.var 6) .nil)) (.int 1)) (.call "side_of" (.cons (.var 6) .nil))) (.int 2)) .done)) (.ret (.tup (.cons (.var 4) (.cons (.var 3) (.cons (.var 5) .nil)))) .done))))))⟩
def fi_dies : Fi := ⟨["p"], ["p"], (.ret (.and (.cmp .ne (.var 0) (.lst .nil)) (.one (.cmp .eq (.ix (.call "three" (.cons (.var 0) .nil)) (.int 0)) (.bin .sub (.bi .len (.cons (.var 0) .nil)) (.int 1))))) .done)⟩
def fi_look_gain : Fi := ⟨["p", "q"], ["p", "q"], (.ite (.or (.no (.chain .le .le (.int 2) (.bi .len (.cons (.var 0) .nil)) (.bin .add (.con "MOST_DEGREE") (.int 1)))) (.one (.no (.chain .le .lt (.int 1) (.bi .len (.cons (.var 1) .nil)) (.bi .len (.cons (.var 0) .nil)))))) (.raise "NoGain" .done) .done .done)⟩
def fi_gained : Fi := ⟨["p", "q", "number"], ["p", "q", "number"], (.exp (.call "look_gain" (.cons (.var 0) (.cons (.var 1) .nil))) (.ret (.call "poly_sum" (.cons (.var 0) (.cons (.call "scaled" (.cons (.var 2) (.cons (.var 1) .nil))) .nil))) .done))⟩
def fi_edge_poly : Fi := ⟨["p", "q"], ["p", "q", "found", "base", "place", "at", "rest"], (.asg (.name 2) (.lst .nil) (.asg (.name 3) (.lst (.cons (.con "ONE_numbers") .nil)) (.for_ (.name 4) .rng1 (.cons (.bi .len (.cons (.var 0) .nil)) .nil) (.asg (.name 5) (.tup (.cons (.var 4) (.cons (.int 1) .nil))) (.asg (.name 6) (.call "less" (.cons (.call "determinant" (.cons (.call "steep" (.cons (.call "gained" (.cons (.var 0) (.cons (.var 1) (.cons (.var 5) .nil)))) .nil)) .nil)) (.cons (.call "worth" (.cons (.var 2) (.cons (.var 5) .nil))) .nil))) (.asg (.name 2) (.call "poly_sum" (.cons (.var 2) (.cons (.call "scaled" (.cons (.call "over" (.cons (.var 6) (.cons (.call "worth" (.cons (.var 3) (.cons (.var 5) .nil))) .nil))) (.cons (.var 3) .nil))) .nil))) (.asg (.name 3) (.call "poly_times" (.cons (.var 3) (.cons (.lst (.cons (.tup (.cons (.bin .sub (.int 0) (.var 4)) (.cons (.int 1) .nil))) (.cons (.con "ONE_numbers") .nil))) .nil))) .done)))) (.ret (.var 2) .done))))⟩
def fi_gains_of : Fi := ⟨["p", "q"], ["p", "q", "edge", "ends", "found", "low", "high", "at"], (.exp (.call "look_gain" (.cons (.var 0) (.cons (.var 1) .nil))) (.asg (.name 2) (.call "edge_poly" (.cons (.var 0) (.cons (.var 1) .nil))) (.ite (.cmp .eq (.var 2) (.lst .nil)) (.ret (.tup (.cons (.lst .nil) (.cons (.lst .nil) .nil))) .done) .done (.asg (.name 3) (.bin .add (.bin .add (.lst (.cons .non .nil)) (.call "stretches_of" (.cons (.var 2) .nil))) (.lst (.cons .non .nil))) (.asg (.name 4) (.lst .nil) (.for_ (.tup (.cons (.name 5) (.cons (.name 6) .nil))) .zip (.cons (.var 3) (.cons (.sl (.var 3) (.one (.int 1)) .nil) .nil)) (.asg (.name 7) (.con "NOUGHT") (.ite (.cmp .notN (.var 6) .non) (.asg (.name 7) (.ix (.var 6) (.int 0)) .done) (.ite (.cmp .notN (.var 5) .non) (.asg (.name 7) (.ix (.var 5) (.int 1)) .done) .done .done) (.ite (.call "dies" (.cons (.call "gained" (.cons (.var 0) (.cons (.var 1) (.cons (.var 7) .nil)))) .nil)) (.exp (.mt .append (.var 4) (.cons (.tup (.cons (.var 5) (.cons (.var 6) .nil))) .nil)) .done) .done .done))) (.ret (.tup (.cons (.var 2) (.cons (.var 4) .nil))) .done)))))))⟩
def fi__law_urn : Fi := ⟨["_law_script", "_law_at"], ["_law_script", "_law_at", "_law_cell", "_law_prime", "_law_great"], (.asg (.name 2) (.int 0) (.ite (.cmp .lt (.var 1) (.bi .len (.cons (.var 0) .nil))) (.asg (.name 2) (.ix (.var 0) (.var 1)) .done) .done (.asg (.name 3) (.ix (.tup (.cons (.int 1899999979) (.cons (.int 1899998977) (.cons (.int 1899997949) (.cons (.int 1899996929) (.cons (.int 1899995927) (.cons (.int 1899994903) (.cons (.int 1899993877) (.cons (.int 1899992839) .nil))))))))) (.bin .mod (.var 1) (.int 8))) (.asg (.name 4) (.int 0) (.ite (.cmp .ge (.bi .abs (.cons (.var 2) .nil)) (.bin .pow (.int 10) (.int 18))) (.asg (.name 4) (.bi .abs (.cons (.var 2) .nil)) .done) .done (.ret (.lst (.cons (.var 4) (.cons (.bin .mod (.bin .pow (.bin .add (.bin .add (.bin .mod (.var 2) (.var 3)) (.bin .mul (.int 65537) (.var 1))) (.int 101)) (.int 3)) (.var 3)) (.cons (.var 3) .nil)))) .done))))))⟩
def fi__law_draw : Fi := ⟨["_law_urn_here", "_law_many"], ["_law_urn_here", "_law_many", "_law_drawn"], (.ite (.cmp .gt (.ix (.var 0) (.int 0)) (.int 0)) (.asg (.name 2) (.bin .mod (.ix (.var 0) (.int 0)) (.var 1)) (.asg (.sub (.var 0) (.int 0)) (.bin .fdiv (.ix (.var 0) (.int 0)) (.var 1)) (.ret (.var 2) .done))) .done (.asg (.sub (.var 0) (.int 1)) (.bin .mod (.bin .add (.bin .mul (.ix (.var 0) (.int 1)) (.int 60013)) (.int 12289)) (.ix (.var 0) (.int 2))) (.ret (.bin .mod (.bin .fdiv (.bin .mod (.bin .pow (.bin .fdiv (.ix (.var 0) (.int 1)) (.int 16)) (.int 3)) (.int 1999999973)) (.int 8)) (.var 1)) .done)))⟩
def fi__law_low : Fi := ⟨["_law_top", "_law_bottom"], ["_law_top", "_law_bottom", "_law_one", "_law_other_here"], (.asg (.name 2) (.bi .abs (.cons (.var 0) .nil)) (.asg (.name 3) (.bi .abs (.cons (.var 1) .nil)) (.whl (.cmp .gt (.var 3) (.int 0)) (.par2 2 3 (.var 3) (.bin .mod (.var 2) (.var 3)) .done) (.ite (.cmp .lt (.var 1) (.int 0)) (.asg (.name 2) (.bin .sub (.int 0) (.var 2)) .done) .done (.ret (.tup (.cons (.bin .fdiv (.var 0) (.var 2)) (.cons (.bin .fdiv (.var 1) (.var 2)) .nil))) .done)))))⟩
def fi__law_plus : Fi := ⟨["_law_one", "_law_other_here"], ["_law_one", "_law_other_here"], (.ret (.call "_law_low" (.cons (.bin .add (.bin .mul (.ix (.var 0) (.int 0)) (.ix (.var 1) (.int 1))) (.bin .mul (.ix (.var 1) (.int 0)) (.ix (.var 0) (.int 1)))) (.cons (.bin .mul (.ix (.var 0) (.int 1)) (.ix (.var 1) (.int 1))) .nil))) .done)⟩
def fi__law_times : Fi := ⟨["_law_one", "_law_other_here"], ["_law_one", "_law_other_here"], (.ret (.call "_law_low" (.cons (.bin .mul (.ix (.var 0) (.int 0)) (.ix (.var 1) (.int 0))) (.cons (.bin .mul (.ix (.var 0) (.int 1)) (.ix (.var 1) (.int 1))) .nil))) .done)⟩
def fi__law_kind : Fi := ⟨["_law_urn_here"], ["_law_urn_here"], (.ret (.ix (.lst (.cons (.int 0) (.cons (.int 1) (.cons (.int 0) (.cons (.int 1) (.cons (.int 0) (.cons (.int 1) (.cons (.int 0) (.cons (.int 2) .nil))))))))) (.call "_law_draw" (.cons (.var 0) (.cons (.int 8) .nil)))) .done)⟩
def fi__law_number : Fi := ⟨["_law_urn_here", "_law_kind_here"], ["_law_urn_here", "_law_kind_here", "_law_top"], (.ite (.cmp .eq (.var 1) (.int 2)) (.asg (.name 2) (.bin .add (.bin .mul (.call "_law_draw" (.cons (.var 0) (.cons (.bin .pow (.int 10) (.int 6)) .nil))) (.bin .pow (.int 10) (.int 6))) (.call "_law_draw" (.cons (.var 0) (.cons (.bin .pow (.int 10) (.int 6)) .nil)))) (.ret (.call "_law_low" (.cons (.bin .mul (.var 2) (.ix (.lst (.cons (.int 1) (.cons (.neg (.int 1)) .nil))) (.call "_law_draw" (.cons (.var 0) (.cons (.int 2) .nil))))) (.cons (.bin .add (.int 1) (.bin .mul (.call "_law_draw" (.cons (.var 0) (.cons (.bin .pow (.int 10) (.int 6)) .nil))) (.bin .pow (.int 10) (.int 6)))) .nil))) .done)) .done (.ret (.call "_law_low" (.cons (.bin .sub (.call "_law_draw" (.cons (.var 0) (.cons (.int 19) .nil))) (.int 9)) (.cons (.bin .add (.int 1) (.bin .mul (.call "_law_draw" (.cons (.var 0) (.cons (.int 6) .nil))) (.bi .int (.cons (.cmp .eq (.var 1) (.int 0)) .nil)))) .nil))) .done))⟩
def fi__law_other : Fi := ⟨["_law_urn_here", "_law_kind_here"], ["_law_urn_here", "_law_kind_here", "_law_found"], (.asg (.name 2) (.call "_law_number" (.cons (.var 0) (.cons (.var 1) .nil))) (.ite (.cmp .eq (.ix (.var 2) (.int 0)) (.int 0)) (.ret (.tup (.cons (.bin .add (.int 1) (.call "_law_draw" (.cons (.var 0) (.cons (.int 3) .nil)))) (.cons (.int 1) .nil))) .done) .done (.ret (.var 2) .done)))⟩
def fi__law_trim : Fi := ⟨["_law_numbers"], ["_law_numbers", "_law_found"], (.asg (.name 1) (.bi .list (.cons (.var 0) .nil)) (.whl (.and (.cmp .ne (.var 1) (.lst .nil)) (.one (.cmp .eq (.ix (.ix (.var 1) (.neg (.int 1))) (.int 0)) (.int 0)))) (.exp (.mt .pop (.var 1) .nil) .done) (.ret (.var 1) .done)))⟩
def fi__law_poly_plus : Fi := ⟨["_law_p", "_law_q"], ["_law_p", "_law_q", "_law_found", "_law_i", "_law_one", "_law_other_here"], (.asg (.name 2) (.lst .nil) (.for_ (.name 3) .rng1 (.cons (.bi .max2 (.cons (.bi .len (.cons (.var 0) .nil)) (.cons (.bi .len (.cons (.var 1) .nil)) .nil))) .nil) (.asg (.name 4) (.ite (.cmp .lt (.var 3) (.bi .len (.cons (.var 0) .nil))) (.ix (.var 0) (.var 3)) (.tup (.cons (.int 0) (.cons (.int 1) .nil)))) (.asg (.name 5) (.ite (.cmp .lt (.var 3) (.bi .len (.cons (.var 1) .nil))) (.ix (.var 1) (.var 3)) (.tup (.cons (.int 0) (.cons (.int 1) .nil)))) (.exp (.mt .append (.var 2) (.cons (.call "_law_plus" (.cons (.var 4) (.cons (.var 5) .nil))) .nil)) .done))) (.ret (.call "_law_trim" (.cons (.var 2) .nil)) .done)))⟩
def fi__law_poly_often : Fi := ⟨["_law_number_here", "_law_p"], ["_law_number_here", "_law_p", "_law_one"], (.ret (.call "_law_trim" (.cons (.comp [("_law_one", 2)] (.name 2) .seq (.cons (.var 1) .nil) .nil (.call "_law_times" (.cons (.var 0) (.cons (.var 2) .nil)))) .nil)) .done)⟩
def fi__law_drawn_poly : Fi := ⟨["_law_urn_here", "_law_kind_here", "_law_most"], ["_law_urn_here", "_law_kind_here", "_law_most", "_law_i"], (.ret (.bin .add (.comp [("_law_i", 3)] (.name 3) .rng1 (.cons (.call "_law_draw" (.cons (.var 0) (.cons (.bin .add (.var 2) (.int 1)) .nil))) .nil) .nil (.call "_law_number" (.cons (.var 0) (.cons (.var 1) .nil)))) (.lst (.cons (.call "_law_other" (.cons (.var 0) (.cons (.var 1) .nil))) .nil))) .done)⟩
def fi__law_whole : Fi := ⟨["_law_thing"], ["_law_thing"], (.ret (.and (.isi (.var 0) .int) (.one (.no (.isi (.var 0) .bool)))) .done)⟩
def fi__law_is_number : Fi := ⟨["_law_thing"], ["_law_thing"], (.ite (.or (.no (.isi (.var 0) .tuple)) (.or (.cmp .ne (.bi .len (.cons (.var 0) .nil)) (.int 2)) (.or (.no (.call "_law_whole" (.cons (.ix (.var 0) (.int 0)) .nil))) (.one (.no (.call "_law_whole" (.cons (.ix (.var 0) (.int 1)) .nil))))))) (.ret (.bl false) .done) .done (.ret (.and (.cmp .gt (.ix (.var 0) (.int 1)) (.int 0)) (.one (.cmp .eq (.call "_law_low" (.cons (.ix (.var 0) (.int 0)) (.cons (.ix (.var 0) (.int 1)) .nil))) (.var 0)))) .done))⟩
def fi__law_is_poly : Fi := ⟨["_law_thing"], ["_law_thing", "_law_one"], (.ret (.and (.isi (.var 0) .list) (.and (.bi .all (.cons (.comp [("_law_one", 1)] (.name 1) .seq (.cons (.var 0) .nil) .nil (.call "_law_is_number" (.cons (.var 1) .nil))) .nil)) (.one (.cmp .eq (.call "_law_trim" (.cons (.var 0) .nil)) (.var 0))))) .done)⟩
def fi__law_said : Fi := ⟨["_law_p", "_law_q", "_law_number_here"], ["_law_p", "_law_q", "_law_number_here", "_law_found", "_law_e"], (.tryr 4 (.set 3) (.call "gained" (.cons (.var 0) (.cons (.var 1) (.cons (.var 2) .nil)))) .ret (.ret (.tup (.cons (.str "told") (.cons (.var 3) .nil))) .done))⟩
def fi__law_refused : Fi := ⟨["_law_p", "_law_q"], ["_law_p", "_law_q", "_law_e"], (.tryr 2 .exp (.call "gains_of" (.cons (.var 0) (.cons (.var 1) .nil))) (.retEq "gain") (.ret (.bl false) .done))⟩
def fi_law : Fi := ⟨["_law_script"], ["_law_script", "_law_at", "_law_urn_here", "_law_way", "_law_kind_here", "_law_p", "_law_q", "_law_number_here", "_law_handed", "_law_far", "_law_good", "_law_turn", "_law_word", "_law_found"], (.for_ (.name 1) .rng1 (.cons (.bi .max2 (.cons (.int 1) (.cons (.bi .min2 (.cons (.int 4) (.cons (.bi .len (.cons (.var 0) .nil)) .nil))) .nil))) .nil) (.asg (.name 2) (.call "_law_urn" (.cons (.var 0) (.cons (.var 1) .nil))) (.asg (.name 3) (.call "_law_draw" (.cons (.var 2) (.cons (.int 6) .nil))) (.asg (.name 4) (.call "_law_kind" (.cons (.var 2) .nil)) (.par2 5 6 (.call "_law_drawn_poly" (.cons (.var 2) (.cons (.var 4) (.cons (.int 7) .nil)))) (.call "_law_drawn_poly" (.cons (.var 2) (.cons (.var 4) (.cons (.int 7) .nil)))) (.asg (.name 7) (.call "_law_number" (.cons (.var 2) (.cons (.var 4) .nil))) (.ite (.cmp .eq (.var 3) (.int 0)) (.asg (.name 6) (.lst .nil) .done) .done (.ite (.cmp .eq (.var 3) (.int 1)) (.asg (.name 7) (.tup (.cons (.int 0) (.cons (.int 1) .nil))) .done) .done (.ite (.cmp .gt (.var 3) (.int 2)) (.asg (.name 5) (.bin .add (.sl (.var 5) .nil (.one (.int 5))) (.lst (.cons (.tup (.cons (.int 2) (.cons (.int 1) .nil))) .nil))) (.asg (.name 6) (.call "_law_trim" (.cons (.sl (.var 6) .nil (.one (.bin .sub (.bi .len (.cons (.var 5) .nil)) (.int 1)))) .nil)) .done)) .done (.par2 8 9 (.bi .list (.cons (.var 5) .nil)) (.bi .list (.cons (.var 6) .nil)) (.asg (.name 10) (.and (.chain .le .le (.int 2) (.bi .len (.cons (.var 5) .nil)) (.int 6)) (.one (.chain .le .lt (.int 1) (.bi .len (.cons (.var 6) .nil)) (.bi .len (.cons (.var 5) .nil))))) (.for_ (.name 11) .rng1 (.cons (.int 2) .nil) (.asg (.tup (.cons (.name 12) (.cons (.name 13) .nil))) (.call "_law_said" (.cons (.var 8) (.cons (.var 9) (.cons (.var 7) .nil)))) (.ite (.or (.cmp .ne (.var 8) (.var 5)) (.one (.cmp .ne (.var 9) (.var 6)))) (.ret (.bl false) .done) .done (.ite (.no (.var 10)) (.ite (.or (.cmp .ne (.tup (.cons (.var 12) (.cons (.var 13) .nil))) (.tup (.cons (.str "refused") (.cons (.str "gain") .nil)))) (.one (.no (.call "_law_refused" (.cons (.var 8) (.cons (.var 9) .nil)))))) (.ret (.bl false) .done) .done .done) (.ite (.or (.cmp .ne (.var 12) (.str "told")) (.one (.no (.call "_law_is_poly" (.cons (.var 13) .nil))))) (.ret (.bl false) .done) (.ite (.cmp .ne (.var 13) (.call "_law_poly_plus" (.cons (.var 5) (.cons (.call "_law_poly_often" (.cons (.var 7) (.cons (.var 6) .nil))) .nil)))) (.ret (.bl false) .done) .done (.exp (.mt .append (.var 13) (.cons (.tup (.cons (.int 1) (.cons (.int 1) .nil))) .nil)) .done)) .done) .done))) (.ite (.or (.cmp .ne (.call "_law_said" (.cons (.lst .nil) (.cons (.var 9) (.cons (.var 7) .nil)))) (.tup (.cons (.str "refused") (.cons (.str "gain") .nil)))) (.one (.no (.call "_law_refused" (.cons (.lst (.cons (.tup (.cons (.int 1) (.cons (.int 1) .nil))) .nil)) (.cons (.lst (.cons (.tup (.cons (.int 1) (.cons (.int 1) .nil))) .nil)) .nil)))))) (.ret (.bl false) .done) .done .done)))))))))))) (.ret (.bl true) .done))⟩
def rows : List Py.Row := [⟨"shared_divisor", 21, fi_shared_divisor, "shared_divisor"⟩, ⟨"fraction", 22, fi_fraction, "fraction"⟩, ⟨"plus", 23, fi_plus, "plus"⟩, ⟨"less", 24, fi_less, "less"⟩, ⟨"times", 25, fi_times, "times"⟩, ⟨"over", 26, fi_over, "over"⟩, ⟨"sign_of", 27, fi_sign_of, "sign_of"⟩, ⟨"is_below", 28, fi_is_below, "is_below"⟩, ⟨"row_lessened", 32, fi_row_lessened, "row_lessened"⟩, ⟨"place_of_lead", 33, fi_place_of_lead, "place_of_lead"⟩, ⟨"determinant", 34, fi_determinant, "determinant"⟩, ⟨"number_at", 42, fi_number_at, "number_at"⟩, ⟨"number_at_minors", 37, fi_number_at_minors, "number_at"⟩, ⟨"steep", 39, fi_steep, "steep"⟩, ⟨"poly", 41, fi_poly, "poly"⟩, ⟨"number_at_polys", 42, fi_number_at_polys, "number_at"⟩, ⟨"poly_sum", 44, fi_poly_sum, "poly_sum"⟩, ⟨"poly_less", 45, fi_poly_less, "poly_less"⟩, ⟨"poly_times", 46, fi_poly_times, "poly_times"⟩, ⟨"scaled", 47, fi_scaled, "scaled"⟩, ⟨"worth", 48, fi_worth, "worth"⟩, ⟨"slope", 49, fi_slope, "slope"⟩, ⟨"divided", 51, fi_divided, "divided"⟩, ⟨"with_lead_one", 52, fi_with_lead_one, "with_lead_one"⟩, ⟨"common", 53, fi_common, "common"⟩, ⟨"parted", 54, fi_parted, "parted"⟩, ⟨"changes_in", 57, fi_changes_in, "changes_in"⟩, ⟨"changes_at", 58, fi_changes_at, "changes_at"⟩, ⟨"changes_below", 59, fi_changes_below, "changes_below"⟩, ⟨"changes_above", 60, fi_changes_above, "changes_above"⟩, ⟨"without_size", 61, fi_without_size, "without_size"⟩, ⟨"simple_row", 62, fi_simple_row, "simple_row"⟩, ⟨"root_count", 63, fi_root_count, "root_count"⟩, ⟨"far_end", 64, fi_far_end, "far_end"⟩, ⟨"parting_point", 65, fi_parting_point, "parting_point"⟩, ⟨"stretches_of", 66, fi_stretches_of, "stretches_of"⟩, ⟨"powers_like", 69, fi_powers_like, "powers_like"⟩, ⟨"divisions", 70, fi_divisions, "divisions"⟩, ⟨"side_of", 73, fi_side_of, "side_of"⟩, ⟨"on_axis", 74, fi_on_axis, "on_axis"⟩, ⟨"three", 75, fi_three, "three"⟩, ⟨"dies", 76, fi_dies, "dies"⟩, ⟨"look_gain", 79, fi_look_gain, "look_gain"⟩, ⟨"gained", 80, fi_gained, "gained"⟩, ⟨"edge_poly", 81, fi_edge_poly, "edge_poly"⟩, ⟨"gains_of", 82, fi_gains_of, "gains_of"⟩, ⟨"_law_urn", 84, fi__law_urn, "_law_urn"⟩, ⟨"_law_draw", 85, fi__law_draw, "_law_draw"⟩, ⟨"_law_low", 86, fi__law_low, "_law_low"⟩, ⟨"_law_plus", 87, fi__law_plus, "_law_plus"⟩, ⟨"_law_times", 88, fi__law_times, "_law_times"⟩, ⟨"_law_kind", 89, fi__law_kind, "_law_kind"⟩, ⟨"_law_number", 90, fi__law_number, "_law_number"⟩, ⟨"_law_other", 91, fi__law_other, "_law_other"⟩, ⟨"_law_trim", 92, fi__law_trim, "_law_trim"⟩, ⟨"_law_poly_plus", 93, fi__law_poly_plus, "_law_poly_plus"⟩, ⟨"_law_poly_often", 94, fi__law_poly_often, "_law_poly_often"⟩, ⟨"_law_drawn_poly", 95, fi__law_drawn_poly, "_law_drawn_poly"⟩, ⟨"_law_whole", 96, fi__law_whole, "_law_whole"⟩, ⟨"_law_is_number", 97, fi__law_is_number, "_law_is_number"⟩, ⟨"_law_is_poly", 98, fi__law_is_poly, "_law_is_poly"⟩, ⟨"_law_said", 100, fi__law_said, "_law_said"⟩, ⟨"_law_refused", 101, fi__law_refused, "_law_refused"⟩, ⟨"law", 102, fi_law, "law"⟩]
def cons : List (Str × W) := [("NOUGHT", .tup [.int 0, .int 1]), ("ONE_numbers", .tup [.int 1, .int 1]), ("ZERO_tables", .tup [.int 0, .int 1]), ("ONE_tables", .tup [.int 1, .int 1]), ("ZERO_minors", .tup [.int 0, .int 1]), ("TENTHS", .tup [.int 5, .int 4, .int 6, .int 3, .int 7, .int 2, .int 8, .int 1, .int 9]), ("ZERO_divisions", .tup [.int 0, .int 1]), ("ZERO_three", .tup [.int 0, .int 1]), ("MOST_DEGREE", .int 5)]
def excl : List Str := ["RestError", "NoFraction", "NoPolynomial", "NoStretch", "NoRow", "NoPair", "NoBack", "NoForm", "NoParts", "NoDegree", "NoSteps", "NoBox", "NoGain", "NoText", "NoLine", "NoName", "NoDeed"]
def wi : Option Nat := some 99
abbrev exs : List Str := exW wi excl
end Lw

namespace Lw
open PySem PySem.Spec PyProof.Rows L2 Py
def top (i : Nat) : Stmt := PySem.Challenge.pw_restward_k53_gained.main.body.getD i (.Pass ⟨0, 0, 0, 0⟩)
theorem looks : ∀ r ∈ rows, lookB top (rows.map (·.x)) r = true := List.all_eq_true.mp (by decide +kernel : (rows.all fun r => lookB top (rows.map (·.x)) r) = true)
theorem bcons {top : Nat → Stmt} {r : Py.Row} {rs : List Py.Row} (h : BindR top r) (hs : ∀ r ∈ rs, BindR top r) : ∀ q ∈ r :: rs, BindR top q := fun q hq => by
  cases hq with
  | head => exact h
  | tail _ z => exact hs q z
theorem lookw : lookW top wi excl = true := by decide +kernel
theorem bindw : ∀ i, wi = some i → BindR top (whR i) := fun i h => by
  cases h
  exact fun _ _ _ _ _ _ us hl => match us, hl with | [_], _ => rfl
theorem binds : ∀ r ∈ rows, BindR top r := (bcons (fun _ _ _ _ _ _ us hl => match us, hl with | [_, _], _ => rfl) (bcons (fun _ _ _ _ _ _ us hl => match us, hl with | [_, _], _ => rfl) (bcons (fun _ _ _ _ _ _ us hl => match us, hl with | [_, _], _ => rfl) (bcons (fun _ _ _ _ _ _ us hl => match us, hl with | [_, _], _ => rfl) (bcons (fun _ _ _ _ _ _ us hl => match us, hl with | [_, _], _ => rfl) (bcons (fun _ _ _ _ _ _ us hl => match us, hl with | [_, _], _ => rfl) (bcons (fun _ _ _ _ _ _ us hl => match us, hl with | [_], _ => rfl) (bcons (fun _ _ _ _ _ _ us hl => match us, hl with | [_, _], _ => rfl) (bcons (fun _ _ _ _ _ _ us hl => match us, hl with | [_, _, _], _ => rfl) (bcons (fun _ _ _ _ _ _ us hl => match us, hl with | [_, _], _ => rfl) (bcons (fun _ _ _ _ _ _ us hl => match us, hl with | [_], _ => rfl) (bcons (fun _ _ _ _ _ _ us hl => match us, hl with | [_, _], _ => rfl) (bcons (fun _ _ _ _ _ _ us hl => match us, hl with | [_, _], _ => rfl) (bcons (fun _ _ _ _ _ _ us hl => match us, hl with | [_], _ => rfl) (bcons (fun _ _ _ _ _ _ us hl => match us, hl with | [_], _ => rfl) (bcons (fun _ _ _ _ _ _ us hl => match us, hl with | [_, _], _ => rfl) (bcons (fun _ _ _ _ _ _ us hl => match us, hl with | [_, _], _ => rfl) (bcons (fun _ _ _ _ _ _ us hl => match us, hl with | [_, _], _ => rfl) (bcons (fun _ _ _ _ _ _ us hl => match us, hl with | [_, _], _ => rfl) (bcons (fun _ _ _ _ _ _ us hl => match us, hl with | [_, _], _ => rfl) (bcons (fun _ _ _ _ _ _ us hl => match us, hl with | [_, _], _ => rfl) (bcons (fun _ _ _ _ _ _ us hl => match us, hl with | [_], _ => rfl) (bcons (fun _ _ _ _ _ _ us hl => match us, hl with | [_, _], _ => rfl) (bcons (fun _ _ _ _ _ _ us hl => match us, hl with | [_], _ => rfl) (bcons (fun _ _ _ _ _ _ us hl => match us, hl with | [_, _], _ => rfl) (bcons (fun _ _ _ _ _ _ us hl => match us, hl with | [_], _ => rfl) (bcons (fun _ _ _ _ _ _ us hl => match us, hl with | [_], _ => rfl) (bcons (fun _ _ _ _ _ _ us hl => match us, hl with | [_, _], _ => rfl) (bcons (fun _ _ _ _ _ _ us hl => match us, hl with | [_], _ => rfl) (bcons (fun _ _ _ _ _ _ us hl => match us, hl with | [_], _ => rfl) (bcons (fun _ _ _ _ _ _ us hl => match us, hl with | [_], _ => rfl) (bcons (fun _ _ _ _ _ _ us hl => match us, hl with | [_], _ => rfl) (bcons (fun _ _ _ _ _ _ us hl => match us, hl with | [_, _, _], _ => rfl) (bcons (fun _ _ _ _ _ _ us hl => match us, hl with | [_], _ => rfl) (bcons (fun _ _ _ _ _ _ us hl => match us, hl with | [_, _, _], _ => rfl) (bcons (fun _ _ _ _ _ _ us hl => match us, hl with | [_], _ => rfl) (bcons (fun _ _ _ _ _ _ us hl => match us, hl with | [_, _], _ => rfl) (bcons (fun _ _ _ _ _ _ us hl => match us, hl with | [_], _ => rfl) (bcons (fun _ _ _ _ _ _ us hl => match us, hl with | [_], _ => rfl) (bcons (fun _ _ _ _ _ _ us hl => match us, hl with | [_], _ => rfl) (bcons (fun _ _ _ _ _ _ us hl => match us, hl with | [_], _ => rfl) (bcons (fun _ _ _ _ _ _ us hl => match us, hl with | [_], _ => rfl) (bcons (fun _ _ _ _ _ _ us hl => match us, hl with | [_, _], _ => rfl) (bcons (fun _ _ _ _ _ _ us hl => match us, hl with | [_, _, _], _ => rfl) (bcons (fun _ _ _ _ _ _ us hl => match us, hl with | [_, _], _ => rfl) (bcons (fun _ _ _ _ _ _ us hl => match us, hl with | [_, _], _ => rfl) (bcons (fun _ _ _ _ _ _ us hl => match us, hl with | [_, _], _ => rfl) (bcons (fun _ _ _ _ _ _ us hl => match us, hl with | [_, _], _ => rfl) (bcons (fun _ _ _ _ _ _ us hl => match us, hl with | [_, _], _ => rfl) (bcons (fun _ _ _ _ _ _ us hl => match us, hl with | [_, _], _ => rfl) (bcons (fun _ _ _ _ _ _ us hl => match us, hl with | [_, _], _ => rfl) (bcons (fun _ _ _ _ _ _ us hl => match us, hl with | [_], _ => rfl) (bcons (fun _ _ _ _ _ _ us hl => match us, hl with | [_, _], _ => rfl) (bcons (fun _ _ _ _ _ _ us hl => match us, hl with | [_, _], _ => rfl) (bcons (fun _ _ _ _ _ _ us hl => match us, hl with | [_], _ => rfl) (bcons (fun _ _ _ _ _ _ us hl => match us, hl with | [_, _], _ => rfl) (bcons (fun _ _ _ _ _ _ us hl => match us, hl with | [_, _], _ => rfl) (bcons (fun _ _ _ _ _ _ us hl => match us, hl with | [_, _, _], _ => rfl) (bcons (fun _ _ _ _ _ _ us hl => match us, hl with | [_], _ => rfl) (bcons (fun _ _ _ _ _ _ us hl => match us, hl with | [_], _ => rfl) (bcons (fun _ _ _ _ _ _ us hl => match us, hl with | [_], _ => rfl) (bcons (fun _ _ _ _ _ _ us hl => match us, hl with | [_, _, _], _ => rfl) (bcons (fun _ _ _ _ _ _ us hl => match us, hl with | [_, _], _ => rfl) (bcons (fun _ _ _ _ _ _ us hl => match us, hl with | [_], _ => rfl) (fun _ h => by cases h)))))))))))))))))))))))))))))))))))))))))))))))))))))))))))))))))
end Lw

namespace Lw
open PySem PySem.Spec PyProof.Rows L2 Py
def nm0 : List PySem.Str := ["__name__", "RestError", "NoFraction", "NoPolynomial", "NoStretch", "NoRow", "NoPair", "NoBack", "NoForm", "NoParts", "NoDegree", "NoSteps", "NoBox", "NoGain", "NoText", "NoLine", "NoName", "NoDeed", "NOUGHT", "ONE_numbers", "shared_divisor", "fraction", "plus", "less", "times", "over", "sign_of", "is_below", "ZERO_tables", "ONE_tables"]
def nm1 : List PySem.Str := ["row_lessened", "place_of_lead", "determinant", "ZERO_minors", "number_at", "number_at_minors", "steep", "poly", "number_at_polys", "poly_sum", "poly_less", "poly_times", "scaled", "worth", "slope", "divided", "with_lead_one", "common", "parted", "TENTHS", "changes_in", "changes_at", "changes_below", "changes_above", "without_size", "simple_row", "root_count", "far_end", "parting_point", "stretches_of"]
def nm2 : List PySem.Str := ["ZERO_divisions", "powers_like", "divisions", "ZERO_three", "side_of", "on_axis", "three", "dies", "MOST_DEGREE", "look_gain", "gained", "edge_poly", "gains_of", "_law_urn", "_law_draw", "_law_low", "_law_plus", "_law_times", "_law_kind", "_law_number", "_law_other", "_law_trim", "_law_poly_plus", "_law_poly_often", "_law_drawn_poly", "_law_whole", "_law_is_number", "_law_is_poly", "_law_which", "_law_said"]
def nm3 : List PySem.Str := ["_law_refused"]
def names : List PySem.Str := nm0 ++ (nm1 ++ (nm2 ++ (nm3)))
abbrev R : PySem.W.OpenRow := PySem.W.OpenLaw.row PySem.Challenge.rw_restward_k53_gained
abbrev qv : Program := PySem.W.view R.prog [102]
abbrev ff : List He.Fa := factsR rows excl (xW wi ++ [])
abbrev fd : List He.DefD := rows.map (rowD top) ++ dW top wi
abbrev xb : PySem.W.Frag → Bool := fun K => consB cons K && (clzW wi K && true)
abbrev hk : PySem.W.Hook := He.hookX 7 ff fd [] [] xb
def ob (s : PySem.W.SharedT) : He.AlX := He.obsX 7 ff fd [] [] xb (HandSHeadRun.getT s)
theorem ob_eq (s : PySem.W.SharedT) : ob s = hk.obs s.abs := He.obsX_eq (HandSHeadRun.getT_eq s)
theorem run (w : World) : HandSHeadRun.RunEq R qv hk ob 20000 names w := by
  intro os
  kernel_rfl
end Lw

namespace Py
open PySem

theorem R.bind_assoc {α β γ : Type} (r : R α) (f : α → Sto → R β) (g : β → Sto → R γ) : (r.bind f).bind g = r.bind fun a s => (f a s).bind g := by cases r <;> rfl

end Py

namespace Py
open PySem PySem.Spec PyProof.Rows L2

theorem FzL.sq {K : PySem.W.Frag} {H : Hp} {a : Addr} {vs : List V} (h : FzL K H a vs) : SqL K H a vs := by
  rcases h with ⟨o, h⟩ | h
  · exact .inl (.inr ⟨o, h⟩)
  · exact .inr h

section
variable (K : PySem.W.Frag) (mg : Str → Option Value)
end
section
variable {K : PySem.W.Frag} {mg : Str → Option Value} {io io' : List Addr} {H H' : Hp} {s : Sto}
theorem Rel.keepT (r : Rel K mg io H s) (t : Stp io H io' H') {a : Addr} {vs : List V} (h : SqT K H a vs) : SqT K H' a vs := by
  rcases h with (h | ⟨o, h⟩) | h
  · refine .inl (.inl (t.old _ _ h fun z => ?_))
    obtain ⟨xs, q⟩ := r.lst z
    rw [h] at q; cases q
  · refine .inl (.inr ⟨o, t.old _ _ h fun z => ?_⟩)
    obtain ⟨xs, q⟩ := r.lst z
    rw [h] at q; cases q
  · exact .inr h
theorem RWs.app : ∀ {ws us : List W} {vs xs : List V}, RWs K mg io H ws vs → RWs K mg io H us xs → RWs K mg io H (ws ++ us) (vs ++ xs)
  | [], _, _, _, h, k => by rw [show _ = [] from h]; exact k
  | w :: ws, _, _, _, ⟨v, q, e, h1, h2⟩, k => ⟨v, q ++ _, by rw [e]; rfl, h1, RWs.app h2 k⟩
theorem RWs.erase {ws : List W} {vs : List V} (j : Nat) (h : RWs K mg io H ws vs) : RWs K mg io H (ws.eraseIdx j) (vs.eraseIdx j) := by
  rw [List.eraseIdx_eq_take_drop_succ, List.eraseIdx_eq_take_drop_succ]
  exact (h.take _).app (h.drop _)
theorem RWs.two {w u : W} {v x : V} (h : RW K mg io H w v) (k : RW K mg io H u x) : RWs K mg io H [w, u] [v, x] := ⟨v, [x], rfl, h, x, [], rfl, k, rfl⟩
theorem RWs.rep {ws : List W} {vs : List V} (h : RWs K mg io H ws vs) : ∀ n : Nat, RWs K mg io H (List.replicate n ws).flatten (List.replicate n vs).flatten
  | 0 => rfl
  | n + 1 => by
    rw [List.replicate_succ, List.replicate_succ, List.flatten_cons, List.flatten_cons]
    exact h.app (RWs.rep h n)
theorem Rel.sto (r : Rel K mg io H s) {n : Nat} {ws : List W} (h : s[n]? = some ws) : ∃ a vs, io[n]? = some a ∧ H a = some (.lst vs) ∧ RWs K mg io H ws vs := by
  have hl : n < io.length := by rw [r.len]; exact (List.getElem?_eq_some_iff.mp h).1
  have e := List.getElem?_eq_getElem hl
  obtain ⟨vs, q1, q2⟩ := r.at_ n _ ws e h
  exact ⟨_, vs, e, q1, q2⟩
end

section
variable {K : PySem.W.Frag} {mg : Str → Option Value} {io io1 : List Addr} {H H1 : Hp} {s : Sto} {D : Addr} {xs ys : List V}
theorem kp_out (hD : H D = some (.lst xs)) : Kp H (upd H D (.lst ys)) :=
  ⟨fun a zs h => by rw [upd_ne (ne_of h hD (by intro z; cases z))]; exact h, fun a o u h => by rw [upd_ne (ne_of h hD (by intro z; cases z))]; exact h⟩
theorem Rel.out (r : Rel K mg io H s) (hn : D ∉ io) (hD : H D = some (.lst xs)) : Rel K mg io (upd H D (.lst ys)) s :=
  ⟨r.len, r.nd, fun n a ws h1 h2 => by
    obtain ⟨vs, q1, q2⟩ := r.at_ n a ws h1 h2
    refine ⟨vs, by rw [upd_ne (fun z => hn (by rw [← z]; exact List.mem_of_getElem? h1))]; exact q1, ?_⟩
    have := RWs.keep (r := []) (kp_out (ys := ys) hD) ws vs q2
    rwa [List.append_nil] at this⟩
theorem Stp.out (t : Stp io H io1 H1) (hD : H D = none) : Stp io H io1 (upd H1 D (.lst ys)) :=
  ⟨t.pre, fun b o h hn => by rw [upd_ne (ne_of_none h hD)]; exact t.old b o h hn, t.new⟩
end
section
variable {K : PySem.W.Frag} {mg : Str → Option Value} {α β : Type}
variable {r : R α} {io io' : List Addr} {H H' : Hp} {Q Q' : KO α} {X X' : KO Str} {s : Sto}
theorem rw_new {ws : List W} {vs : List V} {p : Addr} (e : Rel K mg io H s) : RW K mg (io ++ [p]) (upd H p (.lst vs)) (.loc s.length) (.ref p) :=
  ⟨p, rfl, by rw [← e.len, List.getElem?_append_right (Nat.le_refl _), Nat.sub_self]; rfl⟩
theorem rw_tup {ws : List W} {vs : List V} {p : Addr} (e : Rel K mg io H s) (k : RWs K mg io H ws vs) (hp : H p = none) : RW K mg io (upd H p (.tup vs)) (.tup ws) (.ref p) :=
  ⟨p, vs, rfl, .of upd_same, e.monos (stp_tup hp) _ _ k⟩
theorem Out.valL {ws : List W} {vs : List V} {p : Addr} {Q : VK} (h : Out K mg (Py.alloc ws s) io H (KV K mg Q) X) (e : Rel K mg io H s) (k : RWs K mg io H ws vs) (hp : H p = none) : Q (.ref p) (upd H p (.lst vs)) :=
  h.alloc e k hp _ (rw_new (ws := ws) e)
theorem Out.valT {ws : List W} {vs : List V} {p : Addr} {Q : VK} (h : Out K mg (.ok (.tup ws) s) io H (KV K mg Q) X) (e : Rel K mg io H s) (k : RWs K mg io H ws vs) (hp : H p = none) : Q (.ref p) (upd H p (.tup vs)) :=
  h _ _ (stp_tup hp) (e.tup hp) _ (rw_tup e k hp)
end
theorem lsq_sq {K : PySem.W.Frag} {mg : Str → Option Value} {io : List Addr} {H : Hp} {s : Sto} {w : W} {v : V} {ws : List W} (e : Rel K mg io H s) (k : RW K mg io H w v) (h : lsq w s = some ws) : ∃ a vs, v = .ref a ∧ SqL K H a vs ∧ RWs K mg io H ws vs := by
  cases w with
  | loc n =>
    obtain ⟨a, rfl, ha⟩ := k
    obtain ⟨b, vs, h1, h2, h3⟩ := e.sto (show s[n]? = some ws from h)
    rw [ha] at h1; cases h1
    exact ⟨a, vs, rfl, .of h2, h3⟩
  | cl us =>
    obtain ⟨a, vs, rfl, h1, h2⟩ := k
    cases (show some us = some ws from h)
    exact ⟨a, vs, rfl, h1.sq, h2⟩
  | non => cases h
  | bl b => cases h
  | int i => cases h
  | str x => cases h
  | tup x => cases h
  | fn x => cases h
end Py

namespace Py
open PySem PySem.Spec PyProof.Rows L2

section
variable {K : PySem.W.Frag} {mg : Str → Option Value} {io : List Addr} {H : Hp} {s : Sto}
theorem mapM_dp {n : Nat} (ih : ∀ (w : W) (d : PyData) (v : V), toD n s w = some d → RW K mg io H w v → Dp K H v d) :
    ∀ (ws : List W) (ds : List PyData) (vs : List V), ws.mapM (toD n s) = some ds → RWs K mg io H ws vs → DpAll K H vs ds
  | [], ds, vs, h, k => by
    rw [List.mapM_nil] at h
    cases h
    rw [show vs = [] from k]
    exact .nil
  | w :: ws, ds, vs, h, k => by
    obtain ⟨v, q, rfl, k1, k2⟩ := k
    rw [List.mapM_cons] at h
    cases h1 : toD n s w with
    | none => rw [h1] at h; cases h
    | some d =>
      rw [h1] at h
      cases h2 : ws.mapM (toD n s) with
      | none => rw [h2] at h; cases h
      | some ds' =>
        rw [h2] at h
        cases h
        exact .cons (ih w d v h1 k1) (mapM_dp ih ws ds' q h2 k2)
theorem toD_dp (e : Rel K mg io H s) : ∀ (n : Nat) (w : W) (d : PyData) (v : V), toD n s w = some d → RW K mg io H w v → Dp K H v d
  | 0, _, _, _, h, _ => by cases h
  | n + 1, .non, d, v, h, k => by cases h; rw [show v = .non from k]; exact .non
  | n + 1, .bl b, d, v, h, k => by cases h; rw [show v = .bl b from k]; exact .bl b
  | n + 1, .int i, d, v, h, k => by cases h; rw [show v = .int i from k]; exact .int i
  | n + 1, .str x, d, v, h, k => by cases h; rw [show v = .str x from k]; exact .str x
  | n + 1, .tup ws, d, v, h, k => by
    obtain ⟨a, vs, rfl, k1, k2⟩ := k
    unfold toD at h
    cases h1 : ws.mapM (toD n s) with
    | none => rw [h1] at h; cases h
    | some ds =>
      rw [h1] at h
      cases h
      exact .tup k1 (mapM_dp (fun w d v => toD_dp e n w d v) ws ds vs h1 k2)
  | n + 1, .loc m, d, v, h, k => by
    unfold toD at h
    cases h0 : s[m]? with
    | none => rw [h0] at h; cases h
    | some ws =>
      rw [h0] at h
      have h : (ws.mapM (toD n s)).map PyData.list = some d := h
      cases h1 : ws.mapM (toD n s) with
      | none => rw [h1] at h; cases h
      | some ds =>
        rw [h1] at h
        cases h
        obtain ⟨a, vs, rfl, k1, k2⟩ := lsq_sq (w := .loc m) e k h0
        exact .lst k1 (mapM_dp (fun w d v => toD_dp e n w d v) ws ds vs h1 k2)
  | n + 1, .cl ws, d, v, h, k => by
    unfold toD at h
    cases h1 : ws.mapM (toD n s) with
    | none => rw [h1] at h; cases h
    | some ds =>
      rw [h1] at h
      cases h
      obtain ⟨a, vs, rfl, k1, k2⟩ := lsq_sq (w := .cl ws) e k rfl
      exact .lst k1 (mapM_dp (fun w d v => toD_dp e n w d v) ws ds vs h1 k2)
  | n + 1, .fn x, d, v, h, k => by cases h
theorem RW.ref_of {w : W} {v : V} (k : RW K mg io H w v) : match w with
    | .non => v = .non
    | .bl b => v = .bl b
    | .int i => v = .int i
    | .str x => v = .str x
    | _ => ∃ a, v = .ref a := by
  cases w with
  | non => exact k
  | bl b => exact k
  | int i => exact k
  | str x => exact k
  | tup ws => obtain ⟨a, vs, e, _⟩ := k; exact ⟨a, e⟩
  | loc n => obtain ⟨a, e, _⟩ := k; exact ⟨a, e⟩
  | cl ws => obtain ⟨a, vs, e, _⟩ := k; exact ⟨a, e⟩
  | fn x => obtain ⟨a, e, _⟩ := k; exact ⟨a, e⟩
end

section
variable {X : Cx} {k : Nat}
theorem op_mulB : OpR X (binaryOp .Mult) (rI (fun i j => bitsOk i j = true) fun i j => .int (i * j)) := opI fun i j _ _ _ _ _ hc q => mul_int q (by
  have b : ∀ x : Int, Builtin.Int.intBits x ≤ x.natAbs.log2 + 1 := fun x => by
    unfold Builtin.Int.intBits
    split <;> omega
  have h1 := b i
  have h2 := b j
  have h3 : i.natAbs.log2 + j.natAbs.log2 + 2 ≤ 134217728 := of_decide_eq_true hc
  have e : bitsLine = 134217728 := by decide
  unfold IntMulOk
  intro z
  rw [Bool.and_eq_true] at z
  have z2 := z.2
  unfold Builtin.Int.intTooBig at z2
  have z3 := of_decide_eq_true z2
  rw [e] at z3
  omega)
theorem op_fdivB (se : Seer X) : OpR X (binaryOp .FloorDiv) (rI (fun _ j => divOk j = true) fun i j => .int (i.fdiv j)) := by
  intro pins s σ H x y v u Q I rx ry h
  obtain ⟨i, j, rfl, rfl, hc, q⟩ := h
  obtain ⟨t, rfl⟩ := rx
  obtain ⟨t', rfl⟩ := ry
  have h1 : j ≠ 0 := of_decide_eq_true hc
  have kp : ∀ b o, X.base.get? b = some o → s.heap.get? b = some o := fun b o e => (I.bs b o e).1
  exact floordiv_int h1 ⟨.int (i.fdiv j), H, I.tok _, ⟨_, rfl⟩, q⟩ (.inr (PylongRoom.of (I.ok.mod.nolimit.keeps kp) se.dp (se.at_ I.ok.frames _ kp)))
theorem pow_ok {i j : Int} (h : powOk i j = true) : 0 ≤ j ∧ j ≤ 1000000 ∧ i.natAbs < 2 ^ 64 := of_decide_eq_true h
theorem op_catL : OpR X (binaryOp .Add) (fun x y H Q => ∃ a b xs ys, x = .ref a ∧ y = .ref b ∧ SqL X.K H a xs ∧ SqL X.K H b ys ∧ xs.length + ys.length ≤ sizeLine ∧ ∀ p, H p = none → Q (.ref p) (upd H p (.lst (xs ++ ys)))) := by
  intro pins st σ H x y v u Q I rx ry h
  obtain ⟨a, b, xs, ys, rfl, rfl, ha, hb, hz, q⟩ := h
  cases rx
  cases ry
  obtain ⟨us, ru, ⟨⟨c1, d1, t1, l1⟩, n1, g1, hc1, hd1, ht1⟩, _⟩ := I.list ha
  obtain ⟨ws, rw', ⟨⟨c2, d2, t2, l2⟩, n2, g2, hc2, hd2, ht2⟩, _⟩ := I.list hb
  dsimp only at hc1 hd1 ht1 hc2 hd2 ht2
  subst hc1 hd1 ht1 hc2 hd2 ht2
  have len1 := ru.length
  have len2 := rw'.length
  refine concat_meets ⟨_, g1, rfl⟩ ⟨_, g2, rfl⟩ noFill_list_add seq_list_add PySem.F.slot_list_add PySem.F.entry_list_add (PySem.F.args_list_add_2 _ _) (list_addW a b us.toArray ws.toArray n1 n2 _ _ l1 l2 (by simpa [← len1, ← len2] using hz)) ⟨g1, g2, ?_⟩
  have e : us.toArray ++ ws.toArray = (us ++ ws).toArray := by simp
  rw [e]
  exact ⟨.ref _, _, I.lnew (t' := st.toks) (ru.append rw') (by rw [List.length_append]; exact hz), rfl, q _ I.fresh⟩
theorem op_bin (hr : Room k X.A) (se : Seer X) (op : Bop) (hpl : op.pl = true) : OpR X (binaryOp op.op) (rB X.K X.mg (bop op)) := by
  intro pins st σ H x y v u Q I rx ry h
  obtain ⟨io, s, a, b, Z, ka, kb, e, o⟩ := h
  unfold bop at o
  split at o
  · exact op_add pins st σ H x y v u Q I rx ry ⟨_, _, ka, kb, o.val e rfl⟩
  · exact op_add_ib pins st σ H x y v u Q I rx ry ⟨_, _, ka, kb, o.val e rfl⟩
  · split at o
    · exact op_add_str pins st σ H x y v u Q I rx ry ⟨_, _, ka, kb, by assumption, o.val e rfl⟩
    · exact o.elim
  · split at o
    · rename_i h1
      obtain ⟨p, vs, rfl, hp, r1⟩ := ka
      obtain ⟨q, us, rfl, hq, r2⟩ := kb
      have l1 := r1.length
      have l2 := r2.length
      refine op_catA pins st σ H _ _ v u Q I rx ry ⟨p, q, vs, us, rfl, rfl, hp, hq, by rw [← l1, ← l2]; exact h1, fun z => ?_, fun _ z => ?_, fun _ _ z hz => o.valT e (r1.app r2) hz⟩
      · have hu := List.eq_nil_of_length_eq_zero (by rw [l1, z]; rfl)
        subst hu
        subst z
        exact o.val e ⟨q, us, rfl, hq, r2⟩
      · have hu := List.eq_nil_of_length_eq_zero (by rw [l2, z]; rfl)
        subst hu
        subst z
        refine o.val e ⟨p, vs, rfl, hp, ?_⟩
        have := r1.app (show RWs X.K X.mg io H [] [] from rfl)
        rwa [List.append_nil vs] at this
    · exact o.elim
  · split at o
    · rename_i xs ys h1 h2
      split at o
      · obtain ⟨p, vs, rfl, l1, r1⟩ := lsq_sq e ka h1
        obtain ⟨q, us, rfl, l2, r2⟩ := lsq_sq e kb h2
        exact op_catL pins st σ H _ _ v u Q I rx ry ⟨p, q, vs, us, rfl, rfl, l1, l2, by rw [← r1.length, ← r2.length]; assumption, fun z hz => o.valL e (r1.app r2) hz⟩
      · exact o.elim
    · exact o.elim
  · exact op_sub pins st σ H x y v u Q I rx ry ⟨_, _, ka, kb, o.val e rfl⟩
  · split at o
    · exact op_mulB pins st σ H x y v u Q I rx ry ⟨_, _, ka, kb, by assumption, o.val e rfl⟩
    · exact o.elim
  · split at o
    · rename_i xs h1
      split at o
      · rename_i h2
        obtain ⟨p, rfl, hp⟩ := ka
        obtain ⟨p', vs, hp', l1, r1⟩ := e.sto h1
        rw [hp] at hp'; cases hp'
        refine op_rep pins st σ H _ _ v u Q I rx ry ⟨p, _, vs, rfl, kb, l1, h2.1, h2.2.1, by rw [← r1.length]; exact h2.2.2, fun z hz => o.valL e (r1.rep _) hz⟩
      · exact o.elim
    · exact o.elim
  · split at o
    · exact op_fdivB se pins st σ H x y v u Q I rx ry ⟨_, _, ka, kb, by assumption, o.val e rfl⟩
    · exact o.elim
  · split at o
    · exact op_modN pins st σ H x y v u Q I rx ry ⟨_, _, ka, kb, by assumption, o.val e rfl⟩
    · exact o.elim
  · split at o
    · rename_i h1
      have h2 := pow_ok h1
      exact op_pow pins st σ H x y v u Q I rx ry ⟨_, _, ka, kb, h2, o.val e rfl⟩
    · exact o.elim
  · split at o
    · rename_i h1
      have h2 := pow_ok h1
      exact op_shl pins st σ H x y v u Q I rx ry ⟨_, _, ka, kb, h2, o.val e rfl⟩
    · exact o.elim
  · cases hpl
  · exact o.elim
theorem dec_int (i j : Int) : decide (V.int i = V.int j) = decide (i = j) := by
  by_cases e : i = j
  · rw [e, decide_eq_true rfl, decide_eq_true rfl]
  · rw [decide_eq_false e, decide_eq_false fun z => e (V.int.inj z)]
theorem dec_str (i j : Str) : decide (V.str i = V.str j) = decide (i = j) := by
  by_cases e : i = j
  · rw [e, decide_eq_true rfl, decide_eq_true rfl]
  · rw [decide_eq_false e, decide_eq_false fun z => e (V.str.inj z)]
theorem op_cmp (hr : Room k X.A) (op : Cop) : OpR X (compareOp op.op) (rB X.K X.mg (cop op)) := by
  have hu : X.A.units + 64 < cLine := hr.units
  have hu1 : X.A.units + 65 < cLine := by have := hr.un; omega
  intro pins st σ H x y v u Q I rx ry h
  obtain ⟨io, s, a, b, Z, ka, kb, e, o⟩ := h
  have eqc : ∀ {r : Bool} (z : eqW a b s = some r), (scal x y = true ∧ decide (x = y) = r) ∨ ∃ d e', Dp X.K H x d ∧ Dp X.K H y e' ∧ SeqAt.shaped d = true ∧ SeqAt.shaped e' = true ∧ PyData.eqv d e' = r := by
    intro r z
    unfold eqW at z
    split at z
    · rw [show x = .int _ from ka, show y = .int _ from kb]
      exact .inl ⟨rfl, (dec_int _ _).trans (Option.some.inj z)⟩
    · rw [show x = .str _ from ka, show y = .str _ from kb]
      exact .inl ⟨rfl, (dec_str _ _).trans (Option.some.inj z)⟩
    · split at z
      · rename_i d e' h1 h2
        split at z
        · rename_i hs
          rw [Bool.and_eq_true] at hs
          exact .inr ⟨d, e', toD_dp e 16 a d x h1 ka, toD_dp e 16 b e' y h2 kb, hs.1, hs.2, Option.some.inj z⟩
        · cases z
      · cases z
  have inc : ∀ {r : Bool} (z : inW a b s = some r), ∃ d ds, Dp X.K H x d ∧ Dp X.K H y (.list ds) ∧ SeqAt.shaped d = true ∧ SeqAt.shaped (.list ds) = true ∧ (ds.any fun z => PyData.eqv z d) = r := by
    intro r z
    unfold inW at z
    split at z
    · rename_i d ds h1 h2
      split at z
      · rename_i hs
        rw [Bool.and_eq_true] at hs
        refine ⟨d, ds, toD_dp e 16 a d x h1 ka, ?_, hs.1, hs.2, Option.some.inj z⟩
        cases h3 : lsq b s with
        | none => rw [h3] at h2; cases h2
        | some ws =>
          rw [h3] at h2
          obtain ⟨p, vs, rfl, q1, q2⟩ := lsq_sq e kb h3
          exact .lst q1 (mapM_dp (fun w d v => toD_dp e 15 w d v) ws ds vs h2 q2)
      · cases z
    · cases z
  cases op with
  | eq =>
    have o : Out X.K X.mg (ob (eqW a b s) s) io H (KV X.K X.mg Q) Z := o
    cases hz : eqW a b s with
    | none => rw [hz] at o; exact o.elim
    | some r =>
      rw [hz] at o
      have q := o.val e (show RW X.K X.mg io H (.bl r) (.bl r) from rfl)
      rcases eqc hz with ⟨h1, h2⟩ | ⟨d, e', h1, h2, h3, h4, h5⟩
      · exact op_eq pins st σ H x y v u Q I rx ry ⟨h1, by rw [h2]; exact q⟩
      · exact op_eqD hu pins st σ H x y v u Q I rx ry ⟨d, e', h1, h2, h3, h4, by rw [h5]; exact q⟩
  | ne =>
    have o : Out X.K X.mg (ob ((eqW a b s).map (!·)) s) io H (KV X.K X.mg Q) Z := o
    cases hz : eqW a b s with
    | none => rw [hz] at o; exact o.elim
    | some r =>
      rw [hz] at o
      have q := o.val e (show RW X.K X.mg io H (.bl (!r)) (.bl (!r)) from rfl)
      rcases eqc hz with ⟨h1, h2⟩ | ⟨d, e', h1, h2, h3, h4, h5⟩
      · exact op_ne pins st σ H x y v u Q I rx ry ⟨h1, by rw [h2]; exact q⟩
      · exact op_neD hu pins st σ H x y v u Q I rx ry ⟨d, e', h1, h2, h3, h4, by rw [h5]; exact q⟩
  | inn =>
    have o : Out X.K X.mg (ob (inW a b s) s) io H (KV X.K X.mg Q) Z := o
    cases hz : inW a b s with
    | none => rw [hz] at o; exact o.elim
    | some r =>
      rw [hz] at o
      have q := o.val e (show RW X.K X.mg io H (.bl r) (.bl r) from rfl)
      obtain ⟨d, ds, h1, h2, h3, h4, h5⟩ := inc hz
      exact op_inD hu1 pins st σ H x y v u Q I rx ry ⟨d, ds, h1, h2, h3, h4, by rw [h5]; exact q⟩
  | nin =>
    have o : Out X.K X.mg (ob ((inW a b s).map (!·)) s) io H (KV X.K X.mg Q) Z := o
    cases hz : inW a b s with
    | none => rw [hz] at o; exact o.elim
    | some r =>
      rw [hz] at o
      have q := o.val e (show RW X.K X.mg io H (.bl (!r)) (.bl (!r)) from rfl)
      obtain ⟨d, ds, h1, h2, h3, h4, h5⟩ := inc hz
      exact op_notInD hu1 pins st σ H x y v u Q I rx ry ⟨d, ds, h1, h2, h3, h4, by rw [h5]; exact q⟩
  | lt =>
    cases a <;> first
      | exact False.elim o
      | (cases b <;> first
        | exact False.elim o
        | exact op_lt pins st σ H x y v u Q I rx ry ⟨_, _, ka, kb, o.val e rfl⟩)
  | le =>
    cases a <;> first
      | exact False.elim o
      | (cases b <;> first
        | exact False.elim o
        | exact op_le pins st σ H x y v u Q I rx ry ⟨_, _, ka, kb, o.val e rfl⟩)
  | gt =>
    cases a <;> first
      | exact False.elim o
      | (cases b <;> first
        | exact False.elim o
        | exact op_gt pins st σ H x y v u Q I rx ry ⟨_, _, ka, kb, o.val e rfl⟩)
  | ge =>
    cases a <;> first
      | exact False.elim o
      | (cases b <;> first
        | exact False.elim o
        | exact op_ge pins st σ H x y v u Q I rx ry ⟨_, _, ka, kb, o.val e rfl⟩)
  | isB =>
    cases a <;> first
      | exact False.elim o
      | (cases b <;> first
        | exact False.elim o
        | exact op_isBl pins st σ H x y v u Q I rx ry ⟨_, _, ka, kb, o.val e rfl⟩)
  | notB =>
    cases a <;> first
      | exact False.elim o
      | (cases b <;> first
        | exact False.elim o
        | exact op_notBl pins st σ H x y v u Q I rx ry ⟨_, _, ka, kb, o.val e rfl⟩)
  | isN =>
    cases b <;> first
      | exact False.elim o
      | skip
    refine op_isN pins st σ H x y v u Q I rx ry ⟨kb, ?_⟩
    have q := o.val e (show RW X.K X.mg io H (.bl (isNon a)) (.bl (isNon a)) from rfl)
    have z := ka.ref_of
    cases a <;> first | (rw [show x = _ from z]; exact q) | (obtain ⟨p, rfl⟩ := z; exact q)
  | notN =>
    cases b <;> first
      | exact False.elim o
      | skip
    refine op_notN pins st σ H x y v u Q I rx ry ⟨kb, ?_⟩
    have q := o.val e (show RW X.K X.mg io H (.bl (!isNon a)) (.bl (!isNon a)) from rfl)
    have z := ka.ref_of
    cases a <;> first | (rw [show x = _ from z]; exact q) | (obtain ⟨p, rfl⟩ := z; exact q)
end
end Py

namespace Py
open PySem PySem.Spec PyProof.Rows L2
section
variable {X : Cx} {k : Nat}
theorem atW_at {io : List Addr} {H : Hp} {ws : List W} {vs : List V} {i : Int} {w : W} (r : RWs X.K X.mg io H ws vs) (h : atW ws i = some w) : ∃ v, atI vs i = some v ∧ RW X.K X.mg io H w v := by
  unfold atW at h
  unfold atI
  rw [← r.length]
  cases h1 : ixN ws.length i with
  | none => rw [h1] at h; cases h
  | some j =>
    rw [h1] at h
    exact r.get (show ws[j]? = some w from h)
theorem ix_all : IxR X (rB X.K X.mg ixW) := by
  intro value slice pins st σ H x y v u Q I rx ry h hs
  obtain ⟨io, s, a, b, Z, ka, kb, e, o⟩ := h
  have lst : ∀ {ws : List W} {i : Int}, lsq a s = some ws → b = .int i → Out X.K X.mg (match atW ws i with | some w => .ok w s | none => .bad : R W) io H (KV X.K X.mg Q) Z →
      wpAny (model X.prog X.w) X.A (subscriptTail value slice v u) (EP X pins σ Q) X.xe st := fun {ws i} h1 h2 o2 => by
    subst h2
    clear o
    obtain ⟨p, vs, rfl, h3, h4⟩ := lsq_sq e ka h1
    cases h5 : atW ws i with
    | none => rw [h5] at o2; exact o2.elim
    | some w =>
      rw [h5] at o2
      obtain ⟨z, h6, h7⟩ := atW_at h4 h5
      exact ix_list value slice pins st σ H _ _ v u Q I rx ry ⟨p, vs, i, z, rfl, kb, h3, h6, o2.val e h7⟩ hs
  cases b with
  | int i =>
    cases a with
    | tup ws =>
      obtain ⟨p, vs, rfl, h3, h4⟩ := ka
      have o : Out X.K X.mg (match atW ws i with | some w => .ok w s | none => .bad : R W) io H (KV X.K X.mg Q) Z := o
      cases h5 : atW ws i with
      | none => rw [h5] at o; exact o.elim
      | some w =>
        rw [h5] at o
        obtain ⟨z, h6, h7⟩ := atW_at h4 h5
        exact ix_tup value slice pins st σ H _ _ v u Q I rx ry ⟨p, vs, i, z, rfl, kb, h3, h6, o.val e h7⟩ hs
    | str z =>
      have o : Out X.K X.mg (if z.length ≤ sizeLine then match (L2.ixN z.cps.toList.length i).bind fun j => z.cps.toList[j]? with
        | some c => R.ok (W.str ⟨#[c]⟩) s
        | none => .bad
        else .bad) io H (KV X.K X.mg Q) Z := o
      split at o
      · rename_i hz
        split at o
        · rename_i c hc
          exact ix_str value slice pins st σ H _ _ v u Q I rx ry ⟨z, i, c, ka, kb, hz, hc, o.val e rfl⟩ hs
        · exact o.elim
      · exact o.elim
    | loc n =>
      have o : Out X.K X.mg (match lsq (.loc n) s with | some ws => (match atW ws i with | some w => .ok w s | none => .bad) | none => .bad : R W) io H (KV X.K X.mg Q) Z := o
      cases h1 : lsq (.loc n) s with
      | none => rw [h1] at o; exact o.elim
      | some ws => rw [h1] at o; exact lst h1 rfl o
    | cl us =>
      exact lst (ws := us) rfl rfl o
    | non => exact False.elim o
    | bl _ => exact False.elim o
    | int _ => exact False.elim o
    | fn _ => exact False.elim o
  | _ => cases a <;> exact False.elim o
theorem RWs.cut {io : List Addr} {H : Hp} {ws : List W} {vs : List V} (lo hi : Option Int) (r : RWs X.K X.mg io H ws vs) : RWs X.K X.mg io H (cutW ws lo hi) (cutV vs lo hi) := by
  unfold cutW cutV
  rw [r.length]
  exact (r.drop _).take _
theorem sl_all : SlR X (rSl X.K X.mg) := by
  intro pins st σ H x v vl vu lo hi sl Q I rx hs pl pu h
  obtain ⟨io, s, a, Z, ka, e, o⟩ := h
  have lst : ∀ {ws : List W}, lsq a s = some ws → Out X.K X.mg (alloc (cutW ws lo hi) s) io H (KV X.K X.mg Q) Z → rSlL X.K x lo hi H Q := fun {ws} h1 o => by
    obtain ⟨p, vs, rfl, h3, h4⟩ := lsq_sq e ka h1
    exact ⟨p, vs, rfl, h3, fun z hz => o.valL e (h4.cut lo hi) hz⟩
  cases a with
  | tup ws =>
    obtain ⟨p, vs, rfl, h3, h4⟩ := ka
    have o : Out X.K X.mg (if HT.sIx ws.length 0 lo = 0 ∧ HT.sIx ws.length ws.length hi = ws.length then .bad else .ok (.tup (cutW ws lo hi)) s) io H (KV X.K X.mg Q) Z := o
    split at o
    · exact o.elim
    · rename_i hn
      rw [h4.length] at hn
      exact sl_tup pins st σ H _ v vl vu lo hi sl Q I rx hs pl pu ⟨p, vs, rfl, h3, hn, fun z hz => o.valT e (h4.cut lo hi) hz⟩
  | loc n =>
    have o : Out X.K X.mg (match lsq (.loc n) s with | some ws => alloc (cutW ws lo hi) s | none => .bad : R W) io H (KV X.K X.mg Q) Z := o
    cases h1 : lsq (.loc n) s with
    | none => rw [h1] at o; exact o.elim
    | some ws => rw [h1] at o; exact sl_list pins st σ H _ v vl vu lo hi sl Q I rx hs pl pu (lst h1 o)
  | cl us => exact sl_list pins st σ H _ v vl vu lo hi sl Q I rx hs pl pu (lst (ws := us) rfl o)
  | non => exact False.elim o
  | bl _ => exact False.elim o
  | int _ => exact False.elim o
  | str _ => exact False.elim o
  | fn _ => exact False.elim o
theorem bools_v {io : List Addr} {H : Hp} : ∀ {ws : List W} {vs : List V} {bs : List Bool}, RWs X.K X.mg io H ws vs → bools ws = some bs → vs = bs.map V.bl
  | [], vs, bs, r, h => by cases h; exact r
  | .bl b :: ws, vs, bs, r, h => by
    obtain ⟨v, q, rfl, h1, h2⟩ := r
    unfold bools at h
    cases h3 : bools ws with
    | none => rw [h3] at h; cases h
    | some bs' =>
      rw [h3] at h
      cases h
      rw [bools_v h2 h3, show v = .bl b from h1]
      rfl
  | .non :: _, _, _, _, h => by cases h
  | .int _ :: _, _, _, _, h => by cases h
  | .str _ :: _, _, _, _, h => by cases h
  | .tup _ :: _, _, _, _, h => by cases h
  | .loc _ :: _, _, _, _, h => by cases h
  | .cl _ :: _, _, _, _, h => by cases h
  | .fn _ :: _, _, _, _, h => by cases h
theorem ints_v {io : List Addr} {H : Hp} : ∀ {ws : List W} {vs : List V} {bs : List Int}, RWs X.K X.mg io H ws vs → intsW ws = some bs → vs = bs.map V.int
  | [], vs, bs, r, h => by cases h; exact r
  | .int b :: ws, vs, bs, r, h => by
    obtain ⟨v, q, rfl, h1, h2⟩ := r
    unfold intsW at h
    cases h3 : intsW ws with
    | none => rw [h3] at h; cases h
    | some bs' =>
      rw [h3] at h
      cases h
      rw [ints_v h2 h3, show v = .int b from h1]
      rfl
  | .non :: _, _, _, _, h => by cases h
  | .bl _ :: _, _, _, _, h => by cases h
  | .str _ :: _, _, _, _, h => by cases h
  | .tup _ :: _, _, _, _, h => by cases h
  | .loc _ :: _, _, _, _, h => by cases h
  | .cl _ :: _, _, _, _, h => by cases h
  | .fn _ :: _, _, _, _, h => by cases h
theorem bi_one {f : Bi} {id : Value} {r : List V → Hp → VK → Prop} (c : CallR X id r)
    (h : ∀ (io : List Addr) (H : Hp) (s : Sto) (ws : List W) (xs : List V) (Q : VK) (Z : KO Str), RWs X.K X.mg io H ws xs → Rel X.K X.mg io H s → Out X.K X.mg (biW f ws s) io H (KV X.K X.mg Q) Z → r xs H Q) : CallR X id (rBi X.K X.mg f) := by
  intro pins st σ H xs us Q I rx hh
  obtain ⟨io, s, ws, Z, k, e, o⟩ := hh
  exact c pins st σ H xs us Q I rx (h io H s ws xs Q Z k e o)
theorem bi_len : CallR X (.builtin "len") (rBi X.K X.mg .len) := bi_one call_len fun io H s ws xs Q Z k e o => by
  replace o : Out X.K X.mg (biLen ws s) io H (KV X.K X.mg Q) Z := o
  unfold biLen at o
  split at o
  · obtain ⟨x, q, rfl, ⟨p, vs, rfl, h3, h4⟩, k2⟩ := k
    exact ⟨.ref p, _, by rw [show q = [] from k2], .inr ⟨vs, h3, h4.length⟩, o.val e rfl⟩
  · rename_i z
    obtain ⟨x, q, rfl, k1, k2⟩ := k
    split at o
    · rename_i hz
      exact ⟨.str z, z.length, by rw [show x = .str z from k1, show q = [] from k2], ⟨hz, rfl⟩, o.val e rfl⟩
    · exact o.elim
  · obtain ⟨x, q, rfl, k1, k2⟩ := k
    rw [show q = [] from k2]
    split at o
    · rename_i h1
      obtain ⟨p, vs, rfl, h3, h4⟩ := lsq_sq e k1 h1
      exact ⟨.ref p, _, rfl, .inl ⟨vs, h3, h4.length⟩, o.val e rfl⟩
    · exact o.elim
  · exact o.elim
theorem bi_abs : CallR X (.builtin "abs") (rBi X.K X.mg .abs) := bi_one call_abs fun io H s ws xs Q Z k e o => by
  replace o : Out X.K X.mg (biAbs ws s) io H (KV X.K X.mg Q) Z := o
  unfold biAbs at o
  split at o
  · rename_i i
    obtain ⟨x, q, rfl, k1, k2⟩ := k
    exact ⟨i, by rw [show x = .int i from k1, show q = [] from k2], o.val e rfl⟩
  · exact o.elim
theorem bi_max (hc : X.calm = true) : CallR X (.builtin "max") (rBi X.K X.mg .max2) := bi_one (call_max2 hc) fun io H s ws xs Q Z k e o => by
  replace o : Out X.K X.mg (biMax ws s) io H (KV X.K X.mg Q) Z := o
  unfold biMax at o
  split at o
  · rename_i i j
    obtain ⟨x, q, rfl, k1, y, q', rfl, k2, k3⟩ := k
    exact ⟨i, j, by rw [show x = .int i from k1, show y = .int j from k2, show q' = [] from k3], o.val e rfl⟩
  · exact o.elim
theorem bi_min (hc : X.calm = true) : CallR X (.builtin "min") (rBi X.K X.mg .min2) := bi_one (call_min2 hc) fun io H s ws xs Q Z k e o => by
  replace o : Out X.K X.mg (biMin ws s) io H (KV X.K X.mg Q) Z := o
  unfold biMin at o
  split at o
  · rename_i i j
    obtain ⟨x, q, rfl, k1, y, q', rfl, k2, k3⟩ := k
    exact ⟨i, j, by rw [show x = .int i from k1, show y = .int j from k2, show q' = [] from k3], o.val e rfl⟩
  · exact o.elim
theorem bi_int : CallR X (.type "int") (rBi X.K X.mg .int) := bi_one call_int1 fun io H s ws xs Q Z k e o => by
  replace o : Out X.K X.mg (biInt ws s) io H (KV X.K X.mg Q) Z := o
  unfold biInt at o
  split at o
  · rename_i i
    obtain ⟨x, q, rfl, k1, k2⟩ := k
    exact .inl ⟨i, by rw [show x = .int i from k1, show q = [] from k2], o.val e rfl⟩
  · rename_i i
    obtain ⟨x, q, rfl, k1, k2⟩ := k
    exact .inr ⟨i, by rw [show x = .bl i from k1, show q = [] from k2], o.val e rfl⟩
  · exact o.elim
theorem bi_str : CallR X (.type "str") (rBi X.K X.mg .str) := bi_one call_str_int fun io H s ws xs Q Z k e o => by
  replace o : Out X.K X.mg (biStr ws s) io H (KV X.K X.mg Q) Z := o
  unfold biStr at o
  split at o
  · rename_i i
    obtain ⟨x, q, rfl, k1, k2⟩ := k
    split at o
    · rename_i h
      exact ⟨i, by rw [show x = .int i from k1, show q = [] from k2], of_decide_eq_true h, o.val e rfl⟩
    · exact o.elim
  · exact o.elim
theorem bi_all (hc : X.calm = true) : CallR X (.builtin "all") (rBi X.K X.mg .all) := bi_one (cr_all hc) fun io H s ws xs Q Z k e o => by
  replace o : Out X.K X.mg (biAll ws s) io H (KV X.K X.mg Q) Z := o
  unfold biAll at o
  split at o
  · rename_i a
    obtain ⟨x, q, rfl, k1, k2⟩ := k
    split at o
    · rename_i bs h0
      cases h1 : lsq a s with
      | none => rw [h1] at h0; cases h0
      | some ws =>
        rw [h1] at h0
        obtain ⟨p, vs, rfl, h3, h4⟩ := lsq_sq e k1 h1
        exact ⟨p, bs, by rw [show q = [] from k2], by rw [← bools_v h4 (show bools ws = some bs from h0)]; exact h3, o.val e rfl⟩
    · exact o.elim
  · exact o.elim
theorem bi_any (hc : X.calm = true) : CallR X (.builtin "any") (rBi X.K X.mg .any) := bi_one (cr_any hc) fun io H s ws xs Q Z k e o => by
  replace o : Out X.K X.mg (biAny ws s) io H (KV X.K X.mg Q) Z := o
  unfold biAny at o
  split at o
  · rename_i a
    obtain ⟨x, q, rfl, k1, k2⟩ := k
    split at o
    · rename_i bs h0
      cases h1 : lsq a s with
      | none => rw [h1] at h0; cases h0
      | some ws =>
        rw [h1] at h0
        obtain ⟨p, vs, rfl, h3, h4⟩ := lsq_sq e k1 h1
        exact ⟨p, bs, by rw [show q = [] from k2], by rw [← bools_v h4 (show bools ws = some bs from h0)]; exact h3, o.val e rfl⟩
    · exact o.elim
  · exact o.elim
theorem bi_sum (hc : X.calm = true) : CallR X (.builtin "sum") (rBi X.K X.mg .sum) := bi_one (cr_sum hc) fun io H s ws xs Q Z k e o => by
  replace o : Out X.K X.mg (biSum ws s) io H (KV X.K X.mg Q) Z := o
  unfold biSum at o
  split at o
  · rename_i a
    obtain ⟨x, q, rfl, k1, k2⟩ := k
    split at o
    · rename_i bs h0
      cases h1 : lsq a s with
      | none => rw [h1] at h0; cases h0
      | some ws =>
        rw [h1] at h0
        obtain ⟨p, vs, rfl, h3, h4⟩ := lsq_sq e k1 h1
        exact ⟨p, bs, by rw [show q = [] from k2], by rw [← ints_v h4 (show intsW ws = some bs from h0)]; exact h3, o.val e rfl⟩
    · exact o.elim
  · exact o.elim
theorem bi_list : CallR X (.type "list") (rBi X.K X.mg .list) := bi_one call_list_of fun io H s ws xs Q Z k e o => by
  replace o : Out X.K X.mg (biList ws s) io H (KV X.K X.mg Q) Z := o
  unfold biList at o
  split at o
  · obtain ⟨x, q, rfl, ⟨p, vs, rfl, h3, h4⟩, k2⟩ := k
    exact ⟨p, vs, by rw [show q = [] from k2], .inr h3, fun z hz => o.valL e h4 hz⟩
  · obtain ⟨x, q, rfl, k1, k2⟩ := k
    rw [show q = [] from k2]
    split at o
    · rename_i h1
      obtain ⟨p, vs, rfl, h3, h4⟩ := lsq_sq e k1 h1
      exact ⟨p, vs, rfl, .inl h3, fun z hz => o.valL e h4 hz⟩
    · exact o.elim
  · exact o.elim
theorem bi_tuple : CallR X (.type "tuple") (rBi X.K X.mg .tuple) := bi_one call_tuple_of fun io H s ws xs Q Z k e o => by
  replace o : Out X.K X.mg (biTuple ws s) io H (KV X.K X.mg Q) Z := o
  unfold biTuple at o
  split at o
  · obtain ⟨x, q, rfl, ⟨p, vs, rfl, h3, h4⟩, k2⟩ := k
    exact ⟨p, vs, by rw [show q = [] from k2], .inr ⟨h3, o.val e ⟨p, vs, rfl, h3, h4⟩⟩⟩
  · obtain ⟨x, q, rfl, k1, k2⟩ := k
    rw [show q = [] from k2]
    split at o
    · rename_i h1
      obtain ⟨p, vs, rfl, h3, h4⟩ := lsq_sq e k1 h1
      exact ⟨p, vs, rfl, .inl ⟨h3, fun z hz => o.valT e h4 hz⟩⟩
    · exact o.elim
  · exact o.elim
theorem bi_rule (hc : X.calm = true) (f : Bi) (hpl : f.pl = true) : CallR X f.val (rBi X.K X.mg f) := by
  cases f with
  | len => exact bi_len
  | abs => exact bi_abs
  | max2 => exact bi_max hc
  | min2 => exact bi_min hc
  | int => exact bi_int
  | all => exact bi_all hc
  | any => exact bi_any hc
  | sum => exact bi_sum hc
  | list => exact bi_list
  | tuple => exact bi_tuple
  | str => exact bi_str
  | lrng => cases hpl
  | trng => cases hpl
theorem Rel.same {io : List Addr} {H : Hp} {s : Sto} {n : Nat} {a : Addr} {ws : List W} (e : Rel X.K X.mg io H s) (ha : io[n]? = some a) (h : s[n]? = some ws) : ∃ vs, H a = some (.lst vs) ∧ RWs X.K X.mg io H ws vs := e.at_ n a ws ha h
theorem mt_rule (m : Mt) : MtR X m.id (rMt X.K X.mg m) := by
  intro pins st σ H x xs v us Q I rx rxs h
  obtain ⟨io, s, w, ws, Z, kw, kws, e, o⟩ := h
  cases w with
  | loc n =>
    obtain ⟨a, rfl, ha⟩ := kw
    cases m with
    | append =>
      replace o : Out X.K X.mg (mtAppend n ws s) io H (KV X.K X.mg Q) Z := o
      unfold mtAppend at o
      split at o
      · obtain ⟨y, q, rfl, k1, k2⟩ := kws
        rw [show q = [] from k2] at rxs
        split at o
        · rename_i h1
          split at o
          · obtain ⟨vs, h2, h3⟩ := e.same ha h1
            exact mt_append pins st σ H _ _ v us Q I rx rxs ⟨a, vs, y, rfl, rfl, h2, by rw [← h3.length]; assumption, o.set e ha (h3.app (.one k1)) rfl⟩
          · exact o.elim
        · exact o.elim
      · exact o.elim
    | pop =>
      replace o : Out X.K X.mg (mtPop n ws s) io H (KV X.K X.mg Q) Z := o
      unfold mtPop at o
      split at o
      · split at o
        · rename_i h1
          split at o
          · rename_i h4
            obtain ⟨vs, h2, h3⟩ := e.same ha h1
            obtain ⟨y, h5, h6⟩ := h3.get h4
            rw [h3.length] at h5
            exact mt_pop pins st σ H _ _ v us Q I rx rxs ⟨a, vs, y, rfl, kws, h2, h5, o.set e ha h3.dropLast h6⟩
          · exact o.elim
        · exact o.elim
      · exact o.elim
    | popAt =>
      replace o : Out X.K X.mg (mtPopAt n ws s) io H (KV X.K X.mg Q) Z := o
      unfold mtPopAt at o
      split at o
      · rename_i i
        obtain ⟨y, q, rfl, k1, k2⟩ := kws
        rw [show q = [] from k2, show y = .int i from k1] at rxs
        split at o
        · rename_i h1
          split at o
          · rename_i hi
            split at o
            · rename_i k hk
              split at o
              · rename_i z h4
                obtain ⟨vs, h2, h3⟩ := e.same ha h1
                obtain ⟨y, h5, h6⟩ := h3.get h4
                rw [h3.length] at hk
                exact mt_popAt pins st σ H _ _ v us Q I rx rxs ⟨a, vs, i, k, y, rfl, rfl, h2, hi.1, hi.2, hk, h5, o.set e ha (h3.erase k) h6⟩
              · exact o.elim
            · exact o.elim
          · exact o.elim
        · exact o.elim
      · exact o.elim
    | extend =>
      replace o : Out X.K X.mg (mtExtend n ws s) io H (KV X.K X.mg Q) Z := o
      unfold mtExtend at o
      split at o
      · obtain ⟨y, q, rfl, ⟨c, rfl, hc⟩, k2⟩ := kws
        rw [show q = [] from k2] at rxs
        split at o
        · rename_i h1 h2
          split at o
          · obtain ⟨vs, h3, h4⟩ := e.same ha h1
            obtain ⟨ts, h5, h6⟩ := e.same hc h2
            exact mt_extend pins st σ H _ _ v us Q I rx rxs ⟨a, c, vs, ts, rfl, rfl, h3, h5, by rw [← h4.length, ← h6.length]; assumption, o.set e ha (h4.app h6) rfl⟩
          · exact o.elim
        · exact o.elim
      · exact o.elim
    | clear =>
      replace o : Out X.K X.mg (mtClear n ws s) io H (KV X.K X.mg Q) Z := o
      unfold mtClear at o
      split at o
      · split at o
        · rename_i h1
          obtain ⟨vs, h2, h3⟩ := e.same ha h1
          exact mt_clear pins st σ H _ _ v us Q I rx rxs ⟨a, vs, rfl, kws, h2, o.set (vs := []) e ha rfl rfl⟩
        · exact o.elim
      · exact o.elim
  | _ => cases m <;> exact False.elim o
theorem set_rule : PSet X (rSt X.K X.mg) := by
  intro pins st σ H o i v ov iv u Q I ro ri rv h
  obtain ⟨io, s, ow, iw, w, Z, k1, k2, k3, e, q⟩ := h
  cases ow with
  | loc n =>
    cases iw with
    | int j =>
      obtain ⟨a, rfl, ha⟩ := k1
      have q : Out X.K X.mg (match s[n]? with | some ws => (match L2.ixN ws.length j with | some j => .ok () (s.set n (ws.set j w)) | none => .bad) | none => .bad : R Unit) io H (fun _ s' io' H' => Q H') Z := q
      cases h1 : s[n]? with
      | none => rw [h1] at q; exact q.elim
      | some zs =>
        rw [h1] at q
        have q : Out X.K X.mg (match L2.ixN zs.length j with | some j => .ok () (s.set n (zs.set j w)) | none => .bad : R Unit) io H (fun _ s' io' H' => Q H') Z := q
        cases h4 : L2.ixN zs.length j with
        | none => rw [h4] at q; exact q.elim
        | some m =>
          rw [h4] at q
          obtain ⟨vs, h2, h3⟩ := e.same ha h1
          rw [h3.length] at h4
          exact set_list pins st σ H _ _ v ov iv u Q I ro ri rv ⟨a, vs, j, m, rfl, k2, h2, h4, q io _ (stp_mut (List.mem_of_getElem? ha)) (e.mut ha (h3.set m k3))⟩
    | _ => exact False.elim q
  | _ => exact False.elim q
end
end Py

namespace Py
open PySem PySem.Spec PyProof.Rows L2
theorem call1_ok {nm : Str} {q : List Expr → Bool} {sc : Scope} {x : Expr} (h : call1 nm q sc x = true) : ∃ p a pos, x = .Call (.Name nm p) [a] [] pos ∧ glB sc nm = true ∧ q [a] = true := by
  unfold call1 at h
  split at h
  · rw [Bool.and_eq_true, Bool.and_eq_true, beq_iff_eq] at h
    obtain ⟨⟨rfl, h1⟩, h2⟩ := h
    exact ⟨_, _, _, rfl, h1, h2⟩
  · cases h
theorem call2_ok {nm : Str} {q : List Expr → Bool} {sc : Scope} {x : Expr} (h : call2 nm q sc x = true) : ∃ p a b pos, x = .Call (.Name nm p) [a, b] [] pos ∧ glB sc nm = true ∧ q [a, b] = true := by
  unfold call2 at h
  split at h
  · rw [Bool.and_eq_true, Bool.and_eq_true, beq_iff_eq] at h
    obtain ⟨⟨rfl, h1⟩, h2⟩ := h
    exact ⟨_, _, _, _, rfl, h1, h2⟩
  · cases h
theorem call3_ok {nm : Str} {q : List Expr → Bool} {sc : Scope} {x : Expr} (h : call3 nm q sc x = true) : ∃ p a b c pos, x = .Call (.Name nm p) [a, b, c] [] pos ∧ glB sc nm = true ∧ q [a, b, c] = true := by
  unfold call3 at h
  split at h
  · rw [Bool.and_eq_true, Bool.and_eq_true, beq_iff_eq] at h
    obtain ⟨⟨rfl, h1⟩, h2⟩ := h
    exact ⟨_, _, _, _, _, rfl, h1, h2⟩
  · cases h
end Py

namespace Py
open PySem PySem.Spec PyProof.Rows L2
section
variable {K : PySem.W.Frag} {mg : Str → Option Value} {io io' : List Addr} {H H' : Hp} {s : Sto} {e : Sl} {σ : L2.St}
theorem RSl.setN (h : RSl K mg io H e σ) (i : Nat) : RSl K mg io H (e.set i none) (σ.set i none) := by
  refine ⟨by rw [List.length_set, List.length_set, h.len], fun j u q => ?_⟩
  rw [List.getElem?_set] at q
  by_cases z : i = j
  · rw [if_pos z] at q
    split at q <;> cases q
  · rw [if_neg z] at q
    obtain ⟨x, a, b⟩ := h.at_ j u q
    exact ⟨x, by rw [List.getElem?_set, if_neg z]; exact a, b⟩
theorem RSl.wipe (h : RSl K mg io H e σ) : ∀ vs : List Nat, RSl K mg io H (wipeS e vs) (L2.wipe σ vs)
  | [] => h
  | v :: vs => (RSl.wipe h vs).setN v
theorem wipe_get (σ : L2.St) : ∀ (vs : List Nat) (j : Nat), (L2.wipe σ vs)[j]? = if j ∈ vs ∧ j < σ.length then some none else σ[j]?
  | [], j => by
    rw [if_neg (fun z => by cases z.1)]
    rfl
  | v :: vs, j => by
    show ((L2.wipe σ vs).set v none)[j]? = _
    rw [List.getElem?_set, wipe_length, wipe_get σ vs j]
    by_cases z : v = j
    · subst z
      rw [if_pos rfl]
      by_cases hl : v < σ.length
      · rw [if_pos hl, if_pos ⟨List.mem_cons_self, hl⟩]
      · rw [if_neg hl, if_neg (fun q => hl q.2)]
        exact (List.getElem?_eq_none_iff.mpr (Nat.le_of_not_lt hl)).symm
    · rw [if_neg z]
      by_cases hm : j ∈ vs ∧ j < σ.length
      · rw [if_pos hm, if_pos ⟨List.mem_cons_of_mem _ hm.1, hm.2⟩]
      · rw [if_neg hm, if_neg (fun q => hm ⟨(List.mem_cons.mp q.1).resolve_left (fun y => z y.symm), q.2⟩)]
theorem wipe_set (σ : L2.St) {vs : List Nat} {i : Nat} (x : Option V) (h : i ∈ vs) : L2.wipe (σ.set i x) vs = L2.wipe σ vs := by
  refine List.ext_getElem? fun j => ?_
  rw [wipe_get, wipe_get, List.length_set, List.getElem?_set]
  by_cases z : i = j
  · subst z
    by_cases hl : i < σ.length
    · rw [if_pos ⟨h, hl⟩, if_pos ⟨h, hl⟩]
    · have e := List.getElem?_eq_none_iff.mpr (Nat.le_of_not_lt hl)
      rw [if_neg (fun q => hl q.2), if_pos rfl, if_neg hl, if_neg (fun q => hl q.2), e]
  · rw [if_neg z]
theorem wipe_wipe (σ : L2.St) (vs : List Nat) : L2.wipe (L2.wipe σ vs) vs = L2.wipe σ vs := by
  refine List.ext_getElem? fun j => ?_
  rw [wipe_get, wipe_get, wipe_length]
  split <;> rfl
theorem rsl_out {D : Addr} {xs ys : List V} (h : RSl K mg io H e σ) (hD : H D = some (.lst xs)) : RSl K mg io (upd H D (.lst ys)) e σ :=
  ⟨h.len, fun i w q => by
    obtain ⟨v, a, b⟩ := h.at_ i w q
    have := RW.keep (r := []) (kp_out (ys := ys) hD) w v b
    rw [List.append_nil] at this
    exact ⟨v, a, this⟩⟩
theorem tnSets_len : ∀ {ts : Tn} {ws : List W} {e e' : Sl}, tnSets ts ws e = some e' → ws.length = gLen ts
  | .nil, [], _, _, _ => rfl
  | .nil, _ :: _, _, _, h => by cases h
  | .cons t ts, [], _, _, h => by cases h
  | .cons t ts, w :: ws, e, e', h => by
    unfold tnSets at h
    cases h1 : tnSet t w e with
    | none => rw [h1] at h; cases h
    | some e1 =>
      rw [h1] at h
      show ws.length + 1 = gLen ts + 1
      rw [tnSets_len (show tnSets ts ws e1 = some e' from h)]
  | .name _, _, _, _, h => by cases h
  | .tup _, _, _, _, h => by cases h
mutual
theorem gOf_ok (r : Rel K mg io H s) : ∀ (t : Tn) (w : W) (v : V) (e e' : Sl) (σ : L2.St) (Q : L2.St → Hp → Prop), RSl K mg io H e σ → RW K mg io H w v → tnSet t w e = some e' →
    (∀ σ', RSl K mg io H e' σ' → (∀ own : List Nat, (∀ i ∈ tnIx t, i ∈ own) → L2.wipe σ' own = L2.wipe σ own) → Q σ' H) → gOf K t v σ H Q
  | .name i, w, v, e, e', σ, Q, hs, hw, ht, q => by
    cases ht
    exact q _ (hs.set i hw) fun own ho => wipe_set σ _ (ho i (List.mem_singleton.mpr rfl))
  | .tup ts, .tup ws, v, e, e', σ, Q, hs, hw, ht, q => by
    obtain ⟨a, vs, rfl, h1, h2⟩ := hw
    have ht : tnSets ts ws e = some e' := ht
    exact ⟨a, vs, rfl, h1, by rw [← h2.length]; exact tnSets_len ht, gsOf_ok r ts ws vs e e' σ Q hs h2 ht q⟩
  | .tup ts, .non, _, _, _, _, _, _, _, ht, _ => by cases ht
  | .tup ts, .bl _, _, _, _, _, _, _, _, ht, _ => by cases ht
  | .tup ts, .int _, _, _, _, _, _, _, _, ht, _ => by cases ht
  | .tup ts, .str _, _, _, _, _, _, _, _, ht, _ => by cases ht
  | .tup ts, .loc _, _, _, _, _, _, _, _, ht, _ => by cases ht
  | .tup ts, .cl _, _, _, _, _, _, _, _, ht, _ => by cases ht
  | .tup ts, .fn _, _, _, _, _, _, _, _, ht, _ => by cases ht
  | .nil, _, _, _, _, _, _, _, _, ht, _ => by cases ht
  | .cons _ _, _, _, _, _, _, _, _, _, ht, _ => by cases ht
theorem gsOf_ok (r : Rel K mg io H s) : ∀ (ts : Tn) (ws : List W) (vs : List V) (e e' : Sl) (σ : L2.St) (Q : L2.St → Hp → Prop), RSl K mg io H e σ → RWs K mg io H ws vs → tnSets ts ws e = some e' →
    (∀ σ', RSl K mg io H e' σ' → (∀ own : List Nat, (∀ i ∈ tnIx ts, i ∈ own) → L2.wipe σ' own = L2.wipe σ own) → Q σ' H) → gsOf K ts vs σ H Q
  | .nil, [], vs, e, e', σ, Q, hs, hw, ht, q => by
    cases ht
    exact ⟨hw, q σ hs fun _ _ => rfl⟩
  | .nil, _ :: _, _, _, _, _, _, _, _, ht, _ => by cases ht
  | .cons t ts, [], _, _, _, _, _, _, _, ht, _ => by cases ht
  | .cons t ts, w :: ws, vs, e, e', σ, Q, hs, hw, ht, q => by
    obtain ⟨v, vr, rfl, h1, h2⟩ := hw
    unfold tnSets at ht
    cases h3 : tnSet t w e with
    | none => rw [h3] at ht; cases ht
    | some e1 =>
      rw [h3] at ht
      refine ⟨v, vr, rfl, gOf_ok r t w v e e1 σ _ hs h1 h3 fun σ1 hs1 hw1 => ?_⟩
      refine gsOf_ok r ts ws vr e1 e' σ1 Q hs1 h2 ht fun σ2 hs2 hw2 => q σ2 hs2 fun own ho => ?_
      rw [hw2 own fun i hi => ho i (List.mem_append_right _ hi), hw1 own fun i hi => ho i (List.mem_append_left _ hi)]
  | .name _, _, _, _, _, _, _, _, _, ht, _ => by cases ht
  | .tup _, _, _, _, _, _, _, _, _, ht, _ => by cases ht
end
end
theorem starEach_ns {e : Expr} {es : List Expr} {env : PySem.Env} (h : noStar e = true) : starEach (e :: es) env = (false, eval e env) :: starEach es env := by
  cases e <;> first | rfl | cases h
section
variable {X : Cx}
theorem assignEach_ns {e : Expr} {es : List Expr} {env : PySem.Env} (h : noStar e = true) : (assignEach (e :: es) env).map (·.2) = assign e env :: (assignEach es env).map (·.2) ∧ (assignEach (e :: es) env).length = (assignEach es env).length + 1 ∧
    ((assignEach es env).findIdx? (·.1) = none → (assignEach (e :: es) env).findIdx? (·.1) = none) := by
  cases e <;> first | (refine ⟨rfl, rfl, fun z => ?_⟩; exact (by rw [show assignEach (_ :: es) env = (false, _) :: assignEach es env from rfl, List.findIdx?_cons, z]; rfl)) | cases h
mutual
theorem sG {fb : Str → Bool} (hc : X.calm = true) (nd : X.N.Nodup) (hfn : ∀ x, fb x = true → X.fn x = true) : ∀ (t : Tn) (x : Expr), mTn X.N fb X.env.scope t x = true → PG X x (gOf X.K t)
  | .name i, x, h => by
    unfold mTn at h
    split at h
    · rename_i y pos
      rw [Bool.and_eq_true, beq_iff_eq, Bool.or_eq_true, Bool.and_eq_true, beq_iff_eq, beq_iff_eq] at h
      rcases h.2 with h2 | h2
      · exact pg_name nd h.1 (.inl h2) (.inr h2)
      · exact pg_name nd h.1 (.inr h2.1) (.inl (hfn _ h2.2))
    · cases h
  | .tup ts, x, h => by
    unfold mTn at h
    split at h
    · rename_i es kk pos
      obtain ⟨p, l, st⟩ := sGs hc nd hfn ts es h
      exact pg_tup hc p l st
    · cases h
  | .nil, _, h => by cases h
  | .cons _ _, _, h => by cases h
theorem sGs {fb : Str → Bool} (hc : X.calm = true) (nd : X.N.Nodup) (hfn : ∀ x, fb x = true → X.fn x = true) : ∀ (ts : Tn) (xs : List Expr), mTns X.N fb X.env.scope ts xs = true → PGs X xs (gsOf X.K ts) ∧ (assignEach xs X.env).length = gLen ts ∧ (assignEach xs X.env).findIdx? (·.1) = none
  | .nil, xs, h => by
    unfold mTns at h
    split at h
    · exact ⟨pgs_nil, rfl, rfl⟩
    · cases h
  | .cons t ts, xs, h => by
    unfold mTns at h
    split at h
    · rename_i y ys
      rw [Bool.and_eq_true, Bool.and_eq_true] at h
      obtain ⟨p, l, st⟩ := sGs hc nd hfn ts ys h.2
      obtain ⟨a1, a2, a3⟩ := assignEach_ns (es := ys) (env := X.env) h.1.1
      exact ⟨pgs_cons (sG hc nd hfn t y h.1.2) p a1, by rw [a2, l]; rfl, a3 st⟩
    · cases h
  | .name _, _, h => by cases h
  | .tup _, _, h => by cases h
end
end
section
variable {K : PySem.W.Frag} {mg : Str → Option Value} {io io' : List Addr} {H H' : Hp} {s : Sto}
theorem jr_list {w : W} {a : Addr} (k : RW K mg io H w (.ref a)) (r : Rel K mg io H s) (h : isLi w s = true) : JR K mg (.li w) (Itl K a) io H := by
  intro io1 H1 s1 t r1 i
  show match (lsq w s1).map fun ws => ws[i]? with
    | none => True
    | some none => _
    | some (some w) => _
  cases h1 : lsq w s1 with
  | none => trivial
  | some ws =>
    obtain ⟨p, vs, e, h2, h3⟩ := lsq_sq r1 (r.mono t _ _ k) h1
    cases e
    show match some ws[i]? with
      | none => True
      | some none => _
      | some (some w) => _
    cases h4 : ws[i]? with
    | none =>
      have : vs.length ≤ i := by rw [← h3.length]; exact List.getElem?_eq_none_iff.mp h4
      exact ⟨vs, h2, this⟩
    | some u =>
      obtain ⟨v, h5, h6⟩ := h3.get h4
      refine ⟨⟨vs, v, h2, h5⟩, fun x H' y => ?_⟩
      obtain ⟨e, y⟩ := y
      subst e
      have := y vs h2
      rw [h5] at this
      cases this
      exact ⟨.refl, r1, h6⟩
theorem jr_tup {ws : List W} {a : Addr} {vs : List V} (k : SqT K H a vs) (kw : RWs K mg io H ws vs) (r : Rel K mg io H s) : JR K mg (.tu ws) (Itt K a) io H := by
  intro io1 H1 s1 t r1 i
  have h2 := r.keepT t k
  have h3 := r.monos t _ _ kw
  show match some ws[i]? with
    | none => True
    | some none => _
    | some (some w) => _
  cases h4 : ws[i]? with
  | none =>
    have : vs.length ≤ i := by rw [← h3.length]; exact List.getElem?_eq_none_iff.mp h4
    exact ⟨vs, h2, this⟩
  | some u =>
    obtain ⟨v, h5, h6⟩ := h3.get h4
    refine ⟨⟨vs, v, h2, h5⟩, fun x H' y => ?_⟩
    obtain ⟨e, y⟩ := y
    subst e
    have := y vs h2
    rw [h5] at this
    cases this
    exact ⟨.refl, r1, h6⟩
theorem jr_str {x : Str} : JR K mg (.st x) (Its x) io H := by
  intro io1 H1 s1 t r1 i
  show match some ((x.cps[i]?).map fun c => W.str ⟨#[c]⟩) with
    | none => True
    | some none => _
    | some (some w) => _
  cases h4 : x.cps[i]? with
  | none => exact Array.getElem?_eq_none_iff.mp h4
  | some u =>
    refine ⟨(Array.getElem?_eq_some_iff.mp h4).1, fun y H' z => ?_⟩
    obtain ⟨rfl, c, hc, rfl⟩ := z
    rw [h4] at hc
    cases hc
    exact ⟨.refl, r1, rfl⟩
theorem jr_rng {lo : Int} {n : Nat} : JR K mg (.rng lo 1 n) (Itr lo n) io H := by
  intro io1 H1 s1 t r1 i
  show match some (if i < n then some (W.int (lo + (i : Nat) * 1)) else none) with
    | none => True
    | some none => _
    | some (some w) => _
  by_cases h : i < n
  · rw [if_pos h]
    refine ⟨h, fun y H' z => ?_⟩
    obtain ⟨rfl, rfl⟩ := z
    exact ⟨.refl, r1, by rw [Int.mul_one]; rfl⟩
  · rw [if_neg h]
    exact Nat.le_of_not_lt h
theorem jr_rngC {lo c : Int} {n : Nat} : JR K mg (.rng lo c n) (Itc lo c n) io H := by
  intro io1 H1 s1 t r1 i
  show match some (if i < n then some (W.int (lo + (i : Nat) * c)) else none) with
    | none => True
    | some none => _
    | some (some w) => _
  by_cases h : i < n
  · rw [if_pos h]
    refine ⟨h, fun y H' z => ?_⟩
    obtain ⟨rfl, rfl⟩ := z
    exact ⟨.refl, r1, rfl⟩
  · rw [if_neg h]
    exact Nat.le_of_not_lt h
theorem jr_enum {w : W} {a : Addr} (k : RW K mg io H w (.ref a)) (r : Rel K mg io H s) : JR K mg (.enu w) (Ite K a) io H := by
  intro io1 H1 s1 t r1 i
  show match (lsq w s1).map fun ws => (ws[i]?).map fun x => W.tup [.int (i : Nat), x] with
    | none => True
    | some none => _
    | some (some w) => _
  cases h1 : lsq w s1 with
  | none => trivial
  | some ws =>
    obtain ⟨p, vs, e, h2, h3⟩ := lsq_sq r1 (r.mono t _ _ k) h1
    cases e
    show match some ((ws[i]?).map fun x => W.tup [.int (i : Nat), x]) with
      | none => True
      | some none => _
      | some (some w) => _
    cases h4 : ws[i]? with
    | none =>
      have : vs.length ≤ i := by rw [← h3.length]; exact List.getElem?_eq_none_iff.mp h4
      exact ⟨vs, h2, this⟩
    | some u =>
      obtain ⟨v, h5, h6⟩ := h3.get h4
      refine ⟨⟨vs, v, h2, h5⟩, fun x H' y => ?_⟩
      obtain ⟨T, z, rfl, hT, rfl, y⟩ := y
      have := y vs h2
      rw [h5] at this
      cases this
      exact ⟨stp_tup hT, r1.tup hT, rw_tup r1 (.two rfl h6) hT⟩
theorem jr_zip {w u : W} {a b : Addr} (k : RW K mg io H w (.ref a)) (k' : RW K mg io H u (.ref b)) (r : Rel K mg io H s) : JR K mg (.zp w u) (Itz K a b) io H := by
  intro io1 H1 s1 t r1 i
  show match (match lsq w s1, lsq u s1 with
    | some xs, some ys => some (match xs[i]?, ys[i]? with
      | some x, some y => some (W.tup [x, y])
      | _, _ => none)
    | _, _ => none) with
    | none => True
    | some none => _
    | some (some w) => _
  cases h1 : lsq w s1 with
  | none => trivial
  | some xs =>
    cases h1' : lsq u s1 with
    | none => trivial
    | some ys =>
      obtain ⟨p, vs, e, h2, h3⟩ := lsq_sq r1 (r.mono t _ _ k) h1
      obtain ⟨p', us, e', h2', h3'⟩ := lsq_sq r1 (r.mono t _ _ k') h1'
      cases e
      cases e'
      show match some (match xs[i]?, ys[i]? with
        | some x, some y => some (W.tup [x, y])
        | _, _ => none) with
        | none => True
        | some none => _
        | some (some w) => _
      cases h4 : xs[i]? with
      | none =>
        have : vs.length ≤ i := by rw [← h3.length]; exact List.getElem?_eq_none_iff.mp h4
        exact ⟨vs, us, h2, h2', .inl this⟩
      | some x0 =>
        cases h4' : ys[i]? with
        | none =>
          have : us.length ≤ i := by rw [← h3'.length]; exact List.getElem?_eq_none_iff.mp h4'
          exact ⟨vs, us, h2, h2', .inr this⟩
        | some y0 =>
          obtain ⟨v, h5, h6⟩ := h3.get h4
          obtain ⟨v', h5', h6'⟩ := h3'.get h4'
          refine ⟨⟨vs, us, v, v', h2, h2', h5, h5'⟩, fun x H' y => ?_⟩
          obtain ⟨T, z, z', rfl, hT, rfl, y, y'⟩ := y
          have q := y vs h2
          rw [h5] at q
          cases q
          have q := y' us h2'
          rw [h5'] at q
          cases q
          exact ⟨stp_tup hT, r1.tup hT, rw_tup r1 (.two h6 h6') hT⟩
theorem jr_zipT {xs ys : List W} {a b : Addr} {vs us : List V} (k : SqT K H a vs) (kw : RWs K mg io H xs vs) (k' : SqT K H b us) (kw' : RWs K mg io H ys us) (r : Rel K mg io H s) : JR K mg (.zt xs ys) (RZ.ItzT K a b) io H := by
  intro io1 H1 s1 t r1 i
  have h2 := r.keepT t k
  have h3 := r.monos t _ _ kw
  have h2' := r.keepT t k'
  have h3' := r.monos t _ _ kw'
  show match some (match xs[i]?, ys[i]? with
      | some x, some y => some (W.tup [x, y])
      | _, _ => none) with
    | none => True
    | some none => _
    | some (some w) => _
  cases h4 : xs[i]? with
  | none =>
    have : vs.length ≤ i := by rw [← h3.length]; exact List.getElem?_eq_none_iff.mp h4
    exact ⟨vs, us, h2, h2', .inl this⟩
  | some x0 =>
    cases h4' : ys[i]? with
    | none =>
      have : us.length ≤ i := by rw [← h3'.length]; exact List.getElem?_eq_none_iff.mp h4'
      exact ⟨vs, us, h2, h2', .inr this⟩
    | some y0 =>
      obtain ⟨v, h5, h6⟩ := h3.get h4
      obtain ⟨v', h5', h6'⟩ := h3'.get h4'
      refine ⟨⟨vs, us, v, v', h2, h2', h5, h5'⟩, fun x H' y => ?_⟩
      obtain ⟨T, z, z', rfl, hT, rfl, y, y'⟩ := y
      have q := y vs h2
      rw [h5] at q
      cases q
      have q := y' us h2'
      rw [h5'] at q
      cases q
      exact ⟨stp_tup hT, r1.tup hT, rw_tup r1 (.two h6 h6') hT⟩
theorem jr_rev {w : W} {a : Addr} {n : Nat} (k : RW K mg io H w (.ref a)) (r : Rel K mg io H s) : JR K mg (.rv w n) (Itv K a n) io H := by
  intro io1 H1 s1 t r1 i
  show match (if i < n then (lsq w s1).bind fun ws => (ws[n - 1 - i]?).map some else some none) with
    | none => True
    | some none => _
    | some (some w) => _
  by_cases h : i < n
  · rw [if_pos h]
    cases h1 : lsq w s1 with
    | none => trivial
    | some ws =>
      obtain ⟨p, vs, e, h2, h3⟩ := lsq_sq r1 (r.mono t _ _ k) h1
      cases e
      show match (ws[n - 1 - i]?).map some with
        | none => True
        | some none => _
        | some (some w) => _
      cases h4 : ws[n - 1 - i]? with
      | none => trivial
      | some u =>
        obtain ⟨v, h5, h6⟩ := h3.get h4
        refine ⟨⟨h, vs, v, h2, h5⟩, fun x H' y => ?_⟩
        obtain ⟨e, y⟩ := y
        subst e
        have := y vs h2
        rw [h5] at this
        cases this
        exact ⟨.refl, r1, h6⟩
  · rw [if_neg h]
    exact Nat.le_of_not_lt h
theorem jr_revT {ws : List W} {a : Addr} {vs : List V} (k : SqT K H a vs) (kw : RWs K mg io H ws vs) (r : Rel K mg io H s) : JR K mg (.rt ws) (RT.ItvT K a vs.length) io H := by
  intro io1 H1 s1 t r1 i
  have h2 := r.keepT t k
  have h3 := r.monos t _ _ kw
  show match (if i < ws.length then (ws[ws.length - 1 - i]?).map some else some none) with
    | none => True
    | some none => _
    | some (some w) => _
  by_cases h : i < ws.length
  · rw [if_pos h]
    cases h4 : ws[ws.length - 1 - i]? with
    | none => trivial
    | some u =>
      obtain ⟨v, h5, h6⟩ := h3.get h4
      rw [h3.length] at h5 h
      refine ⟨⟨h, vs, v, h2, h5⟩, fun x H' y => ?_⟩
      obtain ⟨e, y⟩ := y
      subst e
      have := y vs h2
      rw [h5] at this
      cases this
      exact ⟨.refl, r1, h6⟩
  · rw [if_neg h]
    rw [h3.length] at h
    exact Nat.le_of_not_lt h
end
end Py

namespace Py
open PySem PySem.Spec PyProof.Rows L2
theorem is_pin {X : Cx} {a D : Addr} {oe : Obj} (hp : (a, oe) ∈ X.pn) (hA : X.A.mark (some (.ref a)) = X.A) (C : ExcC X.K D) (hz : Zc (.ref D) none oe) (hf : ∃ vs, oe.data = .fields vs) : CallR X (.builtin "isinstance") (rIsE X.K D a) := by
  intro pins s σ H xs us Q I r h
  obtain ⟨g1, g2, g3, g4, _⟩ := I.pin (a, oe) (List.mem_append_left _ hp)
  obtain ⟨vs, hv⟩ := hf
  have J := I.suite g1 hv g2 g3 g4
  have z := call_isE (X := X) (pn := X.pn ++ pins) C hz ⟨vs, hv⟩ [] s σ H xs us Q J r h
  have eA : (X.suite a ((a, oe) :: (X.pn ++ pins))).A = X.A := hA
  rw [eA] at z
  refine wpAny_mono z (fun u s' w => ?_) fun e s' w => w.elim
  obtain ⟨x, H', I', w⟩ := w
  exact ⟨x, H', I'.unsuite I.ok, w⟩
section
variable {P : Program} {w : World} {K : PySem.W.Frag} {mg : Str → Option Value} {base : Heap} {CX : CXT} {k : Nat} {f : Addr} {fd : FuncData} {x qual : Str} {params : Arguments} {body : List Stmt} {scope : Scope} {N ps : List Str} {sp : Addr → Addr → Sp}
theorem fnW_of (F : FunD K x qual params body scope [] [] f fd) (S : FnScope N ps scope) (len : ∀ D a vs H Q E, sp D a vs H Q E → vs.length = ps.length)
    (hbody : ∀ (cdv : Value) (A : Around) (outer : List Env) (s : Shared) (H : Hp) (vs : List V) (Q : VK) (E : XK) (a D : Addr) (oe : Obj), A.mark (some (.ref a)) = A → Zc (.ref D) none oe → (∃ vs, oe.data = .fields vs) → L2H.RoomH k (A.deeper (envOfC qual scope s.heap.objs.size f cdv)) → sp D a vs H Q E →
      ∃ t, PSs (L2H.cxH CX P w K mg base N qual scope f cdv A outer s H E (a, oe)) body t ∧ t { nx := fun _ H' => Q .non H', rt := Q } (L2.start N vs) H) : FnW P w K mg base CX (k + 1) f fd ps sp := by
  obtain ⟨oc, od, dV, kV, doc, pm, an, cdv, ct, osl, rfl, lk, hcd, _, _⟩ := F.ex
  refine ⟨len, ?_⟩
  intro A outer s H args us vs Q E a D oe room hot hz hf pin e0 hb rv h
  have kin : K.In s.heap := e0.mod.kin.keeps fun _ _ z => (e0.bs _ _ z).1
  have par : ∀ y ∈ ps.zip us, scope.names.lookup y.1 = some .local ∨ (scope.names.lookup y.1 = some .cell ∧ ((cellsFrom (s.heap.objs.size + 1) scope.names []).lookup y.1).isSome = true) := by
    rintro ⟨n, v⟩ hy
    exact (S.par n (List.of_mem_zip hy).1).imp id fun z => ⟨z, PySem.W.cellsFrom_some _ _ _ (.inl z)⟩
  refine codeAny_call_function room.depth (kin _ _ lk) rfl S.co S.gen rfl (PySem.W.codeRec_of kin hcd) (hb _ _ _ _ (wpAny_newFunctionEnv_cells S.kind par fun env he s1 z => ?_))
  subst he
  obtain ⟨t, ht, hq⟩ := hbody cdv A outer s H vs Q E a D oe hot hz hf (room.deeper _) h
  refine ⟨(e0.mod.nolimit.keeps fun _ _ z => (e0.bs _ _ z).1).keeps z.toInCall.keep, codeAny_func ?_⟩
  refine wpAny_mono (ht.run [] s1 _ H _ (L2H.inv_startH S pin e0 (len _ _ _ _ _ _ h) rv z) hq) ?_ fun _ _ hs => hs
  intro fl s' hs
  cases fl with
  | ret u => obtain ⟨v, _, H', J, r, q⟩ := hs; exact ⟨v, H', J.os, J.bare, J.base, J.hok, r, q⟩
  | next => obtain ⟨_, H', J, q⟩ := hs; exact ⟨.non, H', J.os, J.bare, J.base, J.hok, rfl, q⟩
  | brk => obtain ⟨_, _, _, q⟩ := hs; exact q.elim
  | cont => obtain ⟨_, _, _, q⟩ := hs; exact q.elim
end
section
variable {X : Cx} {CX : CXT} {k : Nat} {f a D : Addr} {oe : Obj} {fd : FuncData} {ps : List Str} {sp : Addr → Addr → Sp} {E : L2.St → XK} {x : Str} {q pos : Pos} {e : Expr} {es : List Expr} {t : TA}
theorem pe_callW (F : FnW X.prog X.w X.K X.mg X.base CX k f fd ps sp) (room : L2H.RoomH k X.A) (hot : X.A.mark (some (.ref a)) = X.A) (hz : Zc (.ref D) none oe) (hf : ∃ vs, oe.data = .fields vs) (hp : (a, oe) ∈ X.pn) (hg : Gl X x) (hm : X.mg x = some (.ref f)) (hk : PySem.W.keepIn X.K (.ref f) = true) (hb : Binds X.K fd ps []) (hx : ∀ σ, PassesAt CX X σ (E σ))
    (ha : PA X (e :: es) t) (hdb : (x == ("__debug__" : Str)) = false) (he : starEach (e :: es) X.env = (false, eval e X.env) :: starEach es X.env) (hpl : (backTo pos (starEach es X.env)).any (·.1) = false) :
    PE X (.Call (.Name x q) (e :: es) [] pos) (tCallS (sp D a) E t) := by
  constructor
  intro pins s σ H Q I h
  refine wpAny_Call_Name_kw (ld_glob I hg hm (PySem.W.callWith_K (h₀ := X.base) I.ok.mod.kin hk (L2.thn (ha.run pos pins s σ H _ I h) ?_) he hpl) hdb)
  rintro us s1 ⟨vs, H1, J, r, z⟩
  refine ⟨J.kIn, ?_⟩
  obtain ⟨p1, p2, p3, p4, p5⟩ := J.pin (a, oe) (List.mem_append_left _ hp)
  have pin : L2H.PinOk X.stack H1 s1 (a, oe) := ⟨p1, p2, fun y => (List.mem_cons.mp (J.stkSub a y)).elim p3 p4, p5⟩
  have len : us.length = ps.length := r.length.symm.trans (F.len _ _ _ _ _ _ z)
  have b := hb s1 us J.kIn (by simpa using len)
  rw [List.append_nil] at b
  refine wpAny_call (codeAny_mono (F.run X.A X.stack s1 H1 ⟨us, []⟩ us vs Q (E σ) a D oe room hot hz hf pin J.env0 b r z) ?_)
  intro o s' w
  match o, w with
  | .error e, w => exact hx σ pins H1 s1 e s' J w
  | .ok (.ret u), w => exact J.after w
  | .ok .next, w => exact w.elim
  | .ok .brk, w => exact w.elim
  | .ok .cont, w => exact w.elim
end
theorem Rel.grow {K : PySem.W.Frag} {mg : Str → Option Value} {io : List Addr} {H H' : Hp} {s : Sto} (r : Rel K mg io H s) (g : ∀ b o, H b = some o → H' b = some o) : Stp io H io H' ∧ Rel K mg io H' s := by
  have t : Stp io H io H' := ⟨⟨[], by simp⟩, fun b o h _ => g b o h, fun a h => .inl h⟩
  exact ⟨t, r.len, r.nd, fun n a ws h1 h2 => by
    obtain ⟨vs, q1, q2⟩ := r.at_ n a ws h1 h2
    exact ⟨vs, g _ _ q1, r.monos t _ _ q2⟩⟩
end Py

namespace Py
open PySem PySem.Spec PyProof.Rows L2
section
variable {α β : Type}
end
theorem Good.blk {X : Cx} {k : Nat} {g : G} {W : WX} (h : Good X k g W) (s : Shared) (H : Hp) (scope : Scope) (cenv : PySem.Env) (fp : List Addr) : Good (X.blk s H scope cenv fp) k g (fun _ _ _ _ => False) :=
  ⟨h.calm, h.room, h.nd, takes0, h.mo, ⟨h.seer.at_, h.seer.dp, h.seer.un⟩⟩
theorem okN_ok {x : Str} (h : okN x = true) : (x == ("__debug__" : Str)) = false ∧ (x == ("__classdict__" : Str)) = false := by
  unfold okN at h
  rw [Bool.and_eq_true, Bool.not_eq_true', Bool.not_eq_true'] at h
  exact h
theorem visB_ok {sc : Scope} {x : Str} (h : visB sc x = true) : Vis sc x := by
  unfold visB at h
  split at h
  · exact .inl (by assumption)
  · exact .inr (.inl (by assumption))
  · exact .inr (.inr (by assumption))
  · cases h
theorem glB_ok {X : Cx} {x : Str} (h : glB X.env.scope x = true) : Gl X x := by
  unfold glB at h
  exact eq_of_beq h
theorem nostar_any {env : PySem.Env} {pos : Pos} : ∀ {es : List Expr}, (∀ e ∈ es, noStar e = true) → (backTo pos (starEach es env)).any (·.1) = false
  | [], _ => rfl
  | e :: es, h => by
    rw [starEach_ns (h e List.mem_cons_self)]
    show (false || (backTo pos (starEach es env)).any (·.1)) = false
    rw [nostar_any fun x hx => h x (List.mem_cons_of_mem _ hx)]
    rfl
theorem nostar_all {env : PySem.Env} {pos : Pos} : ∀ {es : List Expr}, (∀ e ∈ es, noStar e = true) → (backTo pos (starEach es env)).all (fun x => !x.1) = true
  | [], _ => rfl
  | e :: es, h => by
    rw [starEach_ns (h e List.mem_cons_self)]
    show (true && (backTo pos (starEach es env)).all (fun x => !x.1)) = true
    rw [nostar_all fun x hx => h x (List.mem_cons_of_mem _ hx)]
    rfl
theorem mEs_ns {N : List Str} {D : Str → Bool} {sc : Scope} : ∀ {as : E} {es : List Expr}, mEs N D as sc es = true → ∀ e ∈ es, noStar e = true
  | .nil, es, h, e, he => by
    unfold mEs at h
    split at h
    · cases he
    · cases h
  | .cons a as, es, h, e, he => by
    unfold mEs at h
    split at h
    · rw [Bool.and_eq_true, Bool.and_eq_true] at h
      rcases List.mem_cons.mp he with z | z
      · rw [z]; exact h.1.1
      · exact mEs_ns h.2 e z
    · cases h
  | .var _, _, h, _, _ => by cases h
  | .con _, _, h, _, _ => by cases h
  | .fref _, _, h, _, _ => by cases h
  | .int _, _, h, _, _ => by cases h
  | .bl _, _, h, _, _ => by cases h
  | .non, _, h, _, _ => by cases h
  | .str _, _, h, _, _ => by cases h
  | .bin _ _ _, _, h, _, _ => by cases h
  | .neg _, _, h, _, _ => by cases h
  | .no _, _, h, _, _ => by cases h
  | .cmp _ _ _, _, h, _, _ => by cases h
  | .chain _ _ _ _ _, _, h, _, _ => by cases h
  | .and _ _, _, h, _, _ => by cases h
  | .or _ _, _, h, _, _ => by cases h
  | .one _, _, h, _, _ => by cases h
  | .ite _ _ _, _, h, _, _ => by cases h
  | .tup _, _, h, _, _ => by cases h
  | .lst _, _, h, _, _ => by cases h
  | .ix _ _, _, h, _, _ => by cases h
  | .sl _ _ _, _, h, _, _ => by cases h
  | .rv _, _, h, _, _ => by cases h
  | .call _ _, _, h, _, _ => by cases h
  | .callv _ _, _, h, _, _ => by cases h
  | .bi _ _, _, h, _, _ => by cases h
  | .mt _ _ _, _, h, _, _ => by cases h
  | .isi _ _, _, h, _, _ => by cases h
  | .comp _ _ _ _ _ _, _, h, _, _ => by cases h
section
variable {K : PySem.W.Frag} {mg : Str → Option Value} {io : List Addr} {H : Hp} {s : Sto}
theorem kf_NoneType_int : kitB "NoneType" "int" = some false := by decide +kernel
theorem kf_NoneType_bool : kitB "NoneType" "bool" = some false := by decide +kernel
theorem kf_NoneType_tuple : kitB "NoneType" "tuple" = some false := by decide +kernel
theorem kf_NoneType_list : kitB "NoneType" "list" = some false := by decide +kernel
theorem kf_NoneType_str : kitB "NoneType" "str" = some false := by decide +kernel
theorem kf_bool_int : kitB "bool" "int" = some true := by decide +kernel
theorem kf_bool_bool : kitB "bool" "bool" = some true := by decide +kernel
theorem kf_bool_tuple : kitB "bool" "tuple" = some false := by decide +kernel
theorem kf_bool_list : kitB "bool" "list" = some false := by decide +kernel
theorem kf_bool_str : kitB "bool" "str" = some false := by decide +kernel
theorem kf_int_int : kitB "int" "int" = some true := by decide +kernel
theorem kf_int_bool : kitB "int" "bool" = some false := by decide +kernel
theorem kf_int_tuple : kitB "int" "tuple" = some false := by decide +kernel
theorem kf_int_list : kitB "int" "list" = some false := by decide +kernel
theorem kf_int_str : kitB "int" "str" = some false := by decide +kernel
theorem kf_str_int : kitB "str" "int" = some false := by decide +kernel
theorem kf_str_bool : kitB "str" "bool" = some false := by decide +kernel
theorem kf_str_tuple : kitB "str" "tuple" = some false := by decide +kernel
theorem kf_str_list : kitB "str" "list" = some false := by decide +kernel
theorem kf_str_str : kitB "str" "str" = some true := by decide +kernel
theorem kf_tuple_int : kitB "tuple" "int" = some false := by decide +kernel
theorem kf_tuple_bool : kitB "tuple" "bool" = some false := by decide +kernel
theorem kf_tuple_tuple : kitB "tuple" "tuple" = some true := by decide +kernel
theorem kf_tuple_list : kitB "tuple" "list" = some false := by decide +kernel
theorem kf_tuple_str : kitB "tuple" "str" = some false := by decide +kernel
theorem kf_list_int : kitB "list" "int" = some false := by decide +kernel
theorem kf_list_bool : kitB "list" "bool" = some false := by decide +kernel
theorem kf_list_tuple : kitB "list" "tuple" = some false := by decide +kernel
theorem kf_list_list : kitB "list" "list" = some true := by decide +kernel
theorem kf_list_str : kitB "list" "str" = some false := by decide +kernel
theorem tyX_of (r : Rel K mg io H s) {w : W} {v : V} (k : RW K mg io H w v) (t : Ty) {b : Bool} (h : isiW t w = some b) : TyX K H v (.type (tyN w)) := by
  cases w with
  | non => rw [show v = .non from k]; exact .base .non
  | bl b => rw [show v = .bl b from k]; exact .base (.bl b)
  | int i => rw [show v = .int i from k]; exact .base (.int i)
  | str x => rw [show v = .str x from k]; exact .base (.str x)
  | tup ws =>
    obtain ⟨a, vs, rfl, h1, h2⟩ := k
    rcases h1 with (h1 | ⟨o, h1⟩) | ⟨o, its, n, h1, h2, _⟩
    · exact .base (.tup h1)
    · exact .fTuple h1
    · exact .kTuple h1 h2
  | loc n =>
    obtain ⟨a, rfl, h1⟩ := k
    have hl : n < s.length := by rw [← r.len]; exact (List.getElem?_eq_some_iff.mp h1).1
    obtain ⟨vs, h3, _⟩ := r.at_ n a _ h1 (List.getElem?_eq_getElem hl)
    exact .base (.lst h3)
  | cl ws =>
    obtain ⟨a, vs, rfl, h1, h2⟩ := k
    rcases h1 with ⟨o, h1⟩ | ⟨o, its, n, h1, h2, _⟩
    · exact .base (.frz h1)
    · exact .kList h1 h2
  | fn x => cases t <;> cases h
theorem kit_all {w : W} {t : Ty} {b : Bool} (ht : t ≠ .lt) (h : isiW t w = some b) : kitB (tyN w) t.tn = some b := by
  cases t <;> first
    | exact absurd rfl ht
    | (cases w <;> first
      | (cases h; done)
      | (cases h; first | exact kf_NoneType_int | exact kf_NoneType_bool | exact kf_NoneType_tuple | exact kf_NoneType_list | exact kf_NoneType_str | exact kf_bool_int | exact kf_bool_bool | exact kf_bool_tuple | exact kf_bool_list | exact kf_bool_str | exact kf_int_int | exact kf_int_bool | exact kf_int_tuple | exact kf_int_list | exact kf_int_str | exact kf_str_int | exact kf_str_bool | exact kf_str_tuple | exact kf_str_list | exact kf_str_str | exact kf_tuple_int | exact kf_tuple_bool | exact kf_tuple_tuple | exact kf_tuple_list | exact kf_tuple_str | exact kf_list_int | exact kf_list_bool | exact kf_list_tuple | exact kf_list_list | exact kf_list_str))
theorem kit_lt {w : W} {b : Bool} (h : isiW .lt w = some b) : PySem.W.kitAny K (.type (tyN w)) [.type "list", .type "tuple"] = some b := by
  have ff : ∀ {a : String}, kitB a "list" = some false → kitB a "tuple" = some false → PySem.W.kitAny K (.type a) [.type "list", .type "tuple"] = some false := fun h1 h2 => kitAny_cons (b := false) (kit_ty h1) (fun _ => kitAny_cons (b := false) (kit_ty h2) (fun _ => rfl) (fun z => nomatch z)) (fun z => nomatch z)
  cases w with
  | non => cases h; exact ff kf_NoneType_list kf_NoneType_tuple
  | bl _ => cases h; exact ff kf_bool_list kf_bool_tuple
  | int _ => cases h; exact ff kf_int_list kf_int_tuple
  | str _ => cases h; exact ff kf_str_list kf_str_tuple
  | tup _ => cases h; exact kitAny_cons (b := false) (kit_ty kf_tuple_list) (fun _ => kitAny_cons (b := true) (kit_ty kf_tuple_tuple) (fun z => nomatch z) (fun _ => rfl)) (fun z => nomatch z)
  | loc _ => cases h; exact kitAny_cons (b := true) (kit_ty kf_list_list) (fun z => nomatch z) (fun _ => rfl)
  | cl _ => cases h; exact kitAny_cons (b := true) (kit_ty kf_list_list) (fun z => nomatch z) (fun _ => rfl)
  | fn _ => cases h
theorem truW_ok (r : Rel K mg io H s) {w : W} {v : V} {b : Bool} (k : RW K mg io H w v) (h : truW w s = some b) : TruV K v H b := by
  cases w with
  | non => rw [show v = .non from k]; cases h; rfl
  | bl c => rw [show v = .bl c from k]; cases h; rfl
  | int i => rw [show v = .int i from k]; cases h; rfl
  | str x => cases h
  | tup ws =>
    obtain ⟨a, vs, rfl, h1, h2⟩ := k
    cases h
    refine .inr (.inl ⟨vs, h1, ?_⟩)
    cases ws with
    | nil => rw [show vs = [] from h2]; rfl
    | cons w ws => obtain ⟨x, q, rfl, _⟩ := h2; rfl
  | loc n =>
    obtain ⟨a, rfl, h1⟩ := k
    have h : (s[n]?).map (fun ws => !ws.isEmpty) = some b := h
    cases h3 : s[n]? with
    | none => rw [h3] at h; cases h
    | some ws =>
      rw [h3] at h
      cases h
      obtain ⟨a', vs, h4, h5, h6⟩ := r.sto h3
      rw [h1] at h4
      cases h4
      refine .inl ⟨vs, .of h5, ?_⟩
      cases ws with
      | nil => rw [show vs = [] from h6]; rfl
      | cons w ws => obtain ⟨x, q, rfl, _⟩ := h6; rfl
  | cl ws =>
    obtain ⟨a, vs, rfl, h1, h2⟩ := k
    cases h
    refine .inl ⟨vs, h1.sq, ?_⟩
    cases ws with
    | nil => rw [show vs = [] from h2]; rfl
    | cons w ws => obtain ⟨x, q, rfl, _⟩ := h2; rfl
  | fn x => cases h
end
end Py

namespace Py
open PySem PySem.Spec PyProof.Rows L2
theorem pe_callLS {X : Cx} {CX : CXT} {k i : Nat} {x : Str} {p pos : Pos} {e : Expr} {es : List Expr} {t : TA} {S : Addr → Sp → Prop} {E : L2.St → XK}
    (A : ∀ f sp, S f sp → ∃ fd ps, FnOk X.prog X.w X.K X.mg X.base CX k f fd ps sp ∧ PySem.W.keepIn X.K (.ref f) = true ∧ Binds X.K fd ps []) (hr : Room k X.A) (hN : X.N[i]? = some x) (hv : Vis X.env.scope x) (hx : ∀ σ, PassesAt CX X σ (E σ)) (ha : PA X (e :: es) t)
    (hdb : (x == ("__debug__" : Str)) = false) (hcd : (x == ("__classdict__" : Str)) = false)
    (he : starEach (e :: es) X.env = (false, eval e X.env) :: starEach es X.env) (hpl : (backTo pos (starEach es X.env)).any (·.1) = false) : PE X (.Call (.Name x p) (e :: es) [] pos) (tCallLS i S E t) := by
  refine ⟨fun pins s σ H Q I h => ?_⟩
  obtain ⟨f, sp, hs, hS, ht⟩ := h
  obtain ⟨fd, ps, F, hk, hb⟩ := A f sp hS
  refine wpAny_Call_Name_kw (L2.thn ((pe_var (pos := p) hN hv hdb hcd).run pins s σ H (fun v H1 => v = .ref f ∧ H1 = H) I ⟨.ref f, hs, rfl, rfl⟩) fun u s1 ⟨v, H1, I1, r1, q1⟩ => ?_)
  obtain ⟨rfl, rfl⟩ := q1
  cases r1
  refine PySem.W.callWith_K (h₀ := X.base) I.ok.mod.kin hk (L2.thn (ha.run pos pins s1 σ _ _ I1 ht) fun us s2 ⟨vs, H2, I2, r, q⟩ => ⟨I2.kIn, ?_⟩) he hpl
  exact run_fnS F hr hb (hx σ) I2 r q
theorem bi_boot (f : Bi) : bootBuiltins f.nm = some f.val := by cases f <;> decide +kernel
theorem bi_nm (f : Bi) : f.nm ∈ bltNames := by cases f <;> decide
theorem bi_dunder (f : Bi) : f.nm ≠ "__name__" ∧ (f.nm == ("__debug__" : Str)) = false := by cases f <;> decide
theorem ty_boot (t : Ty) (h : t ≠ .lt) : bootBuiltins t.nm = some (.type t.tn) ∧ t.nm ∈ bltNames ∧ t.nm ≠ "__name__" ∧ (t.nm == ("__debug__" : Str)) = false := by
  cases t <;> first | exact absurd rfl h | exact ⟨by decide +kernel, by decide, by decide, by decide⟩
theorem mt_facts (m : Mt) : Slot "list" m.nm m.id ∧ typeOf (.builtin m.id) = pure (.type "method_descriptor") := by
  cases m with
  | append => exact ⟨PySem.F.slot_list_append, PySem.F.type_list_append⟩
  | pop => exact ⟨PySem.F.slot_list_pop, PySem.F.type_list_pop⟩
  | popAt => exact ⟨PySem.F.slot_list_pop, PySem.F.type_list_pop⟩
  | extend => exact ⟨PySem.F.slot_list_extend, PySem.F.type_list_extend⟩
  | clear => exact ⟨PySem.F.slot_list_clear, PySem.F.type_list_clear⟩
theorem rcv_base {X : Cx} {p : Expr} {n : Str} (h : rcv p = true) : attributeBase p n X.env (eval p X.env) = eval p X.env := by
  cases p <;> first | rfl | cases h
theorem noset_in {op : CmpOp} {e : Expr} (h : noSet e = true) : behindInMarks op e = false := by
  cases e <;> first | rfl | cases h
theorem noset_fold {X : Cx} {e : Expr} (h : noSet e = true) : ∀ x, foldedSetIterable e X.env x = pure x := by
  intro x
  cases e <;> first | rfl | cases h
section
variable {α β : Type} {K : PySem.W.Frag} {mg : Str → Option Value} {io : List Addr} {H : Hp} {s : Sto} {Q : KO α} {Z : KO Str}
theorem Out.toBk {w : W} {f : Bool → Sto → R α} (o : Out K mg ((Py.toB w s).bind f) io H Q Z) : ∃ b, w = .bl b ∧ Out K mg (f b s) io H Q Z := by
  cases w <;> first | exact False.elim o | exact ⟨_, rfl, o⟩
theorem Out.toIk {w : W} {f : Int → Sto → R α} (o : Out K mg ((Py.toI w s).bind f) io H Q Z) : ∃ b, w = .int b ∧ Out K mg (f b s) io H Q Z := by
  cases w <;> first | exact False.elim o | exact ⟨_, rfl, o⟩
theorem Out.slot {e : Sl} {σ : L2.St} {i : Nat} {Q : KO W} (hs : RSl K mg io H e σ) (o : Out K mg (rslot e i s) io H Q Z) : ∃ w v, σ[i]? = some (some v) ∧ RW K mg io H w v ∧ Out K mg (.ok w s) io H Q Z := by
  unfold rslot at o
  cases h : e[i]? with
  | none => rw [h] at o; exact False.elim o
  | some q =>
    rw [h] at o
    cases q with
    | none => exact False.elim o
    | some w =>
      obtain ⟨v, h1, h2⟩ := hs.at_ i w h
      exact ⟨w, v, h1, h2, o⟩
theorem Out.slotk {e : Sl} {σ : L2.St} {i : Nat} {f : W → Sto → R α} (hs : RSl K mg io H e σ) (o : Out K mg ((rslot e i s).bind f) io H Q Z) : ∃ w v, σ[i]? = some (some v) ∧ RW K mg io H w v ∧ Out K mg (f w s) io H Q Z := by
  unfold rslot at o
  cases h : e[i]? with
  | none => rw [h] at o; exact False.elim o
  | some q =>
    rw [h] at o
    cases q with
    | none => exact False.elim o
    | some w =>
      obtain ⟨v, h1, h2⟩ := hs.at_ i w h
      exact ⟨w, v, h1, h2, o⟩
end
section
variable {X : Cx} {k : Nat} {g : G} {W : WX}
theorem pe_named {x : Str} {p pos : Pos} {e : Expr} {es : List Expr} {t : TA} (h : Good X k g W) (hd : g.df x = true) (hg : Gl X x) (ok : okN x = true) (ha : PA X (e :: es) t) (hn : ∀ y ∈ e :: es, noStar y = true) :
    ∃ n, PE X (.Call (.Name x p) (e :: es) [] pos) (tCallS (spG X.K X.mg g x n) (WE W) t) ∧ ∀ ws s, ws.length ≠ n → g.call x ws s = .bad := by
  obtain ⟨f, fd, ps, h1, h2, h3, h4, h5⟩ := (h.mo.fn x hd).ex
  exact ⟨ps.length, pe_callS h4 h.room hg h1 h2 h3 (fun σ => passAt h.tk σ) ha (okN_ok ok).1 (starEach_ns (hn e List.mem_cons_self)) (nostar_any fun y hy => hn y (List.mem_cons_of_mem _ hy)), h5⟩
theorem call_read {x : Str} {n : Nat} {K : PySem.W.Frag} {mg : Str → Option Value} {io : List Addr} {H : Hp} {s : Sto} {σ : L2.St} {ws : List Py.W} {vs : List V} {Q : VK} (hb : ∀ ws s, ws.length ≠ n → g.call x ws s = .bad) (r : Rel K mg io H s) (kw : RWs K mg io H ws vs)
    (o : Out K mg (g.call x ws s) io H (KV K mg Q) (Kx mg W σ)) : spG K mg g x n vs H Q (WE W σ) := by
  refine ⟨?_, io, s, ws, kw, r, o⟩
  rw [← kw.length]
  by_cases z : ws.length = n
  · exact z
  · rw [hb ws s z] at o
    exact o.elim
theorem isLi_get {w : Py.W} {s : Sto} (h : isLi w s = true) : ∃ ws, lsq w s = some ws := by
  cases w with
  | loc n => exact Option.isSome_iff_exists.mp h
  | cl us => exact ⟨us, rfl⟩
  | non => cases h
  | bl _ => cases h
  | int _ => cases h
  | str _ => cases h
  | tup _ => cases h
  | fn _ => cases h
theorem lim62_ok {i : Int} (h : lim62 i = true) : -(2 ^ 62) ≤ i ∧ i < 2 ^ 62 := by
  unfold lim62 at h
  exact of_decide_eq_true h
theorem sI1 {a : E} {t x : Expr} {ik : Ik} {wi : TI} (pi : PI X t x wi)
    (hw : ∀ (σ : L2.St) (H : Hp) (Rt : It → Hp → Prop) io e s, RSl X.K X.mg io H e σ → Rel X.K X.mg io H s →
      (match ev g a e s with
        | .ok w s1 => ∀ io1 H1, Stp io H io1 H1 → Rel X.K X.mg io1 H1 s1 → ∃ src, srcOf ik [w] s1 = some src ∧ ∀ J, JR X.K X.mg src J io1 H1 → Rt J H1
        | .exc c s1 => ∀ io1 H1, Stp io H io1 H1 → Rel X.K X.mg io1 H1 s1 → Kx X.mg W σ c s1 io1 H1
        | .bad => False) → wi σ H Rt) : PI X t x (tI X.K X.mg W g ik (.cons a .nil)) := by
  refine PI.imp pi fun σ H Rt ⟨io, e, s, hs, r, o⟩ => hw σ H Rt io e s hs r ?_
  have o : Out X.K X.mg ((ev g a e s).bind fun w s1 => (Py.R.ok [] s1).bind fun ws s2 => .ok (w :: ws) s2) io H (fun ws s' io' H' => ∃ src, srcOf ik ws s' = some src ∧ ∀ J, JR X.K X.mg src J io' H' → Rt J H') (Kx X.mg W σ) := o
  cases hev : ev g a e s with
  | bad => rw [hev] at o; exact o.elim
  | exc c s1 => rw [hev] at o; exact o
  | ok w s1 => rw [hev] at o; exact o
theorem sI {as : E} {t x : Expr} {ik : Ik} (h : Good X k g W) (hq : ∀ es, mEs X.N g.df as X.env.scope es = true → PA X es (tA X.K X.mg W g as) ∧ ∀ y, es = [y] → ∃ a, as = .cons a .nil ∧ PE X y (tE X.K X.mg W g a))
    (hm : mI (mEs X.N g.df as X.env.scope) X.env.scope t ik x = true) : PI X t x (tI X.K X.mg W g ik as) := by
  have glr : ∀ {y : Str}, glB X.env.scope y = true → Gl X y := fun z => glB_ok z
  cases ik with
  | seq =>
    obtain ⟨a, rfl, pe⟩ := (hq [x] hm).2 x rfl
    refine sI1 (PI.or (pi_list pe) (PI.or (pi_tup pe) (pi_str pe))) fun σ H Rt io e s hs r o => ?_
    cases hev : ev g a e s with
    | bad => rw [hev] at o; exact o.elim
    | exc c s1 =>
      rw [hev] at o
      exact .inl ⟨io, e, s, hs, r, by rw [hev]; exact o⟩
    | ok w s1 =>
      rw [hev] at o
      have no : (∀ io1 H1, Stp io H io1 H1 → Rel X.K X.mg io1 H1 s1 → False) → iList X.K (tE X.K X.mg W g a) σ H Rt := fun z => ⟨io, e, s, hs, r, by rw [hev]; exact fun io1 H1 t1 r1 _ _ => (z io1 H1 t1 r1).elim⟩
      cases w with
      | tup ws =>
        refine .inr (.inl ⟨io, e, s, hs, r, ?_⟩)
        rw [hev]
        intro io1 H1 t1 r1 v kv
        obtain ⟨p, vs, rfl, k1, k2⟩ := kv
        obtain ⟨src, e1, q⟩ := o io1 H1 t1 r1
        cases e1
        exact ⟨p, rfl, ⟨vs, k1⟩, q _ (jr_tup k1 k2 r1)⟩
      | str z =>
        refine .inr (.inr ⟨io, e, s, hs, r, ?_⟩)
        rw [hev]
        intro io1 H1 t1 r1 v kv
        obtain ⟨src, e1, q⟩ := o io1 H1 t1 r1
        cases e1
        exact ⟨z, kv, q _ jr_str⟩
      | loc n =>
        refine .inl ⟨io, e, s, hs, r, ?_⟩
        rw [hev]
        intro io1 H1 t1 r1 v kv
        obtain ⟨src, e1, q⟩ := o io1 H1 t1 r1
        have e1 : (if isLi (.loc n) s1 = true then some (Src.li (.loc n)) else none) = some src := e1
        split at e1
        · rename_i hl
          cases e1
          obtain ⟨ws, hw⟩ := Option.isSome_iff_exists.mp (show (s1[n]?).isSome = true from hl)
          obtain ⟨p, vs, rfl, k1, k2⟩ := lsq_sq r1 kv (show lsq (.loc n) s1 = some ws from hw)
          exact ⟨p, rfl, ⟨vs, k1⟩, q _ (jr_list kv r1 hl)⟩
        · cases e1
      | cl us =>
        refine .inl ⟨io, e, s, hs, r, ?_⟩
        rw [hev]
        intro io1 H1 t1 r1 v kv
        obtain ⟨src, e1, q⟩ := o io1 H1 t1 r1
        have e1 : some (Src.li (.cl us)) = some src := e1
        cases e1
        obtain ⟨p, vs, rfl, k1, k2⟩ := lsq_sq r1 kv (show lsq (.cl us) s1 = some us from rfl)
        exact ⟨p, rfl, ⟨vs, k1⟩, q _ (jr_list kv r1 rfl)⟩
      | non => exact .inl (no fun io1 H1 t1 r1 => by obtain ⟨src, e1, q⟩ := o io1 H1 t1 r1; cases e1)
      | bl _ => exact .inl (no fun io1 H1 t1 r1 => by obtain ⟨src, e1, q⟩ := o io1 H1 t1 r1; cases e1)
      | int _ => exact .inl (no fun io1 H1 t1 r1 => by obtain ⟨src, e1, q⟩ := o io1 H1 t1 r1; cases e1)
      | fn _ => exact .inl (no fun io1 H1 t1 r1 => by obtain ⟨src, e1, q⟩ := o io1 H1 t1 r1; cases e1)
  | rev =>
    obtain ⟨p, x1, pos, rfl, hg, hm⟩ := call1_ok hm
    obtain ⟨a, rfl, pe⟩ := (hq [_] hm).2 _ rfl
    have hns := mEs_ns hm _ List.mem_cons_self
    refine sI1 (RT.pi_revA (glB_ok hg) (h.mo.blt _ (by decide)) pe (starEach_ns hns)) fun σ H Rt io e s hs r o => ?_
    refine ⟨io, e, s, hs, r, ?_⟩
    cases hev : ev g a e s with
    | bad => rw [hev] at o; exact o.elim
    | exc c s1 => rw [hev] at o; exact o
    | ok w s1 =>
      rw [hev] at o
      intro io1 H1 t1 r1 v kv
      obtain ⟨src, e1, q⟩ := o io1 H1 t1 r1
      cases w with
      | tup ws =>
        obtain ⟨p, vs, rfl, k1, k2⟩ := kv
        cases e1
        exact ⟨p, vs, rfl, .inr ⟨k1, q _ (jr_revT k1 k2 r1)⟩⟩
      | loc n =>
        have e1 : (lsq (.loc n) s1).map (fun ws => Src.rv (.loc n) ws.length) = some src := e1
        cases hw : lsq (.loc n) s1 with
        | none => rw [hw] at e1; cases e1
        | some ws =>
          rw [hw] at e1
          cases e1
          obtain ⟨p, vs, rfl, k1, k2⟩ := lsq_sq r1 kv hw
          refine ⟨p, vs, rfl, .inl ⟨k1, ?_⟩⟩
          rw [← k2.length]
          exact q _ (jr_rev kv r1)
      | cl us =>
        have e1 : some (Src.rv (.cl us) us.length) = some src := e1
        cases e1
        obtain ⟨p, vs, rfl, k1, k2⟩ := lsq_sq r1 kv (show lsq (.cl us) s1 = some us from rfl)
        refine ⟨p, vs, rfl, .inl ⟨k1, ?_⟩⟩
        rw [← k2.length]
        exact q _ (jr_rev kv r1)
      | non => cases e1
      | bl _ => cases e1
      | int _ => cases e1
      | str _ => cases e1
      | fn _ => cases e1
  | enu =>
    rw [show mI (mEs X.N g.df as X.env.scope) X.env.scope t .enu x = (isTup t && call1 "enumerate" (mEs X.N g.df as X.env.scope) X.env.scope x) from rfl, Bool.and_eq_true] at hm
    obtain ⟨ht, hm⟩ := hm
    obtain ⟨p, x1, pos, rfl, hg, hm⟩ := call1_ok hm
    have hns := mEs_ns hm _ List.mem_cons_self
    obtain ⟨elts, kk, tpos, rfl⟩ : ∃ elts kk tpos, t = .Tuple elts kk tpos := by cases t <;> first | exact ⟨_, _, _, rfl⟩ | cases ht
    refine PI.imp (pi_enum (glB_ok hg) (h.mo.blt _ (by decide)) (hq [_] hm).1 (starEach_ns hns)) fun σ H Rt ⟨io, e, s, hs, r, o⟩ => ?_
    refine ⟨io, e, s, hs, r, o.imp (fun ws s1 io1 H1 t1 r1 q vs kv => ?_) fun _ _ _ _ _ _ z => z⟩
    obtain ⟨src, e1, q⟩ := q
    replace e1 : srcEnu ws s1 = some src := e1
    unfold srcEnu at e1
    split at e1
    · rename_i w
      split at e1
      · rename_i hl
        cases e1
        obtain ⟨v, q', rfl, k1, k2⟩ := kv
        rw [show q' = [] from k2]
        obtain ⟨zs, hw⟩ := isLi_get hl
        obtain ⟨p, us, rfl, k3, k4⟩ := lsq_sq r1 k1 hw
        exact ⟨p, us, rfl, k3, q _ (jr_enum k1 r1)⟩
      · cases e1
    · cases e1
  | zip =>
    rw [show mI (mEs X.N g.df as X.env.scope) X.env.scope t .zip x = (isTup t && call2 "zip" (mEs X.N g.df as X.env.scope) X.env.scope x) from rfl, Bool.and_eq_true] at hm
    obtain ⟨ht, hm⟩ := hm
    obtain ⟨p, x1, x2, pos, rfl, hg, hm⟩ := call2_ok hm
    have hns := mEs_ns hm _ List.mem_cons_self
    have hns2 := mEs_ns hm x2 (List.mem_cons_of_mem _ List.mem_cons_self)
    obtain ⟨elts, kk, tpos, rfl⟩ : ∃ elts kk tpos, t = .Tuple elts kk tpos := by cases t <;> first | exact ⟨_, _, _, rfl⟩ | cases ht
    refine PI.imp (RZ.pi_zipA (glB_ok hg) (h.mo.blt _ (by decide)) (hq [_, _] hm).1 (starEach_ns hns) (nostar_any fun y hy => by rw [List.mem_singleton.mp hy]; exact hns2)) fun σ H Rt ⟨io, e, s, hs, r, o⟩ => ?_
    refine ⟨io, e, s, hs, r, o.imp (fun ws s1 io1 H1 t1 r1 q vs kv => ?_) fun _ _ _ _ _ _ z => z⟩
    obtain ⟨src, e1, q⟩ := q
    replace e1 : srcZip ws s1 = some src := e1
    unfold srcZip at e1
    split at e1
    · cases e1
      obtain ⟨v, q', rfl, ⟨a, us, rfl, k1, k2⟩, v', q'', rfl, ⟨a', us', rfl, k3, k4⟩, k5⟩ := kv
      rw [show q'' = [] from k5]
      exact ⟨a, a', us, us', rfl, .inr ⟨k1, k3, q _ (jr_zipT k1 k2 k3 k4 r1)⟩⟩
    · rename_i w u _
      split at e1
      · rename_i hl
        rw [Bool.and_eq_true] at hl
        cases e1
        obtain ⟨v, q', rfl, k1, v', q'', rfl, k2, k5⟩ := kv
        rw [show q'' = [] from k5]
        obtain ⟨zs, hw⟩ := isLi_get hl.1
        obtain ⟨p, us, rfl, k3, k4⟩ := lsq_sq r1 k1 hw
        obtain ⟨zs', hw'⟩ := isLi_get hl.2
        obtain ⟨p', us', rfl, k3', k4'⟩ := lsq_sq r1 k2 hw'
        exact ⟨p, p', us, us', rfl, .inl ⟨k3, k3', q _ (jr_zip k1 k2 r1)⟩⟩
      · cases e1
    · cases e1
  | rng1 =>
    obtain ⟨p, x1, pos, rfl, hg, hm⟩ := call1_ok hm
    have hns := mEs_ns hm _ List.mem_cons_self
    refine PI.imp (pi_range1 (glB_ok hg) (h.mo.blt _ (by decide)) (hq [_] hm).1 (starEach_ns hns)) fun σ H Rt ⟨io, e, s, hs, r, o⟩ => ?_
    refine ⟨io, e, s, hs, r, o.imp (fun ws s1 io1 H1 t1 r1 q vs kv => ?_) fun _ _ _ _ _ _ z => z⟩
    obtain ⟨src, e1, q⟩ := q
    replace e1 : srcR1 ws = some src := e1
    unfold srcR1 at e1
    split at e1
    · rename_i j
      split at e1
      · rename_i hl
        have hl := lim62_ok hl
        cases e1
        obtain ⟨v, q', rfl, k1, k2⟩ := kv
        rw [show q' = [] from k2, show v = .int j from k1]
        exact ⟨j, rfl, hl.1, hl.2, q _ jr_rng⟩
      · cases e1
    · cases e1
  | rng2 =>
    obtain ⟨p, x1, x2, pos, rfl, hg, hm⟩ := call2_ok hm
    have hns := mEs_ns hm _ List.mem_cons_self
    have hns2 := mEs_ns hm x2 (List.mem_cons_of_mem _ List.mem_cons_self)
    refine PI.imp (pi_range2 (glB_ok hg) (h.mo.blt _ (by decide)) (hq [_, _] hm).1 (by rw [starEach_ns hns, starEach_ns hns2]; rfl) (starEach_ns hns2)) fun σ H Rt ⟨io, e, s, hs, r, o⟩ => ?_
    refine ⟨io, e, s, hs, r, o.imp (fun ws s1 io1 H1 t1 r1 q vs kv => ?_) fun _ _ _ _ _ _ z => z⟩
    obtain ⟨src, e1, q⟩ := q
    replace e1 : srcR2 ws = some src := e1
    unfold srcR2 at e1
    split at e1
    · rename_i i j
      split at e1
      · rename_i hl
        rw [Bool.and_eq_true] at hl
        have hl1 := lim62_ok hl.1
        have hl2 := lim62_ok hl.2
        cases e1
        obtain ⟨v, q', rfl, k1, v', q'', rfl, k2, k3⟩ := kv
        rw [show q'' = [] from k3, show v = .int i from k1, show v' = .int j from k2]
        exact ⟨i, j, rfl, ⟨hl1.1, hl1.2, hl2.1, hl2.2⟩, q _ jr_rng⟩
      · cases e1
    · cases e1
  | rng3 =>
    obtain ⟨p, x1, x2, x3, pos, rfl, hg, hm⟩ := call3_ok hm
    have hns := mEs_ns hm _ List.mem_cons_self
    have hns2 : ∀ y ∈ [x2, x3], noStar y = true := fun y hy => mEs_ns hm y (List.mem_cons_of_mem _ hy)
    refine PI.imp (pi_range3 (glB_ok hg) (h.mo.blt _ (by decide)) (hq [_, _, _] hm).1 (starEach_ns hns) (nostar_any hns2)) fun σ H Rt ⟨io, e, s, hs, r, o⟩ => ?_
    refine ⟨io, e, s, hs, r, o.imp (fun ws s1 io1 H1 t1 r1 q vs kv => ?_) fun _ _ _ _ _ _ z => z⟩
    obtain ⟨src, e1, q⟩ := q
    replace e1 : srcR3 ws = some src := e1
    unfold srcR3 at e1
    split at e1
    · rename_i i j c
      split at e1
      · rename_i hl
        rw [Bool.and_eq_true] at hl
        have hc := of_decide_eq_true hl.1
        cases e1
        obtain ⟨v, q', rfl, k1, v', q'', rfl, k2, v'', q3, rfl, k3, k4⟩ := kv
        rw [show q3 = [] from k4, show v = .int i from k1, show v' = .int j from k2, show v'' = .int c from k3]
        exact ⟨i, j, c, _, rfl, ⟨hc.1, hc.2, hl.2, PyProof.Rows.rangeSize_toNat i j c⟩, q _ jr_rngC⟩
      · cases e1
    · cases e1
end
end Py

namespace Py
open PySem PySem.Spec PyProof.Rows L2
section
variable {X : Cx} {k : Nat} {g : G} {W : WX}
theorem e_bin {op : Bop} {a b : E} {x y : Expr} {pos : Pos} (hpl : op.pl = true) (h : Good X k g W) (ha : PEx X W g a x) (hb : PEx X W g b y) : PEx X W g (.bin op a b) (.BinOp x op.op y pos) :=
  PE.imp (pe_op (op_bin h.room h.seer op hpl) ha hb) fun σ H Q ⟨io, e, s, hs, r, o⟩ =>
    ⟨io, e, s, hs, r, Out.go o fun w s1 io1 H1 t1 r1 o1 v kv => ⟨io1, e, s1, hs.mono r t1, r1, Out.go o1 fun u s2 io2 H2 t2 r2 o2 v2 kv2 => ⟨io2, s2, w, u, _, r1.mono t2 _ _ kv, kv2, r2, o2⟩⟩⟩
theorem e_cmp {op : Cop} {a b : E} {x y : Expr} {pos : Pos} (h : Good X k g W) (hn : noSet y = true) (ha : PEx X W g a x) (hb : PEx X W g b y) : PEx X W g (.cmp op a b) (.Compare x [op.op] [y] pos) :=
  PE.imp (pe_cmpR (op_cmp h.room op) ha hb (noset_in hn)) fun σ H Q ⟨io, e, s, hs, r, o⟩ =>
    ⟨io, e, s, hs, r, Out.go o fun w s1 io1 H1 t1 r1 o1 v kv => ⟨io1, e, s1, hs.mono r t1, r1, Out.go o1 fun u s2 io2 H2 t2 r2 o2 v2 kv2 => ⟨io2, s2, w, u, _, r1.mono t2 _ _ kv, kv2, r2, o2⟩⟩⟩
theorem toB_val {w : Py.W} {s : Sto} {io : List Addr} {H : Hp} {Q : Bool → Hp → Prop} {Z : KO Str} (r : Rel X.K X.mg io H s) (o : Out X.K X.mg (toB w s) io H (fun a _ io' H' => ∀ b, b = a → Q b H') Z) {v : V} (kv : RW X.K X.mg io H w v) : ∃ c, v = .bl c ∧ Q c H := by
  obtain ⟨b, rfl, o⟩ := o.toB
  exact ⟨b, kv, o.here r b rfl⟩
theorem t_cmp {op : Cop} {a b : E} {x y : Expr} {pos : Pos} (h : Good X k g W) (hn : noSet y = true) (ha : PEx X W g a x) (hb : PEx X W g b y) : PTx X W g (.cmp op a b) (.Compare x [op.op] [y] pos) :=
  PT.imp (pt_cmpR (op_cmp h.room op) ha hb (noset_in hn)) fun σ H Q ⟨io, e, s, hs, r, o⟩ =>
    ⟨io, e, s, hs, r, Out.go o fun w s1 io1 H1 t1 r1 o1 v kv => ⟨io1, e, s1, hs.mono r t1, r1, Out.go o1 fun u s2 io2 H2 t2 r2 o2 v2 kv2 =>
      ⟨io2, s2, w, u, _, r1.mono t2 _ _ kv, kv2, r2, Out.go o2 fun z s3 io3 H3 t3 r3 o3 v3 kv3 => toB_val r3 o3 kv3⟩⟩⟩
theorem e_chain {op op' : Cop} {a b c : E} {x y z : Expr} {pos : Pos} (h : Good X k g W) (hn : noSet z = true) (ha : PEx X W g a x) (hb : PEx X W g b y) (hc : PEx X W g c z) : PEx X W g (.chain op op' a b c) (.Compare x [op.op, op'.op] [y, z] pos) := by
  refine PE.imp (pe_chain (op_cmp h.room op) (op_cmp h.room op') ha hb hc (noset_in hn)) fun σ H Q ⟨io, e, s, hs, r, o⟩ => ?_
  refine ⟨io, e, s, hs, r, Out.go o fun w s1 io1 H1 t1 r1 o1 v kv => ⟨io1, e, s1, hs.mono r t1, r1, Out.go o1 fun u s2 io2 H2 t2 r2 o2 v2 kv2 =>
      ⟨io2, s2, w, u, _, r1.mono t2 _ _ kv, kv2, r2, Out.go o2 fun d s3 io3 H3 t3 r3 o3 v3 kv3 => ?_⟩⟩⟩
  obtain ⟨q, rfl, o3⟩ := o3.toBk
  refine ⟨q, kv3, ?_⟩
  cases q with
  | false => exact iteF (o3.val r3 rfl)
  | true =>
    exact iteT ⟨io3, e, s3, ((hs.mono r t1).mono r1 t2).mono r2 t3, r3, Out.go o3 fun m s4 io4 H4 t4 r4 o4 v4 kv4 => ⟨io4, s4, u, m, _, r3.mono t4 _ _ (r2.mono t3 _ _ kv2), kv4, r4, o4⟩⟩
theorem t_chain {op op' : Cop} {a b c : E} {x y z : Expr} {pos : Pos} (h : Good X k g W) (hn : noSet z = true) (ha : PEx X W g a x) (hb : PEx X W g b y) (hc : PEx X W g c z) : PTx X W g (.chain op op' a b c) (.Compare x [op.op, op'.op] [y, z] pos) := by
  refine PT.imp (pt_chain (op_cmp h.room op) (op_cmp h.room op') ha hb hc (noset_in hn)) fun σ H Q ⟨io, e, s, hs, r, o⟩ => ?_
  refine ⟨io, e, s, hs, r, Out.go o fun w s1 io1 H1 t1 r1 o1 v kv => ⟨io1, e, s1, hs.mono r t1, r1, Out.go o1 fun u s2 io2 H2 t2 r2 o2 v2 kv2 =>
      ⟨io2, s2, w, u, _, r1.mono t2 _ _ kv, kv2, r2, Out.go o2 fun d s3 io3 H3 t3 r3 o3 v3 kv3 => ?_⟩⟩⟩
  obtain ⟨q, rfl, o3⟩ := o3.toBk
  refine ⟨q, kv3, ?_⟩
  cases q with
  | false => exact iteF ⟨false, rfl, o3.here r3 _ rfl⟩
  | true =>
    exact iteT ⟨io3, e, s3, ((hs.mono r t1).mono r1 t2).mono r2 t3, r3, Out.go o3 fun m s4 io4 H4 t4 r4 o4 v4 kv4 => ⟨io4, s4, u, m, _, r3.mono t4 _ _ (r2.mono t3 _ _ kv2), kv4, r4, Out.go o4 fun z s5 io5 H5 t5 r5 o5 v5 kv5 => toB_val r5 o5 kv5⟩⟩
theorem e_neg {a : E} {x : Expr} {pos : Pos} (ha : PEx X W g a x) : PEx X W g (.neg a) (.UnaryOp .USub x pos) := by
  refine PE.imp (pe_un un_neg ha) fun σ H Q ⟨io, e, s, hs, r, o⟩ => ⟨io, e, s, hs, r, Out.go o fun w s1 io1 H1 t1 r1 o1 v kv => ?_⟩
  cases w <;> first | exact False.elim o1 | exact ⟨_, kv, o1.val r1 rfl⟩
theorem e_no {a : E} {x : Expr} {pos : Pos} (ha : PEx X W g a x) : PEx X W g (.no a) (.UnaryOp .Not x pos) := by
  refine PE.imp (pe_not ha) fun σ H Q ⟨io, e, s, hs, r, o⟩ => ⟨io, e, s, hs, r, Out.go o fun w s1 io1 H1 t1 r1 o1 v kv => ?_⟩
  obtain ⟨b, rfl, o1⟩ := o1.toBk
  exact ⟨b, kv, o1.val r1 rfl⟩
theorem e_and {a b : E} {x y : Expr} {r : List Expr} {pos : Pos} (ha : PEx X W g a x) (hb : PEx X W g b (.BoolOp .And (y :: r) pos)) : PEx X W g (.and a b) (.BoolOp .And (x :: y :: r) pos) := by
  refine PE.imp (pe_and ha hb) fun σ H Q ⟨io, e, s, hs, r, o⟩ => ⟨io, e, s, hs, r, Out.go o fun w s1 io1 H1 t1 r1 o1 v kv => ?_⟩
  obtain ⟨b, rfl, o1⟩ := o1.toBk
  refine ⟨b, kv, ?_⟩
  cases b with
  | false => exact iteF (o1.val r1 rfl)
  | true => exact iteT ⟨io1, e, s1, hs.mono r t1, r1, o1⟩
theorem e_or {a b : E} {x y : Expr} {r : List Expr} {pos : Pos} (ha : PEx X W g a x) (hb : PEx X W g b (.BoolOp .Or (y :: r) pos)) : PEx X W g (.or a b) (.BoolOp .Or (x :: y :: r) pos) := by
  refine PE.imp (pe_or ha hb) fun σ H Q ⟨io, e, s, hs, r, o⟩ => ⟨io, e, s, hs, r, Out.go o fun w s1 io1 H1 t1 r1 o1 v kv => ?_⟩
  obtain ⟨b, rfl, o1⟩ := o1.toBk
  refine ⟨b, kv, ?_⟩
  cases b with
  | true => exact iteT (o1.val r1 rfl)
  | false => exact iteF ⟨io1, e, s1, hs.mono r t1, r1, o1⟩
theorem e_ite {c a b : E} {z x y : Expr} {pos : Pos} (hc : PTx X W g c z) (ha : PEx X W g a x) (hb : PEx X W g b y) : PEx X W g (.ite c a b) (.IfExp z x y pos) := by
  refine PE.imp (pe_ifExp hc ha hb) fun σ H Q ⟨io, e, s, hs, r, o⟩ => ⟨io, e, s, hs, r, Out.go o fun w s1 io1 H1 t1 r1 o1 v kv => ?_⟩
  cases kv
  cases w with
  | true => exact iteT ⟨io1, e, s1, hs.mono r t1, r1, o1⟩
  | false => exact iteF ⟨io1, e, s1, hs.mono r t1, r1, o1⟩
theorem e_tup {as : E} {xs : List Expr} {n : Nat} {pos : Pos} (ha : PAx X W g as xs) : PEx X W g (.tup as) (.Tuple xs n pos) := by
  refine PE.imp (pe_tup ha) fun σ H Q ⟨io, e, s, hs, r, o⟩ => ⟨io, e, s, hs, r, Out.go o fun w s1 io1 H1 t1 r1 o1 v kv => ?_⟩
  by_cases hl : w.length ≤ sizeLine
  · rw [if_pos hl] at o1
    exact ⟨by rw [← kv.length]; exact hl, fun p hp => o1.valT r1 kv hp⟩
  · rw [if_neg hl] at o1
    exact o1.elim
theorem e_lst {as : E} {xs : List Expr} {pos : Pos} (ha : PAx X W g as xs) : PEx X W g (.lst as) (.List xs pos) := by
  refine PE.imp (pe_lst ha) fun σ H Q ⟨io, e, s, hs, r, o⟩ => ⟨io, e, s, hs, r, Out.go o fun w s1 io1 H1 t1 r1 o1 v kv => ?_⟩
  by_cases hl : w.length ≤ sizeLine
  · rw [if_pos hl] at o1
    exact ⟨by rw [← kv.length]; exact hl, fun p hp => o1.valL r1 kv hp⟩
  · rw [if_neg hl] at o1
    exact o1.elim
theorem e_ix {a b : E} {x y : Expr} {pos : Pos} (hp : PlainIx y) (ha : PEx X W g a x) (hb : PEx X W g b y) : PEx X W g (.ix a b) (.Subscript x y pos) :=
  PE.imp (pe_ix ix_all ha hb hp) fun σ H Q ⟨io, e, s, hs, r, o⟩ =>
    ⟨io, e, s, hs, r, Out.go o fun w s1 io1 H1 t1 r1 o1 v kv => ⟨io1, e, s1, hs.mono r t1, r1, Out.go o1 fun u s2 io2 H2 t2 r2 o2 v2 kv2 => ⟨io2, s2, w, u, _, r1.mono t2 _ _ kv, kv2, r2, o2⟩⟩⟩
theorem e_sl {a lo hi : E} {x : Expr} {l h : Option Expr} {pos pos' : Pos} (ha : PEx X W g a x) (hl : POx X W g lo l) (hh : POx X W g hi h) : PEx X W g (.sl a lo hi) (.Subscript x (.Slice l h none pos') pos) := by
  refine PE.imp (pe_slice sl_all ha hl hh) fun σ H Q ⟨io, e, s, hs, r, o⟩ =>
    ⟨io, e, s, hs, r, Out.go o fun w s1 io1 H1 t1 r1 o1 v kv => ⟨io1, e, s1, hs.mono r t1, r1, Out.go o1 fun u s2 io2 H2 t2 r2 o2 v2 kv2 => ?_⟩⟩
  cases kv2
  refine ⟨io2, e, s2, (hs.mono r t1).mono r1 t2, r2, Out.go o2 fun m s3 io3 H3 t3 r3 o3 v3 kv3 => ?_⟩
  cases kv3
  exact ⟨io3, s3, w, _, r2.mono t3 _ _ (r1.mono t2 _ _ kv), r3, o3⟩
theorem e_rv {a : E} {x : Expr} {n : Nat} {p1 p2 p3 pos : Pos} (ha : PEx X W g a x) : PEx X W g (.rv a) (.Subscript x (.Slice none none (some (.UnaryOp .USub (.Constant (.int 1) n p1) p2)) p3) pos) := by
  refine PE.imp (pe_revL ha) fun σ H Q ⟨io, e, s, hs, r, o⟩ => ⟨io, e, s, hs, r, Out.go o fun w s1 io1 H1 t1 r1 o1 v kv => ?_⟩
  cases hw : lsq w s1 with
  | none => rw [hw] at o1; exact o1.elim
  | some ws =>
    rw [hw] at o1
    obtain ⟨p, vs, rfl, k1, k2⟩ := lsq_sq r1 kv hw
    exact ⟨p, vs, rfl, k1, fun q hq => o1.valL r1 k2.reverse hq⟩
theorem e_call {f : Str} {as : E} {x : Expr} {xs : List Expr} {p pos : Pos} (h : Good X k g W) (hd : g.df f = true) (hg : glB X.env.scope f = true) (ok : okN f = true) (hn : ∀ y ∈ x :: xs, noStar y = true) (ha : PAx X W g as (x :: xs)) : PEx X W g (.call f as) (.Call (.Name f p) (x :: xs) [] pos) := by
  obtain ⟨n, pe, hb⟩ := pe_named (p := p) (pos := pos) h hd (glB_ok hg) ok ha hn
  exact PE.imp pe fun σ H Q ⟨io, e, s, hs, r, o⟩ => ⟨io, e, s, hs, r, Out.go o fun w s1 io1 H1 t1 r1 o1 v kv => call_read hb r1 kv o1⟩
theorem toT_val {w : Py.W} {s : Sto} {io : List Addr} {H : Hp} {Q : Bool → Hp → Prop} {Z : KO Str} (r : Rel X.K X.mg io H s) (o : Out X.K X.mg (toT w s) io H (fun a _ io' H' => ∀ b, b = a → Q b H') Z) {v : V} (kv : RW X.K X.mg io H w v) : ∃ c, TruV X.K v H c ∧ Q c H := by
  obtain ⟨b, h, o⟩ := o.toT
  exact ⟨b, truW_ok r kv h, o.here r b rfl⟩
theorem t_call {f : Str} {as : E} {x : Expr} {xs : List Expr} {p pos : Pos} (h : Good X k g W) (hd : g.df f = true) (hg : glB X.env.scope f = true) (ok : okN f = true) (hn : ∀ y ∈ x :: xs, noStar y = true) (ha : PAx X W g as (x :: xs)) : PTx X W g (.call f as) (.Call (.Name f p) (x :: xs) [] pos) := by
  obtain ⟨n, pe, hb⟩ := pe_named (p := p) (pos := pos) h hd (glB_ok hg) ok ha hn
  refine PT.imp (pt_truth pe (by intro _; rfl)) fun σ H Q ⟨io, e, s, hs, r, o⟩ => ⟨io, e, s, hs, r, Out.go o fun w s1 io1 H1 t1 r1 o1 v kv => call_read hb r1 kv (Out.go o1 fun z s2 io2 H2 t2 r2 o2 v2 kv2 => toT_val r2 o2 kv2)⟩
theorem e_callv {i : Nat} {as : E} {y : Str} {x : Expr} {xs : List Expr} {p pos : Pos} (h : Good X k g W) (hN : X.N[i]? = some y) (hv : visB X.env.scope y = true) (ok : okN y = true) (hn : ∀ y ∈ x :: xs, noStar y = true) (ha : PAx X W g as (x :: xs)) : PEx X W g (.callv i as) (.Call (.Name y p) (x :: xs) [] pos) := by
  refine PE.imp (pe_callLS (CX := L2.CX X.prog X.w) (E := WE W) (S := fun f sp => ∃ z, g.df z = true ∧ X.mg z = some (.ref f) ∧ ∃ ps : List Str, sp = spG X.K X.mg g z ps.length ∧ ∃ fd, PySem.W.keepIn X.K (.ref f) = true ∧ Binds X.K fd ps [] ∧ FnOk X.prog X.w X.K X.mg X.base (L2.CX X.prog X.w) k f fd ps sp)
    (fun f sp ⟨z, hd, hm, ps, e, fd, h1, h2, h3⟩ => ⟨fd, ps, h3, h1, h2⟩) h.room hN (visB_ok hv) (fun σ => passAt h.tk σ) ha (okN_ok ok).1 (okN_ok ok).2 (starEach_ns (hn x List.mem_cons_self)) (nostar_any fun y hy => hn y (List.mem_cons_of_mem _ hy))) fun σ H Q ⟨io, e, s, hs, r, o⟩ => ?_
  have o : Out X.K X.mg (match e[i]? with
    | some (some (.fn x)) => if g.df x then (evs g as e s).bind fun ws s1 => g.call x ws s1 else .bad
    | _ => .bad) io H (KV X.K X.mg Q) (Kx X.mg W σ) := o
  cases he : e[i]? with
  | none => rw [he] at o; exact o.elim
  | some w =>
    rw [he] at o
    cases w with
    | none => exact False.elim o
    | some w =>
      cases w with
      | fn z =>
        have o : Out X.K X.mg (if g.df z then (evs g as e s).bind fun ws s1 => g.call z ws s1 else .bad) io H (KV X.K X.mg Q) (Kx X.mg W σ) := o
        by_cases hd : g.df z = true
        · rw [if_pos hd] at o
          obtain ⟨v, h1, f, rfl, h2⟩ := hs.at_ i _ he
          obtain ⟨f', fd, ps, k1, k2, k3, k4, k5⟩ := (h.mo.fn z hd).ex
          rw [h2] at k1
          cases k1
          exact ⟨f, _, h1, ⟨z, hd, h2, ps, rfl, fd, k2, k3, k4⟩, io, e, s, hs, r, Out.go o fun w s1 io1 H1 t1 r1 o1 v kv => call_read k5 r1 kv o1⟩
        · rw [if_neg hd] at o
          exact o.elim
      | _ => exact False.elim o
theorem e_bi {f : Bi} {as : E} {x : Expr} {xs : List Expr} {p pos : Pos} (hpl : f.pl = true) (h : Good X k g W) (hg : glB X.env.scope f.nm = true) (hn : ∀ y ∈ x :: xs, noStar y = true) (ha : PAx X W g as (x :: xs)) : PE X (.Call (.Name f.nm p) (x :: xs) [] pos) (tCB (rBi X.K X.mg f) (tA X.K X.mg W g as)) := by
  have h1 := bi_rule h.calm f hpl
  have h2 := bi_boot f
  have h3 := h.mo.blt _ (bi_nm f)
  have h4 := bi_dunder f
  have h5 := starEach_ns (es := xs) (env := X.env) (hn x List.mem_cons_self)
  have h6 := nostar_any (env := X.env) (pos := pos) (es := xs) fun y hy => hn y (List.mem_cons_of_mem _ hy)
  have ty : ∀ {T : String}, f.val = .type T → PE X (.Call (.Name f.nm p) (x :: xs) [] pos) (tCB (rBi X.K X.mg f) (tA X.K X.mg W g as)) := fun {T} e => by
    rw [e] at h1 h2
    exact pe_callTy h1 (glB_ok hg) h3 h2 ha h4.1 h4.2 h5 h6
  have bl : ∀ {T : String}, f.val = .builtin T → PE X (.Call (.Name f.nm p) (x :: xs) [] pos) (tCB (rBi X.K X.mg f) (tA X.K X.mg W g as)) := fun {T} e => by
    rw [e] at h1 h2
    exact pe_callB h1 (glB_ok hg) h3 h2 ha h4.1 h4.2 h5 h6
  cases f <;> first | exact ty rfl | exact bl rfl
theorem ev_bi {f : Bi} {as : E} {x : Expr} {xs : List Expr} {p pos : Pos} (hpl : f.pl = true) (h : Good X k g W) (hg : glB X.env.scope f.nm = true) (hn : ∀ y ∈ x :: xs, noStar y = true) (ha : PAx X W g as (x :: xs)) : PEx X W g (.bi f as) (.Call (.Name f.nm p) (x :: xs) [] pos) :=
  PE.imp (e_bi hpl h hg hn ha) fun σ H Q ⟨io, e, s, hs, r, o⟩ => ⟨io, e, s, hs, r, Out.go o fun w s1 io1 H1 t1 r1 o1 v kv => ⟨io1, s1, w, _, kv, r1, o1⟩⟩
theorem t_bi {f : Bi} {as : E} {x : Expr} {xs : List Expr} {p pos : Pos} (hpl : f.pl = true) (h : Good X k g W) (hg : glB X.env.scope f.nm = true) (hn : ∀ y ∈ x :: xs, noStar y = true) (ha : PAx X W g as (x :: xs)) : PTx X W g (.bi f as) (.Call (.Name f.nm p) (x :: xs) [] pos) :=
  PT.imp (pt_truth (e_bi hpl h hg hn ha) (by intro _; rfl)) fun σ H Q ⟨io, e, s, hs, r, o⟩ => ⟨io, e, s, hs, r, Out.go o fun w s1 io1 H1 t1 r1 o1 v kv => ⟨io1, s1, w, _, kv, r1, Out.go o1 fun z s2 io2 H2 t2 r2 o2 v2 kv2 => toT_val r2 o2 kv2⟩⟩
theorem isLoc_ty {w : Py.W} {s : Sto} {io : List Addr} {H : Hp} {v : V} (r : Rel X.K X.mg io H s) (kv : RW X.K X.mg io H w v) (h : isLoc w s = true) : tyV X.K "list" v H := by
  cases w with
  | loc n =>
    obtain ⟨ws, hw⟩ := Option.isSome_iff_exists.mp (show (s[n]?).isSome = true from h)
    obtain ⟨p, vs, rfl, k1, k2⟩ := lsq_sq r kv (show lsq (.loc n) s = some ws from hw)
    exact .inl ⟨rfl, vs, k1⟩
  | _ => cases h
theorem e_mt0 {m : Mt} {o : E} {x : Expr} {ap cp : Pos} (hr : rcv x = true) (hl : (ap.endLine == cp.line) = true) (ho : PEx X W g o x) : PEx X W g (.mt m o .nil) (.Call (.Attribute x m.nm ap) [] [] cp) := by
  refine PE.imp (pe_bm0 PySem.F.plainAttrs_list (mt_facts m).1 (mt_facts m).2 (mt_rule m) ho (rcv_base hr) hl) fun σ H Q ⟨io, e, s, hs, r, o⟩ => ⟨io, e, s, hs, r, Out.go o fun w s1 io1 H1 t1 r1 o1 v kv => ?_⟩
  by_cases hi : isLoc w s1 = true
  · rw [if_pos hi] at o1
    exact ⟨isLoc_ty r1 kv hi, io1, s1, w, [], _, kv, rfl, r1, o1⟩
  · rw [if_neg hi] at o1
    exact o1.elim
theorem e_mt {m : Mt} {o as : E} {x y : Expr} {ys : List Expr} {ap cp : Pos} (hr : rcv x = true) (hl : (ap.endLine == cp.line) = true) (hf : ys.length < 20) (hn : ∀ z ∈ y :: ys, noStar z = true) (ho : PEx X W g o x) (ha : PAx X W g as (y :: ys)) : PEx X W g (.mt m o as) (.Call (.Attribute x m.nm ap) (y :: ys) [] cp) := by
  refine PE.imp (pe_bm PySem.F.plainAttrs_list (mt_facts m).1 (mt_facts m).2 (mt_rule m) ho ha (rcv_base hr) ?_ hl (starEach_ns (hn y List.mem_cons_self)) (nostar_any fun z hz => hn z (List.mem_cons_of_mem _ hz))) fun σ H Q ⟨io, e, s, hs, r, o⟩ => ⟨io, e, s, hs, r, Out.go o fun w s1 io1 H1 t1 r1 o1 v kv => ?_⟩
  · rw [nostar_all hn]
    show (true && true && decide ((y :: ys).length + 0 + 0 < 30)) = true
    rw [decide_eq_true (by rw [List.length_cons]; omega)]
    rfl
  by_cases hi : isLoc w s1 = true
  · rw [if_pos hi] at o1
    exact ⟨isLoc_ty r1 kv hi, io1, e, s1, hs.mono r t1, r1, Out.go o1 fun u s2 io2 H2 t2 r2 o2 v2 kv2 => ⟨io2, s2, w, u, _, r1.mono t2 _ _ kv, kv2, r2, o2⟩⟩
  · rw [if_neg hi] at o1
    exact o1.elim
theorem cntB_ok {b : E} {e : Sl} {s : Sto} (h : cntB b = true) : ∃ k, ev g b e s = .ok (.int k) s := by
  unfold cntB at h
  split at h
  · exact ⟨_, rfl⟩
  · exact ⟨_, rfl⟩
  · cases h
theorem e_cnt {op : Bop} {a b : E} {x y : Expr} {ap cp : Pos} (hpl : op.pl = false) (hc : cntB b = true) (hr : rcv x = true) (hl : (ap.endLine == cp.line) = true) (hn : noStar y = true) (ha : PEx X W g a x) (hb : PEx X W g b y) : PEx X W g (.bin op a b) (.Call (.Attribute x "count" ap) [y] [] cp) := by
  have : op = .cnt := by cases op <;> first | rfl | cases hpl
  subst this
  refine PE.imp (pe_bm PySem.F.plainAttrs_list PySem.F.slot_list_count PySem.F.type_list_count mt_lcount ha (pa_cons hb pa_nil (starEach_ns hn)) (rcv_base hr) ?_ hl (starEach_ns hn) (by rfl)) fun σ H Q ⟨io, e, s, hs, r, o⟩ => ⟨io, e, s, hs, r, Out.go o fun w s1 io1 H1 t1 r1 o1 v kv => ?_⟩
  · rw [nostar_all (es := [y]) fun z hz => by rw [List.mem_singleton.mp hz]; exact hn]
    rfl
  obtain ⟨j, hj⟩ := cntB_ok (g := g) (e := e) (s := s1) hc
  have hj2 := hj
  rw [hj] at o1
  have o1 : Out X.K X.mg (match (lsq w s1).bind intsW with
    | some ns => .ok (.int (ns.count j : Nat)) s1
    | none => .bad : R Py.W) io1 H1 (KV X.K X.mg Q) _ := o1
  cases h1 : lsq w s1 with
  | none => rw [h1] at o1; exact o1.elim
  | some ws =>
    rw [h1] at o1
    obtain ⟨p, vs, rfl, k1, k2⟩ := lsq_sq r1 kv h1
    refine ⟨.inl ⟨rfl, vs, k1⟩, io1, e, s1, hs.mono r t1, r1, ?_⟩
    rw [hj2]
    intro io2 H2 t2 r2 v2 kv2
    have kv2 : v2 = .int j := kv2
    subst kv2
    have kv' := r1.mono t2 _ _ kv
    obtain ⟨p', vs', e', k3, k4⟩ := lsq_sq r2 kv' h1
    cases e'
    cases h2 : intsW ws with
    | none =>
      rw [Option.bind_some, h2] at o1
      exact o1.elim
    | some ns =>
      rw [Option.bind_some, h2] at o1
      refine ⟨p, ns, j, rfl, rfl, ?_, ?_⟩
      · rw [← ints_v k4 h2]; exact k3
      · exact o1 io2 H2 t2 r2 _ rfl
theorem rgI_v {io : List Addr} {H : Hp} : ∀ (l : List Nat), RWs X.K X.mg io H (l.map fun i => Py.W.int (i : Nat)) (l.map fun i => V.int (0 + (i : Nat)))
  | [] => rfl
  | i :: l => ⟨_, _, rfl, by show V.int (0 + (i : Nat)) = V.int _; rw [Int.zero_add], rgI_v l⟩
theorem rgI_rg {io : List Addr} {H : Hp} (n : Int) : RWs X.K X.mg io H (rgI n) (rgV 0 n) := by
  unfold rgI rgV
  rw [Int.sub_zero]
  exact rgI_v _
theorem prg_a {a : Expr} {t : TA} {p pos : Pos} (hg : Gl X "range") (hm : X.mg "range" = none) (ha : PA X [a] t) (na : starEach [a] X.env = (false, eval a X.env) :: starEach [] X.env) : PRg X (.Call (.Name "range" p) [a] [] pos) (fun σ H Q => t σ H fun xs H1 => ∃ n, xs = [.int n] ∧ Q 0 n H1) := by
  intro pins s σ H Q I h
  refine Call_ (ld_blt I hg hm boot_range (PyProof.Rows.callWith_type1 (L2.thn (ha.run pos pins s σ H _ I h) fun us s2 ⟨xs, H2, I2, r, q⟩ => ?_) na))
  obtain ⟨n, rfl, q⟩ := q
  obtain ⟨u, rfl, ru⟩ := r.one
  obtain ⟨t, rfl⟩ := ru
  exact call_range_1 ⟨_, 0, n, _, _, _, H2, rfl, IsRange.new _ _ _ _ _ _ _, I2.kept fun b u e => Heap.get?_push_of_some _ e, q⟩
theorem e_rng {f : Bi} {as : E} {x : Expr} {p p2 pos pos2 : Pos} (hpl : f.pl = false) (h : Good X k g W) (hg : glB X.env.scope f.nm = true) (hg2 : glB X.env.scope "range" = true) (hn : noStar x = true) (ha : PAx X W g as [x]) : PEx X W g (.bi f as) (.Call (.Name f.nm p) [.Call (.Name "range" p2) [x] [] pos2] [] pos) := by
  have hr : PRg X (.Call (.Name "range" p2) [x] [] pos2) _ := prg_a (glB_ok hg2) (h.mo.blt _ (by decide)) ha (starEach_ns hn)
  cases f <;> first | (cases hpl; done) | skip
  · refine PE.imp (pe_listRg h.calm (glB_ok hg) (h.mo.blt _ (by decide)) hr (by rfl)) fun σ H Q ⟨io, e, s, hs, r, o⟩ => ⟨io, e, s, hs, r, Out.go o fun ws s1 io1 H1 t1 r1 o1 v kv => ?_⟩
    replace o1 : Out X.K X.mg (biLrg ws s1) io1 H1 (KV X.K X.mg Q) _ := o1
    unfold biLrg at o1
    split at o1
    · rename_i n
      split at o1
      · rename_i hl
        obtain ⟨v1, q', rfl, k1, k2⟩ := kv
        rw [show q' = [] from k2, show v1 = .int n from k1]
        exact ⟨n, rfl, ⟨by omega, by omega, by omega, by omega, by omega⟩, fun q hq => o1.valL r1 (rgI_rg n) hq⟩
      · exact o1.elim
    · exact o1.elim
  · refine PE.imp (pe_tupRg h.calm (glB_ok hg) (h.mo.blt _ (by decide)) hr (by rfl)) fun σ H Q ⟨io, e, s, hs, r, o⟩ => ⟨io, e, s, hs, r, Out.go o fun ws s1 io1 H1 t1 r1 o1 v kv => ?_⟩
    replace o1 : Out X.K X.mg (biTrg ws s1) io1 H1 (KV X.K X.mg Q) _ := o1
    unfold biTrg at o1
    split at o1
    · rename_i n
      split at o1
      · rename_i hl
        obtain ⟨v1, q', rfl, k1, k2⟩ := kv
        rw [show q' = [] from k2, show v1 = .int n from k1]
        exact ⟨n, rfl, ⟨by omega, by omega, by omega, by omega, by omega⟩, fun q hq => o1.valT r1 (rgI_rg n) hq⟩
      · exact o1.elim
    · exact o1.elim
theorem ty_val {t : Ty} (ht : t ≠ .lt) {pos : Pos} (h : Good X k g W) (hg : glB X.env.scope t.nm = true) : PE X (.Name t.nm pos) (tC (.ty t.tn)) := by
  obtain ⟨h1, h2, h3, h4⟩ := ty_boot t ht
  exact pe_bltn (glB_ok hg) (h.mo.blt _ h2) h1 rfl h3 h4
theorem isi_pe {a : E} {t : Ty} {x : Expr} {p p2 pos : Pos} (h : Good X k g W) (ht : t ≠ .lt) (hg : glB X.env.scope "isinstance" = true) (hg2 : glB X.env.scope t.nm = true) (hn : noStar x = true) (ha : PEx X W g a x) :
    PE X (.Call (.Name "isinstance" p) [x, .Name t.nm p2] [] pos) (tCB (rIsi X.K) (tCons (tE X.K X.mg W g a) (tCons (tC (.ty t.tn)) tNil))) :=
  pe_callB call_isi (glB_ok hg) (h.mo.blt _ (by decide)) (by decide +kernel) (pa_cons ha (pa_cons (ty_val ht h hg2) pa_nil (by rfl)) (starEach_ns hn)) (by decide) (by decide) (starEach_ns hn) (by rfl)
theorem isi_rd {t : Ty} (ht : t ≠ .lt) {w : Py.W} {s : Sto} {io : List Addr} {H : Hp} {v : V} {Q : VK} {Z : KO Str} (r : Rel X.K X.mg io H s) (kv : RW X.K X.mg io H w v) (o : Out X.K X.mg (ob (isiW t w) s) io H (KV X.K X.mg Q) Z) : rIsi X.K [v, .ty t.tn] H Q := by
  obtain ⟨c, hc, o⟩ := o.ob
  exact ⟨v, .ty t.tn, .type (tyN w), .type t.tn, c, rfl, .ty _, tyX_of r kv t hc, kit_ty (kit_all ht hc), o.val r rfl⟩
theorem e_isi {a : E} {t : Ty} {x : Expr} {p p2 pos : Pos} (h : Good X k g W) (ht : t ≠ .lt) (hg : glB X.env.scope "isinstance" = true) (hg2 : glB X.env.scope t.nm = true) (hn : noStar x = true) (ha : PEx X W g a x) :
    PEx X W g (.isi a t) (.Call (.Name "isinstance" p) [x, .Name t.nm p2] [] pos) :=
  PE.imp (isi_pe h ht hg hg2 hn ha) fun σ H Q ⟨io, e, s, hs, r, o⟩ => ⟨io, e, s, hs, r, Out.go o fun w s1 io1 H1 t1 r1 o1 v kv => isi_rd ht r1 kv o1⟩
theorem t_isi {a : E} {t : Ty} {x : Expr} {p p2 pos : Pos} (h : Good X k g W) (ht : t ≠ .lt) (hg : glB X.env.scope "isinstance" = true) (hg2 : glB X.env.scope t.nm = true) (hn : noStar x = true) (ha : PEx X W g a x) :
    PTx X W g (.isi a t) (.Call (.Name "isinstance" p) [x, .Name t.nm p2] [] pos) :=
  PT.imp (pt_truth (isi_pe h ht hg hg2 hn ha) (by intro _; rfl)) fun σ H Q ⟨io, e, s, hs, r, o⟩ => ⟨io, e, s, hs, r, Out.go o fun w s1 io1 H1 t1 r1 o1 v kv => isi_rd ht r1 kv (Out.go o1 fun z s2 io2 H2 t2 r2 o2 v2 kv2 => toT_val r2 o2 kv2)⟩
theorem isl_pe {a : E} {x : Expr} {p p2 p3 p4 pos : Pos} {n : Nat} (h : Good X k g W) (hg : glB X.env.scope "isinstance" = true) (hg2 : glB X.env.scope "list" = true) (hg3 : glB X.env.scope "tuple" = true) (hn : noStar x = true) (ha : PEx X W g a x) :
    PE X (.Call (.Name "isinstance" p) [x, .Tuple [.Name "list" p2, .Name "tuple" p3] n p4] [] pos) (tCB (rIsiT X.K) (tCons (tE X.K X.mg W g a) (tCons (tTup (tCons (tC (.ty "list")) (tCons (tC (.ty "tuple")) tNil))) tNil))) :=
  pe_callB call_isiT (glB_ok hg) (h.mo.blt _ (by decide)) (by decide +kernel) (pa_cons ha (pa_cons (pe_tup (pa_cons (ty_val (t := .list) (fun z => nomatch z) h hg2) (pa_cons (ty_val (t := .tuple) (fun z => nomatch z) h hg3) pa_nil (by rfl)) (by rfl))) pa_nil (by rfl)) (starEach_ns hn)) (by decide) (by decide) (starEach_ns hn) (by rfl)
theorem isl_rd {w : Py.W} {s : Sto} {io : List Addr} {H : Hp} {v : V} {Q : VK} {Z : KO Str} {σ : L2.St} (r : Rel X.K X.mg io H s) (kv : RW X.K X.mg io H w v) (o : Out X.K X.mg (ob (isiW .lt w) s) io H (KV X.K X.mg Q) Z) :
    (tCons (tTup (tCons (tC (.ty "list")) (tCons (tC (.ty "tuple")) tNil))) tNil) σ H fun xs H2 => rIsiT X.K (v :: xs) H2 Q := by
  obtain ⟨c, hc, o⟩ := o.ob
  refine ⟨by show 2 ≤ sizeLine; decide, fun p hp => ?_⟩
  exact ⟨v, p, [.ty "list", .ty "tuple"], .type (tyN w), [.type "list", .type "tuple"], c, rfl, upd_same, .cons (.ty _) (.cons (.ty _) .nil), tyX_of (r.tup hp) (r.mono (stp_tup hp) _ _ kv) .lt hc, kit_lt hc, o io _ (stp_tup hp) (r.tup hp) _ rfl⟩
theorem e_isl {a : E} {x : Expr} {p p2 p3 p4 pos : Pos} {n : Nat} (h : Good X k g W) (hg : glB X.env.scope "isinstance" = true) (hg2 : glB X.env.scope "list" = true) (hg3 : glB X.env.scope "tuple" = true) (hn : noStar x = true) (ha : PEx X W g a x) :
    PEx X W g (.isi a .lt) (.Call (.Name "isinstance" p) [x, .Tuple [.Name "list" p2, .Name "tuple" p3] n p4] [] pos) :=
  PE.imp (isl_pe h hg hg2 hg3 hn ha) fun σ H Q ⟨io, e, s, hs, r, o⟩ => ⟨io, e, s, hs, r, Out.go o fun w s1 io1 H1 t1 r1 o1 v kv => isl_rd r1 kv o1⟩
theorem t_isl {a : E} {x : Expr} {p p2 p3 p4 pos : Pos} {n : Nat} (h : Good X k g W) (hg : glB X.env.scope "isinstance" = true) (hg2 : glB X.env.scope "list" = true) (hg3 : glB X.env.scope "tuple" = true) (hn : noStar x = true) (ha : PEx X W g a x) :
    PTx X W g (.isi a .lt) (.Call (.Name "isinstance" p) [x, .Tuple [.Name "list" p2, .Name "tuple" p3] n p4] [] pos) :=
  PT.imp (pt_truth (isl_pe h hg hg2 hg3 hn ha) (by intro _; rfl)) fun σ H Q ⟨io, e, s, hs, r, o⟩ => ⟨io, e, s, hs, r, Out.go o fun w s1 io1 H1 t1 r1 o1 v kv => isl_rd r1 kv (Out.go o1 fun z s2 io2 H2 t2 r2 o2 v2 kv2 => toT_val r2 o2 kv2)⟩
theorem w_and {a b : E} {x y : Expr} {r : List Expr} {pos : Pos} (ha : PTx X W g a x) (hb : PWx X W g b (.BoolOp .And (y :: r) pos)) : PWx X W g (.and a b) (.BoolOp .And (x :: y :: r) pos) := by
  refine PW.imp (pw_and ha hb) fun σ H Q ⟨io, e, s, hs, r, o⟩ => ⟨io, e, s, hs, r, Out.go o fun w s1 io1 H1 t1 r1 o1 v kv => ?_⟩
  cases kv
  cases w with
  | true => exact iteT ⟨io1, e, s1, hs.mono r t1, r1, o1⟩
  | false => exact iteF (o1.here r1 _ rfl)
theorem w_or {a b : E} {x y : Expr} {r : List Expr} {pos : Pos} (ha : PTx X W g a x) (hb : PWx X W g b (.BoolOp .Or (y :: r) pos)) : PWx X W g (.or a b) (.BoolOp .Or (x :: y :: r) pos) := by
  refine PW.imp (pw_or ha hb) fun σ H Q ⟨io, e, s, hs, r, o⟩ => ⟨io, e, s, hs, r, Out.go o fun w s1 io1 H1 t1 r1 o1 v kv => ?_⟩
  cases kv
  cases w with
  | false => exact iteF ⟨io1, e, s1, hs.mono r t1, r1, o1⟩
  | true => exact iteT (o1.here r1 _ rfl)
theorem t_no {a : E} {x : Expr} {pos : Pos} (ha : PTx X W g a x) : PTx X W g (.no a) (.UnaryOp .Not x pos) := by
  refine PT.imp (pt_not ha) fun σ H Q ⟨io, e, s, hs, r, o⟩ => ⟨io, e, s, hs, r, Out.go o fun w s1 io1 H1 t1 r1 o1 v kv => ?_⟩
  cases kv
  exact o1.here r1 _ rfl
theorem t_var {i : Nat} {y : Str} {pos : Pos} (hN : X.N[i]? = some y) (hv : visB X.env.scope y = true) (ok : okN y = true) : PTx X W g (.var i) (.Name y pos) := by
  refine PT.imp (pt_truth (pe_var hN (visB_ok hv) (okN_ok ok).1 (okN_ok ok).2) (by intro _; rfl)) fun σ H Q ⟨io, e, s, hs, r, o⟩ => ?_
  obtain ⟨w, v, h1, h2, o⟩ := Out.slotk hs o
  exact ⟨v, h1, toT_val r o h2⟩
end
end Py

namespace Py
open PySem PySem.Spec PyProof.Rows L2
section
variable {X : Cx} {k : Nat} {g : G} {W : WX}
theorem LS.start {io1 : List Addr} {H1 : Hp} {s : Sto} {D : Addr} (r : Rel X.K X.mg io1 H1 s) (hD : H1 D = none) : LS X io1 H1 D io1 (upd H1 D (.lst [])) s [] [] := by
  refine ⟨stp_tup hD, r.tup hD, fun z => ?_, upd_same, rfl⟩
  obtain ⟨vs, q⟩ := r.lst z
  rw [hD] at q
  cases q
theorem LS.step {io1 io io' : List Addr} {H1 H H' : Hp} {s s' : Sto} {D : Addr} {acc : List Py.W} {av : List V} (l : LS X io1 H1 D io H s acc av) (t : Stp io H io' H') (r : Rel X.K X.mg io' H' s') : LS X io1 H1 D io' H' s' acc av := by
  refine ⟨l.st.trans t, r, fun z => (t.new D z).elim l.nin fun q => ?_, t.old D _ l.hD l.nin, l.rel.monos t _ _ l.kw⟩
  rw [l.hD] at q
  cases q
theorem LS.push {io1 io : List Addr} {H1 H : Hp} {s : Sto} {D : Addr} {acc : List Py.W} {av : List V} {w : Py.W} {v : V} (l : LS X io1 H1 D io H s acc av) (h1 : H1 D = none) (kw : RW X.K X.mg io H w v) : LS X io1 H1 D io (upd H D (.lst (av ++ [v]))) s (acc ++ [w]) (av ++ [v]) := by
  refine ⟨l.st.out h1, l.rel.out l.nin l.hD, l.nin, upd_same, ?_⟩
  have := RWs.keep (r := []) (kp_out (ys := av ++ [v]) l.hD) (acc ++ [w]) (av ++ [v]) (l.kw.app (.one kw))
  rwa [List.append_nil] at this
theorem noex_bind {α β : Type} {r : R α} {f : α → Sto → R β} {K : PySem.W.Frag} {mg : Str → Option Value} {io : List Addr} {H : Hp} {Q : KO β} {Z : KO Str} (o : Out K mg (r.noex.bind f) io H Q Z) : ∃ a s, r = .ok a s ∧ Out K mg (f a s) io H Q Z := by
  cases r with
  | ok a s => exact ⟨a, s, rfl, o⟩
  | exc c s => exact o.elim
  | bad => exact o.elim
theorem comp_turn {own : List (Str × Nat)} {tg : Tn} {cond elt : E} {e : Sl} {σ : L2.St} {io1 io : List Addr} {H1 H : Hp} {s : Sto} {D : Addr} {acc : List Py.W} {av : List V} {w : Py.W} {x : V} {Nx : Hp → Prop} {Qr : KO Py.W} {Z : KO Str}
    {kont : Option Py.W → Sto → R Py.W} (hD : H1 D = none) (l : LS X io1 H1 D io H s acc av) (hs : RSl X.K X.mg io H e σ) (kx : RW X.K X.mg io H w x) (hin : ∀ i ∈ tnIx tg, i ∈ own.map Prod.snd)
    (o : Out X.K X.mg ((compF g own tg cond elt e w s).bind kont) io1 H1 Qr Z)
    (hN : ∀ io' H' s' acc' av', LS X io1 H1 D io' H' s' acc' av' → RSl X.K X.mg io' H' e σ → ((∃ v, acc.length < sizeLine ∧ acc' = acc ++ [v] ∧ Out X.K X.mg (kont (some v) s') io1 H1 Qr Z) ∨ (acc' = acc ∧ Out X.K X.mg (kont none s') io1 H1 Qr Z)) → Nx H')
    (hsz : ∀ v s', Out X.K X.mg (kont (some v) s') io1 H1 Qr Z → acc.length < sizeLine) :
    gOf X.K tg x (L2.wipe σ (own.map Prod.snd)) H fun σ2 H2 => L2.wipe σ2 (own.map Prod.snd) = L2.wipe σ (own.map Prod.snd) ∧ tT X.K X.mg (fun _ _ _ _ => False) g cond σ2 H2 fun b H3 =>
      if b = true then tE X.K X.mg (fun _ _ _ _ => False) g elt σ2 H3 fun y H4 => ∃ acc, H4 D = some (.lst acc) ∧ acc.length < sizeLine ∧ Nx (upd H4 D (.lst (acc ++ [y]))) else Nx H3 := by
  obtain ⟨a0, s0, ho, o⟩ := noex_bind o
  cases ht : tnSet tg w (wipeS e (own.map Prod.snd)) with
  | none => rw [ht] at ho; cases ho
  | some e' =>
    rw [ht] at ho
    have ho : ((evT g cond e' s).bind fun k s3 => if k then (ev g elt e' s3).bind fun v s4 => R.ok (some v) s4 else R.ok none s3) = .ok a0 s0 := ho
    refine gOf_ok l.rel tg w x _ e' _ _ (hs.wipe _) kx ht fun σ2 hs2 hw2 => ⟨?_, io, e', s, hs2, l.rel, ?_⟩
    · have := hw2 (own.map Prod.snd) hin
      rw [this]
      exact wipe_wipe σ _
    · cases h1 : evT g cond e' s with
      | bad => rw [h1] at ho; cases ho
      | exc c s1 => rw [h1] at ho; cases ho
      | ok b s3 =>
        rw [h1] at ho
        intro io3 H3 t3 r3 b' hb
        subst hb
        have l3 := l.step t3 r3
        cases b' with
        | false =>
          have ho : R.ok none s3 = .ok a0 s0 := ho
          cases ho
          exact iteF (hN io3 H3 _ acc av l3 (hs.mono l.rel t3) (.inr ⟨rfl, o⟩))
        | true =>
          have ho : ((ev g elt e' s3).bind fun v s4 => R.ok (some v) s4) = .ok a0 s0 := ho
          refine iteT ⟨io3, e', s3, hs2.mono l.rel t3, r3, ?_⟩
          cases h2 : ev g elt e' s3 with
          | bad => rw [h2] at ho; cases ho
          | exc c s1 => rw [h2] at ho; cases ho
          | ok v s4 =>
            rw [h2] at ho
            have ho : R.ok (some v) s4 = .ok a0 s0 := ho
            cases ho
            intro io4 H4 t4 r4 y ky
            have l4 := l3.step t4 r4
            have hz := hsz _ _ o
            exact ⟨av, l4.hD, by rw [← l4.kw.length]; exact hz, hN io4 _ _ _ _ (l4.push hD ky) (rsl_out ((hs.mono l.rel t3).mono r3 t4) l4.hD) (.inl ⟨v, hz, rfl, o⟩)⟩
theorem e_comp {own : List (Str × Nat)} {tg : Tn} {ik : Ik} {as cond elt : E} {el t iter : Expr} {ifs : List Expr} {scope : Scope} (h : Good X k g W) (ok : blkC X.N X.env.scope scope own = true) (ht : mTn X.N (fun x => scope.names.lookup x == some .cell) (relS scope X.env.scope) tg t = true) (hin : (tnIx tg).all (fun i => decide (i ∈ own.map Prod.snd)) = true)
    (hn : noSet iter = true) (hi : PI X t iter (tI X.K X.mg W g ik as))
    (hc : ∀ (s : Shared) (H : Hp) (C : Addr) (cl : List (Str × Addr)) (fp : List Addr), PTs (X.blk s H scope (compEnvC scope cl C X.env) fp) ifs (tT X.K X.mg (fun _ _ _ _ => False) g cond))
    (he : ∀ (s : Shared) (H : Hp) (C : Addr) (cl : List (Str × Addr)) (fp : List Addr), PE (X.blk s H scope (compEnvC scope cl C X.env) fp) el (tE X.K X.mg (fun _ _ _ _ => False) g elt)) :
    ∀ σ H Q, tE X.K X.mg W g (.comp own tg ik as cond elt) σ H Q → tLc (tI X.K X.mg W g ik as) (gOf X.K tg) (tT X.K X.mg (fun _ _ _ _ => False) g cond) (tE X.K X.mg (fun _ _ _ _ => False) g elt) (own.map Prod.snd) σ H Q := by
  intro σ H Q ⟨io, e, s, hs, r, o⟩
  have hin' : ∀ i ∈ tnIx tg, i ∈ own.map Prod.snd := fun i hi => of_decide_eq_true (List.all_eq_true.mp hin i hi)
  refine ⟨io, e, s, hs, r, Out.go o fun ws s1 io1 H1 t1 r1 o1 => ?_⟩
  cases hsrc : srcOf ik ws s1 with
  | none => rw [hsrc] at o1; exact o1.elim
  | some src =>
    rw [hsrc] at o1
    refine ⟨src, rfl, fun J jr D hD => ?_⟩
    have o1 : Out X.K X.mg ((compL (compF g own tg cond elt e) big src 0 [] s1).bind fun acc s2 => alloc acc s2) io1 H1 (KV X.K X.mg Q) (Kx X.mg W σ) := o1
    refine ⟨fun i m Hc => ∃ io2 sc acc av, LS X io1 H1 D io2 Hc sc acc av ∧ RSl X.K X.mg io2 Hc e σ ∧ Out X.K X.mg ((compL (compF g own tg cond elt e) m src i acc sc).bind fun acc s2 => alloc acc s2) io1 H1 (KV X.K X.mg Q) (Kx X.mg W σ),
      ⟨big, io1, s1, [], [], .start r1 hD, (hs.mono r t1).mono r1 (stp_tup hD), o1⟩, ?_⟩
    rintro i m Hc ⟨io2, sc, acc, av, l, hs2, oc⟩
    cases m with
    | zero => exact oc.elim
    | succ m =>
      have jr' := jr io2 Hc sc l.st l.rel i
      have oc : Out X.K X.mg ((match itAt src i sc with
        | none => .bad
        | some none => .ok acc sc
        | some (some w) => (compF g own tg cond elt e w sc).bind fun o s' => match o with
          | some v => if acc.length < sizeLine then compL (compF g own tg cond elt e) m src (i + 1) (acc ++ [v]) s' else .bad
          | none => compL (compF g own tg cond elt e) m src (i + 1) acc s' : R (List Py.W)).bind fun acc s2 => alloc acc s2) io1 H1 (KV X.K X.mg Q) (Kx X.mg W σ) := oc
      cases hit : itAt src i sc with
      | none => rw [hit] at oc; exact oc.elim
      | some z =>
        rw [hit] at oc jr'
        cases z with
        | none => exact .inl ⟨jr', l.done hD oc⟩
        | some w =>
          refine .inr ⟨jr'.1, fun H' => ∃ m', m' < m + 1 ∧ ∃ io2 sc acc av, LS X io1 H1 D io2 H' sc acc av ∧ RSl X.K X.mg io2 H' e σ ∧ Out X.K X.mg ((compL (compF g own tg cond elt e) m' src (i + 1) acc sc).bind fun acc s2 => alloc acc s2) io1 H1 (KV X.K X.mg Q) (Kx X.mg W σ), fun H' z => z, fun x H' hy => ?_⟩
          obtain ⟨st, rl, kx⟩ := jr'.2 x H' hy
          have oc : Out X.K X.mg (((compF g own tg cond elt e w sc).bind fun o s' => match o with
            | some v => if acc.length < sizeLine then compL (compF g own tg cond elt e) m src (i + 1) (acc ++ [v]) s' else .bad
            | none => compL (compF g own tg cond elt e) m src (i + 1) acc s').bind fun acc s2 => alloc acc s2) io1 H1 (KV X.K X.mg Q) (Kx X.mg W σ) := oc
          rw [R.bind_assoc] at oc
          refine comp_turn hD (l.step st rl) (hs2.mono l.rel st) kx hin' oc (fun io' H'' s' acc' av' l' hs' hor => ?_) fun v s' ov => ?_
          · rcases hor with ⟨v, hz, rfl, ov⟩ | ⟨rfl, ov⟩
            · have ov : Out X.K X.mg ((if acc.length < sizeLine then compL (compF g own tg cond elt e) m src (i + 1) (acc ++ [v]) s' else .bad).bind fun acc s2 => alloc acc s2) io1 H1 (KV X.K X.mg Q) (Kx X.mg W σ) := ov
              rw [if_pos hz] at ov
              exact ⟨m, Nat.lt_succ_self m, io', s', _, av', l', hs', ov⟩
            · exact ⟨m, Nat.lt_succ_self m, io', s', _, av', l', hs', ov⟩
          · have ov : Out X.K X.mg ((if acc.length < sizeLine then compL (compF g own tg cond elt e) m src (i + 1) (acc ++ [v]) s' else .bad).bind fun acc s2 => alloc acc s2) io1 H1 (KV X.K X.mg Q) (Kx X.mg W σ) := ov
            by_cases hz : acc.length < sizeLine
            · exact hz
            · rw [if_neg hz] at ov
              exact ov.elim
theorem t_nil : PTs X [] (tT X.K X.mg W g .nil) := PTs.imp pts_nil fun σ H Q ⟨io, e, s, hs, r, o⟩ => o.here r true rfl
end
section
variable {k : Nat} {g : G}
mutual
theorem sE : ∀ (a : E) (X : Cx) (W : WX) (x : Expr), Good X k g W → mE X.N g.df a X.env.scope x = true → PEx X W g a x
  | .var i, X, W, x, h, m => by
    unfold mE at m
    split at m
    · rw [Bool.and_eq_true, Bool.and_eq_true, beq_iff_eq] at m
      refine PE.imp (pe_var m.1.1 (visB_ok m.1.2) (okN_ok m.2).1 (okN_ok m.2).2) fun σ H Q ⟨io, e, s, hs, r, o⟩ => ?_
      obtain ⟨w, v, h1, h2, o⟩ := Out.slot hs o
      exact ⟨v, h1, o.val r h2⟩
    · cases m
  | .con n, X, W, x, h, m => by
    unfold mE at m
    split at m
    · rw [Bool.and_eq_true, Bool.and_eq_true, beq_iff_eq] at m
      obtain ⟨⟨rfl, hg⟩, ok⟩ := m
      cases hc : g.con n with
      | none =>
        refine ⟨fun pins st σ H Q I ⟨io, e, s, hs, r, o⟩ => ?_⟩
        have o : Out X.K X.mg (match g.con n with | some w => .ok w s | none => .bad : R Py.W) io H (KV X.K X.mg Q) (Kx X.mg W σ) := o
        rw [hc] at o
        exact o.elim
      | some w =>
        obtain ⟨u, v, h1, h2, h3⟩ := h.mo.con n w hc
        refine PE.imp (pe_glob (glB_ok hg) h1 h2 (okN_ok ok).1) fun σ H Q ⟨io, e, s, hs, r, o⟩ => ?_
        have o : Out X.K X.mg (match g.con n with | some w => .ok w s | none => .bad : R Py.W) io H (KV X.K X.mg Q) (Kx X.mg W σ) := o
        rw [hc] at o
        exact o.val r (h3 io H)
    · cases m
  | .fref n, X, W, x, h, m => by
    unfold mE at m
    split at m
    · rw [Bool.and_eq_true, Bool.and_eq_true, beq_iff_eq] at m
      obtain ⟨⟨rfl, hg⟩, ok⟩ := m
      by_cases hd : g.df n = true
      · obtain ⟨f, fd, ps, h1, _⟩ := (h.mo.fn n hd).ex
        refine PE.imp (pe_glob (v := .ref f) (glB_ok hg) h1 rfl (okN_ok ok).1) fun σ H Q ⟨io, e, s, hs, r, o⟩ => ?_
        have o : Out X.K X.mg (if g.df n then .ok (.fn n) s else .bad : R Py.W) io H (KV X.K X.mg Q) (Kx X.mg W σ) := o
        rw [if_pos hd] at o
        exact o.val r ⟨f, rfl, h1⟩
      · refine ⟨fun pins st σ H Q I ⟨io, e, s, hs, r, o⟩ => ?_⟩
        have o : Out X.K X.mg (if g.df n then .ok (.fn n) s else .bad : R Py.W) io H (KV X.K X.mg Q) (Kx X.mg W σ) := o
        rw [if_neg hd] at o
        exact o.elim
    · cases m
  | .int i, X, W, x, h, m => by
    unfold mE at m
    split at m
    · rw [beq_iff_eq] at m
      subst m
      exact PE.imp pe_int fun σ H Q ⟨io, e, s, hs, r, o⟩ => o.val r rfl
    · cases m
  | .bl b, X, W, x, h, m => by
    unfold mE at m
    split at m
    · rw [beq_iff_eq] at m
      subst m
      exact PE.imp pe_bl fun σ H Q ⟨io, e, s, hs, r, o⟩ => o.val r rfl
    · cases m
  | .non, X, W, x, h, m => by
    unfold mE at m
    split at m
    · exact PE.imp pe_non fun σ H Q ⟨io, e, s, hs, r, o⟩ => o.val r rfl
    · cases m
  | .str z, X, W, x, h, m => by
    unfold mE at m
    split at m
    · rw [beq_iff_eq] at m
      subst m
      exact PE.imp pe_str fun σ H Q ⟨io, e, s, hs, r, o⟩ => o.val r rfl
    · cases m
  | .bin op a b, X, W, x, h, m => by
    unfold mE at m
    split at m
    · rw [Bool.and_eq_true, Bool.and_eq_true, Bool.and_eq_true, beq_iff_eq] at m
      obtain ⟨⟨⟨hp, rfl⟩, m1⟩, m2⟩ := m
      exact e_bin hp h (sE a X W _ h m1) (sE b X W _ h m2)
    · simp only [Bool.and_eq_true, beq_iff_eq, Bool.not_eq_true'] at m
      obtain ⟨⟨⟨⟨⟨⟨⟨hp, hc⟩, hr⟩, rfl⟩, hl⟩, hn⟩, m1⟩, m2⟩ := m
      exact e_cnt hp hc hr (by rw [beq_iff_eq]; exact hl) hn (sE a X W _ h m1) (sE b X W _ h m2)
    · cases m
  | .neg a, X, W, x, h, m => by
    unfold mE at m
    split at m
    · exact e_neg (sE a X W _ h m)
    · cases m
  | .no a, X, W, x, h, m => by
    unfold mE at m
    split at m
    · exact e_no (sE a X W _ h m)
    · cases m
  | .cmp op a b, X, W, x, h, m => by
    unfold mE at m
    split at m
    · rw [Bool.and_eq_true, Bool.and_eq_true, Bool.and_eq_true, beq_iff_eq] at m
      obtain ⟨⟨⟨rfl, hn⟩, m1⟩, m2⟩ := m
      exact e_cmp h hn (sE a X W _ h m1) (sE b X W _ h m2)
    · cases m
  | .chain op op' a b c, X, W, x, h, m => by
    unfold mE at m
    split at m
    · rw [Bool.and_eq_true, Bool.and_eq_true, Bool.and_eq_true, Bool.and_eq_true, Bool.and_eq_true, beq_iff_eq, beq_iff_eq] at m
      obtain ⟨⟨⟨⟨⟨rfl, rfl⟩, hn⟩, m1⟩, m2⟩, m3⟩ := m
      exact e_chain h hn (sE a X W _ h m1) (sE b X W _ h m2) (sE c X W _ h m3)
    · cases m
  | .and a b, X, W, x, h, m => by
    unfold mE at m
    split at m
    · rw [Bool.and_eq_true] at m
      exact e_and (sE a X W _ h m.1) (sE b X W _ h m.2)
    · cases m
  | .or a b, X, W, x, h, m => by
    unfold mE at m
    split at m
    · rw [Bool.and_eq_true] at m
      exact e_or (sE a X W _ h m.1) (sE b X W _ h m.2)
    · cases m
  | .one a, X, W, x, h, m => by
    unfold mE at m
    split at m
    · exact pe_one (sE a X W _ h m)
    · cases m
  | .ite c a b, X, W, x, h, m => by
    unfold mE at m
    split at m
    · rw [Bool.and_eq_true, Bool.and_eq_true] at m
      exact e_ite (sT c X W _ h m.1.1) (sE a X W _ h m.1.2) (sE b X W _ h m.2)
    · cases m
  | .tup as, X, W, x, h, m => by
    unfold mE at m
    split at m
    · exact e_tup (sEs as X W _ h m).1
    · cases m
  | .lst as, X, W, x, h, m => by
    unfold mE at m
    split at m
    · exact e_lst (sEs as X W _ h m).1
    · cases m
  | .ix a b, X, W, x, h, m => by
    unfold mE at m
    split at m
    · split at m
      · cases m
      · rename_i hq
        rw [Bool.and_eq_true] at m
        refine e_ix (fun o i => ?_) (sE a X W _ h m.1) (sE b X W _ h m.2)
        rename_i p q pos _
        cases q <;> first | rfl | exact absurd rfl (hq _ _ _ _)
    · cases m
  | .sl a lo hi, X, W, x, h, m => by
    unfold mE at m
    split at m
    · rw [Bool.and_eq_true, Bool.and_eq_true] at m
      exact e_sl (sE a X W _ h m.1.1) (sO lo X W _ h m.1.2) (sO hi X W _ h m.2)
    · cases m
  | .rv a, X, W, x, h, m => by
    unfold mE at m
    split at m
    · rw [Bool.and_eq_true, beq_iff_eq] at m
      obtain ⟨rfl, m⟩ := m
      exact e_rv (sE a X W _ h m)
    · cases m
  | .call f as, X, W, x, h, m => by
    unfold mE at m
    split at m
    · rw [Bool.and_eq_true, Bool.and_eq_true, Bool.and_eq_true, Bool.and_eq_true, beq_iff_eq] at m
      obtain ⟨⟨⟨⟨hd, rfl⟩, hg⟩, ok⟩, m⟩ := m
      exact e_call h hd hg ok (mEs_ns m) (sEs as X W _ h m).1
    · cases m
  | .callv i as, X, W, x, h, m => by
    unfold mE at m
    split at m
    · rw [Bool.and_eq_true, Bool.and_eq_true, Bool.and_eq_true, beq_iff_eq] at m
      obtain ⟨⟨⟨hN, hv⟩, ok⟩, m⟩ := m
      exact e_callv h hN hv ok (mEs_ns m) (sEs as X W _ h m).1
    · cases m
  | .bi f as, X, W, x, h, m => by
    unfold mE at m
    split at m
    · rw [Bool.and_eq_true, Bool.and_eq_true, beq_iff_eq] at m
      obtain ⟨⟨rfl, hg⟩, m⟩ := m
      split at m
      · rename_i hp
        exact ev_bi hp h hg (mEs_ns m) (sEs as X W _ h m).1
      · rename_i hp
        rw [Bool.and_eq_true, List.isEmpty_iff] at m
        obtain ⟨rfl, m⟩ := m
        obtain ⟨p2, x1, pos2, rfl, hg2, m⟩ := call1_ok m
        exact e_rng hp h hg hg2 (mEs_ns m _ List.mem_cons_self) (sEs as X W _ h m).1
    · cases m
  | .mt mm o as, X, W, x, h, m => by
    unfold mE at m
    split at m
    · rw [Bool.and_eq_true, Bool.and_eq_true, Bool.and_eq_true, Bool.and_eq_true, beq_iff_eq] at m
      obtain ⟨⟨⟨⟨hr, rfl⟩, hl⟩, m1⟩, m2⟩ := m
      have : as = .nil := by cases as <;> first | rfl | cases m2
      subst this
      exact e_mt0 hr hl (sE o X W _ h m1)
    · rw [Bool.and_eq_true, Bool.and_eq_true, Bool.and_eq_true, Bool.and_eq_true, Bool.and_eq_true, beq_iff_eq] at m
      obtain ⟨⟨⟨⟨⟨hr, rfl⟩, hl⟩, hf⟩, m1⟩, m2⟩ := m
      exact e_mt hr hl (of_decide_eq_true hf) (mEs_ns m2) (sE o X W _ h m1) (sEs as X W _ h m2).1
    · cases m
  | .isi a t, X, W, x, h, m => by
    unfold mE at m
    split at m
    · rw [Bool.and_eq_true, Bool.and_eq_true, Bool.and_eq_true, Bool.and_eq_true, Bool.and_eq_true, Bool.and_eq_true, beq_iff_eq, beq_iff_eq] at m
      obtain ⟨⟨⟨⟨⟨⟨h1, rfl⟩, hg⟩, hg2⟩, rfl⟩, hn⟩, m⟩ := m
      have ht : t ≠ .lt := fun z => by rw [z] at h1; cases h1
      exact e_isi h ht hg hg2 hn (sE a X W _ h m)
    · rw [Bool.and_eq_true, Bool.and_eq_true, Bool.and_eq_true, Bool.and_eq_true, Bool.and_eq_true, Bool.and_eq_true, Bool.and_eq_true, Bool.and_eq_true, beq_iff_eq, beq_iff_eq, beq_iff_eq] at m
      obtain ⟨⟨⟨⟨⟨⟨⟨⟨ht, rfl⟩, hg⟩, hg2⟩, hg3⟩, rfl⟩, rfl⟩, hn⟩, m⟩ := m
      have : t = .lt := by cases t <;> first | rfl | cases ht
      subst this
      exact e_isl h hg hg2 hg3 hn (sE a X W _ h m)
    · cases m
  | .comp own tg ik as cond elt, X, W, x, h, m => by
    unfold mE at m
    split at m
    · rw [Bool.and_eq_true, Bool.and_eq_true, Bool.and_eq_true, Bool.and_eq_true, Bool.and_eq_true, Bool.and_eq_true, Bool.and_eq_true, beq_iff_eq] at m
      obtain ⟨⟨⟨⟨⟨⟨⟨rfl, m1⟩, m2⟩, m3⟩, m4⟩, m5⟩, m6⟩, m7⟩ := m
      rename_i el t iter ifs scope pos
      have hi := sI h (fun es => sEs as X W es h) m5
      have he : ∀ (s : Shared) (H : Hp) (C : Addr) (cl : List (Str × Addr)) (fp : List Addr), PE (X.blk s H scope (compEnvC scope cl C X.env) fp) el (tE X.K X.mg (fun _ _ _ _ => False) g elt) := fun s H C cl fp => sE elt (X.blk s H scope (compEnvC scope cl C X.env) fp) _ el (h.blk s H scope _ fp) m7
      have hg : ∀ (s : Shared) (H : Hp) (C : Addr) (cl : List (Str × Addr)) (fp : List Addr), PG (X.blk s H scope (compEnvC scope cl C X.env) fp) t (gOf X.K tg) := fun s H C cl fp => sG (X := X.blk s H scope (compEnvC scope cl C X.env) fp) h.calm h.nd (fun _ z => z) tg t m2
      have hc : ∀ (s : Shared) (H : Hp) (C : Addr) (cl : List (Str × Addr)) (fp : List Addr), PTs (X.blk s H scope (compEnvC scope cl C X.env) fp) ifs (tT X.K X.mg (fun _ _ _ _ => False) g cond) := fun s H C cl fp => by
        split at m6
        · have : cond = .nil := by cases cond <;> first | rfl | cases m6
          subst this
          exact t_nil (X := X.blk s H scope (compEnvC scope cl C X.env) fp)
        · exact pts_one (sT cond (X.blk s H scope (compEnvC scope cl C X.env) fp) _ _ (h.blk s H scope _ fp) m6)
        · cases m6
      exact PE.imp (pe_lc h.calm h.nd hi (blkOk_by m1) hg hc he (noset_fold m4)) (e_comp h m1 m2 m3 m4 hi hc he)
    · cases m
  | .nil, _, _, _, _, m => by cases m
  | .cons _ _, _, _, _, _, m => by cases m
theorem sEs : ∀ (a : E) (X : Cx) (W : WX) (xs : List Expr), Good X k g W → mEs X.N g.df a X.env.scope xs = true → PAx X W g a xs ∧ ∀ y, xs = [y] → ∃ b, a = .cons b .nil ∧ PEx X W g b y
  | .nil, X, W, xs, h, m => by
    unfold mEs at m
    split at m
    · exact ⟨PA.imp pa_nil fun σ H Q ⟨io, e, s, hs, r, o⟩ => o.here r _ rfl, fun y z => by cases z⟩
    · cases m
  | .cons a as, X, W, xs, h, m => by
    unfold mEs at m
    split at m
    · rw [Bool.and_eq_true, Bool.and_eq_true] at m
      obtain ⟨⟨hn, m1⟩, m2⟩ := m
      have pa := sE a X W _ h m1
      have ps := (sEs as X W _ h m2).1
      refine ⟨PA.imp (pa_cons pa ps (starEach_ns hn)) fun σ H Q ⟨io, e, s, hs, r, o⟩ => ⟨io, e, s, hs, r, Out.go o fun w s1 io1 H1 t1 r1 o1 v kv => ⟨io1, e, s1, hs.mono r t1, r1, Out.go o1 fun u s2 io2 H2 t2 r2 o2 v2 kv2 => o2.here r2 _ ⟨v, v2, rfl, r1.mono t2 _ _ kv, kv2⟩⟩⟩, fun y z => ?_⟩
      cases z
      have : as = .nil := by
        cases as <;> first | rfl | cases m2
      subst this
      exact ⟨a, rfl, pa⟩
    · cases m
  | .var _, _, _, _, _, m => by cases m
  | .con _, _, _, _, _, m => by cases m
  | .fref _, _, _, _, _, m => by cases m
  | .int _, _, _, _, _, m => by cases m
  | .bl _, _, _, _, _, m => by cases m
  | .non, _, _, _, _, m => by cases m
  | .str _, _, _, _, _, m => by cases m
  | .bin _ _ _, _, _, _, _, m => by cases m
  | .neg _, _, _, _, _, m => by cases m
  | .no _, _, _, _, _, m => by cases m
  | .cmp _ _ _, _, _, _, _, m => by cases m
  | .chain _ _ _ _ _, _, _, _, _, m => by cases m
  | .and _ _, _, _, _, _, m => by cases m
  | .or _ _, _, _, _, _, m => by cases m
  | .one _, _, _, _, _, m => by cases m
  | .ite _ _ _, _, _, _, _, m => by cases m
  | .tup _, _, _, _, _, m => by cases m
  | .lst _, _, _, _, _, m => by cases m
  | .ix _ _, _, _, _, _, m => by cases m
  | .sl _ _ _, _, _, _, _, m => by cases m
  | .rv _, _, _, _, _, m => by cases m
  | .call _ _, _, _, _, _, m => by cases m
  | .callv _ _, _, _, _, _, m => by cases m
  | .bi _ _, _, _, _, _, m => by cases m
  | .mt _ _ _, _, _, _, _, m => by cases m
  | .isi _ _, _, _, _, _, m => by cases m
  | .comp _ _ _ _ _ _, _, _, _, _, m => by cases m
theorem sO : ∀ (a : E) (X : Cx) (W : WX) (x : Option Expr), Good X k g W → mO X.N g.df a X.env.scope x = true → POx X W g a x
  | .nil, X, W, x, h, m => by
    unfold mO at m
    split at m
    · exact PO.imp po_none fun σ H Q ⟨io, e, s, hs, r, o⟩ => o.here r _ rfl
    · cases m
  | .one a, X, W, x, h, m => by
    unfold mO at m
    split at m
    · refine PO.imp (po_some (sE a X W _ h m)) fun σ H Q ⟨io, e, s, hs, r, o⟩ => ⟨io, e, s, hs, r, Out.go o fun w s1 io1 H1 t1 r1 o1 v kv => ?_⟩
      obtain ⟨i, rfl, o1⟩ := o1.toIk
      exact ⟨i, kv, o1.here r1 _ rfl⟩
    · cases m
  | .cons _ _, _, _, _, _, m => by cases m
  | .var _, _, _, _, _, m => by cases m
  | .con _, _, _, _, _, m => by cases m
  | .fref _, _, _, _, _, m => by cases m
  | .int _, _, _, _, _, m => by cases m
  | .bl _, _, _, _, _, m => by cases m
  | .non, _, _, _, _, m => by cases m
  | .str _, _, _, _, _, m => by cases m
  | .bin _ _ _, _, _, _, _, m => by cases m
  | .neg _, _, _, _, _, m => by cases m
  | .no _, _, _, _, _, m => by cases m
  | .cmp _ _ _, _, _, _, _, m => by cases m
  | .chain _ _ _ _ _, _, _, _, _, m => by cases m
  | .and _ _, _, _, _, _, m => by cases m
  | .or _ _, _, _, _, _, m => by cases m
  | .ite _ _ _, _, _, _, _, m => by cases m
  | .tup _, _, _, _, _, m => by cases m
  | .lst _, _, _, _, _, m => by cases m
  | .ix _ _, _, _, _, _, m => by cases m
  | .sl _ _ _, _, _, _, _, m => by cases m
  | .rv _, _, _, _, _, m => by cases m
  | .call _ _, _, _, _, _, m => by cases m
  | .callv _ _, _, _, _, _, m => by cases m
  | .bi _ _, _, _, _, _, m => by cases m
  | .mt _ _ _, _, _, _, _, m => by cases m
  | .isi _ _, _, _, _, _, m => by cases m
  | .comp _ _ _ _ _ _, _, _, _, _, m => by cases m
theorem sT : ∀ (a : E) (X : Cx) (W : WX) (x : Expr), Good X k g W → mT X.N g.df a X.env.scope x = true → PTx X W g a x
  | .and a b, X, W, x, h, m => by
    unfold mT at m
    split at m
    · rw [Bool.and_eq_true] at m
      exact (w_and (sT a X W _ h m.1) (sW b X W _ h m.2)).pt
    · cases m
  | .or a b, X, W, x, h, m => by
    unfold mT at m
    split at m
    · rw [Bool.and_eq_true] at m
      exact (w_or (sT a X W _ h m.1) (sW b X W _ h m.2)).pt
    · cases m
  | .no a, X, W, x, h, m => by
    unfold mT at m
    split at m
    · exact t_no (sT a X W _ h m)
    · cases m
  | .cmp op a b, X, W, x, h, m => by
    unfold mT at m
    split at m
    · rw [Bool.and_eq_true, Bool.and_eq_true, Bool.and_eq_true, beq_iff_eq] at m
      obtain ⟨⟨⟨rfl, hn⟩, m1⟩, m2⟩ := m
      exact t_cmp h hn (sE a X W _ h m1) (sE b X W _ h m2)
    · cases m
  | .chain op op' a b c, X, W, x, h, m => by
    unfold mT at m
    split at m
    · rw [Bool.and_eq_true, Bool.and_eq_true, Bool.and_eq_true, Bool.and_eq_true, Bool.and_eq_true, beq_iff_eq, beq_iff_eq] at m
      obtain ⟨⟨⟨⟨⟨rfl, rfl⟩, hn⟩, m1⟩, m2⟩, m3⟩ := m
      exact t_chain h hn (sE a X W _ h m1) (sE b X W _ h m2) (sE c X W _ h m3)
    · cases m
  | .var i, X, W, x, h, m => by
    unfold mT at m
    split at m
    · rw [Bool.and_eq_true, Bool.and_eq_true, beq_iff_eq] at m
      exact t_var m.1.1 m.1.2 m.2
    · cases m
  | .call f as, X, W, x, h, m => by
    unfold mT at m
    split at m
    · rw [Bool.and_eq_true, Bool.and_eq_true, Bool.and_eq_true, Bool.and_eq_true, beq_iff_eq] at m
      obtain ⟨⟨⟨⟨hd, rfl⟩, hg⟩, ok⟩, m⟩ := m
      exact t_call h hd hg ok (mEs_ns m) (sEs as X W _ h m).1
    · cases m
  | .bi f as, X, W, x, h, m => by
    unfold mT at m
    split at m
    · rw [Bool.and_eq_true, Bool.and_eq_true, Bool.and_eq_true, beq_iff_eq] at m
      obtain ⟨⟨⟨hp, rfl⟩, hg⟩, m⟩ := m
      exact t_bi hp h hg (mEs_ns m) (sEs as X W _ h m).1
    · cases m
  | .isi a t, X, W, x, h, m => by
    unfold mT at m
    split at m
    · rw [Bool.and_eq_true, Bool.and_eq_true, Bool.and_eq_true, Bool.and_eq_true, Bool.and_eq_true, Bool.and_eq_true, beq_iff_eq, beq_iff_eq] at m
      obtain ⟨⟨⟨⟨⟨⟨h1, rfl⟩, hg⟩, hg2⟩, rfl⟩, hn⟩, m⟩ := m
      have ht : t ≠ .lt := fun z => by rw [z] at h1; cases h1
      exact t_isi h ht hg hg2 hn (sE a X W _ h m)
    · rw [Bool.and_eq_true, Bool.and_eq_true, Bool.and_eq_true, Bool.and_eq_true, Bool.and_eq_true, Bool.and_eq_true, Bool.and_eq_true, Bool.and_eq_true, beq_iff_eq, beq_iff_eq, beq_iff_eq] at m
      obtain ⟨⟨⟨⟨⟨⟨⟨⟨ht, rfl⟩, hg⟩, hg2⟩, hg3⟩, rfl⟩, rfl⟩, hn⟩, m⟩ := m
      have : t = .lt := by cases t <;> first | rfl | cases ht
      subst this
      exact t_isl h hg hg2 hg3 hn (sE a X W _ h m)
    · cases m
  | .nil, _, _, _, _, m => by cases m
  | .cons _ _, _, _, _, _, m => by cases m
  | .one _, _, _, _, _, m => by cases m
  | .con _, _, _, _, _, m => by cases m
  | .fref _, _, _, _, _, m => by cases m
  | .int _, _, _, _, _, m => by cases m
  | .bl _, _, _, _, _, m => by cases m
  | .non, _, _, _, _, m => by cases m
  | .str _, _, _, _, _, m => by cases m
  | .bin _ _ _, _, _, _, _, m => by cases m
  | .neg _, _, _, _, _, m => by cases m
  | .ite _ _ _, _, _, _, _, m => by cases m
  | .tup _, _, _, _, _, m => by cases m
  | .lst _, _, _, _, _, m => by cases m
  | .ix _ _, _, _, _, _, m => by cases m
  | .sl _ _ _, _, _, _, _, m => by cases m
  | .rv _, _, _, _, _, m => by cases m
  | .callv _ _, _, _, _, _, m => by cases m
  | .mt _ _ _, _, _, _, _, m => by cases m
  | .comp _ _ _ _ _ _, _, _, _, _, m => by cases m
theorem sW : ∀ (a : E) (X : Cx) (W : WX) (x : Expr), Good X k g W → mW X.N g.df a X.env.scope x = true → PWx X W g a x
  | .and a b, X, W, x, h, m => by
    unfold mW at m
    split at m
    · rw [Bool.and_eq_true] at m
      exact w_and (sT a X W _ h m.1) (sW b X W _ h m.2)
    · cases m
  | .or a b, X, W, x, h, m => by
    unfold mW at m
    split at m
    · rw [Bool.and_eq_true] at m
      exact w_or (sT a X W _ h m.1) (sW b X W _ h m.2)
    · cases m
  | .one a, X, W, x, h, m => by
    unfold mW at m
    split at m
    · rename_i op p pos
      cases op with
      | And => exact pw_and1 (sT a X W _ h m)
      | Or => exact pw_or1 (sT a X W _ h m)
    · cases m
  | .nil, _, _, _, _, m => by cases m
  | .cons _ _, _, _, _, _, m => by cases m
  | .var _, _, _, _, _, m => by cases m
  | .no _, _, _, _, _, m => by cases m
  | .cmp _ _ _, _, _, _, _, m => by cases m
  | .chain _ _ _ _ _, _, _, _, _, m => by cases m
  | .call _ _, _, _, _, _, m => by cases m
  | .bi _ _, _, _, _, _, m => by cases m
  | .isi _ _, _, _, _, _, m => by cases m
  | .con _, _, _, _, _, m => by cases m
  | .fref _, _, _, _, _, m => by cases m
  | .int _, _, _, _, _, m => by cases m
  | .bl _, _, _, _, _, m => by cases m
  | .non, _, _, _, _, m => by cases m
  | .str _, _, _, _, _, m => by cases m
  | .bin _ _ _, _, _, _, _, m => by cases m
  | .neg _, _, _, _, _, m => by cases m
  | .ite _ _ _, _, _, _, _, m => by cases m
  | .tup _, _, _, _, _, m => by cases m
  | .lst _, _, _, _, _, m => by cases m
  | .ix _ _, _, _, _, _, m => by cases m
  | .sl _ _ _, _, _, _, _, m => by cases m
  | .rv _, _, _, _, _, m => by cases m
  | .callv _ _, _, _, _, _, m => by cases m
  | .mt _ _ _, _, _, _, _, m => by cases m
  | .comp _ _ _ _ _ _, _, _, _, _, m => by cases m
end
end
end Py

namespace Py
open PySem PySem.Spec PyProof.Rows L2
theorem locB_ok {sc : Scope} {x : Str} (h : locB sc x = true) : Loc sc x := by
  unfold locB at h
  split at h
  · exact .inl (by assumption)
  · exact .inr (by assumption)
  · cases h
section
variable {K : PySem.W.Frag} {mg : Str → Option Value} {W : WX} {g : G} {io : List Addr} {H : Hp} {s : Sto}
theorem kxa {σ : L2.St} {c : Str} {s : Sto} {io : List Addr} {H : Hp} (h : KxA mg W c s io H) : Kx mg W σ c s io H := fun C hc => h C σ hc
theorem Out.goS {α β : Type} {r : R α} {f : α → Sto → R β} {Q : KO β} {Q' : KO α} {σ : L2.St} (o : Out K mg (r.bind f) io H Q (KxA mg W)) (h : ∀ a s io' H', Stp io H io' H' → Rel K mg io' H' s → Out K mg (f a s) io' H' Q (KxA mg W) → Q' a s io' H') : Out K mg r io H Q' (Kx mg W σ) :=
  o.bind.imp h fun _ _ _ _ _ _ z => kxa z
end
theorem swaps_no {v : Expr} {t : Option Expr} {l : Nat} {env : PySem.Env} (h : isComp v = false) : swapsWith v t l env = pure false := by
  cases v <;> first | rfl | cases h
theorem swaps_sub {v a b : Expr} {p : Pos} {l : Nat} {env : PySem.Env} : swapsWithSole [.Subscript a b p] v l env = pure false := by
  cases v <;> rfl
theorem swaps_tup {v : Expr} {ts : List Expr} {n : Nat} {p : Pos} {l : Nat} {env : PySem.Env} : swapsWithSole [.Tuple ts n p] v l env = pure false := by
  cases v <;> rfl
theorem filter_lt {α β : Type} {f : α → Option β} : ∀ {l : List α}, (∃ x ∈ l, f x = none) → (l.filterMap f).length < l.length
  | [], h => by obtain ⟨x, hx, _⟩ := h; cases hx
  | y :: l, h => by
    have le : (l.filterMap f).length ≤ l.length := List.length_filterMap_le f l
    rw [List.filterMap_cons]
    cases hy : f y with
    | none => simp only [List.length_cons]; omega
    | some z =>
      obtain ⟨x, hx, hn⟩ := h
      rcases List.mem_cons.mp hx with e | e
      · rw [e, hy] at hn; cases hn
      · have := filter_lt ⟨x, e, hn⟩
        simp only [List.length_cons]
        omega
theorem sw_none {env : PySem.Env} {tg v : Expr} (h : swNone env.scope tg v = true) : swappedStores [tg] v env = pure none := by
  unfold swNone at h
  split at h
  · rename_i ts k p vs k' p'
    unfold swappedStores
    simp only
    split
    · rfl
    · split
      · rfl
      · split
        · rfl
        · rename_i h3
          split
          · rfl
          · rename_i h4
            exfalso
            rw [Bool.or_eq_true] at h
            rcases h with h | h
            · apply h3
              rw [Bool.or_eq_true]
              left
              rw [bne_iff_ne]
              refine Nat.ne_of_lt (filter_lt ?_)
              obtain ⟨t, ht, hn⟩ := List.any_eq_true.mp h
              refine ⟨t, ht, ?_⟩
              cases t <;> first | rfl | skip
              rename_i y py
              have hn : (!(env.scope.names.lookup y == some NameKind.local)) = true := hn
              have : (env.kindOf y == some NameKind.local) = false := by
                rw [Bool.not_eq_true'] at hn
                exact hn
              show (if (env.kindOf y == some NameKind.local && _) = true then _ else _) = none
              rw [this]
              rfl
            · exact h4 h
  · rename_i hne
    unfold swappedStores
    cases v <;> first | rfl | exact absurd rfl (hne _ _ _)
  · rfl
  · cases h
end Py

namespace Py
open PySem PySem.Spec PyProof.Rows L2
theorem not_two {x y : Str} (h : (x == y) = false) : (y == x) = false := by
  cases w : y == x with
  | false => rfl
  | true => rw [eq_of_beq w, beq_self_eq_true] at h; cases h
theorem sw_two {env : PySem.Env} {x y : Str} {px py pt p2 : Pos} {n m : Nat} {a b : Expr} (hk : env.scope.kind = .function) (hx : env.scope.names.lookup x = some .local) (hy : env.scope.names.lookup y = some .local) (hxy : (x == y) = false) (hl : (py.line == px.line) = true)
    (ha : noStar a = true) (hb : noStar b = true) (h1 : [a, b].all (foldedForSure 8) = false) (h2 : [a, b].all (constantsAlone 8) = false) :
    swappedStores [.Tuple [.Name x px, .Name y py] n pt] (.Tuple [a, b] m p2) env = pure (some [x, y]) := by
  have hbk : env.blockKind = .function := by unfold Env.blockKind; rw [hk]; rfl
  have kx : env.kindOf x = some .local := hx
  have ky : env.kindOf y = some .local := hy
  have st : ∀ f : Expr → Bool, (∀ q, noStar q = true → f q = false) → [a, b].any f = false := fun f h => by
    show (f a || (f b || false)) = false
    rw [h a ha, h b hb]
    rfl
  have hyx := not_two hxy
  unfold swappedStores
  simp only [hbk, List.length_cons, List.length_nil, List.head?_cons, Option.map_some, Option.getD_some, Expr.pos, List.filterMap_cons, List.filterMap_nil, kx, ky, hl, beq_self_eq_true, Bool.and_self, Bool.and_true, if_true, h1, h2, List.eraseDups_cons, List.eraseDups_nil, List.filter_cons, List.filter_nil, hyx, Bool.not_false, ↓reduceIte]
  rw [if_neg (by decide), if_neg (by rw [st _ fun q h => by cases q <;> first | rfl | cases h]; exact Bool.false_ne_true)]
  rfl
theorem sw_three {env : PySem.Env} {x y z : Str} {px py pz pt p2 : Pos} {n m : Nat} {a b c : Expr} (hk : env.scope.kind = .function) (hx : env.scope.names.lookup x = some .local) (hy : env.scope.names.lookup y = some .local) (hz : env.scope.names.lookup z = some .local)
    (hxy : (x == y) = false) (hxz : (x == z) = false) (hyz : (y == z) = false) (hl : (py.line == px.line) = true) (hl2 : (pz.line == px.line) = true)
    (ha : noStar a = true) (hb : noStar b = true) (hc : noStar c = true) (h1 : [a, b, c].all (foldedForSure 8) = false) (h2 : [a, b, c].all (constantsAlone 8) = false) :
    swappedStores [.Tuple [.Name x px, .Name y py, .Name z pz] n pt] (.Tuple [a, b, c] m p2) env = pure (some [x, y, z]) := by
  have hbk : env.blockKind = .function := by unfold Env.blockKind; rw [hk]; rfl
  have kx : env.kindOf x = some .local := hx
  have ky : env.kindOf y = some .local := hy
  have kz : env.kindOf z = some .local := hz
  have st : ∀ f : Expr → Bool, (∀ q, noStar q = true → f q = false) → [a, b, c].any f = false := fun f h => by
    show (f a || (f b || (f c || false))) = false
    rw [h a ha, h b hb, h c hc]
    rfl
  have hyx := not_two hxy
  have hzx := not_two hxz
  have hzy := not_two hyz
  unfold swappedStores
  simp only [hbk, List.length_cons, List.length_nil, List.head?_cons, Option.map_some, Option.getD_some, Expr.pos, List.filterMap_cons, List.filterMap_nil, kx, ky, kz, hl, hl2, beq_self_eq_true, Bool.and_self, Bool.and_true, if_true, h1, h2, List.eraseDups_cons, List.eraseDups_nil, List.filter_cons, List.filter_nil, hyx, hzx, hzy, Bool.not_false, ↓reduceIte]
  rw [if_neg (by decide), if_neg (by rw [st _ fun q h => by cases q <;> first | rfl | cases h]; exact Bool.false_ne_true)]
  rfl
section
variable {k : Nat} {g : G} {W : WX} {X : Cx}
mutual
theorem sTa (h : GoodS X k g W) : ∀ (t : Ta) (x : Expr), mTa X.N g.df X.env.scope t x = true → PG X x (tTa X.K X.mg W g t)
  | .name i, x, m => by
    unfold mTa at m
    split at m
    · rw [Bool.and_eq_true, beq_iff_eq] at m
      exact PG.imp (pg_name h.nd m.1 (locB_ok m.2) (.inl (h.fn _))) fun v σ H Q ⟨io, e, s, w, hs, r, kw, o⟩ => o.here r _ (hs.set i kw)
    · cases m
  | .sub o i, x, m => by
    unfold mTa at m
    split at m
    · rw [Bool.and_eq_true, Bool.and_eq_true] at m
      obtain ⟨⟨hq, m1⟩, m2⟩ := m
      rename_i p q pos
      refine PG.imp (pg_sub (sE o X W p h.toGood m1) (sE i X W q h.toGood m2) set_rule (by intro _; cases q <;> first | rfl | cases hq)) fun v σ H Q ⟨io, e, s, w, hs, r, kw, ot⟩ => ?_
      refine ⟨io, e, s, hs, r, Out.goS ot fun ow s1 io1 H1 t1 r1 o1 ov kov => ⟨io1, e, s1, hs.mono r t1, r1, Out.goS o1 fun iw s2 io2 H2 t2 r2 o2 iv kiv => ?_⟩⟩
      exact ⟨io2, s2, ow, iw, w, _, r1.mono t2 _ _ kov, kiv, r1.mono t2 _ _ (r.mono t1 _ _ kw), r2, Out.go o2 fun u s3 io3 H3 t3 r3 o3 => o3.here r3 σ (((hs.mono r t1).mono r1 t2).mono r2 t3)⟩
    · cases m
  | .tup ts, x, m => by
    unfold mTa at m
    split at m
    · rename_i es n pos
      obtain ⟨pg, l, st⟩ := sTas h ts es m
      refine PG.imp (PG.or (pg_tup h.calm pg l st) (pg_lst h.calm pg l st)) fun v σ H Q ⟨io, e, s, w, hs, r, kw, o⟩ => ?_
      cases w with
      | tup ws =>
        obtain ⟨a, vs, rfl, k1, k2⟩ := kw
        have o : Out X.K X.mg (if ws.length = taN ts then asgs g ts ws e s else .bad) io H _ (KxA X.mg W) := o
        by_cases hl : ws.length = taN ts
        · rw [if_pos hl] at o
          exact .inl ⟨a, vs, rfl, k1, by rw [← k2.length]; exact hl, io, e, s, ws, hs, r, k2, o⟩
        · rw [if_neg hl] at o
          exact o.elim
      | loc n =>
        have o : Out X.K X.mg (match s[n]? with | some ws => (if ws.length = taN ts then asgs g ts ws e s else .bad) | none => .bad : R Sl) io H _ (KxA X.mg W) := o
        cases hn : s[n]? with
        | none => rw [hn] at o; exact o.elim
        | some ws =>
          rw [hn] at o
          have o : Out X.K X.mg (if ws.length = taN ts then asgs g ts ws e s else .bad) io H _ (KxA X.mg W) := o
          by_cases hl : ws.length = taN ts
          · rw [if_pos hl] at o
            obtain ⟨a, vs, rfl, k1, k2⟩ := lsq_sq r kw (show lsq (.loc n) s = some ws from hn)
            exact .inr ⟨a, vs, rfl, k1, by rw [← k2.length]; exact hl, io, e, s, ws, hs, r, k2, o⟩
          · rw [if_neg hl] at o
            exact o.elim
      | non => exact False.elim o
      | bl _ => exact False.elim o
      | int _ => exact False.elim o
      | str _ => exact False.elim o
      | cl _ => exact False.elim o
      | fn _ => exact False.elim o
    · cases m
  | .nil, _, m => by cases m
  | .cons _ _, _, m => by cases m
theorem sTas (h : GoodS X k g W) : ∀ (ts : Ta) (xs : List Expr), mTas X.N g.df X.env.scope ts xs = true → PGs X xs (tTas X.K X.mg W g ts) ∧ (assignEach xs X.env).length = taN ts ∧ (assignEach xs X.env).findIdx? (·.1) = none
  | .nil, xs, m => by
    unfold mTas at m
    split at m
    · refine ⟨PGs.imp pgs_nil fun v σ H Q ⟨io, e, s, ws, hs, r, kw, o⟩ => ?_, rfl, rfl⟩
      cases ws with
      | nil => exact ⟨kw, o.here r σ hs⟩
      | cons _ _ => exact False.elim o
    · cases m
  | .cons t ts, xs, m => by
    unfold mTas at m
    split at m
    · rename_i y ys
      rw [Bool.and_eq_true, Bool.and_eq_true] at m
      obtain ⟨p, l, st⟩ := sTas h ts ys m.2
      obtain ⟨a1, a2, a3⟩ := assignEach_ns (es := ys) (env := X.env) m.1.1
      refine ⟨PGs.imp (pgs_cons (sTa h t y m.1.2) p a1) fun v σ H Q ⟨io, e, s, ws, hs, r, kw, o⟩ => ?_, by rw [a2, l]; rfl, a3 st⟩
      cases ws with
      | nil => exact False.elim o
      | cons w ws =>
        obtain ⟨v1, vr, rfl, k1, k2⟩ := kw
        refine ⟨v1, vr, rfl, io, e, s, w, hs, r, k1, Out.go o fun e1 s1 io1 H1 t1 r1 o1 σ1 hs1 => ⟨io1, e1, s1, ws, hs1, r1, r.monos t1 _ _ k2, o1⟩⟩
    · cases m
  | .name _, _, m => by cases m
  | .sub _ _, _, m => by cases m
  | .tup _, _, m => by cases m
end
theorem set_read {a : E} {i : Nat} {kb : B} {D : Ends} {σ : L2.St} {H : Hp} {io : List Addr} {e : Sl} {s : Sto} (hs : RSl X.K X.mg io H e σ) (r : Rel X.K X.mg io H s)
    (o : Out X.K X.mg ((ev g a e s).bind fun w s1 => exS g kb (e.set i (some w)) s1) io H (KFl X.K X.mg D) (KxA X.mg W)) : tAsg (tE X.K X.mg W g a) (gName i) { D with nx := tB X.K X.mg W g kb D } σ H :=
  ⟨io, e, s, hs, r, Out.goS o fun w s1 io1 H1 t1 r1 o1 v kv => ⟨io1, _, s1, (hs.mono r t1).set i kv, r1, o1⟩⟩
theorem if_read {c : E} {t f kb : B} {D : Ends} {σ : L2.St} {H : Hp} {io : List Addr} {e : Sl} {s : Sto} (hs : RSl X.K X.mg io H e σ) (r : Rel X.K X.mg io H s)
    (o : Out X.K X.mg ((evT g c e s).bind fun b s1 => thn (if b then exS g t e s1 else exS g f e s1) (exS g kb)) io H (KFl X.K X.mg D) (KxA X.mg W)) :
    tIfS (tT X.K X.mg W g c) (tB X.K X.mg W g t) (tB X.K X.mg W g f) { D with nx := tB X.K X.mg W g kb D } σ H := by
  refine ⟨io, e, s, hs, r, Out.goS o fun b s1 io1 H1 t1 r1 o1 b' hb => ?_⟩
  subst hb
  cases b' with
  | true => exact iteT ⟨io1, e, s1, hs.mono r t1, r1, o1.thn⟩
  | false => exact iteF ⟨io1, e, s1, hs.mono r t1, r1, o1.thn⟩
theorem turn_read {r : R Fl} {again : Sl → Sto → R Fl} {kb : B} {D : Ends} {N : L2.St → Hp → Prop} {io : List Addr} {H : Hp}
    (o : Out X.K X.mg (thn (r.bind fun f s2 => match f with
      | .nx e' => again e' s2
      | .ct e' => again e' s2
      | .bk e' => .ok (.nx e') s2
      | .rt w => .ok (.rt w) s2) (exS g kb)) io H (KFl X.K X.mg D) (KxA X.mg W))
    (hN : ∀ e' s' io' H' σ', Stp io H io' H' → Rel X.K X.mg io' H' s' → RSl X.K X.mg io' H' e' σ' → Out X.K X.mg (thn (again e' s') (exS g kb)) io' H' (KFl X.K X.mg D) (KxA X.mg W) → N σ' H') :
    Out X.K X.mg r io H (KFl X.K X.mg { nx := N, rt := D.rt, bk := tB X.K X.mg W g kb D, ct := N }) (KxA X.mg W) := by
  unfold thn at o
  rw [R.bind_assoc] at o
  refine Out.go o fun f s1 io1 H1 t1 r1 o1 => ?_
  cases f with
  | nx e => exact fun σ hs => hN e s1 io1 H1 σ t1 r1 hs o1
  | ct e => exact fun σ hs => hN e s1 io1 H1 σ t1 r1 hs o1
  | bk e => exact fun σ hs => ⟨io1, e, s1, hs, r1, o1⟩
  | rt w => exact o1.here r1
theorem while_read {c : E} {b kb : B} {D : Ends} {σ : L2.St} {H : Hp} {io : List Addr} {e : Sl} {s : Sto} (hs : RSl X.K X.mg io H e σ) (r : Rel X.K X.mg io H s)
    (o : Out X.K X.mg (thn (whileL (evT g c) (exS g b) big e s) (exS g kb)) io H (KFl X.K X.mg D) (KxA X.mg W)) :
    tWhile (tT X.K X.mg W g c) (tB X.K X.mg W g b) { D with nx := tB X.K X.mg W g kb D } σ H := by
  refine ⟨fun m σ H => ∃ io e s, RSl X.K X.mg io H e σ ∧ Rel X.K X.mg io H s ∧ Out X.K X.mg (thn (whileL (evT g c) (exS g b) m e s) (exS g kb)) io H (KFl X.K X.mg D) (KxA X.mg W), ⟨big, io, e, s, hs, r, o⟩, ?_⟩
  rintro m σ H ⟨io, e, s, hs, r, o⟩
  cases m with
  | zero => exact o.elim
  | succ m =>
    have o : Out X.K X.mg (thn ((evT g c e s).bind fun t s1 => if t then (exS g b e s1).bind fun f s2 => match f with
      | .nx e' => whileL (evT g c) (exS g b) m e' s2
      | .ct e' => whileL (evT g c) (exS g b) m e' s2
      | .bk e' => .ok (.nx e') s2
      | .rt w => .ok (.rt w) s2
      else .ok (.nx e) s1) (exS g kb)) io H (KFl X.K X.mg D) (KxA X.mg W) := o
    unfold thn at o
    rw [R.bind_assoc] at o
    refine ⟨io, e, s, hs, r, Out.goS o fun t s1 io1 H1 t1 r1 o1 t' ht => ?_⟩
    subst ht
    cases t' with
    | false => exact iteF ⟨io1, e, s1, hs.mono r t1, r1, o1⟩
    | true =>
      refine iteT ⟨fun σ' H' => ∃ m', m' < m + 1 ∧ ∃ io e s, RSl X.K X.mg io H' e σ' ∧ Rel X.K X.mg io H' s ∧ Out X.K X.mg (thn (whileL (evT g c) (exS g b) m' e s) (exS g kb)) io H' (KFl X.K X.mg D) (KxA X.mg W), fun σ' H' z => z, io1, e, s1, hs.mono r t1, r1, ?_⟩
      exact turn_read o1 fun e' s' io' H' σ' t2 r2 hs2 o2 => ⟨m, Nat.lt_succ_self m, io', e', s', hs2, r2, o2⟩
theorem for_read {t : Tn} {ik : Ik} {as : E} {b kb : B} {D : Ends} {σ : L2.St} {H : Hp} {io : List Addr} {e : Sl} {s : Sto} (hs : RSl X.K X.mg io H e σ) (r : Rel X.K X.mg io H s)
    (o : Out X.K X.mg ((evs g as e s).bind fun ws s1 => match srcOf ik ws s1 with
      | none => .bad
      | some src => thn (forL (fun w e s => match tnSet t w e with
        | none => .bad
        | some e' => exS g b e' s) big src 0 e s1) (exS g kb)) io H (KFl X.K X.mg D) (KxA X.mg W)) :
    tFor (tI X.K X.mg W g ik as) (gOf X.K t) (tB X.K X.mg W g b) { D with nx := tB X.K X.mg W g kb D } σ H := by
  refine ⟨io, e, s, hs, r, Out.goS o fun ws s1 io1 H1 t1 r1 o1 => ?_⟩
  cases hsrc : srcOf ik ws s1 with
  | none => rw [hsrc] at o1; exact o1.elim
  | some src =>
    rw [hsrc] at o1
    refine ⟨src, rfl, fun J jr => ?_⟩
    have o1 : Out X.K X.mg (thn (forL (fun w e s => match tnSet t w e with
        | none => .bad
        | some e' => exS g b e' s) big src 0 e s1) (exS g kb)) io1 H1 (KFl X.K X.mg D) (KxA X.mg W) := o1
    refine ⟨fun i m σ H => ∃ io2 e2 s2, Stp io1 H1 io2 H ∧ RSl X.K X.mg io2 H e2 σ ∧ Rel X.K X.mg io2 H s2 ∧ Out X.K X.mg (thn (forL (fun w e s => match tnSet t w e with
        | none => .bad
        | some e' => exS g b e' s) m src i e2 s2) (exS g kb)) io2 H (KFl X.K X.mg D) (KxA X.mg W), ⟨big, io1, e, s1, .refl, hs.mono r t1, r1, o1⟩, ?_⟩
    rintro i m σ2 H2 ⟨io2, e2, s2, t2, hs2, r2, o2⟩
    cases m with
    | zero => exact o2.elim
    | succ m =>
      have jr' := jr io2 H2 s2 t2 r2 i
      have o2 : Out X.K X.mg (thn (match itAt src i s2 with
        | none => .bad
        | some none => .ok (.nx e2) s2
        | some (some w) => (match tnSet t w e2 with
          | none => .bad
          | some e' => exS g b e' s2 : R Fl).bind fun fl s3 => match fl with
          | .nx e' => forL (fun w e s => match tnSet t w e with
            | none => .bad
            | some e' => exS g b e' s) m src (i + 1) e' s3
          | .ct e' => forL (fun w e s => match tnSet t w e with
            | none => .bad
            | some e' => exS g b e' s) m src (i + 1) e' s3
          | .bk e' => .ok (.nx e') s3
          | .rt w => .ok (.rt w) s3) (exS g kb)) io2 H2 (KFl X.K X.mg D) (KxA X.mg W) := o2
      cases hit : itAt src i s2 with
      | none => rw [hit] at o2; exact o2.elim
      | some z =>
        rw [hit] at o2 jr'
        cases z with
        | none => exact .inl ⟨jr', io2, e2, s2, hs2, r2, o2⟩
        | some w =>
          refine .inr ⟨jr'.1, fun σ' H' => ∃ m', m' < m + 1 ∧ ∃ io2 e2 s2, Stp io1 H1 io2 H' ∧ RSl X.K X.mg io2 H' e2 σ' ∧ Rel X.K X.mg io2 H' s2 ∧ Out X.K X.mg (thn (forL (fun w e s => match tnSet t w e with
            | none => .bad
            | some e' => exS g b e' s) m' src (i + 1) e2 s2) (exS g kb)) io2 H' (KFl X.K X.mg D) (KxA X.mg W), fun σ' H' z => z, fun x H' hy => ?_⟩
          obtain ⟨st, rl, kx⟩ := jr'.2 x H' hy
          cases ht : tnSet t w e2 with
          | none =>
            have o2 : Out X.K X.mg (thn ((match tnSet t w e2 with
              | none => .bad
              | some e' => exS g b e' s2 : R Fl).bind _) (exS g kb)) io2 H2 (KFl X.K X.mg D) (KxA X.mg W) := o2
            rw [ht] at o2
            exact o2.elim
          | some e' =>
            have o2 : Out X.K X.mg (thn ((match tnSet t w e2 with
              | none => .bad
              | some e' => exS g b e' s2 : R Fl).bind fun fl s3 => match fl with
              | .nx e' => forL (fun w e s => match tnSet t w e with
                | none => .bad
                | some e' => exS g b e' s) m src (i + 1) e' s3
              | .ct e' => forL (fun w e s => match tnSet t w e with
                | none => .bad
                | some e' => exS g b e' s) m src (i + 1) e' s3
              | .bk e' => .ok (.nx e') s3
              | .rt w => .ok (.rt w) s3) (exS g kb)) io2 H2 (KFl X.K X.mg D) (KxA X.mg W) := o2
            rw [ht] at o2
            refine gOf_ok rl t w x e2 e' σ2 _ (hs2.mono r2 st) kx ht fun σ3 hs3 _ => ⟨io2, e', s2, hs3, rl, ?_⟩
            exact turn_read (o2.after st) fun e'' s' io' H'' σ' t3 r3 hs4 o3 => ⟨m, Nat.lt_succ_self m, io', e'', s', (t2.trans st).trans t3, hs4, r3, o3⟩
theorem assign1 {tg : Expr} {env : PySem.Env} (h : noStar tg = true) : (assignEach [tg] env).map (·.2) = [assign tg env] := (assignEach_ns (es := []) h).1
theorem lc_set {own : List (Str × Nat)} {tg : Tn} {ik : Ik} {as cond elt : E} {i : Nat} {y : Str} {py spos : Pos} {v : Expr} (h : GoodS X k g W) (hN : X.N[i]? = some y) (hy : lcSet X.env.scope y py v = true) (m : mE X.N g.df (.comp own tg ik as cond elt) X.env.scope v = true) :
    PS X (.Assign [.Name y py] v spos) (tAsg (tE X.K X.mg W g (.comp own tg ik as cond elt)) (gName i)) := by
  unfold mE at m
  split at m
  · rw [Bool.and_eq_true, Bool.and_eq_true, Bool.and_eq_true, Bool.and_eq_true, Bool.and_eq_true, Bool.and_eq_true, Bool.and_eq_true, beq_iff_eq] at m
    obtain ⟨⟨⟨⟨⟨⟨⟨rfl, m1⟩, m2⟩, m3⟩, m4⟩, m5⟩, m6⟩, m7⟩ := m
    rename_i el t iter ifs scope pos
    have hy : ((py.line == pos.line) && (scope.names.any fun (n, k) => n == y && (k == .local || k == .cell)) == false && X.env.scope.names.lookup y == some .local) = true := hy
    rw [Bool.and_eq_true, Bool.and_eq_true] at hy
    have G := h.toGood
    have hi := sI G (fun es => sEs as X W es G) m5
    have he : ∀ (s : Shared) (H : Hp) (C : Addr) (cl : List (Str × Addr)) (fp : List Addr), PE (X.blk s H scope (compEnvC scope cl C X.env) fp) el (tE X.K X.mg (fun _ _ _ _ => False) g elt) := fun s H C cl fp => sE elt (X.blk s H scope (compEnvC scope cl C X.env) fp) _ el (G.blk s H scope _ fp) m7
    have hg : ∀ (s : Shared) (H : Hp) (C : Addr) (cl : List (Str × Addr)) (fp : List Addr), PG (X.blk s H scope (compEnvC scope cl C X.env) fp) t (gOf X.K tg) := fun s H C cl fp => sG (X := X.blk s H scope (compEnvC scope cl C X.env) fp) h.calm h.nd (fun _ z => z) tg t m2
    have hc : ∀ (s : Shared) (H : Hp) (C : Addr) (cl : List (Str × Addr)) (fp : List Addr), PTs (X.blk s H scope (compEnvC scope cl C X.env) fp) ifs (tT X.K X.mg (fun _ _ _ _ => False) g cond) := fun s H C cl fp => by
      split at m6
      · have : cond = .nil := by cases cond <;> first | rfl | cases m6
        subst this
        exact t_nil (X := X.blk s H scope (compEnvC scope cl C X.env) fp)
      · exact pts_one (sT cond (X.blk s H scope (compEnvC scope cl C X.env) fp) _ _ (G.blk s H scope _ fp) m6)
      · cases m6
    refine ⟨fun pins st σ H D I q => (ps_setLc (i := i) h.calm h.nd hN (eq_of_beq hy.2) (sw_true h.kind (eq_of_beq hy.2) hy.1.1 (eq_of_beq hy.1.2)) hi (blkOk_by m1) hg hc he (noset_fold m4)).run pins st σ H D I ?_⟩
    exact e_comp G m1 m2 m3 m4 hi hc he σ H _ q
  · cases m
theorem wcB_ok {sc : Scope} {n : Str} {e : Expr} (h : wcB sc n e = true) : ∃ p1 p2 pos, e = .Call (.Name "_law_which" p1) [.Name n p2] [] pos ∧ glB sc "_law_which" = true := by
  unfold wcB at h
  split at h
  · simp only [Bool.and_eq_true, beq_iff_eq] at h
    obtain ⟨⟨rfl, h1⟩, rfl⟩ := h
    exact ⟨_, _, _, rfl, h1⟩
  · cases h
theorem pe_wc {a C : Addr} {oe : Obj} {pn : List (Addr × Obj)} {j : Nat} {n : Str} {e : Expr} (h : GoodS X k g W) (wh : Wh X.prog X.w X.K X.mg X.base) (hN : X.N[j]? = some n) (hl : X.env.scope.names.lookup n = some .local) (ok : okN n = true)
    (hz : Zc (.ref C) none oe) (hf : ∃ vs, oe.data = .fields vs) (m : wcB X.env.scope n e = true) :
    PE (X.suite a ((a, oe) :: pn)) e (fun σ H Q => σ[j]? = some (some (.ref a)) ∧ spWh X.mg C a [.ref a] H Q (fun _ _ _ => False)) ∧ noStar e = true := by
  obtain ⟨p1, p2, pos, rfl, hg⟩ := wcB_ok m
  obtain ⟨f, fd, hm, hk, hb, F⟩ := wh.fn
  have pv : PE (X.suite a ((a, oe) :: pn)) (.Name n p2) (tVar j) := pe_var (X := X.suite a ((a, oe) :: pn)) hN (.inl hl) (okN_ok ok).1 (okN_ok ok).2
  have hr : L2H.RoomH 1 (X.suite a ((a, oe) :: pn)).A := by
    have h1 := h.seer.dp
    have h2 := h.seer.un
    have e : Builtin.pylongFrames = 100 := rfl
    rw [e] at h1
    exact ⟨by show X.A.depth + 3 * 1 + 5 < _; omega, by show X.A.units + 16 * 1 + 200 < _; omega⟩
  refine ⟨PE.imp (pe_callW (X := X.suite a ((a, oe) :: pn)) (CX := L2.CX X.prog X.w) (k := 1) (f := f) (a := a) (D := C) (oe := oe) (E := fun _ _ _ _ => False) F hr rfl hz hf List.mem_cons_self (glB_ok (X := X) hg) hm hk hb ?_ (pa_cons pv pa_nil rfl) (by decide) rfl rfl) fun σ H Q ⟨h1, h2⟩ => ⟨_, h1, h2⟩, rfl⟩
  intro σ pins H s e s' I c
  obtain ⟨_, _, _, _, _, _, _, _, _, _, _, _, z⟩ := c
  exact z.elim
theorem mg_inj {mg : Str → Option Value} {c : Str} {C D : Addr} (h : mg c = some (.ref C)) (h' : mg c = some (.ref D)) : C = D := by
  rw [h] at h'
  cases h'
  rfl
theorem ps_tryr {j : Nat} {t : Tk} {e : E} {f : Sf} {bs su : Stmt} {n : Str} {np pos pos' : Pos} {R : Addr} (h : GoodS X k g W) (wh : Wh X.prog X.w X.K X.mg X.base) (hR : X.mg "RestError" = some (.ref R)) (hgR : glB X.env.scope "RestError" = true)
    (hN : X.N[j]? = some n) (hl : X.env.scope.names.lookup n = some .local) (ok : okN n = true) (mt : mTk X.N g.df X.env.scope t e bs = true) (ms : mSf X.N X.env.scope n f su = true) :
    PS X (.Try [bs] [.ExceptHandler (some (.Name "RestError" np)) (some n) [su] pos'] [] [] pos) (fun D σ H => tTk X.K X.mg g t e (wAs X.K (.ref R) j (tsf X.mg j f) W D) D σ H) := by
  refine ps_try_as (tb := fun W' => tTk X.K X.mg g t e W') (ts := tsf X.mg j f) h.stk h.frm h.nd hN hl ⟨glB_ok hgR, by decide, .inl hR⟩ h.tk (fun W' pn xe tk ow => ?_) fun a oe cls d pn hz hf => ⟨fun pins s σ H D I q => ?_⟩
  · have G : GoodS (X.tr pn xe) k g W' := { calm := h.calm, room := h.room, nd := h.nd, tk := tk, mo := h.mo, seer := ⟨h.seer.at_, h.seer.dp, h.seer.un⟩, kind := h.kind, own := ow, fn := h.fn, stk := h.stk, frm := h.frm }
    cases t with
    | set i =>
      simp only [mTk] at mt
      split at mt
      · simp only [Bool.and_eq_true, beq_iff_eq, Bool.not_eq_true'] at mt
        obtain ⟨⟨⟨m1, m2⟩, m3⟩, m4⟩ := mt
        exact pss_one (ps_set (X := X.tr pn xe) (i := i) h.nd m1 (locB_ok m2) (sE e (X.tr pn xe) W' _ G.toGood m4) (swaps_no m3) (.inl (h.fn _)))
      · cases mt
    | ret =>
      simp only [mTk] at mt
      split at mt
      · exact pss_one (ps_ret (sE e (X.tr pn xe) W' _ G.toGood mt))
      · cases mt
    | exp =>
      simp only [mTk] at mt
      split at mt
      · simp only [Bool.and_eq_true, Bool.not_eq_true'] at mt
        exact pss_one (ps_expr (sE e (X.tr pn xe) W' _ G.toGood mt.2) (swaps_no mt.1))
      · cases mt
  · obtain ⟨C, c, x, rfl, rfl, hw, hc, hs, q⟩ := q
    have wc : ∀ {ce : Expr}, wcB X.env.scope n ce = true → PE (X.suite a ((a, oe) :: pn)) ce (fun σ H Q => σ[j]? = some (some (.ref a)) ∧ ∀ H', (∀ b o, H b = some o → H' b = some o) → Q (.str x) H') ∧ noStar ce = true := fun {ce} m => by
      obtain ⟨p1, p2⟩ := pe_wc (pn := pn) h wh hN hl ok hz hf m
      exact ⟨PE.imp p1 fun σ H Q z => ⟨z.1, rfl, c, x, hw, hc, z.2⟩, p2⟩
    cases f with
    | ret =>
      simp only [mSf] at ms
      split at ms
      · simp only [Bool.and_eq_true, beq_iff_eq] at ms
        obtain ⟨rfl, ms⟩ := ms
        obtain ⟨p1, p2⟩ := wc ms
        exact (pss_one (ps_ret (pe_tup (pa_cons pe_str (pa_cons p1 pa_nil (starEach_ns p2)) rfl)))).run pins s σ H D I ⟨hs, fun H' gr => ⟨by show 2 ≤ sizeLine; decide, fun p hp => q H' gr p hp⟩⟩
      · cases ms
    | set i =>
      simp only [mSf] at ms
      split at ms
      · simp only [Bool.and_eq_true, beq_iff_eq] at ms
        obtain ⟨⟨⟨m1, m2⟩, rfl⟩, ms⟩ := ms
        obtain ⟨p1, p2⟩ := wc ms
        exact (pss_one (ps_set (X := X.suite a ((a, oe) :: pn)) (i := i) h.nd m1 (locB_ok m2) (pe_tup (pa_cons pe_str (pa_cons p1 pa_nil (starEach_ns p2)) rfl)) (swaps_no rfl) (.inl (h.fn _)))).run pins s σ H D I ⟨hs, fun H' gr => ⟨by show 2 ≤ sizeLine; decide, fun p hp => q H' gr p hp⟩⟩
      · cases ms
    | retEq z =>
      simp only [mSf] at ms
      split at ms
      · simp only [Bool.and_eq_true, beq_iff_eq] at ms
        obtain ⟨rfl, ms⟩ := ms
        obtain ⟨p1, p2⟩ := wc ms
        refine (pss_one (ps_ret (pe_cmpR op_eq p1 pe_str (nomark _)))).run pins s σ H D I ⟨hs, fun H' gr => ⟨rfl, ?_⟩⟩
        rw [dec_str]
        exact q H' gr
      · cases ms
theorem set_swap {α : Type} {l : List α} {i j : Nat} {x y z : α} : ((l.set j x).set i y).set j z = (l.set i y).set j z := by
  by_cases h : i = j
  · subst h
    rw [List.set_set, List.set_set, List.set_set]
  · rw [List.set_comm _ _ (Ne.symm h), List.set_set]
theorem try_read {j : Nat} {t : Tk} {e : E} {f : Sf} {kb : B} {R : Addr} {D : Ends} {σ : L2.St} {H : Hp} (hR : ∀ c x C, whichOf c = some x → X.mg c = some (.ref C) → PySem.W.exmOne X.K (.ref C) (.ref R) = some true)
    (q : tB X.K X.mg W g (.tryr j t e f kb) D σ H) : tTk X.K X.mg g t e (wAs X.K (.ref R) j (tsf X.mg j f) W { D with nx := tB X.K X.mg W g kb D }) { D with nx := tB X.K X.mg W g kb D } σ H := by
  obtain ⟨io, e0, s, hs, r, o⟩ := q
  have o : Out X.K X.mg (if g.ex "_law_which" && decide (j < e0.length) then (match ev g e e0 s with
    | .ok w s1 => tryK t (exS g kb) e0 w s1
    | .exc c s1 => tryX j f (exS g kb) e0 c s1
    | .bad => .bad)
    else .bad : Py.R Fl) io H (KFl X.K X.mg D) (KxA X.mg W) := o
  split at o
  · rename_i hj
    rw [Bool.and_eq_true, decide_eq_true_eq] at hj
    have ex : ∀ (c : Str) (s1 : Sto) (io1 : List Addr) (H1 : Hp), Stp io H io1 H1 → Rel X.K X.mg io1 H1 s1 → Out X.K X.mg (tryX j f (exS g kb) e0 c s1) io1 H1 (KFl X.K X.mg D) (KxA X.mg W) → Kx X.mg (wAs X.K (.ref R) j (tsf X.mg j f) W { D with nx := tB X.K X.mg W g kb D }) σ c s1 io1 H1 := by
      intro c s1 io1 H1 t1 r1 o1 C hC
      unfold tryX at o1
      cases hw : whichOf c with
      | none => rw [hw] at o1; exact o1.elim
      | some x =>
        rw [hw] at o1
        refine ⟨true, hR c x C hw hC, fun _ a ha => ⟨C, c, x, rfl, rfl, hw, hC, ?_, fun H2 gr => ?_⟩, fun z => nomatch z⟩
        · rw [List.getElem?_set_self (by rw [← hs.len]; exact hj.2)]
        · obtain ⟨t2, r2⟩ := r1.grow gr
          have kt : ∀ p, H2 p = none → RW X.K X.mg io1 (upd H2 p (.tup [.str "refused", .str x])) (.tup [.str "refused", .str x]) (.ref p) := fun p hp => rw_tup r2 (RWs.two (w := .str "refused") (u := .str x) rfl rfl) hp
          cases f with
          | ret =>
            intro p hp
            exact o1 _ _ (t2.trans (stp_tup hp)) (r2.tup hp) _ (kt p hp)
          | set i =>
            intro p hp
            show tB X.K X.mg W g kb D (((σ.set j (some (.ref a))).set i (some (.ref p))).set j none) (upd H2 p (.tup [.str "refused", .str x]))
            rw [set_swap]
            exact ⟨io1, _, s1, (((hs.mono r (t1.trans (t2.trans (stp_tup hp)))).set i (kt p hp)).setN j), r2.tup hp, o1.after (t2.trans (stp_tup hp))⟩
          | retEq y => exact o1 _ _ t2 r2 _ rfl
    cases t with
    | set i =>
      refine ⟨io, e0, s, hs, r, ?_⟩
      cases hv : ev g e e0 s with
      | bad => rw [hv] at o; exact o.elim
      | ok w s1 => 
        rw [hv] at o
        exact fun io1 H1 t1 r1 v kv => ⟨io1, _, s1, (hs.mono r t1).set i kv, r1, Out.after o t1⟩
      | exc c s1 =>
        rw [hv] at o
        exact fun io1 H1 t1 r1 => ex c s1 io1 H1 t1 r1 (Out.after o t1)
    | ret =>
      refine ⟨io, e0, s, hs, r, ?_⟩
      cases hv : ev g e e0 s with
      | bad => rw [hv] at o; exact o.elim
      | ok w s1 => 
        rw [hv] at o
        exact fun io1 H1 t1 r1 v kv => o io1 H1 t1 r1 v kv
      | exc c s1 =>
        rw [hv] at o
        exact fun io1 H1 t1 r1 => ex c s1 io1 H1 t1 r1 (Out.after o t1)
    | exp =>
      refine ⟨io, e0, s, hs, r, ?_⟩
      cases hv : ev g e e0 s with
      | bad => rw [hv] at o; exact o.elim
      | ok w s1 => 
        rw [hv] at o
        exact fun io1 H1 t1 r1 v kv => ⟨io1, e0, s1, hs.mono r t1, r1, Out.after o t1⟩
      | exc c s1 =>
        rw [hv] at o
        exact fun io1 H1 t1 r1 => ex c s1 io1 H1 t1 r1 (Out.after o t1)
  · exact o.elim
theorem sB (h : GoodS X k g W) : ∀ (b : B) (l : List Stmt), mB X.N g.df X.env.scope b l = true → PSs X l (tB X.K X.mg W g b)
  | .done, l, m => by
    unfold mB at m
    split at m
    · exact PSs.imp pss_nil fun D σ H ⟨io, e, s, hs, r, o⟩ => o.here r σ hs
    · cases m
  | .asg t a kb, l, m => by
    unfold mB at m
    split at m
    · rename_i tg v pos rest
      rw [Bool.and_eq_true, Bool.and_eq_true, Bool.and_eq_true] at m
      obtain ⟨⟨⟨m1, m2⟩, m3⟩, m4⟩ := m
      have pk := sB h kb rest m3
      have pe := sE a X W v h.toGood m2
      split at m4
      · rename_i y py
        have ⟨i, ht⟩ : ∃ i, t = .name i := by
          cases t <;> first | exact ⟨_, rfl⟩ | cases m1
        subst ht
        have m1 : (X.N[i]? == some y && locB X.env.scope y) = true := m1
        rw [Bool.and_eq_true, beq_iff_eq] at m1
        have rd : ∀ D σ H, tB X.K X.mg W g (.asg (.name i) a kb) D σ H → tAsg (tE X.K X.mg W g a) (gName i) { D with nx := tB X.K X.mg W g kb D } σ H := fun D σ H ⟨io, e, s, hs, r, o⟩ => set_read hs r o
        by_cases hc : isComp v = true
        · rw [if_pos hc, Bool.or_eq_true, Bool.and_eq_true] at m4
          rcases m4 with m4 | ⟨m4, m5⟩
          · have : ∃ own tg ik as cond elt, a = .comp own tg ik as cond elt := by
              have : ∃ el gs sc p, v = .ListComp el gs sc p := by
                unfold lcSet at m4
                split at m4
                · exact ⟨_, _, _, _, rfl⟩
                · cases m4
              obtain ⟨el, gs, sc, p, rfl⟩ := this
              cases a <;> first | exact ⟨_, _, _, _, _, _, rfl⟩ | cases m2
            obtain ⟨own, tg, ik, as, cond, elt, rfl⟩ := this
            exact PSs.imp (pss_cons (lc_set h m1.1 m4 m2) pk) rd
          · have : ∃ el gs sc p, v = .ListComp el gs sc p := by
              split at m5
              · exact ⟨_, _, _, _, rfl⟩
              · cases m5
            obtain ⟨el, gs, sc, p, rfl⟩ := this
            rw [beq_iff_eq] at m4
            refine PSs.imp (pss_cons (ps_set (i := i) h.nd m1.1 (locB_ok m1.2) pe ?_ (.inl (h.fn y))) pk) rd
            have ky : X.env.kindOf y = some .cell := m4
            have hb : X.env.blockKind = .function := by unfold Env.blockKind; rw [h.kind]; rfl
            unfold swapsWith
            simp only [hb, ky]
            rfl
        · have hc' : isComp v = false := by cases z : isComp v <;> first | rfl | exact absurd z hc
          exact PSs.imp (pss_cons (ps_set (i := i) h.nd m1.1 (locB_ok m1.2) pe (swaps_no hc') (.inl (h.fn y))) pk) rd
      · have pg := sTa h t tg m1
        have hst : noStar tg = true := by
          cases tg <;> first | rfl | (cases t <;> cases m1)
        have hsw : swapsWithSole [tg] v pos.line X.env = pure false := by
          unfold swNone at m4
          split at m4
          · exact swaps_tup
          · exact swaps_tup
          · exact swaps_sub
          · cases m4
        refine PSs.imp (pss_cons (ps_asg pe pg hsw (sw_none m4) (assign1 hst)) pk) fun D σ H ⟨io, e, s, hs, r, o⟩ => ?_
        refine ⟨io, e, s, hs, r, Out.goS o fun w s1 io1 H1 t1 r1 o1 u ku => ⟨io1, e, s1, w, hs.mono r t1, r1, ku, Out.go o1 fun e2 s2 io2 H2 t2 r2 o2 σ2 hs2 => ⟨io2, e2, s2, hs2, r2, o2⟩⟩⟩
    · cases m
  | .par2 i j a b kb, l, m => by
    unfold mB at m
    split at m
    · rename_i x px y py n1 p1 p q n2 p2 pos rest
      simp only [Bool.and_eq_true, beq_iff_eq, Bool.not_eq_true'] at m
      obtain ⟨⟨⟨⟨⟨⟨⟨⟨⟨⟨⟨⟨hx, hy⟩, kx⟩, ky⟩, hxy⟩, hl⟩, ha⟩, hb⟩, h1⟩, h2⟩, m1⟩, m2⟩, m3⟩ := m
      have hij : i ≠ j := fun z => by
        rw [z, hy] at hx
        cases hx
        rw [beq_self_eq_true] at hxy
        cases hxy
      have pa : PA X [p, q] _ := pa_cons (sE a X W p h.toGood m1) (pa_cons (sE b X W q h.toGood m2) pa_nil (starEach_ns hb)) (starEach_ns ha)
      refine PSs.imp (pss_cons (ps_par h.calm h.nd hx hy hij kx ky pa (sw_two h.kind kx ky hxy (by rw [hl]; exact beq_self_eq_true _) ha hb h1 h2) swaps_tup) (sB h kb rest m3)) fun D σ H ⟨io, e, s, hs, r, o⟩ => ?_
      refine ⟨io, e, s, hs, r, Out.goS o fun w s1 io1 H1 t1 r1 o1 v kv => ⟨io1, e, s1, hs.mono r t1, r1, Out.goS o1 fun u s2 io2 H2 t2 r2 o2 v2 kv2 => ⟨v, v2, rfl, io2, _, s2, ?_, r2, o2⟩⟩⟩
      exact (((hs.mono r t1).mono r1 t2).set i (r1.mono t2 _ _ kv)).set j kv2
    · cases m
  | .par3 i j o' a b c kb, l, m => by
    unfold mB at m
    split at m
    · rename_i x px y py z pz n1 p1 p q w n2 p2 pos rest
      simp only [Bool.and_eq_true, beq_iff_eq, Bool.not_eq_true'] at m
      obtain ⟨⟨⟨⟨⟨⟨⟨⟨⟨⟨⟨⟨⟨⟨⟨⟨⟨⟨⟨hx, hy⟩, hz⟩, kx⟩, ky⟩, kz⟩, hxy⟩, hxz⟩, hyz⟩, hl⟩, hl2⟩, ha⟩, hb⟩, hc⟩, h1⟩, h2⟩, m1⟩, m2⟩, m4⟩, m3⟩ := m
      have ne : ∀ {i j : Nat} {x y : Str}, X.N[i]? = some x → X.N[j]? = some y → (x == y) = false → i ≠ j := fun {i j x y} hx hy hxy z => by
        rw [z, hy] at hx
        cases hx
        rw [beq_self_eq_true] at hxy
        cases hxy
      have pa : PA X [p, q, w] _ := pa_cons (sE a X W p h.toGood m1) (pa_cons (sE b X W q h.toGood m2) (pa_cons (sE c X W w h.toGood m4) pa_nil (starEach_ns hc)) (starEach_ns hb)) (starEach_ns ha)
      refine PSs.imp (pss_cons (ps_par3 h.calm h.nd hx hy hz (ne hx hy hxy) (ne hx hz hxz) (ne hy hz hyz) kx ky kz pa (sw_three h.kind kx ky kz hxy hxz hyz (by rw [hl]; exact beq_self_eq_true _) (by rw [hl2]; exact beq_self_eq_true _) ha hb hc h1 h2) swaps_tup) (sB h kb rest m3)) fun D σ H ⟨io, e, s, hs, r, o⟩ => ?_
      refine ⟨io, e, s, hs, r, Out.goS o fun w1 s1 io1 H1 t1 r1 o1 v kv => ⟨io1, e, s1, hs.mono r t1, r1, Out.goS o1 fun u s2 io2 H2 t2 r2 o2 v2 kv2 => ⟨io2, e, s2, (hs.mono r t1).mono r1 t2, r2, Out.goS o2 fun u3 s3 io3 H3 t3 r3 o3 v3 kv3 => ⟨v, v2, v3, rfl, io3, _, s3, ?_, r3, o3⟩⟩⟩⟩
      exact (((((hs.mono r t1).mono r1 t2).mono r2 t3).set i (r2.mono t3 _ _ (r1.mono t2 _ _ kv))).set j (r2.mono t3 _ _ kv2)).set o' kv3
    · cases m
  | .aug i op a kb, l, m => by
    unfold mB at m
    split at m
    · rename_i y py o' v pos rest
      simp only [Bool.and_eq_true, beq_iff_eq] at m
      obtain ⟨⟨⟨⟨⟨h1, rfl⟩, hN⟩, hl⟩, m1⟩, m2⟩ := m
      have pe := sE a X W v h.toGood m1
      have pk := sB h kb rest m2
      cases op with
      | add =>
        refine PSs.imp (pss_cons (ps_aug (i := i) h.nd hN (locB_ok hl) pe ip_add (.inl (h.fn y))) pk) fun D σ H ⟨io, e, s, hs, r, o⟩ => ?_
        obtain ⟨w, x, hx, kx, o⟩ := Out.slotk hs o
        refine ⟨x, hx, io, e, s, hs, r, Out.goS o fun u s1 io1 H1 t1 r1 o1 z kz => ?_⟩
        cases w <;> cases u <;> first | exact False.elim o1 | skip
        exact ⟨_, _, kx, kz, io1, _, s1, (hs.mono r t1).set i (w := .int _) rfl, r1, o1⟩
      | sub =>
        refine PSs.imp (pss_cons (ps_aug (i := i) h.nd hN (locB_ok hl) pe ip_sub (.inl (h.fn y))) pk) fun D σ H ⟨io, e, s, hs, r, o⟩ => ?_
        obtain ⟨w, x, hx, kx, o⟩ := Out.slotk hs o
        refine ⟨x, hx, io, e, s, hs, r, Out.goS o fun u s1 io1 H1 t1 r1 o1 z kz => ?_⟩
        cases w <;> cases u <;> first | exact False.elim o1 | skip
        exact ⟨_, _, kx, kz, io1, _, s1, (hs.mono r t1).set i (w := .int _) rfl, r1, o1⟩
      | _ => cases h1
    · cases m
  | .ite c t f kb, l, m => by
    unfold mB at m
    split at m
    · simp only [Bool.and_eq_true] at m
      obtain ⟨⟨⟨m1, m2⟩, m3⟩, m4⟩ := m
      exact PSs.imp (pss_cons (ps_if (sT c X W _ h.toGood m1) (sB h t _ m2) (sB h f _ m3)) (sB h kb _ m4)) fun D σ H ⟨io, e, s, hs, r, o⟩ => if_read hs r o
    · cases m
  | .whl c b kb, l, m => by
    unfold mB at m
    split at m
    · simp only [Bool.and_eq_true] at m
      obtain ⟨⟨m1, m2⟩, m3⟩ := m
      exact PSs.imp (pss_cons (ps_while h.own (sT c X W _ h.toGood m1) (sB h b _ m2)) (sB h kb _ m3)) fun D σ H ⟨io, e, s, hs, r, o⟩ => while_read hs r o
    · cases m
  | .for_ t ik as b kb, l, m => by
    unfold mB at m
    split at m
    · simp only [Bool.and_eq_true] at m
      obtain ⟨⟨⟨⟨m1, m2⟩, m3⟩, m4⟩, m5⟩ := m
      exact PSs.imp (pss_cons (ps_for h.own h.calm (sI h.toGood (fun es => sEs as X W es h.toGood) m3) (sG h.calm h.nd (fun x _ => h.fn x) t _ m1) (sB h b _ m4) (noset_fold m2)) (sB h kb _ m5)) fun D σ H ⟨io, e, s, hs, r, o⟩ => for_read hs r o
    · cases m
  | .ret a kb, l, m => by
    unfold mB at m
    split at m
    · exact PSs.imp (pss_one (ps_ret (sE a X W _ h.toGood m))) fun D σ H ⟨io, e, s, hs, r, o⟩ => ⟨io, e, s, hs, r, Out.goS o fun w s1 io1 H1 t1 r1 o1 v kv => o1.here r1 v kv⟩
    · cases m
  | .retn kb, l, m => by
    unfold mB at m
    split at m
    · exact PSs.imp (pss_one ps_retN) fun D σ H ⟨io, e, s, hs, r, o⟩ => o.here r .non rfl
    · cases m
  | .brk kb, l, m => by
    unfold mB at m
    split at m
    · exact PSs.imp (pss_one ps_break) fun D σ H ⟨io, e, s, hs, r, o⟩ => o.here r σ hs
    · cases m
  | .ct kb, l, m => by
    unfold mB at m
    split at m
    · exact PSs.imp (pss_one ps_continue) fun D σ H ⟨io, e, s, hs, r, o⟩ => o.here r σ hs
    · cases m
  | .pass kb, l, m => by
    unfold mB at m
    split at m
    · exact PSs.imp (pss_cons ps_pass (sB h kb _ m)) fun D σ H ⟨io, e, s, hs, r, o⟩ => ⟨io, e, s, hs, r, o⟩
    · cases m
  | .exp a kb, l, m => by
    unfold mB at m
    split at m
    · simp only [Bool.and_eq_true, Bool.not_eq_true'] at m
      obtain ⟨⟨m1, m2⟩, m3⟩ := m
      exact PSs.imp (pss_cons (ps_expr (sE a X W _ h.toGood m2) (swaps_no m1)) (sB h kb _ m3)) fun D σ H ⟨io, e, s, hs, r, o⟩ => ⟨io, e, s, hs, r, Out.goS o fun w s1 io1 H1 t1 r1 o1 v kv => ⟨io1, e, s1, hs.mono r t1, r1, o1⟩⟩
    · cases m
  | .raise c kb, l, m => by
    unfold mB at m
    split at m
    · simp only [Bool.and_eq_true, beq_iff_eq] at m
      obtain ⟨⟨⟨rfl, hg⟩, ok⟩, hne⟩ := m
      rename_i y p1 msg n p2 p3 p4
      by_cases hd : g.ex y = true
      · obtain ⟨C, g1, x1, k1, b1, t1⟩ := (h.mo.exc y hd (by rw [Bool.not_eq_true', beq_eq_false_iff_ne] at hne; exact hne)).ex
        refine PSs.imp (pss_one (ps_raise h.calm h.tk (pmk_own PySem.F.excBase_ValueError x1 g1 k1 (raises_own b1 t1) (glB_ok hg) (okN_ok ok).1))) fun D σ H ⟨io, e, s, hs, r, o⟩ => ?_
        have o : Out X.K X.mg (if g.ex y then .exc y s else .bad : R Fl) io H (KFl X.K X.mg D) (KxA X.mg W) := o
        rw [if_pos hd] at o
        exact o io H .refl r C σ g1
      · refine ⟨fun pins st σ H D I ⟨io, e, s, hs, r, o⟩ => ?_⟩
        have o : Out X.K X.mg (if g.ex y then .exc y s else .bad : R Fl) io H (KFl X.K X.mg D) (KxA X.mg W) := o
        rw [if_neg hd] at o
        exact o.elim
    · cases m
  | .tryr j t e f kb, l, m => by
    unfold mB at m
    split at m
    · simp only [Bool.and_eq_true, beq_iff_eq] at m
      obtain ⟨⟨⟨⟨⟨⟨⟨rfl, hg⟩, hN⟩, hl⟩, ok⟩, mt⟩, ms⟩, mk⟩ := m
      by_cases hx : g.ex "_law_which" = true
      · have wh := h.mo.wh hx
        obtain ⟨R, hR, hxm⟩ := wh.ex
        exact PSs.imp (pss_cons (ps_tryr h wh hR hg hN hl ok mt ms) (sB h kb _ mk)) fun D σ H q => try_read hxm q
      · refine ⟨fun pins st σ H D I ⟨io, e0, s, hs, r, o⟩ => ?_⟩
        have o : Out X.K X.mg (if g.ex "_law_which" && decide (j < e0.length) then _ else .bad : R Fl) io H (KFl X.K X.mg D) (KxA X.mg W) := o
        rw [if_neg (by rw [Bool.and_eq_true]; exact fun z => hx z.1)] at o
        exact o.elim
    · cases m
end
end Py

namespace Py
open PySem PySem.Spec PyProof.Rows L2
theorem bl_vals : ∀ {bs : List Bool} {us : List Value}, Vals (bs.map V.bl) us → us = bs.map Value.bool
  | [], us, h => by cases h; rfl
  | b :: bs, us, h => by
    cases h with
    | cons r t =>
      rw [show _ = Value.bool b from r, bl_vals t]
      rfl
theorem bl_reads (h : Heap) : ∀ bs : List Bool, ∃ as, ReadsAll h (bs.map Value.bool) (bs.map PyData.bool) as
  | [] => ⟨_, .nil⟩
  | b :: bs => by
    obtain ⟨as, z⟩ := bl_reads h bs
    exact ⟨_, .cons (Reads.bool b) z⟩
theorem bl_plain : ∀ bs : List Bool, PyData.plainAll (bs.map PyData.bool) = true
  | [] => rfl
  | b :: bs => by
    rw [List.map_cons, PyData.plainAll, bl_plain bs]
    rfl
theorem bl_count (b : Bool) (bs : List Bool) : (bs.map PyData.bool).countP (fun y => PyData.eqv y (.bool b)) = bs.count b := by
  rw [List.countP_map]
  rfl
theorem mt_bcount {X : Cx} (hu : X.A.units + 65 < cLine) : MtR X "list.count" (rCntB X.K) := by
  intro pins s σ H x xs v us Q I rx rxs h
  obtain ⟨p, bs, b, rfl, rfl, hs, q⟩ := h
  obtain ⟨u, rfl, ru⟩ := rxs.one
  have ex : v = Value.ref p := rx
  have eu : u = Value.bool b := ru
  subst ex eu
  obtain ⟨its, rv, ⟨o, n, ho, hc, _, hd⟩, _⟩ := I.list hs
  have e := bl_vals rv
  subst e
  obtain ⟨as, ra⟩ := bl_reads s.heap bs
  refine PySem.SeqAt.count_list_data (xs := bs.map PyData.bool) (d := .bool b) ⟨o, ho, hc, n, hd⟩ (by simpa using ra) (Reads.bool b) (bl_plain bs) rfl (Nat.lt_of_le_of_lt (Nat.add_le_add_left (Nat.min_le_right _ _) _) (show X.A.units + 1 + 0 < cLine by omega)) ?_
  rw [bl_count]
  exact ⟨.int (bs.count b : Nat), H, I.tok _, ⟨s.toks, rfl⟩, q⟩
end Py

namespace Py
open PySem PySem.Spec PyProof.Rows L2
section
variable {X : Cx} {a D : Addr} {oe : Obj} {i : Nat}
theorem varB_ok {x : Expr} (h : varB X.N X.env.scope i x = true) : PE X x (tVar i) ∧ noStar x = true := by
  cases x with
  | Name n p =>
    have h : (X.N[i]? == some n && (visB X.env.scope n && okN n)) = true := h
    rw [Bool.and_eq_true, Bool.and_eq_true, beq_iff_eq] at h
    exact ⟨pe_var h.1 (visB_ok h.2.1) (okN_ok h.2.2).1 (okN_ok h.2.2).2, rfl⟩
  | _ => cases h
theorem glnB_ok {x : Expr} {c : Str} {C : Addr} (h : glnB X.env.scope c x = true) (hm : X.mg c = some (.ref C)) : PE X x (tC (.ref C)) ∧ noStar x = true := by
  cases x with
  | Name n p =>
    have h : (n == c && (glB X.env.scope n && okN n)) = true := h
    rw [Bool.and_eq_true, Bool.and_eq_true, beq_iff_eq] at h
    obtain ⟨rfl, h1, h2⟩ := h
    exact ⟨pe_glob (glB_ok h1) hm rfl (okN_ok h2).1, rfl⟩
  | _ => cases h
theorem pe_isW {x : Expr} {c : Str} {b : Bool} (hC : CallR X (.builtin "isinstance") (rIsE X.K D a)) (hi : X.mg "isinstance" = none) (kt : Kit X D c b) (h : isB X.N X.env.scope i c x = true) :
    PE X x (fun σ H Q => σ[i]? = some (some (.ref a)) ∧ Q (.bl b) H) ∧ noStar x = true := by
  obtain ⟨p, e1, e2, pos, rfl, hg, hq⟩ := call2_ok h
  have hq : (varB X.N X.env.scope i e1 && glnB X.env.scope c e2) = true := hq
  rw [Bool.and_eq_true] at hq
  obtain ⟨C, hm, hk⟩ := kt.ex
  obtain ⟨p1, n1⟩ := varB_ok (X := X) hq.1
  obtain ⟨p2, n2⟩ := glnB_ok (X := X) hq.2 hm
  refine ⟨PE.imp (pe_callB hC (glB_ok hg) hi boot_isinstance (pa_cons p1 (pa_cons p2 pa_nil (starEach_ns n2)) (starEach_ns n1)) (by decide) (by decide) (starEach_ns n1) (nostar_any (by intro y hy; cases hy with | head => exact n2 | tail _ z => cases z))) fun σ H Q ⟨h1, h2⟩ => ?_, rfl⟩
  exact ⟨_, h1, _, _, b, rfl, fun u hu => hu, hk, h2⟩
theorem pa_isW (hC : CallR X (.builtin "isinstance") (rIsE X.K D a)) (hi : X.mg "isinstance" = none) : ∀ {cs : List Str} {bs : List Bool} {es : List Expr}, Kits X D cs bs → isBs X.N X.env.scope i cs es = true →
    PA X es (fun σ H Q => σ[i]? = some (some (.ref a)) ∧ Q (bs.map V.bl) H)
  | [], [], es, .nil, h => by
    cases es with
    | nil => exact PA.imp pa_nil fun σ H Q z => z.2
    | cons _ _ => cases h
  | c :: cs, b :: bs, es, .cons k t, h => by
    cases es with
    | nil => cases h
    | cons e es =>
      have h : (isB X.N X.env.scope i c e && isBs X.N X.env.scope i cs es) = true := h
      rw [Bool.and_eq_true] at h
      obtain ⟨p, n⟩ := pe_isW hC hi k h.1
      exact PA.imp (pa_cons p (pa_isW hC hi t h.2) (starEach_ns n)) fun σ H Q z => ⟨z.1, z.1, z.2⟩
end
end Py

namespace Py
open PySem PySem.Spec PyProof.Rows L2
theorem w_len {c : Str} (cs : List Str) : (cs.map fun d => decide (d = c)).length = cs.length := List.length_map ..
theorem w_place : ∀ (c x : Str), whichOf c = some x → ((wC1 ++ wC2 ++ wC3 ++ wC4).map fun d => decide (d = c)).count true = 1 ∧ ∃ j : Nat, ((wC1 ++ wC2 ++ wC3 ++ wC4).map fun d => decide (d = c))[j]? = some true ∧
    (∀ m : Nat, m < j → ((wC1 ++ wC2 ++ wC3 ++ wC4).map fun d => decide (d = c))[m]? = some false) ∧ (Txt.split wText " ")[j]? = some x := by
  intro c x h
  have key : ∀ p ∈ excNames, ((wC1 ++ wC2 ++ wC3 ++ wC4).map fun d => decide (d = p.1)).count true = 1 ∧ ∃ j : Nat, j < 16 ∧ ((wC1 ++ wC2 ++ wC3 ++ wC4).map fun d => decide (d = p.1))[j]? = some true ∧
    (∀ m : Nat, m < j → ((wC1 ++ wC2 ++ wC3 ++ wC4).map fun d => decide (d = p.1))[m]? = some false) ∧ (Txt.split wText " ")[j]? = some p.2 := by
    decide +kernel
  unfold whichOf at h
  have hm : (c, x) ∈ excNames := PySem.mem_of_lookup h
  obtain ⟨h1, j, _, h2, h3, h4⟩ := key _ hm
  exact ⟨h1, j, h2, h3, h4⟩
section
variable {X : Cx} {a D : Addr} {oe : Obj}
theorem name_told (hN : X.N = wN) (hl : ∀ x ∈ wN, X.env.scope.names.lookup x = some .local) {p : Pos} : PE X (.Name "_law_told" p) (tVar 1) := pe_var (by rw [hN]; rfl) (.inl (hl _ (by decide)))
theorem ps_w1 {c : Str} {cs : List Str} {st : Stmt} {H0 : Hp} (hC : CallR X (.builtin "isinstance") (rIsE X.K D a)) (cz : Clz X D c) (hN : X.N = wN) (nd : X.N.Nodup) (hl : ∀ x ∈ wN, X.env.scope.names.lookup x = some .local) (hcs : ∀ d ∈ cs, ∃ x, whichOf d = some x) (hsz : cs.length ≤ sizeLine)
    (h : w1 X.env.scope cs st = true) : PS X st (fun Dn σ H => σ = [some (.ref a), none, none] ∧ H = H0 ∧ ∀ σ' H', WS a H0 (cs.map fun d => decide (d = c)) σ' H' → Dn.nx σ' H') := by
  unfold w1 at h
  split at h
  · simp only [Bool.and_eq_true, beq_iff_eq] at h
    obtain ⟨rfl, h⟩ := h
    have pl := fun p => pe_lst (pos := p) (pa_isW (i := 0) hC cz.mi (cz.k cs hcs) (by rw [hN]; exact h))
    refine ⟨fun pins s σ H Dn I ⟨e1, e2, q⟩ => (ps_set (i := 1) nd (by rw [hN]; rfl) (.inl (hl _ (by decide))) (pl _) (swaps_no rfl) (.inr (hl _ (by decide)))).run pins s σ H Dn I ?_⟩
    subst e1 e2
    refine ⟨rfl, by rw [List.length_map, w_len]; exact hsz, fun p hp => q _ _ ⟨p, rfl, upd_same, fun b o hb => ?_⟩⟩
    rw [upd_ne (ne_of_none hb hp)]
    exact hb
  · cases h
theorem ps_w2 {c : Str} {cs : List Str} {bs : List Bool} {st : Stmt} {H0 : Hp} (hC : CallR X (.builtin "isinstance") (rIsE X.K D a)) (cz : Clz X D c) (hN : X.N = wN) (nd : X.N.Nodup) (hl : ∀ x ∈ wN, X.env.scope.names.lookup x = some .local) (hcs : ∀ d ∈ cs, ∃ x, whichOf d = some x) (hsz : bs.length + cs.length ≤ sizeLine)
    (h : w2 X.env.scope cs st = true) : PS X st (fun Dn σ H => WS a H0 bs σ H ∧ ∀ σ' H', WS a H0 (bs ++ cs.map fun d => decide (d = c)) σ' H' → Dn.nx σ' H') := by
  unfold w2 at h
  split at h
  · simp only [Bool.and_eq_true, beq_iff_eq] at h
    obtain ⟨⟨rfl, rfl⟩, h⟩ := h
    have pl := fun p => pe_lst (pos := p) (pa_isW (i := 0) hC cz.mi (cz.k cs hcs) (by rw [hN]; exact h))
    refine ⟨fun pins s σ H Dn I ⟨⟨p, e1, hp, gr⟩, q⟩ => (ps_set (i := 1) nd (by rw [hN]; rfl) (.inl (hl _ (by decide))) (pe_op op_cat (name_told hN hl) (pl _)) (swaps_no rfl) (.inr (hl _ (by decide)))).run pins s σ H Dn I ?_⟩
    subst e1
    refine ⟨_, rfl, rfl, by rw [List.length_map, w_len]; omega, fun r hr => ⟨p, r, _, _, rfl, rfl, by rw [upd_ne (ne_of_none hp hr)]; exact hp, upd_same, by rw [List.length_map, List.length_map, w_len]; exact hsz, fun z hz => q _ _ ⟨z, rfl, ?_, fun b o hb => ?_⟩⟩⟩
    · rw [List.map_append]
      exact upd_same
    · have h1 := gr b o hb
      have h2 : upd H r (.lst ((cs.map fun d => decide (d = c)).map V.bl)) b = some o := by
        rw [upd_ne (ne_of_none h1 hr)]
        exact h1
      rw [upd_ne (ne_of_none h2 hz)]
      exact h2
  · cases h
theorem pe_wcount (hu : X.A.units + 65 < cLine) (hN : X.N = wN) (hl : ∀ x ∈ wN, X.env.scope.names.lookup x = some .local) {e : Expr} (h : wM "count" e = true) {bs : List Bool} {H0 : Hp} {t2 : Option V} :
    PE X e (fun σ H Q => ∃ p, σ = [some (.ref a), some (.ref p), t2] ∧ H p = some (.lst (bs.map V.bl)) ∧ Q (.int (bs.count true : Nat)) H) := by
  unfold wM at h
  split at h
  · simp only [Bool.and_eq_true, beq_iff_eq] at h
    obtain ⟨⟨⟨rfl, rfl⟩, rfl⟩, hp⟩ := h
    refine PE.imp (pe_bm PySem.F.plainAttrs_list PySem.F.slot_list_count PySem.F.type_list_count (mt_bcount hu) (name_told hN hl) (pa_cons pe_bl pa_nil) rfl rfl (by rw [hp]; exact beq_self_eq_true _)) fun σ H Q ⟨p, e1, hp, q⟩ => ?_
    subst e1
    exact ⟨_, rfl, .inl ⟨rfl, _, .of hp⟩, p, bs, true, rfl, rfl, .of hp, q⟩
  · cases h
theorem pe_windex (hN : X.N = wN) (hl : ∀ x ∈ wN, X.env.scope.names.lookup x = some .local) {e : Expr} (h : wM "index" e = true) {bs : List Bool} {j : Nat} {t2 : Option V} (hj : bs[j]? = some true) (hm : ∀ m, m < j → bs[m]? = some false) :
    PE X e (fun σ H Q => ∃ p, σ = [some (.ref a), some (.ref p), t2] ∧ H p = some (.lst (bs.map V.bl)) ∧ Q (.int (j : Nat)) H) ∧ PlainIx e := by
  unfold wM at h
  split at h
  · simp only [Bool.and_eq_true, beq_iff_eq] at h
    obtain ⟨⟨⟨rfl, rfl⟩, rfl⟩, hp⟩ := h
    refine ⟨PE.imp (pe_bm PySem.F.plainAttrs_list PySem.F.slot_list_index PySem.F.type_list_index mt_index (name_told hN hl) (pa_cons pe_bl pa_nil) rfl rfl (by rw [hp]; exact beq_self_eq_true _)) fun σ H Q ⟨p, e1, hp, q⟩ => ?_, fun _ _ => rfl⟩
    subst e1
    refine ⟨_, rfl, .inl ⟨rfl, _, .of hp⟩, p, _, .bl true, j, .bl true, rfl, rfl, .of hp, rfl, ?_, by rw [List.getElem?_map, hj]; rfl, rfl, fun m z hm' hz => ?_, q⟩
    · rw [List.all_eq_true]
      intro x hx
      obtain ⟨b, _, rfl⟩ := List.mem_map.mp hx
      rfl
    · rw [List.getElem?_map, hm m hm'] at hz
      cases hz
      rfl
  · cases h
theorem ps_w4 {c x : Str} {bs : List Bool} {st : Stmt} {H0 : Hp} (hu : X.A.units + 65 < cLine) (hC : CallR X (.builtin "isinstance") (rIsE X.K D a)) (cz : Clz X D c) (hN : X.N = wN) (hl : ∀ x ∈ wN, X.env.scope.names.lookup x = some .local) (hb : bs.count true = 1)
    (h : w4 X.env.scope st = true) : PS X st (fun Dn σ H => (∃ p t2, t2 = some (V.str x) ∧ σ = [some (.ref a), some (.ref p), t2] ∧ H p = some (.lst (bs.map V.bl))) ∧ Dn.nx σ H) := by
  unfold w4 at h
  split at h
  · simp only [Bool.and_eq_true, beq_iff_eq] at h
    obtain ⟨⟨hc, rfl⟩, hv⟩ := h
    rename_i v _ _ _ _ _ _ _
    have hve : PE X v (fun σ H Q => σ[0]? = some (some (.ref a)) ∧ Q (.bl true) H) := by
      obtain ⟨p, e1, e2, pos, rfl, hg, hq⟩ := call2_ok (show call2 "isinstance" _ X.env.scope v = true from hv)
      have hq : (varB wN X.env.scope 0 e1 && glnB X.env.scope "ValueError" e2) = true := hq
      rw [Bool.and_eq_true] at hq
      obtain ⟨p1, n1⟩ := varB_ok (X := X) (by rw [hN]; exact hq.1)
      have p2 : PE X e2 (tC (.ty "ValueError")) ∧ noStar e2 = true := by
        cases e2 with
        | Name n q =>
          have h : (n == "ValueError" && (glB X.env.scope n && okN n)) = true := hq.2
          rw [Bool.and_eq_true, Bool.and_eq_true, beq_iff_eq] at h
          obtain ⟨rfl, h1, h2⟩ := h
          exact ⟨pe_bltn (glB_ok h1) cz.mv (by decide +kernel) rfl, rfl⟩
        | _ => cases hq.2
      refine PE.imp (pe_callB hC (glB_ok hg) cz.mi boot_isinstance (pa_cons p1 (pa_cons p2.1 pa_nil (starEach_ns p2.2)) (starEach_ns n1)) (by decide) (by decide) (starEach_ns n1) (nostar_any (by intro y hy; cases hy with | head => exact p2.2 | tail _ z => cases z))) fun σ H Q ⟨h1, h2⟩ => ?_
      exact ⟨_, h1, _, .type "ValueError", true, rfl, fun u hu => hu, cz.ve, h2⟩
    have hvt := fun pos => pt_not (pos := pos) (pt_truth hve (by
      obtain ⟨p, e1, e2, pos, rfl, _, _⟩ := call2_ok (show call2 "isinstance" _ X.env.scope v = true from hv)
      intro _
      rfl))
    refine ⟨fun pins s σ H Dn I ⟨⟨p, t2, ht, e1, hp⟩, q⟩ => ?_⟩
    have pc := pe_wcount (a := a) (t2 := t2) hu hN hl hc (bs := bs) (H0 := H0)
    refine (ps_if (pw_or (pt_cmpR op_ne pc pe_int (nomark _)) (pw_or1 (hvt _))).pt (pss_one (ps_ret pe_str)) pss_nil).run pins s σ H Dn I ?_
    refine ⟨p, e1, hp, ⟨rfl, false, ?_, ?_⟩⟩
    · rw [hb]
      rfl
    · subst e1
      exact ⟨rfl, true, rfl, q⟩
  · cases h
theorem ps_w5 {c x : Str} {bs : List Bool} {st : Stmt} {j : Nat} (hN : X.N = wN) (hl : ∀ x ∈ wN, X.env.scope.names.lookup x = some .local) (hj : bs[j]? = some true) (hm : ∀ m, m < j → bs[m]? = some false) (hx : (Txt.split wText " ")[j]? = some x)
    (h : w5 st = true) : PS X st (fun Dn σ H => (∃ p, σ = [some (.ref a), some (.ref p), some (.str wText)] ∧ H p = some (.lst (bs.map V.bl))) ∧ ∀ H', (∀ b o, H b = some o → H' b = some o) → Dn.rt (.str x) H') := by
  unfold w5 at h
  split at h
  · simp only [Bool.and_eq_true, beq_iff_eq] at h
    obtain ⟨⟨⟨⟨rfl, rfl⟩, rfl⟩, hp⟩, hi⟩ := h
    refine ⟨fun pins s σ H Dn I ⟨⟨p, e1, hp1⟩, q⟩ => ?_⟩
    obtain ⟨pi, ppl⟩ := pe_windex (a := a) (t2 := some (.str wText)) hN hl hi hj hm
    have pn : ∀ p, PE X (.Name "_law_names" p) (tVar 2) := fun p => pe_var (by rw [hN]; rfl) (.inl (hl _ (by decide)))
    refine (ps_ret (pe_ix ix_list (pe_split (pn _) pe_str rfl rfl (by rw [hp]; exact beq_self_eq_true _)) pi ppl)).run pins s σ H Dn I ?_
    subst e1
    refine ⟨_, rfl, ⟨_, rfl⟩, _, _, rfl, rfl, by decide, by decide, fun r hr => ?_⟩
    refine ⟨p, rfl, by rw [upd_ne (ne_of_none hp1 hr)]; exact hp1, r, (Txt.split wText " ").map V.str, (j : Nat), .str x, rfl, rfl, .of upd_same, ?_, q _ fun b o hb => ?_⟩
    · refine atI_nat ?_
      rw [List.getElem?_map, hx]
      rfl
    · rw [upd_ne (ne_of_none hb hr)]
      exact hb
  · cases h
end
end Py

namespace Py
open PySem PySem.Spec PyProof.Rows L2
theorem scopeB_ok {fi : Fi} {sc : Scope} (h : scopeB fi sc = true) : FnScope fi.names fi.ps sc := by
  unfold scopeB at h
  simp only [Bool.and_eq_true, decide_eq_true_eq, beq_iff_eq, List.all_eq_true, Bool.or_eq_true] at h
  obtain ⟨⟨⟨⟨⟨⟨h1, h2⟩, h3⟩, h4⟩, h5⟩, h6⟩, h7⟩ := h
  exact ⟨h1, h2, h3, h4, h5, h6, fun y hy z => by
    have := h7 y hy
    rw [z] at this
    cases this⟩
section
variable {P : Program} {w : World} {K : PySem.W.Frag} {mg : Str → Option Value} {base : Heap} {tab : Str → Option Fi} {con : Str → Option W} {ex : Str → Bool}
theorem gam_df (k : Nat) (x : Str) : (gam tab con ex k).df x = (tab x).isSome := by cases k <;> rfl
theorem gam_con (k : Nat) (x : Str) : (gam tab con ex k).con x = con x := by cases k <;> rfl
theorem gam_ex (k : Nat) (x : Str) : (gam tab con ex k).ex x = ex x := by cases k <;> rfl
theorem gam_bad (k : Nat) (x : Str) (ws : List W) (s : Sto) (h : tab x = none) : (gam tab con ex k).call x ws s = .bad := by
  cases k with
  | zero => rfl
  | succ k =>
    show (match tab x with | some fi => evF (gam tab con ex k) fi ws s | none => .bad) = .bad
    rw [h]
theorem gam_len (k : Nat) (x : Str) (fi : Fi) (ws : List W) (s : Sto) (h : tab x = some fi) (hl : ws.length ≠ fi.ps.length) : (gam tab con ex k).call x ws s = .bad := by
  cases k with
  | zero => rfl
  | succ k =>
    show (match tab x with | some fi => evF (gam tab con ex k) fi ws s | none => .bad) = .bad
    rw [h]
    show evF _ fi ws s = .bad
    unfold evF
    rw [if_neg hl]
theorem start_rsl {N : List Str} {io : List Addr} {H : Hp} {ws : List W} {vs : List V} (k : RWs K mg io H ws vs) (hl : N.length - ws.length = N.length - vs.length) : RSl K mg io H (ws.map some ++ List.replicate (N.length - ws.length) none) (L2.start N vs) := by
  unfold L2.start
  have e := k.length
  refine ⟨by simp [e], fun i w h => ?_⟩
  by_cases hi : i < ws.length
  · rw [List.getElem?_append_left (by simpa using hi), List.getElem?_map] at h
    cases h1 : ws[i]? with
    | none => rw [h1] at h; cases h
    | some u =>
      rw [h1] at h
      cases h
      obtain ⟨v, h2, h3⟩ := k.get h1
      refine ⟨v, ?_, h3⟩
      rw [List.getElem?_append_left (by rw [List.length_map, ← e]; exact hi), List.getElem?_map, h2]
      rfl
  · rw [List.getElem?_append_right (by simpa using hi), List.getElem?_replicate] at h
    split at h <;> cases h
theorem fn_succ {k m : Nat} {x y : Str} {fi : Fi} {st : Stmt} {f : Addr} {fd : FuncData} (cb : Calm P base) (hm34 : 34 ≤ m) (ih : Mo P w K mg base m (gam tab con ex k)) (hfi : tab x = some fi) (h2 : FunD K y y (defArgs st) (defBody st) (defScope st) [] [] f fd)
    (hsc : scopeB fi (defScope st) = true) (hm : mB fi.names (fun x => (tab x).isSome) (defScope st) fi.body (defBody st) = true) : FnOk P w K mg base (L2.CX P w) (m + 1) f fd fi.ps (spG K mg (gam tab con ex (k + 1)) x fi.ps.length) := by
  refine h2.ok (scopeB_ok hsc) (fun vs H Q E h => h.1) fun cdv A outer s H vs Q E hr h => ?_
  have S := scopeB_ok hsc
  let X : Cx := cxOf (L2.CX P w) P w K mg base fi.names y (defScope st) f cdv A outer s H E
  have se : Seer X := ⟨fun hfr h0 kp => SeerAt.of (cb.ns.keeps kp) cb.nt hfr S.gen S.co rfl rfl, by
    have := hr.dp
    have e : Builtin.pylongFrames = 100 := rfl
    rw [e]
    show (A.deeper _).depth + 100 < _
    omega, by
    have := hr.un
    show (A.deeper _).units + 300 < _
    omega⟩
  have good : GoodS X m (gam tab con ex k) (fun cls d _ H => E cls d H) :=
    { calm := rfl, room := hr, nd := S.nd, tk := takes_of rfl rfl rfl rfl, mo := ih, seer := se, kind := S.kind, own := passes_of rfl, fn := fun _ => rfl, stk := rfl, frm := rfl }
  have hD : (gam tab con ex k).df = fun x => (tab x).isSome := funext fun y => gam_df k y
  refine ⟨_, sB good fi.body (defBody st) (by rw [hD]; exact hm), ?_⟩
  obtain ⟨hl, io, s', ws, kw, r, o⟩ := h
  have o : Out K mg (match tab x with | some fi => evF (gam tab con ex k) fi ws s' | none => .bad : R W) io H (KV K mg Q) _ := o
  rw [hfi] at o
  have o : Out K mg (evF (gam tab con ex k) fi ws s') io H (KV K mg Q) _ := o
  unfold evF at o
  rw [if_pos (by rw [kw.length]; exact hl)] at o
  refine ⟨io, _, s', start_rsl kw (by rw [kw.length]), r, ?_⟩
  refine o.bind.imp (fun fl s1 io1 H1 t1 r1 o1 => ?_) fun c s1 io1 H1 t1 r1 z C σ hC => z C hC
  cases fl with
  | nx e => exact fun σ hs => o1.here r1 .non rfl
  | rt u => exact fun v kv => o1.here r1 v kv
  | bk e => exact o1.elim
  | ct e => exact o1.elim
theorem mo_all (cb : Calm P base) (F : Fix K mg tab con ex) : ∀ k, Mo P w K mg base (k + 34) (gam tab con ex k) := by
  intro k
  have common : ∀ k, (∀ x, (tab x).isSome = true → Fn1 P w K mg base (k + 34) (gam tab con ex k) x) → Mo P w K mg base (k + 34) (gam tab con ex k) := fun k h =>
    ⟨fun x hx => h x (by rw [← gam_df k x]; exact hx), fun x ws s hx => gam_bad k x ws s (by
      rw [gam_df] at hx
      cases z : tab x with
      | none => rfl
      | some _ => rw [z] at hx; cases hx), fun x c hx => F.con x c (by rw [gam_con] at hx; exact hx), F.blt, fun c hc => F.exc c (by rw [gam_ex] at hc; exact hc), fun hc => F.wh P w base (by rw [gam_ex] at hc; exact hc)⟩
  induction k with
  | zero =>
    refine common 0 fun x hx => ?_
    obtain ⟨fi, hfi⟩ := Option.isSome_iff_exists.mp hx
    obtain ⟨st, Rf, _⟩ := F.rows x fi hfi
    obtain ⟨_, f, fd, h1, h2, h3⟩ := Rf.ex
    refine ⟨f, fd, fi.ps, h1, h2.kp, h3, ⟨fun vs H Q E h => h.1, fun A outer s H args us vs Q E _ _ _ _ h => ?_⟩, fun ws s hl => gam_len 0 x fi ws s hfi hl⟩
    obtain ⟨_, io, s, ws, _, _, o⟩ := h
    exact o.elim
  | succ k ih =>
    refine common (k + 1) fun x hx => ?_
    obtain ⟨fi, hfi⟩ := Option.isSome_iff_exists.mp hx
    obtain ⟨st, Rf, hm⟩ := F.rows x fi hfi
    obtain ⟨_, f, fd, h1, h2, h3⟩ := Rf.ex
    exact ⟨f, fd, fi.ps, h1, h2.kp, h3, fn_succ cb (by omega) ih hfi h2 Rf.sc hm, fun ws s hl => gam_len (k + 1) x fi ws s hfi hl⟩
theorem sp_law {H : Hp} {a : Addr} {ns : List Int} {g : G} {x : Str} {s' : Sto} (hO : Only H) (hS : SqL K H a (ns.map V.int)) (h : g.call x [.cl (ns.map W.int)] [] = .ok (.bl true) s') :
    spG K mg g x 1 [.ref a] H (fun v _ => v = .bl true) fun _ _ _ => False := by
  have hz : FzL K H a (ns.map V.int) := by
    rcases hS with (h1 | ⟨o, h1⟩) | h1
    · rcases hO a with z | ⟨o, xs, z⟩
      · rw [z] at h1; cases h1
      · rw [z] at h1; cases h1
    · exact .inl ⟨o, h1⟩
    · exact .inr h1
  have hw : ∀ ns : List Int, RWs K mg [] H (ns.map W.int) (ns.map V.int) := fun ns => by
    induction ns with
    | nil => rfl
    | cons n ns ih => exact ⟨.int n, ns.map V.int, rfl, rfl, ih⟩
  refine ⟨rfl, [], [], [.cl (ns.map W.int)], ⟨.ref a, [], rfl, ⟨a, ns.map V.int, rfl, hz, hw ns⟩, rfl⟩, ⟨rfl, List.nodup_nil, fun n a ws h => by simp at h⟩, ?_⟩
  rw [h]
  exact fun io' H' _ _ v hv => hv
end
theorem lookup_app (a : Addr) : ∀ (K L : PySem.W.Frag), (K ++ L).lookup a = (K.lookup a).or (L.lookup a)
  | [], L => rfl
  | (b, o) :: K, L => by
    rw [List.cons_append, List.lookup_cons, List.lookup_cons]
    cases a == b with
    | true => rfl
    | false => exact lookup_app a K L
theorem lookup_here {h : Heap} {a : Addr} : ∀ {l : List Addr} {o : Obj}, (l.filterMap fun a => (h.get? a).map fun o => (a, o)).lookup a = some o → h.get? a = some o ∧ a ∈ l
  | [], o, e => by cases e
  | b :: l, o, e => by
    rw [List.filterMap_cons] at e
    cases q : h.get? b with
    | none =>
      rw [q] at e
      have := lookup_here (l := l) e
      exact ⟨this.1, List.mem_cons_of_mem _ this.2⟩
    | some u =>
      rw [q] at e
      have e : List.lookup a ((b, u) :: l.filterMap fun a => (h.get? a).map fun o => (a, o)) = some o := e
      rw [List.lookup_cons] at e
      cases z : a == b with
      | true =>
        rw [z] at e
        cases e
        rw [eq_of_beq z]
        exact ⟨q, List.mem_cons_self⟩
      | false =>
        rw [z] at e
        have := lookup_here (l := l) e
        exact ⟨this.1, List.mem_cons_of_mem _ this.2⟩
theorem lookup_there {h : Heap} {a : Addr} {o : Obj} (ho : h.get? a = some o) : ∀ {l : List Addr}, a ∈ l → ∃ u, (l.filterMap fun a => (h.get? a).map fun o => (a, o)).lookup a = some u
  | b :: l, hm => by
    rw [List.filterMap_cons]
    cases q : h.get? b with
    | none =>
      rcases List.mem_cons.mp hm with e | e
      · rw [← e, ho] at q
        cases q
      · exact lookup_there ho e
    | some u =>
      show ∃ u', List.lookup a ((b, u) :: l.filterMap fun a => (h.get? a).map fun o => (a, o)) = some u'
      rw [List.lookup_cons]
      cases z : a == b with
      | true => exact ⟨_, rfl⟩
      | false =>
        rcases List.mem_cons.mp hm with e | e
        · rw [e, beq_self_eq_true] at z
          cases z
        · exact lookup_there ho e
theorem plusF_in {K : PySem.W.Frag} {h : Heap} {l : List Addr} (X : K.In h) : (plusF K h l).In h := fun a o e => by
  unfold plusF at e
  rw [lookup_app] at e
  cases q : K.lookup a with
  | some u =>
    rw [q] at e
    cases e
    exact X a _ q
  | none =>
    rw [q] at e
    exact (lookup_here e).1
theorem plusF_less {K : PySem.W.Frag} {h h' : Heap} {l : List Addr} (X : (plusF K h l).In h') : K.In h' := fun a o e => X a o (by
  unfold plusF
  rw [lookup_app, e]
  rfl)
theorem plusF_get {K : PySem.W.Frag} {h h' : Heap} {l : List Addr} (X : K.In h) (Y : (plusF K h l).In h') {a : Addr} {o : Obj} (hm : a ∈ l) (ho : h.get? a = some o) : h'.get? a = some o := by
  have : ∃ u, (plusF K h l).lookup a = some u := by
    unfold plusF
    rw [lookup_app]
    cases q : K.lookup a with
    | some u => exact ⟨u, rfl⟩
    | none => exact lookup_there ho hm
  obtain ⟨u, hu⟩ := this
  have h1 := plusF_in X a u hu
  rw [ho] at h1
  cases h1
  exact Y a _ hu
theorem FnOk.frag {P : Program} {w : World} {K K' : PySem.W.Frag} {mg : Str → Option Value} {base : Heap} {CX : CXT} {k : Nat} {f : Addr} {fd : FuncData} {ps : List Str} {sp : Sp} (hk : ∀ h : Heap, K'.In h → K.In h) (F : FnOk P w K mg base CX k f fd ps sp) : FnOk P w K' mg base CX k f fd ps sp :=
  ⟨F.len, fun A outer s H args us vs Q E hr e0 => F.run A outer s H args us vs Q E hr ⟨e0.frames, ⟨hk _ e0.mod.kin, e0.mod.glob, e0.mod.blt, e0.mod.nolimit⟩, e0.bs, e0.bsz, e0.funs, e0.frf, e0.hok, e0.bare⟩⟩
theorem seer_plus {K : PySem.W.Frag} {h h' : Heap} {bm : Addr} {mg : Str → Option Value} (X : K.In h) (N : h.NoSeer) (G : h.Ns mainGlobals mg) (G' : h'.Ns mainGlobals mg) (hbm : mg "__builtins__" = some (.ref bm)) (Y : (plusF K h [cStatics, sysModules, builtinsNs, bm]).In h') : h'.NoSeer := by
  have ns : ∀ {a : Addr} {m : Str → Option Value}, a ∈ [cStatics, sysModules, builtinsNs, bm] → h.Ns a m → h'.Ns a m := fun {a m} hm ⟨o, es, ep, e, r⟩ => ⟨o, es, ep, plusF_get X Y hm e, r⟩
  refine ⟨?_, ?_, ?_, ?_⟩
  · obtain ⟨mc, a, b⟩ := N.statics
    exact ⟨mc, ns (by simp) a, b⟩
  · obtain ⟨mm, a, b⟩ := N.mods
    exact ⟨mm, ns (by simp) a, b⟩
  · obtain ⟨mb, a, b⟩ := N.imp
    exact ⟨mb, ns (by simp) a, b⟩
  · obtain ⟨mg2, bm2, ob, a, b, c, d, e⟩ := N.main
    have e1 : bm2 = bm := by
      rw [a.eq_nsMap.trans G.eq_nsMap.symm, hbm] at b
      cases b
      rfl
    subst e1
    exact ⟨mg, bm2, ob, G', hbm, plusF_get X Y (by simp) c, d, e⟩
theorem walk_py {l : PySem.W.OpenLaw} {n k : Nat} {q : Program} {loose : List Str} {XP : (Str → Option Value) → Heap → Prop} {YP : World → Heap → Prop} {d : DefRec} {x : Str}
    (hn : l.most = some n) (hn2 : n ≤ sizeLine) (hdf : d.params.defaults = []) (hr : Room k callerA) (hi : importsNone q = true)
    (F : ∀ (w : World) (mg : Str → Option Value) (fa : Addr) (h : Heap), YP w h → h.Ns mainGlobals mg → mg d.name = some (.ref fa) →
      ∃ (K : PySem.W.Frag) (fd : FuncData) (sp : Sp), K.In h ∧ (∀ (s : Shared) (u : Value), BindsTo s fd ⟨[u], []⟩ [(x, u)]) ∧
        (∀ (H : Hp) (a : Addr) (ns : List Int), ns.length ≤ n → Only H → SqL K H a (ns.map V.int) → sp [.ref a] H (fun v _ => v = .bl true) fun _ _ _ => False) ∧
        ∀ base : Heap, K.In base → base.Ns mainGlobals mg → base.NoSeer → FnOk l.prog w K mg base (L2.CX l.prog w) k fa fd [x] sp) :
    PySem.W.WalkO q loose XP YP l.row.toRowW d [] (fun f vs => PySem.call f vs) := by
  refine Att.attach_call hn hdf fun w s₀ s₁ mg mb fa o pm cd doc a vs ns G Y ho hd hcd hmg hobj hints hlen hg => ?_
  obtain ⟨K, fd, sp, KX, hb, hsp, hF⟩ := F w mg fa _ Y G.T.g hmg
  obtain ⟨bm, ob, b1, b2, b3, b4, b5, b6⟩ := G.T.bmain
  have N := G.T.seer hi
  refine law_call (K := plusF K s₁.heap [cStatics, sysModules, builtinsNs, bm]) (plusF_in KX) G.T.g G.T.b G.T.builtins G.T.nolimit hg hobj hints (Nat.le_trans hlen hn2) hr (fun base hK hG => FnOk.frag (fun _ => plusF_less) (hF base (plusF_less hK) hG (seer_plus KX N G.T.g hG b1 hK))) hb (fun H hO hS => hsp H a ns hlen hO ?_) fun H e s' z => by
    obtain ⟨_, _, _, _, _, _, _, _, _, _, _, _, z⟩ := z
    exact z.elim
  rcases hS with hS | ⟨o2, its, m, h1, h2, h3⟩
  · exact .inl hS
  · refine .inr ⟨o2, its, m, ?_, h2, h3⟩
    have h4 := plusF_in KX a o2 h1
    rw [hobj] at h4
    cases h4
    unfold plusF at h1
    rw [lookup_app] at h1
    cases q : K.lookup a with
    | some u => rw [q] at h1; exact h1
    | none =>
      rw [q] at h1
      obtain ⟨h5, h6⟩ := lookup_here h1
      exfalso
      have nd : ∀ {b : Addr} {m : Str → Option Value}, s₁.heap.Ns b m → a ≠ b := fun {b m} ⟨o, es, ep, e, dd, r⟩ z => by
        rw [← z, hobj] at e
        cases e
        cases dd
      simp only [List.mem_cons, List.mem_nil_iff, or_false] at h6
      obtain ⟨mc, c1, _⟩ := N.statics
      obtain ⟨mm, m1, _⟩ := N.mods
      obtain ⟨mi, i1, _⟩ := N.imp
      rcases h6 with z | z | z | z
      · exact nd c1 z
      · exact nd m1 z
      · exact nd i1 z
      · rw [← z, hobj] at b3
        cases b3
        exact absurd (Value.type.inj b4) (by decide)
end Py

namespace Py
open PySem PySem.Spec PyProof.Rows L2
theorem which_mem {c x : Str} (h : whichOf c = some x) : (c, x) ∈ excNames := PySem.mem_of_lookup h
theorem clz_of {K : PySem.W.Frag} {X : Cx} (hK : X.K = K) (h : clzB K = true) (hg : ∀ c x, whichOf c = some x → X.mg c = some (.ref (He.ga K c))) (mi : X.mg "isinstance" = none) (mv : X.mg "ValueError" = none) {c x : Str} (hc : whichOf c = some x) : Clz X (He.ga K c) c := by
  subst hK
  have h1 := List.all_eq_true.mp h _ (which_mem hc)
  simp only [Bool.and_eq_true, decide_eq_true_eq, List.all_eq_true] at h1
  obtain ⟨⟨⟨⟨⟨⟨⟨⟨⟨⟨e1, e2⟩, e3⟩, e4⟩, e5⟩, e6⟩, e7⟩, e8⟩, e9⟩, e10⟩, e11⟩ := h1
  have ks : ∀ cs : List Str, (∀ d ∈ cs, ∃ x, whichOf d = some x) → Kits X (He.ga X.K c) cs (cs.map fun d => decide (d = c)) := fun cs => by
    induction cs with
    | nil => exact fun _ => .nil
    | cons d cs ih =>
      intro hcs
      obtain ⟨y, hy⟩ := hcs d List.mem_cons_self
      exact .cons ⟨_, hg d y hy, e11 _ (which_mem hy)⟩ (ih fun z hz => hcs z (List.mem_cons_of_mem _ hz))
  exact ⟨ks, ⟨e1, e2, e3, e4, e5, e6, e7, e8⟩, e9, mi, mv⟩
theorem wC_ok {cs : List Str} (h : (cs.all fun d => (whichOf d).isSome) = true) : ∀ d ∈ cs, ∃ x, whichOf d = some x := fun d hd => Option.isSome_iff_exists.mp (List.all_eq_true.mp h d hd)
theorem which_body {X : Cx} {a : Addr} {c x : Str} {body : List Stmt} (H : Hp) (hC : CallR X (.builtin "isinstance") (rIsE X.K (He.ga X.K c) a)) (cz : Clz X (He.ga X.K c) c) (hN : X.N = wN) (nd : X.N.Nodup) (hu : X.A.units + 65 < cLine) (hx : whichOf c = some x) (hw : whB X.env.scope body = true) :
    ∃ t, PSs X body t ∧ ∀ Dn : Ends, (∀ H', (∀ b o, H b = some o → H' b = some o) → Dn.rt (.str x) H') → t Dn [some (.ref a), none, none] H := by
  unfold whB at hw
  split at hw
  · simp only [Bool.and_eq_true, List.all_eq_true, beq_iff_eq] at hw
    obtain ⟨⟨⟨⟨⟨⟨⟨h1, h2⟩, h3⟩, h4⟩, h5⟩, h6⟩, h7⟩, hl⟩ := hw
    obtain ⟨p1, j, p2, p3, p4⟩ := w_place c x hx
    rw [List.map_append, List.map_append, List.map_append] at p1 p2 p3
    have ps3 : ∀ {st : Stmt}, w3 st = true → PS X st (fun Dn σ H => Dn.nx (σ.set 2 (some (.str wText))) H) := fun {st} h => by
      unfold w3 at h
      split at h
      · simp only [Bool.and_eq_true, beq_iff_eq] at h
        obtain ⟨rfl, rfl⟩ := h
        exact ps_set (i := 2) nd (by rw [hN]; rfl) (.inl (hl _ (by decide))) pe_str (swaps_no rfl) (.inr (hl _ (by decide)))
      · cases h
    have z1 : wC1.length = 4 := rfl
    have z2 : wC2.length = 4 := rfl
    have z3 : wC3.length = 4 := rfl
    have z4 : wC4.length = 4 := rfl
    have zs : sizeLine = 16777216 := by decide
    have b1 := ps_w1 (X := X) (H0 := H) hC cz hN nd hl (wC_ok (by decide +kernel)) (by omega) h1
    have b2 := ps_w2 (X := X) (H0 := H) (bs := wC1.map fun d => decide (d = c)) hC cz hN nd hl (wC_ok (by decide +kernel)) (by rw [w_len]; omega) h2
    have b3 := ps_w2 (X := X) (H0 := H) (bs := (wC1.map fun d => decide (d = c)) ++ wC2.map fun d => decide (d = c)) hC cz hN nd hl (wC_ok (by decide +kernel)) (by rw [List.length_append, w_len, w_len]; omega) h3
    have b4 := ps_w2 (X := X) (H0 := H) (bs := (wC1.map fun d => decide (d = c)) ++ (wC2.map fun d => decide (d = c)) ++ wC3.map fun d => decide (d = c)) hC cz hN nd hl (wC_ok (by decide +kernel)) (by rw [List.length_append, List.length_append, w_len, w_len, w_len]; omega) h4
    have b6 := ps_w4 (X := X) (x := wText) (H0 := H) hu hC cz hN hl p1 h6
    have b7 := ps_w5 (X := X) (c := c) (a := a) hN hl p2 p3 p4 h7
    refine ⟨_, pss_cons b1 (pss_cons b2 (pss_cons b3 (pss_cons b4 (pss_cons (ps3 h5) (pss_cons b6 (pss_one b7)))))), fun Dn q => ?_⟩
    refine ⟨rfl, rfl, fun s1 H1 w1 => ⟨w1, fun s2 H2 w2 => ⟨w2, fun s3 H3 w3 => ⟨w3, fun s4 H4 w4 => ?_⟩⟩⟩⟩
    obtain ⟨p, rfl, hp, gr⟩ := w4
    exact ⟨⟨p, _, rfl, rfl, hp⟩, ⟨p, rfl, hp⟩, fun H' g' => q H' fun b o hb => g' b o (gr b o hb)⟩
  · cases hw
end Py

namespace Py
open PySem PySem.Spec PyProof.Rows L2
theorem aux_of {X : Cx} {a : Addr} {c x : Str} {body : List Stmt} {Q : VK} {H : Hp} (hC : CallR X (.builtin "isinstance") (rIsE X.K (He.ga X.K c) a)) (cz : Clz X (He.ga X.K c) c) (hN : X.N = wN) (nd : X.N.Nodup) (hu : X.A.units + 65 < cLine) (hx : whichOf c = some x) (hw : whB X.env.scope body = true)
    (q : ∀ H', (∀ b o, H b = some o → H' b = some o) → Q (.str x) H') : ∃ t, PSs X body t ∧ t { nx := fun _ H' => Q .non H', rt := Q } [some (.ref a), none, none] H := by
  obtain ⟨t, h1, h2⟩ := which_body (a := a) H hC cz hN nd hu hx hw
  exact ⟨t, h1, h2 _ q⟩
theorem aux_mark {P : Program} {w : World} {K : PySem.W.Frag} {mg : Str → Option Value} {base : Heap} {scope : Scope} {f : Addr} {cdv : Value} {A : Around} {outer : List Env} {s : Shared} {H : Hp} {E : XK} {a D : Addr} {oe : Obj} (hA : A.mark (some (.ref a)) = A) : (L2H.cxH (L2.CX P w) P w K mg base wN "_law_which" scope f cdv A outer s H E (a, oe)).A.mark (some (.ref a)) = (L2H.cxH (L2.CX P w) P w K mg base wN "_law_which" scope f cdv A outer s H E (a, oe)).A := 
  congrArg (fun B : Around => B.deeper (envOfC "_law_which" scope s.heap.objs.size f cdv)) hA
theorem aux_units {P : Program} {w : World} {K : PySem.W.Frag} {mg : Str → Option Value} {base : Heap} {scope : Scope} {f : Addr} {cdv : Value} {A : Around} {outer : List Env} {s : Shared} {H : Hp} {E : XK} {a D : Addr} {oe : Obj} (room : L2H.RoomH 0 (A.deeper (envOfC "_law_which" scope s.heap.objs.size f cdv))) : (L2H.cxH (L2.CX P w) P w K mg base wN "_law_which" scope f cdv A outer s H E (a, oe)).A.units + 65 < cLine := by
  have h := room.un
  have e : (L2H.cxH (L2.CX P w) P w K mg base wN "_law_which" scope f cdv A outer s H E (a, oe)).A.units = (A.deeper (envOfC "_law_which" scope s.heap.objs.size f cdv)).units := rfl
  omega
theorem aux_clz {P : Program} {w : World} {K : PySem.W.Frag} {mg : Str → Option Value} {base : Heap} {scope : Scope} {f : Addr} {cdv : Value} {A : Around} {outer : List Env} {s : Shared} {H : Hp} {E : XK} {a D : Addr} {oe : Obj} (h : clzB K = true) (hg : ∀ c x, whichOf c = some x → mg c = some (.ref (He.ga K c))) (mi : mg "isinstance" = none) (mv : mg "ValueError" = none) {c x : Str} (hx : whichOf c = some x) : Clz (L2H.cxH (L2.CX P w) P w K mg base wN "_law_which" scope f cdv A outer s H E (a, oe)) (He.ga K c) c := 
  clz_of (K := K) (X := (L2H.cxH (L2.CX P w) P w K mg base wN "_law_which" scope f cdv A outer s H E (a, oe))) rfl h hg mi mv hx
theorem aux_pin {P : Program} {w : World} {K : PySem.W.Frag} {mg : Str → Option Value} {base : Heap} {scope : Scope} {f : Addr} {cdv : Value} {A : Around} {outer : List Env} {s : Shared} {H : Hp} {E : XK} {a D : Addr} {oe : Obj} (hA : A.mark (some (.ref a)) = A) {c : Str} (ex : ExcC K (He.ga K c)) (hz : Zc (.ref (He.ga K c)) none oe) (hf : ∃ vs, oe.data = .fields vs) : CallR (L2H.cxH (L2.CX P w) P w K mg base wN "_law_which" scope f cdv A outer s H E (a, oe)) (.builtin "isinstance") (rIsE K (He.ga K c) a) :=
  is_pin (X := (L2H.cxH (L2.CX P w) P w K mg base wN "_law_which" scope f cdv A outer s H E (a, oe))) (a := a) (D := He.ga K c) (oe := oe) List.mem_cons_self (aux_mark (D := D) hA) ex hz hf
theorem aux_cx {P : Program} {w : World} {K : PySem.W.Frag} {mg : Str → Option Value} {base : Heap} {body : List Stmt} {scope : Scope} {f : Addr} (S : FnScope wN ["_law_e"] scope) (hw : whB scope body = true)
    (h : clzB K = true) (hg : ∀ c x, whichOf c = some x → mg c = some (.ref (He.ga K c))) (mi : mg "isinstance" = none) (mv : mg "ValueError" = none)
    {cdv : Value} {A : Around} {outer : List Env} {s : Shared} {H : Hp} {Q : VK} {E : XK} {a D : Addr} {oe : Obj} (hA : A.mark (some (.ref a)) = A) (hz : Zc (.ref D) none oe) (hf : ∃ vs, oe.data = .fields vs)
    (room : L2H.RoomH 0 (A.deeper (envOfC "_law_which" scope s.heap.objs.size f cdv))) {c x : Str} (hx : whichOf c = some x) (hm : mg c = some (.ref D)) (q : ∀ H', (∀ b o, H b = some o → H' b = some o) → Q (.str x) H') :
    ∃ t, PSs (L2H.cxH (L2.CX P w) P w K mg base wN "_law_which" scope f cdv A outer s H E (a, oe)) body t ∧ t { nx := fun _ H' => Q .non H', rt := Q } [some (.ref a), none, none] H := by
  have eD : D = He.ga K c := mg_inj hm (hg c x hx)
  rw [eD] at hz
  have cz : Clz (L2H.cxH (L2.CX P w) P w K mg base wN "_law_which" scope f cdv A outer s H E (a, oe)) (He.ga K c) c := aux_clz (D := D) h hg mi mv hx
  exact aux_of (X := (L2H.cxH (L2.CX P w) P w K mg base wN "_law_which" scope f cdv A outer s H E (a, oe))) (aux_pin (D := D) hA cz.ex hz hf) cz (Eq.refl wN) S.nd (aux_units (D := D) room) hx hw q
theorem fnW_which {P : Program} {w : World} {K : PySem.W.Frag} {mg : Str → Option Value} {base : Heap} {params : Arguments} {body : List Stmt} {scope : Scope} {f : Addr} {fd : FuncData} (F : FunD K "_law_which" "_law_which" params body scope [] [] f fd) (S : FnScope wN ["_law_e"] scope) (hw : whB scope body = true)
    (h : clzB K = true) (hg : ∀ c x, whichOf c = some x → mg c = some (.ref (He.ga K c))) (mi : mg "isinstance" = none) (mv : mg "ValueError" = none) : FnW P w K mg base (L2.CX P w) 1 f fd ["_law_e"] (spWh mg) := by
  refine fnW_of F S (fun D a vs H Q E h => congrArg List.length h.1) fun cdv A outer s H vs Q E a D oe hA hz hf room hsp => ?_
  cases hsp.1
  exact Exists.elim hsp.2 fun c hc => Exists.elim hc fun x hx => aux_cx S hw h hg mi mv hA hz hf room hx.1 hx.2.1 hx.2.2
end Py

namespace Py
open PySem PySem.Spec PyProof.Rows L2
section
variable {K : PySem.W.Frag} {mg : Str → Option Value}
mutual
theorem cst_ok : ∀ (c : W) (u : Value), cst K c u = true → ∃ v, RelV v u ∧ ∀ io H, RW K mg io H c v
  | .non, u, h => by
    cases u with
    | none => exact ⟨.non, rfl, fun _ _ => rfl⟩
    | _ => cases h
  | .bl b, u, h => by
    cases u with
    | bool c =>
      have e : b = c := by
        have h : (b == c) = true := h
        exact eq_of_beq h
      subst e
      exact ⟨.bl b, rfl, fun _ _ => rfl⟩
    | _ => cases h
  | .int i, u, h => by
    cases u with
    | int j t =>
      have e : i = j := of_decide_eq_true h
      subst e
      exact ⟨.int i, ⟨t, rfl⟩, fun _ _ => rfl⟩
    | _ => cases h
  | .str x, u, h => by
    cases u with
    | str y t =>
      have e : x = y := of_decide_eq_true h
      subst e
      exact ⟨.str x, ⟨t, rfl⟩, fun _ _ => rfl⟩
    | _ => cases h
  | .tup ws, u, h => by
    cases u with
    | ref a =>
      have h : (match K.lookup a with
        | some ⟨.type c, _, .seq its _, _⟩ => decide (c = "tuple") && (decide (its.size ≤ sizeLine) && csts K ws its.toList)
        | _ => false) = true := h
      cases q : K.lookup a with
      | none =>
        rw [q] at h
        cases h
      | some o =>
        obtain ⟨oc, od, dt, osl⟩ := o
        rw [q] at h
        cases oc with
        | type c =>
          cases dt with
          | seq its n =>
            obtain ⟨h1, h2⟩ := He.ba h
            obtain ⟨h3, h4⟩ := He.ba h2
            obtain ⟨vs, h5, h6⟩ := csts_ok ws its.toList h4
            exact ⟨.ref a, rfl, fun io H => ⟨a, vs, rfl, .inr ⟨_, its, n, q, congrArg Value.type (of_decide_eq_true h1), rfl, of_decide_eq_true h3, h5⟩, h6 io H⟩⟩
          | _ => cases h
        | _ => cases dt <;> cases h
    | _ => cases h
  | .cl ws, u, h => by
    cases u with
    | ref a =>
      have h : (match K.lookup a with
        | some ⟨.type c, none, .seq its _, _⟩ => decide (c = "list") && (decide (its.size ≤ sizeLine) && csts K ws its.toList)
        | _ => false) = true := h
      cases q : K.lookup a with
      | none =>
        rw [q] at h
        cases h
      | some o =>
        obtain ⟨oc, od, dt, osl⟩ := o
        rw [q] at h
        cases oc with
        | type c =>
          cases od with
          | none =>
            cases dt with
            | seq its n =>
              obtain ⟨h1, h2⟩ := He.ba h
              obtain ⟨h3, h4⟩ := He.ba h2
              obtain ⟨vs, h5, h6⟩ := csts_ok ws its.toList h4
              exact ⟨.ref a, rfl, fun io H => ⟨a, vs, rfl, .inr ⟨_, its, n, q, congrArg Value.type (of_decide_eq_true h1), rfl, rfl, of_decide_eq_true h3, h5⟩, h6 io H⟩⟩
            | _ => cases h
          | some b => cases dt <;> cases h
        | _ => cases od <;> cases dt <;> cases h
    | _ => cases h
  | .loc _, _, h => by cases h
  | .fn _, _, h => by cases h
theorem csts_ok : ∀ (cs : List W) (us : List Value), csts K cs us = true → ∃ vs, Vals vs us ∧ ∀ io H, RWs K mg io H cs vs
  | [], us, h => by
    cases us with
    | nil => exact ⟨[], .nil, fun _ _ => rfl⟩
    | cons _ _ => cases h
  | w :: ws, us, h => by
    cases us with
    | nil => cases h
    | cons u r =>
      obtain ⟨h1, h2⟩ := He.ba (show (cst K w u && csts K ws r) = true from h)
      obtain ⟨v, h3, h4⟩ := cst_ok w u h1
      obtain ⟨vs, h5, h6⟩ := csts_ok ws r h2
      exact ⟨v :: vs, .cons h3 h5, fun io H => ⟨v, vs, rfl, h4 io H, h6 io H⟩⟩
end
end
theorem findR_mem {x : Str} : ∀ {rs : List Row} {r : Row}, findR rs x = some r → r ∈ rs ∧ r.x = x
  | [], r, h => by cases h
  | q :: rs, r, h => by
    have h : (if q.x = x then some q else findR rs x) = some r := h
    split at h
    · rename_i e
      cases h
      exact ⟨List.mem_cons_self, e⟩
    · have := findR_mem h
      exact ⟨List.mem_cons_of_mem _ this.1, this.2⟩
theorem findC_mem {α : Type} {x : Str} {c : α} : ∀ {rs : List (Str × α)}, findC rs x = some c → (x, c) ∈ rs
  | [], h => by cases h
  | q :: rs, h => by
    have h : (if q.1 = x then some q.2 else findC rs x) = some c := h
    split at h
    · rename_i e
      cases h
      subst e
      exact List.mem_cons_self
    · exact List.mem_cons_of_mem _ (findC_mem h)
theorem dsR (rs : List Row) (x : Str) : ((rs.map (·.x)).any fun d => decide (d = x)) = (tabR rs x).isSome := by
  induction rs with
  | nil => rfl
  | cons r rs ih =>
    show (decide (r.x = x) || ((rs.map (·.x)).any fun d => decide (d = x))) = ((if r.x = x then some r else findR rs x).map (·.fi)).isSome
    rw [ih]
    by_cases h : r.x = x
    · rw [if_pos h, decide_eq_true h]
      rfl
    · rw [if_neg h, decide_eq_false h]
      rfl
theorem fix_of {top : Nat → Stmt} {rs : List Row} {es : List Str} {xs : List He.Fa} {cs : List (Str × W)} {ts : List He.Tab} {tf : List He.Defn} {ex' : PySem.W.Frag → Bool} {w : World} {h h0 : Heap} {K : PySem.W.Frag} {mg : Str → Option Value} {wi : Option Nat}
    (c : He.SaysX (factsR rs es (xW wi ++ xs)) (rs.map (rowD top) ++ dW top wi) ts tf (fun K => consB cs K && (clzW wi K && ex' K)) w h0 K) (X : K.In h) (G : h.Ns mainGlobals mg) (hw : lookW top wi es = true) (hwb : ∀ i, wi = some i → BindR top (whR i))
    (hl : ∀ r ∈ rs, lookB top (rs.map (·.x)) r = true) (hb : ∀ r ∈ rs, BindR top r) : Fix K mg (tabR rs) (findC cs) (exR (exW wi es)) where
  rows := fun x fi hx => by
    unfold tabR at hx
    obtain ⟨r, h1, h2⟩ := Option.map_eq_some_iff.mp hx
    obtain ⟨h3, h4⟩ := findR_mem h1
    subst h2
    obtain ⟨h5, h6⟩ := He.ba (hl r h3)
    have d := c.t.d
    obtain ⟨fd, F⟩ := d.defs (d := rowD top r) (List.mem_append_left _ (List.mem_map_of_mem h3))
    have g := He.glo_ok X G (d.facts (f := .glo r.x) (List.mem_append_left _ (List.mem_map_of_mem (f := fun r : Row => He.Fa.glo r.x) h3)))
    have F' : FunD K r.y r.y (defArgs (top r.i)) (defBody (top r.i)) (defScope (top r.i)) [] [] (He.ga K r.x) fd := F
    refine ⟨top r.i, ⟨⟨r.y, He.ga K r.x, fd, by rw [← h4]; exact g, F', FunD.bindsN F' (hb r h3)⟩, h5⟩, ?_⟩
    have e : (fun x => (tabR rs x).isSome) = fun x => (rs.map (·.x)).any fun d => decide (d = x) := funext fun x => (dsR rs x).symm
    rw [e]
    exact h6
  con := fun x k hx => by
    have h1 := findC_mem hx
    have h2 := (He.ba c.more).1
    have h3 := List.all_eq_true.mp h2 _ h1
    have h3 : (match PySem.W.nsIn K mainGlobals x with
      | some (some u) => cst K k u
      | _ => false) = true := h3
    cases e : PySem.W.nsIn K mainGlobals x with
    | none =>
      rw [e] at h3
      cases h3
    | some o =>
      cases o with
      | none =>
        rw [e] at h3
        cases h3
      | some u =>
        rw [e] at h3
        obtain ⟨v, h4, h5⟩ := cst_ok (K := K) (mg := mg) k u h3
        exact ⟨u, v, PySem.W.mg_of X G e, h4, h5⟩
  blt := fun x hx => He.free_ok X G (c.t.d.facts (f := .free x) (List.mem_append_right _ (List.mem_append_right _ (List.mem_append_right _ (List.mem_append_left _ (List.mem_map_of_mem hx))))))
  wh := fun P w' base hx => by
    cases wi with
    | none =>
      have hw : (!(es.any fun e => decide (e = "_law_which"))) = true := hw
      have hx : (es.any fun e => decide (e = "_law_which")) = true := hx
      rw [hx] at hw
      cases hw
    | some i =>
      have hw : (scopeB (whR i).fi (defScope (top i)) && whB (defScope (top i)) (defBody (top i)) && (excNames.all fun p => es.any fun e => decide (e = p.1)) && es.any fun e => decide (e = "RestError")) = true := hw
      simp only [Bool.and_eq_true] at hw
      obtain ⟨⟨⟨w1, w2⟩, w3⟩, w4⟩ := hw
      have d := c.t.d
      obtain ⟨fd, F⟩ := d.defs (d := rowD top (whR i)) (List.mem_append_right _ List.mem_cons_self)
      have F' : FunD K "_law_which" "_law_which" (defArgs (top i)) (defBody (top i)) (defScope (top i)) [] [] (He.ga K "_law_which") fd := F
      have ge : ∀ e, (es.any fun z => decide (z = e)) = true → mg e = some (.ref (He.ga K e)) := fun e he => by
        obtain ⟨z, h1, h2⟩ := List.any_eq_true.mp he
        have h3 := of_decide_eq_true h2
        subst h3
        exact He.glo_ok X G (d.facts (f := .glo z) (List.mem_append_right _ (List.mem_append_left _ (List.mem_map_of_mem h1))))
      have g := He.glo_ok X G (d.facts (f := .glo "_law_which") (List.mem_append_right _ (List.mem_append_right _ (List.mem_append_right _ (List.mem_append_right _ (List.mem_append_left _ List.mem_cons_self))))))
      have fr : ∀ x ∈ bltNames, mg x = none := fun x hx => He.free_ok X G (c.t.d.facts (f := .free x) (List.mem_append_right _ (List.mem_append_right _ (List.mem_append_right _ (List.mem_append_left _ (List.mem_map_of_mem hx))))))
      have hz : clzB K = true := (He.ba (He.ba c.more).2).1
      have hg : ∀ c x, whichOf c = some x → mg c = some (.ref (He.ga K c)) := fun c x hc => ge c (List.all_eq_true.mp w3 _ (which_mem hc))
      refine ⟨⟨_, fd, g, F'.kp, FunD.bindsN F' (hwb i rfl), fnW_which F' (scopeB_ok w1) w2 hz hg (fr _ (by decide)) (fr _ (by decide))⟩, _, ge _ w4, fun c x C hc hC => ?_⟩
      have e := mg_inj hC (hg c x hc)
      subst e
      have h1 := List.all_eq_true.mp hz _ (which_mem hc)
      simp only [Bool.and_eq_true, decide_eq_true_eq] at h1
      exact h1.1.2
  exc := fun x hx hne => by
    have hx : (es.any fun e => decide (e = x)) = true := by
      cases wi with
      | none => exact hx
      | some i =>
        have hx : (decide ("_law_which" = x) || es.any fun e => decide (e = x)) = true := hx
        rw [Bool.or_eq_true, decide_eq_true_eq] at hx
        rcases hx with z | z
        · exact absurd z.symm hne
        · exact z
    obtain ⟨e, h1, h2⟩ := List.any_eq_true.mp hx
    have h3 := of_decide_eq_true h2
    subst h3
    exact ⟨He.ga K e, He.glo_ok X G (c.t.d.facts (f := .glo e) (List.mem_append_right _ (List.mem_append_left _ (List.mem_map_of_mem h1)))),
      He.exc_ok (c.t.d.facts (f := .exc e) (List.mem_append_right _ (List.mem_append_right _ (List.mem_append_left _ (List.mem_map_of_mem h1)))))⟩
theorem walk_row {top : Nat → Stmt} {rs : List Row} {es : List Str} {xs : List He.Fa} {cs : List (Str × W)} {ts : List He.Tab} {tf : List He.Defn} {ex' : PySem.W.Frag → Bool}
    {l : PySem.W.OpenLaw} {q : Program} {loose : List Str} {XP : (Str → Option Value) → Heap → Prop} {d : DefRec} {rl : Row} {x : Str} {k : Nat} {wi : Option Nat}
    (hn : l.most = some 63) (hdf : d.params.defaults = []) (hr : Room (k + 34 + 1) callerA) (hi : importsNone q = true) (hnt : l.prog.given.tree = none) (hd : d.name = rl.x) (hm : rl ∈ rs) (hps : rl.fi.ps = [x])
    (hl : ∀ r ∈ rs, lookB top (rs.map (·.x)) r = true) (hb : ∀ r ∈ rs, BindR top r) (hw : lookW top wi es = true) (hwb : ∀ i, wi = some i → BindR top (whR i)) (ht : tabR rs rl.x = some rl.fi)
    (law : ∀ ns : List Int, ns.length ≤ 63 → ∃ s', (gam (tabR rs) (findC cs) (exR (exW wi es)) (k + 1)).call rl.x [.cl (ns.map W.int)] [] = .ok (.bl true) s') :
    PySem.W.WalkO q loose XP (fun w h => ∃ K : PySem.W.Frag, K.In h ∧ He.SaysX (factsR rs es (xW wi ++ xs)) (rs.map (rowD top) ++ dW top wi) ts tf (fun K => consB cs K && (clzW wi K && ex' K)) w h K) l.row.toRowW d [] (fun f vs => PySem.call f vs) := by
  refine walk_py (n := 63) (k := k + 34 + 1) (x := x) hn (by decide) hdf hr hi fun w mg fa h Y G hmg => ?_
  obtain ⟨K, KX, c⟩ := Y
  have F := fix_of c KX G hw hwb hl hb
  have hmg : mg rl.x = some (.ref fa) := by rw [← hd]; exact hmg
  have dd := c.t.d
  obtain ⟨fd, FD⟩ := dd.defs (d := rowD top rl) (List.mem_append_left _ (List.mem_map_of_mem hm))
  have F' : FunD K rl.y rl.y (defArgs (top rl.i)) (defBody (top rl.i)) (defScope (top rl.i)) [] [] (He.ga K rl.x) fd := FD
  obtain ⟨h5, h6⟩ := He.ba (hl rl hm)
  have e : (fun x => (tabR rs x).isSome) = fun x => (rs.map (·.x)).any fun d => decide (d = x) := funext fun x => (dsR rs x).symm
  have ef : fa = He.ga K rl.x := by
    have g := He.glo_ok KX G (dd.facts (f := .glo rl.x) (List.mem_append_left _ (List.mem_map_of_mem (f := fun r : Row => He.Fa.glo r.x) hm)))
    cases hmg.symm.trans g
    rfl
  subst ef
  have hb1 := FunD.bindsA F' (hb rl hm)
  refine ⟨K, fd, spG K mg (gam (tabR rs) (findC cs) (exR (exW wi es)) (k + 1)) rl.x 1, KX, fun s u => ?_, fun H a ns hl' hO hS => ?_, fun base hKb hGb hN => ?_⟩
  · have := hb1 s [u] (by rw [hps]; rfl)
    rw [hps] at this
    exact this
  · obtain ⟨s', h⟩ := law ns hl'
    exact sp_law hO hS h
  · have := fn_succ (P := l.prog) (w := w) (base := base) ⟨hN, hnt⟩ (by omega) (mo_all ⟨hN, hnt⟩ F k) ht F' h5 (by rw [e]; exact h6)
    rw [hps] at this
    exact this
end Py

namespace Pl
open PySem Py
abbrev QK (α : Type) : Type := α → Sto → Prop
abbrev EK : Type := Str → Sto → Prop
def _root_.Py.R.wp {α : Type} (r : R α) (Q : QK α) (Z : EK) : Prop := match r with
  | .ok a s => Q a s
  | .exc c s => Z c s
  | .bad => False
section
variable {α β : Type} {Q Q' : QK α} {Z Z' : EK} {r : R α} {s : Sto} {g : G} {e : Sl}
@[simp] theorem wp_ok {a : α} : (R.ok a s).wp Q Z = Q a s := rfl
@[simp] theorem wp_exc {c : Str} : (R.exc c s).wp Q Z = Z c s := rfl
@[simp] theorem wp_bad : (R.bad : R α).wp Q Z = False := rfl
theorem wp_bind {f : α → Sto → R β} {Q : QK β} : (r.bind f).wp Q Z = r.wp (fun a s => (f a s).wp Q Z) Z := by cases r <;> rfl
theorem _root_.Py.R.wp.imp (h : r.wp Q Z) (i : ∀ a s, Q a s → Q' a s) (j : ∀ c s, Z c s → Z' c s) : r.wp Q' Z' := by
  cases r with
  | ok a s => exact i a s h
  | exc c s => exact j c s h
  | bad => exact h
theorem _root_.Py.R.wp.mono (h : r.wp Q Z) (i : ∀ a s, Q a s → Q' a s) : r.wp Q' Z := h.imp i fun _ _ h => h
theorem wp_noex (h : r.wp Q (fun _ _ => False)) : (R.noex r).wp Q Z := by
  cases r with
  | ok a s => exact h
  | exc c s => exact h.elim
  | bad => exact h.elim
end
section
variable {Q : QK W} {Z : EK} {s : Sto} {g : G} {e : Sl}
theorem e_var {i : Nat} {w : W} (h : e[i]? = some (some w)) (q : Q w s) : (ev g (.var i) e s).wp Q Z := by
  rw [ev, rslot, h]; exact q
theorem e_con {x : Str} {w : W} (h : g.con x = some w) (q : Q w s) : (ev g (.con x) e s).wp Q Z := by
  rw [ev, h]; exact q
theorem e_fref {x : Str} (h : g.df x = true) (q : Q (.fn x) s) : (ev g (.fref x) e s).wp Q Z := by
  rw [ev, if_pos h]; exact q
theorem e_int {i : Int} (q : Q (.int i) s) : (ev g (.int i) e s).wp Q Z := by rw [ev]; exact q
theorem e_bl {i : Bool} (q : Q (.bl i) s) : (ev g (.bl i) e s).wp Q Z := by rw [ev]; exact q
theorem e_non (q : Q .non s) : (ev g .non e s).wp Q Z := by rw [ev]; exact q
theorem e_str {i : Str} (q : Q (.str i) s) : (ev g (.str i) e s).wp Q Z := by rw [ev]; exact q
theorem e_bin {op : Bop} {a b : E} (q : (ev g a e s).wp (fun w s1 => (ev g b e s1).wp (fun u s2 => (bop op w u s2).wp Q Z) Z) Z) : (ev g (.bin op a b) e s).wp Q Z := by
  rw [ev, wp_bind]; simp only [wp_bind]; exact q
theorem e_neg {a : E} (q : (ev g a e s).wp (fun w s1 => (negW w s1).wp Q Z) Z) : (ev g (.neg a) e s).wp Q Z := by
  rw [ev, wp_bind]; exact q
theorem e_no {a : E} (q : (ev g a e s).wp (fun w s1 => ∃ b, w = .bl b ∧ Q (.bl (!b)) s1) Z) : (ev g (.no a) e s).wp Q Z := by
  rw [ev, wp_bind]
  refine q.mono fun w s1 h => ?_
  obtain ⟨b, rfl, h⟩ := h
  exact h
theorem e_cmp {op : Cop} {a b : E} (q : (ev g a e s).wp (fun w s1 => (ev g b e s1).wp (fun u s2 => (cop op w u s2).wp Q Z) Z) Z) : (ev g (.cmp op a b) e s).wp Q Z := by
  rw [ev, wp_bind]; simp only [wp_bind]; exact q
theorem e_chain {op op' : Cop} {a b c : E} (q : (ev g a e s).wp (fun w s1 => (ev g b e s1).wp (fun u s2 => (cop op w u s2).wp (fun z s3 => ∃ k, z = .bl k ∧ (k = true → (ev g c e s3).wp (fun v s4 => (cop op' u v s4).wp Q Z) Z) ∧ (k = false → Q (.bl false) s3)) Z) Z) Z) : (ev g (.chain op op' a b c) e s).wp Q Z := by
  rw [ev, wp_bind]; simp only [wp_bind]
  refine q.mono fun w s1 h => h.mono fun u s2 h => h.mono fun z s3 h => ?_
  obtain ⟨k, rfl, h1, h2⟩ := h
  cases k with
  | true => show ((ev g c e s3).bind fun v s4 => cop op' u v s4).wp Q Z; rw [wp_bind]; exact h1 rfl
  | false => exact h2 rfl
theorem e_and {a b : E} (q : (ev g a e s).wp (fun w s1 => ∃ k, w = .bl k ∧ (k = true → (ev g b e s1).wp Q Z) ∧ (k = false → Q (.bl false) s1)) Z) : (ev g (.and a b) e s).wp Q Z := by
  rw [ev, wp_bind]
  refine q.mono fun w s1 h => ?_
  obtain ⟨k, rfl, h1, h2⟩ := h
  cases k with
  | true => exact h1 rfl
  | false => exact h2 rfl
theorem e_or {a b : E} (q : (ev g a e s).wp (fun w s1 => ∃ k, w = .bl k ∧ (k = true → Q (.bl true) s1) ∧ (k = false → (ev g b e s1).wp Q Z)) Z) : (ev g (.or a b) e s).wp Q Z := by
  rw [ev, wp_bind]
  refine q.mono fun w s1 h => ?_
  obtain ⟨k, rfl, h1, h2⟩ := h
  cases k with
  | true => exact h1 rfl
  | false => exact h2 rfl
theorem e_one {a : E} (q : (ev g a e s).wp Q Z) : (ev g (.one a) e s).wp Q Z := by rw [ev]; exact q
theorem e_ite {c a b : E} (q : (evT g c e s).wp (fun k s1 => (k = true → (ev g a e s1).wp Q Z) ∧ (k = false → (ev g b e s1).wp Q Z)) Z) : (ev g (.ite c a b) e s).wp Q Z := by
  rw [ev, wp_bind]
  refine q.mono fun k s1 h => ?_
  cases k with
  | true => exact h.1 rfl
  | false => exact h.2 rfl
theorem e_tup {as : E} (q : (evs g as e s).wp (fun ws s1 => ws.length ≤ sizeLine ∧ Q (.tup ws) s1) Z) : (ev g (.tup as) e s).wp Q Z := by
  rw [ev, wp_bind]
  refine q.mono fun ws s1 h => ?_
  rw [if_pos h.1]; exact h.2
theorem e_lst {as : E} (q : (evs g as e s).wp (fun ws s1 => ws.length ≤ sizeLine ∧ Q (.loc s1.length) (s1 ++ [ws])) Z) : (ev g (.lst as) e s).wp Q Z := by
  rw [ev, wp_bind]
  refine q.mono fun ws s1 h => ?_
  rw [if_pos h.1]; exact h.2
theorem e_ix {a b : E} (q : (ev g a e s).wp (fun w s1 => (ev g b e s1).wp (fun u s2 => (ixW w u s2).wp Q Z) Z) Z) : (ev g (.ix a b) e s).wp Q Z := by
  rw [ev, wp_bind]; simp only [wp_bind]; exact q
theorem e_sl {a lo hi : E} (q : (ev g a e s).wp (fun w s1 => (evO g lo e s1).wp (fun l s2 => (evO g hi e s2).wp (fun h s3 => (slW w l h s3).wp Q Z) Z) Z) Z) : (ev g (.sl a lo hi) e s).wp Q Z := by
  rw [ev, wp_bind]; simp only [wp_bind]; exact q
theorem e_rv {a : E} (q : (ev g a e s).wp (fun w s1 => ∃ ws, lsq w s1 = some ws ∧ Q (.loc s1.length) (s1 ++ [ws.reverse])) Z) : (ev g (.rv a) e s).wp Q Z := by
  rw [ev, wp_bind]
  refine q.mono fun w s1 h => ?_
  obtain ⟨ws, h1, h2⟩ := h
  rw [h1]; exact h2
theorem e_call {x : Str} {as : E} (q : (evs g as e s).wp (fun ws s1 => (g.call x ws s1).wp Q Z) Z) : (ev g (.call x as) e s).wp Q Z := by
  rw [ev, wp_bind]; exact q
theorem e_callv {i : Nat} {x : Str} {as : E} (h : e[i]? = some (some (.fn x))) (d : g.df x = true) (q : (evs g as e s).wp (fun ws s1 => (g.call x ws s1).wp Q Z) Z) : (ev g (.callv i as) e s).wp Q Z := by
  rw [ev, h]
  show (if g.df x then (evs g as e s).bind fun ws s1 => g.call x ws s1 else .bad).wp Q Z
  rw [if_pos d, wp_bind]; exact q
theorem e_bi {f : Bi} {as : E} (q : (evs g as e s).wp (fun ws s1 => (biW f ws s1).wp Q Z) Z) : (ev g (.bi f as) e s).wp Q Z := by
  rw [ev, wp_bind]; exact q
theorem e_mt {m : Mt} {o as : E} (q : (ev g o e s).wp (fun w s1 => isLoc w s1 = true ∧ (evs g as e s1).wp (fun ws s2 => (mtW m w ws s2).wp Q Z) Z) Z) : (ev g (.mt m o as) e s).wp Q Z := by
  rw [ev, wp_bind]
  refine q.mono fun w s1 h => ?_
  rw [if_pos h.1, wp_bind]; exact h.2
theorem e_isi {a : E} {t : Ty} (q : (ev g a e s).wp (fun w s1 => ∃ b, isiW t w = some b ∧ Q (.bl b) s1) Z) : (ev g (.isi a t) e s).wp Q Z := by
  rw [ev, wp_bind]
  refine q.mono fun w s1 h => ?_
  obtain ⟨b, h1, h2⟩ := h
  rw [h1]; exact h2
def cmpFl (g : G) (own : List (Str × Nat)) (tg : Tn) (cond elt : E) (e : Sl) (w : W) (s2 : Sto) : R (Option W) := match tnSet tg w (wipeS e (own.map Prod.snd)) with
  | none => R.bad
  | some e' => (evT g cond e' s2).bind fun k s3 => if k then (ev g elt e' s3).bind fun v s4 => R.ok (some v) s4 else R.ok none s3
theorem e_comp {own : List (Str × Nat)} {tg : Tn} {k : Ik} {as cond elt : E} (q : (evs g as e s).wp (fun ws s1 => ∃ src, srcOf k ws s1 = some src ∧ (compL (fun w s2 => R.noex (cmpFl g own tg cond elt e w s2)) big src 0 [] s1).wp (fun acc s2 => Q (.loc s2.length) (s2 ++ [acc])) Z) Z) :
    (ev g (.comp own tg k as cond elt) e s).wp Q Z := by
  rw [ev, wp_bind]
  refine q.mono fun ws s1 h => ?_
  obtain ⟨src, h1, h2⟩ := h
  rw [h1]
  show ((compL (fun w s2 => R.noex (cmpFl g own tg cond elt e w s2)) big src 0 [] s1).bind fun acc s2 => alloc acc s2).wp Q Z
  rw [wp_bind]
  exact h2
theorem cmpFl_wp {own : List (Str × Nat)} {tg : Tn} {cond elt : E} {w : W} {e' : Sl} {Q : QK (Option W)} (h : tnSet tg w (wipeS e (own.map Prod.snd)) = some e')
    (q : (evT g cond e' s).wp (fun k s1 => (k = true → (ev g elt e' s1).wp (fun v s2 => Q (some v) s2) fun _ _ => False) ∧ (k = false → Q none s1)) fun _ _ => False) : (R.noex (cmpFl g own tg cond elt e w s)).wp Q Z := by
  refine wp_noex ?_
  unfold cmpFl
  rw [h]
  show ((evT g cond e' s).bind _).wp Q _
  rw [wp_bind]
  refine q.mono fun k s1 h => ?_
  cases k with
  | true =>
    show ((ev g elt e' s1).bind _).wp Q _
    rw [wp_bind]
    exact h.1 rfl
  | false => exact h.2 rfl
end
section
variable {Q : QK (List W)} {Z : EK} {s : Sto} {g : G} {e : Sl}
theorem es_nil (q : Q [] s) : (evs g .nil e s).wp Q Z := by rw [evs]; exact q
theorem es_cons {a as : E} (q : (ev g a e s).wp (fun w s1 => (evs g as e s1).wp (fun ws s2 => Q (w :: ws) s2) Z) Z) : (evs g (.cons a as) e s).wp Q Z := by
  rw [evs, wp_bind]; simp only [wp_bind]; exact q
end
section
variable {Q : QK (Option Int)} {Z : EK} {s : Sto} {g : G} {e : Sl}
theorem eo_nil (q : Q none s) : (evO g .nil e s).wp Q Z := by rw [evO]; exact q
theorem eo_one {a : E} (q : (ev g a e s).wp (fun w s1 => ∃ i, w = .int i ∧ Q (some i) s1) Z) : (evO g (.one a) e s).wp Q Z := by
  rw [evO, wp_bind]
  refine q.mono fun w s1 h => ?_
  obtain ⟨i, rfl, h⟩ := h
  exact h
end
section
variable {Q : QK Bool} {Z : EK} {s : Sto} {g : G} {e : Sl}
theorem t_and {a b : E} (q : (evT g a e s).wp (fun k s1 => (k = true → (evT g b e s1).wp Q Z) ∧ (k = false → Q false s1)) Z) : (evT g (.and a b) e s).wp Q Z := by
  rw [evT, wp_bind]
  refine q.mono fun k s1 h => ?_
  cases k with
  | true => exact h.1 rfl
  | false => exact h.2 rfl
theorem t_or {a b : E} (q : (evT g a e s).wp (fun k s1 => (k = true → Q true s1) ∧ (k = false → (evT g b e s1).wp Q Z)) Z) : (evT g (.or a b) e s).wp Q Z := by
  rw [evT, wp_bind]
  refine q.mono fun k s1 h => ?_
  cases k with
  | true => exact h.1 rfl
  | false => exact h.2 rfl
theorem t_no {a : E} (q : (evT g a e s).wp (fun k s1 => Q (!k) s1) Z) : (evT g (.no a) e s).wp Q Z := by
  rw [evT, wp_bind]; exact q
theorem t_one {a : E} (q : (evT g a e s).wp Q Z) : (evT g (.one a) e s).wp Q Z := by rw [evT]; exact q
theorem t_nil (q : Q true s) : (evT g .nil e s).wp Q Z := by rw [evT]; exact q
def bQ (Q : QK Bool) : QK W := fun z s => ∃ b, z = .bl b ∧ Q b s
theorem toB_wp {z : W} (h : bQ Q z s) : (toB z s).wp Q Z := by
  obtain ⟨b, rfl, h⟩ := h
  exact h
theorem t_cmp {op : Cop} {a b : E} (q : (ev g a e s).wp (fun w s1 => (ev g b e s1).wp (fun u s2 => (cop op w u s2).wp (bQ Q) Z) Z) Z) : (evT g (.cmp op a b) e s).wp Q Z := by
  rw [evT, wp_bind]; simp only [wp_bind]
  exact q.mono fun w s1 h => h.mono fun u s2 h => h.mono fun z s3 h => toB_wp h
theorem t_chain {op op' : Cop} {a b c : E} (q : (ev g a e s).wp (fun w s1 => (ev g b e s1).wp (fun u s2 => (cop op w u s2).wp (bQ fun k s3 => (k = true → (ev g c e s3).wp (fun v s4 => (cop op' u v s4).wp (bQ Q) Z) Z) ∧ (k = false → Q false s3)) Z) Z) Z) : (evT g (.chain op op' a b c) e s).wp Q Z := by
  rw [evT, wp_bind]; simp only [wp_bind]
  refine q.mono fun w s1 h => h.mono fun u s2 h => h.mono fun z s3 h => ?_
  obtain ⟨k, rfl, h1, h2⟩ := h
  cases k with
  | true =>
    show ((ev g c e s3).bind fun v s4 => (cop op' u v s4).bind fun z s5 => toB z s5).wp Q Z
    rw [wp_bind]
    refine (h1 rfl).mono fun v s4 h => ?_
    rw [wp_bind]
    exact h.mono fun z s5 h => toB_wp h
  | false => exact h2 rfl
theorem t_var {i : Nat} {w : W} {b : Bool} (h : e[i]? = some (some w)) (t : truW w s = some b) (q : Q b s) : (evT g (.var i) e s).wp Q Z := by
  rw [evT, rslot, h]
  show (toT w s).wp Q Z
  unfold toT
  rw [t]; exact q
def tQ (Q : QK Bool) : QK W := fun w s => ∃ b, truW w s = some b ∧ Q b s
theorem toT_wp {z : W} (h : tQ Q z s) : (toT z s).wp Q Z := by
  obtain ⟨b, h1, h⟩ := h
  unfold toT
  rw [h1]
  exact h
theorem t_call {x : Str} {as : E} (q : (evs g as e s).wp (fun ws s1 => (g.call x ws s1).wp (tQ Q) Z) Z) : (evT g (.call x as) e s).wp Q Z := by
  rw [evT, wp_bind]; simp only [wp_bind]
  exact q.mono fun w s1 h => h.mono fun z s3 h => toT_wp h
theorem t_bi {f : Bi} {as : E} (q : (evs g as e s).wp (fun ws s1 => (biW f ws s1).wp (tQ Q) Z) Z) : (evT g (.bi f as) e s).wp Q Z := by
  rw [evT, wp_bind]; simp only [wp_bind]
  exact q.mono fun w s1 h => h.mono fun z s3 h => toT_wp h
theorem t_isi {a : E} {t : Ty} (q : (ev g a e s).wp (fun w s1 => ∃ b, isiW t w = some b ∧ Q b s1) Z) : (evT g (.isi a t) e s).wp Q Z := by
  rw [evT, wp_bind]; simp only [wp_bind]
  refine q.mono fun w s1 h => ?_
  obtain ⟨b, h1, h2⟩ := h
  rw [h1]; exact h2
end
section
variable {Q : QK Fl} {Z : EK} {s : Sto} {g : G} {e : Sl}
def nxQ (g : G) (k : B) (Q : QK Fl) (Z : EK) : QK Fl := fun fl s => match fl with
  | .nx e => (exS g k e s).wp Q Z
  | f => Q f s
theorem thn_wp {r : R Fl} {k : B} (h : r.wp (nxQ g k Q Z) Z) : (thn r (exS g k)).wp Q Z := by
  unfold thn
  rw [wp_bind]
  refine h.mono fun fl s h => ?_
  cases fl <;> exact h
theorem nx_nx {k : B} (q : (exS g k e s).wp Q Z) : nxQ g k Q Z (.nx e) s := q
theorem nx_rt {k : B} {w : W} (q : Q (.rt w) s) : nxQ g k Q Z (.rt w) s := q
theorem nx_bk {k : B} (q : Q (.bk e) s) : nxQ g k Q Z (.bk e) s := q
theorem nx_ct {k : B} (q : Q (.ct e) s) : nxQ g k Q Z (.ct e) s := q
theorem x_done (q : Q (.nx e) s) : (exS g .done e s).wp Q Z := by rw [exS]; exact q
theorem x_set {i : Nat} {v : E} {k : B} (q : (ev g v e s).wp (fun w s1 => (exS g k (e.set i (some w)) s1).wp Q Z) Z) : (exS g (.asg (.name i) v k) e s).wp Q Z := by
  rw [exS, wp_bind]
  refine q.mono fun w s1 h => ?_
  rw [asg]
  exact h
theorem x_asg {t : Ta} {v : E} {k : B} (q : (ev g v e s).wp (fun w s1 => (asg g t w e s1).wp (fun e1 s2 => (exS g k e1 s2).wp Q Z) Z) Z) : (exS g (.asg t v k) e s).wp Q Z := by
  rw [exS, wp_bind]
  refine q.mono fun w s1 h => ?_
  rw [wp_bind]
  exact h
theorem x_par2 {i j : Nat} {a b : E} {k : B} (q : (ev g a e s).wp (fun w s1 => (ev g b e s1).wp (fun u s2 => (exS g k ((e.set i (some w)).set j (some u)) s2).wp Q Z) Z) Z) : (exS g (.par2 i j a b k) e s).wp Q Z := by
  rw [exS, wp_bind]; simp only [wp_bind]; exact q
theorem x_par3 {i j l : Nat} {a b c : E} {k : B} (q : (ev g a e s).wp (fun w s1 => (ev g b e s1).wp (fun u s2 => (ev g c e s2).wp (fun v s3 => (exS g k (((e.set i (some w)).set j (some u)).set l (some v)) s3).wp Q Z) Z) Z) Z) : (exS g (.par3 i j l a b c k) e s).wp Q Z := by
  rw [exS, wp_bind]; simp only [wp_bind]; exact q
theorem x_add {i : Nat} {x : Int} {v : E} {k : B} (h : e[i]? = some (some (.int x))) (q : (ev g v e s).wp (fun u s1 => ∃ y, u = .int y ∧ (exS g k (e.set i (some (.int (x + y)))) s1).wp Q Z) Z) : (exS g (.aug i .add v k) e s).wp Q Z := by
  rw [exS, rslot, h]
  show ((ev g v e s).bind _).wp Q Z
  rw [wp_bind]
  refine q.mono fun u s1 h => ?_
  obtain ⟨y, rfl, h⟩ := h
  exact h
theorem x_sub {i : Nat} {x : Int} {v : E} {k : B} (h : e[i]? = some (some (.int x))) (q : (ev g v e s).wp (fun u s1 => ∃ y, u = .int y ∧ (exS g k (e.set i (some (.int (x - y)))) s1).wp Q Z) Z) : (exS g (.aug i .sub v k) e s).wp Q Z := by
  rw [exS, rslot, h]
  show ((ev g v e s).bind _).wp Q Z
  rw [wp_bind]
  refine q.mono fun u s1 h => ?_
  obtain ⟨y, rfl, h⟩ := h
  exact h
theorem x_ite {c : E} {t f k : B} (q : (evT g c e s).wp (fun b s1 => (b = true → (exS g t e s1).wp (nxQ g k Q Z) Z) ∧ (b = false → (exS g f e s1).wp (nxQ g k Q Z) Z)) Z) : (exS g (.ite c t f k) e s).wp Q Z := by
  rw [exS, wp_bind]
  refine q.mono fun b s1 h => thn_wp ?_
  cases b with
  | true => exact h.1 rfl
  | false => exact h.2 rfl
theorem x_whl {c : E} {b k : B} (q : (whileL (evT g c) (exS g b) big e s).wp (nxQ g k Q Z) Z) : (exS g (.whl c b k) e s).wp Q Z := by
  rw [exS]; exact thn_wp q
def forF (g : G) (t : Tn) (b : B) (w : W) (e : Sl) (s : Sto) : R Fl := match tnSet t w e with
  | none => .bad
  | some e' => exS g b e' s
theorem x_for {t : Tn} {ik : Ik} {as : E} {b k : B} (q : (evs g as e s).wp (fun ws s1 => ∃ src, srcOf ik ws s1 = some src ∧ (forL (forF g t b) big src 0 e s1).wp (nxQ g k Q Z) Z) Z) : (exS g (.for_ t ik as b k) e s).wp Q Z := by
  rw [exS, wp_bind]
  refine q.mono fun ws s1 h => ?_
  obtain ⟨src, h1, h2⟩ := h
  rw [h1]
  exact thn_wp h2
theorem x_ret {v : E} {k : B} (q : (ev g v e s).wp (fun w s1 => Q (.rt w) s1) Z) : (exS g (.ret v k) e s).wp Q Z := by
  rw [exS, wp_bind]; exact q
theorem x_retn {k : B} (q : Q (.rt .non) s) : (exS g (.retn k) e s).wp Q Z := by rw [exS]; exact q
theorem x_brk {k : B} (q : Q (.bk e) s) : (exS g (.brk k) e s).wp Q Z := by rw [exS]; exact q
theorem x_ct {k : B} (q : Q (.ct e) s) : (exS g (.ct k) e s).wp Q Z := by rw [exS]; exact q
theorem x_pass {k : B} (q : (exS g k e s).wp Q Z) : (exS g (.pass k) e s).wp Q Z := by rw [exS]; exact q
theorem x_exp {v : E} {k : B} (q : (ev g v e s).wp (fun _ s1 => (exS g k e s1).wp Q Z) Z) : (exS g (.exp v k) e s).wp Q Z := by
  rw [exS, wp_bind]; exact q
theorem x_raise {c : Str} {k : B} (h : g.ex c = true) (q : Z c s) : (exS g (.raise c k) e s).wp Q Z := by
  rw [exS, if_pos h]; exact q
def lpQ (I : Sl → Sto → Prop) (Q : QK Fl) : QK Fl := fun fl s => match fl with
  | .nx e => I e s
  | .ct e => I e s
  | .bk e => Q (.nx e) s
  | .rt w => Q (.rt w) s
theorem lp_nx {I : Sl → Sto → Prop} (h : I e s) : lpQ I Q (.nx e) s := h
theorem lp_ct {I : Sl → Sto → Prop} (h : I e s) : lpQ I Q (.ct e) s := h
theorem lp_bk {I : Sl → Sto → Prop} (h : Q (.nx e) s) : lpQ I Q (.bk e) s := h
theorem lp_rt {I : Sl → Sto → Prop} {w : W} (h : Q (.rt w) s) : lpQ I Q (.rt w) s := h
end
def fnQ (Q : QK W) : QK Fl := fun fl s => match fl with
  | .nx _ => Q .non s
  | .rt w => Q w s
  | _ => False
theorem fn_nx {Q : QK W} {e : Sl} {s : Sto} (h : Q .non s) : fnQ Q (.nx e) s := h
theorem fn_rt {Q : QK W} {w : W} {s : Sto} (h : Q w s) : fnQ Q (.rt w) s := h
theorem call_wp {T : Str → Option Fi} {C : Str → Option W} {X : Str → Bool} {k : Nat} {x : Str} {fi : Fi} {ws : List W} {s : Sto} {Q : QK W} {Z : EK} (h : T x = some fi) (hl : ws.length = fi.ps.length)
    (q : (exS (gam T C X k) fi.body (ws.map some ++ List.replicate (fi.names.length - ws.length) none) s).wp (fnQ Q) Z) : ((gam T C X (k + 1)).call x ws s).wp Q Z := by
  show (match T x with
    | some fi => evF (gam T C X k) fi ws s
    | none => .bad : R W).wp Q Z
  rw [h]
  show (evF (gam T C X k) fi ws s).wp Q Z
  unfold evF
  rw [if_pos hl, wp_bind]
  refine q.mono fun fl s1 h => ?_
  cases fl <;> exact h
end Pl

namespace Pl
open PySem Py
section
variable {Q : QK W} {Z : EK} {s : Sto}
theorem o_add {i j : Int} (q : Q (.int (i + j)) s) : (bop .add (.int i) (.int j) s).wp Q Z := q
theorem o_sub {i j : Int} (q : Q (.int (i - j)) s) : (bop .sub (.int i) (.int j) s).wp Q Z := q
theorem o_mul {i j : Int} (h : bitsOk i j = true) (q : Q (.int (i * j)) s) : (bop .mul (.int i) (.int j) s).wp Q Z := by
  show (if bitsOk i j then R.ok (.int (i * j)) s else .bad : R W).wp Q Z
  rw [if_pos h]; exact q
theorem o_div {i j : Int} (h : divOk j = true) (q : Q (.int (i.fdiv j)) s) : (bop .fdiv (.int i) (.int j) s).wp Q Z := by
  show (if divOk j then R.ok (.int (i.fdiv j)) s else .bad : R W).wp Q Z
  rw [if_pos h]; exact q
theorem o_mod {i j : Int} (h : j ≠ 0) (q : Q (.int (i.fmod j)) s) : (bop .mod (.int i) (.int j) s).wp Q Z := by
  show (if j ≠ 0 then R.ok (.int (i.fmod j)) s else .bad : R W).wp Q Z
  rw [if_pos h]; exact q
theorem o_pow {i j : Int} (h : powOk i j = true) (q : Q (.int (i ^ j.toNat)) s) : (bop .pow (.int i) (.int j) s).wp Q Z := by
  show (if powOk i j then R.ok (.int (i ^ j.toNat)) s else .bad : R W).wp Q Z
  rw [if_pos h]; exact q
theorem o_adb {i : Int} {b : Bool} (q : Q (.int (i + PyProof.Rows.b2i b)) s) : (bop .add (.int i) (.bl b) s).wp Q Z := q
theorem o_rep {a : Nat} {k : Int} {xs : List W} (h : s[a]? = some xs) (h1 : -(2 ^ 63) ≤ k ∧ k < 2 ^ 63) (l : xs.length * k.toNat ≤ sizeLine) (q : Q (.loc s.length) (s ++ [(List.replicate k.toNat xs).flatten])) : (bop .mul (.loc a) (.int k) s).wp Q Z := by
  show (match s[a]? with
    | some xs => if -(2 ^ 63) ≤ k ∧ k < 2 ^ 63 ∧ xs.length * k.toNat ≤ sizeLine then alloc (List.replicate k.toNat xs).flatten s else .bad
    | none => .bad : R W).wp Q Z
  rw [h]
  show (if -(2 ^ 63) ≤ k ∧ k < 2 ^ 63 ∧ xs.length * k.toNat ≤ sizeLine then alloc (List.replicate k.toNat xs).flatten s else .bad : R W).wp Q Z
  rw [if_pos ⟨h1.1, h1.2, l⟩]; exact q
theorem o_neg {i : Int} (q : Q (.int (-i)) s) : (negW (.int i) s).wp Q Z := q
theorem o_lt {i j : Int} (q : Q (.bl (decide (i < j))) s) : (cop .lt (.int i) (.int j) s).wp Q Z := q
theorem o_le {i j : Int} (q : Q (.bl (decide (i ≤ j))) s) : (cop .le (.int i) (.int j) s).wp Q Z := q
theorem o_gt {i j : Int} (q : Q (.bl (decide (j < i))) s) : (cop .gt (.int i) (.int j) s).wp Q Z := q
theorem o_ge {i j : Int} (q : Q (.bl (decide (j ≤ i))) s) : (cop .ge (.int i) (.int j) s).wp Q Z := q
theorem o_eqi {i j : Int} (q : Q (.bl (decide (i = j))) s) : (cop .eq (.int i) (.int j) s).wp Q Z := q
theorem o_nei {i j : Int} (q : Q (.bl (!decide (i = j))) s) : (cop .ne (.int i) (.int j) s).wp Q Z := q
theorem o_isN {a : W} (q : Q (.bl (isNon a)) s) : (cop .isN a .non s).wp Q Z := by cases a <;> exact q
theorem o_notN {a : W} (q : Q (.bl (!isNon a)) s) : (cop .notN a .non s).wp Q Z := by cases a <;> exact q
theorem o_isB {a b : Bool} (q : Q (.bl (decide (a = b))) s) : (cop .isB (.bl a) (.bl b) s).wp Q Z := q
theorem o_notB {a b : Bool} (q : Q (.bl (!decide (a = b))) s) : (cop .notB (.bl a) (.bl b) s).wp Q Z := q
theorem o_ixt {ws : List W} {i : Int} {w : W} (h : atW ws i = some w) (q : Q w s) : (ixW (.tup ws) (.int i) s).wp Q Z := by
  show (match atW ws i with
    | some w => R.ok w s
    | none => .bad : R W).wp Q Z
  rw [h]; exact q
theorem o_ix {w u : W} {ws : List W} {i : Int} (hl : lsq w s = some ws) (h : atW ws i = some u) (q : Q u s) : (ixW w (.int i) s).wp Q Z := by
  have : ixW w (.int i) s = .ok u s := by
    cases w with
    | loc n =>
      show (match lsq (.loc n) s with
        | some ws => match atW ws i with
          | some w => R.ok w s
          | none => .bad
        | none => .bad : R W) = _
      rw [hl]
      show (match atW ws i with
          | some w => R.ok w s
          | none => .bad : R W) = _
      rw [h]
    | cl n =>
      show (match lsq (.cl n) s with
        | some ws => match atW ws i with
          | some w => R.ok w s
          | none => .bad
        | none => .bad : R W) = _
      rw [hl]
      show (match atW ws i with
          | some w => R.ok w s
          | none => .bad : R W) = _
      rw [h]
    | _ => cases hl
  rw [this]; exact q
theorem o_sl {w : W} {ws : List W} {lo hi : Option Int} (hl : lsq w s = some ws) (q : Q (.loc s.length) (s ++ [cutW ws lo hi])) : (slW w lo hi s).wp Q Z := by
  have : slW w lo hi s = alloc (cutW ws lo hi) s := by
    cases w with
    | loc n =>
      show (match lsq (.loc n) s with
        | some ws => alloc (cutW ws lo hi) s
        | none => .bad : R W) = _
      rw [hl]
    | cl n =>
      show (match lsq (.cl n) s with
        | some ws => alloc (cutW ws lo hi) s
        | none => .bad : R W) = _
      rw [hl]
    | _ => cases hl
  rw [this]; exact q
theorem o_abs {i : Int} (q : Q (.int i.natAbs) s) : (biW .abs [.int i] s).wp Q Z := by
  have e : (if i < 0 then -i else i) = (i.natAbs : Int) := by split <;> omega
  show Q (.int (if i < 0 then -i else i)) s
  rw [e]; exact q
theorem o_max {i j : Int} (q : Q (.int (max i j)) s) : (biW .max2 [.int i, .int j] s).wp Q Z := by
  have e : (if j > i then j else i) = max i j := by split <;> omega
  show Q (.int (if j > i then j else i)) s
  rw [e]; exact q
theorem o_min {i j : Int} (q : Q (.int (min i j)) s) : (biW .min2 [.int i, .int j] s).wp Q Z := by
  have e : (if j < i then j else i) = min i j := by split <;> omega
  show Q (.int (if j < i then j else i)) s
  rw [e]; exact q
theorem o_int {i : Int} (q : Q (.int i) s) : (biW .int [.int i] s).wp Q Z := q
theorem o_intb {b : Bool} (q : Q (.int (if b then 1 else 0)) s) : (biW .int [.bl b] s).wp Q Z := q
theorem o_lent {ws : List W} (q : Q (.int ws.length) s) : (biW .len [.tup ws] s).wp Q Z := q
theorem o_len {w : W} {ws : List W} (hl : lsq w s = some ws) (q : Q (.int ws.length) s) : (biW .len [w] s).wp Q Z := by
  have : biW .len [w] s = .ok (.int ws.length) s := by
    cases w with
    | loc n =>
      show (match lsq (.loc n) s with
        | some ws => R.ok (.int ws.length) s
        | none => .bad : R W) = _
      rw [hl]
    | cl n =>
      show (match lsq (.cl n) s with
        | some ws => R.ok (.int ws.length) s
        | none => .bad : R W) = _
      rw [hl]
    | _ => cases hl
  rw [this]; exact q
theorem o_listt {ws : List W} (q : Q (.loc s.length) (s ++ [ws])) : (biW .list [.tup ws] s).wp Q Z := q
theorem o_list {w : W} {ws : List W} (hl : lsq w s = some ws) (q : Q (.loc s.length) (s ++ [ws])) : (biW .list [w] s).wp Q Z := by
  have : biW .list [w] s = alloc ws s := by
    cases w with
    | loc n =>
      show (match lsq (.loc n) s with
        | some ws => alloc ws s
        | none => .bad : R W) = _
      rw [hl]
    | cl n =>
      show (match lsq (.cl n) s with
        | some ws => alloc ws s
        | none => .bad : R W) = _
      rw [hl]
    | _ => cases hl
  rw [this]; exact q
theorem o_tuple {w : W} {ws : List W} (hl : lsq w s = some ws) (q : Q (.tup ws) s) : (biW .tuple [w] s).wp Q Z := by
  have : biW .tuple [w] s = .ok (.tup ws) s := by
    cases w with
    | loc n =>
      show (match lsq (.loc n) s with
        | some ws => R.ok (.tup ws) s
        | none => .bad : R W) = _
      rw [hl]
    | cl n =>
      show (match lsq (.cl n) s with
        | some ws => R.ok (.tup ws) s
        | none => .bad : R W) = _
      rw [hl]
    | _ => cases hl
  rw [this]; exact q
theorem o_all {w : W} {ws : List W} {bs : List Bool} (hl : lsq w s = some ws) (hb : bools ws = some bs) (q : Q (.bl (bs.all id)) s) : (biW .all [w] s).wp Q Z := by
  show (match (lsq w s).bind bools with
    | some bs => R.ok (.bl (bs.all id)) s
    | none => .bad : R W).wp Q Z
  rw [hl, Option.bind_some, hb]; exact q
theorem o_any {w : W} {ws : List W} {bs : List Bool} (hl : lsq w s = some ws) (hb : bools ws = some bs) (q : Q (.bl (bs.any id)) s) : (biW .any [w] s).wp Q Z := by
  show (match (lsq w s).bind bools with
    | some bs => R.ok (.bl (bs.any id)) s
    | none => .bad : R W).wp Q Z
  rw [hl, Option.bind_some, hb]; exact q
theorem o_append {n : Nat} {w : W} {ws : List W} (h : s[n]? = some ws) (l : ws.length < sizeLine) (q : Q .non (s.set n (ws ++ [w]))) : (mtW .append (.loc n) [w] s).wp Q Z := by
  show (match s[n]? with
    | some ws => if ws.length < sizeLine then R.ok .non (s.set n (ws ++ [w])) else .bad
    | none => .bad : R W).wp Q Z
  rw [h]
  show (if ws.length < sizeLine then R.ok .non (s.set n (ws ++ [w])) else .bad : R W).wp Q Z
  rw [if_pos l]; exact q
theorem o_pop {n : Nat} {w : W} {ws : List W} (h : s[n]? = some (ws ++ [w])) (q : Q w (s.set n ws)) : (mtW .pop (.loc n) [] s).wp Q Z := by
  show (match s[n]? with
    | some ws => match ws[ws.length - 1]? with
      | some w => R.ok w (s.set n ws.dropLast)
      | none => .bad
    | none => .bad : R W).wp Q Z
  rw [h]
  have e : (ws ++ [w])[(ws ++ [w]).length - 1]? = some w := by simp
  show (match (ws ++ [w])[(ws ++ [w]).length - 1]? with
      | some u => R.ok u (s.set n (ws ++ [w]).dropLast)
      | none => .bad : R W).wp Q Z
  rw [e, List.dropLast_concat]; exact q
theorem o_isi {P : Bool → Prop} {t : Ty} {w : W} {b : Bool} (h : isiW t w = some b) (q : P b) : ∃ b, isiW t w = some b ∧ P b := ⟨b, h, q⟩
theorem ex_bl {P : Bool → Prop} {b : Bool} (q : P b) : ∃ k, W.bl b = .bl k ∧ P k := ⟨b, rfl, q⟩
theorem ex_int {P : Int → Prop} {b : Int} (q : P b) : ∃ k, W.int b = .int k ∧ P k := ⟨b, rfl, q⟩
theorem bq {Q : QK Bool} {b : Bool} (q : Q b s) : bQ Q (.bl b) s := ⟨b, rfl, q⟩
theorem tq {Q : QK Bool} {b : Bool} (q : Q b s) : tQ Q (.bl b) s := ⟨b, rfl, q⟩
theorem t_len {n : Nat} {P : Prop} (h : Nat.ble n sizeLine = true) (q : P) : n ≤ sizeLine ∧ P := ⟨Nat.le_of_ble_eq_true h, q⟩
end
theorem a_sub {g : G} {o i : E} {w : W} {e : Sl} {s : Sto} {Q : QK Sl} {Z : EK} (q : (ev g o e s).wp (fun ow s1 => (ev g i e s1).wp (fun iw s2 => ∃ n ws k j, ow = .loc n ∧ iw = .int k ∧ s2[n]? = some ws ∧ L2.ixN ws.length k = some j ∧ Q e (s2.set n (ws.set j w))) Z) Z) : (asg g (.sub o i) w e s).wp Q Z := by
  rw [asg, wp_bind]
  refine q.mono fun ow s1 h => ?_
  rw [wp_bind]
  refine h.mono fun iw s2 h => ?_
  obtain ⟨n, ws, k, j, rfl, rfl, h1, h2, h3⟩ := h
  have : setW (.loc n) (.int k) w s2 = .ok () (s2.set n (ws.set j w)) := by
    show (match s2[n]? with
      | some ws => match L2.ixN ws.length k with
        | some j => R.ok () (s2.set n (ws.set j w))
        | none => .bad
      | none => .bad : R Unit) = _
    rw [h1]
    show (match L2.ixN ws.length k with
        | some j => R.ok () (s2.set n (ws.set j w))
        | none => .bad : R Unit) = _
    rw [h2]
  rw [this]
  exact h3
def Has (T : Str → Option Fi) (x : Str) (n m : Nat) (b : B) : Prop := ∃ fi, T x = some fi ∧ fi.ps.length = n ∧ fi.names.length = m ∧ fi.body = b
theorem Has.wp {T : Str → Option Fi} {C : Str → Option W} {X : Str → Bool} {k : Nat} {x : Str} {n m : Nat} {b : B} {ws : List W} {s : Sto} {Q : QK W} {Z : EK} (h : Has T x n m b) (hl : ws.length = n)
    (q : (exS (gam T C X k) b (ws.map some ++ List.replicate (m - ws.length) none) s).wp (fnQ Q) Z) : ((gam T C X (k + 1)).call x ws s).wp Q Z := by
  obtain ⟨fi, h1, h2, h3, h4⟩ := h
  subst h4
  exact call_wp h1 (by rw [hl, h2]) (by rw [h3]; exact q)
theorem r_ok {α : Type} {a : α} {s : Sto} {Q : QK α} {Z : EK} (q : Q a s) : (R.ok a s).wp Q Z := q
theorem gc {T : Str → Option Fi} {C : Str → Option W} {X : Str → Bool} {k : Nat} {c : Str} : (gam T C X k).con c = C c := by cases k <;> rfl
theorem toD_depth : ∀ (n : Nat) (s : Sto) (w : W) (d : PyData), toD n s w = some d → d.depth ≤ n
  | 0, _, _, _, h => by cases h
  | n + 1, s, w, d, h => by
    have all : ∀ (ws : List W) (ds : List PyData), ws.mapM (toD n s) = some ds → PyData.depthAll ds ≤ n := by
      intro ws
      induction ws with
      | nil =>
        intro ds h
        rw [List.mapM_nil] at h
        cases h
        exact Nat.zero_le _
      | cons w ws ih =>
        intro ds h
        rw [List.mapM_cons] at h
        obtain ⟨d, h1, h⟩ := Option.bind_eq_some_iff.mp h
        obtain ⟨es, h2, h⟩ := Option.bind_eq_some_iff.mp h
        cases h
        have a := toD_depth n s w d h1
        have b := ih es h2
        rw [PyData.depthAll]
        omega
    cases w with
    | non => cases h; exact Nat.zero_le _
    | bl b => cases h; exact Nat.zero_le _
    | int b => cases h; exact Nat.zero_le _
    | str b => cases h; exact Nat.zero_le _
    | tup ws =>
      obtain ⟨ds, h1, rfl⟩ := Option.map_eq_some_iff.mp (show (ws.mapM (toD n s)).map .tuple = some d from h)
      have := all ws ds h1
      rw [PyData.depth]
      omega
    | loc a =>
      obtain ⟨ws, h0, h⟩ := Option.bind_eq_some_iff.mp (show ((s[a]?).bind fun ws => (ws.mapM (toD n s)).map .list) = some d from h)
      obtain ⟨ds, h1, rfl⟩ := Option.map_eq_some_iff.mp h
      have := all ws ds h1
      rw [PyData.depth]
      omega
    | cl ws =>
      obtain ⟨ds, h1, rfl⟩ := Option.map_eq_some_iff.mp (show (ws.mapM (toD n s)).map .list = some d from h)
      have := all ws ds h1
      rw [PyData.depth]
      omega
    | fn x => cases h
theorem eqW_data {a b : W} {s : Sto} {d e : PyData} (ha : toD 16 s a = some d) (hb : toD 16 s b = some e) (ca : d.canLay0 = true) (cb : e.canLay0 = true) : eqW a b s = some (PyData.eqv d e) := by
  have key : (match toD 16 s a, toD 16 s b with
    | some d, some e => if SeqAt.shaped d && SeqAt.shaped e then some (PyData.eqv d e) else none
    | _, _ => none) = some (PyData.eqv d e) := by
    rw [ha, hb]
    have h1 : SeqAt.shaped d = true := by
      unfold SeqAt.shaped
      rw [ca, decide_eq_true (Nat.le_trans (toD_depth 16 s a d ha) (by decide))]
      rfl
    have h2 : SeqAt.shaped e = true := by
      unfold SeqAt.shaped
      rw [cb, decide_eq_true (Nat.le_trans (toD_depth 16 s b e hb) (by decide))]
      rfl
    show (if SeqAt.shaped d && SeqAt.shaped e then some (PyData.eqv d e) else none) = _
    rw [h1, h2]
    rfl
  unfold eqW
  split
  · cases ha
    cases hb
    rw [PyData.eqv]
    congr 1
  · cases ha
    cases hb
    rw [PyData.eqv]
    congr 1
  · exact key
abbrev nW (q : Rat) : W := .tup [.int q.num, .int q.den]
abbrev pW (p : List Rat) : List W := p.map nW
def nD (q : Rat) : PyData := .tuple [.int q.num, .int q.den]
theorem nW_D (n : Nat) (s : Sto) (q : Rat) : toD (n + 2) s (nW q) = some (nD q) := rfl
theorem nD_lay (q : Rat) : (nD q).canLay0 = true := rfl
theorem nD_eqv (p q : Rat) : PyData.eqv (nD p) (nD q) = decide (p = q) := by
  unfold nD
  rw [PyData.eqv, PyData.eqvAll, PyData.eqvAll, PyData.eqvAll, PyData.eqv, PyData.eqv]
  by_cases h : p = q
  · subst h
    simp
  · rw [decide_eq_false h]
    by_cases h1 : p.num = q.num
    · have h2 : ((p.den : Int) == (q.den : Int)) = false := by
        rw [beq_eq_false_iff_ne]
        intro z
        exact h (Rat.ext h1 (by omega))
      rw [h2]
      simp
    · have h2 : (p.num == q.num) = false := by rw [beq_eq_false_iff_ne]; exact h1
      rw [h2]
      rfl
theorem eqW_n (p q : Rat) (s : Sto) : eqW (nW p) (nW q) s = some (decide (p = q)) := by
  rw [eqW_data (nW_D 14 s p) (nW_D 14 s q) (nD_lay p) (nD_lay q), nD_eqv]
def Bt (n : Nat) (i : Int) : Prop := i.natAbs < 2 ^ n
structure Sz (n : Nat) (q : Rat) : Prop where
  num : q.num.natAbs < 2 ^ n
  den : q.den < 2 ^ n
theorem log2_lt {a n : Nat} (h : a < 2 ^ n) (hn : 0 < n) : a.log2 < n := by
  by_cases z : a = 0
  · subst z
    simpa using hn
  · exact (Nat.log2_lt z).mpr h
theorem Bt.bits {n m : Nat} {i j : Int} (h : Bt n i) (h' : Bt m j) (hn : 0 < n) (hm : 0 < m) (l : n + m ≤ 134217728) : bitsOk i j = true := by
  unfold bitsOk
  have a := log2_lt h hn
  have b := log2_lt h' hm
  exact decide_eq_true (by omega)
theorem Bt.mono {n m : Nat} {i : Int} (h : Bt n i) (l : n ≤ m) : Bt m i := Nat.lt_of_lt_of_le h (Nat.pow_le_pow_right (by decide) l)
theorem Bt.mul {n m : Nat} {i j : Int} (h : Bt n i) (h' : Bt m j) : Bt (n + m) (i * j) := by
  unfold Bt at *
  rw [Int.natAbs_mul, Nat.pow_add]
  exact Nat.mul_lt_mul'' h h'
theorem Bt.add {n : Nat} {i j : Int} (h : Bt n i) (h' : Bt n j) : Bt (n + 1) (i + j) := by
  unfold Bt at *
  rw [Nat.pow_succ]
  omega
theorem Bt.sub {n : Nat} {i j : Int} (h : Bt n i) (h' : Bt n j) : Bt (n + 1) (i - j) := by
  unfold Bt at *
  rw [Nat.pow_succ]
  omega
theorem Sz.mono {n m : Nat} {q : Rat} (h : Sz n q) (l : n ≤ m) : Sz m q := ⟨(show Bt n q.num from h.num).mono l, Nat.lt_of_lt_of_le h.den (Nat.pow_le_pow_right (by decide) l)⟩
theorem Sz.bn {n : Nat} {q : Rat} (h : Sz n q) : Bt n q.num := h.num
theorem Sz.bd {n : Nat} {q : Rat} (h : Sz n q) : Bt n (q.den : Int) := by
  show (q.den : Int).natAbs < 2 ^ n
  rw [Int.natAbs_natCast]
  exact h.den
theorem Sz.of {n : Nat} {t b : Int} (ht : Bt n t) (hb : Bt n b) (hn : 0 < n) : Sz n (Rat.divInt t b) := by
  constructor
  · rw [Rat.num_divInt]
    refine Nat.lt_of_le_of_lt ?_ ht
    rw [Int.natAbs_ediv_of_dvd (Int.dvd_trans (Int.gcd_dvd_right ..) (Int.dvd_mul_left ..)), Int.natAbs_mul]
    refine Nat.le_trans (Nat.div_le_self _ _) ?_
    have : b.sign.natAbs ≤ 1 := by
      rw [Int.natAbs_sign]
      split <;> omega
    calc b.sign.natAbs * t.natAbs ≤ 1 * t.natAbs := Nat.mul_le_mul_right _ this
      _ = t.natAbs := Nat.one_mul _
  · rw [Rat.den_divInt]
    split
    · exact Nat.one_lt_two_pow (by omega)
    · exact Nat.lt_of_le_of_lt (Nat.div_le_self _ _) hb
theorem Sz.zero : Sz 1 0 := ⟨by decide, by decide⟩
theorem Sz.one : Sz 1 1 := ⟨by decide, by decide⟩
theorem nW_divInt (q : Rat) : Rat.divInt q.num q.den = q := Rat.num_divInt_den q
theorem den_ne (q : Rat) : (q.den : Int) ≠ 0 := by
  have := q.den_nz
  omega
theorem add_divInt (p q : Rat) : Rat.divInt (p.num * q.den + q.num * p.den) (p.den * q.den) = p + q := by
  rw [← Rat.divInt_add_divInt _ _ (den_ne p) (den_ne q), Rat.num_divInt_den, Rat.num_divInt_den]
theorem sub_divInt (p q : Rat) : Rat.divInt (p.num * q.den - q.num * p.den) (p.den * q.den) = p - q := by
  rw [← Rat.divInt_sub_divInt _ _ (den_ne p) (den_ne q), Rat.num_divInt_den, Rat.num_divInt_den]
theorem mul_divInt (p q : Rat) : Rat.divInt (p.num * q.num) (p.den * q.den) = p * q := by
  rw [← Rat.divInt_mul_divInt, Rat.num_divInt_den, Rat.num_divInt_den]
theorem Sz.add {n m : Nat} {p q : Rat} (h : Sz n p) (h' : Sz m q) (hn : 0 < n) : Sz (n + m + 1) (p + q) := by
  rw [← add_divInt]
  refine Sz.of ?_ ((h.bd.mul h'.bd).mono (by omega)) (by omega)
  refine Bt.add (h.bn.mul h'.bd) ?_
  rw [Nat.add_comm]
  exact h'.bn.mul h.bd
theorem Sz.sub {n m : Nat} {p q : Rat} (h : Sz n p) (h' : Sz m q) (hn : 0 < n) : Sz (n + m + 1) (p - q) := by
  rw [← sub_divInt]
  refine Sz.of ?_ ((h.bd.mul h'.bd).mono (by omega)) (by omega)
  refine Bt.sub (h.bn.mul h'.bd) ?_
  rw [Nat.add_comm]
  exact h'.bn.mul h.bd
theorem Sz.mul {n m : Nat} {p q : Rat} (h : Sz n p) (h' : Sz m q) (hn : 0 < n) : Sz (n + m) (p * q) := by
  rw [← mul_divInt]
  exact Sz.of (h.bn.mul h'.bn) (h.bd.mul h'.bd) (by omega)
end Pl

namespace Pl
open PySem Py
def bd_shared_divisor : B := (.par2 0 1 (.bi .abs (.cons (.var 0) .nil)) (.bi .abs (.cons (.var 1) .nil)) (.whl (.cmp .gt (.var 1) (.int 0)) (.par2 0 1 (.var 1) (.bin .mod (.var 0) (.var 1)) .done) (.ret (.var 0) .done)))
def bd_fraction : B := (.ite (.cmp .eq (.var 1) (.int 0)) (.raise "NoFraction" .done) .done (.asg (.name 2) (.call "shared_divisor" (.cons (.var 0) (.cons (.var 1) .nil))) (.ite (.cmp .lt (.var 1) (.int 0)) (.asg (.name 2) (.bin .sub (.int 0) (.var 2)) .done) .done (.ret (.tup (.cons (.bin .fdiv (.var 0) (.var 2)) (.cons (.bin .fdiv (.var 1) (.var 2)) .nil))) .done))))
def bd_times : B := (.ret (.call "fraction" (.cons (.bin .mul (.ix (.var 0) (.int 0)) (.ix (.var 1) (.int 0))) (.cons (.bin .mul (.ix (.var 0) (.int 1)) (.ix (.var 1) (.int 1))) .nil))) .done)
def bd_plus : B := (.ret (.call "fraction" (.cons (.bin .add (.bin .mul (.ix (.var 0) (.int 0)) (.ix (.var 1) (.int 1))) (.bin .mul (.ix (.var 1) (.int 0)) (.ix (.var 0) (.int 1)))) (.cons (.bin .mul (.ix (.var 0) (.int 1)) (.ix (.var 1) (.int 1))) .nil))) .done)
def bd_less : B := (.ret (.call "fraction" (.cons (.bin .sub (.bin .mul (.ix (.var 0) (.int 0)) (.ix (.var 1) (.int 1))) (.bin .mul (.ix (.var 1) (.int 0)) (.ix (.var 0) (.int 1)))) (.cons (.bin .mul (.ix (.var 0) (.int 1)) (.ix (.var 1) (.int 1))) .nil))) .done)
def bd_over : B := (.ret (.call "fraction" (.cons (.bin .mul (.ix (.var 0) (.int 0)) (.ix (.var 1) (.int 1))) (.cons (.bin .mul (.ix (.var 0) (.int 1)) (.ix (.var 1) (.int 0))) .nil))) .done)
def bd__law_low : B := (.asg (.name 2) (.bi .abs (.cons (.var 0) .nil)) (.asg (.name 3) (.bi .abs (.cons (.var 1) .nil)) (.whl (.cmp .gt (.var 3) (.int 0)) (.par2 2 3 (.var 3) (.bin .mod (.var 2) (.var 3)) .done) (.ite (.cmp .lt (.var 1) (.int 0)) (.asg (.name 2) (.bin .sub (.int 0) (.var 2)) .done) .done (.ret (.tup (.cons (.bin .fdiv (.var 0) (.var 2)) (.cons (.bin .fdiv (.var 1) (.var 2)) .nil))) .done)))))
def bd__law_times : B := (.ret (.call "_law_low" (.cons (.bin .mul (.ix (.var 0) (.int 0)) (.ix (.var 1) (.int 0))) (.cons (.bin .mul (.ix (.var 0) (.int 1)) (.ix (.var 1) (.int 1))) .nil))) .done)
def bd__law_plus : B := (.ret (.call "_law_low" (.cons (.bin .add (.bin .mul (.ix (.var 0) (.int 0)) (.ix (.var 1) (.int 1))) (.bin .mul (.ix (.var 1) (.int 0)) (.ix (.var 0) (.int 1)))) (.cons (.bin .mul (.ix (.var 0) (.int 1)) (.ix (.var 1) (.int 1))) .nil))) .done)
def bd__law_less : B := (.ret (.call "_law_low" (.cons (.bin .sub (.bin .mul (.ix (.var 0) (.int 0)) (.ix (.var 1) (.int 1))) (.bin .mul (.ix (.var 1) (.int 0)) (.ix (.var 0) (.int 1)))) (.cons (.bin .mul (.ix (.var 0) (.int 1)) (.ix (.var 1) (.int 1))) .nil))) .done)
def bd__law_over : B := (.ret (.call "_law_low" (.cons (.bin .mul (.ix (.var 0) (.int 0)) (.ix (.var 1) (.int 1))) (.cons (.bin .mul (.ix (.var 0) (.int 1)) (.ix (.var 1) (.int 0))) .nil))) .done)
def bd__law_draw : B := (.ite (.cmp .gt (.ix (.var 0) (.int 0)) (.int 0)) (.asg (.name 2) (.bin .mod (.ix (.var 0) (.int 0)) (.var 1)) (.asg (.sub (.var 0) (.int 0)) (.bin .fdiv (.ix (.var 0) (.int 0)) (.var 1)) (.ret (.var 2) .done))) .done (.asg (.sub (.var 0) (.int 1)) (.bin .mod (.bin .add (.bin .mul (.ix (.var 0) (.int 1)) (.int 60013)) (.int 12289)) (.ix (.var 0) (.int 2))) (.ret (.bin .mod (.bin .fdiv (.bin .mod (.bin .pow (.bin .fdiv (.ix (.var 0) (.int 1)) (.int 16)) (.int 3)) (.int 1999999973)) (.int 8)) (.var 1)) .done)))
def bd__law_urn : B := (.asg (.name 2) (.int 0) (.ite (.cmp .lt (.var 1) (.bi .len (.cons (.var 0) .nil))) (.asg (.name 2) (.ix (.var 0) (.var 1)) .done) .done (.asg (.name 3) (.ix (.tup (.cons (.int 1899999979) (.cons (.int 1899998977) (.cons (.int 1899997949) (.cons (.int 1899996929) (.cons (.int 1899995927) (.cons (.int 1899994903) (.cons (.int 1899993877) (.cons (.int 1899992839) .nil))))))))) (.bin .mod (.var 1) (.int 8))) (.asg (.name 4) (.int 0) (.ite (.cmp .ge (.bi .abs (.cons (.var 2) .nil)) (.bin .pow (.int 10) (.int 18))) (.asg (.name 4) (.bi .abs (.cons (.var 2) .nil)) .done) .done (.ret (.lst (.cons (.var 4) (.cons (.bin .mod (.bin .pow (.bin .add (.bin .add (.bin .mod (.var 2) (.var 3)) (.bin .mul (.int 65537) (.var 1))) (.int 101)) (.int 3)) (.var 3)) (.cons (.var 3) .nil)))) .done))))))
def bd_poly : B := (.asg (.name 1) (.bi .len (.cons (.var 0) .nil)) (.whl (.and (.cmp .gt (.var 1) (.int 0)) (.one (.cmp .eq (.ix (.var 0) (.bin .sub (.var 1) (.int 1))) (.con "NOUGHT")))) (.aug 1 .sub (.int 1) .done) (.ret (.bi .list (.cons (.sl (.var 0) .nil (.one (.var 1))) .nil)) .done)))
def bd__law_trim : B := (.asg (.name 1) (.bi .list (.cons (.var 0) .nil)) (.whl (.and (.cmp .ne (.var 1) (.lst .nil)) (.one (.cmp .eq (.ix (.ix (.var 1) (.neg (.int 1))) (.int 0)) (.int 0)))) (.exp (.mt .pop (.var 1) .nil) .done) (.ret (.var 1) .done)))
def bd_number_at : B := (.ite (.cmp .lt (.var 1) (.bi .len (.cons (.var 0) .nil))) (.ret (.ix (.var 0) (.var 1)) .done) .done (.ret (.con "NOUGHT") .done))
def bd__law_number : B := (.ite (.cmp .eq (.var 1) (.int 2)) (.asg (.name 2) (.bin .add (.bin .mul (.call "_law_draw" (.cons (.var 0) (.cons (.bin .pow (.int 10) (.int 6)) .nil))) (.bin .pow (.int 10) (.int 6))) (.call "_law_draw" (.cons (.var 0) (.cons (.bin .pow (.int 10) (.int 6)) .nil)))) (.ret (.call "_law_low" (.cons (.bin .mul (.var 2) (.ix (.lst (.cons (.int 1) (.cons (.neg (.int 1)) .nil))) (.call "_law_draw" (.cons (.var 0) (.cons (.int 2) .nil))))) (.cons (.bin .add (.int 1) (.bin .mul (.call "_law_draw" (.cons (.var 0) (.cons (.bin .pow (.int 10) (.int 6)) .nil))) (.bin .pow (.int 10) (.int 6)))) .nil))) .done)) .done (.ret (.call "_law_low" (.cons (.bin .sub (.call "_law_draw" (.cons (.var 0) (.cons (.int 19) .nil))) (.int 9)) (.cons (.bin .add (.int 1) (.bin .mul (.call "_law_draw" (.cons (.var 0) (.cons (.int 6) .nil))) (.bi .int (.cons (.cmp .eq (.var 1) (.int 0)) .nil)))) .nil))) .done))
def bd__law_other : B := (.asg (.name 2) (.call "_law_number" (.cons (.var 0) (.cons (.var 1) .nil))) (.ite (.cmp .eq (.ix (.var 2) (.int 0)) (.int 0)) (.ret (.tup (.cons (.bin .add (.int 1) (.call "_law_draw" (.cons (.var 0) (.cons (.int 3) .nil)))) (.cons (.int 1) .nil))) .done) .done (.ret (.var 2) .done)))
def bd__law_kind : B := (.ret (.ix (.lst (.cons (.int 0) (.cons (.int 1) (.cons (.int 0) (.cons (.int 1) (.cons (.int 0) (.cons (.int 1) (.cons (.int 0) (.cons (.int 2) .nil))))))))) (.call "_law_draw" (.cons (.var 0) (.cons (.int 8) .nil)))) .done)
def bd_poly_times : B := (.ite (.or (.cmp .eq (.var 0) (.lst .nil)) (.one (.cmp .eq (.var 1) (.lst .nil)))) (.ret (.lst .nil) .done) .done (.asg (.name 2) (.bin .mul (.lst (.cons (.con "NOUGHT") .nil)) (.bin .sub (.bin .add (.bi .len (.cons (.var 0) .nil)) (.bi .len (.cons (.var 1) .nil))) (.int 1))) (.for_ (.tup (.cons (.name 3) (.cons (.name 4) .nil))) .enu (.cons (.var 0) .nil) (.for_ (.tup (.cons (.name 5) (.cons (.name 6) .nil))) .enu (.cons (.var 1) .nil) (.asg (.sub (.var 2) (.bin .add (.var 3) (.var 5))) (.call "plus" (.cons (.ix (.var 2) (.bin .add (.var 3) (.var 5))) (.cons (.call "times" (.cons (.var 4) (.cons (.var 6) .nil))) .nil))) .done) .done) (.ret (.var 2) .done))))
def bd__law_poly_times : B := (.ite (.or (.cmp .eq (.var 0) (.lst .nil)) (.one (.cmp .eq (.var 1) (.lst .nil)))) (.ret (.lst .nil) .done) .done (.asg (.name 2) (.bin .mul (.lst (.cons (.tup (.cons (.int 0) (.cons (.int 1) .nil))) .nil)) (.bin .sub (.bin .add (.bi .len (.cons (.var 0) .nil)) (.bi .len (.cons (.var 1) .nil))) (.int 1))) (.for_ (.tup (.cons (.name 3) (.cons (.name 4) .nil))) .enu (.cons (.var 0) .nil) (.for_ (.tup (.cons (.name 5) (.cons (.name 6) .nil))) .enu (.cons (.var 1) .nil) (.asg (.sub (.var 2) (.bin .add (.var 3) (.var 5))) (.call "_law_plus" (.cons (.ix (.var 2) (.bin .add (.var 3) (.var 5))) (.cons (.call "_law_times" (.cons (.var 4) (.cons (.var 6) .nil))) .nil))) .done) .done) (.ret (.call "_law_trim" (.cons (.var 2) .nil)) .done))))
def bd_scaled : B := (.ret (.call "poly" (.cons (.comp [("one", 2)] (.name 2) .seq (.cons (.var 1) .nil) .nil (.call "times" (.cons (.var 0) (.cons (.var 2) .nil)))) .nil)) .done)
def bd_worth : B := (.asg (.name 2) (.con "NOUGHT") (.for_ (.name 3) .rev (.cons (.var 0) .nil) (.asg (.name 2) (.call "plus" (.cons (.call "times" (.cons (.var 2) (.cons (.var 1) .nil))) (.cons (.var 3) .nil))) .done) (.ret (.var 2) .done)))
def bd_slope : B := (.ret (.comp [("i", 1)] (.name 1) .rng2 (.cons (.int 1) (.cons (.bi .len (.cons (.var 0) .nil)) .nil)) .nil (.call "times" (.cons (.tup (.cons (.var 1) (.cons (.int 1) .nil))) (.cons (.ix (.var 0) (.var 1)) .nil)))) .done)
def bd_poly_less : B := (.ret (.call "poly" (.cons (.comp [("i", 2)] (.name 2) .rng1 (.cons (.bi .max2 (.cons (.bi .len (.cons (.var 0) .nil)) (.cons (.bi .len (.cons (.var 1) .nil)) .nil))) .nil) .nil (.call "less" (.cons (.call "number_at" (.cons (.var 0) (.cons (.var 2) .nil))) (.cons (.call "number_at" (.cons (.var 1) (.cons (.var 2) .nil))) .nil)))) .nil)) .done)
def bd_poly_sum : B := (.ret (.call "poly" (.cons (.comp [("i", 2)] (.name 2) .rng1 (.cons (.bi .max2 (.cons (.bi .len (.cons (.var 0) .nil)) (.cons (.bi .len (.cons (.var 1) .nil)) .nil))) .nil) .nil (.call "plus" (.cons (.call "number_at" (.cons (.var 0) (.cons (.var 2) .nil))) (.cons (.call "number_at" (.cons (.var 1) (.cons (.var 2) .nil))) .nil)))) .nil)) .done)
def bd__law_poly_plus : B := (.asg (.name 2) (.lst .nil) (.for_ (.name 3) .rng1 (.cons (.bi .max2 (.cons (.bi .len (.cons (.var 0) .nil)) (.cons (.bi .len (.cons (.var 1) .nil)) .nil))) .nil) (.asg (.name 4) (.ite (.cmp .lt (.var 3) (.bi .len (.cons (.var 0) .nil))) (.ix (.var 0) (.var 3)) (.tup (.cons (.int 0) (.cons (.int 1) .nil)))) (.asg (.name 5) (.ite (.cmp .lt (.var 3) (.bi .len (.cons (.var 1) .nil))) (.ix (.var 1) (.var 3)) (.tup (.cons (.int 0) (.cons (.int 1) .nil)))) (.exp (.mt .append (.var 2) (.cons (.call "_law_plus" (.cons (.var 4) (.cons (.var 5) .nil))) .nil)) .done))) (.ret (.call "_law_trim" (.cons (.var 2) .nil)) .done)))
def bd__law_whole : B := (.ret (.and (.isi (.var 0) .int) (.one (.no (.isi (.var 0) .bool)))) .done)
def bd__law_is_number : B := (.ite (.or (.no (.isi (.var 0) .tuple)) (.or (.cmp .ne (.bi .len (.cons (.var 0) .nil)) (.int 2)) (.or (.no (.call "_law_whole" (.cons (.ix (.var 0) (.int 0)) .nil))) (.one (.no (.call "_law_whole" (.cons (.ix (.var 0) (.int 1)) .nil))))))) (.ret (.bl false) .done) .done (.ret (.and (.cmp .gt (.ix (.var 0) (.int 1)) (.int 0)) (.one (.cmp .eq (.call "_law_low" (.cons (.ix (.var 0) (.int 0)) (.cons (.ix (.var 0) (.int 1)) .nil))) (.var 0)))) .done))
def bd__law_is_poly : B := (.ret (.and (.isi (.var 0) .list) (.and (.bi .all (.cons (.comp [("_law_one", 1)] (.name 1) .seq (.cons (.var 0) .nil) .nil (.call "_law_is_number" (.cons (.var 1) .nil))) .nil)) (.one (.cmp .eq (.call "_law_trim" (.cons (.var 0) .nil)) (.var 0))))) .done)
def bd__law_drawn_poly : B := (.ret (.bin .add (.comp [("_law_i", 3)] (.name 3) .rng1 (.cons (.call "_law_draw" (.cons (.var 0) (.cons (.bin .add (.var 2) (.int 1)) .nil))) .nil) .nil (.call "_law_number" (.cons (.var 0) (.cons (.var 1) .nil)))) (.lst (.cons (.call "_law_other" (.cons (.var 0) (.cons (.var 1) .nil))) .nil))) .done)
def bd__law_poly_often : B := (.ret (.call "_law_trim" (.cons (.comp [("_law_one", 2)] (.name 2) .seq (.cons (.var 1) .nil) .nil (.call "_law_times" (.cons (.var 0) (.cons (.var 2) .nil)))) .nil)) .done)
def bd_shifted : B := (.asg (.name 2) (.bi .list (.cons (.var 0) .nil)) (.for_ (.name 3) .rng1 (.cons (.bi .len (.cons (.var 0) .nil)) .nil) (.for_ (.name 4) .rng3 (.cons (.bin .sub (.bi .len (.cons (.var 0) .nil)) (.int 2)) (.cons (.bin .sub (.var 3) (.int 1)) (.cons (.neg (.int 1)) .nil))) (.asg (.sub (.var 2) (.var 4)) (.call "plus" (.cons (.ix (.var 2) (.var 4)) (.cons (.call "times" (.cons (.var 1) (.cons (.ix (.var 2) (.bin .add (.var 4) (.int 1))) .nil))) .nil))) .done) .done) (.ret (.var 2) .done)))
def bd_mirrored : B := (.ret (.comp [("i", 1), ("one", 2)] (.tup (.cons (.name 1) (.cons (.name 2) .nil))) .enu (.cons (.var 0) .nil) .nil (.call "times" (.cons (.tup (.cons (.bin .sub (.int 1) (.bin .mul (.int 2) (.bin .mod (.var 1) (.int 2)))) (.cons (.int 1) .nil))) (.cons (.var 2) .nil)))) .done)
def bd__law_worth : B := (.asg (.name 2) (.tup (.cons (.int 0) (.cons (.int 1) .nil))) (.for_ (.name 3) .rev (.cons (.var 0) .nil) (.asg (.name 2) (.call "_law_plus" (.cons (.call "_law_times" (.cons (.var 2) (.cons (.var 1) .nil))) (.cons (.var 3) .nil))) .done) (.ret (.var 2) .done)))
def bd__law_mirrored : B := (.ret (.comp [("_law_i", 1), ("_law_number_here", 2)] (.tup (.cons (.name 1) (.cons (.name 2) .nil))) .enu (.cons (.var 0) .nil) .nil (.tup (.cons (.bin .mul (.ix (.var 2) (.int 0)) (.ix (.lst (.cons (.int 1) (.cons (.neg (.int 1)) .nil))) (.bin .mod (.var 1) (.int 2)))) (.cons (.ix (.var 2) (.int 1)) .nil)))) .done)
def bd__law_sloped : B := (.ret (.sl (.comp [("_law_i", 1), ("_law_one", 2)] (.tup (.cons (.name 1) (.cons (.name 2) .nil))) .enu (.cons (.var 0) .nil) .nil (.call "_law_times" (.cons (.tup (.cons (.var 1) (.cons (.int 1) .nil))) (.cons (.var 2) .nil)))) (.one (.int 1)) .nil) .done)
def bd__law_moved : B := (.asg (.name 2) (.lst .nil) (.for_ (.name 3) .rev (.cons (.var 0) .nil) (.asg (.name 2) (.call "_law_poly_plus" (.cons (.call "_law_poly_times" (.cons (.var 2) (.cons (.lst (.cons (.var 1) (.cons (.tup (.cons (.int 1) (.cons (.int 1) .nil))) .nil))) .nil))) (.cons (.call "_law_trim" (.cons (.lst (.cons (.var 3) .nil)) .nil)) .nil))) .done) (.ret (.var 2) .done)))
def bd_sign_of : B := (.ret (.bin .sub (.bi .int (.cons (.cmp .gt (.ix (.var 0) (.int 0)) (.int 0)) .nil)) (.bi .int (.cons (.cmp .lt (.ix (.var 0) (.int 0)) (.int 0)) .nil))) .done)
def bd_is_below : B := (.ret (.cmp .lt (.bin .mul (.ix (.var 0) (.int 0)) (.ix (.var 1) (.int 1))) (.bin .mul (.ix (.var 1) (.int 0)) (.ix (.var 0) (.int 1)))) .done)
def bd__law_drawn_whole : B := (.ite (.cmp .eq (.call "_law_draw" (.cons (.var 0) (.cons (.int 2) .nil))) (.int 0)) (.ret (.bin .sub (.call "_law_draw" (.cons (.var 0) (.cons (.int 25) .nil))) (.int 12)) .done) .done (.asg (.name 1) (.bin .add (.bin .mul (.call "_law_draw" (.cons (.var 0) (.cons (.bin .pow (.int 10) (.int 6)) .nil))) (.bin .pow (.int 10) (.int 6))) (.call "_law_draw" (.cons (.var 0) (.cons (.bin .pow (.int 10) (.int 6)) .nil)))) (.ret (.bin .mul (.var 1) (.ix (.lst (.cons (.int 1) (.cons (.neg (.int 1)) .nil))) (.call "_law_draw" (.cons (.var 0) (.cons (.int 2) .nil))))) .done)))
def bd_said2 : B := (.tryr 4 (.set 3) (.callv 0 (.cons (.var 1) (.cons (.var 2) .nil))) .ret (.ret (.tup (.cons (.str "told") (.cons (.var 3) .nil))) .done))
def bd__law_is_told : B := (.ite (.cmp .isN (.var 1) .non) (.ret (.cmp .eq (.var 0) (.tup (.cons (.str "refused") (.cons (.str "fraction") .nil)))) .done) .done (.ret (.and (.cmp .eq (.ix (.var 0) (.int 0)) (.str "told")) (.and (.call "_law_is_number" (.cons (.ix (.var 0) (.int 1)) .nil)) (.one (.cmp .eq (.ix (.var 0) (.int 1)) (.var 1))))) .done))
end Pl

namespace Pl
open PySem Py
local macro_rules | `(tactic| decreasing_trivial_pre_omega) => `(tactic| (first | with_reducible refine x_set ?_ | with_reducible refine x_par2 ?_ | with_reducible refine x_par3 ?_ | with_reducible refine x_ite ?_ | with_reducible refine x_for ?_ | with_reducible refine x_whl ?_ | with_reducible refine x_ret ?_ | with_reducible refine x_retn ?_ | with_reducible refine x_brk ?_ | with_reducible refine x_ct ?_ | with_reducible refine x_pass ?_ | with_reducible refine x_exp ?_ | with_reducible refine x_done ?_ | with_reducible refine nx_nx ?_ | with_reducible refine nx_rt ?_ | with_reducible refine nx_bk ?_ | with_reducible refine nx_ct ?_ | with_reducible refine lp_nx ?_ | with_reducible refine lp_ct ?_ | with_reducible refine lp_bk ?_ | with_reducible refine lp_rt ?_ | with_reducible refine jn_nx ?_ | with_reducible refine jn_rt ?_ | with_reducible refine fn_nx ?_ | with_reducible refine fn_rt ?_ | with_reducible refine e_int ?_ | with_reducible refine e_bl ?_ | with_reducible refine e_non ?_ | with_reducible refine e_str ?_ | with_reducible refine e_bin ?_ | with_reducible refine e_neg ?_ | with_reducible refine e_no ?_ | with_reducible refine e_cmp ?_ | with_reducible refine e_chain ?_ | with_reducible refine e_and ?_ | with_reducible refine e_or ?_ | with_reducible refine e_one ?_ | with_reducible refine e_ite ?_ | with_reducible refine e_tup ?_ | with_reducible refine e_lst ?_ | with_reducible refine e_ix ?_ | with_reducible refine e_sl ?_ | with_reducible refine e_rv ?_ | with_reducible refine e_call ?_ | with_reducible refine e_bi ?_ | with_reducible refine e_mt ?_ | with_reducible refine e_isi ?_ | with_reducible refine e_comp ?_ | with_reducible refine es_nil ?_ | with_reducible refine es_cons ?_ | with_reducible refine eo_nil ?_ | with_reducible refine eo_one ?_ | with_reducible refine t_and ?_ | with_reducible refine t_or ?_ | with_reducible refine t_no ?_ | with_reducible refine t_one ?_ | with_reducible refine t_nil ?_ | with_reducible refine t_cmp ?_ | with_reducible refine t_chain ?_ | with_reducible refine t_call ?_ | with_reducible refine t_bi ?_ | with_reducible refine t_isi ?_ | with_reducible refine x_asg ?_ | with_reducible refine a_sub ?_ | with_reducible refine o_add ?_ | with_reducible refine o_sub ?_ | with_reducible refine o_adb ?_ | with_reducible refine o_lt ?_ | with_reducible refine o_le ?_ | with_reducible refine o_gt ?_ | with_reducible refine o_ge ?_ | with_reducible refine o_eqi ?_ | with_reducible refine o_nei ?_ | with_reducible refine o_isN ?_ | with_reducible refine o_notN ?_ | with_reducible refine o_isB ?_ | with_reducible refine o_notB ?_ | with_reducible refine o_abs ?_ | with_reducible refine o_int ?_ | with_reducible refine o_intb ?_ | with_reducible refine o_max ?_ | with_reducible refine o_min ?_ | with_reducible refine o_neg ?_ | with_reducible refine o_lent ?_ | with_reducible refine ex_bl ?_ | with_reducible refine ex_int ?_ | with_reducible refine bq ?_ | with_reducible refine tq ?_ | with_reducible refine r_ok ?_ | ((with_reducible apply e_var); exact rfl) | ((with_reducible apply x_add); exact rfl) | ((with_reducible apply x_sub); exact rfl) | ((with_reducible apply o_ixt); exact rfl) | ((with_reducible apply o_isi); exact rfl) | ((with_reducible apply t_len); exact rfl) | ((with_reducible apply o_ix); assumption; exact rfl) | ((with_reducible apply e_con); rw [gc]; assumption) | ((with_reducible apply o_len); assumption) | ((with_reducible apply o_list); assumption) | ((with_reducible apply o_tuple); assumption) | ((with_reducible apply o_sl); assumption)))
theorem set4 {α : Type} {i j : Nat} (hij : i ≠ j) (e : List α) (a b c d : α) : (((e.set i a).set j b).set i c).set j d = (e.set i c).set j d := by
  rw [List.set_comm b c (fun h => hij h.symm), List.set_set, List.set_set]
section
variable {g : G} {e : Sl} {i j : Nat}
theorem gcd_one (hij : i ≠ j) (hi : i < e.length) (hj : j < e.length) (N a b : Nat) (s : Sto) :
    whileL (evT g (.cmp .gt (.var j) (.int 0))) (exS g (.par2 i j (.var j) (.bin .mod (.var i) (.var j)) .done)) (N + 1) ((e.set i (some (.int (a : Nat)))).set j (some (.int (b : Nat)))) s =
    if b = 0 then .ok (.nx ((e.set i (some (.int (a : Nat)))).set j (some (.int (b : Nat))))) s
    else whileL (evT g (.cmp .gt (.var j) (.int 0))) (exS g (.par2 i j (.var j) (.bin .mod (.var i) (.var j)) .done)) N ((e.set i (some (.int (b : Nat)))).set j (some (.int ((a % b : Nat) : Nat)))) s := by
  have hi' : ((e.set i (some (.int (a : Nat)))).set j (some (.int (b : Nat))))[i]? = some (some (.int (a : Nat))) := by
    rw [List.getElem?_set_ne (fun h => hij h.symm), List.getElem?_set_self hi]
  have hj' : ((e.set i (some (.int (a : Nat)))).set j (some (.int (b : Nat))))[j]? = some (some (.int (b : Nat))) := by
    rw [List.getElem?_set_self (by rw [List.length_set]; exact hj)]
  rw [whileL]
  have c : evT g (.cmp .gt (.var j) (.int 0)) ((e.set i (some (.int (a : Nat)))).set j (some (.int (b : Nat)))) s = .ok (decide ((0 : Int) < (b : Nat))) s := by
    simp only [evT, ev, rslot, hj', R.bind_ok]
    rfl
  rw [c]
  by_cases hb : b = 0
  · subst hb
    rfl
  · rw [if_neg hb]
    have : decide ((0 : Int) < (b : Nat)) = true := decide_eq_true (by omega)
    rw [R.bind_ok, this]
    have x : exS g (.par2 i j (.var j) (.bin .mod (.var i) (.var j)) .done) ((e.set i (some (.int (a : Nat)))).set j (some (.int (b : Nat)))) s = .ok (.nx ((e.set i (some (.int (b : Nat)))).set j (some (.int ((a % b : Nat) : Nat))))) s := by
      have m : bop .mod (.int (a : Nat)) (.int (b : Nat)) s = .ok (.int ((a % b : Nat) : Nat)) s := by
        show (if ((b : Nat) : Int) ≠ 0 then R.ok (W.int (Int.fmod (a : Nat) (b : Nat))) s else .bad : R W) = _
        rw [if_pos (by omega), Int.ofNat_fmod]
      simp only [exS, ev, rslot, hi', hj', R.bind_ok, m, set4 hij]
    rw [x]
    rfl
theorem gcd_low (hij : i ≠ j) (hi : i < e.length) (hj : j < e.length) (s : Sto) : ∀ (n N a b : Nat), n < N → a * b < 2 ^ n → b ≤ a →
    whileL (evT g (.cmp .gt (.var j) (.int 0))) (exS g (.par2 i j (.var j) (.bin .mod (.var i) (.var j)) .done)) N ((e.set i (some (.int (a : Nat)))).set j (some (.int (b : Nat)))) s = .ok (.nx ((e.set i (some (.int (Nat.gcd a b : Nat)))).set j (some (.int (0 : Nat))))) s := by
  intro n
  induction n with
  | zero =>
    intro N a b hN hab hba
    have hb : b = 0 := by
      cases b with
      | zero => rfl
      | succ b =>
        exfalso
        have : (b + 1) * (b + 1) ≤ a * (b + 1) := Nat.mul_le_mul_right _ hba
        have h3 : 1 * 1 ≤ (b + 1) * (b + 1) := Nat.mul_le_mul (by omega) (by omega)
        omega
    subst hb
    obtain ⟨N, rfl⟩ : ∃ M, N = M + 1 := ⟨N - 1, by omega⟩
    rw [gcd_one hij hi hj, if_pos rfl, Nat.gcd_zero_right]
  | succ n ih =>
    intro N a b hN hab hba
    obtain ⟨N, rfl⟩ : ∃ M, N = M + 1 := ⟨N - 1, by omega⟩
    rw [gcd_one hij hi hj]
    by_cases hb : b = 0
    · subst hb
      rw [if_pos rfl, Nat.gcd_zero_right]
    · rw [if_neg hb]
      have hlt : a % b < b := Nat.mod_lt _ (by omega)
      rw [ih N b (a % b) (by omega) ?_ (by omega)]
      · have : Nat.gcd b (a % b) = Nat.gcd a b := by rw [Nat.gcd_comm a b, Nat.gcd_rec b a, Nat.gcd_comm]
        rw [this]
      · have h1 : 2 * (a % b) ≤ a := by
          have h2 := Nat.div_add_mod a b
          have h3 : 1 ≤ a / b := (Nat.one_le_div_iff (by omega)).mpr hba
          have h4 : b * 1 ≤ b * (a / b) := Nat.mul_le_mul_left _ h3
          omega
        have h2 : b * (2 * (a % b)) ≤ b * a := Nat.mul_le_mul_left _ h1
        rw [Nat.pow_succ] at hab
        have h3 : b * (2 * (a % b)) = 2 * (b * (a % b)) := Nat.mul_left_comm ..
        rw [Nat.mul_comm b a] at h2
        omega
theorem gcd_loop (hij : i ≠ j) (hi : i < e.length) (hj : j < e.length) (s : Sto) (n N a b : Nat) (hN : n + 1 < N) (hab : a * b < 2 ^ n) :
    whileL (evT g (.cmp .gt (.var j) (.int 0))) (exS g (.par2 i j (.var j) (.bin .mod (.var i) (.var j)) .done)) N ((e.set i (some (.int (a : Nat)))).set j (some (.int (b : Nat)))) s = .ok (.nx ((e.set i (some (.int (Nat.gcd a b : Nat)))).set j (some (.int (0 : Nat))))) s := by
  by_cases h : b ≤ a
  · exact gcd_low hij hi hj s n N a b (by omega) hab h
  · obtain ⟨N, rfl⟩ : ∃ M, N = M + 1 := ⟨N - 1, by omega⟩
    rw [gcd_one hij hi hj, if_neg (by omega), Nat.mod_eq_of_lt (by omega), gcd_low hij hi hj s n N b a (by omega) (by rw [Nat.mul_comm]; exact hab) (by omega), Nat.gcd_comm]
end
theorem sign_div {t b : Int} (hb : b ≠ 0) (d : Int) (hd : d = if b < 0 then 0 - (Int.gcd t b : Int) else (Int.gcd t b : Int)) : t.fdiv d = (Rat.divInt t b).num ∧ b.fdiv d = ((Rat.divInt t b).den : Int) ∧ d ≠ 0 := by
  have gp : 0 < Int.gcd t b := Int.gcd_pos_of_ne_zero_right _ hb
  obtain ⟨m, hm⟩ := Int.gcd_dvd_left t b
  obtain ⟨l, hl⟩ := Int.gcd_dvd_right t b
  have hg : ((Int.gcd t b : Nat) : Int) ≠ 0 := by omega
  have num : (Rat.divInt t b).num = b.sign * m := by
    rw [Rat.num_divInt, Int.gcd_comm b t]
    have e : b.sign * t = b.sign * m * (Int.gcd t b : Int) := by
      rw [Int.mul_assoc, Int.mul_comm m]
      exact congrArg (b.sign * ·) hm
    rw [e, Int.mul_ediv_cancel _ hg]
  have den : ((Rat.divInt t b).den : Int) = b.sign * l := by
    rw [Rat.den_divInt, if_neg hb, Int.gcd_comm b t]
    have e : (b.natAbs : Int) = b.sign * l * (Int.gcd t b : Int) := by
      rw [Int.mul_assoc, Int.mul_comm l, ← hl]
      rw [Int.sign_mul_self]
    have e2 : ((b.natAbs / Int.gcd t b : Nat) : Int) = (b.natAbs : Int) / (Int.gcd t b : Int) := rfl
    rw [e2, e, Int.mul_ediv_cancel _ hg]
  rw [num, den]
  by_cases neg : b < 0
  · rw [if_pos neg] at hd
    have hd0 : d ≠ 0 := by omega
    have hs : b.sign = -1 := Int.sign_eq_neg_one_of_neg neg
    rw [hs]
    refine ⟨?_, ?_, hd0⟩
    · have : t = -1 * m * d := by
        rw [hd]
        rw [show (0 : Int) - (Int.gcd t b : Int) = -(Int.gcd t b : Int) from by omega, Int.mul_neg, ← Int.neg_mul]
        rw [show -(-1 * m) = m from by omega, Int.mul_comm]
        exact hm
      calc t.fdiv d = (-1 * m * d).fdiv d := by rw [← this]
        _ = -1 * m := Int.mul_fdiv_cancel _ hd0
    · have : b = -1 * l * d := by
        rw [hd]
        rw [show (0 : Int) - (Int.gcd t b : Int) = -(Int.gcd t b : Int) from by omega, Int.mul_neg, ← Int.neg_mul]
        rw [show -(-1 * l) = l from by omega, Int.mul_comm]
        exact hl
      calc b.fdiv d = (-1 * l * d).fdiv d := by rw [← this]
        _ = -1 * l := Int.mul_fdiv_cancel _ hd0
  · rw [if_neg neg] at hd
    have hd0 : d ≠ 0 := by omega
    have hs : b.sign = 1 := Int.sign_eq_one_of_pos (by omega)
    rw [hs, Int.one_mul, Int.one_mul]
    refine ⟨?_, ?_, hd0⟩
    · have : t = m * d := by
        rw [hd, Int.mul_comm]
        exact hm
      calc t.fdiv d = (m * d).fdiv d := by rw [← this]
        _ = m := Int.mul_fdiv_cancel _ hd0
    · have : b = l * d := by
        rw [hd, Int.mul_comm]
        exact hl
      calc b.fdiv d = (l * d).fdiv d := by rw [← this]
        _ = l := Int.mul_fdiv_cancel _ hd0
section
variable {T : Str → Option Fi} {C : Str → Option W} {X : Str → Bool} {k n : Nat} {s : Sto} {Z : EK}
theorem Bt.dv {n : Nat} {b : Int} (h : Bt n b) {t : Int} (hb : b ≠ 0) (hn : n ≤ 60000000) : divOk (if b < 0 then 0 - (Int.gcd t b : Int) else (Int.gcd t b : Int)) = true := by
  have gp : 0 < Int.gcd t b := Int.gcd_pos_of_ne_zero_right _ hb
  unfold divOk
  exact decide_eq_true (by split <;> omega)
structure Frac (T : Str → Option Fi) : Prop where
  fr : Has T "fraction" 2 3 bd_fraction
  sd : Has T "shared_divisor" 2 2 bd_shared_divisor
end
end Pl

namespace Pl
open PySem Py
local macro_rules | `(tactic| decreasing_trivial_pre_omega) => `(tactic| (first | with_reducible refine x_set ?_ | with_reducible refine x_par2 ?_ | with_reducible refine x_par3 ?_ | with_reducible refine x_ite ?_ | with_reducible refine x_for ?_ | with_reducible refine x_whl ?_ | with_reducible refine x_ret ?_ | with_reducible refine x_retn ?_ | with_reducible refine x_brk ?_ | with_reducible refine x_ct ?_ | with_reducible refine x_pass ?_ | with_reducible refine x_exp ?_ | with_reducible refine x_done ?_ | with_reducible refine nx_nx ?_ | with_reducible refine nx_rt ?_ | with_reducible refine nx_bk ?_ | with_reducible refine nx_ct ?_ | with_reducible refine lp_nx ?_ | with_reducible refine lp_ct ?_ | with_reducible refine lp_bk ?_ | with_reducible refine lp_rt ?_ | with_reducible refine jn_nx ?_ | with_reducible refine jn_rt ?_ | with_reducible refine fn_nx ?_ | with_reducible refine fn_rt ?_ | with_reducible refine e_int ?_ | with_reducible refine e_bl ?_ | with_reducible refine e_non ?_ | with_reducible refine e_str ?_ | with_reducible refine e_bin ?_ | with_reducible refine e_neg ?_ | with_reducible refine e_no ?_ | with_reducible refine e_cmp ?_ | with_reducible refine e_chain ?_ | with_reducible refine e_and ?_ | with_reducible refine e_or ?_ | with_reducible refine e_one ?_ | with_reducible refine e_ite ?_ | with_reducible refine e_tup ?_ | with_reducible refine e_lst ?_ | with_reducible refine e_ix ?_ | with_reducible refine e_sl ?_ | with_reducible refine e_rv ?_ | with_reducible refine e_call ?_ | with_reducible refine e_bi ?_ | with_reducible refine e_mt ?_ | with_reducible refine e_isi ?_ | with_reducible refine e_comp ?_ | with_reducible refine es_nil ?_ | with_reducible refine es_cons ?_ | with_reducible refine eo_nil ?_ | with_reducible refine eo_one ?_ | with_reducible refine t_and ?_ | with_reducible refine t_or ?_ | with_reducible refine t_no ?_ | with_reducible refine t_one ?_ | with_reducible refine t_nil ?_ | with_reducible refine t_cmp ?_ | with_reducible refine t_chain ?_ | with_reducible refine t_call ?_ | with_reducible refine t_bi ?_ | with_reducible refine t_isi ?_ | with_reducible refine x_asg ?_ | with_reducible refine a_sub ?_ | with_reducible refine o_add ?_ | with_reducible refine o_sub ?_ | with_reducible refine o_adb ?_ | with_reducible refine o_lt ?_ | with_reducible refine o_le ?_ | with_reducible refine o_gt ?_ | with_reducible refine o_ge ?_ | with_reducible refine o_eqi ?_ | with_reducible refine o_nei ?_ | with_reducible refine o_isN ?_ | with_reducible refine o_notN ?_ | with_reducible refine o_isB ?_ | with_reducible refine o_notB ?_ | with_reducible refine o_abs ?_ | with_reducible refine o_int ?_ | with_reducible refine o_intb ?_ | with_reducible refine o_max ?_ | with_reducible refine o_min ?_ | with_reducible refine o_neg ?_ | with_reducible refine o_lent ?_ | with_reducible refine ex_bl ?_ | with_reducible refine ex_int ?_ | with_reducible refine bq ?_ | with_reducible refine tq ?_ | with_reducible refine r_ok ?_ | ((with_reducible apply e_var); exact rfl) | ((with_reducible apply x_add); exact rfl) | ((with_reducible apply x_sub); exact rfl) | ((with_reducible apply o_ixt); exact rfl) | ((with_reducible apply o_isi); exact rfl) | ((with_reducible apply t_len); exact rfl) | ((with_reducible apply o_ix); assumption; exact rfl) | ((with_reducible apply e_con); rw [gc]; assumption) | ((with_reducible apply o_len); assumption) | ((with_reducible apply o_list); assumption) | ((with_reducible apply o_tuple); assumption) | ((with_reducible apply o_sl); assumption)))
structure Fr (U : Nat → Prop) (s s' : Sto) : Prop where
  len : s.length ≤ s'.length
  get : ∀ n ws, ¬ U n → s[n]? = some ws → s'[n]? = some ws
theorem Fr.refl {U : Nat → Prop} (s : Sto) : Fr U s s := ⟨Nat.le_refl _, fun _ _ _ h => h⟩
theorem Fr.trans {U : Nat → Prop} {s s' s'' : Sto} (h : Fr U s s') (h' : Fr U s' s'') : Fr U s s'' := ⟨Nat.le_trans h.len h'.len, fun n ws hu e => h'.get n ws hu (h.get n ws hu e)⟩
theorem Fr.imp {U V : Nat → Prop} {s s' : Sto} (h : Fr U s s') (i : ∀ n, U n → V n) : Fr V s s' := ⟨h.len, fun n ws hu e => h.get n ws (fun z => hu (i n z)) e⟩
theorem Fr.app {U : Nat → Prop} (s t : Sto) : Fr U s (s ++ t) := ⟨by rw [List.length_append]; omega, fun n ws _ e => by
  rw [List.getElem?_append_left ((List.getElem?_eq_some_iff.mp e).1)]
  exact e⟩
theorem Fr.set {U : Nat → Prop} {s : Sto} {n : Nat} {ws : List W} (h : U n) : Fr U s (s.set n ws) := ⟨by rw [List.length_set]; exact Nat.le_refl _, fun m us hu e => by
  rw [List.getElem?_set_ne (fun z => hu (by rw [← z]; exact h))]
  exact e⟩
abbrev No : Nat → Prop := fun _ => False
abbrev At (u : Nat) : Nat → Prop := fun n => n = u
theorem Fr.any {U : Nat → Prop} {s s' : Sto} (h : Fr No s s') : Fr U s s' := h.imp fun _ => False.elim
theorem Fr.keep {s s' : Sto} (h : Fr No s s') {n : Nat} {ws : List W} (e : s[n]? = some ws) : s'[n]? = some ws := h.get n ws (fun z => z) e
theorem get_end {s : Sto} {ws : List W} : (s ++ [ws])[s.length]? = some ws := by simp
theorem get_lt {s : Sto} {n : Nat} {ws : List W} (e : s[n]? = some ws) : n < s.length := (List.getElem?_eq_some_iff.mp e).1
def Urn (s : Sto) (u : Nat) : Prop := ∃ g a p : Int, s[u]? = some [.int g, .int a, .int p] ∧ 0 ≤ g ∧ 0 ≤ a ∧ a < p ∧ p ≤ 1899999979
theorem Urn.keep {U : Nat → Prop} {s s' : Sto} {u : Nat} (h : Urn s u) (f : Fr U s s') (hu : ¬ U u) : Urn s' u := by
  obtain ⟨g, a, p, h1, h2⟩ := h
  exact ⟨g, a, p, f.get _ _ hu h1, h2⟩
section
variable {T : Str → Option Fi} {C : Str → Option W} {X : Str → Bool} {k n : Nat} {s : Sto} {Z : EK} {Q : QK W} {u : Nat}
theorem draw_wp (h : Has T "_law_draw" 2 3 bd__law_draw) (hu : Urn s u) {m : Int} (h0 : 0 < m) (hm : m ≤ 10 ^ 18)
    (q : ∀ d s', 0 ≤ d → d < m → Urn s' u → Fr (At u) s s' → s'.length = s.length → Q (.int d) s') : ((gam T C X (k + 1)).call "_law_draw" [.loc u, .int m] s).wp Q Z := by
  obtain ⟨g, a, p, hs, hg, ha, hp, hP⟩ := hu
  have hul := get_lt hs
  refine h.wp rfl ?_
  unfold bd__law_draw
  (repeat decreasing_trivial_pre_omega)
  refine ⟨fun z => ?_, fun z => ?_⟩
  · (repeat decreasing_trivial_pre_omega)
    refine o_mod (by omega) ?_
    (repeat decreasing_trivial_pre_omega)
    have dv : divOk m = true := by
      unfold divOk
      exact decide_eq_true (by omega)
    refine o_div dv ?_
    (repeat decreasing_trivial_pre_omega)
    refine ⟨u, _, 0, 0, rfl, rfl, hs, rfl, ?_⟩
    (repeat decreasing_trivial_pre_omega)
    have g0 : 0 < g := of_decide_eq_true z
    refine q _ _ (Int.fmod_nonneg_of_pos _ h0) (Int.fmod_lt_of_pos _ h0) ⟨g.fdiv m, a, p, ?_, ?_, ha, hp, hP⟩ (Fr.set rfl) (List.length_set ..)
    · rw [List.getElem?_set_self hul]
      rfl
    · rw [Int.fdiv_eq_ediv_of_nonneg _ (by omega)]
      exact Int.ediv_nonneg hg (by omega)
  · (repeat decreasing_trivial_pre_omega)
    have bp : Bt 31 a := by
      unfold Bt
      omega
    refine o_mul (bp.bits (m := 20) (by unfold Bt; decide) (by decide) (by decide) (by decide)) ?_
    (repeat decreasing_trivial_pre_omega)
    refine o_mod (by omega) ?_
    (repeat decreasing_trivial_pre_omega)
    refine ⟨u, _, 1, 1, rfl, rfl, hs, rfl, ?_⟩
    have nn : 0 ≤ (a * 60013 + 12289).fmod p := Int.fmod_nonneg_of_pos _ (by omega)
    have nl : (a * 60013 + 12289).fmod p < p := Int.fmod_lt_of_pos _ (by omega)
    generalize (a * 60013 + 12289).fmod p = c at nn nl ⊢
    have hs' : (s.set u ([W.int g, W.int a, W.int p].set 1 (W.int c)))[u]? = some [.int g, .int c, .int p] := by
      rw [List.getElem?_set_self hul]
      rfl
    generalize hS : s.set u ([W.int g, W.int a, W.int p].set 1 (W.int c)) = S at hs' ⊢
    (repeat decreasing_trivial_pre_omega)
    refine o_div (by decide) ?_
    (repeat decreasing_trivial_pre_omega)
    have c16 : c.fdiv 16 = c / 16 := Int.fdiv_eq_ediv_of_nonneg _ (by decide)
    refine o_pow ?_ ?_
    · unfold powOk
      refine decide_eq_true ⟨by decide, by decide, ?_⟩
      rw [c16]
      omega
    (repeat decreasing_trivial_pre_omega)
    refine o_mod (by decide) ?_
    (repeat decreasing_trivial_pre_omega)
    refine o_div (by decide) ?_
    (repeat decreasing_trivial_pre_omega)
    refine o_mod (by omega) ?_
    (repeat decreasing_trivial_pre_omega)
    refine q _ _ (Int.fmod_nonneg_of_pos _ h0) (Int.fmod_lt_of_pos _ h0) ⟨g, c, p, hs', hg, nn, nl, hP⟩ ?_ ?_
    · rw [← hS]
      exact Fr.set rfl
    · rw [← hS]
      exact List.length_set ..
theorem urn_wp (h : Has T "_law_urn" 2 5 bd__law_urn) {ns : List Int} {at_ : Int} (h0 : 0 ≤ at_) (h4 : at_ < 8) (hl : ns.length ≤ 63)
    (q : ∀ s', Urn s' s.length → Fr No s s' → s'.length = s.length + 1 → Q (.loc s.length) s') : ((gam T C X (k + 1)).call "_law_urn" [.cl (ns.map W.int), .int at_] s).wp Q Z := by
  have hL : lsq (.cl (ns.map W.int)) s = some (ns.map W.int) := rfl
  have key : ∀ (cell great prime : Int), 0 ≤ great → prime > 0 → prime ≤ 1899999979 → Q (.loc s.length) (s ++ [[.int great, .int (((cell.fmod prime + 65537 * at_ + 101) ^ 3).fmod prime), .int prime]]) := fun cell great prime h1 h2 h3 => by
    refine q _ ⟨great, _, prime, get_end, h1, Int.fmod_nonneg_of_pos _ h2, Int.fmod_lt_of_pos _ h2, h3⟩ (Fr.app _ _) ?_
    rw [List.length_append]
    rfl
  have hpr : ∃ prime : Int, atW [.int 1899999979, .int 1899998977, .int 1899997949, .int 1899996929, .int 1899995927, .int 1899994903, .int 1899993877, .int 1899992839] (at_.fmod 8) = some (.int prime) ∧ prime > 0 ∧ prime ≤ 1899999979 := by
    have : at_ = 0 ∨ at_ = 1 ∨ at_ = 2 ∨ at_ = 3 ∨ at_ = 4 ∨ at_ = 5 ∨ at_ = 6 ∨ at_ = 7 := by omega
    rcases this with rfl | rfl | rfl | rfl | rfl | rfl | rfl | rfl
    · exact ⟨_, rfl, by decide, by decide⟩
    · exact ⟨_, rfl, by decide, by decide⟩
    · exact ⟨_, rfl, by decide, by decide⟩
    · exact ⟨_, rfl, by decide, by decide⟩
    · exact ⟨_, rfl, by decide, by decide⟩
    · exact ⟨_, rfl, by decide, by decide⟩
    · exact ⟨_, rfl, by decide, by decide⟩
    · exact ⟨_, rfl, by decide, by decide⟩
  obtain ⟨prime, hp1, hp2, hp3⟩ := hpr
  have rest : ∀ cell : Int, (exS (gam T C X k) (.asg (.name 3) (.ix (.tup (.cons (.int 1899999979) (.cons (.int 1899998977) (.cons (.int 1899997949) (.cons (.int 1899996929) (.cons (.int 1899995927) (.cons (.int 1899994903) (.cons (.int 1899993877) (.cons (.int 1899992839) .nil))))))))) (.bin .mod (.var 1) (.int 8))) (.asg (.name 4) (.int 0) (.ite (.cmp .ge (.bi .abs (.cons (.var 2) .nil)) (.bin .pow (.int 10) (.int 18))) (.asg (.name 4) (.bi .abs (.cons (.var 2) .nil)) .done) .done (.ret (.lst (.cons (.var 4) (.cons (.bin .mod (.bin .pow (.bin .add (.bin .add (.bin .mod (.var 2) (.var 3)) (.bin .mul (.int 65537) (.var 1))) (.int 101)) (.int 3)) (.var 3)) (.cons (.var 3) .nil)))) .done))))
      [some (.cl (ns.map W.int)), some (.int at_), some (.int cell), none, none] s).wp (fnQ Q) Z := by
    intro cell
    (repeat decreasing_trivial_pre_omega)
    refine o_mod (by decide) ?_
    refine o_ixt hp1 ?_
    (repeat decreasing_trivial_pre_omega)
    refine o_pow (by decide) ?_
    (repeat decreasing_trivial_pre_omega)
    have c1 : 0 ≤ cell.fmod prime := Int.fmod_nonneg_of_pos _ hp2
    have c2 : cell.fmod prime < prime := Int.fmod_lt_of_pos _ hp2
    have mo : bitsOk 65537 at_ = true := Bt.bits (n := 20) (m := 4) (by unfold Bt; decide) (by unfold Bt; omega) (by decide) (by decide) (by decide)
    have po : powOk (cell.fmod prime + 65537 * at_ + 101) 3 = true := by
      unfold powOk
      refine decide_eq_true ⟨by decide, by decide, ?_⟩
      omega
    refine ⟨fun _ => ?_, fun _ => ?_⟩
    · (repeat decreasing_trivial_pre_omega)
      refine o_mod (by omega) ?_
      (repeat decreasing_trivial_pre_omega)
      refine o_mul mo ?_
      (repeat decreasing_trivial_pre_omega)
      refine o_pow po ?_
      (repeat decreasing_trivial_pre_omega)
      refine o_mod (by omega) ?_
      (repeat decreasing_trivial_pre_omega)
      exact key cell _ prime (by omega) hp2 hp3
    · (repeat decreasing_trivial_pre_omega)
      refine o_mod (by omega) ?_
      (repeat decreasing_trivial_pre_omega)
      refine o_mul mo ?_
      (repeat decreasing_trivial_pre_omega)
      refine o_pow po ?_
      (repeat decreasing_trivial_pre_omega)
      refine o_mod (by omega) ?_
      (repeat decreasing_trivial_pre_omega)
      exact key cell _ prime (by omega) hp2 hp3
  refine h.wp rfl ?_
  unfold bd__law_urn
  (repeat decreasing_trivial_pre_omega)
  refine ⟨fun z => ?_, fun z => ?_⟩
  · have z := of_decide_eq_true z
    rw [List.length_map] at z
    (repeat decreasing_trivial_pre_omega)
    obtain ⟨i, rfl⟩ := Int.eq_ofNat_of_zero_le h0
    have hi : i < ns.length := by omega
    have ha : atW (ns.map W.int) (i : Int) = some (.int ns[i]) := by
      unfold atW
      have : L2.ixN (ns.map W.int).length (i : Int) = some i := by
        unfold L2.ixN
        rw [List.length_map]
        simp [hi]
        try omega
      rw [this, Option.bind_some, List.getElem?_map, List.getElem?_eq_getElem hi]
      rfl
    refine o_ix hL ha ?_
    decreasing_trivial_pre_omega
    decreasing_trivial_pre_omega
    exact rest _
  · decreasing_trivial_pre_omega
    decreasing_trivial_pre_omega
    exact rest 0
end
end Pl

namespace Pr
open PySem Py
def by_row_by (c0 c1 k0 : Str) : B := (.asg (.name 2) (.con k0) (.for_ (.tup (.cons (.name 3) (.cons (.name 4) .nil))) .zip (.cons (.var 0) (.cons (.var 1) .nil)) (.asg (.name 2) (.call c0 (.cons (.var 2) (.cons (.call c1 (.cons (.var 3) (.cons (.var 4) .nil))) .nil))) .done) (.ret (.var 2) .done)))
def by__law_dot (c0 c1 : Str) : B := (.asg (.name 2) (.tup (.cons (.int 0) (.cons (.int 1) .nil))) (.for_ (.tup (.cons (.name 3) (.cons (.name 4) .nil))) .zip (.cons (.var 0) (.cons (.var 1) .nil)) (.asg (.name 2) (.call c0 (.cons (.var 2) (.cons (.call c1 (.cons (.var 3) (.cons (.var 4) .nil))) .nil))) .done) (.ret (.var 2) .done)))
def by_turned (s0 s1 : Str) : B := (.ret (.comp [(s0, 1)] (.name 1) .rng1 (.cons (.bi .len (.cons (.var 0) .nil)) .nil) .nil (.comp [(s1, 2)] (.name 2) .seq (.cons (.var 0) .nil) .nil (.ix (.var 2) (.var 1)))) .done)
def by_table_times (s0 s1 c0 c1 c2 : Str) : B := (.exp (.call c0 (.cons (.var 0) (.cons (.var 1) .nil))) (.asg (.name 2) (.call c1 (.cons (.var 1) .nil)) (.ret (.comp [(s0, 3)] (.name 3) .seq (.cons (.var 0) .nil) .nil (.comp [(s1, 4)] (.name 4) .seq (.cons (.var 2) .nil) .nil (.call c2 (.cons (.var 3) (.cons (.var 4) .nil))))) .done)))
def by_rows_added (s0 s1 c0 : Str) : B := (.ret (.comp [(s0, 2), (s1, 3)] (.tup (.cons (.name 2) (.cons (.name 3) .nil))) .zip (.cons (.var 0) (.cons (.var 1) .nil)) .nil (.call c0 (.cons (.var 2) (.cons (.var 3) .nil)))) .done)
def by_table_sum (s0 s1 c0 c1 : Str) : B := (.exp (.call c0 (.cons (.var 0) (.cons (.var 1) .nil))) (.ret (.comp [(s0, 2), (s1, 3)] (.tup (.cons (.name 2) (.cons (.name 3) .nil))) .zip (.cons (.var 0) (.cons (.var 1) .nil)) .nil (.call c1 (.cons (.var 2) (.cons (.var 3) .nil)))) .done))
def by_look_pair : B := (.ite (.cmp .ne (.bi .len (.cons (.var 0) .nil)) (.bi .len (.cons (.var 1) .nil))) (.raise "NoPair" .done) .done .done)
def by_unit (s0 s1 k0 k1 : Str) : B := (.ret (.comp [(s0, 1)] (.name 1) .rng1 (.cons (.var 0) .nil) .nil (.comp [(s1, 2)] (.name 2) .rng1 (.cons (.var 0) .nil) .nil (.ite (.cmp .eq (.var 1) (.var 2)) (.con k0) (.con k1)))) .done)
def by__law_unit (s0 s1 : Str) : B := (.ret (.comp [(s0, 1)] (.name 1) .rng1 (.cons (.var 0) .nil) .nil (.comp [(s1, 2)] (.name 2) .rng1 (.cons (.var 0) .nil) .nil (.tup (.cons (.bi .int (.cons (.cmp .eq (.var 1) (.var 2)) .nil)) (.cons (.int 1) .nil))))) .done)
def by__law_table_plus (s0 s1 s2 s3 c0 : Str) : B := (.ret (.comp [(s0, 2), (s1, 3)] (.tup (.cons (.name 2) (.cons (.name 3) .nil))) .zip (.cons (.var 0) (.cons (.var 1) .nil)) .nil (.comp [(s2, 4), (s3, 5)] (.tup (.cons (.name 4) (.cons (.name 5) .nil))) .zip (.cons (.var 2) (.cons (.var 3) .nil)) .nil (.call c0 (.cons (.var 4) (.cons (.var 5) .nil))))) .done)
def by__law_is_table (s0 c0 : Str) : B := (.ite (.or (.no (.isi (.var 0) .list)) (.one (.cmp .ne (.bi .len (.cons (.var 0) .nil)) (.var 1)))) (.ret (.bl false) .done) .done (.for_ (.name 2) .seq (.cons (.var 0) .nil) (.ite (.or (.no (.isi (.var 2) .list)) (.or (.cmp .ne (.bi .len (.cons (.var 2) .nil)) (.var 1)) (.one (.no (.bi .all (.cons (.comp [(s0, 3)] (.name 3) .seq (.cons (.var 2) .nil) .nil (.call c0 (.cons (.var 3) .nil))) .nil)))))) (.ret (.bl false) .done) .done .done) (.ret (.bl true) .done)))
def by__law_drawn_table (s0 s1 c0 : Str) : B := (.ret (.comp [(s0, 3)] (.name 3) .rng1 (.cons (.var 2) .nil) .nil (.comp [(s1, 4)] (.name 4) .rng1 (.cons (.var 2) .nil) .nil (.ix (.lst (.cons (.tup (.cons (.int 0) (.cons (.int 1) .nil))) (.cons (.call c0 (.cons (.var 0) (.cons (.var 1) .nil))) .nil))) (.bi .int (.cons (.cmp .gt (.call "_law_draw" (.cons (.var 0) (.cons (.int 4) .nil))) (.int 0)) .nil))))) .done)
def by_made_of (s0 c0 c1 : Str) : B := (.exp (.call c0 (.cons (.var 0) (.cons (.var 1) .nil))) (.ret (.comp [(s0, 2)] (.name 2) .seq (.cons (.var 0) .nil) .nil (.call c1 (.cons (.var 2) (.cons (.var 1) .nil)))) .done))
def by__law_column (s0 c0 : Str) : B := (.ret (.comp [(s0, 2)] (.name 2) .seq (.cons (.var 0) .nil) .nil (.call c0 (.cons (.var 2) (.cons (.var 1) .nil)))) .done)
def by_worth_at (c0 c1 : Str) : B := (.ret (.call c0 (.cons (.call c1 (.cons (.var 0) (.cons (.var 1) .nil))) (.cons (.var 1) .nil))) .done)
def by__law_table_times (s0 s1 c0 c1 : Str) : B := (.asg (.name 2) (.call c0 (.cons (.var 1) .nil)) (.ret (.comp [(s0, 3)] (.name 3) .seq (.cons (.var 0) .nil) .nil (.comp [(s1, 4)] (.name 4) .seq (.cons (.var 2) .nil) .nil (.call c1 (.cons (.var 3) (.cons (.var 4) .nil))))) .done))
def by_poly (k0 : Str) : B := (.asg (.name 1) (.bi .len (.cons (.var 0) .nil)) (.whl (.and (.cmp .gt (.var 1) (.int 0)) (.one (.cmp .eq (.ix (.var 0) (.bin .sub (.var 1) (.int 1))) (.con k0)))) (.aug 1 .sub (.int 1) .done) (.ret (.bi .list (.cons (.sl (.var 0) .nil (.one (.var 1))) .nil)) .done)))
def by_number_at (k0 : Str) : B := (.ite (.cmp .lt (.var 1) (.bi .len (.cons (.var 0) .nil))) (.ret (.ix (.var 0) (.var 1)) .done) .done (.ret (.con k0) .done))
def by_poly_sum (s0 c0 c1 c2 : Str) : B := (.ret (.call c0 (.cons (.comp [(s0, 2)] (.name 2) .rng1 (.cons (.bi .max2 (.cons (.bi .len (.cons (.var 0) .nil)) (.cons (.bi .len (.cons (.var 1) .nil)) .nil))) .nil) .nil (.call c1 (.cons (.call c2 (.cons (.var 0) (.cons (.var 2) .nil))) (.cons (.call c2 (.cons (.var 1) (.cons (.var 2) .nil))) .nil)))) .nil)) .done)
def by_poly_less (s0 c0 c1 c2 : Str) : B := (.ret (.call c0 (.cons (.comp [(s0, 2)] (.name 2) .rng1 (.cons (.bi .max2 (.cons (.bi .len (.cons (.var 0) .nil)) (.cons (.bi .len (.cons (.var 1) .nil)) .nil))) .nil) .nil (.call c1 (.cons (.call c2 (.cons (.var 0) (.cons (.var 2) .nil))) (.cons (.call c2 (.cons (.var 1) (.cons (.var 2) .nil))) .nil)))) .nil)) .done)
def by_poly_times (c0 c1 k0 : Str) : B := (.ite (.or (.cmp .eq (.var 0) (.lst .nil)) (.one (.cmp .eq (.var 1) (.lst .nil)))) (.ret (.lst .nil) .done) .done (.asg (.name 2) (.bin .mul (.lst (.cons (.con k0) .nil)) (.bin .sub (.bin .add (.bi .len (.cons (.var 0) .nil)) (.bi .len (.cons (.var 1) .nil))) (.int 1))) (.for_ (.tup (.cons (.name 3) (.cons (.name 4) .nil))) .enu (.cons (.var 0) .nil) (.for_ (.tup (.cons (.name 5) (.cons (.name 6) .nil))) .enu (.cons (.var 1) .nil) (.asg (.sub (.var 2) (.bin .add (.var 3) (.var 5))) (.call c0 (.cons (.ix (.var 2) (.bin .add (.var 3) (.var 5))) (.cons (.call c1 (.cons (.var 4) (.cons (.var 6) .nil))) .nil))) .done) .done) (.ret (.var 2) .done))))
def by_scaled (s0 c0 c1 : Str) : B := (.ret (.call c0 (.cons (.comp [(s0, 2)] (.name 2) .seq (.cons (.var 1) .nil) .nil (.call c1 (.cons (.var 0) (.cons (.var 2) .nil)))) .nil)) .done)
def by_worth (c0 c1 k0 : Str) : B := (.asg (.name 2) (.con k0) (.for_ (.name 3) .rev (.cons (.var 0) .nil) (.asg (.name 2) (.call c0 (.cons (.call c1 (.cons (.var 2) (.cons (.var 1) .nil))) (.cons (.var 3) .nil))) .done) (.ret (.var 2) .done)))
def by_slope (s0 c0 : Str) : B := (.ret (.comp [(s0, 1)] (.name 1) .rng2 (.cons (.int 1) (.cons (.bi .len (.cons (.var 0) .nil)) .nil)) .nil (.call c0 (.cons (.tup (.cons (.var 1) (.cons (.int 1) .nil))) (.cons (.ix (.var 0) (.var 1)) .nil)))) .done)
def by_divided (c0 c1 c2 k0 : Str) : B := (.ite (.cmp .eq (.var 1) (.lst .nil)) (.raise "NoPolynomial" .done) .done (.asg (.name 2) (.bin .mul (.lst (.cons (.con k0) .nil)) (.bi .max2 (.cons (.int 0) (.cons (.bin .add (.bin .sub (.bi .len (.cons (.var 0) .nil)) (.bi .len (.cons (.var 1) .nil))) (.int 1)) .nil)))) (.asg (.name 3) (.bi .list (.cons (.var 0) .nil)) (.whl (.cmp .ge (.bi .len (.cons (.var 3) .nil)) (.bi .len (.cons (.var 1) .nil))) (.asg (.name 4) (.bin .sub (.bi .len (.cons (.var 3) .nil)) (.bi .len (.cons (.var 1) .nil))) (.asg (.sub (.var 2) (.var 4)) (.call c0 (.cons (.ix (.var 3) (.neg (.int 1))) (.cons (.ix (.var 1) (.neg (.int 1))) .nil))) (.asg (.name 3) (.call c1 (.cons (.var 3) (.cons (.bin .add (.bin .mul (.lst (.cons (.con k0) .nil)) (.var 4)) (.call c2 (.cons (.ix (.var 2) (.var 4)) (.cons (.var 1) .nil)))) .nil))) .done))) (.ret (.tup (.cons (.var 2) (.cons (.var 3) .nil))) .done)))))
def by_with_lead_one (s0 c0 c1 k0 : Str) : B := (.ite (.cmp .eq (.ix (.var 0) (.int 0)) (.lst .nil)) (.ret (.var 0) .done) .done (.ret (.comp [(s0, 1)] (.name 1) .seq (.cons (.var 0) .nil) .nil (.call c0 (.cons (.call c1 (.cons (.con k0) (.cons (.ix (.ix (.var 0) (.int 0)) (.neg (.int 1))) .nil))) (.cons (.var 1) .nil)))) .done))
def by__law_trim : B := (.asg (.name 1) (.bi .list (.cons (.var 0) .nil)) (.whl (.and (.cmp .ne (.var 1) (.lst .nil)) (.one (.cmp .eq (.ix (.ix (.var 1) (.neg (.int 1))) (.int 0)) (.int 0)))) (.exp (.mt .pop (.var 1) .nil) .done) (.ret (.var 1) .done)))
def by__law_poly_plus (c0 c1 : Str) : B := (.asg (.name 2) (.lst .nil) (.for_ (.name 3) .rng1 (.cons (.bi .max2 (.cons (.bi .len (.cons (.var 0) .nil)) (.cons (.bi .len (.cons (.var 1) .nil)) .nil))) .nil) (.asg (.name 4) (.ite (.cmp .lt (.var 3) (.bi .len (.cons (.var 0) .nil))) (.ix (.var 0) (.var 3)) (.tup (.cons (.int 0) (.cons (.int 1) .nil)))) (.asg (.name 5) (.ite (.cmp .lt (.var 3) (.bi .len (.cons (.var 1) .nil))) (.ix (.var 1) (.var 3)) (.tup (.cons (.int 0) (.cons (.int 1) .nil)))) (.exp (.mt .append (.var 2) (.cons (.call c0 (.cons (.var 4) (.cons (.var 5) .nil))) .nil)) .done))) (.ret (.call c1 (.cons (.var 2) .nil)) .done)))
def by__law_poly_often (s0 c0 c1 : Str) : B := (.ret (.call c0 (.cons (.comp [(s0, 2)] (.name 2) .seq (.cons (.var 1) .nil) .nil (.call c1 (.cons (.var 0) (.cons (.var 2) .nil)))) .nil)) .done)
def by__law_poly_times (c0 c1 c2 : Str) : B := (.ite (.or (.cmp .eq (.var 0) (.lst .nil)) (.one (.cmp .eq (.var 1) (.lst .nil)))) (.ret (.lst .nil) .done) .done (.asg (.name 2) (.bin .mul (.lst (.cons (.tup (.cons (.int 0) (.cons (.int 1) .nil))) .nil)) (.bin .sub (.bin .add (.bi .len (.cons (.var 0) .nil)) (.bi .len (.cons (.var 1) .nil))) (.int 1))) (.for_ (.tup (.cons (.name 3) (.cons (.name 4) .nil))) .enu (.cons (.var 0) .nil) (.for_ (.tup (.cons (.name 5) (.cons (.name 6) .nil))) .enu (.cons (.var 1) .nil) (.asg (.sub (.var 2) (.bin .add (.var 3) (.var 5))) (.call c0 (.cons (.ix (.var 2) (.bin .add (.var 3) (.var 5))) (.cons (.call c1 (.cons (.var 4) (.cons (.var 6) .nil))) .nil))) .done) .done) (.ret (.call c2 (.cons (.var 2) .nil)) .done))))
def by__law_drawn_poly (s0 c0 c1 : Str) : B := (.ret (.bin .add (.comp [(s0, 3)] (.name 3) .rng1 (.cons (.call "_law_draw" (.cons (.var 0) (.cons (.bin .add (.var 2) (.int 1)) .nil))) .nil) .nil (.call c0 (.cons (.var 0) (.cons (.var 1) .nil)))) (.lst (.cons (.call c1 (.cons (.var 0) (.cons (.var 1) .nil))) .nil))) .done)
def by__law_is_poly (s0 c0 c1 : Str) : B := (.ret (.and (.isi (.var 0) .list) (.and (.bi .all (.cons (.comp [(s0, 1)] (.name 1) .seq (.cons (.var 0) .nil) .nil (.call c0 (.cons (.var 1) .nil))) .nil)) (.one (.cmp .eq (.call c1 (.cons (.var 0) .nil)) (.var 0))))) .done)
def by__law_worth (c0 c1 : Str) : B := (.asg (.name 2) (.tup (.cons (.int 0) (.cons (.int 1) .nil))) (.for_ (.name 3) .rev (.cons (.var 0) .nil) (.asg (.name 2) (.call c0 (.cons (.call c1 (.cons (.var 2) (.cons (.var 1) .nil))) (.cons (.var 3) .nil))) .done) (.ret (.var 2) .done)))
def by__law_above (c0 : Str) : B := (.asg (.name 2) (.call c0 (.cons (.var 0) (.cons (.var 1) .nil))) (.ret (.tup (.cons (.bi .abs (.cons (.ix (.var 2) (.int 0)) .nil)) (.cons (.ix (.var 2) (.int 1)) .nil))) .done))
def by_place_of_lead (k0 : Str) : B := (.for_ (.name 2) .rng2 (.cons (.var 1) (.cons (.bi .len (.cons (.var 0) .nil)) .nil)) (.ite (.cmp .ne (.ix (.ix (.var 0) (.var 2)) (.var 1)) (.con k0)) (.ret (.var 2) .done) .done .done) (.ret .non .done))
def by_determinant (c0 c1 c2 c3 c4 k0 k1 : Str) : B := (.asg (.name 1) (.bi .list (.cons (.var 0) .nil)) (.asg (.name 2) (.con k0) (.for_ (.name 3) .rng1 (.cons (.bi .len (.cons (.var 0) .nil)) .nil) (.asg (.name 4) (.call c0 (.cons (.var 1) (.cons (.var 3) .nil))) (.ite (.cmp .isN (.var 4) .non) (.ret (.con k1) .done) .done (.ite (.cmp .ne (.var 4) (.var 3)) (.asg (.tup (.cons (.sub (.var 1) (.var 3)) (.cons (.sub (.var 1) (.var 4)) .nil))) (.tup (.cons (.ix (.var 1) (.var 4)) (.cons (.ix (.var 1) (.var 3)) .nil))) (.asg (.name 2) (.call c1 (.cons (.con k1) (.cons (.var 2) .nil))) .done)) .done (.asg (.name 2) (.call c2 (.cons (.var 2) (.cons (.ix (.ix (.var 1) (.var 3)) (.var 3)) .nil))) (.for_ (.name 5) .rng2 (.cons (.bin .add (.var 3) (.int 1)) (.cons (.bi .len (.cons (.var 1) .nil)) .nil)) (.asg (.sub (.var 1) (.var 5)) (.call c3 (.cons (.ix (.var 1) (.var 5)) (.cons (.call c4 (.cons (.ix (.ix (.var 1) (.var 5)) (.var 3)) (.cons (.ix (.ix (.var 1) (.var 3)) (.var 3)) .nil))) (.cons (.ix (.var 1) (.var 3)) .nil)))) .done) .done))))) (.ret (.var 2) .done))))
def by_row_lessened (s0 s1 c0 c1 : Str) : B := (.ret (.comp [(s0, 3), (s1, 4)] (.tup (.cons (.name 3) (.cons (.name 4) .nil))) .zip (.cons (.var 0) (.cons (.var 2) .nil)) .nil (.call c0 (.cons (.var 3) (.cons (.call c1 (.cons (.var 1) (.cons (.var 4) .nil))) .nil)))) .done)
def by__law_sign : B := (.ret (.bin .sub (.bi .int (.cons (.cmp .gt (.ix (.var 0) (.int 0)) (.int 0)) .nil)) (.bi .int (.cons (.cmp .lt (.ix (.var 0) (.int 0)) (.int 0)) .nil))) .done)
def by_powers_like (s0 s1 c0 k0 : Str) : B := (.ret (.call c0 (.cons (.comp [(s0, 2), (s1, 3)] (.tup (.cons (.name 2) (.cons (.name 3) .nil))) .enu (.cons (.var 0) .nil) .nil (.ite (.cmp .eq (.bin .mod (.var 2) (.int 2)) (.bin .mod (.var 1) (.int 2))) (.var 3) (.con k0))) .nil)) .done)
end Pr

namespace Pr
open PySem Py
def by_common (s0 s1 c0 c1 c2 c3 k0 : Str) : B := (.par2 2 3 (.call c0 (.cons (.lst (.cons (.var 0) (.cons (.lst (.cons (.con k0) .nil)) (.cons (.lst .nil) .nil)))) .nil)) (.call c0 (.cons (.lst (.cons (.var 1) (.cons (.lst .nil) (.cons (.lst (.cons (.con k0) .nil)) .nil)))) .nil)) (.whl (.cmp .ne (.ix (.var 3) (.int 0)) (.lst .nil)) (.asg (.name 4) (.ix (.call c1 (.cons (.ix (.var 2) (.int 0)) (.cons (.ix (.var 3) (.int 0)) .nil))) (.int 0)) (.asg (.name 5) (.comp [(s0, 6), (s1, 7)] (.tup (.cons (.name 6) (.cons (.name 7) .nil))) .zip (.cons (.var 2) (.cons (.var 3) .nil)) .nil (.call c2 (.cons (.var 6) (.cons (.call c3 (.cons (.var 4) (.cons (.var 7) .nil))) .nil)))) (.par2 2 3 (.var 3) (.call c0 (.cons (.var 5) .nil)) .done))) (.ite (.cmp .eq (.ix (.var 2) (.int 0)) (.lst .nil)) (.ret (.tup (.cons (.lst .nil) (.cons (.lst .nil) (.cons (.lst .nil) .nil)))) .done) .done (.ret (.bi .tuple (.cons (.var 2) .nil)) .done))))
def by_parted (c0 c1 c2 c3 : Str) : B := (.ite (.cmp .eq (.var 0) (.lst .nil)) (.raise "NoPolynomial" .done) .done (.asg (.name 1) (.ix (.call c0 (.cons (.var 0) (.cons (.call c1 (.cons (.var 0) .nil)) .nil))) (.int 0)) (.asg (.name 2) (.ix (.call c2 (.cons (.var 0) (.cons (.var 1) .nil))) (.int 0)) (.asg (.name 3) (.lst .nil) (.asg (.name 4) (.int 1) (.whl (.cmp .gt (.bi .len (.cons (.var 2) .nil)) (.int 1)) (.asg (.name 5) (.ix (.call c0 (.cons (.var 2) (.cons (.var 1) .nil))) (.int 0)) (.asg (.name 6) (.ix (.call c2 (.cons (.var 2) (.cons (.var 5) .nil))) (.int 0)) (.ite (.cmp .gt (.bi .len (.cons (.var 6) .nil)) (.int 1)) (.exp (.mt .append (.var 3) (.cons (.tup (.cons (.ix (.call c3 (.cons (.lst (.cons (.var 6) .nil)) .nil)) (.int 0)) (.cons (.var 4) .nil))) .nil)) .done) .done (.asg (.name 2) (.var 5) (.asg (.name 1) (.ix (.call c2 (.cons (.var 1) (.cons (.var 5) .nil))) (.int 0)) (.aug 4 .add (.int 1) .done)))))) (.ret (.var 3) .done)))))))
def by_changes_in (s0 s1 s2 : Str) : B := (.asg (.name 1) (.comp [(s0, 2)] (.name 2) .seq (.cons (.var 0) .nil) (.cmp .ne (.var 2) (.int 0)) (.var 2)) (.ret (.bi .len (.cons (.comp [(s1, 3), (s2, 4)] (.tup (.cons (.name 3) (.cons (.name 4) .nil))) .zip (.cons (.var 1) (.cons (.sl (.var 1) (.one (.int 1)) .nil) .nil)) (.cmp .ne (.var 3) (.var 4)) (.int 1)) .nil)) .done))
def by_changes_at (s0 c0 c1 c2 : Str) : B := (.ret (.call c0 (.cons (.comp [(s0, 2)] (.name 2) .seq (.cons (.var 0) .nil) .nil (.call c1 (.cons (.call c2 (.cons (.var 2) (.cons (.var 1) .nil))) .nil))) .nil)) .done)
def by_changes_below (s0 c0 c1 : Str) : B := (.ret (.call c0 (.cons (.comp [(s0, 1)] (.name 1) .seq (.cons (.var 0) .nil) .nil (.bin .mul (.call c1 (.cons (.ix (.var 1) (.neg (.int 1))) .nil)) (.bin .sub (.int 1) (.bin .mul (.int 2) (.bin .mod (.bin .sub (.bi .len (.cons (.var 1) .nil)) (.int 1)) (.int 2)))))) .nil)) .done)
def by_changes_above (s0 c0 c1 : Str) : B := (.ret (.call c0 (.cons (.comp [(s0, 1)] (.name 1) .seq (.cons (.var 0) .nil) .nil (.call c1 (.cons (.ix (.var 1) (.neg (.int 1))) .nil))) .nil)) .done)
def by_without_size (c0 c1 k0 : Str) : B := (.ret (.call c0 (.cons (.call c1 (.cons (.con k0) (.cons (.tup (.cons (.bi .abs (.cons (.ix (.ix (.var 0) (.neg (.int 1))) (.int 0)) .nil)) (.cons (.ix (.ix (.var 0) (.neg (.int 1))) (.int 1)) .nil))) .nil))) (.cons (.var 0) .nil))) .done)
def by_simple_row (c0 c1 c2 c3 c4 : Str) : B := (.asg (.name 1) (.call c0 (.cons (.ix (.call c1 (.cons (.var 0) (.cons (.ix (.call c2 (.cons (.var 0) (.cons (.call c3 (.cons (.var 0) .nil)) .nil))) (.int 0)) .nil))) (.int 0)) .nil)) (.asg (.name 2) (.lst (.cons (.var 1) .nil)) (.asg (.name 1) (.call c3 (.cons (.var 1) .nil)) (.whl (.cmp .ne (.var 1) (.lst .nil)) (.exp (.mt .append (.var 2) (.cons (.call c0 (.cons (.var 1) .nil)) .nil)) (.asg (.name 1) (.call c4 (.cons (.tup (.cons (.neg (.int 1)) (.cons (.int 1) .nil))) (.cons (.ix (.call c1 (.cons (.ix (.var 2) (.neg (.int 2))) (.cons (.ix (.var 2) (.neg (.int 1))) .nil))) (.int 1)) .nil))) .done)) (.ret (.var 2) .done)))))
def by_root_count (c0 c1 c2 c3 c4 : Str) : B := (.ite (.cmp .eq (.var 0) (.lst .nil)) (.raise "NoPolynomial" .done) .done (.ite (.and (.cmp .notN (.var 1) .non) (.and (.cmp .notN (.var 2) .non) (.one (.no (.call c0 (.cons (.var 1) (.cons (.var 2) .nil))))))) (.raise "NoStretch" .done) .done (.asg (.name 3) (.call c1 (.cons (.var 0) .nil)) (.asg (.name 4) (.ite (.cmp .isN (.var 1) .non) (.call c2 (.cons (.var 3) .nil)) (.call c3 (.cons (.var 3) (.cons (.var 1) .nil)))) (.asg (.name 5) (.ite (.cmp .isN (.var 2) .non) (.call c4 (.cons (.var 3) .nil)) (.call c3 (.cons (.var 3) (.cons (.var 2) .nil)))) (.ret (.bin .sub (.var 4) (.var 5)) .done))))))
def by_far_end (c0 c1 c2 k0 k1 : Str) : B := (.asg (.name 1) (.con k0) (.for_ (.name 2) .seq (.cons (.sl (.var 0) .nil (.one (.neg (.int 1)))) .nil) (.asg (.name 3) (.call c0 (.cons (.var 2) (.cons (.ix (.var 0) (.neg (.int 1))) .nil))) (.asg (.name 3) (.tup (.cons (.bi .abs (.cons (.ix (.var 3) (.int 0)) .nil)) (.cons (.ix (.var 3) (.int 1)) .nil))) (.ite (.call c1 (.cons (.var 1) (.cons (.var 3) .nil))) (.asg (.name 1) (.var 3) .done) .done .done))) (.ret (.call c2 (.cons (.var 1) (.cons (.con k1) .nil))) .done)))
def by_parting_point (s0 s1 c0 c1 c2 c3 k0 k1 : Str) : B := (.asg (.name 3) (.call c0 (.cons (.var 2) (.cons (.var 1) .nil))) (.asg (.name 4) (.comp [(s0, 5)] (.name 5) .seq (.cons (.con k0) .nil) .nil (.call c1 (.cons (.var 1) (.cons (.call c2 (.cons (.tup (.cons (.var 5) (.cons (.int 10) .nil))) (.cons (.var 3) .nil))) .nil)))) (.ret (.ix (.comp [(s1, 6)] (.name 6) .seq (.cons (.var 4) .nil) (.cmp .ne (.call c3 (.cons (.var 0) (.cons (.var 6) .nil))) (.con k1)) (.var 6)) (.int 0)) .done)))
def by_stretches_of (c0 c1 c2 c3 c4 : Str) : B := (.ite (.cmp .eq (.var 0) (.lst .nil)) (.raise "NoPolynomial" .done) .done (.asg (.name 1) (.call c0 (.cons (.var 0) .nil)) (.asg (.name 2) (.call c1 (.cons (.var 0) .nil)) (.asg (.name 3) (.lst (.cons (.tup (.cons (.call c2 (.cons (.tup (.cons (.neg (.int 1)) (.cons (.int 1) .nil))) (.cons (.var 2) .nil))) (.cons (.var 2) .nil))) .nil)) (.asg (.name 4) (.lst .nil) (.whl (.cmp .ne (.var 3) (.lst .nil)) (.asg (.tup (.cons (.name 5) (.cons (.name 6) .nil))) (.mt .pop (.var 3) .nil) (.asg (.name 7) (.bin .sub (.call c3 (.cons (.var 1) (.cons (.var 5) .nil))) (.call c3 (.cons (.var 1) (.cons (.var 6) .nil)))) (.ite (.cmp .eq (.var 7) (.int 1)) (.exp (.mt .append (.var 4) (.cons (.tup (.cons (.var 5) (.cons (.var 6) .nil))) .nil)) .done) .done (.ite (.cmp .gt (.var 7) (.int 1)) (.asg (.name 8) (.call c4 (.cons (.var 0) (.cons (.var 5) (.cons (.var 6) .nil)))) (.exp (.mt .append (.var 3) (.cons (.tup (.cons (.var 8) (.cons (.var 6) .nil))) .nil)) (.exp (.mt .append (.var 3) (.cons (.tup (.cons (.var 5) (.cons (.var 8) .nil))) .nil)) .done))) .done .done)))) (.ret (.var 4) .done)))))))
def by_divisions (c0 c1 : Str) : B := (.ite (.cmp .eq (.var 0) (.lst .nil)) (.raise "NoPolynomial" .done) .done (.par2 1 2 (.call c0 (.cons (.var 0) (.cons (.bin .sub (.bi .len (.cons (.var 0) .nil)) (.int 1)) .nil))) (.call c0 (.cons (.var 0) (.cons (.bi .len (.cons (.var 0) .nil)) .nil))) (.asg (.name 3) (.lst .nil) (.whl (.cmp .ne (.var 2) (.lst .nil)) (.asg (.tup (.cons (.name 4) (.cons (.name 5) .nil))) (.call c1 (.cons (.var 1) (.cons (.var 2) .nil))) (.exp (.mt .append (.var 3) (.cons (.var 4) .nil)) (.par2 1 2 (.var 2) (.var 5) .done))) (.ret (.tup (.cons (.var 3) (.cons (.var 1) .nil))) .done)))))
def by_side_of (c0 : Str) : B := (.asg (.name 1) (.bin .sub (.bi .len (.cons (.var 0) .nil)) (.int 1)) (.ite (.cmp .eq (.bin .mod (.bin .fdiv (.bin .sub (.var 1) (.int 1)) (.int 2)) (.int 2)) (.int 1)) (.ret (.bin .sub (.int 0) (.call c0 (.cons (.ix (.var 0) (.var 1)) .nil))) .done) .done (.ret (.call c0 (.cons (.ix (.var 0) (.var 1)) .nil)) .done)))
def by_on_axis (s0 c0 c1 k0 : Str) : B := (.asg (.name 1) (.int 0) (.whl (.cmp .eq (.ix (.var 0) (.var 1)) (.con k0)) (.aug 1 .add (.int 1) .done) (.asg (.name 2) (.var 1) (.for_ (.tup (.cons (.name 3) (.cons (.name 4) .nil))) .seq (.cons (.call c0 (.cons (.comp [(s0, 5)] (.name 5) .rng3 (.cons (.var 1) (.cons (.bi .len (.cons (.var 0) .nil)) (.cons (.int 2) .nil))) .nil (.ix (.var 0) (.var 5))) .nil)) .nil) (.aug 2 .add (.bin .mul (.bin .mul (.int 2) (.var 4)) (.call c1 (.cons (.var 3) (.cons .non (.cons (.con k0) .nil))))) .done) (.ret (.var 2) .done)))))
def by_three (c0 c1 c2 : Str) : B := (.asg (.tup (.cons (.name 1) (.cons (.name 2) .nil))) (.call c0 (.cons (.var 0) .nil)) (.asg (.name 3) (.call c1 (.cons (.var 2) .nil)) (.asg (.name 4) (.bin .fdiv (.bin .sub (.bin .sub (.bi .len (.cons (.var 2) .nil)) (.int 1)) (.var 3)) (.int 2)) (.asg (.name 5) (.var 4) (.for_ (.name 6) .seq (.cons (.var 1) .nil) (.aug 4 .add (.bin .fdiv (.bin .add (.bin .sub (.bi .len (.cons (.var 6) .nil)) (.int 1)) (.call c2 (.cons (.var 6) .nil))) (.int 2)) (.aug 5 .add (.bin .fdiv (.bin .sub (.bin .sub (.bi .len (.cons (.var 6) .nil)) (.int 1)) (.call c2 (.cons (.var 6) .nil))) (.int 2)) .done)) (.ret (.tup (.cons (.var 4) (.cons (.var 3) (.cons (.var 5) .nil)))) .done))))))
def by_dies (c0 : Str) : B := (.ret (.and (.cmp .ne (.var 0) (.lst .nil)) (.one (.cmp .eq (.ix (.call c0 (.cons (.var 0) .nil)) (.int 0)) (.bin .sub (.bi .len (.cons (.var 0) .nil)) (.int 1))))) .done)
def by_number_at_2 (k0 : Str) : B := (.ite (.chain .le .lt (.int 0) (.var 1) (.bi .len (.cons (.var 0) .nil))) (.ret (.ix (.var 0) (.var 1)) .done) .done (.ret (.con k0) .done))
def by_steep (s0 s1 c0 : Str) : B := (.ite (.cmp .lt (.bi .len (.cons (.var 0) .nil)) (.int 2)) (.raise "NoPolynomial" .done) .done (.asg (.name 1) (.bin .sub (.bi .len (.cons (.var 0) .nil)) (.int 1)) (.ret (.comp [(s0, 2)] (.name 2) .rng1 (.cons (.var 1) .nil) .nil (.comp [(s1, 3)] (.name 3) .rng1 (.cons (.var 1) .nil) .nil (.call c0 (.cons (.var 0) (.cons (.bin .add (.bin .sub (.bin .sub (.var 1) (.int 1)) (.bin .mul (.int 2) (.var 3))) (.var 2)) .nil))))) .done)))
def by_look_gain (k0 : Str) : B := (.ite (.or (.no (.chain .le .le (.int 2) (.bi .len (.cons (.var 0) .nil)) (.bin .add (.con k0) (.int 1)))) (.one (.no (.chain .le .lt (.int 1) (.bi .len (.cons (.var 1) .nil)) (.bi .len (.cons (.var 0) .nil)))))) (.raise "NoGain" .done) .done .done)
def by_gained (c0 c1 c2 : Str) : B := (.exp (.call c0 (.cons (.var 0) (.cons (.var 1) .nil))) (.ret (.call c1 (.cons (.var 0) (.cons (.call c2 (.cons (.var 2) (.cons (.var 1) .nil))) .nil))) .done))
def by_edge_poly (c0 c1 c2 c3 c4 c5 c6 c7 c8 k0 : Str) : B := (.asg (.name 2) (.lst .nil) (.asg (.name 3) (.lst (.cons (.con k0) .nil)) (.for_ (.name 4) .rng1 (.cons (.bi .len (.cons (.var 0) .nil)) .nil) (.asg (.name 5) (.tup (.cons (.var 4) (.cons (.int 1) .nil))) (.asg (.name 6) (.call c0 (.cons (.call c1 (.cons (.call c2 (.cons (.call c3 (.cons (.var 0) (.cons (.var 1) (.cons (.var 5) .nil)))) .nil)) .nil)) (.cons (.call c4 (.cons (.var 2) (.cons (.var 5) .nil))) .nil))) (.asg (.name 2) (.call c5 (.cons (.var 2) (.cons (.call c6 (.cons (.call c7 (.cons (.var 6) (.cons (.call c4 (.cons (.var 3) (.cons (.var 5) .nil))) .nil))) (.cons (.var 3) .nil))) .nil))) (.asg (.name 3) (.call c8 (.cons (.var 3) (.cons (.lst (.cons (.tup (.cons (.bin .sub (.int 0) (.var 4)) (.cons (.int 1) .nil))) (.cons (.con k0) .nil))) .nil))) .done)))) (.ret (.var 2) .done))))
def by_gains_of (c0 c1 c2 c3 c4 k0 : Str) : B := (.exp (.call c0 (.cons (.var 0) (.cons (.var 1) .nil))) (.asg (.name 2) (.call c1 (.cons (.var 0) (.cons (.var 1) .nil))) (.ite (.cmp .eq (.var 2) (.lst .nil)) (.ret (.tup (.cons (.lst .nil) (.cons (.lst .nil) .nil))) .done) .done (.asg (.name 3) (.bin .add (.bin .add (.lst (.cons .non .nil)) (.call c2 (.cons (.var 2) .nil))) (.lst (.cons .non .nil))) (.asg (.name 4) (.lst .nil) (.for_ (.tup (.cons (.name 5) (.cons (.name 6) .nil))) .zip (.cons (.var 3) (.cons (.sl (.var 3) (.one (.int 1)) .nil) .nil)) (.asg (.name 7) (.con k0) (.ite (.cmp .notN (.var 6) .non) (.asg (.name 7) (.ix (.var 6) (.int 0)) .done) (.ite (.cmp .notN (.var 5) .non) (.asg (.name 7) (.ix (.var 5) (.int 1)) .done) .done .done) (.ite (.call c3 (.cons (.call c4 (.cons (.var 0) (.cons (.var 1) (.cons (.var 7) .nil)))) .nil)) (.exp (.mt .append (.var 4) (.cons (.tup (.cons (.var 5) (.cons (.var 6) .nil))) .nil)) .done) .done .done))) (.ret (.tup (.cons (.var 2) (.cons (.var 4) .nil))) .done)))))))
end Pr

namespace Pq
open PySem Py
abbrev KQ : Type := W → Nat → Prop
abbrev KZ : Type := Str → Prop
mutual
def flat : W → Bool
  | .tup ws => flats ws
  | .cl _ => false
  | _ => true
def flats : List W → Bool
  | [] => true
  | w :: ws => flat w && flats ws
end
def tgl (ws : List W) : Nat := if flats ws then 2 else 1
def tgf (w : W) : Nat := if flat w then 2 else 0
def mn (w : W) (t u : Nat) : Nat := if flat w then u else if t = 2 then u else if u = 0 then 0 else t
def ofI (o : Option (List Int)) (Q : List Int → Prop) : Prop := match o with
  | some a => Q a
  | none => False
def bopP : Bop → W → Nat → W → KQ → Prop
  | .add, .int i, _, .int j, Q => Q (.int (i + j)) 2
  | .add, .int i, _, .bl k, Q => Q (.int (i + PyProof.Rows.b2i k)) 2
  | .add, .str x, _, .str y, Q => x.length + y.length ≤ sizeLine ∧ Q (.str (x ++ y)) 2
  | .add, .cl xs, _, .cl ys, Q => xs.length + ys.length ≤ sizeLine ∧ Q (.cl (xs ++ ys)) (tgl (xs ++ ys))
  | .add, .tup xs, _, .tup ys, Q => xs.length + ys.length ≤ sizeLine ∧ Q (.tup (xs ++ ys)) (tgf (.tup (xs ++ ys)))
  | .sub, .int i, _, .int j, Q => Q (.int (i - j)) 2
  | .mul, .int i, _, .int j, Q => bitsOk i j = true ∧ Q (.int (i * j)) 2
  | .mul, .cl xs, t, .int k, Q => (t ≠ 0 ∧ -(2 ^ 63) ≤ k ∧ k < 2 ^ 63 ∧ xs.length * k.toNat ≤ sizeLine) ∧ Q (.cl (List.replicate k.toNat xs).flatten) (tgl (List.replicate k.toNat xs).flatten)
  | .fdiv, .int i, _, .int j, Q => j ≠ 0 ∧ Q (.int (i.fdiv j)) 2
  | .mod, .int i, _, .int j, Q => j ≠ 0 ∧ Q (.int (i.fmod j)) 2
  | .pow, .int i, _, .int j, Q => powOk i j = true ∧ Q (.int (i ^ j.toNat)) 2
  | .shl, .int i, _, .int j, Q => powOk i j = true ∧ Q (.int (i * 2 ^ j.toNat)) 2
  | .cnt, .cl ws, _, .int i, Q => ofI (intsW ws) fun ns => Q (.int (ns.count i : Nat)) 2
  | _, _, _, _, _ => False
def rQ (r : R W) (Q : W → Prop) : Prop := match r with
  | .ok w _ => Q w
  | _ => False
def ofO {α : Type} (o : Option α) (Q : α → Prop) : Prop := match o with
  | some a => Q a
  | none => False
def ixP : W → W → KQ → Prop
  | .tup ws, .int i, Q => ofO (atW ws i) fun w => Q w 0
  | .cl ws, .int i, Q => ofO (atW ws i) fun w => Q w 0
  | .str x, .int i, Q => x.length ≤ sizeLine ∧ ofO ((L2.ixN x.cps.toList.length i).bind fun j => x.cps.toList[j]?) fun c => Q (.str ⟨#[c]⟩) 2
  | _, _, _ => False
def slP : W → Option Int → Option Int → KQ → Prop
  | .tup ws, lo, hi, Q => ¬ (HT.sIx ws.length 0 lo = 0 ∧ HT.sIx ws.length ws.length hi = ws.length) ∧ Q (.tup (cutW ws lo hi)) (tgf (.tup (cutW ws lo hi)))
  | .cl ws, lo, hi, Q => Q (.cl (cutW ws lo hi)) (tgl (cutW ws lo hi))
  | _, _, _, _ => False
def biP : Bi → List W → KQ → Prop
  | .list, [.tup ws], Q => ws.length ≤ sizeLine ∧ Q (.cl ws) (tgl ws)
  | .list, [.cl ws], Q => Q (.cl ws) (tgl ws)
  | .list, _, _ => False
  | .lrng, [.int n], Q => (-16777216 ≤ n ∧ n ≤ 16777216) ∧ Q (.cl (rgI n)) (tgl (rgI n))
  | .lrng, _, _ => False
  | .len, [.fn x], Q => x = "!" ∧ ∀ n : Nat, n ≤ 63 → Q (.int n) 2
  | f, ws, Q => rQ (biW f ws []) fun w => Q w (tgf w)
def enP : Nat → List W → List W
  | _, [] => []
  | i, w :: ws => .tup [.int (i : Nat), w] :: enP (i + 1) ws
def rgP (lo c : Int) : Nat → Nat → List W
  | _, 0 => []
  | i, n + 1 => .int (lo + (i : Nat) * c) :: rgP lo c (i + 1) n
def srcP : Ik → List W → Option (List W)
  | .seq, [.tup ws] => if ws.length ≤ sizeLine then some ws else none
  | .seq, [.str x] => if x.length ≤ sizeLine then some (x.cps.toList.map fun c => .str ⟨#[c]⟩) else none
  | .seq, [.cl ws] => some ws
  | .rng1, [.int j] => if lim62 j then some (rgP 0 1 0 j.toNat) else none
  | .rng2, [.int i, .int j] => if lim62 i && lim62 j && decide ((j - i).toNat < big) then some (rgP i 1 0 (j - i).toNat) else none
  | .rng3, [.int i, .int j, .int c] => if (decide (c ≠ 0 ∧ c.natAbs < 1073741824) && Builtin.Range.small i j c) && decide ((Builtin.Range.rangeSize i j c).toNat < big) then some (rgP i c 0 (Builtin.Range.rangeSize i j c).toNat) else none
  | .enu, [.cl ws] => some (enP 0 ws)
  | .zip, [.cl xs, .cl ys] => some (List.zipWith (fun x y => W.tup [x, y]) xs ys)
  | .zip, [.tup xs, .tup ys] => if xs.length ≤ sizeLine then some (List.zipWith (fun x y => W.tup [x, y]) xs ys) else none
  | .rev, [.cl ws] => some ws.reverse
  | .rev, [.tup ws] => if ws.length ≤ sizeLine then some ws.reverse else none
  | _, _ => none
structure PG where
  call : Str → List W → List Nat → KQ → KZ → Prop
  con : Str → Option W
  df : Str → Bool
  ex : Str → Bool
def slotP (e : Sl) (i : Nat) (Q : W → Prop) : Prop := match e[i]? with
  | some (some w) => Q w
  | _ => False
def toBP (w : W) (Q : Bool → Prop) : Prop := match w with
  | .bl b => Q b
  | _ => False
def toIP (w : W) (Q : Int → Prop) : Prop := match w with
  | .int i => Q i
  | _ => False
def compP (f : W → (W → Nat → Prop) → Prop → Prop) (Q : KQ) : List W → List W → Nat → Prop
  | [], acc, t => Q (.cl acc) (if t = 2 then 2 else 1)
  | x :: xs, acc, t => f x (fun v u => acc.length < sizeLine ∧ compP f Q xs (acc ++ [v]) (mn v u t)) (compP f Q xs acc t)
mutual
def evP (g : PG) : E → Sl → KQ → KZ → Prop
  | .var i, e, Q, _ => slotP e i fun w => Q w 0
  | .con x, _, Q, _ => ofO (g.con x) fun w => Q w 0
  | .fref x, _, Q, _ => x ≠ "!" ∧ g.df x = true ∧ Q (.fn x) 2
  | .int i, _, Q, _ => Q (.int i) 2
  | .bl b, _, Q, _ => Q (.bl b) 2
  | .non, _, Q, _ => Q .non 2
  | .str x, _, Q, _ => Q (.str x) 2
  | .bin op a b, e, Q, Z => evP g a e (fun w t => evP g b e (fun u _ => bopP op w t u Q) Z) Z
  | .neg a, e, Q, Z => evP g a e (fun w _ => toIP w fun i => Q (.int (-i)) 2) Z
  | .no a, e, Q, Z => evP g a e (fun w _ => toBP w fun b => Q (.bl (!b)) 2) Z
  | .cmp op a b, e, Q, Z => evP g a e (fun w _ => evP g b e (fun u _ => rQ (cop op w u []) fun z => Q z 2) Z) Z
  | .chain op op' a b c, e, Q, Z => evP g a e (fun w _ => evP g b e (fun u _ => rQ (cop op w u []) fun z => toBP z fun k => if k = true then evP g c e (fun v _ => rQ (cop op' u v []) fun z => Q z 2) Z else Q (.bl false) 2) Z) Z
  | .and a b, e, Q, Z => evP g a e (fun w _ => toBP w fun k => if k = true then evP g b e Q Z else Q (.bl false) 2) Z
  | .or a b, e, Q, Z => evP g a e (fun w _ => toBP w fun k => if k = true then Q (.bl true) 2 else evP g b e Q Z) Z
  | .one a, e, Q, Z => evP g a e Q Z
  | .ite c a b, e, Q, Z => evTP g c e (fun k => if k = true then evP g a e Q Z else evP g b e Q Z) Z
  | .tup as, e, Q, Z => evsP g as e (fun ws t => ws.length ≤ sizeLine ∧ Q (.tup ws) t) Z
  | .lst as, e, Q, Z => evsP g as e (fun ws t => ws.length ≤ sizeLine ∧ Q (.cl ws) (if t = 2 then 2 else 1)) Z
  | .ix a b, e, Q, Z => evP g a e (fun w _ => evP g b e (fun u _ => ixP w u Q) Z) Z
  | .sl a lo hi, e, Q, Z => evP g a e (fun w _ => evOP g lo e (fun l => evOP g hi e (fun h => slP w l h Q) Z) Z) Z
  | .rv a, e, Q, Z => evP g a e (fun w _ => match w with
    | .cl ws => Q (.cl ws.reverse) (tgl ws.reverse)
    | _ => False) Z
  | .call x as, e, Q, Z => evaP g as e (fun ws ts => g.call x ws ts Q Z) Z
  | .callv i as, e, Q, Z => slotP e i fun w => match w with
    | .fn x => x ≠ "!" ∧ g.df x = true ∧ evaP g as e (fun ws ts => g.call x ws ts Q Z) Z
    | _ => False
  | .bi f as, e, Q, Z => evsP g as e (fun ws _ => biP f ws Q) Z
  | .isi a t, e, Q, Z => evP g a e (fun w _ => ofO (isiW t w) fun b => Q (.bl b) 2) Z
  | .comp own tg k as cond elt, e, Q, Z => evsP g as e (fun ws _ => ofO (srcP k ws) fun xs => compP (fun x y n => ofO (tnSet tg x (wipeS e (own.map Prod.snd))) fun e' => evTP g cond e' (fun k => if k = true then evP g elt e' y (fun _ => False) else n) (fun _ => False)) Q xs [] 2) Z
  | _, _, _, _ => False
def evsP (g : PG) : E → Sl → (List W → Nat → Prop) → KZ → Prop
  | .nil, _, Q, _ => Q [] 2
  | .cons a as, e, Q, Z => evP g a e (fun w t => evsP g as e (fun ws u => Q (w :: ws) (mn w t u)) Z) Z
  | _, _, _, _ => False
def evaP (g : PG) : E → Sl → (List W → List Nat → Prop) → KZ → Prop
  | .nil, _, Q, _ => Q [] []
  | .cons a as, e, Q, Z => evP g a e (fun w t => evaP g as e (fun ws ts => Q (w :: ws) (t :: ts)) Z) Z
  | _, _, _, _ => False
def evOP (g : PG) : E → Sl → (Option Int → Prop) → KZ → Prop
  | .nil, _, Q, _ => Q none
  | .one a, e, Q, Z => evP g a e (fun w _ => toIP w fun i => Q (some i)) Z
  | _, _, _, _ => False
def evTP (g : PG) : E → Sl → (Bool → Prop) → KZ → Prop
  | .and a b, e, Q, Z => evTP g a e (fun k => if k = true then evTP g b e Q Z else Q false) Z
  | .or a b, e, Q, Z => evTP g a e (fun k => if k = true then Q true else evTP g b e Q Z) Z
  | .no a, e, Q, Z => evTP g a e (fun k => Q (!k)) Z
  | .one a, e, Q, Z => evTP g a e Q Z
  | .nil, _, Q, _ => Q true
  | .cmp op a b, e, Q, Z => evP g a e (fun w _ => evP g b e (fun u _ => rQ (cop op w u []) fun z => toBP z Q) Z) Z
  | .chain op op' a b c, e, Q, Z => evP g a e (fun w _ => evP g b e (fun u _ => rQ (cop op w u []) fun z => toBP z fun k => if k = true then evP g c e (fun v _ => rQ (cop op' u v []) fun z => toBP z Q) Z else Q false) Z) Z
  | .var i, e, Q, _ => slotP e i fun w => ofO (truW w []) Q
  | .call x as, e, Q, Z => evaP g as e (fun ws ts => g.call x ws ts (fun w _ => ofO (truW w []) Q) Z) Z
  | .bi f as, e, Q, Z => evsP g as e (fun ws _ => biP f ws fun w _ => ofO (truW w []) Q) Z
  | .isi a t, e, Q, Z => evP g a e (fun w _ => ofO (isiW t w) Q) Z
  | _, _, _, _ => False
end
abbrev Own : Type := List (Nat × Nat)
def drp (o : Own) (i : Nat) : Own := o.filter fun p => p.1 != i
def put (o : Own) (i : Nat) (w : W) (t : Nat) : Own := if flat w || t == 0 then drp o i else (i, t) :: drp o i
def hide : Own → Sl → Sl
  | [], e => e
  | p :: o, e => (hide o e).set p.1 none
inductive FlP where | nx (e : Sl) (o : Own) | rt (w : W) (t : Nat) | bk (e : Sl) (o : Own) | ct (e : Sl) (o : Own)
def evX (g : PG) (a : E) (e : Sl) (o : Own) (Q : W → Nat → Own → Prop) (Z : KZ) : Prop :=
  evP g a e (fun w t => ((flat w || t == 2) = true ∧ Q w t o) ∨ Q w t []) Z ∨ evP g a (hide o e) (fun w t => Q w t o) Z
def evXs (g : PG) (a : E) (e : Sl) (o : Own) (Q : List W → Nat → Own → Prop) (Z : KZ) : Prop :=
  evsP g a e (fun w t => ((flats w || t == 2) = true ∧ Q w t o) ∨ Q w t []) Z ∨ evsP g a (hide o e) (fun w t => Q w t o) Z
def asN : Ta → Bool
  | .nil => true
  | .cons (.name _) ts => asN ts
  | _ => false
def setN : Ta → List W → Nat → Sl → Own → (Sl → Own → Prop) → Prop
  | .nil, [], _, e, o, Q => Q e o
  | .cons (.name i) ts, w :: ws, t, e, o, Q => setN ts ws t (e.set i (some w)) (put o i w t) Q
  | _, _, _, _, _, _ => False
def chg (f : List W → Option (List W)) : List Int → W → Option W
  | [], .cl ws => (f ws).map .cl
  | i :: p, .cl ws => (L2.ixN ws.length i).bind fun j => (ws[j]?).bind fun w => (chg f p w).map fun w' => .cl (ws.set j w')
  | i :: p, .tup ws => (L2.ixN ws.length i).bind fun j => (ws[j]?).bind fun w => (chg f p w).map fun w' => .tup (ws.set j w')
  | _, _ => none
def subW (v : W) (j : Int) : Option W := match v with
  | .cl ws => atW ws j
  | .tup ws => atW ws j
  | _ => none
def subP : W → List Int → Option W
  | v, [] => some v
  | v, j :: p => (subW v j).bind fun w => subP w p
def lvP (g : PG) : E → Sl → (Nat → List Int → Prop) → KZ → Prop
  | .var i, e, Q, _ => slotP e i fun _ => Q i []
  | .ix a b, e, Q, Z => lvP g a e (fun i p => evP g b e (fun w _ => toIP w fun j => slotP e i fun v => ofO (subP v (p ++ [j])) fun _ => Q i (p ++ [j])) Z) Z
  | _, _, _, _ => False
def mayB (o : Own) (i : Nat) (p : List Int) : Bool := (o.lookup i).getD 0 == 2 || ((o.lookup i).getD 0 == 1 && p.isEmpty)
def own1 (o : Own) (i : Nat) (w : W) (t : Nat) : Own := if flat w || t == 2 then o else (i, 1) :: drp o i
def chgQ (e : Sl) (o : Own) (i : Nat) (p : List Int) (f : List W → Option (List W)) (Q : Sl → Prop) : Prop := mayB o i p = true ∧ slotP e i fun v => ofO (chg f p v) fun v' => Q (e.set i (some v'))
def setF (j : Int) (w : W) (ws : List W) : Option (List W) := (L2.ixN ws.length j).map fun k => ws.set k w
def appF (w : W) (ws : List W) : Option (List W) := if ws.length < sizeLine then some (ws ++ [w]) else none
def popF (ws : List W) : Option (List W) := match ws with
  | [] => none
  | _ => some ws.dropLast
def delF (k : Int) (ws : List W) : Option (List W) := if -(2 ^ 63) ≤ k ∧ k < 2 ^ 63 then (seqIndex? k ws.length).bind fun j => if j < ws.length then some (ws.eraseIdx j) else none else none
def clrF (_ : List W) : Option (List W) := some []
def extF (us ws : List W) : Option (List W) := if ws.length + us.length ≤ sizeLine then some (ws ++ us) else none
def isL (e : Sl) (o : Own) (i : Nat) (p : List Int) : Prop := mayB o i p = true ∧ slotP e i fun v => (chg some p v).isSome = true
def whileP (c : Sl → (Bool → Prop) → Prop) (b : Sl → Own → (FlP → Prop) → Prop) (Q : FlP → Prop) : Nat → Sl → Own → Prop
  | 0, _, _ => False
  | n + 1, e, o => c e fun t => if t = true then b e o (fun f => match f with
      | .nx e' o' => whileP c b Q n e' o'
      | .ct e' o' => whileP c b Q n e' o'
      | .bk e' o' => Q (.nx e' o')
      | .rt w t => Q (.rt w t))
    else Q (.nx e o)
def forP (b : W → Sl → Own → (FlP → Prop) → Prop) (Q : FlP → Prop) : List W → Sl → Own → Prop
  | [], e, o => Q (.nx e o)
  | w :: ws, e, o => b w e o fun f => match f with
      | .nx e' o' => forP b Q ws e' o'
      | .ct e' o' => forP b Q ws e' o'
      | .bk e' o' => Q (.nx e' o')
      | .rt w t => Q (.rt w t)
def thnP (k : Sl → Own → (FlP → Prop) → Prop) (Q : FlP → Prop) : FlP → Prop
  | .nx e o => k e o Q
  | f => Q f
def tnIxs : Tn → List Nat
  | .name i => [i]
  | .nil => []
  | .cons t ts => tnIxs t ++ tnIxs ts
  | .tup ts => tnIxs ts
def drps (o : Own) : List Nat → Own
  | [] => o
  | i :: is => drp (drps o is) i
def apx (t : Tn) (ik : Ik) (as : E) (b : B) : Option (Nat × Nat × Int × Int) := match t, ik, as, b with
  | .name j, .seq, .cons (.var i) .nil, .exp (.mt .append (.var j') (.cons (.tup (.cons (.int p) (.cons (.int q) .nil))) .nil)) .done => if j = j' ∧ i ≠ j then some (i, j, p, q) else none
  | _, _, _, _ => none
def lenW : W → Option Nat
  | .cl vs => some vs.length
  | .tup vs => some vs.length
  | _ => none
def apP (o : Own) (i : Nat) (w : W) (K : Sl → Prop) : Nat → Nat → Sl → Prop
  | 0, _, e => K e
  | n + 1, m, e => chgQ e o i [(m : Int)] (appF w) fun e' => apP o i w K n (m + 1) e'
def aplP (x : Option (Nat × Nat × Int × Int)) (e : Sl) (o : Own) (K : Sl → Own → Prop) : Prop := match x with
  | some (i, j, p, q) => slotP e i fun v => ofO (lenW v) fun n => n ≤ 1000000 ∧ j < e.length ∧ apP (drp o j) i (.tup [.int p, .int q]) (fun e' => K e' (drp o j)) n 0 (e.set j none)
  | none => False
def tryKP (t : Tk) (k : Sl → Own → (FlP → Prop) → Prop) (e : Sl) (o : Own) (Q : FlP → Prop) (w : W) (tg : Nat) : Prop := match t with
  | .set i => k (e.set i (some w)) (if flat w || tg == 2 then put o i w tg else put [] i w tg) Q ∨ k (e.set i (some w)) [] Q
  | .ret => Q (.rt w tg)
  | .exp => k e o Q
def tryXP (j : Nat) (f : Sf) (k : Sl → Own → (FlP → Prop) → Prop) (e : Sl) (o : Own) (Q : FlP → Prop) (c : Str) : Prop := ofO (whichOf c) fun x => match f with
  | .ret => Q (.rt (.tup [.str "refused", .str x]) 2)
  | .set i => k ((e.set i (some (.tup [.str "refused", .str x]))).set j none) (drp (drp o i) j) Q
  | .retEq y => Q (.rt (.bl (decide (x = y))) 2)
def retT (e : Sl) (o : Own) : E → List Nat → (List W → Prop) → Prop
  | .nil, _, Q => Q []
  | .cons (.var i) as, us, Q => i ∉ us ∧ slotP e i fun v => (flat v = true ∨ o.lookup i = some 2) ∧ retT e o as (i :: us) fun vs => Q (v :: vs)
  | .cons (.str x) as, us, Q => retT e o as us fun vs => Q (.str x :: vs)
  | _, _, _ => False
def retP (g : PG) (v : E) (e : Sl) (o : Own) (Q : FlP → Prop) (Z : KZ) : Prop := evP g v e (fun w t => Q (.rt w t)) Z ∨ match v with
  | .var i => slotP e i fun w => ofO (o.lookup i) fun t => Q (.rt w t)
  | .tup as => retT e o as [] fun vs => vs.length ≤ sizeLine ∧ Q (.rt (.tup vs) 2)
  | _ => False
def swpP (g : PG) (ts : Ta) (v : E) (e : Sl) (o : Own) (K : Sl → Own → Prop) (Z : KZ) : Prop := match ts, v with
  | .cons (.sub (.var x) i) (.cons (.sub (.var y) j) .nil), .tup (.cons (.ix (.var z) a) (.cons (.ix (.var u) b) .nil)) => x = y ∧ x = z ∧ x = u ∧ mayB o x [] = true ∧ slotP e x fun xs => match xs with
    | .cl vs => evP g a e (fun wa _ => toIP wa fun ia => ofO (atW vs ia) fun p => evP g b e (fun wb _ => toIP wb fun ib => ofO (atW vs ib) fun q => evP g i e (fun wi _ => toIP wi fun ii => ofO (setF ii p vs) fun vs1 => evP g j (e.set x (some (.cl vs1))) (fun wj _ => toIP wj fun ij => ofO (setF ij q vs1) fun vs2 => K (e.set x (some (.cl vs2))) ((x, 1) :: drp o x)) Z) Z) Z) Z
    | _ => False
  | _, _ => False
def clW : W → Option (List W)
  | .cl us => some us
  | _ => none
def tupW : W → Option (List W)
  | .tup us => some us
  | _ => none
def popP (ts : Ta) (v : E) (e : Sl) (o : Own) (K : Sl → Own → Prop) : Prop := match v with
  | .mt .pop (.var i) .nil => slotP e i fun v => ofO (clW v) fun vs => ofO (vs[vs.length - 1]?) fun z => flat z = true ∧ ofO (tupW z) fun zs => zs.length = taN ts ∧ chgQ e o i [] popF fun e' => setN ts zs 2 e' o K
  | _ => False
def asgP (g : PG) (t : Ta) (v : E) (e : Sl) (o : Own) (K : Sl → Own → Prop) (Z : KZ) : Prop := match t with
  | .name i => evX g v e o (fun w t o' => K (e.set i (some w)) (put o' i w t)) Z ∨ evP g v e (fun w _ => K (e.set i (some w)) []) Z
  | .tup ts => evX g v e o (fun w t o' => match w with
    | .tup ws => ws.length = taN ts ∧ setN ts ws t e o' K
    | .cl ws => t ≠ 0 ∧ ws.length = taN ts ∧ setN ts ws (if t = 2 then 2 else 0) e o' K
    | _ => False) Z ∨ evP g v e (fun w _ => match w with
    | .tup ws => ws.length = taN ts ∧ setN ts ws 0 e [] K
    | _ => False) Z ∨ swpP g ts v e o K Z ∨ popP ts v e o K
  | .sub lv ix => evP g v e (fun w t => (flat w || t == 2) = true ∧ lvP g lv e (fun i p => evP g ix e (fun u _ => toIP u fun j => chgQ e o i p (setF j w) fun e' => K e' o) Z) Z) Z ∨
      evP g v (hide o e) (fun w t => lvP g lv e (fun i p => evP g ix e (fun u _ => toIP u fun j => p = [] ∧ chgQ e o i p (setF j w) fun e' => K e' (own1 o i w t)) Z) Z) Z
  | _ => False
def expP (g : PG) (v : E) (e : Sl) (o : Own) (K : Sl → Own → Prop) (Z : KZ) : Prop := match v with
  | .mt .append lv (.cons a .nil) => lvP g lv e (fun i p => isL e o i p ∧ (evP g a e (fun w t => (flat w || t == 2) = true ∧ chgQ e o i p (appF w) fun e' => K e' o) Z ∨
      evP g a (hide o e) (fun w t => p = [] ∧ chgQ e o i p (appF w) fun e' => K e' (own1 o i w t)) Z)) Z
  | .mt .pop lv .nil => lvP g lv e (fun i p => chgQ e o i p popF fun e' => K e' o) Z
  | .mt .clear lv .nil => lvP g lv e (fun i p => chgQ e o i p clrF fun e' => K e' o) Z
  | .mt .popAt lv (.cons a .nil) => lvP g lv e (fun i p => isL e o i p ∧ evP g a e (fun w _ => toIP w fun j => chgQ e o i p (delF j) fun e' => K e' o) Z) Z
  | .mt .extend lv (.cons a .nil) => lvP g lv e (fun i p => isL e o i p ∧ evP g a e (fun w t => t ≠ 0 ∧ ofO (clW w) fun us => flats us = true ∧ chgQ e o i p (extF us) fun e' => K e' o) Z) Z
  | v => evP g v e (fun _ _ => K e o) Z
def exF (g : PG) (R : B → Sl → Own → (FlP → Prop) → KZ → Prop) : B → Sl → Own → (FlP → Prop) → KZ → Prop
  | .done, e, o, Q, _ => Q (.nx e o)
  | .asg t v k, e, o, Q, Z => asgP g t v e o (fun e o => R k e o Q Z) Z
  | .par2 i j a b k, e, o, Q, Z => evP g a e (fun w _ => evP g b e (fun u _ => R k ((e.set i (some w)).set j (some u)) [] Q Z) Z) Z ∨ (i != j && (decide (i < e.length) && decide (j < e.length))) = true ∧ evX g a e o (fun w t o1 => evX g b e o1 (fun u t' o2 => R k ((e.set i (some w)).set j (some u)) (put (put o2 i w t) j u t') Q Z) Z) Z
  | .par3 i j l a b c k, e, o, Q, Z => evP g a e (fun w t => evP g b e (fun u t' => evP g c e (fun v t'' => R k (((e.set i (some w)).set j (some u)).set l (some v)) (if flat w && flat u && flat v then drp (drp (drp o i) j) l else []) Q Z) Z) Z) Z
  | .aug i op v k, e, o, Q, Z => slotP e i fun w => evP g v e (fun u _ => match op, w, u with
      | .add, .int x, .int y => R k (e.set i (some (.int (x + y)))) (drp o i) Q Z
      | .sub, .int x, .int y => R k (e.set i (some (.int (x - y)))) (drp o i) Q Z
      | _, _, _ => False) Z
  | .ite c t f k, e, o, Q, Z => evTP g c e (fun b => if b = true then R t e o (thnP (fun e o Q => R k e o Q Z) Q) Z else R f e o (thnP (fun e o Q => R k e o Q Z) Q) Z) Z
  | .whl c b k, e, o, Q, Z => whileP (fun e Q => evTP g c e Q Z) (fun e o Q => R b e o Q Z) (thnP (fun e o Q => R k e o Q Z) Q) big e o
  | .for_ t ik as b k, e, o, Q, Z => evXs g as e o (fun ws _ o' => ofO (srcP ik ws) fun xs => forP (fun w e o Q => ofO (tnSet t w e) fun e' => R b e' (drps o (tnIxs t)) Q Z) (thnP (fun e o Q => R k e o Q Z) Q) xs e o') Z ∨ aplP (apx t ik as b) e o fun e o => R k e o Q Z
  | .ret v _, e, o, Q, Z => retP g v e o Q Z
  | .retn _, _, _, Q, _ => Q (.rt .non 2)
  | .brk _, e, o, Q, _ => Q (.bk e o)
  | .ct _, e, o, Q, _ => Q (.ct e o)
  | .pass k, e, o, Q, Z => R k e o Q Z
  | .exp v k, e, o, Q, Z => expP g v e o (fun e o => R k e o Q Z) Z
  | .raise c _, _, _, _, Z => g.ex c = true ∧ Z c
  | .tryr j t v f k, e, o, Q, Z => g.ex "_law_which" = true ∧ j < e.length ∧ evP g v e (fun w tg => tryKP t (fun e o Q => R k e o Q Z) e o Q w tg) (fun c => tryXP j f (fun e o Q => R k e o Q Z) e o Q c)
def fnQP (Q : KQ) : FlP → Prop
  | .nx _ _ => Q .non 2
  | .rt w t => Q w t
  | _ => False
def drawP (vs : List W) (Q : KQ) : Prop := match vs with
  | [.loc _, .int m] => 0 < m ∧ m ≤ 10 ^ 18 ∧ ∀ d : Int, 0 ≤ d → d < m → Q (.int d) 2
  | _ => False
def urnP (vs : List W) (Q : KQ) : Prop := match vs with
  | [.fn x, .int a] => x = "!" ∧ 0 ≤ a ∧ a < 8 ∧ ∀ u, Q (.loc u) 2
  | _ => False
def ownOf : Nat → List W → List Nat → Own
  | i, w :: ws, t :: ts => if flat w || t == 0 then ownOf (i + 1) ws ts else (i, t) :: ownOf (i + 1) ws ts
  | _, _, _ => []
end Pq

namespace Pq
open PySem Py Pl
def inn (d : Nat) : Nat := if d = 2 then 2 else 0
mutual
def Dn (s : Sto) (V A : Nat → Prop) : W → Nat → W → List Nat → Prop
  | .cl vs, d, w, O => vs.length ≤ sizeLine ∧ ((∃ n ws, w = .loc n ∧ s[n]? = some ws ∧ ¬ V n ∧ ((d = 0 ∧ A n ∧ O = [] ∧ Dns s V A vs 0 ws []) ∨ (d ≠ 0 ∧ ∃ O', O = n :: O' ∧ Dns s V A vs (inn d) ws O'))) ∨ (∃ ws, w = .cl ws ∧ d = 0 ∧ O = [] ∧ Dns s V A vs 0 ws []))
  | .tup vs, d, w, O => ∃ ws, w = .tup ws ∧ Dns s V A vs d ws O
  | .loc u, _, w, O => w = .loc u ∧ V u ∧ O = []
  | .non, _, w, O => w = .non ∧ O = []
  | .bl b, _, w, O => w = .bl b ∧ O = []
  | .int i, _, w, O => w = .int i ∧ O = []
  | .str x, _, w, O => w = .str x ∧ O = []
  | .fn x, _, w, O => (if x = "!" then ∃ is : List Int, w = .cl (is.map W.int) ∧ is.length ≤ 63 else w = .fn x) ∧ O = []
def Dns (s : Sto) (V A : Nat → Prop) : List W → Nat → List W → List Nat → Prop
  | [], _, ws, O => ws = [] ∧ O = []
  | v :: vs, d, ws, O => ∃ w ws' O1 O2, ws = w :: ws' ∧ O = O1 ++ O2 ∧ Dn s V A v d w O1 ∧ Dns s V A vs d ws' O2
end
structure Fm (s : Sto) (V : Nat → Prop) (s' : Sto) (V' : Nat → Prop) : Prop where
  len : s.length ≤ s'.length
  get : ∀ n ws, ¬ V n → s[n]? = some ws → s'[n]? = some ws
  up : ∀ n, V n → V' n
  dn : ∀ n, n < s.length → V' n → V n
theorem Fm.refl {s : Sto} {V : Nat → Prop} : Fm s V s V := ⟨Nat.le_refl _, fun _ _ _ h => h, fun _ h => h, fun _ _ h => h⟩
theorem lt_of {s : Sto} {n : Nat} {ws : List W} (h : s[n]? = some ws) : n < s.length := (List.getElem?_eq_some_iff.mp h).1
theorem Fm.trans {s s1 s2 : Sto} {V V1 V2 : Nat → Prop} (a : Fm s V s1 V1) (b : Fm s1 V1 s2 V2) : Fm s V s2 V2 :=
  ⟨Nat.le_trans a.len b.len, fun n ws hn h => b.get n ws (fun z => hn (a.dn n (lt_of h) z)) (a.get n ws hn h), fun n h => b.up n (a.up n h), fun n hl h => a.dn n hl (b.dn n (Nat.lt_of_lt_of_le hl a.len) h)⟩
section
variable {s s' : Sto} {V V' A A' : Nat → Prop}
mutual
theorem Dn.frame (f : Fm s V s' V') (ha : ∀ n, n < s.length → A n → A' n) : ∀ (v : W) (d : Nat) (w : W) (O : List Nat), Dn s V A v d w O → Dn s' V' A' v d w O
  | .cl vs, d, w, O, ⟨hl, h⟩ => ⟨hl, by
    rcases h with ⟨n, ws, e, hs, hv, h⟩ | ⟨ws, e, hd, ho, h⟩
    · refine .inl ⟨n, ws, e, f.get n ws hv hs, fun z => hv (f.dn n (lt_of hs) z), ?_⟩
      rcases h with ⟨hd, han, ho, h⟩ | ⟨hd, O', ho, h⟩
      · exact .inl ⟨hd, ha n (lt_of hs) han, ho, Dns.frame f ha vs 0 ws [] h⟩
      · exact .inr ⟨hd, O', ho, Dns.frame f ha vs _ ws O' h⟩
    · exact .inr ⟨ws, e, hd, ho, Dns.frame f ha vs 0 ws [] h⟩⟩
  | .tup vs, d, w, O, ⟨ws, e, h⟩ => ⟨ws, e, Dns.frame f ha vs d ws O h⟩
  | .loc u, d, w, O, ⟨e, hu, ho⟩ => ⟨e, f.up u hu, ho⟩
  | .non, _, _, _, h => h
  | .bl _, _, _, _, h => h
  | .int _, _, _, _, h => h
  | .str _, _, _, _, h => h
  | .fn _, _, _, _, h => h
theorem Dns.frame (f : Fm s V s' V') (ha : ∀ n, n < s.length → A n → A' n) : ∀ (vs : List W) (d : Nat) (ws : List W) (O : List Nat), Dns s V A vs d ws O → Dns s' V' A' vs d ws O
  | [], _, _, _, h => h
  | v :: vs, d, ws, O, ⟨w, ws', O1, O2, e, eo, h1, h2⟩ => ⟨w, ws', O1, O2, e, eo, Dn.frame f ha v d w O1 h1, Dns.frame f ha vs d ws' O2 h2⟩
end
structure Fx (s : Sto) (V X : Nat → Prop) (s' : Sto) (V' : Nat → Prop) : Prop where
  len : s.length ≤ s'.length
  get : ∀ n ws, ¬ V n → ¬ X n → s[n]? = some ws → s'[n]? = some ws
  up : ∀ n, V n → V' n
  dn : ∀ n, n < s.length → V' n → V n
theorem Fm.x {X : Nat → Prop} (f : Fm s V s' V') : Fx s V X s' V' := ⟨f.len, fun n ws h _ e => f.get n ws h e, f.up, f.dn⟩
theorem Fx.trans {s2 : Sto} {V2 X : Nat → Prop} (a : Fx s V X s' V') (b : Fx s' V' X s2 V2) : Fx s V X s2 V2 :=
  ⟨Nat.le_trans a.len b.len, fun n ws hn hx h => b.get n ws (fun z => hn (a.dn n (lt_of h) z)) hx (a.get n ws hn hx h), fun n h => b.up n (a.up n h), fun n hl h => a.dn n hl (b.dn n (Nat.lt_of_lt_of_le hl a.len) h)⟩
mutual
theorem Dn.frameX {X : Nat → Prop} (f : Fx s V X s' V') (ha : ∀ n, n < s.length → A n → A' n ∧ ¬ X n) : ∀ (v : W) (d : Nat) (w : W) (O : List Nat), (∀ n ∈ O, ¬ X n) → Dn s V A v d w O → Dn s' V' A' v d w O
  | .cl vs, d, w, O, hO, ⟨hl, h⟩ => ⟨hl, by
    rcases h with ⟨n, ws, e, hs, hv, h⟩ | ⟨ws, e, hd, ho, h⟩
    · rcases h with ⟨hd, han, ho, h⟩ | ⟨hd, O', ho, h⟩
      · exact .inl ⟨n, ws, e, f.get n ws hv (ha n (lt_of hs) han).2 hs, fun z => hv (f.dn n (lt_of hs) z), .inl ⟨hd, (ha n (lt_of hs) han).1, ho, Dns.frameX f ha vs 0 ws [] (fun _ z => nomatch z) h⟩⟩
      · subst ho
        exact .inl ⟨n, ws, e, f.get n ws hv (hO n List.mem_cons_self) hs, fun z => hv (f.dn n (lt_of hs) z), .inr ⟨hd, O', rfl, Dns.frameX f ha vs _ ws O' (fun m hm => hO m (List.mem_cons_of_mem _ hm)) h⟩⟩
    · exact .inr ⟨ws, e, hd, ho, Dns.frameX f ha vs 0 ws [] (fun _ z => nomatch z) h⟩⟩
  | .tup vs, d, w, O, hO, ⟨ws, e, h⟩ => ⟨ws, e, Dns.frameX f ha vs d ws O hO h⟩
  | .loc u, d, w, O, _, ⟨e, hu, ho⟩ => ⟨e, f.up u hu, ho⟩
  | .non, _, _, _, _, h => h
  | .bl _, _, _, _, _, h => h
  | .int _, _, _, _, _, h => h
  | .str _, _, _, _, _, h => h
  | .fn _, _, _, _, _, h => h
theorem Dns.frameX {X : Nat → Prop} (f : Fx s V X s' V') (ha : ∀ n, n < s.length → A n → A' n ∧ ¬ X n) : ∀ (vs : List W) (d : Nat) (ws : List W) (O : List Nat), (∀ n ∈ O, ¬ X n) → Dns s V A vs d ws O → Dns s' V' A' vs d ws O
  | [], _, _, _, _, h => h
  | v :: vs, d, ws, O, hO, ⟨w, ws', O1, O2, e, eo, h1, h2⟩ => by
    subst eo
    exact ⟨w, ws', O1, O2, e, rfl, Dn.frameX f ha v d w O1 (fun n hn => hO n (List.mem_append_left _ hn)) h1, Dns.frameX f ha vs d ws' O2 (fun n hn => hO n (List.mem_append_right _ hn)) h2⟩
end
mutual
theorem Dn.lt : ∀ (v : W) (d : Nat) (w : W) (O : List Nat), Dn s V A v d w O → ∀ n ∈ O, n < s.length ∧ ¬ V n
  | .cl vs, d, w, O, ⟨hl, h⟩, m, hm => by
    rcases h with ⟨n, ws, e, hs, hv, h⟩ | ⟨ws, e, hd, ho, h⟩
    · rcases h with ⟨hd, han, ho, h⟩ | ⟨hd, O', ho, h⟩
      · rw [ho] at hm; cases hm
      · rw [ho] at hm
        rcases List.mem_cons.mp hm with z | z
        · rw [z]; exact ⟨lt_of hs, hv⟩
        · exact Dns.lt vs _ ws O' h m z
    · rw [ho] at hm; cases hm
  | .tup vs, d, w, O, ⟨ws, e, h⟩, m, hm => Dns.lt vs d ws O h m hm
  | .loc u, d, w, O, ⟨e, hu, ho⟩, m, hm => by rw [ho] at hm; cases hm
  | .non, _, _, _, ⟨_, ho⟩, m, hm => by rw [ho] at hm; cases hm
  | .bl _, _, _, _, ⟨_, ho⟩, m, hm => by rw [ho] at hm; cases hm
  | .int _, _, _, _, ⟨_, ho⟩, m, hm => by rw [ho] at hm; cases hm
  | .str _, _, _, _, ⟨_, ho⟩, m, hm => by rw [ho] at hm; cases hm
  | .fn _, _, _, _, ⟨_, ho⟩, m, hm => by rw [ho] at hm; cases hm
theorem Dns.lt : ∀ (vs : List W) (d : Nat) (ws : List W) (O : List Nat), Dns s V A vs d ws O → ∀ n ∈ O, n < s.length ∧ ¬ V n
  | [], _, _, _, ⟨_, ho⟩, m, hm => by rw [ho] at hm; cases hm
  | v :: vs, d, ws, O, ⟨w, ws', O1, O2, e, eo, h1, h2⟩, m, hm => by
    rw [eo] at hm
    rcases List.mem_append.mp hm with z | z
    · exact Dn.lt v d w O1 h1 m z
    · exact Dns.lt vs d ws' O2 h2 m z
end
mutual
theorem Dn.low : ∀ (v : W) (d : Nat) (w : W) (O : List Nat), Dn s V A v d w O → (∀ n, A n → A' n) → (∀ n ∈ O, A' n) → Dn s V A' v 0 w []
  | .cl vs, d, w, O, ⟨hl, h⟩, ha, hO => ⟨hl, by
    rcases h with ⟨n, ws, e, hs, hv, h⟩ | ⟨ws, e, hd, ho, h⟩
    · refine .inl ⟨n, ws, e, hs, hv, .inl ?_⟩
      rcases h with ⟨hd, han, ho, h⟩ | ⟨hd, O', ho, h⟩
      · exact ⟨rfl, ha n han, rfl, Dns.low vs 0 ws [] h ha (fun _ z => nomatch z)⟩
      · rw [ho] at hO
        exact ⟨rfl, hO n List.mem_cons_self, rfl, Dns.low vs _ ws O' h ha fun m hm => hO m (List.mem_cons_of_mem _ hm)⟩
    · exact .inr ⟨ws, e, rfl, rfl, Dns.low vs 0 ws [] h ha (fun _ z => nomatch z)⟩⟩
  | .tup vs, d, w, O, ⟨ws, e, h⟩, ha, hO => ⟨ws, e, Dns.low vs d ws O h ha hO⟩
  | .loc u, d, w, O, ⟨e, hu, ho⟩, _, _ => ⟨e, hu, rfl⟩
  | .non, _, _, _, ⟨e, _⟩, _, _ => ⟨e, rfl⟩
  | .bl _, _, _, _, ⟨e, _⟩, _, _ => ⟨e, rfl⟩
  | .int _, _, _, _, ⟨e, _⟩, _, _ => ⟨e, rfl⟩
  | .str _, _, _, _, ⟨e, _⟩, _, _ => ⟨e, rfl⟩
  | .fn _, _, _, _, ⟨e, _⟩, _, _ => ⟨e, rfl⟩
theorem Dns.low : ∀ (vs : List W) (d : Nat) (ws : List W) (O : List Nat), Dns s V A vs d ws O → (∀ n, A n → A' n) → (∀ n ∈ O, A' n) → Dns s V A' vs 0 ws []
  | [], _, _, _, ⟨e, _⟩, _, _ => ⟨e, rfl⟩
  | v :: vs, d, ws, O, ⟨w, ws', O1, O2, e, eo, h1, h2⟩, ha, hO => ⟨w, ws', [], [], e, rfl, Dn.low v d w O1 h1 ha fun n hn => hO n (by rw [eo]; exact List.mem_append_left _ hn),
      Dns.low vs d ws' O2 h2 ha fun n hn => hO n (by rw [eo]; exact List.mem_append_right _ hn)⟩
end
mutual
theorem Dn.low1 : ∀ (v : W) (d : Nat) (w : W) (O : List Nat), Dn s V A v d w O → d ≠ 0 → O.Nodup → ∃ O1, O1.Sublist O ∧ ∀ A' : Nat → Prop, (∀ n, A n → A' n) → (∀ n ∈ O, n ∉ O1 → A' n) → Dn s V A' v 1 w O1
  | .cl vs, d, w, O, ⟨hl, h⟩, hd0, nd => by
    rcases h with ⟨n, ws, e, hs, hv, h⟩ | ⟨ws, e, hd, ho, h⟩
    · rcases h with ⟨hd, han, ho, h⟩ | ⟨hd, O', ho, h⟩
      · exact absurd hd hd0
      · subst ho
        rw [List.nodup_cons] at nd
        refine ⟨[n], by simp, fun A' ha hO => ⟨hl, .inl ⟨n, ws, e, hs, hv, .inr ⟨by decide, [], rfl, Dns.low vs _ ws O' h ha fun m hm => hO m (List.mem_cons_of_mem _ hm) fun z => ?_⟩⟩⟩⟩
        rw [List.mem_singleton] at z
        rw [z] at hm
        exact nd.1 hm
    · exact absurd hd hd0
  | .tup vs, d, w, O, ⟨ws, e, h⟩, hd0, nd => by
    obtain ⟨O1, h1, h2⟩ := Dns.low1 vs d ws O h hd0 nd
    exact ⟨O1, h1, fun A' ha hO => ⟨ws, e, h2 A' ha hO⟩⟩
  | .loc u, d, w, O, ⟨e, hu, ho⟩, _, _ => ⟨[], by simp, fun _ _ _ => ⟨e, hu, rfl⟩⟩
  | .non, _, _, _, ⟨e, _⟩, _, _ => ⟨[], by simp, fun _ _ _ => ⟨e, rfl⟩⟩
  | .bl _, _, _, _, ⟨e, _⟩, _, _ => ⟨[], by simp, fun _ _ _ => ⟨e, rfl⟩⟩
  | .int _, _, _, _, ⟨e, _⟩, _, _ => ⟨[], by simp, fun _ _ _ => ⟨e, rfl⟩⟩
  | .str _, _, _, _, ⟨e, _⟩, _, _ => ⟨[], by simp, fun _ _ _ => ⟨e, rfl⟩⟩
  | .fn _, _, _, _, ⟨e, _⟩, _, _ => ⟨[], by simp, fun _ _ _ => ⟨e, rfl⟩⟩
theorem Dns.low1 : ∀ (vs : List W) (d : Nat) (ws : List W) (O : List Nat), Dns s V A vs d ws O → d ≠ 0 → O.Nodup → ∃ O1, O1.Sublist O ∧ ∀ A' : Nat → Prop, (∀ n, A n → A' n) → (∀ n ∈ O, n ∉ O1 → A' n) → Dns s V A' vs 1 ws O1
  | [], _, _, _, ⟨e, _⟩, _, _ => ⟨[], by simp, fun _ _ _ => ⟨e, rfl⟩⟩
  | v :: vs, d, ws, O, ⟨w, ws', O1, O2, e, eo, h1, h2⟩, hd, nd => by
    subst eo
    rw [List.nodup_append] at nd
    obtain ⟨P1, a1, b1⟩ := Dn.low1 v d w O1 h1 hd nd.1
    obtain ⟨P2, a2, b2⟩ := Dns.low1 vs d ws' O2 h2 hd nd.2.1
    refine ⟨P1 ++ P2, a1.append a2, fun A' ha hO => ⟨w, ws', P1, P2, e, rfl, b1 A' ha fun n hn hp => hO n (List.mem_append_left _ hn) fun z => ?_, b2 A' ha fun n hn hp => hO n (List.mem_append_right _ hn) fun z => ?_⟩⟩
    · rcases List.mem_append.mp z with z | z
      · exact hp z
      · exact nd.2.2 n hn n (a2.mem z) rfl
    · rcases List.mem_append.mp z with z | z
      · exact nd.2.2 n (a1.mem z) n hn rfl
      · exact hp z
end
mutual
theorem Dn.all : ∀ (v : W) (w : W) (O : List Nat), Dn s V A v 2 w O → Dn s V A' v 2 w O
  | .cl vs, w, O, ⟨hl, h⟩ => ⟨hl, by
    rcases h with ⟨n, ws, e, hs, hv, h⟩ | ⟨ws, e, hd, ho, h⟩
    · rcases h with ⟨hd, han, ho, h⟩ | ⟨hd, O', ho, h⟩
      · cases hd
      · exact .inl ⟨n, ws, e, hs, hv, .inr ⟨hd, O', ho, Dns.all vs ws O' h⟩⟩
    · cases hd⟩
  | .tup vs, w, O, ⟨ws, e, h⟩ => ⟨ws, e, Dns.all vs ws O h⟩
  | .loc u, w, O, h => h
  | .non, _, _, h => h
  | .bl _, _, _, h => h
  | .int _, _, _, h => h
  | .str _, _, _, h => h
  | .fn _, _, _, h => h
theorem Dns.all : ∀ (vs ws : List W) (O : List Nat), Dns s V A vs 2 ws O → Dns s V A' vs 2 ws O
  | [], _, _, h => h
  | v :: vs, ws, O, ⟨w, ws', O1, O2, e, eo, h1, h2⟩ => ⟨w, ws', O1, O2, e, eo, Dn.all v w O1 h1, Dns.all vs ws' O2 h2⟩
end
mutual
theorem Dn.flat : ∀ (v : W) (d : Nat) (w : W) (O : List Nat), flat v = true → Dn s V A v d w O → O = [] ∧ ∀ (A' : Nat → Prop) (d' : Nat), Dn s V A' v d' w []
  | .cl vs, _, _, _, h, _ => by cases h
  | .tup vs, d, w, O, h, ⟨ws, e, h'⟩ => by
    obtain ⟨h1, h2⟩ := Dns.flat vs d ws O h h'
    exact ⟨h1, fun A' d' => ⟨ws, e, h2 A' d'⟩⟩
  | .loc u, _, _, _, _, ⟨e, hu, ho⟩ => ⟨ho, fun _ _ => ⟨e, hu, rfl⟩⟩
  | .non, _, _, _, _, ⟨e, ho⟩ => ⟨ho, fun _ _ => ⟨e, rfl⟩⟩
  | .bl _, _, _, _, _, ⟨e, ho⟩ => ⟨ho, fun _ _ => ⟨e, rfl⟩⟩
  | .int _, _, _, _, _, ⟨e, ho⟩ => ⟨ho, fun _ _ => ⟨e, rfl⟩⟩
  | .str _, _, _, _, _, ⟨e, ho⟩ => ⟨ho, fun _ _ => ⟨e, rfl⟩⟩
  | .fn _, _, _, _, _, ⟨e, ho⟩ => ⟨ho, fun _ _ => ⟨e, rfl⟩⟩
theorem Dns.flat : ∀ (vs : List W) (d : Nat) (ws : List W) (O : List Nat), flats vs = true → Dns s V A vs d ws O → O = [] ∧ ∀ (A' : Nat → Prop) (d' : Nat), Dns s V A' vs d' ws []
  | [], _, _, _, _, ⟨e, ho⟩ => ⟨ho, fun _ _ => ⟨e, rfl⟩⟩
  | v :: vs, d, ws, O, h, ⟨w, ws', O1, O2, e, eo, h1, h2⟩ => by
    have h : (Pq.flat v && flats vs) = true := h
    rw [Bool.and_eq_true] at h
    obtain ⟨a1, b1⟩ := Dn.flat v d w O1 h.1 h1
    obtain ⟨a2, b2⟩ := Dns.flat vs d ws' O2 h.2 h2
    exact ⟨by rw [eo, a1, a2]; rfl, fun A' d' => ⟨w, ws', [], [], e, rfl, b1 A' d', b2 A' d'⟩⟩
end
theorem Dns.length : ∀ {vs : List W} {d : Nat} {ws : List W} {O : List Nat}, Dns s V A vs d ws O → vs.length = ws.length
  | [], _, _, _, ⟨e, _⟩ => by rw [e]
  | v :: vs, d, ws, O, ⟨w, ws', O1, O2, e, eo, h1, h2⟩ => by rw [e, List.length_cons, List.length_cons, Dns.length h2]
theorem Dns.get : ∀ {vs : List W} {d : Nat} {ws : List W} {O : List Nat} {i : Nat} {v : W}, Dns s V A vs d ws O → vs[i]? = some v → ∃ w O1, ws[i]? = some w ∧ O1.Sublist O ∧ Dn s V A v d w O1
  | [], _, _, _, _, _, _, e1 => by simp at e1
  | v :: vs, d, ws, O, 0, u, ⟨w, ws', O1, O2, e, eo, h1, h2⟩, e1 => by
    rw [List.getElem?_cons_zero] at e1
    cases e1
    exact ⟨w, O1, by rw [e]; rfl, by rw [eo]; exact List.sublist_append_left .., h1⟩
  | v :: vs, d, ws, O, i + 1, u, ⟨w, ws', O1, O2, e, eo, h1, h2⟩, e1 => by
    rw [List.getElem?_cons_succ] at e1
    obtain ⟨x, O3, a, b, c⟩ := Dns.get h2 e1
    exact ⟨x, O3, by rw [e, List.getElem?_cons_succ]; exact a, by rw [eo]; exact b.trans (List.sublist_append_right ..), c⟩
theorem Dns.focus : ∀ {vs : List W} {d : Nat} {ws : List W} {O : List Nat} {j : Nat} {x : W}, Dns s V A vs d ws O → vs[j]? = some x → ∃ y O1 Oj O3, ws[j]? = some y ∧ O = O1 ++ Oj ++ O3 ∧ Dn s V A x d y Oj ∧
    ∀ (s' : Sto) (V' A' X : Nat → Prop) (x' y' : W) (Oj' : List Nat), Fx s V X s' V' → (∀ n ∈ O1, ¬ X n) → (∀ n ∈ O3, ¬ X n) → (∀ n, n < s.length → A n → A' n ∧ ¬ X n) → Dn s' V' A' x' d y' Oj' → Dns s' V' A' (vs.set j x') d (ws.set j y') (O1 ++ Oj' ++ O3)
  | [], _, _, _, _, _, _, e => by simp at e
  | v :: vs, d, _, _, 0, x, ⟨w, ws', O1, O2, rfl, rfl, h1, h2⟩, e => by
    rw [List.getElem?_cons_zero] at e
    cases e
    exact ⟨w, [], O1, O2, rfl, rfl, h1, fun s' V' A' X x' y' Oj' f _ h3 ha h => ⟨y', ws', Oj', O2, rfl, rfl, h, Dns.frameX f ha vs d ws' O2 h3 h2⟩⟩
  | v :: vs, d, _, _, j + 1, x, ⟨w, ws', O1, O2, rfl, rfl, h1, h2⟩, e => by
    rw [List.getElem?_cons_succ] at e
    obtain ⟨y, P1, Pj, P3, a, b, c, k⟩ := Dns.focus h2 e
    subst b
    refine ⟨y, O1 ++ P1, Pj, P3, by rw [List.getElem?_cons_succ]; exact a, by simp [List.append_assoc], c, fun s' V' A' X x' y' Oj' f g1 g3 ha h => ?_⟩
    refine ⟨w, ws'.set j y', O1, P1 ++ Oj' ++ P3, rfl, by simp [List.append_assoc], Dn.frameX f ha v d w O1 (fun n hn => g1 n (List.mem_append_left _ hn)) h1, k s' V' A' X x' y' Oj' f (fun n hn => g1 n (List.mem_append_right _ hn)) g3 ha h⟩
theorem Dns.snoc : ∀ {vs ws : List W} {O1 O2 : List Nat} {d : Nat} {z w : W}, Dns s V A vs d ws O1 → Dn s V A z d w O2 → Dns s V A (vs ++ [z]) d (ws ++ [w]) (O1 ++ O2)
  | [], _, _, O2, _, z, w, ⟨rfl, rfl⟩, k => ⟨w, [], O2, [], rfl, by simp, k, rfl, rfl⟩
  | v :: vs, _, _, O2, _, z, w, ⟨x, ws', P1, P2, rfl, rfl, h1, h2⟩, k => ⟨x, _, P1, P2 ++ O2, rfl, by rw [List.append_assoc], h1, Dns.snoc h2 k⟩
mutual
theorem Dn.nil0 : ∀ (v w : W) (O : List Nat), Dn s V A v 0 w O → O = []
  | .cl vs, w, O, ⟨_, h⟩ => by
    rcases h with ⟨_, _, _, _, _, h⟩ | ⟨_, _, _, h, _⟩
    · rcases h with ⟨_, _, h, _⟩ | ⟨h, _⟩
      · exact h
      · exact absurd rfl h
    · exact h
  | .tup vs, w, O, ⟨ws, _, h⟩ => Dns.nil0 vs ws O h
  | .loc u, _, _, h => h.2.2
  | .non, _, _, h => h.2
  | .bl _, _, _, h => h.2
  | .int _, _, _, h => h.2
  | .str _, _, _, h => h.2
  | .fn _, _, _, h => h.2
theorem Dns.nil0 : ∀ (vs ws : List W) (O : List Nat), Dns s V A vs 0 ws O → O = []
  | [], _, _, h => h.2
  | v :: vs, _, _, ⟨w, ws', O1, O2, _, eo, h1, h2⟩ => by
    rw [eo, Dn.nil0 v w O1 h1, Dns.nil0 vs ws' O2 h2]
    rfl
end
abbrev D0 (s : Sto) (V A : Nat → Prop) (v w : W) : Prop := Dn s V A v 0 w []
abbrev D0s (s : Sto) (V A : Nat → Prop) (vs ws : List W) : Prop := Dns s V A vs 0 ws []
theorem nil_of {a b : List Nat} (h : [] = a ++ b) : a = [] ∧ b = [] := by simpa [eq_comm] using h
theorem D0s.cons {v w : W} {vs ws : List W} (h : D0 s V A v w) (t : D0s s V A vs ws) : D0s s V A (v :: vs) (w :: ws) := ⟨w, ws, [], [], rfl, rfl, h, t⟩
theorem D0s.inv {v : W} {vs ws : List W} (h : D0s s V A (v :: vs) ws) : ∃ w ws', ws = w :: ws' ∧ D0 s V A v w ∧ D0s s V A vs ws' := by
  obtain ⟨w, ws', O1, O2, e, eo, h1, h2⟩ := h
  obtain ⟨e1, e2⟩ := nil_of eo
  subst e1 e2
  exact ⟨w, ws', e, h1, h2⟩
theorem D0s.of : ∀ {vs ws : List W}, vs.length = ws.length → (∀ (i : Nat) v w, vs[i]? = some v → ws[i]? = some w → D0 s V A v w) → D0s s V A vs ws
  | [], [], _, _ => ⟨rfl, rfl⟩
  | v :: vs, w :: ws, hl, h => .cons (h 0 v w rfl rfl) (D0s.of (by simpa using hl) fun i x y h1 h2 => h (i + 1) x y (by simpa using h1) (by simpa using h2))
  | [], _ :: _, hl, _ => by simp at hl
  | _ :: _, [], hl, _ => by simp at hl
theorem D0s.at {vs ws : List W} {i : Nat} {v : W} (h : D0s s V A vs ws) (e : vs[i]? = some v) : ∃ w, ws[i]? = some w ∧ D0 s V A v w := by
  obtain ⟨w, O1, a, b, c⟩ := Dns.get h e
  cases List.sublist_nil.mp b
  exact ⟨w, a, c⟩
theorem D0s.at2 {vs ws : List W} {i : Nat} {v w : W} (h : D0s s V A vs ws) (e : vs[i]? = some v) (e2 : ws[i]? = some w) : D0 s V A v w := by
  obtain ⟨x, a, b⟩ := h.at e
  rw [e2] at a
  cases a
  exact b
theorem D0s.app : ∀ {vs us ws xs : List W}, D0s s V A vs ws → D0s s V A us xs → D0s s V A (vs ++ us) (ws ++ xs)
  | [], _, _, _, h, k => by rw [show _ = [] from h.1]; exact k
  | v :: vs, _, _, _, h, k => by
    obtain ⟨w, ws', rfl, h1, h2⟩ := h.inv
    exact .cons h1 (D0s.app h2 k)
theorem D0s.take {vs ws : List W} (n : Nat) (h : D0s s V A vs ws) : D0s s V A (vs.take n) (ws.take n) := by
  refine D0s.of (by rw [List.length_take, List.length_take, Dns.length h]) fun i v w h1 h2 => ?_
  rw [List.getElem?_take] at h1 h2
  split at h1
  · rename_i hi
    rw [if_pos hi] at h2
    exact h.at2 h1 h2
  · cases h1
theorem D0s.drop {vs ws : List W} (n : Nat) (h : D0s s V A vs ws) : D0s s V A (vs.drop n) (ws.drop n) := by
  refine D0s.of (by rw [List.length_drop, List.length_drop, Dns.length h]) fun i v w h1 h2 => ?_
  rw [List.getElem?_drop] at h1 h2
  exact h.at2 h1 h2
theorem D0s.reverse {vs ws : List W} (h : D0s s V A vs ws) : D0s s V A vs.reverse ws.reverse := by
  refine D0s.of (by rw [List.length_reverse, List.length_reverse, Dns.length h]) fun i v w h1 h2 => ?_
  have hl := Dns.length h
  have hi : i < vs.length := by have := (List.getElem?_eq_some_iff.mp h1).1; rwa [List.length_reverse] at this
  rw [List.getElem?_reverse hi] at h1
  rw [List.getElem?_reverse (by omega), ← hl] at h2
  exact h.at2 h1 h2
theorem D0s.rep {vs ws : List W} (h : D0s s V A vs ws) : ∀ n : Nat, D0s s V A (List.replicate n vs).flatten (List.replicate n ws).flatten
  | 0 => ⟨rfl, rfl⟩
  | n + 1 => by
    rw [List.replicate_succ, List.replicate_succ, List.flatten_cons, List.flatten_cons]
    exact h.app (D0s.rep h n)
theorem D0s.cut {vs ws : List W} (lo hi : Option Int) (h : D0s s V A vs ws) : D0s s V A (cutW vs lo hi) (cutW ws lo hi) := by
  unfold cutW
  rw [Dns.length h]
  exact (h.drop _).take _
theorem D0.lst {vs : List W} {w : W} (h : D0 s V A (.cl vs) w) : ∃ ws, lsq w s = some ws ∧ D0s s V A vs ws ∧ vs.length ≤ sizeLine ∧ ((∃ n, w = .loc n ∧ s[n]? = some ws ∧ ¬ V n ∧ A n) ∨ w = .cl ws) := by
  obtain ⟨hl, h⟩ := h
  rcases h with ⟨n, ws, e, hs, hv, h⟩ | ⟨ws, e, hd, ho, h⟩
  · rcases h with ⟨hd, han, ho, h⟩ | ⟨hd, O', ho, h⟩
    · subst e
      exact ⟨ws, hs, h, hl, .inl ⟨n, rfl, hs, hv, han⟩⟩
    · exact absurd rfl hd
  · subst e
    exact ⟨ws, rfl, h, hl, .inr rfl⟩
end
end Pq

namespace Pq
open PySem Py Pl
abbrev Ur (s : Sto) (V : Nat → Prop) : Prop := ∀ u, V u → Urn s u
abbrev Fb (s : Sto) (F : Nat → Prop) : Prop := ∀ n, F n → n < s.length
abbrev Nt (F : Nat → Prop) : Nat → Prop := fun n => ¬ F n
structure RES (s : Sto) (V F : Nat → Prop) (s' : Sto) (V' : Nat → Prop) (t : Nat) (z w : W) (O : List Nat) : Prop where
  fm : Fm s V s' V'
  dn : Dn s' V' (fun n => ¬ F n ∧ n ∉ O) z t w O
  nd : O.Nodup
  ge : ∀ n ∈ O, s.length ≤ n
  ur : Ur s' V'
  t2 : t ≤ 2
def PoE (s : Sto) (V F : Nat → Prop) (Q : KQ) : QK W := fun w s' => ∃ z t V' O, Q z t ∧ RES s V F s' V' t z w O
def PoX (s : Sto) (V : Nat → Prop) (Z : KZ) : EK := fun c s' => Z c ∧ ∃ V', Fm s V s' V' ∧ Ur s' V'
section
variable {s s1 : Sto} {V V1 A F : Nat → Prop} {Q : KQ} {Z : EK} {z w : W} {t : Nat}
theorem PoE.trans (f : Fm s V s1 V1) {w : W} {s' : Sto} (h : PoE s1 V1 F Q w s') : PoE s V F Q w s' := by
  obtain ⟨z, t, V', O, q, r⟩ := h
  exact ⟨z, t, V', O, q, f.trans r.fm, r.dn, r.nd, fun n hn => Nat.le_trans f.len (r.ge n hn), r.ur, r.t2⟩
theorem PoX.trans {Zp : KZ} (f : Fm s V s1 V1) {c : Str} {s' : Sto} (h : PoX s1 V1 Zp c s') : PoX s V Zp c s' := ⟨h.1, h.2.elim fun V' h => ⟨V', f.trans h.1, h.2⟩⟩
theorem poe_flat (q : Q z t) (ht : t ≤ 2) (hf : flat z = true) (h : D0 s V A z w) (ur : Ur s V) : PoE s V F Q w s :=
  ⟨z, t, V, [], q, .refl, (Dn.flat z 0 w [] hf h).2 _ _, List.nodup_nil, (fun _ h => nomatch h), ur, ht⟩
theorem poe_0 (q : Q z 0) (h : D0 s V (Nt F) z w) (ur : Ur s V) : PoE s V F Q w s :=
  ⟨z, 0, V, [], q, .refl, Dn.frame .refl (fun n _ h => ⟨h, by simp⟩) z 0 w [] h, List.nodup_nil, (fun _ h => nomatch h), ur, by decide⟩
theorem poe_tgf (q : Q z (tgf z)) (h : D0 s V (Nt F) z w) (ur : Ur s V) : PoE s V F Q w s := by
  unfold tgf at q
  split at q
  · rename_i hf
    exact poe_flat q (by decide) hf h ur
  · exact poe_0 q h ur
theorem fm_new (ur : Ur s V) (ws : List W) : Fm s V (s ++ [ws]) V ∧ ¬ V s.length ∧ Ur (s ++ [ws]) V := by
  refine ⟨⟨by simp, fun n us _ h => by rw [List.getElem?_append_left (lt_of h)]; exact h, fun _ h => h, fun _ _ h => h⟩, fun h => Nat.lt_irrefl _ (by
    obtain ⟨_, _, _, h1, _⟩ := ur _ h
    exact lt_of h1), fun u hu => (ur u hu).keep (Fr.app (U := No) _ _) (fun z => z)⟩
theorem poe_new {zs ws : List W} (q : Q (.cl zs) (tgl zs)) (h : D0s s V (Nt F) zs ws) (hl : zs.length ≤ sizeLine) (fb : Fb s F) (ur : Ur s V) : PoE s V F Q (.loc s.length) (s ++ [ws]) := by
  obtain ⟨f, hv, ur'⟩ := fm_new ur ws
  refine ⟨_, _, V, [s.length], q, f, ⟨hl, .inl ⟨s.length, ws, rfl, by simp, hv, .inr ⟨by unfold tgl; split <;> decide, [], rfl, ?_⟩⟩⟩, by simp, fun n hn => by rw [List.mem_singleton.mp hn]; exact Nat.le_refl _, ur', by unfold tgl; split <;> decide⟩
  unfold tgl
  split
  · rename_i hf
    exact (Dns.flat zs 0 ws [] hf (Dns.frame f (fun _ _ h => h) zs 0 ws [] h)).2 _ _
  · exact Dns.frame f (fun n hn h => ⟨h, fun z => by rw [List.mem_singleton.mp z] at hn; exact Nat.lt_irrefl _ hn⟩) zs 0 ws [] h
theorem toD_dns {n : Nat} (ih : ∀ (v w : W) (d : PyData), D0 s V A v w → toD n [] v = some d → toD n s w = some d) : ∀ (vs ws : List W) (ds : List PyData), D0s s V A vs ws → vs.mapM (toD n []) = some ds → ws.mapM (toD n s) = some ds
  | [], ws, ds, h, e => by
    rw [show ws = [] from h.1]
    exact e
  | v :: vs, _, ds, h, e => by
    obtain ⟨w, ws', rfl, h1, h2⟩ := h.inv
    rw [List.mapM_cons] at e ⊢
    obtain ⟨d, e1, e⟩ := Option.bind_eq_some_iff.mp e
    obtain ⟨es, e2, e⟩ := Option.bind_eq_some_iff.mp e
    rw [ih v w d h1 e1]
    show (ws'.mapM (toD n s)).bind _ = _
    rw [toD_dns ih vs ws' es h2 e2]
    exact e
theorem toD_dn : ∀ (n : Nat) (v w : W) (d : PyData), D0 s V A v w → toD n [] v = some d → toD n s w = some d
  | 0, _, _, _, _, h => by cases h
  | n + 1, .cl vs, w, d, h, e => by
    have e : (vs.mapM (toD n [])).map PyData.list = some d := e
    obtain ⟨ds, e1, rfl⟩ := Option.map_eq_some_iff.mp e
    obtain ⟨ws, hw, hs, _, h | h⟩ := h.lst
    · obtain ⟨m, rfl, hm, _⟩ := h
      show ((s[m]?).bind fun ws => (ws.mapM (toD n s)).map PyData.list) = _
      rw [hm, Option.bind_some, toD_dns (toD_dn n) vs ws ds hs e1]
      rfl
    · subst h
      show (ws.mapM (toD n s)).map PyData.list = _
      rw [toD_dns (toD_dn n) vs ws ds hs e1]
      rfl
  | n + 1, .tup vs, w, d, ⟨ws, hw, h⟩, e => by
    subst hw
    have e : (vs.mapM (toD n [])).map PyData.tuple = some d := e
    obtain ⟨ds, e1, rfl⟩ := Option.map_eq_some_iff.mp e
    show (ws.mapM (toD n s)).map PyData.tuple = _
    rw [toD_dns (toD_dn n) vs ws ds h e1]
    rfl
  | n + 1, .loc u, _, d, _, e => by cases e
  | n + 1, .non, _, _, ⟨h, _⟩, e => by rw [h]; exact e
  | n + 1, .bl _, _, _, ⟨h, _⟩, e => by rw [h]; exact e
  | n + 1, .int _, _, _, ⟨h, _⟩, e => by rw [h]; exact e
  | n + 1, .str _, _, _, ⟨h, _⟩, e => by rw [h]; exact e
  | n + 1, .fn _, _, _, ⟨h, _⟩, e => by cases e
theorem lay_of {d : PyData} (h : SeqAt.shaped d = true) : d.canLay0 = true := by
  unfold SeqAt.shaped at h
  rw [Bool.and_eq_true] at h
  exact h.1
theorem eqW_dn {v1 v2 w1 w2 : W} {k : Bool} (h1 : D0 s V A v1 w1) (h2 : D0 s V A v2 w2) (h : eqW v1 v2 [] = some k) : eqW w1 w2 s = some k := by
  unfold eqW at h
  split at h
  · rw [h1.1, h2.1]
    exact h
  · rw [h1.1, h2.1]
    exact h
  · split at h
    · rename_i d e hd he
      split at h
      · rename_i hs
        rw [Bool.and_eq_true] at hs
        rw [← h]
        exact eqW_data (toD_dn 16 _ _ _ h1 hd) (toD_dn 16 _ _ _ h2 he) (lay_of hs.1) (lay_of hs.2)
      · cases h
    · cases h
theorem inW_dn {v1 v2 w1 w2 : W} {k : Bool} (h1 : D0 s V A v1 w1) (h2 : D0 s V A v2 w2) (h : inW v1 v2 [] = some k) : inW w1 w2 s = some k := by
  unfold inW at h ⊢
  split at h
  · rename_i d ds hd hds
    obtain ⟨vs, hv, hds⟩ := Option.bind_eq_some_iff.mp hds
    have : ∃ ws, lsq w2 s = some ws ∧ ws.mapM (toD 15 s) = some ds := by
      cases v2 with
      | cl us =>
        cases hv
        obtain ⟨ws, a, b, _⟩ := h2.lst
        exact ⟨ws, a, toD_dns (toD_dn 15) _ _ _ b hds⟩
      | _ => cases hv
    obtain ⟨ws, a, b⟩ := this
    rw [toD_dn 16 _ _ _ h1 hd, a, Option.bind_some, b]
    exact h
  · cases h
theorem fn_dn {x : Str} {w : W} (h : D0 s V A (.fn x) w) : (x ≠ "!" ∧ w = .fn x) ∨ (x = "!" ∧ ∃ is : List Int, w = .cl (is.map W.int) ∧ is.length ≤ 63) := by
  have h := h.1
  split at h
  · exact .inr ⟨by assumption, h⟩
  · exact .inl ⟨by assumption, h⟩
theorem isNon_dn {v w : W} (h : D0 s V A v w) : isNon w = isNon v := by
  cases v with
  | cl vs =>
    obtain ⟨ws, _, _, _, h | h⟩ := h.lst
    · obtain ⟨m, rfl, _⟩ := h
      rfl
    · rw [h]; rfl
  | tup vs => obtain ⟨ws, rfl, _⟩ := h; rfl
  | fn x => rcases fn_dn h with ⟨_, rfl⟩ | ⟨_, is, rfl, _⟩ <;> rfl
  | _ => rw [h.1] <;> rfl
theorem cop_dn {op : Cop} {v1 v2 w1 w2 : W} {Q : W → Prop} (h1 : D0 s V A v1 w1) (h2 : D0 s V A v2 w2) (h : rQ (cop op v1 v2 []) Q) : ∃ b, cop op w1 w2 s = .ok (.bl b) s ∧ Q (.bl b) := by
  have ints_ : ∀ {op : Cop} (f : Int → Int → Bool), (∀ i j s, cop op (.int i) (.int j) s = .ok (.bl (f i j)) s) → (∀ s, (∃ i j, v1 = .int i ∧ v2 = .int j) ∨ cop op v1 v2 s = .bad) → rQ (cop op v1 v2 []) Q → ∃ b, cop op w1 w2 s = .ok (.bl b) s ∧ Q (.bl b) := fun {op} f hf ho h => by
    rcases ho [] with ⟨i, j, rfl, rfl⟩ | z
    · rw [h1.1, h2.1, hf]
      rw [hf] at h
      exact ⟨_, rfl, h⟩
    · rw [z] at h
      exact h.elim
  cases op with
  | eq =>
    have h : rQ (ob (eqW v1 v2 []) []) Q := h
    show ∃ b, ob (eqW w1 w2 s) s = _ ∧ _
    cases e : eqW v1 v2 [] with
    | none => rw [e] at h; exact h.elim
    | some k =>
      rw [e] at h
      rw [eqW_dn h1 h2 e]
      exact ⟨k, rfl, h⟩
  | ne =>
    have h : rQ (ob ((eqW v1 v2 []).map (!·)) []) Q := h
    show ∃ b, ob ((eqW w1 w2 s).map (!·)) s = _ ∧ _
    cases e : eqW v1 v2 [] with
    | none => rw [e] at h; exact h.elim
    | some k =>
      rw [e] at h
      rw [eqW_dn h1 h2 e]
      exact ⟨!k, rfl, h⟩
  | inn =>
    have h : rQ (ob (inW v1 v2 []) []) Q := h
    show ∃ b, ob (inW w1 w2 s) s = _ ∧ _
    cases e : inW v1 v2 [] with
    | none => rw [e] at h; exact h.elim
    | some k =>
      rw [e] at h
      rw [inW_dn h1 h2 e]
      exact ⟨k, rfl, h⟩
  | nin =>
    have h : rQ (ob ((inW v1 v2 []).map (!·)) []) Q := h
    show ∃ b, ob ((inW w1 w2 s).map (!·)) s = _ ∧ _
    cases e : inW v1 v2 [] with
    | none => rw [e] at h; exact h.elim
    | some k =>
      rw [e] at h
      rw [inW_dn h1 h2 e]
      exact ⟨!k, rfl, h⟩
  | lt => exact ints_ (fun i j => decide (i < j)) (fun _ _ _ => rfl) (fun s => by cases v1 <;> cases v2 <;> first | exact .inr rfl | exact .inl ⟨_, _, rfl, rfl⟩) h
  | le => exact ints_ (fun i j => decide (i ≤ j)) (fun _ _ _ => rfl) (fun s => by cases v1 <;> cases v2 <;> first | exact .inr rfl | exact .inl ⟨_, _, rfl, rfl⟩) h
  | gt => exact ints_ (fun i j => decide (j < i)) (fun _ _ _ => rfl) (fun s => by cases v1 <;> cases v2 <;> first | exact .inr rfl | exact .inl ⟨_, _, rfl, rfl⟩) h
  | ge => exact ints_ (fun i j => decide (j ≤ i)) (fun _ _ _ => rfl) (fun s => by cases v1 <;> cases v2 <;> first | exact .inr rfl | exact .inl ⟨_, _, rfl, rfl⟩) h
  | isN =>
    have e : ∀ (a : W) (s : Sto), cop .isN a .non s = .ok (.bl (isNon a)) s := fun a s => by cases a <;> rfl
    cases v2 with
    | non =>
      rw [e] at h
      rw [h2.1, e, isNon_dn h1]
      exact ⟨_, rfl, h⟩
    | _ => cases v1 <;> exact h.elim
  | notN =>
    have e : ∀ (a : W) (s : Sto), cop .notN a .non s = .ok (.bl (!isNon a)) s := fun a s => by cases a <;> rfl
    cases v2 with
    | non =>
      rw [e] at h
      rw [h2.1, e, isNon_dn h1]
      exact ⟨_, rfl, h⟩
    | _ => cases v1 <;> exact h.elim
  | isB =>
    cases v1 <;> cases v2 <;> first | exact h.elim | skip
    rw [h1.1, h2.1]
    exact ⟨_, rfl, h⟩
  | notB =>
    cases v1 <;> cases v2 <;> first | exact h.elim | skip
    rw [h1.1, h2.1]
    exact ⟨_, rfl, h⟩
theorem tru_dn {v w : W} {b : Bool} (h : D0 s V A v w) (e : truW v [] = some b) : truW w s = some b := by
  cases v with
  | cl vs =>
    cases e
    obtain ⟨ws, hw, hs, _, h | h⟩ := h.lst
    · obtain ⟨m, rfl, hm, _⟩ := h
      show (s[m]?).map (fun ws => !ws.isEmpty) = _
      rw [hm, Option.map_some]
      have := Dns.length hs
      cases vs <;> cases ws <;> first | rfl | simp at this
    · subst h
      show some (!ws.isEmpty) = _
      have := Dns.length hs
      cases vs <;> cases ws <;> first | rfl | simp at this
  | tup vs =>
    cases e
    obtain ⟨ws, rfl, hs⟩ := h
    show some (!ws.isEmpty) = _
    have := Dns.length hs
    cases vs <;> cases ws <;> first | rfl | simp at this
  | loc u => cases e
  | fn x => cases e
  | _ => rw [h.1]; exact e
theorem isi_dn {v w : W} {ty : Ty} {b : Bool} (h : D0 s V A v w) (e : isiW ty v = some b) : isiW ty w = some b := by
  cases v with
  | cl vs =>
    obtain ⟨ws, _, _, _, h | h⟩ := h.lst
    · obtain ⟨m, rfl, _⟩ := h
      rw [← e]
      cases ty <;> rfl
    · subst h
      rw [← e]
      cases ty <;> rfl
  | tup vs =>
    obtain ⟨ws, rfl, _⟩ := h
    rw [← e]
    cases ty <;> rfl
  | fn x => cases ty <;> cases e
  | _ => rw [h.1]; exact e
theorem ints_dn : ∀ {vs ws : List W} {bs : List Int}, D0s s V A vs ws → intsW vs = some bs → intsW ws = some bs
  | [], ws, bs, h, e => by rw [show ws = [] from h.1]; exact e
  | v :: vs, ws, bs, h, e => by
    obtain ⟨w, ws', rfl, h1, h2⟩ := h.inv
    cases v with
    | int b =>
      have e : (intsW vs).map (b :: ·) = some bs := e
      obtain ⟨cs, e1, rfl⟩ := Option.map_eq_some_iff.mp e
      rw [h1.1]
      show (intsW ws').map (b :: ·) = _
      rw [ints_dn h2 e1]
      rfl
    | _ => cases e
theorem bop_dn {op : Bop} {v1 v2 w1 w2 : W} {t1 : Nat} {O1 : List Nat} (h1 : D0 s V (Nt F) v1 w1) (h2 : D0 s V (Nt F) v2 w2) (ho : t1 ≠ 0 → Dn s V A v1 t1 w1 O1) (fb : Fb s F) (ur : Ur s V) (h : bopP op v1 t1 v2 Q) : (bop op w1 w2 s).wp (PoE s V F Q) Z := by
  have at_ : ∀ {z : W} {w : W}, Q z 2 → w = z → (match z with | .int _ => True | .str _ => True | _ => False) → PoE s V F Q w s := fun {z w} q e hz => by
    subst e
    cases w <;> first | exact hz.elim | exact poe_flat q (Nat.le_refl 2) rfl (A := fun _ => True) ⟨rfl, rfl⟩ ur
  unfold bopP at h
  split at h
  · rw [h1.1, h2.1]; exact at_ h rfl trivial
  · rw [h1.1, h2.1]; exact at_ h rfl trivial
  · rw [h1.1, h2.1]
    show (if _ then R.ok _ s else .bad : R W).wp _ _
    rw [if_pos h.1]; exact at_ h.2 rfl trivial
  · rename_i xs _ ys
    obtain ⟨us, a1, b1, l1, c1⟩ := h1.lst
    obtain ⟨us2, a2, b2, l2, c2⟩ := h2.lst
    have e : bop .add w1 w2 s = (if us.length + us2.length ≤ sizeLine then alloc (us ++ us2) s else .bad) := by
      have g : bop .add w1 w2 s = (match lsq w1 s, lsq w2 s with
        | some xs, some ys => if xs.length + ys.length ≤ sizeLine then alloc (xs ++ ys) s else .bad
        | _, _ => .bad) := by
        rcases c1 with ⟨_, rfl, _⟩ | rfl <;> rcases c2 with ⟨_, rfl, _⟩ | rfl <;> rfl
      rw [g, a1, a2]
    rw [e, if_pos (by rw [← Dns.length b1, ← Dns.length b2]; exact h.1)]
    exact poe_new h.2 (b1.app b2) (by rw [List.length_append]; exact h.1) fb ur
  · rename_i xr _ ys
    obtain ⟨us, rfl, b1⟩ := h1
    obtain ⟨us2, rfl, b2⟩ := h2
    show (if us.length + us2.length ≤ sizeLine then R.ok (.tup (us ++ us2)) s else .bad : R W).wp _ _
    have l1 := Dns.length b1
    have l2 := Dns.length b2
    rw [if_pos (by rw [← l1, ← l2]; exact h.1)]
    exact poe_tgf h.2 ⟨_, rfl, D0s.app b1 b2⟩ ur
  · rw [h1.1, h2.1]; exact at_ h rfl trivial
  · rw [h1.1, h2.1]
    show (if _ then R.ok _ s else .bad : R W).wp _ _
    rw [if_pos h.1]; exact at_ h.2 rfl trivial
  · rename_i xs t k
    obtain ⟨⟨ht, k1, k2, k3⟩, q⟩ := h
    obtain ⟨us, a1, b1, l1, c1⟩ := h1.lst
    have hl : ∃ n, w1 = .loc n := by
      obtain ⟨_, h⟩ := ho ht
      rcases h with ⟨n, _, e, _⟩ | ⟨_, _, z, _⟩
      · exact ⟨n, e⟩
      · exact absurd z ht
    obtain ⟨n, rfl⟩ := hl
    rcases c1 with ⟨m, e, e1, _⟩ | e
    · cases e
      have e2 := h2.1
      subst e2
      refine o_rep e1 ⟨k1, k2⟩ (by rw [← Dns.length b1]; exact k3) (poe_new q (b1.rep _) ?_ fb ur)
      rw [PyProof.Rows.lm_len_rep_flat, Nat.mul_comm]
      exact k3
    · cases e
  · rw [h1.1, h2.1]
    exact o_div (by unfold divOk; exact decide_eq_true h.1) (at_ h.2 rfl trivial)
  · rw [h1.1, h2.1]
    exact o_mod h.1 (at_ h.2 rfl trivial)
  · rw [h1.1, h2.1]
    exact o_pow h.1 (at_ h.2 rfl trivial)
  · rw [h1.1, h2.1]
    show (if _ then R.ok _ s else .bad : R W).wp _ _
    rw [if_pos h.1]; exact at_ h.2 rfl trivial
  · rename_i xs _ i
    obtain ⟨us, a1, b1, l1, c1⟩ := h1.lst
    have e2 := h2.1
    subst e2
    unfold ofI at h
    split at h
    · rename_i ns h0
      have e : bop .cnt w1 (.int i) s = .ok (.int (ns.count i : Nat)) s := by
        show (match (lsq w1 s).bind intsW with
          | some ns => .ok (.int (ns.count i : Nat)) s
          | none => .bad : R W) = _
        rw [a1, Option.bind_some, ints_dn b1 h0]
      rw [e]
      exact at_ h rfl trivial
    · exact h.elim
  · exact h.elim
theorem ofO_some {α : Type} {o : Option α} {Q : α → Prop} (h : ofO o Q) : ∃ a, o = some a ∧ Q a := by
  cases o with
  | none => exact h.elim
  | some a => exact ⟨a, rfl, h⟩
theorem atW_dn {vs ws : List W} {i : Int} {v : W} (h : D0s s V A vs ws) (e : atW vs i = some v) : ∃ w, atW ws i = some w ∧ D0 s V A v w := by
  unfold atW at e ⊢
  obtain ⟨j, e1, e2⟩ := Option.bind_eq_some_iff.mp e
  obtain ⟨w, a, b⟩ := h.at e2
  exact ⟨w, by rw [← Dns.length h, e1, Option.bind_some, a], b⟩
theorem ix_dn {v1 v2 w1 w2 : W} (h1 : D0 s V (Nt F) v1 w1) (h2 : D0 s V (Nt F) v2 w2) (ur : Ur s V) (h : ixP v1 v2 Q) : (ixW w1 w2 s).wp (PoE s V F Q) Z := by
  unfold ixP at h
  split at h
  · obtain ⟨ws, rfl, b⟩ := h1
    rw [h2.1]
    obtain ⟨v, e, q⟩ := ofO_some h
    obtain ⟨w, a, c⟩ := atW_dn b e
    exact o_ixt a (poe_0 q c ur)
  · obtain ⟨ws, a1, b, _⟩ := h1.lst
    rw [h2.1]
    obtain ⟨v, e, q⟩ := ofO_some h
    obtain ⟨w, a, c⟩ := atW_dn b e
    exact o_ix a1 a (poe_0 q c ur)
  · rw [h1.1, h2.1]
    obtain ⟨c, e, q⟩ := ofO_some h.2
    show (if _ then (match _ with
      | some c => R.ok (.str ⟨#[c]⟩) s
      | none => .bad) else .bad : R W).wp _ _
    rw [if_pos h.1, e]
    exact poe_flat q (Nat.le_refl 2) rfl (A := fun _ => True) ⟨rfl, rfl⟩ ur
  · exact h.elim
theorem sl_dn {v w : W} {lo hi : Option Int} (h1 : D0 s V (Nt F) v w) (fb : Fb s F) (ur : Ur s V) (h : slP v lo hi Q) : (slW w lo hi s).wp (PoE s V F Q) Z := by
  unfold slP at h
  split at h
  · obtain ⟨ws, rfl, b⟩ := h1
    have l := Dns.length b
    show (if _ then .bad else R.ok (.tup (cutW ws lo hi)) s : R W).wp _ _
    rw [if_neg (by rw [← l]; exact h.1)]
    exact poe_tgf h.2 ⟨_, rfl, D0s.cut lo hi b⟩ ur
  · obtain ⟨ws, a1, b, l, _⟩ := h1.lst
    refine o_sl a1 (poe_new h (b.cut lo hi) ?_ fb ur)
    unfold cutW
    rw [List.length_take, List.length_drop]
    omega
  · exact h.elim
theorem bools_dn : ∀ {vs ws : List W} {bs : List Bool}, D0s s V A vs ws → bools vs = some bs → bools ws = some bs
  | [], ws, bs, h, e => by rw [show ws = [] from h.1]; exact e
  | v :: vs, ws, bs, h, e => by
    obtain ⟨w, ws', rfl, h1, h2⟩ := h.inv
    cases v with
    | bl b =>
      have e : (bools vs).map (b :: ·) = some bs := e
      obtain ⟨cs, e1, rfl⟩ := Option.map_eq_some_iff.mp e
      rw [h1.1]
      show (bools ws').map (b :: ·) = _
      rw [bools_dn h2 e1]
      rfl
    | _ => cases e
theorem rQ_ok {r : R W} {Q : W → Prop} (h : rQ r Q) : ∃ w s, r = .ok w s ∧ Q w := by
  cases r with
  | ok w s => exact ⟨w, s, rfl, h⟩
  | _ => exact h.elim
theorem rgI_dnl (s : Sto) (V A : Nat → Prop) : ∀ l : List Nat, D0s s V A (l.map fun i => W.int (i : Nat)) (l.map fun i => W.int (i : Nat))
  | [] => ⟨rfl, rfl⟩
  | i :: l => ⟨_, _, [], [], rfl, rfl, ⟨rfl, rfl⟩, rgI_dnl s V A l⟩
theorem rgI_dn {s : Sto} {V A : Nat → Prop} (n : Int) : D0s s V A (rgI n) (rgI n) := rgI_dnl s V A _
theorem bi_dn {f : Bi} {vs ws : List W} (h1 : D0s s V (Nt F) vs ws) (fb : Fb s F) (ur : Ur s V) (h : biP f vs Q) : (biW f ws s).wp (PoE s V F Q) Z := by
  have one : ∀ (v : W), vs = [v] → ∃ w, ws = [w] ∧ D0 s V (Nt F) v w := fun v e => by
    subst e
    obtain ⟨w, ws', rfl, a, b⟩ := h1.inv
    rw [show ws' = [] from b.1]
    exact ⟨w, rfl, a⟩
  have two : ∀ (v u : W), vs = [v, u] → ∃ w x, ws = [w, x] ∧ D0 s V (Nt F) v w ∧ D0 s V (Nt F) u x := fun v u e => by
    subst e
    obtain ⟨w, ws', rfl, a, b⟩ := h1.inv
    obtain ⟨x, ws2, rfl, a2, b2⟩ := b.inv
    rw [show ws2 = [] from b2.1]
    exact ⟨w, x, rfl, a, a2⟩
  have atI : ∀ {i : Int}, Q (.int i) 2 → PoE s V F Q (.int i) s := fun q => poe_flat q (Nat.le_refl 2) rfl (A := fun _ => True) ⟨rfl, rfl⟩ ur
  have atB : ∀ {i : Bool}, Q (.bl i) 2 → PoE s V F Q (.bl i) s := fun q => poe_flat q (Nat.le_refl 2) rfl (A := fun _ => True) ⟨rfl, rfl⟩ ur
  unfold biP at h
  split at h
  · obtain ⟨w, rfl, us, rfl, b⟩ := one _ rfl
    exact o_listt (poe_new h.2 b h.1 fb ur)
  · obtain ⟨w, rfl, b⟩ := one _ rfl
    obtain ⟨us, a1, b, l, _⟩ := b.lst
    exact o_list a1 (poe_new h b l fb ur)
  · exact h.elim
  · rename_i n
    obtain ⟨w, rfl, b⟩ := one _ rfl
    rw [b.1]
    show (if -16777216 ≤ n ∧ n ≤ 16777216 then alloc (rgI n) s else .bad : R W).wp _ _
    rw [if_pos h.1]
    exact poe_new h.2 (rgI_dn n) (by unfold rgI; rw [List.length_map, List.length_range]; have := h.1.2; exact Nat.le_trans (by omega : n.toNat ≤ 16777216) (by decide)) fb ur
  · exact h.elim
  · obtain ⟨w, rfl, b⟩ := one _ rfl
    rcases fn_dn b with ⟨z, _⟩ | ⟨_, is, rfl, hl⟩
    · exact absurd h.1 z
    · refine o_len (ws := is.map W.int) rfl ?_
      rw [List.length_map]
      exact atI (h.2 _ hl)
  · obtain ⟨z, s2, e, q⟩ := rQ_ok h
    cases f with
    | list => 
      exfalso
      rename_i n0 n1 n2 n3 n4 n5
      exact n0 rfl
    | lrng =>
      exfalso
      rename_i n0 n1 n2 n3 n4 n5
      exact n1 rfl
    | trng =>
      cases vs with
      | nil => cases e
      | cons v r =>
        cases r with
        | cons x y => first | (cases e; done) | (cases v <;> cases e; done) | (cases v <;> cases x <;> cases e; done)
        | nil =>
          cases v with
          | int i =>
            obtain ⟨w, rfl, b⟩ := one _ rfl
            rw [b.1]
            have e : (if -16777216 ≤ i ∧ i ≤ 16777216 then R.ok (.tup (rgI i)) [] else .bad : R W) = .ok z s2 := e
            show (if -16777216 ≤ i ∧ i ≤ 16777216 then R.ok (.tup (rgI i)) s else .bad : R W).wp _ _
            split at e
            · rename_i hx
              rw [if_pos hx]
              cases e
              exact poe_tgf q ⟨_, rfl, rgI_dn i⟩ ur
            · cases e
          | _ => cases e
    | len =>
      cases vs with
      | nil => cases e
      | cons v r =>
        cases r with
        | cons x y => first | (cases e; done) | (cases v <;> cases e; done) | (cases v <;> cases x <;> cases e; done)
        | nil =>
          cases v with
          | tup us =>
            cases e
            obtain ⟨w, rfl, us2, rfl, b⟩ := one _ rfl
            have l := Dns.length b
            refine o_lent ?_
            rw [← l]
            exact atI q
          | str x =>
            obtain ⟨w, rfl, b⟩ := one _ rfl
            rw [b.1]
            have e : (if x.length ≤ sizeLine then R.ok (.int x.length) [] else .bad : R W) = .ok z s2 := e
            show (if x.length ≤ sizeLine then R.ok (.int x.length) s else .bad : R W).wp _ _
            split at e
            · rename_i hx
              rw [if_pos hx]
              cases e
              exact atI q
            · cases e
          | cl us =>
            cases e
            obtain ⟨w, rfl, b⟩ := one _ rfl
            obtain ⟨us2, a1, b, l, _⟩ := b.lst
            refine o_len a1 ?_
            rw [← Dns.length b]
            exact atI q
          | _ => cases e
    | abs =>
      cases vs with
      | nil => cases e
      | cons v r =>
        cases r with
        | cons x y => first | (cases e; done) | (cases v <;> cases e; done) | (cases v <;> cases x <;> cases e; done)
        | nil =>
          cases v with
          | int i =>
            obtain ⟨w, rfl, b⟩ := one _ rfl
            cases e
            rw [b.1]
            exact atI q
          | _ => cases e
    | max2 =>
      cases vs with
      | nil => cases e
      | cons v r =>
        cases r with
        | nil => cases v <;> cases e
        | cons v2 r =>
          cases r with
          | cons x y => cases v <;> cases v2 <;> cases e
          | nil =>
            cases v <;> cases v2 <;> first | (cases e; done) | skip
            obtain ⟨w, x, rfl, b, b'⟩ := two _ _ rfl
            cases e
            rw [b.1, b'.1]
            exact atI q
    | min2 =>
      cases vs with
      | nil => cases e
      | cons v r =>
        cases r with
        | nil => cases v <;> cases e
        | cons v2 r =>
          cases r with
          | cons x y => cases v <;> cases v2 <;> cases e
          | nil =>
            cases v <;> cases v2 <;> first | (cases e; done) | skip
            obtain ⟨w, x, rfl, b, b'⟩ := two _ _ rfl
            cases e
            rw [b.1, b'.1]
            exact atI q
    | int =>
      cases vs with
      | nil => cases e
      | cons v r =>
        cases r with
        | cons x y => first | (cases e; done) | (cases v <;> cases e; done) | (cases v <;> cases x <;> cases e; done)
        | nil =>
          cases v with
          | int i =>
            obtain ⟨w, rfl, b⟩ := one _ rfl
            cases e
            rw [b.1]
            exact atI q
          | bl i =>
            obtain ⟨w, rfl, b⟩ := one _ rfl
            cases e
            rw [b.1]
            exact atI q
          | _ => cases e
    | all =>
      cases vs with
      | nil => cases e
      | cons v r =>
        cases r with
        | cons x y => first | (cases e; done) | (cases v <;> cases e; done) | (cases v <;> cases x <;> cases e; done)
        | nil =>
          cases v with
          | cl us =>
            obtain ⟨w, rfl, b⟩ := one _ rfl
            obtain ⟨us2, a1, b, l, _⟩ := b.lst
            have e : (match bools us with
              | some bs => R.ok (W.bl (bs.all id)) []
              | none => .bad : R W) = .ok z s2 := e
            cases hb : bools us with
            | none => rw [hb] at e; cases e
            | some bs =>
              rw [hb] at e
              cases e
              exact o_all a1 (bools_dn b hb) (atB q)
          | _ => cases e
    | any =>
      cases vs with
      | nil => cases e
      | cons v r =>
        cases r with
        | cons x y => first | (cases e; done) | (cases v <;> cases e; done) | (cases v <;> cases x <;> cases e; done)
        | nil =>
          cases v with
          | cl us =>
            obtain ⟨w, rfl, b⟩ := one _ rfl
            obtain ⟨us2, a1, b, l, _⟩ := b.lst
            have e : (match bools us with
              | some bs => R.ok (W.bl (bs.any id)) []
              | none => .bad : R W) = .ok z s2 := e
            cases hb : bools us with
            | none => rw [hb] at e; cases e
            | some bs =>
              rw [hb] at e
              cases e
              exact o_any a1 (bools_dn b hb) (atB q)
          | _ => cases e
    | sum =>
      cases vs with
      | nil => cases e
      | cons v r =>
        cases r with
        | cons x y => first | (cases e; done) | (cases v <;> cases e; done) | (cases v <;> cases x <;> cases e; done)
        | nil =>
          cases v with
          | cl us =>
            obtain ⟨w, rfl, b⟩ := one _ rfl
            obtain ⟨us2, a1, b, l, _⟩ := b.lst
            have e : (match intsW us with
              | some bs => R.ok (W.int bs.sum) []
              | none => .bad : R W) = .ok z s2 := e
            cases hb : intsW us with
            | none => rw [hb] at e; cases e
            | some bs =>
              rw [hb] at e
              cases e
              show (match (lsq w s).bind intsW with
                | some bs => R.ok (W.int bs.sum) s
                | none => .bad : R W).wp _ _
              rw [a1, Option.bind_some, ints_dn b hb]
              exact atI q
          | _ => cases e
    | tuple =>
      cases vs with
      | nil => cases e
      | cons v r =>
        cases r with
        | cons x y => first | (cases e; done) | (cases v <;> cases e; done) | (cases v <;> cases x <;> cases e; done)
        | nil =>
          cases v with
          | tup us =>
            obtain ⟨w, rfl, us2, rfl, b⟩ := one _ rfl
            cases e
            exact poe_tgf q ⟨_, rfl, b⟩ ur
          | cl us =>
            obtain ⟨w, rfl, b⟩ := one _ rfl
            obtain ⟨us2, a1, b, l, _⟩ := b.lst
            cases e
            exact o_tuple a1 (poe_tgf q ⟨_, rfl, b⟩ ur)
          | _ => cases e
    | str =>
      cases vs with
      | nil => cases e
      | cons v r =>
        cases r with
        | cons x y => first | (cases e; done) | (cases v <;> cases e; done) | (cases v <;> cases x <;> cases e; done)
        | nil =>
          cases v with
          | int i =>
            obtain ⟨w, rfl, b⟩ := one _ rfl
            rw [b.1]
            have e : (if strOk i then R.ok (.str (toString i)) [] else .bad : R W) = .ok z s2 := e
            show (if strOk i then R.ok (.str (toString i)) s else .bad : R W).wp _ _
            split at e
            · rename_i hx
              rw [if_pos hx]
              cases e
              exact poe_flat q (Nat.le_refl 2) rfl (A := fun _ => True) ⟨rfl, rfl⟩ ur
            · cases e
          | _ => cases e
structure Sr (s : Sto) (V A : Nat → Prop) (src : Src) (xs : List W) : Prop where
  few : xs.length < big
  at_ : ∀ (s' : Sto) (V' A' X : Nat → Prop), Fx s V X s' V' → (∀ n, n < s.length → A n → A' n ∧ ¬ X n) → (∀ (i : Nat) x, xs[i]? = some x → ∃ w, itAt src i s' = some (some w) ∧ D0 s' V' A' x w) ∧ itAt src xs.length s' = some none
theorem enP_get : ∀ (ws : List W) (k i : Nat), (enP k ws)[i]? = (ws[i]?).map fun x => .tup [.int ((k + i : Nat) : Int), x]
  | [], k, i => by simp [enP]
  | w :: ws, k, 0 => rfl
  | w :: ws, k, i + 1 => by
    rw [enP, List.getElem?_cons_succ, List.getElem?_cons_succ, enP_get ws (k + 1) i]
    rw [show k + 1 + i = k + (i + 1) from by omega]
theorem enP_len : ∀ (ws : List W) (k : Nat), (enP k ws).length = ws.length
  | [], k => rfl
  | w :: ws, k => by rw [enP, List.length_cons, List.length_cons, enP_len ws]
theorem rgP_get (lo c : Int) : ∀ (n k i : Nat), (rgP lo c k n)[i]? = if i < n then some (.int (lo + ((k + i : Nat) : Int) * c)) else none
  | 0, k, i => by simp [rgP]
  | n + 1, k, 0 => by simp [rgP]
  | n + 1, k, i + 1 => by
    rw [rgP, List.getElem?_cons_succ, rgP_get lo c n (k + 1) i]
    rw [show k + 1 + i = k + (i + 1) from by omega]
    by_cases h : i < n
    · rw [if_pos h, if_pos (by omega)]
    · rw [if_neg h, if_neg (by omega)]
theorem rgP_len (lo c : Int) : ∀ (n k : Nat), (rgP lo c k n).length = n
  | 0, k => rfl
  | n + 1, k => by rw [rgP, List.length_cons, rgP_len lo c n]
theorem sz_lt {n : Nat} (h : n ≤ sizeLine) : n < big := by
  have : sizeLine < big := by decide
  omega
theorem lsq_keep {w : W} {vs : List W} {s' : Sto} {V' A' X : Nat → Prop} (h : D0 s V A (.cl vs) w) (f : Fx s V X s' V') (ha : ∀ n, n < s.length → A n → A' n ∧ ¬ X n) : ∃ ws, lsq w s' = some ws ∧ D0s s' V' A' vs ws := by
  obtain ⟨ws, a, b, _, c⟩ := D0.lst (Dn.frameX f ha _ _ _ _ (fun _ z => nomatch z) h : D0 s' V' A' (.cl vs) w)
  exact ⟨ws, a, b⟩
theorem isLi_dn {w : W} {vs : List W} (h : D0 s V A (.cl vs) w) : isLi w s = true := by
  obtain ⟨ws, a, _⟩ := h.lst
  cases w with
  | loc n =>
    show (s[n]?).isSome = true
    rw [show s[n]? = some ws from a]
    rfl
  | cl ws => rfl
  | _ => cases a
theorem src_rng {lo c : Int} {n : Nat} (h : n < big) : Sr s V A (.rng lo c n) (rgP lo c 0 n) := by
  refine ⟨by rw [rgP_len]; exact h, fun s' V' A' X f ha => ⟨fun i x e => ?_, ?_⟩⟩
  · rw [rgP_get] at e
    split at e
    · rename_i hi
      cases e
      refine ⟨_, by show some (if i < n then some (W.int (lo + (i : Nat) * c)) else none) = _; rw [if_pos hi], ?_⟩
      rw [Nat.zero_add]
      exact ⟨rfl, rfl⟩
    · cases e
  · rw [rgP_len]
    show some (if n < n then some (W.int (lo + (n : Nat) * c)) else none) = _
    rw [if_neg (Nat.lt_irrefl n)]
theorem src_dn {k : Ik} {vs ws xs : List W} (h : D0s s V A vs ws) (e : srcP k vs = some xs) : ∃ src, srcOf k ws s = some src ∧ Sr s V A src xs := by
  have two : ∀ {v u : W}, vs = [v, u] → ∃ w x, ws = [w, x] ∧ D0 s V A v w ∧ D0 s V A u x := fun {v u} e => by
    subst e
    obtain ⟨w, ws', rfl, a, b⟩ := h.inv
    obtain ⟨x, ws2, rfl, a2, b2⟩ := b.inv
    rw [show ws2 = [] from b2.1]
    exact ⟨w, x, rfl, a, a2⟩
  have one : ∀ {v : W}, vs = [v] → ∃ w, ws = [w] ∧ D0 s V A v w := fun {v} e => by
    subst e
    obtain ⟨w, ws', rfl, a, b⟩ := h.inv
    rw [show ws' = [] from b.1]
    exact ⟨w, rfl, a⟩
  unfold srcP at e
  split at e
  · obtain ⟨w, rfl, us, rfl, b⟩ := one rfl
    split at e
    · rename_i hl
      cases e
      refine ⟨.tu us, rfl, sz_lt hl, fun s' V' A' X f ha => ⟨fun i x ex => ?_, ?_⟩⟩
      · obtain ⟨w, a, c⟩ := D0s.at (Dns.frameX f ha _ _ _ _ (fun _ z => nomatch z) b : D0s s' V' A' _ us) ex
        exact ⟨w, by show some us[i]? = _; rw [a], c⟩
      · show some us[_]? = _
        rw [List.getElem?_eq_none (by rw [Dns.length b]; exact Nat.le_refl _)]
    · cases e
  · obtain ⟨w, rfl, b⟩ := one rfl
    rename_i x
    split at e
    · rename_i hl
      cases e
      rw [b.1]
      refine ⟨.st x, rfl, by rw [List.length_map]; exact sz_lt hl, fun s' V' A' X f ha => ⟨fun i y ey => ?_, ?_⟩⟩
      · rw [List.getElem?_map] at ey
        obtain ⟨c, e1, rfl⟩ := Option.map_eq_some_iff.mp ey
        refine ⟨_, ?_, ⟨rfl, rfl⟩⟩
        show some ((x.cps[i]?).map fun c => W.str ⟨#[c]⟩) = _
        rw [← Array.getElem?_toList, e1]
        rfl
      · show some ((x.cps[_]?).map fun c => W.str ⟨#[c]⟩) = _
        rw [List.length_map, ← Array.getElem?_toList, List.getElem?_eq_none (Nat.le_refl _)]
        rfl
    · cases e
  · obtain ⟨w, rfl, b⟩ := one rfl
    cases e
    refine ⟨.li w, ?_, sz_lt b.1, fun s' V' A' X f ha => ?_⟩
    · have hl := isLi_dn b
      obtain ⟨us, a, _⟩ := b.lst
      cases w with
      | loc n =>
        show (if isLi (.loc n) s then some (Src.li (.loc n)) else none) = _
        rw [if_pos hl]
      | cl us => rfl
      | _ => cases a
    · obtain ⟨us, a, c⟩ := lsq_keep b f ha
      refine ⟨fun i x ex => ?_, ?_⟩
      · obtain ⟨y, a1, c1⟩ := D0s.at c ex
        exact ⟨y, by show (lsq w s').map (fun ws => ws[i]?) = _; rw [a, Option.map_some, a1], c1⟩
      · show (lsq w s').map (fun ws => ws[_]?) = _
        rw [a, Option.map_some, List.getElem?_eq_none (by rw [Dns.length c]; exact Nat.le_refl _)]
  · obtain ⟨w, rfl, b⟩ := one rfl
    rw [b.1]
    split at e
    · rename_i j hl
      cases e
      refine ⟨.rng 0 1 j.toNat, by show (if lim62 j then some (Src.rng 0 1 j.toNat) else none) = _; rw [if_pos hl], src_rng ?_⟩
      have := (show -(2 ^ 62) ≤ j ∧ j < 2 ^ 62 from by unfold lim62 at hl; exact of_decide_eq_true hl)
      unfold big
      omega
    · cases e
  · obtain ⟨w, x, rfl, b, b'⟩ := two rfl
    rw [b.1, b'.1]
    split at e
    · rename_i i j hl
      cases e
      rw [Bool.and_eq_true] at hl
      exact ⟨.rng i 1 (j - i).toNat, by show (if lim62 i && lim62 j then some (Src.rng i 1 (j - i).toNat) else none) = _; rw [if_pos hl.1], src_rng (of_decide_eq_true hl.2)⟩
    · cases e
  · rename_i i j c
    have : ∃ a b c', ws = [a, b, c'] ∧ D0 s V A (.int i) a ∧ D0 s V A (.int j) b ∧ D0 s V A (.int c) c' := by
      obtain ⟨w, ws', rfl, a, b⟩ := h.inv
      obtain ⟨x, ws2, rfl, a2, b2⟩ := b.inv
      obtain ⟨y, ws3, rfl, a3, b3⟩ := b2.inv
      rw [show ws3 = [] from b3.1]
      exact ⟨w, x, y, rfl, a, a2, a3⟩
    obtain ⟨a, b, c', rfl, h1, h2, h3⟩ := this
    rw [h1.1, h2.1, h3.1]
    split at e
    · rename_i hl
      cases e
      rw [Bool.and_eq_true] at hl
      exact ⟨.rng i c (Builtin.Range.rangeSize i j c).toNat, by show (if (decide (c ≠ 0 ∧ c.natAbs < 1073741824) && Builtin.Range.small i j c) = true then some (Src.rng i c (Builtin.Range.rangeSize i j c).toNat) else none) = _; rw [if_pos hl.1], src_rng (of_decide_eq_true hl.2)⟩
    · cases e
  · obtain ⟨w, rfl, b⟩ := one rfl
    cases e
    refine ⟨.enu w, by show (if isLi w s then some (Src.enu w) else none) = _; rw [if_pos (isLi_dn b)], by rw [enP_len]; exact sz_lt b.1, fun s' V' A' X f ha => ?_⟩
    obtain ⟨us, a, c⟩ := lsq_keep b f ha
    refine ⟨fun i x ex => ?_, ?_⟩
    · rw [enP_get] at ex
      obtain ⟨v, e1, rfl⟩ := Option.map_eq_some_iff.mp ex
      obtain ⟨y, a1, c1⟩ := D0s.at c e1
      refine ⟨.tup [.int (i : Nat), y], by show (lsq w s').map (fun ws => (ws[i]?).map fun x => W.tup [.int (i : Nat), x]) = _; rw [a, Option.map_some, a1]; rfl, _, rfl, ?_⟩
      rw [Nat.zero_add]
      exact D0s.cons ⟨rfl, rfl⟩ (D0s.cons c1 ⟨rfl, rfl⟩)
    · show (lsq w s').map (fun ws => (ws[_]?).map fun x => W.tup [.int _, x]) = _
      rw [a, Option.map_some, List.getElem?_eq_none (by rw [enP_len, Dns.length c]; exact Nat.le_refl _)]
      rfl
  · rename_i xs1 ys1
    obtain ⟨w, x, rfl, b, b'⟩ := two rfl
    cases e
    refine ⟨.zp w x, ?_, ?_, fun s' V' A' X f ha => ?_⟩
    · have l1 := isLi_dn b
      have l2 := isLi_dn b'
      obtain ⟨_, a, _⟩ := b.lst
      cases w with
      | loc n =>
        show (if isLi (.loc n) s && isLi x s then some (Src.zp (.loc n) x) else none) = _
        rw [l1, l2]
        rfl
      | cl us =>
        show (if isLi (.cl us) s && isLi x s then some (Src.zp (.cl us) x) else none) = _
        rw [l1, l2]
        rfl
      | _ => cases a
    · rw [List.length_zipWith]
      have := sz_lt b.1
      omega
    · obtain ⟨us, a, c⟩ := lsq_keep b f ha
      obtain ⟨us', a', c'⟩ := lsq_keep b' f ha
      have g : ∀ i, itAt (.zp w x) i s' = some (match us[i]?, us'[i]? with
        | some x, some y => some (W.tup [x, y])
        | _, _ => none) := fun i => by
        show (match lsq w s', lsq x s' with
          | some xs, some ys => some (match xs[i]?, ys[i]? with
            | some x, some y => some (W.tup [x, y])
            | _, _ => none)
          | _, _ => none) = _
        rw [a, a']
      refine ⟨fun i z ez => ?_, ?_⟩
      · rw [List.getElem?_zipWith] at ez
        cases e1 : xs1[i]? with
        | none => rw [e1] at ez; cases ez
        | some p =>
          cases e2 : ys1[i]? with
          | none => rw [e1, e2] at ez; cases ez
          | some q =>
            rw [e1, e2] at ez
            cases ez
            obtain ⟨y1, d1, d2⟩ := D0s.at c e1
            obtain ⟨y2, d3, d4⟩ := D0s.at c' e2
            exact ⟨.tup [y1, y2], by rw [g, d1, d3], _, rfl, D0s.cons d2 (D0s.cons d4 ⟨rfl, rfl⟩)⟩
      · rw [g, List.length_zipWith]
        have l1 := Dns.length c
        have l2 := Dns.length c'
        by_cases hh : xs1.length ≤ ys1.length
        · rw [Nat.min_eq_left hh, List.getElem?_eq_none (by omega : us.length ≤ xs1.length)]
        · rw [Nat.min_eq_right (by omega), List.getElem?_eq_none (by omega : us'.length ≤ ys1.length)]
          cases us[ys1.length]? <;> rfl
  · rename_i xs1 ys1
    obtain ⟨w, x, rfl, b, b'⟩ := two rfl
    obtain ⟨us, rfl, c⟩ := b
    obtain ⟨us', rfl, c'⟩ := b'
    split at e
    · rename_i hl
      cases e
      refine ⟨.zt us us', rfl, by rw [List.length_zipWith]; have := sz_lt hl; omega, fun s' V' A' X f ha => ?_⟩
      have c := (Dns.frameX f ha _ _ _ _ (fun _ z => nomatch z) c : D0s s' V' A' _ us)
      have c' := (Dns.frameX f ha _ _ _ _ (fun _ z => nomatch z) c' : D0s s' V' A' _ us')
      have g : ∀ i, itAt (.zt us us') i s' = some (match us[i]?, us'[i]? with
        | some x, some y => some (W.tup [x, y])
        | _, _ => none) := fun i => rfl
      refine ⟨fun i z ez => ?_, ?_⟩
      · rw [List.getElem?_zipWith] at ez
        cases e1 : xs1[i]? with
        | none => rw [e1] at ez; cases ez
        | some p =>
          cases e2 : ys1[i]? with
          | none => rw [e1, e2] at ez; cases ez
          | some q =>
            rw [e1, e2] at ez
            cases ez
            obtain ⟨y1, d1, d2⟩ := D0s.at c e1
            obtain ⟨y2, d3, d4⟩ := D0s.at c' e2
            exact ⟨.tup [y1, y2], by rw [g, d1, d3], _, rfl, D0s.cons d2 (D0s.cons d4 ⟨rfl, rfl⟩)⟩
      · rw [g, List.length_zipWith]
        have l1 := Dns.length c
        have l2 := Dns.length c'
        by_cases hh : xs1.length ≤ ys1.length
        · rw [Nat.min_eq_left hh, List.getElem?_eq_none (by omega : us.length ≤ xs1.length)]
        · rw [Nat.min_eq_right (by omega), List.getElem?_eq_none (by omega : us'.length ≤ ys1.length)]
          cases us[ys1.length]? <;> rfl
    · cases e
  · rename_i xs1
    obtain ⟨w, rfl, b⟩ := one rfl
    cases e
    obtain ⟨us0, a0, c0, l0, _⟩ := b.lst
    refine ⟨.rv w xs1.length, ?_, by rw [List.length_reverse]; exact sz_lt b.1, fun s' V' A' X f ha => ?_⟩
    · cases w with
      | loc n =>
        show (lsq (.loc n) s).map (fun ws => Src.rv (.loc n) ws.length) = _
        rw [a0, Option.map_some, Dns.length c0]
      | cl us =>
        show (lsq (.cl us) s).map (fun ws => Src.rv (.cl us) ws.length) = _
        rw [a0, Option.map_some, Dns.length c0]
      | _ => cases a0
    · obtain ⟨us, a, c⟩ := lsq_keep b f ha
      have lc := Dns.length c
      refine ⟨fun i x ex => ?_, ?_⟩
      · have hi : i < xs1.length := by
          have := (List.getElem?_eq_some_iff.mp ex).1
          rwa [List.length_reverse] at this
        rw [List.getElem?_reverse hi] at ex
        obtain ⟨y, a1, c1⟩ := D0s.at c ex
        refine ⟨y, ?_, c1⟩
        show (if i < xs1.length then (lsq w s').bind fun ws => (ws[xs1.length - 1 - i]?).map some else some none) = _
        rw [if_pos hi, a, Option.bind_some, a1]
        rfl
      · show (if xs1.reverse.length < xs1.length then _ else some none) = _
        rw [List.length_reverse, if_neg (Nat.lt_irrefl _)]
  · rename_i xs1
    obtain ⟨w, rfl, us, rfl, c⟩ := one rfl
    split at e
    · rename_i hl
      cases e
      refine ⟨.rt us, rfl, by rw [List.length_reverse]; exact sz_lt hl, fun s' V' A' X f ha => ?_⟩
      have c := (Dns.frameX f ha _ _ _ _ (fun _ z => nomatch z) c : D0s s' V' A' _ us)
      have lc := Dns.length c
      refine ⟨fun i x ex => ?_, ?_⟩
      · have hi : i < xs1.length := by
          have := (List.getElem?_eq_some_iff.mp ex).1
          rwa [List.length_reverse] at this
        rw [List.getElem?_reverse hi] at ex
        obtain ⟨y, a1, c1⟩ := D0s.at c ex
        refine ⟨y, ?_, c1⟩
        show (if i < us.length then (us[us.length - 1 - i]?).map some else some none) = _
        rw [if_pos (by omega), ← lc, a1]
        rfl
      · show (if xs1.reverse.length < us.length then _ else some none) = _
        rw [List.length_reverse, lc, if_neg (Nat.lt_irrefl _)]
    · cases e
  · cases e
end
end Pq

namespace Pq
open PySem Py Pl
structure EnvR (s : Sto) (V F : Nat → Prop) (e e' : Sl) : Prop where
  len : e.length = e'.length
  at_ : ∀ (i : Nat) (v : W), e[i]? = some (some v) → ∃ w, e'[i]? = some (some w) ∧ D0 s V (Nt F) v w
section
variable {s s1 s' : Sto} {V V1 V' A F F' : Nat → Prop} {e e' : Sl}
theorem EnvR.frame (h : EnvR s V F e e') (f : Fm s V s1 V1) (hF : ∀ n, n < s.length → ¬ F n → ¬ F' n) : EnvR s1 V1 F' e e' :=
  ⟨h.len, fun i v hv => by
    obtain ⟨w, a, b⟩ := h.at_ i v hv
    exact ⟨w, a, Dn.frame f hF _ _ _ _ b⟩⟩
theorem EnvR.set (h : EnvR s V F e e') (i : Nat) {v w : W} (hw : D0 s V (Nt F) v w) : EnvR s V F (e.set i (some v)) (e'.set i (some w)) := by
  refine ⟨by rw [List.length_set, List.length_set, h.len], fun j u hu => ?_⟩
  rw [List.getElem?_set] at hu
  by_cases z : i = j
  · rw [if_pos z] at hu
    split at hu
    · rename_i hl
      cases hu
      exact ⟨w, by rw [List.getElem?_set, if_pos z, if_pos (by rw [← h.len]; exact hl)], hw⟩
    · cases hu
  · rw [if_neg z] at hu
    obtain ⟨w2, a, b⟩ := h.at_ j u hu
    exact ⟨w2, by rw [List.getElem?_set, if_neg z]; exact a, b⟩
theorem EnvR.setN (h : EnvR s V F e e') (i : Nat) : EnvR s V F (e.set i none) (e'.set i none) := by
  refine ⟨by rw [List.length_set, List.length_set, h.len], fun j u hu => ?_⟩
  rw [List.getElem?_set] at hu
  by_cases z : i = j
  · rw [if_pos z] at hu
    split at hu <;> cases hu
  · rw [if_neg z] at hu
    obtain ⟨w2, a, b⟩ := h.at_ j u hu
    exact ⟨w2, by rw [List.getElem?_set, if_neg z]; exact a, b⟩
theorem EnvR.wipe (h : EnvR s V F e e') : ∀ vs : List Nat, EnvR s V F (wipeS e vs) (wipeS e' vs)
  | [] => h
  | v :: vs => (EnvR.wipe h vs).setN v
mutual
theorem tnSet_dn : ∀ (t : Tn) (v w : W) (e e' e1 : Sl), EnvR s V F e e' → D0 s V (Nt F) v w → tnSet t v e = some e1 → ∃ e2, tnSet t w e' = some e2 ∧ EnvR s V F e1 e2
  | .name i, v, w, e, e', e1, h, d, hs => by
    cases hs
    exact ⟨_, rfl, h.set i d⟩
  | .tup ts, v, w, e, e', e1, h, d, hs => by
    cases v with
    | tup vs =>
      obtain ⟨ws, rfl, b⟩ := d
      exact tnSets_dn ts vs ws e e' e1 h b hs
    | _ => cases hs
  | .nil, v, w, e, e', e1, h, d, hs => by cases v <;> cases hs
  | .cons _ _, v, w, e, e', e1, h, d, hs => by cases v <;> cases hs
theorem tnSets_dn : ∀ (t : Tn) (vs ws : List W) (e e' e1 : Sl), EnvR s V F e e' → D0s s V (Nt F) vs ws → tnSets t vs e = some e1 → ∃ e2, tnSets t ws e' = some e2 ∧ EnvR s V F e1 e2
  | .nil, vs, ws, e, e', e1, h, d, hs => by
    cases vs with
    | nil =>
      cases hs
      rw [show ws = [] from d.1]
      exact ⟨e', rfl, h⟩
    | cons _ _ => cases hs
  | .cons t ts, vs, ws, e, e', e1, h, d, hs => by
    cases vs with
    | nil => cases hs
    | cons v vs =>
      obtain ⟨w, ws', rfl, a, b⟩ := d.inv
      have hs : (tnSet t v e).bind (fun e' => tnSets ts vs e') = some e1 := hs
      obtain ⟨e2, h1, h2⟩ := Option.bind_eq_some_iff.mp hs
      obtain ⟨e3, h3, h4⟩ := tnSet_dn t v w e e' e2 h a h1
      obtain ⟨e4, h5, h6⟩ := tnSets_dn ts vs ws' e2 e3 e1 h4 b h2
      exact ⟨e4, by show (tnSet t w e').bind (fun e' => tnSets ts ws' e') = _; rw [h3, Option.bind_some, h5], h6⟩
  | .name _, vs, ws, e, e', e1, h, d, hs => by cases vs <;> cases hs
  | .tup _, vs, ws, e, e', e1, h, d, hs => by cases vs <;> cases hs
end
structure RESs (s : Sto) (V F : Nat → Prop) (s' : Sto) (V' : Nat → Prop) (t : Nat) (zs ws : List W) (O : List Nat) : Prop where
  fm : Fm s V s' V'
  dn : Dns s' V' (fun n => ¬ F n ∧ n ∉ O) zs t ws O
  nd : O.Nodup
  ge : ∀ n ∈ O, s.length ≤ n
  ur : Ur s' V'
  t2 : t ≤ 2
theorem RES.low {t : Nat} {z w : W} {O : List Nat} (fb : Fb s F) (r : RES s V F s' V' t z w O) : D0 s' V' (Nt F) z w :=
  Dn.low _ _ _ _ r.dn (fun n h => h.1) fun n hn h => by
    have := fb n h
    have := r.ge n hn
    omega
theorem RESs.low {t : Nat} {zs ws : List W} {O : List Nat} (fb : Fb s F) (r : RESs s V F s' V' t zs ws O) : D0s s' V' (Nt F) zs ws :=
  Dns.low _ _ _ _ r.dn (fun n h => h.1) fun n hn h => by
    have := fb n h
    have := r.ge n hn
    omega
theorem Fb.up (fb : Fb s F) (f : Fm s V s1 V1) : Fb s1 F := fun n h => Nat.lt_of_lt_of_le (fb n h) f.len
theorem Dn.to {t d : Nat} {z w : W} {O : List Nat} (h : Dn s V A z t w O) (nd : O.Nodup) (hd : d ≤ t) (ht : t ≤ 2) : ∃ O1, O1.Sublist O ∧ ∀ A' : Nat → Prop, (∀ n, A n → A' n) → (∀ n ∈ O, n ∉ O1 → A' n) → Dn s V A' z d w O1 := by
  by_cases e : d = t
  · subst e
    exact ⟨O, List.Sublist.refl _, fun A' ha _ => Dn.frame .refl (fun n _ h => ha n h) _ _ _ _ h⟩
  · by_cases e0 : d = 0
    · subst e0
      exact ⟨[], by simp, fun A' ha hO => Dn.low _ _ _ _ h ha fun n hn => hO n hn (by simp)⟩
    · have e1 : d = 1 := by omega
      subst e1
      exact Dn.low1 _ _ _ _ h (by omega) nd
theorem Dns.to {t d : Nat} {z w : List W} {O : List Nat} (h : Dns s V A z t w O) (nd : O.Nodup) (hd : d ≤ t) (ht : t ≤ 2) : ∃ O1, O1.Sublist O ∧ ∀ A' : Nat → Prop, (∀ n, A n → A' n) → (∀ n ∈ O, n ∉ O1 → A' n) → Dns s V A' z d w O1 := by
  by_cases e : d = t
  · subst e
    exact ⟨O, List.Sublist.refl _, fun A' ha _ => Dns.frame .refl (fun n _ h => ha n h) _ _ _ _ h⟩
  · by_cases e0 : d = 0
    · subst e0
      exact ⟨[], by simp, fun A' ha hO => Dns.low _ _ _ _ h ha fun n hn => hO n hn (by simp)⟩
    · have e1 : d = 1 := by omega
      subst e1
      exact Dns.low1 _ _ _ _ h (by omega) nd
theorem RESs.cons {t u : Nat} {z w : W} {zs ws : List W} {O1 O2 : List Nat} (fb : Fb s F) (r : RES s V F s1 V1 t z w O1) (q : RESs s1 V1 (fun n => F n ∨ n ∈ O1) s' V' u zs ws O2) : ∃ O, RESs s V F s' V' (mn z t u) (z :: zs) (w :: ws) O := by
  -- at a common tag
  have go : ∀ d : Nat, d ≤ 2 → (d ≤ t ∨ flat z = true) → d ≤ u → ∃ O, RESs s V F s' V' d (z :: zs) (w :: ws) O := fun d h2 ht hu => by
    have hz : ∃ P1, P1.Sublist O1 ∧ ∀ A' : Nat → Prop, (∀ n, ¬ F n ∧ n ∉ O1 → A' n) → (∀ n ∈ O1, n ∉ P1 → A' n) → Dn s1 V1 A' z d w P1 := by
      rcases ht with ht | ht
      · exact Dn.to r.dn r.nd ht r.t2
      · exact ⟨[], by simp, fun A' _ _ => (Dn.flat _ _ _ _ ht r.dn).2 _ _⟩
    obtain ⟨P1, s1', k1⟩ := hz
    obtain ⟨P2, s2', k2⟩ := Dns.to q.dn q.nd hu q.t2
    have lt1 : ∀ n ∈ P1, n < s1.length := fun n hn => (Dn.lt _ _ _ _ r.dn n (s1'.mem hn)).1
    have ge2 : ∀ n ∈ P2, s1.length ≤ n := fun n hn => q.ge n (s2'.mem hn)
    have ne : ∀ n ∈ P1, n ∉ P2 := fun n h1 h2 => by
      have := lt1 n h1
      have := ge2 n h2
      omega
    refine ⟨P1 ++ P2, r.fm.trans q.fm, ⟨w, ws, P1, P2, rfl, rfl, ?_, ?_⟩, ?_, ?_, q.ur, h2⟩
    · refine Dn.frame q.fm ?_ _ _ _ _ (k1 (fun n => ¬ F n ∧ n ∉ P1) (fun n h => ⟨h.1, fun z => h.2 (s1'.mem z)⟩) (fun n hn hp => ⟨fun hf => ?_, hp⟩))
      · intro n hn h
        refine ⟨h.1, fun z => ?_⟩
        rcases List.mem_append.mp z with z | z
        · exact h.2 z
        · have := ge2 n z
          omega
      · have := fb n hf
        have := r.ge n hn
        omega
    · refine k2 _ (fun n h => ⟨fun z => h.1 (.inl z), fun z => ?_⟩) (fun n hn hp => ⟨fun hf => ?_, fun z => ?_⟩)
      · rcases List.mem_append.mp z with z | z
        · exact h.1 (.inr (s1'.mem z))
        · exact h.2 (s2'.mem z)
      · have := fb n hf
        have := q.ge n hn
        have := r.fm.len
        omega
      · rcases List.mem_append.mp z with z | z
        · have := lt1 n z
          have := q.ge n hn
          omega
        · exact hp z
    · rw [List.nodup_append]
      exact ⟨r.nd.sublist s1', q.nd.sublist s2', fun a ha b hb e => ne a ha (by rw [e]; exact hb)⟩
    · intro n hn
      rcases List.mem_append.mp hn with z | z
      · exact r.ge n (s1'.mem z)
      · exact Nat.le_trans r.fm.len (ge2 n z)
  have u2 := q.t2
  have t2 := r.t2
  unfold mn
  split
  · rename_i hf
    exact go u u2 (.inr hf) (Nat.le_refl _)
  · split
    · exact go u u2 (.inl (by omega)) (Nat.le_refl _)
    · split
      · exact go 0 (by decide) (.inl (Nat.zero_le _)) (Nat.zero_le _)
      · exact go t t2 (.inl (Nat.le_refl _)) (by omega)
theorem RESs.snoc {t u : Nat} {z w : W} {zs ws : List W} {O1 O2 : List Nat} (fb : Fb s F) (r : RESs s V F s1 V1 u zs ws O1) (q : RES s1 V1 (fun n => F n ∨ n ∈ O1) s' V' t z w O2) : ∃ O, RESs s V F s' V' (mn z t u) (zs ++ [z]) (ws ++ [w]) O := by
  have app : ∀ {zs ws : List W} {O1 O2 : List Nat} {d : Nat} {A : Nat → Prop}, Dns s' V' A zs d ws O1 → Dn s' V' A z d w O2 → Dns s' V' A (zs ++ [z]) d (ws ++ [w]) (O1 ++ O2) := by
    intro zs
    induction zs with
    | nil =>
      intro ws O1 O2 d A h k
      rw [h.1, h.2]
      exact ⟨w, [], O2, [], rfl, by simp, k, rfl, rfl⟩
    | cons v zs ih =>
      intro ws O1 O2 d A h k
      obtain ⟨x, ws', P1, P2, rfl, rfl, h1, h2⟩ := h
      exact ⟨x, _, P1, P2 ++ O2, rfl, by rw [List.append_assoc], h1, ih h2 k⟩
  have go : ∀ d : Nat, d ≤ 2 → (d ≤ t ∨ flat z = true) → d ≤ u → ∃ O, RESs s V F s' V' d (zs ++ [z]) (ws ++ [w]) O := fun d h2 ht hu => by
    have hz : ∃ P1, P1.Sublist O2 ∧ ∀ A' : Nat → Prop, (∀ n, ¬ (F n ∨ n ∈ O1) ∧ n ∉ O2 → A' n) → (∀ n ∈ O2, n ∉ P1 → A' n) → Dn s' V' A' z d w P1 := by
      rcases ht with ht | ht
      · exact Dn.to q.dn q.nd ht q.t2
      · exact ⟨[], by simp, fun A' _ _ => (Dn.flat _ _ _ _ ht q.dn).2 _ _⟩
    obtain ⟨P2, s2', k2⟩ := hz
    obtain ⟨P1, s1', k1⟩ := Dns.to r.dn r.nd hu r.t2
    have lt1 : ∀ n ∈ P1, n < s1.length := fun n hn => (Dns.lt _ _ _ _ r.dn n (s1'.mem hn)).1
    have ge2 : ∀ n ∈ P2, s1.length ≤ n := fun n hn => q.ge n (s2'.mem hn)
    have ne : ∀ n ∈ P1, n ∉ P2 := fun n h1 h2 => by
      have := lt1 n h1
      have := ge2 n h2
      omega
    refine ⟨P1 ++ P2, r.fm.trans q.fm, app ?_ ?_, ?_, ?_, q.ur, h2⟩
    · refine Dns.frame q.fm ?_ _ _ _ _ (k1 (fun n => ¬ F n ∧ n ∉ P1) (fun n h => ⟨h.1, fun z => h.2 (s1'.mem z)⟩) (fun n hn hp => ⟨fun hf => ?_, hp⟩))
      · intro n hn h
        refine ⟨h.1, fun z => ?_⟩
        rcases List.mem_append.mp z with z | z
        · exact h.2 z
        · have := ge2 n z
          omega
      · have := fb n hf
        have := r.ge n hn
        omega
    · refine k2 _ (fun n h => ⟨fun z => h.1 (.inl z), fun z => ?_⟩) (fun n hn hp => ⟨fun hf => ?_, fun z => ?_⟩)
      · rcases List.mem_append.mp z with z | z
        · exact h.1 (.inr (s1'.mem z))
        · exact h.2 (s2'.mem z)
      · have := fb n hf
        have := q.ge n hn
        have := r.fm.len
        omega
      · rcases List.mem_append.mp z with z | z
        · have := lt1 n z
          have := q.ge n hn
          omega
        · exact hp z
    · rw [List.nodup_append]
      exact ⟨r.nd.sublist s1', q.nd.sublist s2', fun a ha b hb e => ne a ha (by rw [e]; exact hb)⟩
    · intro n hn
      rcases List.mem_append.mp hn with z | z
      · exact r.ge n (s1'.mem z)
      · exact Nat.le_trans r.fm.len (ge2 n z)
  have u2 := r.t2
  have t2 := q.t2
  unfold mn
  split
  · rename_i hf
    exact go u u2 (.inr hf) (Nat.le_refl _)
  · split
    · exact go u u2 (.inl (by omega)) (Nat.le_refl _)
    · split
      · exact go 0 (by decide) (.inl (Nat.zero_le _)) (Nat.zero_le _)
      · exact go t t2 (.inl (Nat.le_refl _)) (by omega)
theorem poe_lst {Q : KQ} {t : Nat} {zs ws : List W} {O : List Nat} (fb : Fb s F) (r : RESs s V F s1 V1 t zs ws O) (hl : zs.length ≤ sizeLine) (q : Q (.cl zs) (if t = 2 then 2 else 1)) : PoE s V F Q (.loc s1.length) (s1 ++ [ws]) := by
  obtain ⟨f, hv, ur'⟩ := fm_new r.ur ws
  have nl : s1.length ∉ O := fun z => Nat.lt_irrefl _ (Dns.lt _ _ _ _ r.dn _ z).1
  by_cases h2 : t = 2
  · subst h2
    rw [if_pos rfl] at q
    refine ⟨_, 2, V1, s1.length :: O, q, r.fm.trans f, ⟨hl, .inl ⟨s1.length, ws, rfl, by simp, hv, .inr ⟨by decide, O, rfl, ?_⟩⟩⟩, List.nodup_cons.mpr ⟨nl, r.nd⟩, fun n hn => ?_, ur', by decide⟩
    · exact Dns.all _ _ _ (Dns.frame f (fun _ _ h => h) _ _ _ _ r.dn)
    · rcases List.mem_cons.mp hn with z | z
      · rw [z]; exact r.fm.len
      · exact r.ge n z
  · rw [if_neg h2] at q
    refine ⟨_, 1, V1, [s1.length], q, r.fm.trans f, ⟨hl, .inl ⟨s1.length, ws, rfl, by simp, hv, .inr ⟨by decide, [], rfl, ?_⟩⟩⟩, by simp, fun n hn => by rw [List.mem_singleton.mp hn]; exact r.fm.len, ur', by decide⟩
    refine Dns.frame f (fun n hn h => ⟨h, fun z => ?_⟩) _ _ _ _ (r.low fb)
    rw [List.mem_singleton.mp z] at hn
    exact Nat.lt_irrefl _ hn
theorem poe_tup {Q : KQ} {t : Nat} {zs ws : List W} {O : List Nat} (r : RESs s V F s1 V1 t zs ws O) (q : Q (.tup zs) t) : PoE s V F Q (.tup ws) s1 :=
  ⟨_, t, V1, O, q, r.fm, ⟨ws, rfl, r.dn⟩, r.nd, r.ge, r.ur, r.t2⟩
end
def tg (o : Own) (i : Nat) : Nat := (o.lookup i).getD 0
structure Iv (s0 : Sto) (V0 F : Nat → Prop) (s : Sto) (V : Nat → Prop) (e : Sl) (τ : Nat → Nat) (e' : Sl) (OS : Nat → List Nat) : Prop where
  len : e.length = e'.length
  at_ : ∀ (i : Nat) (v : W), e[i]? = some (some v) → ∃ w, e'[i]? = some (some w) ∧ Dn s V (fun n => ¬ F n ∧ ∀ j, n ∉ OS j) v (τ i) w (OS i)
  emp : ∀ i, (∀ v, e[i]? ≠ some (some v)) → OS i = []
  nd : ∀ i, (OS i).Nodup
  dis : ∀ i j n, i ≠ j → n ∈ OS i → n ∉ OS j
  ge : ∀ i n, n ∈ OS i → s0.length ≤ n
  ur : Ur s V
  fm : Fm s0 V0 s V
  fb : Fb s0 F
  t2 : ∀ i, τ i ≤ 2
section
variable {s0 s s1 : Sto} {V0 F V V1 : Nat → Prop} {e x e' x' : Sl} {τ : Nat → Nat} {OS : Nat → List Nat}
theorem slot_or (e : Sl) (i : Nat) : (∃ v, e[i]? = some (some v)) ∨ ∀ v, e[i]? ≠ some (some v) := by
  by_cases h : ∃ v, e[i]? = some (some v)
  · exact .inl h
  · exact .inr fun v hv => h ⟨v, hv⟩
theorem Iv.lt (I : Iv s0 V0 F s V e τ e' OS) {i n : Nat} (h : n ∈ OS i) : n < s.length ∧ ¬ V n := by
  rcases slot_or e i with ⟨v, hv⟩ | hv
  · obtain ⟨w, _, d⟩ := I.at_ i v hv
    exact Dn.lt _ _ _ _ d n h
  · rw [I.emp i hv] at h
    cases h
theorem Iv.nf (I : Iv s0 V0 F s V e τ e' OS) {i n : Nat} (h : n ∈ OS i) : ¬ F n := fun z => by
  have := I.fb n z
  have := I.ge i n h
  omega
theorem Iv.envR (I : Iv s0 V0 F s V e τ e' OS) : EnvR s V F e e' :=
  ⟨I.len, fun i v hv => by
    obtain ⟨w, a, b⟩ := I.at_ i v hv
    exact ⟨w, a, Dn.low _ _ _ _ b (fun n h => h.1) fun n hn => I.nf hn⟩⟩
theorem Iv.frame (I : Iv s0 V0 F s V e τ e' OS) (f : Fm s V s1 V1) (ur : Ur s1 V1) : Iv s0 V0 F s1 V1 e τ e' OS :=
  ⟨I.len, fun i v hv => by
    obtain ⟨w, a, b⟩ := I.at_ i v hv
    exact ⟨w, a, Dn.frame f (fun _ _ h => h) _ _ _ _ b⟩, I.emp, I.nd, I.dis, I.ge, ur, I.fm.trans f, I.fb, I.t2⟩
theorem Iv.tags {τ' : Nat → Nat} (I : Iv s0 V0 F s V e τ e' OS) (h : ∀ i, τ' i = τ i) : Iv s0 V0 F s V e τ' e' OS := by
  have : τ' = τ := funext h
  rw [this]
  exact I
theorem Iv.weak (I : Iv s0 V0 F s V e τ e' OS) (τ' : Nat → Nat) (h : ∀ i, i < e.length → τ' i ≤ τ i) (h2 : ∀ i, τ' i ≤ 2) : ∃ OS', Iv s0 V0 F s V e τ' e' OS' ∧ ∀ i, (OS' i).Sublist (OS i) := by
  have key : ∀ i, ∃ P : List Nat, P.Sublist (OS i) ∧ (∀ v w, e[i]? = some (some v) → e'[i]? = some (some w) → ∀ A' : Nat → Prop, (∀ n, (¬ F n ∧ ∀ j, n ∉ OS j) → A' n) → (∀ n ∈ OS i, n ∉ P → A' n) → Dn s V A' v (τ' i) w P) ∧ ((∀ v, e[i]? ≠ some (some v)) → P = []) := fun i => by
    rcases slot_or e i with ⟨v, hv⟩ | hv
    · obtain ⟨w, a, b⟩ := I.at_ i v hv
      obtain ⟨P, p1, p2⟩ := Dn.to b (I.nd i) (h i (List.getElem?_eq_some_iff.mp hv).1) (I.t2 i)
      refine ⟨P, p1, fun v' w' h1 h2 A' ha hO => ?_, fun z => absurd hv (z v)⟩
      rw [hv] at h1
      rw [a] at h2
      cases h1
      cases h2
      exact p2 A' ha hO
    · exact ⟨[], by simp, fun v w h1 => absurd h1 (hv v), fun _ => rfl⟩
  refine ⟨fun i => Classical.choose (key i), ⟨I.len, fun i v hv => ?_, fun i hv => (Classical.choose_spec (key i)).2.2 hv, fun i => (I.nd i).sublist (Classical.choose_spec (key i)).1, fun i j n hij hn hm => I.dis i j n hij ((Classical.choose_spec (key i)).1.mem hn) ((Classical.choose_spec (key j)).1.mem hm), fun i n hn => I.ge i n ((Classical.choose_spec (key i)).1.mem hn), I.ur, I.fm, I.fb, h2⟩, fun i => (Classical.choose_spec (key i)).1⟩
  obtain ⟨w, a, b⟩ := I.at_ i v hv
  refine ⟨w, a, (Classical.choose_spec (key i)).2.1 v w hv a _ (fun n h => ⟨h.1, fun j z => h.2 j ((Classical.choose_spec (key j)).1.mem z)⟩) fun n hn hp => ⟨I.nf hn, fun j z => ?_⟩⟩
  by_cases hij : i = j
  · subst hij
    exact hp z
  · exact I.dis i j n hij hn ((Classical.choose_spec (key j)).1.mem z)
theorem Iv.push (I : Iv s0 V0 F s V e τ e' OS) (f : Fm s V s1 V1) (ur : Ur s1 V1) {z w : W} {t : Nat} {O : List Nat} (d : Dn s1 V1 (fun n => ¬ F n ∧ (∀ j, n ∉ OS j) ∧ n ∉ O) z t w O) (nd : O.Nodup) (ge : ∀ n ∈ O, s.length ≤ n) (t2 : t ≤ 2) :
    Iv s0 V0 F s1 V1 (e ++ [some z]) (fun i => if i = e.length then t else τ i) (e' ++ [some w]) (fun i => if i = e.length then O else OS i) := by
  have hO : OS e.length = [] := I.emp _ fun v hv => by
    have := (List.getElem?_eq_some_iff.mp hv).1
    omega
  refine ⟨by rw [List.length_append, List.length_append, I.len]; rfl, fun i v hv => ?_, fun i hv => ?_, fun i => ?_, fun i j n hij hn hm => ?_, fun i n hn => ?_, ur, I.fm.trans f, I.fb, fun i => ?_⟩
  · by_cases hi : i = e.length
    · subst hi
      rw [List.getElem?_append_right (Nat.le_refl _), Nat.sub_self] at hv
      cases hv
      refine ⟨w, by rw [I.len, List.getElem?_append_right (Nat.le_refl _), Nat.sub_self]; rfl, ?_⟩
      rw [if_pos rfl, if_pos rfl]
      refine Dn.frame .refl (fun n _ h => ⟨h.1, fun j => ?_⟩) _ _ _ _ d
      split
      · exact h.2.2
      · exact h.2.1 j
    · have hlt : i < e.length := by
        have := (List.getElem?_eq_some_iff.mp hv).1
        rw [List.length_append, List.length_singleton] at this
        omega
      rw [List.getElem?_append_left hlt] at hv
      obtain ⟨u, a, b⟩ := I.at_ i v hv
      refine ⟨u, by rw [List.getElem?_append_left (by rw [← I.len]; exact hlt)]; exact a, ?_⟩
      rw [if_neg hi, if_neg hi]
      refine Dn.frame f (fun n hn h => ⟨h.1, fun j => ?_⟩) _ _ _ _ b
      split
      · exact fun z => by have := ge n z; omega
      · exact h.2 j
  · by_cases hi : i = e.length
    · subst hi
      exfalso
      exact hv z (by rw [List.getElem?_append_right (Nat.le_refl _), Nat.sub_self]; rfl)
    · show (if i = e.length then O else OS i) = []
      rw [if_neg hi]
      refine I.emp i fun v h => hv v ?_
      rw [List.getElem?_append_left (List.getElem?_eq_some_iff.mp h).1]
      exact h
  · show (if i = e.length then O else OS i).Nodup
    split
    · exact nd
    · exact I.nd i
  · have hn : n ∈ (if i = e.length then O else OS i) := hn
    have hm : n ∈ (if j = e.length then O else OS j) := hm
    split at hn
    · split at hm
      · omega
      · have := ge n hn
        have := (I.lt hm).1
        omega
    · split at hm
      · have := ge n hm
        have := (I.lt hn).1
        omega
      · exact I.dis i j n hij hn hm
  · have hn : n ∈ (if i = e.length then O else OS i) := hn
    split at hn
    · have := ge n hn
      have := I.fm.len
      omega
    · exact I.ge i n hn
  · show (if i = e.length then t else τ i) ≤ 2
    split
    · exact t2
    · exact I.t2 i
end
structure SimG (G : G) (g : PG) : Prop where
  call : ∀ (x : Str) (vs ws : List W) (ts : List Nat) (s0 s : Sto) (V0 V F : Nat → Prop) (OS : Nat → List Nat) (Q : KQ) (Z : KZ), g.call x vs ts Q Z → Iv s0 V0 F s V (vs.map some) (fun i => ts.getD i 0) (ws.map some) OS → (G.call x ws s).wp (PoE s0 V0 F Q) (PoX s0 V0 Z)
  con : ∀ x w, g.con x = some w → G.con x = some w ∧ ∀ s V A, D0 s V A w w
  df : ∀ x, g.df x = G.df x
  ex : ∀ x, g.ex x = G.ex x
end Pq

namespace Pq
open PySem Py Pl
def PoEs (s : Sto) (V F : Nat → Prop) (Q : List W → Nat → Prop) : QK (List W) := fun ws s' => ∃ zs t V' O, Q zs t ∧ RESs s V F s' V' t zs ws O
def PoA {α : Type} (s : Sto) (V : Nat → Prop) (Q : α → Prop) : QK α := fun a s' => Q a ∧ ∃ V', Fm s V s' V' ∧ Ur s' V'
theorem slot_some {e : Sl} {i : Nat} {Q : W → Prop} (h : slotP e i Q) : ∃ w, e[i]? = some (some w) ∧ Q w := by
  unfold slotP at h
  split at h
  · exact ⟨_, by assumption, h⟩
  · exact h.elim
theorem toBP_some {w : W} {Q : Bool → Prop} (h : toBP w Q) : ∃ b, w = .bl b ∧ Q b := by
  cases w <;> first | exact ⟨_, rfl, h⟩ | exact h.elim
theorem toIP_some {w : W} {Q : Int → Prop} (h : toIP w Q) : ∃ b, w = .int b ∧ Q b := by
  cases w <;> first | exact ⟨_, rfl, h⟩ | exact h.elim
theorem nx {s : Sto} {V : Nat → Prop} {c : Str} {s' : Sto} {P : Str → Sto → Prop} (h : PoX s V (fun _ => False) c s') : P c s' := h.1.elim
section
variable {G : G} {g : PG} (hG : SimG G g)
section
variable {s s1 s2 : Sto} {V V1 V2 F : Nat → Prop}
theorem PoA.trans {α : Type} {Q : α → Prop} (f : Fm s V s1 V1) {a : α} {s' : Sto} (h : PoA s1 V1 Q a s') : PoA s V Q a s' := ⟨h.1, h.2.elim fun V' h => ⟨V', f.trans h.1, h.2⟩⟩
theorem PoEs.trans {Q : List W → Nat → Prop} (f : Fm s V s1 V1) {w : List W} {s' : Sto} (h : PoEs s1 V1 F Q w s') : PoEs s V F Q w s' := by
  obtain ⟨z, t, V', O, q, r⟩ := h
  exact ⟨z, t, V', O, q, f.trans r.fm, r.dn, r.nd, fun n hn => Nat.le_trans f.len (r.ge n hn), r.ur, r.t2⟩
theorem RES.frame {t : Nat} {z w : W} {O : List Nat} (r : RES s V F s1 V1 t z w O) (f : Fm s1 V1 s2 V2) (ur : Ur s2 V2) : RES s V F s2 V2 t z w O :=
  ⟨r.fm.trans f, Dn.frame f (fun _ _ h => h) _ _ _ _ r.dn, r.nd, r.ge, ur, r.t2⟩
theorem RESs.frame {t : Nat} {z w : List W} {O : List Nat} (r : RESs s V F s1 V1 t z w O) (f : Fm s1 V1 s2 V2) (ur : Ur s2 V2) : RESs s V F s2 V2 t z w O :=
  ⟨r.fm.trans f, Dns.frame f (fun _ _ h => h) _ _ _ _ r.dn, r.nd, r.ge, ur, r.t2⟩
theorem EnvR.later {e e' : Sl} (h : EnvR s V F e e') (f : Fm s V s1 V1) : EnvR s1 V1 F e e' := h.frame f fun _ _ h => h
theorem EnvR.with {e e' : Sl} {O : List Nat} (h : EnvR s V F e e') (f : Fm s V s1 V1) (hO : ∀ n ∈ O, s.length ≤ n) : EnvR s1 V1 (fun n => F n ∨ n ∈ O) e e' := h.frame f fun n hn h z => by
  rcases z with z | z
  · exact h z
  · have := hO n z
    omega
theorem Fb.with {O : List Nat} {t : Nat} {z w : W} (fb : Fb s F) (r : RES s V F s1 V1 t z w O) : Fb s1 (fun n => F n ∨ n ∈ O) := fun n h => by
  rcases h with h | h
  · exact Nat.lt_of_lt_of_le (fb n h) r.fm.len
  · exact (Dn.lt _ _ _ _ r.dn n h).1
theorem Fb.withs {O : List Nat} {t : Nat} {z w : List W} (fb : Fb s F) (r : RESs s V F s1 V1 t z w O) : Fb s1 (fun n => F n ∨ n ∈ O) := fun n h => by
  rcases h with h | h
  · exact Nat.lt_of_lt_of_le (fb n h) r.fm.len
  · exact (Dns.lt _ _ _ _ r.dn n h).1
end
include hG
theorem simComp {own : List (Str × Nat)} {tg : Tn} {cond elt : E} {e e' : Sl} {s0 : Sto} {V0 F : Nat → Prop} {src : Src} {xs : List W} {Q : KQ} {Z' : EK}
    (ihT : ∀ (e e' : Sl) (s : Sto) (V F : Nat → Prop) (Q : Bool → Prop), evTP g cond e Q (fun _ => False) → EnvR s V F e e' → Fb s F → Ur s V → (evT G cond e' s).wp (PoA s V Q) (fun _ _ => False))
    (ihE : ∀ (e e' : Sl) (s : Sto) (V F : Nat → Prop) (Q : KQ), evP g elt e Q (fun _ => False) → EnvR s V F e e' → Fb s F → Ur s V → (ev G elt e' s).wp (PoE s V F Q) (fun _ _ => False))
    (he : EnvR s0 V0 F e e') (fb : Fb s0 F) (hs : Sr s0 V0 (Nt F) src xs) :
    ∀ (N i : Nat) (acc accw : List W) (t : Nat) (s : Sto) (V : Nat → Prop) (O : List Nat), xs.length - i < N → i ≤ xs.length → RESs s0 V0 F s V t acc accw O → acc.length ≤ sizeLine →
      compP (fun x y n => ofO (tnSet tg x (wipeS e (own.map Prod.snd))) fun e1 => evTP g cond e1 (fun k => if k = true then evP g elt e1 y (fun _ => False) else n) (fun _ => False)) Q (xs.drop i) acc t →
      (compL (fun w s2 => R.noex (cmpFl G own tg cond elt e' w s2)) N src i accw s).wp (fun accw s2 => ∃ acc t V2 O2, RESs s0 V0 F s2 V2 t acc accw O2 ∧ acc.length ≤ sizeLine ∧ Q (.cl acc) (if t = 2 then 2 else 1)) Z' := by
  intro N
  induction N with
  | zero => intro i acc accw t s V O h; omega
  | succ N ih =>
    intro i acc accw t s V O hN hi r hl h
    obtain ⟨h1, h2⟩ := hs.at_ s V (fun n => ¬ (F n ∨ n ∈ O)) (fun _ => False) r.fm.x (fun n hn h => ⟨fun z => by
      rcases z with z | z
      · exact h z
      · have := r.ge n z
        omega, fun z => z⟩)
    unfold compL
    rcases Nat.lt_or_eq_of_le hi with lt | rfl
    · have hx : xs[i]? = some xs[i] := List.getElem?_eq_getElem lt
      have hd : xs.drop i = xs[i] :: xs.drop (i + 1) := List.drop_eq_getElem_cons lt
      obtain ⟨w, a, b⟩ := h1 i _ hx
      rw [a]
      rw [hd, compP] at h
      obtain ⟨e1, k1, k2⟩ := ofO_some h
      have er := (he.with r.fm r.ge).wipe (own.map Prod.snd)
      obtain ⟨e2, k3, k4⟩ := tnSet_dn tg _ _ _ _ _ er b k1
      have fb1 := fb.withs r
      show ((R.noex (cmpFl G own tg cond elt e' w s)).bind _).wp _ _
      rw [wp_bind]
      refine cmpFl_wp k3 ((ihT e1 e2 s V _ _ k2 k4 fb1 r.ur).imp (fun k s1 z => ?_) fun _ _ z => z.elim)
      obtain ⟨zq, V1, f1, ur1⟩ := z
      cases k with
      | true =>
        rw [if_pos rfl] at zq
        refine ⟨fun _ => ?_, fun z => nomatch z⟩
        refine (ihE e1 e2 s1 V1 _ _ zq (k4.later f1) (fb1.up f1) ur1).imp (fun v s2 z => ?_) fun _ _ z => z.elim
        obtain ⟨zv, tz, V2, O2, ⟨hl2, cq⟩, r2⟩ := z
        obtain ⟨O3, r3⟩ := RESs.snoc fb (r.frame f1 ur1) r2
        show (if accw.length < sizeLine then compL _ N src (i + 1) (accw ++ [v]) s2 else .bad).wp _ _
        rw [if_pos (by rw [← Dns.length r.dn]; exact hl2)]
        exact ih (i + 1) _ _ _ s2 V2 O3 (by omega) lt r3 (by rw [List.length_append, List.length_singleton]; omega) cq
      | false =>
        refine ⟨(fun z => nomatch z), fun _ => ?_⟩
        rw [if_neg (by decide)] at zq
        exact ih (i + 1) _ _ _ s1 V1 O (by omega) lt (r.frame f1 ur1) hl zq
    · rw [h2]
      rw [List.drop_length, compP] at h
      exact ⟨acc, t, V, O, r, hl, h⟩
omit hG in
theorem iv_nil {s : Sto} {V F : Nat → Prop} (fb : Fb s F) (ur : Ur s V) : Iv s V F s V (([] : List W).map some) (fun i => ([] : List Nat).getD i 0) (([] : List W).map some) (fun _ => []) :=
  ⟨rfl, (fun i v h => by simp at h), fun _ _ => rfl, fun _ => List.nodup_nil, (fun _ _ _ _ h => nomatch h), (fun _ _ h => nomatch h), ur, .refl, fb, fun i => by simp⟩
mutual
theorem simE : ∀ (a : E) (e e' : Sl) (s : Sto) (V F : Nat → Prop) (Q : KQ) (Z : KZ), evP g a e Q Z → EnvR s V F e e' → Fb s F → Ur s V → (ev G a e' s).wp (PoE s V F Q) (PoX s V Z)
  | .var i, e, e', s, V, F, Q, Z, h, he, fb, ur => by
    rw [evP] at h
    obtain ⟨v, hv, q⟩ := slot_some h
    obtain ⟨w, a, b⟩ := he.at_ i v hv
    exact e_var a (poe_0 q b ur)
  | .con x, e, e', s, V, F, Q, Z, h, he, fb, ur => by
    rw [evP] at h
    obtain ⟨v, hv, q⟩ := ofO_some h
    obtain ⟨a, b⟩ := hG.con x v hv
    exact e_con a (poe_0 q (b ..) ur)
  | .fref x, e, e', s, V, F, Q, Z, h, he, fb, ur => by
    rw [evP] at h
    exact e_fref (by rw [← hG.df]; exact h.2.1) (poe_flat h.2.2 (Nat.le_refl 2) rfl (A := fun _ => True) ⟨by rw [if_neg h.1], rfl⟩ ur)
  | .int i, e, e', s, V, F, Q, Z, h, he, fb, ur => by
    rw [evP] at h
    exact e_int (poe_flat h (Nat.le_refl 2) rfl (A := fun _ => True) ⟨rfl, rfl⟩ ur)
  | .bl i, e, e', s, V, F, Q, Z, h, he, fb, ur => by
    rw [evP] at h
    exact e_bl (poe_flat h (Nat.le_refl 2) rfl (A := fun _ => True) ⟨rfl, rfl⟩ ur)
  | .non, e, e', s, V, F, Q, Z, h, he, fb, ur => by
    rw [evP] at h
    exact e_non (poe_flat h (Nat.le_refl 2) rfl (A := fun _ => True) ⟨rfl, rfl⟩ ur)
  | .str i, e, e', s, V, F, Q, Z, h, he, fb, ur => by
    rw [evP] at h
    exact e_str (poe_flat h (Nat.le_refl 2) rfl (A := fun _ => True) ⟨rfl, rfl⟩ ur)
  | .bin op a b, e, e', s, V, F, Q, Z, h, he, fb, ur => by
    rw [evP] at h
    refine e_bin ((simE a e e' s V F _ Z h he fb ur).mono fun w s1 z => ?_)
    obtain ⟨z1, t1, V1, O1, q1, r1⟩ := z
    refine (simE b e e' s1 V1 F _ Z q1 (he.later r1.fm) (fb.up r1.fm) r1.ur).imp (fun u s2 z => ?_) fun _ _ z => z.trans r1.fm
    obtain ⟨z2, t2, V2, O2, q2, r2⟩ := z
    exact (bop_dn (Z := PoX s2 V2 Z) (Dn.frame r2.fm (fun _ _ h => h) _ _ _ _ (r1.low fb)) (r2.low (fb.up r1.fm)) (fun _ => (r1.frame r2.fm r2.ur).dn) (fb.up (r1.fm.trans r2.fm)) r2.ur q2).imp (fun _ _ z => z.trans (r1.fm.trans r2.fm)) fun _ _ z => z.trans (r1.fm.trans r2.fm)
  | .neg a, e, e', s, V, F, Q, Z, h, he, fb, ur => by
    rw [evP] at h
    refine e_neg ((simE a e e' s V F _ Z h he fb ur).mono fun w s1 z => ?_)
    obtain ⟨z1, t1, V1, O1, q1, r1⟩ := z
    obtain ⟨i, rfl, q⟩ := toIP_some q1
    rw [(r1.low fb).1]
    exact o_neg ((poe_flat q (Nat.le_refl 2) rfl (A := fun _ => True) ⟨rfl, rfl⟩ r1.ur).trans r1.fm)
  | .no a, e, e', s, V, F, Q, Z, h, he, fb, ur => by
    rw [evP] at h
    refine e_no ((simE a e e' s V F _ Z h he fb ur).mono fun w s1 z => ?_)
    obtain ⟨z1, t1, V1, O1, q1, r1⟩ := z
    obtain ⟨i, rfl, q⟩ := toBP_some q1
    exact ⟨i, (r1.low fb).1, (poe_flat q (Nat.le_refl 2) rfl (A := fun _ => True) ⟨rfl, rfl⟩ r1.ur).trans r1.fm⟩
  | .cmp op a b, e, e', s, V, F, Q, Z, h, he, fb, ur => by
    rw [evP] at h
    refine e_cmp ((simE a e e' s V F _ Z h he fb ur).mono fun w s1 z => ?_)
    obtain ⟨z1, t1, V1, O1, q1, r1⟩ := z
    refine (simE b e e' s1 V1 F _ Z q1 (he.later r1.fm) (fb.up r1.fm) r1.ur).imp (fun u s2 z => ?_) fun _ _ z => z.trans r1.fm
    obtain ⟨z2, t2, V2, O2, q2, r2⟩ := z
    obtain ⟨k, e1, q⟩ := cop_dn (Dn.frame r2.fm (fun _ _ h => h) _ _ _ _ (r1.low fb)) (r2.low (fb.up r1.fm)) q2
    rw [e1]
    exact (poe_flat q (Nat.le_refl 2) rfl (A := fun _ => True) ⟨rfl, rfl⟩ r2.ur).trans (r1.fm.trans r2.fm)
  | .chain op op' a b c, e, e', s, V, F, Q, Z, h, he, fb, ur => by
    rw [evP] at h
    refine e_chain ((simE a e e' s V F _ Z h he fb ur).mono fun w s1 z => ?_)
    obtain ⟨z1, t1, V1, O1, q1, r1⟩ := z
    refine (simE b e e' s1 V1 F _ Z q1 (he.later r1.fm) (fb.up r1.fm) r1.ur).imp (fun u s2 z => ?_) fun _ _ z => z.trans r1.fm
    obtain ⟨z2, t2, V2, O2, q2, r2⟩ := z
    have f2 := r1.fm.trans r2.fm
    obtain ⟨k, e1, q⟩ := cop_dn (Dn.frame r2.fm (fun _ _ h => h) _ _ _ _ (r1.low fb)) (r2.low (fb.up r1.fm)) q2
    obtain ⟨k', e2, q⟩ := toBP_some q
    cases e2
    rw [e1]
    refine ⟨k, rfl, fun hk => ?_, fun hk => ?_⟩
    · rw [if_pos hk] at q
      refine (simE c e e' s2 V2 F _ Z q (he.later f2) (fb.up f2) r2.ur).imp (fun v s3 z => ?_) fun _ _ z => z.trans f2
      obtain ⟨z3, t3, V3, O3, q3, r3⟩ := z
      obtain ⟨k, e1, q⟩ := cop_dn (Dn.frame r3.fm (fun _ _ h => h) _ _ _ _ (r2.low (fb.up r1.fm))) (r3.low (fb.up f2)) q3
      rw [e1]
      exact (poe_flat q (Nat.le_refl 2) rfl (A := fun _ => True) ⟨rfl, rfl⟩ r3.ur).trans (f2.trans r3.fm)
    · rw [if_neg (by rw [hk]; decide)] at q
      exact (poe_flat q (Nat.le_refl 2) rfl (A := fun _ => True) ⟨rfl, rfl⟩ r2.ur).trans f2
  | .and a b, e, e', s, V, F, Q, Z, h, he, fb, ur => by
    rw [evP] at h
    refine e_and ((simE a e e' s V F _ Z h he fb ur).mono fun w s1 z => ?_)
    obtain ⟨z1, t1, V1, O1, q1, r1⟩ := z
    obtain ⟨k, rfl, q⟩ := toBP_some q1
    refine ⟨k, (r1.low fb).1, fun hk => ?_, fun hk => ?_⟩
    · rw [if_pos hk] at q
      exact (simE b e e' s1 V1 F _ Z q (he.later r1.fm) (fb.up r1.fm) r1.ur).imp (fun _ _ z => z.trans r1.fm) fun _ _ z => z.trans r1.fm
    · rw [if_neg (by rw [hk]; decide)] at q
      exact (poe_flat q (Nat.le_refl 2) rfl (A := fun _ => True) ⟨rfl, rfl⟩ r1.ur).trans r1.fm
  | .or a b, e, e', s, V, F, Q, Z, h, he, fb, ur => by
    rw [evP] at h
    refine e_or ((simE a e e' s V F _ Z h he fb ur).mono fun w s1 z => ?_)
    obtain ⟨z1, t1, V1, O1, q1, r1⟩ := z
    obtain ⟨k, rfl, q⟩ := toBP_some q1
    refine ⟨k, (r1.low fb).1, fun hk => ?_, fun hk => ?_⟩
    · rw [if_pos hk] at q
      exact (poe_flat q (Nat.le_refl 2) rfl (A := fun _ => True) ⟨rfl, rfl⟩ r1.ur).trans r1.fm
    · rw [if_neg (by rw [hk]; decide)] at q
      exact (simE b e e' s1 V1 F _ Z q (he.later r1.fm) (fb.up r1.fm) r1.ur).imp (fun _ _ z => z.trans r1.fm) fun _ _ z => z.trans r1.fm
  | .one a, e, e', s, V, F, Q, Z, h, he, fb, ur => by
    rw [evP] at h
    exact e_one (simE a e e' s V F _ Z h he fb ur)
  | .ite c a b, e, e', s, V, F, Q, Z, h, he, fb, ur => by
    rw [evP] at h
    refine e_ite ((simT c e e' s V F _ Z h he fb ur).mono fun k s1 z => ?_)
    obtain ⟨q, V1, f1, ur1⟩ := z
    refine ⟨fun hk => ?_, fun hk => ?_⟩
    · rw [if_pos hk] at q
      exact (simE a e e' s1 V1 F _ Z q (he.later f1) (fb.up f1) ur1).imp (fun _ _ z => z.trans f1) fun _ _ z => z.trans f1
    · rw [if_neg (by rw [hk]; decide)] at q
      exact (simE b e e' s1 V1 F _ Z q (he.later f1) (fb.up f1) ur1).imp (fun _ _ z => z.trans f1) fun _ _ z => z.trans f1
  | .tup as, e, e', s, V, F, Q, Z, h, he, fb, ur => by
    rw [evP] at h
    refine e_tup ((simEs as e e' s V F _ Z h he fb ur).mono fun ws s1 z => ?_)
    obtain ⟨zs, t, V1, O, ⟨hl, q⟩, r⟩ := z
    exact ⟨by rw [← Dns.length r.dn]; exact hl, poe_tup r q⟩
  | .lst as, e, e', s, V, F, Q, Z, h, he, fb, ur => by
    rw [evP] at h
    refine e_lst ((simEs as e e' s V F _ Z h he fb ur).mono fun ws s1 z => ?_)
    obtain ⟨zs, t, V1, O, ⟨hl, q⟩, r⟩ := z
    exact ⟨by rw [← Dns.length r.dn]; exact hl, poe_lst fb r hl q⟩
  | .ix a b, e, e', s, V, F, Q, Z, h, he, fb, ur => by
    rw [evP] at h
    refine e_ix ((simE a e e' s V F _ Z h he fb ur).mono fun w s1 z => ?_)
    obtain ⟨z1, t1, V1, O1, q1, r1⟩ := z
    refine (simE b e e' s1 V1 F _ Z q1 (he.later r1.fm) (fb.up r1.fm) r1.ur).imp (fun u s2 z => ?_) fun _ _ z => z.trans r1.fm
    obtain ⟨z2, t2, V2, O2, q2, r2⟩ := z
    exact (ix_dn (Z := PoX s2 V2 Z) (Dn.frame r2.fm (fun _ _ h => h) _ _ _ _ (r1.low fb)) (r2.low (fb.up r1.fm)) r2.ur q2).imp (fun _ _ z => z.trans (r1.fm.trans r2.fm)) fun _ _ z => z.trans (r1.fm.trans r2.fm)
  | .sl a lo hi, e, e', s, V, F, Q, Z, h, he, fb, ur => by
    rw [evP] at h
    refine e_sl ((simE a e e' s V F _ Z h he fb ur).mono fun w s1 z => ?_)
    obtain ⟨z1, t1, V1, O1, q1, r1⟩ := z
    refine (simO lo e e' s1 V1 F _ Z q1 (he.later r1.fm) (fb.up r1.fm) r1.ur).imp (fun l s2 z => ?_) fun _ _ z => z.trans r1.fm
    obtain ⟨q2, V2, f2, ur2⟩ := z
    refine (simO hi e e' s2 V2 F _ Z q2 (he.later (r1.fm.trans f2)) (fb.up (r1.fm.trans f2)) ur2).imp (fun l s3 z => ?_) fun _ _ z => z.trans (r1.fm.trans f2)
    obtain ⟨q3, V3, f3, ur3⟩ := z
    have ff := r1.fm.trans (f2.trans f3)
    exact (sl_dn (Z := PoX s3 V3 Z) (Dn.frame (f2.trans f3) (fun _ _ h => h) _ _ _ _ (r1.low fb)) (fb.up ff) ur3 q3).imp (fun _ _ z => z.trans ff) fun _ _ z => z.trans ff
  | .rv a, e, e', s, V, F, Q, Z, h, he, fb, ur => by
    rw [evP] at h
    refine e_rv ((simE a e e' s V F _ Z h he fb ur).mono fun w s1 z => ?_)
    obtain ⟨z1, t1, V1, O1, q1, r1⟩ := z
    split at q1
    · obtain ⟨ws, a1, b, l, _⟩ := (r1.low fb).lst
      exact ⟨ws, a1, (poe_new q1 b.reverse (by rw [List.length_reverse]; exact l) (fb.up r1.fm) r1.ur).trans r1.fm⟩
    · exact q1.elim
  | .call x as, e, e', s, V, F, Q, Z, h, he, fb, ur => by
    rw [evP] at h
    refine e_call ((simEa as e e' s V s V F [] [] [] (fun _ => []) _ Z h (iv_nil fb ur) he rfl).mono fun ws s1 z => ?_)
    obtain ⟨zs, ts, V1, OS, q, I⟩ := z
    exact hG.call x zs ws ts s s1 V V1 F OS Q Z q I
  | .callv i as, e, e', s, V, F, Q, Z, h, he, fb, ur => by
    rw [evP] at h
    obtain ⟨v, hv, q⟩ := slot_some h
    obtain ⟨w, a, b⟩ := he.at_ i v hv
    split at q
    · rename_i x
      have b1 := b.1
      rw [if_neg q.1] at b1
      subst b1
      refine e_callv a (by rw [← hG.df]; exact q.2.1) ((simEa as e e' s V s V F [] [] [] (fun _ => []) _ Z q.2.2 (iv_nil fb ur) he rfl).mono fun ws s1 z => ?_)
      obtain ⟨zs, ts, V1, OS, q, I⟩ := z
      exact hG.call x zs ws ts s s1 V V1 F OS Q Z q I
    · exact q.elim
  | .bi f as, e, e', s, V, F, Q, Z, h, he, fb, ur => by
    rw [evP] at h
    refine e_bi ((simEs as e e' s V F _ Z h he fb ur).mono fun ws s1 z => ?_)
    obtain ⟨zs, t, V1, O, q, r⟩ := z
    exact (bi_dn (Z := PoX s1 V1 Z) (r.low fb) (fb.up r.fm) r.ur q).imp (fun _ _ z => z.trans r.fm) fun _ _ z => z.trans r.fm
  | .isi a ty, e, e', s, V, F, Q, Z, h, he, fb, ur => by
    rw [evP] at h
    refine e_isi ((simE a e e' s V F _ Z h he fb ur).mono fun w s1 z => ?_)
    obtain ⟨z1, t1, V1, O1, q1, r1⟩ := z
    obtain ⟨b, hb, q⟩ := ofO_some q1
    exact ⟨b, isi_dn (r1.low fb) hb, (poe_flat q (Nat.le_refl 2) rfl (A := fun _ => True) ⟨rfl, rfl⟩ r1.ur).trans r1.fm⟩
  | .comp own tg k as cond elt, e, e', s, V, F, Q, Z, h, he, fb, ur => by
    rw [evP] at h
    refine e_comp ((simEs as e e' s V F _ Z h he fb ur).mono fun ws s1 z => ?_)
    obtain ⟨zs, t, V1, O, q, r⟩ := z
    obtain ⟨xs, hx, q⟩ := ofO_some q
    obtain ⟨src, h1, h2⟩ := src_dn (r.low fb) hx
    refine ⟨src, h1, ?_⟩
    refine (simComp hG (Z' := PoX s V Z) (fun e e' s V F Q h he fb ur => (simT cond e e' s V F Q _ h he fb ur).imp (fun _ _ z => z) fun _ _ z => z.1) (fun e e' s V F Q h he fb ur => (simE elt e e' s V F Q _ h he fb ur).imp (fun _ _ z => z) fun _ _ z => z.1)
      (he.later r.fm) (fb.up r.fm) h2 big 0 [] [] 2 s1 V1 [] (by have := h2.few; omega) (Nat.zero_le _) ⟨.refl, ⟨rfl, rfl⟩, List.nodup_nil, (fun _ h => nomatch h), r.ur, by decide⟩ (Nat.zero_le _) (by rw [List.drop_zero]; exact q)).mono fun accw s2 z => ?_
    obtain ⟨acc, t2, V2, O2, r2, hl, q⟩ := z
    exact (poe_lst (fb.up r.fm) r2 hl q).trans r.fm
  | .mt _ _ _, e, e', s, V, F, Q, Z, h, he, fb, ur => by
    rw [evP] at h
    · exact h.elim
    all_goals (intros; rename_i z; cases z)
  | .nil, e, e', s, V, F, Q, Z, h, he, fb, ur => by
    rw [evP] at h
    · exact h.elim
    all_goals (intros; rename_i z; cases z)
  | .cons _ _, e, e', s, V, F, Q, Z, h, he, fb, ur => by
    rw [evP] at h
    · exact h.elim
    all_goals (intros; rename_i z; cases z)
theorem simEs : ∀ (a : E) (e e' : Sl) (s : Sto) (V F : Nat → Prop) (Q : List W → Nat → Prop) (Z : KZ), evsP g a e Q Z → EnvR s V F e e' → Fb s F → Ur s V → (evs G a e' s).wp (PoEs s V F Q) (PoX s V Z)
  | .nil, e, e', s, V, F, Q, Z, h, he, fb, ur => by
    rw [evsP] at h
    exact es_nil ⟨[], 2, V, [], h, .refl, ⟨rfl, rfl⟩, List.nodup_nil, (fun _ h => nomatch h), ur, by decide⟩
  | .cons a as, e, e', s, V, F, Q, Z, h, he, fb, ur => by
    rw [evsP] at h
    refine es_cons ((simE a e e' s V F _ Z h he fb ur).mono fun w s1 z => ?_)
    obtain ⟨z1, t1, V1, O1, q1, r1⟩ := z
    refine (simEs as e e' s1 V1 (fun n => F n ∨ n ∈ O1) _ Z q1 (he.with r1.fm r1.ge) (fb.with r1) r1.ur).imp (fun ws s2 z => ?_) fun _ _ z => z.trans r1.fm
    obtain ⟨zs, t2, V2, O2, q2, r2⟩ := z
    obtain ⟨O, r⟩ := RESs.cons fb r1 r2
    exact ⟨_, _, V2, O, q2, r⟩
  | .var _, _, _, _, _, _, _, _, h, _, _, _ => by rw [evsP] at h; exact h.elim; all_goals (intros; rename_i z; cases z)
  | .con _, _, _, _, _, _, _, _, h, _, _, _ => by rw [evsP] at h; exact h.elim; all_goals (intros; rename_i z; cases z)
  | .fref _, _, _, _, _, _, _, _, h, _, _, _ => by rw [evsP] at h; exact h.elim; all_goals (intros; rename_i z; cases z)
  | .int _, _, _, _, _, _, _, _, h, _, _, _ => by rw [evsP] at h; exact h.elim; all_goals (intros; rename_i z; cases z)
  | .bl _, _, _, _, _, _, _, _, h, _, _, _ => by rw [evsP] at h; exact h.elim; all_goals (intros; rename_i z; cases z)
  | .non, _, _, _, _, _, _, _, h, _, _, _ => by rw [evsP] at h; exact h.elim; all_goals (intros; rename_i z; cases z)
  | .str _, _, _, _, _, _, _, _, h, _, _, _ => by rw [evsP] at h; exact h.elim; all_goals (intros; rename_i z; cases z)
  | .bin _ _ _, _, _, _, _, _, _, _, h, _, _, _ => by rw [evsP] at h; exact h.elim; all_goals (intros; rename_i z; cases z)
  | .neg _, _, _, _, _, _, _, _, h, _, _, _ => by rw [evsP] at h; exact h.elim; all_goals (intros; rename_i z; cases z)
  | .no _, _, _, _, _, _, _, _, h, _, _, _ => by rw [evsP] at h; exact h.elim; all_goals (intros; rename_i z; cases z)
  | .cmp _ _ _, _, _, _, _, _, _, _, h, _, _, _ => by rw [evsP] at h; exact h.elim; all_goals (intros; rename_i z; cases z)
  | .chain _ _ _ _ _, _, _, _, _, _, _, _, h, _, _, _ => by rw [evsP] at h; exact h.elim; all_goals (intros; rename_i z; cases z)
  | .and _ _, _, _, _, _, _, _, _, h, _, _, _ => by rw [evsP] at h; exact h.elim; all_goals (intros; rename_i z; cases z)
  | .or _ _, _, _, _, _, _, _, _, h, _, _, _ => by rw [evsP] at h; exact h.elim; all_goals (intros; rename_i z; cases z)
  | .one _, _, _, _, _, _, _, _, h, _, _, _ => by rw [evsP] at h; exact h.elim; all_goals (intros; rename_i z; cases z)
  | .ite _ _ _, _, _, _, _, _, _, _, h, _, _, _ => by rw [evsP] at h; exact h.elim; all_goals (intros; rename_i z; cases z)
  | .tup _, _, _, _, _, _, _, _, h, _, _, _ => by rw [evsP] at h; exact h.elim; all_goals (intros; rename_i z; cases z)
  | .lst _, _, _, _, _, _, _, _, h, _, _, _ => by rw [evsP] at h; exact h.elim; all_goals (intros; rename_i z; cases z)
  | .ix _ _, _, _, _, _, _, _, _, h, _, _, _ => by rw [evsP] at h; exact h.elim; all_goals (intros; rename_i z; cases z)
  | .sl _ _ _, _, _, _, _, _, _, _, h, _, _, _ => by rw [evsP] at h; exact h.elim; all_goals (intros; rename_i z; cases z)
  | .rv _, _, _, _, _, _, _, _, h, _, _, _ => by rw [evsP] at h; exact h.elim; all_goals (intros; rename_i z; cases z)
  | .call _ _, _, _, _, _, _, _, _, h, _, _, _ => by rw [evsP] at h; exact h.elim; all_goals (intros; rename_i z; cases z)
  | .callv _ _, _, _, _, _, _, _, _, h, _, _, _ => by rw [evsP] at h; exact h.elim; all_goals (intros; rename_i z; cases z)
  | .bi _ _, _, _, _, _, _, _, _, h, _, _, _ => by rw [evsP] at h; exact h.elim; all_goals (intros; rename_i z; cases z)
  | .mt _ _ _, _, _, _, _, _, _, _, h, _, _, _ => by rw [evsP] at h; exact h.elim; all_goals (intros; rename_i z; cases z)
  | .isi _ _, _, _, _, _, _, _, _, h, _, _, _ => by rw [evsP] at h; exact h.elim; all_goals (intros; rename_i z; cases z)
  | .comp _ _ _ _ _ _, _, _, _, _, _, _, _, h, _, _, _ => by rw [evsP] at h; exact h.elim; all_goals (intros; rename_i z; cases z)
theorem simEa : ∀ (a : E) (e e' : Sl) (s0 : Sto) (V0 : Nat → Prop) (s : Sto) (V F : Nat → Prop) (pre preW : List W) (tp : List Nat) (OS : Nat → List Nat) (Q : List W → List Nat → Prop) (Z : KZ), evaP g a e Q Z → Iv s0 V0 F s V (pre.map some) (fun i => tp.getD i 0) (preW.map some) OS → EnvR s0 V0 F e e' → tp.length = pre.length →
    (evs G a e' s).wp (fun ws s1 => ∃ zs ts V1 OS1, Q zs ts ∧ Iv s0 V0 F s1 V1 ((pre ++ zs).map some) (fun i => (tp ++ ts).getD i 0) ((preW ++ ws).map some) OS1) (PoX s0 V0 Z)
  | .nil, e, e', s0, V0, s, V, F, pre, preW, tp, OS, Q, Z, h, I, he, hl => by
    rw [evaP] at h
    exact es_nil ⟨[], [], V, OS, h, by simpa using I⟩
  | .cons a as, e, e', s0, V0, s, V, F, pre, preW, tp, OS, Q, Z, h, I, he, hl => by
    rw [evaP] at h
    have he1 : EnvR s V (fun n => F n ∨ ∃ j, n ∈ OS j) e e' := he.frame I.fm fun n hn h z => by
      rcases z with z | ⟨j, z⟩
      · exact h z
      · have := I.ge j n z
        omega
    have fb1 : Fb s (fun n => F n ∨ ∃ j, n ∈ OS j) := fun n h => by
      rcases h with h | ⟨j, h⟩
      · exact Nat.lt_of_lt_of_le (I.fb n h) I.fm.len
      · exact (I.lt h).1
    refine es_cons ((simE a e e' s V _ _ Z h he1 fb1 I.ur).imp (fun w s1 z => ?_) fun _ _ z => z.trans I.fm)
    obtain ⟨z1, t1, V1, O1, q1, r1⟩ := z
    have I1 := I.push r1.fm r1.ur (z := z1) (w := w) (t := t1) (O := O1) (Dn.frame .refl (fun n _ h => ⟨fun z => h.1 (.inl z), fun j z => h.1 (.inr ⟨j, z⟩), h.2⟩) _ _ _ _ r1.dn) r1.nd r1.ge r1.t2
    have I2 := I1.tags (τ' := fun i => (tp ++ [t1]).getD i 0) fun i => by
      show (tp ++ [t1]).getD i 0 = if i = (pre.map some).length then t1 else tp.getD i 0
      rw [List.length_map, ← hl]
      simp only [List.getD_eq_getElem?_getD]
      by_cases h : i = tp.length
      · subst h
        rw [if_pos rfl, List.getElem?_append_right (Nat.le_refl _), Nat.sub_self]
        rfl
      · rw [if_neg h]
        by_cases h2 : i < tp.length
        · rw [List.getElem?_append_left h2]
        · rw [List.getElem?_eq_none (by rw [List.length_append, List.length_singleton]; omega), List.getElem?_eq_none (by omega)]
    have e1 : pre.map some ++ [some z1] = (pre ++ [z1]).map some := by simp
    have e2 : preW.map some ++ [some w] = (preW ++ [w]).map some := by simp
    rw [e1, e2] at I2
    refine (simEa as e e' s0 V0 s1 V1 F (pre ++ [z1]) (preW ++ [w]) (tp ++ [t1]) _ _ Z q1 I2 he (by simp [hl])).mono fun ws s2 z => ?_
    obtain ⟨zs, ts, V2, OS2, q2, I3⟩ := z
    exact ⟨z1 :: zs, t1 :: ts, V2, OS2, q2, by simpa [List.append_assoc] using I3⟩
  | .var _, _, _, _, _, _, _, _, _, _, _, _, _, _, h, _, _, _ => by rw [evaP] at h; exact h.elim; all_goals (intros; rename_i z; cases z)
  | .con _, _, _, _, _, _, _, _, _, _, _, _, _, _, h, _, _, _ => by rw [evaP] at h; exact h.elim; all_goals (intros; rename_i z; cases z)
  | .fref _, _, _, _, _, _, _, _, _, _, _, _, _, _, h, _, _, _ => by rw [evaP] at h; exact h.elim; all_goals (intros; rename_i z; cases z)
  | .int _, _, _, _, _, _, _, _, _, _, _, _, _, _, h, _, _, _ => by rw [evaP] at h; exact h.elim; all_goals (intros; rename_i z; cases z)
  | .bl _, _, _, _, _, _, _, _, _, _, _, _, _, _, h, _, _, _ => by rw [evaP] at h; exact h.elim; all_goals (intros; rename_i z; cases z)
  | .non, _, _, _, _, _, _, _, _, _, _, _, _, _, h, _, _, _ => by rw [evaP] at h; exact h.elim; all_goals (intros; rename_i z; cases z)
  | .str _, _, _, _, _, _, _, _, _, _, _, _, _, _, h, _, _, _ => by rw [evaP] at h; exact h.elim; all_goals (intros; rename_i z; cases z)
  | .bin _ _ _, _, _, _, _, _, _, _, _, _, _, _, _, _, h, _, _, _ => by rw [evaP] at h; exact h.elim; all_goals (intros; rename_i z; cases z)
  | .neg _, _, _, _, _, _, _, _, _, _, _, _, _, _, h, _, _, _ => by rw [evaP] at h; exact h.elim; all_goals (intros; rename_i z; cases z)
  | .no _, _, _, _, _, _, _, _, _, _, _, _, _, _, h, _, _, _ => by rw [evaP] at h; exact h.elim; all_goals (intros; rename_i z; cases z)
  | .cmp _ _ _, _, _, _, _, _, _, _, _, _, _, _, _, _, h, _, _, _ => by rw [evaP] at h; exact h.elim; all_goals (intros; rename_i z; cases z)
  | .chain _ _ _ _ _, _, _, _, _, _, _, _, _, _, _, _, _, _, h, _, _, _ => by rw [evaP] at h; exact h.elim; all_goals (intros; rename_i z; cases z)
  | .and _ _, _, _, _, _, _, _, _, _, _, _, _, _, _, h, _, _, _ => by rw [evaP] at h; exact h.elim; all_goals (intros; rename_i z; cases z)
  | .or _ _, _, _, _, _, _, _, _, _, _, _, _, _, _, h, _, _, _ => by rw [evaP] at h; exact h.elim; all_goals (intros; rename_i z; cases z)
  | .one _, _, _, _, _, _, _, _, _, _, _, _, _, _, h, _, _, _ => by rw [evaP] at h; exact h.elim; all_goals (intros; rename_i z; cases z)
  | .ite _ _ _, _, _, _, _, _, _, _, _, _, _, _, _, _, h, _, _, _ => by rw [evaP] at h; exact h.elim; all_goals (intros; rename_i z; cases z)
  | .tup _, _, _, _, _, _, _, _, _, _, _, _, _, _, h, _, _, _ => by rw [evaP] at h; exact h.elim; all_goals (intros; rename_i z; cases z)
  | .lst _, _, _, _, _, _, _, _, _, _, _, _, _, _, h, _, _, _ => by rw [evaP] at h; exact h.elim; all_goals (intros; rename_i z; cases z)
  | .ix _ _, _, _, _, _, _, _, _, _, _, _, _, _, _, h, _, _, _ => by rw [evaP] at h; exact h.elim; all_goals (intros; rename_i z; cases z)
  | .sl _ _ _, _, _, _, _, _, _, _, _, _, _, _, _, _, h, _, _, _ => by rw [evaP] at h; exact h.elim; all_goals (intros; rename_i z; cases z)
  | .rv _, _, _, _, _, _, _, _, _, _, _, _, _, _, h, _, _, _ => by rw [evaP] at h; exact h.elim; all_goals (intros; rename_i z; cases z)
  | .call _ _, _, _, _, _, _, _, _, _, _, _, _, _, _, h, _, _, _ => by rw [evaP] at h; exact h.elim; all_goals (intros; rename_i z; cases z)
  | .callv _ _, _, _, _, _, _, _, _, _, _, _, _, _, _, h, _, _, _ => by rw [evaP] at h; exact h.elim; all_goals (intros; rename_i z; cases z)
  | .bi _ _, _, _, _, _, _, _, _, _, _, _, _, _, _, h, _, _, _ => by rw [evaP] at h; exact h.elim; all_goals (intros; rename_i z; cases z)
  | .mt _ _ _, _, _, _, _, _, _, _, _, _, _, _, _, _, h, _, _, _ => by rw [evaP] at h; exact h.elim; all_goals (intros; rename_i z; cases z)
  | .isi _ _, _, _, _, _, _, _, _, _, _, _, _, _, _, h, _, _, _ => by rw [evaP] at h; exact h.elim; all_goals (intros; rename_i z; cases z)
  | .comp _ _ _ _ _ _, _, _, _, _, _, _, _, _, _, _, _, _, _, h, _, _, _ => by rw [evaP] at h; exact h.elim; all_goals (intros; rename_i z; cases z)
theorem simO : ∀ (a : E) (e e' : Sl) (s : Sto) (V F : Nat → Prop) (Q : Option Int → Prop) (Z : KZ), evOP g a e Q Z → EnvR s V F e e' → Fb s F → Ur s V → (evO G a e' s).wp (PoA s V Q) (PoX s V Z)
  | .nil, e, e', s, V, F, Q, Z, h, he, fb, ur => by
    rw [evOP] at h
    exact eo_nil ⟨h, V, .refl, ur⟩
  | .one a, e, e', s, V, F, Q, Z, h, he, fb, ur => by
    rw [evOP] at h
    refine eo_one ((simE a e e' s V F _ Z h he fb ur).mono fun w s1 z => ?_)
    obtain ⟨z1, t1, V1, O1, q1, r1⟩ := z
    obtain ⟨i, rfl, q⟩ := toIP_some q1
    exact ⟨i, (r1.low fb).1, q, V1, r1.fm, r1.ur⟩
  | .var _, _, _, _, _, _, _, _, h, _, _, _ => by rw [evOP] at h; exact h.elim; all_goals (intros; rename_i z; cases z)
  | .con _, _, _, _, _, _, _, _, h, _, _, _ => by rw [evOP] at h; exact h.elim; all_goals (intros; rename_i z; cases z)
  | .fref _, _, _, _, _, _, _, _, h, _, _, _ => by rw [evOP] at h; exact h.elim; all_goals (intros; rename_i z; cases z)
  | .int _, _, _, _, _, _, _, _, h, _, _, _ => by rw [evOP] at h; exact h.elim; all_goals (intros; rename_i z; cases z)
  | .bl _, _, _, _, _, _, _, _, h, _, _, _ => by rw [evOP] at h; exact h.elim; all_goals (intros; rename_i z; cases z)
  | .non, _, _, _, _, _, _, _, h, _, _, _ => by rw [evOP] at h; exact h.elim; all_goals (intros; rename_i z; cases z)
  | .str _, _, _, _, _, _, _, _, h, _, _, _ => by rw [evOP] at h; exact h.elim; all_goals (intros; rename_i z; cases z)
  | .bin _ _ _, _, _, _, _, _, _, _, h, _, _, _ => by rw [evOP] at h; exact h.elim; all_goals (intros; rename_i z; cases z)
  | .neg _, _, _, _, _, _, _, _, h, _, _, _ => by rw [evOP] at h; exact h.elim; all_goals (intros; rename_i z; cases z)
  | .no _, _, _, _, _, _, _, _, h, _, _, _ => by rw [evOP] at h; exact h.elim; all_goals (intros; rename_i z; cases z)
  | .cmp _ _ _, _, _, _, _, _, _, _, h, _, _, _ => by rw [evOP] at h; exact h.elim; all_goals (intros; rename_i z; cases z)
  | .chain _ _ _ _ _, _, _, _, _, _, _, _, h, _, _, _ => by rw [evOP] at h; exact h.elim; all_goals (intros; rename_i z; cases z)
  | .and _ _, _, _, _, _, _, _, _, h, _, _, _ => by rw [evOP] at h; exact h.elim; all_goals (intros; rename_i z; cases z)
  | .or _ _, _, _, _, _, _, _, _, h, _, _, _ => by rw [evOP] at h; exact h.elim; all_goals (intros; rename_i z; cases z)
  | .ite _ _ _, _, _, _, _, _, _, _, h, _, _, _ => by rw [evOP] at h; exact h.elim; all_goals (intros; rename_i z; cases z)
  | .tup _, _, _, _, _, _, _, _, h, _, _, _ => by rw [evOP] at h; exact h.elim; all_goals (intros; rename_i z; cases z)
  | .lst _, _, _, _, _, _, _, _, h, _, _, _ => by rw [evOP] at h; exact h.elim; all_goals (intros; rename_i z; cases z)
  | .ix _ _, _, _, _, _, _, _, _, h, _, _, _ => by rw [evOP] at h; exact h.elim; all_goals (intros; rename_i z; cases z)
  | .sl _ _ _, _, _, _, _, _, _, _, h, _, _, _ => by rw [evOP] at h; exact h.elim; all_goals (intros; rename_i z; cases z)
  | .rv _, _, _, _, _, _, _, _, h, _, _, _ => by rw [evOP] at h; exact h.elim; all_goals (intros; rename_i z; cases z)
  | .call _ _, _, _, _, _, _, _, _, h, _, _, _ => by rw [evOP] at h; exact h.elim; all_goals (intros; rename_i z; cases z)
  | .callv _ _, _, _, _, _, _, _, _, h, _, _, _ => by rw [evOP] at h; exact h.elim; all_goals (intros; rename_i z; cases z)
  | .bi _ _, _, _, _, _, _, _, _, h, _, _, _ => by rw [evOP] at h; exact h.elim; all_goals (intros; rename_i z; cases z)
  | .mt _ _ _, _, _, _, _, _, _, _, h, _, _, _ => by rw [evOP] at h; exact h.elim; all_goals (intros; rename_i z; cases z)
  | .isi _ _, _, _, _, _, _, _, _, h, _, _, _ => by rw [evOP] at h; exact h.elim; all_goals (intros; rename_i z; cases z)
  | .comp _ _ _ _ _ _, _, _, _, _, _, _, _, h, _, _, _ => by rw [evOP] at h; exact h.elim; all_goals (intros; rename_i z; cases z)
  | .cons _ _, _, _, _, _, _, _, _, h, _, _, _ => by rw [evOP] at h; exact h.elim; all_goals (intros; rename_i z; cases z)
theorem simT : ∀ (a : E) (e e' : Sl) (s : Sto) (V F : Nat → Prop) (Q : Bool → Prop) (Z : KZ), evTP g a e Q Z → EnvR s V F e e' → Fb s F → Ur s V → (evT G a e' s).wp (PoA s V Q) (PoX s V Z)
  | .and a b, e, e', s, V, F, Q, Z, h, he, fb, ur => by
    rw [evTP] at h
    refine t_and ((simT a e e' s V F _ Z h he fb ur).mono fun k s1 z => ?_)
    obtain ⟨q, V1, f1, ur1⟩ := z
    refine ⟨fun hk => ?_, fun hk => ?_⟩
    · rw [if_pos hk] at q
      exact (simT b e e' s1 V1 F _ Z q (he.later f1) (fb.up f1) ur1).imp (fun _ _ z => z.trans f1) fun _ _ z => z.trans f1
    · rw [if_neg (by rw [hk]; decide)] at q
      exact ⟨q, V1, f1, ur1⟩
  | .or a b, e, e', s, V, F, Q, Z, h, he, fb, ur => by
    rw [evTP] at h
    refine t_or ((simT a e e' s V F _ Z h he fb ur).mono fun k s1 z => ?_)
    obtain ⟨q, V1, f1, ur1⟩ := z
    refine ⟨fun hk => ?_, fun hk => ?_⟩
    · rw [if_pos hk] at q
      exact ⟨q, V1, f1, ur1⟩
    · rw [if_neg (by rw [hk]; decide)] at q
      exact (simT b e e' s1 V1 F _ Z q (he.later f1) (fb.up f1) ur1).imp (fun _ _ z => z.trans f1) fun _ _ z => z.trans f1
  | .no a, e, e', s, V, F, Q, Z, h, he, fb, ur => by
    rw [evTP] at h
    exact t_no ((simT a e e' s V F _ Z h he fb ur).mono fun k s1 z => z)
  | .one a, e, e', s, V, F, Q, Z, h, he, fb, ur => by
    rw [evTP] at h
    exact t_one (simT a e e' s V F _ Z h he fb ur)
  | .nil, e, e', s, V, F, Q, Z, h, he, fb, ur => by
    rw [evTP] at h
    exact t_nil ⟨h, V, .refl, ur⟩
  | .cmp op a b, e, e', s, V, F, Q, Z, h, he, fb, ur => by
    rw [evTP] at h
    refine t_cmp ((simE a e e' s V F _ Z h he fb ur).mono fun w s1 z => ?_)
    obtain ⟨z1, t1, V1, O1, q1, r1⟩ := z
    refine (simE b e e' s1 V1 F _ Z q1 (he.later r1.fm) (fb.up r1.fm) r1.ur).imp (fun u s2 z => ?_) fun _ _ z => z.trans r1.fm
    obtain ⟨z2, t2, V2, O2, q2, r2⟩ := z
    obtain ⟨k, e1, q⟩ := cop_dn (Dn.frame r2.fm (fun _ _ h => h) _ _ _ _ (r1.low fb)) (r2.low (fb.up r1.fm)) q2
    obtain ⟨k', e2, q⟩ := toBP_some q
    cases e2
    rw [e1]
    exact ⟨k, rfl, q, V2, r1.fm.trans r2.fm, r2.ur⟩
  | .chain op op' a b c, e, e', s, V, F, Q, Z, h, he, fb, ur => by
    rw [evTP] at h
    refine t_chain ((simE a e e' s V F _ Z h he fb ur).mono fun w s1 z => ?_)
    obtain ⟨z1, t1, V1, O1, q1, r1⟩ := z
    refine (simE b e e' s1 V1 F _ Z q1 (he.later r1.fm) (fb.up r1.fm) r1.ur).imp (fun u s2 z => ?_) fun _ _ z => z.trans r1.fm
    obtain ⟨z2, t2, V2, O2, q2, r2⟩ := z
    have f2 := r1.fm.trans r2.fm
    obtain ⟨k, e1, q⟩ := cop_dn (Dn.frame r2.fm (fun _ _ h => h) _ _ _ _ (r1.low fb)) (r2.low (fb.up r1.fm)) q2
    obtain ⟨k', e2, q⟩ := toBP_some q
    cases e2
    rw [e1]
    refine ⟨k, rfl, fun hk => ?_, fun hk => ?_⟩
    · rw [if_pos hk] at q
      refine (simE c e e' s2 V2 F _ Z q (he.later f2) (fb.up f2) r2.ur).imp (fun v s3 z => ?_) fun _ _ z => z.trans f2
      obtain ⟨z3, t3, V3, O3, q3, r3⟩ := z
      obtain ⟨k, e1, q⟩ := cop_dn (Dn.frame r3.fm (fun _ _ h => h) _ _ _ _ (r2.low (fb.up r1.fm))) (r3.low (fb.up f2)) q3
      obtain ⟨k', e2, q⟩ := toBP_some q
      cases e2
      rw [e1]
      exact ⟨k, rfl, q, V3, f2.trans r3.fm, r3.ur⟩
    · rw [if_neg (by rw [hk]; decide)] at q
      exact ⟨q, V2, f2, r2.ur⟩
  | .var i, e, e', s, V, F, Q, Z, h, he, fb, ur => by
    rw [evTP] at h
    obtain ⟨v, hv, q⟩ := slot_some h
    obtain ⟨w, a, b⟩ := he.at_ i v hv
    obtain ⟨k, hk, q⟩ := ofO_some q
    exact t_var a (tru_dn b hk) ⟨q, V, .refl, ur⟩
  | .call x as, e, e', s, V, F, Q, Z, h, he, fb, ur => by
    rw [evTP] at h
    refine t_call ((simEa as e e' s V s V F [] [] [] (fun _ => []) _ Z h (iv_nil fb ur) he rfl).mono fun ws s1 z => ?_)
    obtain ⟨zs, ts, V1, OS, q, I⟩ := z
    refine (hG.call x zs ws ts s s1 V V1 F OS _ Z q I).imp (fun w s2 z => ?_) fun _ _ z => z
    obtain ⟨z2, t2, V2, O2, q2, r2⟩ := z
    obtain ⟨k, hk, q⟩ := ofO_some q2
    exact ⟨k, tru_dn (r2.low fb) hk, q, V2, r2.fm, r2.ur⟩
  | .bi f as, e, e', s, V, F, Q, Z, h, he, fb, ur => by
    rw [evTP] at h
    refine t_bi ((simEs as e e' s V F _ Z h he fb ur).mono fun ws s1 z => ?_)
    obtain ⟨zs, t, V1, O, q, r⟩ := z
    refine (bi_dn (Z := PoX s1 V1 Z) (r.low fb) (fb.up r.fm) r.ur q).imp (fun w s2 z => ?_) fun _ _ z => z.trans r.fm
    obtain ⟨z2, t2, V2, O2, q2, r2⟩ := z
    obtain ⟨k, hk, q⟩ := ofO_some q2
    exact ⟨k, tru_dn (r2.low (fb.up r.fm)) hk, q, V2, r.fm.trans r2.fm, r2.ur⟩
  | .isi a ty, e, e', s, V, F, Q, Z, h, he, fb, ur => by
    rw [evTP] at h
    refine t_isi ((simE a e e' s V F _ Z h he fb ur).mono fun w s1 z => ?_)
    obtain ⟨z1, t1, V1, O1, q1, r1⟩ := z
    obtain ⟨b, hb, q⟩ := ofO_some q1
    exact ⟨b, isi_dn (r1.low fb) hb, q, V1, r1.fm, r1.ur⟩
  | .con _, _, _, _, _, _, _, _, h, _, _, _ => by rw [evTP] at h; exact h.elim; all_goals (intros; rename_i z; cases z)
  | .fref _, _, _, _, _, _, _, _, h, _, _, _ => by rw [evTP] at h; exact h.elim; all_goals (intros; rename_i z; cases z)
  | .int _, _, _, _, _, _, _, _, h, _, _, _ => by rw [evTP] at h; exact h.elim; all_goals (intros; rename_i z; cases z)
  | .bl _, _, _, _, _, _, _, _, h, _, _, _ => by rw [evTP] at h; exact h.elim; all_goals (intros; rename_i z; cases z)
  | .non, _, _, _, _, _, _, _, h, _, _, _ => by rw [evTP] at h; exact h.elim; all_goals (intros; rename_i z; cases z)
  | .str _, _, _, _, _, _, _, _, h, _, _, _ => by rw [evTP] at h; exact h.elim; all_goals (intros; rename_i z; cases z)
  | .bin _ _ _, _, _, _, _, _, _, _, h, _, _, _ => by rw [evTP] at h; exact h.elim; all_goals (intros; rename_i z; cases z)
  | .neg _, _, _, _, _, _, _, _, h, _, _, _ => by rw [evTP] at h; exact h.elim; all_goals (intros; rename_i z; cases z)
  | .ite _ _ _, _, _, _, _, _, _, _, h, _, _, _ => by rw [evTP] at h; exact h.elim; all_goals (intros; rename_i z; cases z)
  | .tup _, _, _, _, _, _, _, _, h, _, _, _ => by rw [evTP] at h; exact h.elim; all_goals (intros; rename_i z; cases z)
  | .lst _, _, _, _, _, _, _, _, h, _, _, _ => by rw [evTP] at h; exact h.elim; all_goals (intros; rename_i z; cases z)
  | .ix _ _, _, _, _, _, _, _, _, h, _, _, _ => by rw [evTP] at h; exact h.elim; all_goals (intros; rename_i z; cases z)
  | .sl _ _ _, _, _, _, _, _, _, _, h, _, _, _ => by rw [evTP] at h; exact h.elim; all_goals (intros; rename_i z; cases z)
  | .rv _, _, _, _, _, _, _, _, h, _, _, _ => by rw [evTP] at h; exact h.elim; all_goals (intros; rename_i z; cases z)
  | .callv _ _, _, _, _, _, _, _, _, h, _, _, _ => by rw [evTP] at h; exact h.elim; all_goals (intros; rename_i z; cases z)
  | .mt _ _ _, _, _, _, _, _, _, _, h, _, _, _ => by rw [evTP] at h; exact h.elim; all_goals (intros; rename_i z; cases z)
  | .comp _ _ _ _ _ _, _, _, _, _, _, _, _, h, _, _, _ => by rw [evTP] at h; exact h.elim; all_goals (intros; rename_i z; cases z)
  | .cons _ _, _, _, _, _, _, _, _, h, _, _, _ => by rw [evTP] at h; exact h.elim; all_goals (intros; rename_i z; cases z)
end
end
end Pq

namespace Pq
open PySem Py Pl
structure Sx (s : Sto) (V : Nat → Prop) (OS : Nat → List Nat) (s1 : Sto) (V1 : Nat → Prop) (OS1 : Nat → List Nat) : Prop where
  fx : Fx s V (fun n => ∃ j, n ∈ OS j) s1 V1
  gr : ∀ j n, n ∈ OS1 j → (∃ j', n ∈ OS j') ∨ s.length ≤ n
theorem Sx.refl {s : Sto} {V : Nat → Prop} {OS OS1 : Nat → List Nat} (h : ∀ j n, n ∈ OS1 j → ∃ j', n ∈ OS j') : Sx s V OS s V OS1 := ⟨Fm.x .refl, fun j n hn => .inl (h j n hn)⟩
theorem Sx.trans {s s1 s2 : Sto} {V V1 V2 : Nat → Prop} {OS OS1 OS2 : Nat → List Nat} (a : Sx s V OS s1 V1 OS1) (b : Sx s1 V1 OS1 s2 V2 OS2) : Sx s V OS s2 V2 OS2 := by
  refine ⟨⟨Nat.le_trans a.fx.len b.fx.len, fun n ws hn hx h => b.fx.get n ws (fun z => hn (a.fx.dn n (lt_of h) z)) (fun z => ?_) (a.fx.get n ws hn hx h), fun n h => b.fx.up n (a.fx.up n h), fun n hl h => a.fx.dn n hl (b.fx.dn n (Nat.lt_of_lt_of_le hl a.fx.len) h)⟩, fun j n hn => ?_⟩
  · obtain ⟨j, hj⟩ := z
    rcases a.gr j n hj with z | z
    · exact hx z
    · have := lt_of h
      omega
  · rcases b.gr j n hn with ⟨j', z⟩ | z
    · exact a.gr j' n z
    · exact .inr (Nat.le_trans a.fx.len z)
theorem Sx.of {s s1 : Sto} {V V1 : Nat → Prop} {OS OS1 : Nat → List Nat} (f : Fm s V s1 V1) (h : ∀ j n, n ∈ OS1 j → (∃ j', n ∈ OS j') ∨ s.length ≤ n) : Sx s V OS s1 V1 OS1 := ⟨f.x, h⟩
section
variable {s0 s s1 : Sto} {V0 F V V1 : Nat → Prop} {e x e' x' : Sl} {τ : Nat → Nat} {OS : Nat → List Nat}
theorem EnvR.pre (h : EnvR s V F (e ++ x) (e' ++ x')) (hl : e.length = e'.length) : EnvR s V F e e' :=
  ⟨hl, fun i v hv => by
    have hi := (List.getElem?_eq_some_iff.mp hv).1
    obtain ⟨w, a, b⟩ := h.at_ i v (by rw [List.getElem?_append_left hi]; exact hv)
    rw [List.getElem?_append_left (by rw [← hl]; exact hi)] at a
    exact ⟨w, a, b⟩⟩
theorem Iv.envT (I : Iv s0 V0 F s V (e ++ x) τ (e' ++ x') OS) (hl : e.length = e'.length) : EnvR s V (fun n => F n ∨ ∃ j, e.length ≤ j ∧ n ∈ OS j) e e' :=
  ⟨hl, fun i v hv => by
    have hi := (List.getElem?_eq_some_iff.mp hv).1
    obtain ⟨w, a, b⟩ := I.at_ i v (by rw [List.getElem?_append_left hi]; exact hv)
    rw [List.getElem?_append_left (by rw [← hl]; exact hi)] at a
    refine ⟨w, a, Dn.low _ _ _ _ b (fun n h z => ?_) fun n hn z => ?_⟩
    · rcases z with z | ⟨j, _, z⟩
      · exact h.1 z
      · exact h.2 j z
    · rcases z with z | ⟨j, hj, z⟩
      · exact I.nf hn z
      · exact I.dis i j n (by omega) hn z⟩
theorem hide_len : ∀ (o : Own) (e : Sl), (hide o e).length = e.length
  | [], e => rfl
  | p :: o, e => by rw [hide, List.length_set, hide_len o e]
theorem hide_get : ∀ (o : Own) (e : Sl) (i : Nat) (v : W), (hide o e)[i]? = some (some v) → e[i]? = some (some v) ∧ tg o i = 0
  | [], e, i, v, h => ⟨h, rfl⟩
  | p :: o, e, i, v, h => by
    rw [hide, List.getElem?_set] at h
    by_cases z : p.1 = i
    · rw [if_pos z] at h
      split at h <;> cases h
    · rw [if_neg z] at h
      obtain ⟨a, b⟩ := hide_get o e i v h
      refine ⟨a, ?_⟩
      unfold tg at b ⊢
      rw [List.lookup_cons]
      have : (i == p.1) = false := by
        rw [beq_eq_false_iff_ne]
        exact fun q => z q.symm
      rw [this]
      exact b
theorem Iv.envH {o : Own} (I : Iv s0 V0 F s V (e ++ x) τ (e' ++ x') OS) (hl : e.length = e'.length) (ht : ∀ i, i < e.length → τ i = tg o i) : EnvR s V (fun n => F n ∨ ∃ j, n ∈ OS j) (hide o e) e' :=
  ⟨by rw [hide_len]; exact hl, fun i v hv => by
    obtain ⟨hv, h0⟩ := hide_get o e i v hv
    have hi := (List.getElem?_eq_some_iff.mp hv).1
    obtain ⟨w, a, b⟩ := I.at_ i v (by rw [List.getElem?_append_left hi]; exact hv)
    rw [List.getElem?_append_left (by rw [← hl]; exact hi)] at a
    rw [ht i hi, h0] at b
    have := Dn.nil0 _ _ _ b
    rw [this] at b
    refine ⟨w, a, Dn.frame .refl (fun n _ h z => ?_) _ _ _ _ b⟩
    rcases z with z | ⟨j, z⟩
    · exact h.1 z
    · exact h.2 j z⟩
theorem Iv.fbT (I : Iv s0 V0 F s V e τ e' OS) {m : Nat} : Fb s (fun n => F n ∨ ∃ j, m ≤ j ∧ n ∈ OS j) := fun n h => by
  rcases h with h | ⟨j, _, h⟩
  · exact Nat.lt_of_lt_of_le (I.fb n h) I.fm.len
  · exact (I.lt h).1
theorem Iv.fbH (I : Iv s0 V0 F s V e τ e' OS) : Fb s (fun n => F n ∨ ∃ j, n ∈ OS j) := fun n h => by
  rcases h with h | ⟨j, h⟩
  · exact Nat.lt_of_lt_of_le (I.fb n h) I.fm.len
  · exact (I.lt h).1
theorem Iv.fbS (I : Iv s0 V0 F s V e τ e' OS) : Fb s F := fun n h => Nat.lt_of_lt_of_le (I.fb n h) I.fm.len
theorem Iv.last {z w z' w' : W} {t' : Nat} {O' : List Nat} (I : Iv s0 V0 F s V (e ++ [some z]) τ (e' ++ [some w]) OS) (hl : e.length = e'.length) (hs : O'.Sublist (OS e.length)) (t2 : t' ≤ 2)
    (d : Dn s V (fun n => ¬ F n ∧ ∀ j, n ∉ OS j) z (τ e.length) w (OS e.length) → ∀ A' : Nat → Prop, (∀ n, (¬ F n ∧ ∀ j, n ∉ OS j) → A' n) → (∀ n ∈ OS e.length, n ∉ O' → A' n) → Dn s V A' z' t' w' O') :
    Iv s0 V0 F s V (e ++ [some z']) (fun i => if i = e.length then t' else τ i) (e' ++ [some w']) (fun i => if i = e.length then O' else OS i) := by
  have lc : ∀ {z : W} (i : Nat) (v : W), (e ++ [some z])[i]? = some (some v) → (i = e.length ∧ v = z) ∨ (i < e.length ∧ e[i]? = some (some v)) := fun {z} i v hv => by
    by_cases hi : i = e.length
    · subst hi
      rw [List.getElem?_append_right (Nat.le_refl _), Nat.sub_self] at hv
      cases hv
      exact .inl ⟨rfl, rfl⟩
    · have hlt : i < e.length := by
        have := (List.getElem?_eq_some_iff.mp hv).1
        rw [List.length_append, List.length_singleton] at this
        omega
      rw [List.getElem?_append_left hlt] at hv
      exact .inr ⟨hlt, hv⟩
  have le : ∀ {z : W} {w : W}, (e' ++ [some w])[e.length]? = some (some w) := fun {z w} => by rw [hl, List.getElem?_append_right (Nat.le_refl _), Nat.sub_self]; rfl
  have sub : ∀ i n, n ∈ (if i = e.length then O' else OS i) → n ∈ OS i := fun i n hn => by
    split at hn
    · rename_i h
      rw [h]
      exact hs.mem hn
    · exact hn
  refine ⟨by rw [List.length_append, List.length_append, hl]; rfl, fun i v hv => ?_, fun i hv => ?_, fun i => ?_, fun i j n hij hn hm => I.dis i j n hij (sub i n hn) (sub j n hm), fun i n hn => I.ge i n (sub i n hn), I.ur, I.fm, I.fb, fun i => ?_⟩
  · rcases lc i v hv with ⟨rfl, rfl⟩ | ⟨hlt, hv⟩
    · refine ⟨w', le (z := z), ?_⟩
      rw [if_pos rfl, if_pos rfl]
      obtain ⟨u, a, b⟩ := I.at_ e.length z (by rw [List.getElem?_append_right (Nat.le_refl _), Nat.sub_self]; rfl)
      rw [le (z := z)] at a
      cases a
      refine d b _ (fun n h => ⟨h.1, fun j z => h.2 j (sub j n z)⟩) fun n hn hp => ⟨I.nf hn, fun j z => ?_⟩
      by_cases hj : j = e.length
      · rw [if_pos hj] at z
        exact hp z
      · rw [if_neg hj] at z
        exact I.dis e.length j n (Ne.symm hj) hn z
    · obtain ⟨u, a, b⟩ := I.at_ i v (by rw [List.getElem?_append_left hlt]; exact hv)
      rw [List.getElem?_append_left (by rw [← hl]; exact hlt)] at a
      refine ⟨u, by rw [List.getElem?_append_left (by rw [← hl]; exact hlt)]; exact a, ?_⟩
      rw [if_neg (by omega), if_neg (by omega)]
      exact Dn.frame .refl (fun n _ h => ⟨h.1, fun j z => h.2 j (sub j n z)⟩) _ _ _ _ b
  · by_cases hi : i = e.length
    · subst hi
      exact absurd (by rw [List.getElem?_append_right (Nat.le_refl _), Nat.sub_self]; rfl) (hv z')
    · show (if i = e.length then O' else OS i) = []
      rw [if_neg hi]
      refine I.emp i fun v h => ?_
      rcases lc i v h with ⟨h1, _⟩ | ⟨h1, h2⟩
      · exact hi h1
      · exact hv v (by rw [List.getElem?_append_left h1]; exact h2)
  · show (if i = e.length then O' else OS i).Nodup
    split
    · exact (I.nd _).sublist hs
    · exact I.nd i
  · show (if i = e.length then t' else τ i) ≤ 2
    split
    · exact t2
    · exact I.t2 i
theorem Iv.init (I : Iv s0 V0 F s V (e ++ x) τ (e' ++ x') OS) (hl : e.length = e'.length) : Iv s0 V0 F s V e τ e' (fun i => if i < e.length then OS i else []) := by
  have sub : ∀ i n, n ∈ (if i < e.length then OS i else []) → n ∈ OS i := fun i n hn => by
    split at hn
    · exact hn
    · cases hn
  refine ⟨hl, fun i v hv => ?_, fun i hv => ?_, fun i => ?_, fun i j n hij hn hm => I.dis i j n hij (sub i n hn) (sub j n hm), fun i n hn => I.ge i n (sub i n hn), I.ur, I.fm, I.fb, I.t2⟩
  · have hi := (List.getElem?_eq_some_iff.mp hv).1
    obtain ⟨w, a, b⟩ := I.at_ i v (by rw [List.getElem?_append_left hi]; exact hv)
    rw [List.getElem?_append_left (by rw [← hl]; exact hi)] at a
    refine ⟨w, a, ?_⟩
    rw [if_pos hi]
    exact Dn.frame .refl (fun n _ h => ⟨h.1, fun j z => h.2 j (sub j n z)⟩) _ _ _ _ b
  · show (if i < e.length then OS i else []) = []
    split
    · rename_i hi
      refine I.emp i fun v h => hv v ?_
      rw [List.getElem?_append_left hi] at h
      exact h
    · rfl
  · show (if i < e.length then OS i else []).Nodup
    split
    · exact I.nd i
    · exact List.nodup_nil
theorem Iv.peel {z w : W} {zs ws : List W} (I : Iv s0 V0 F s V (e ++ [some (.tup (z :: zs))]) τ (e' ++ [some (.tup (w :: ws))]) OS) (hl : e.length = e'.length) (i : Nat) :
    ∃ OS', Iv s0 V0 F s V (e.set i (some z) ++ [some (.tup zs)]) (fun j => if j = e.length then τ e.length else if j = i then τ e.length else τ j) (e'.set i (some w) ++ [some (.tup ws)]) OS' ∧ ∀ j n, n ∈ OS' j → ∃ j', n ∈ OS j' := by
  have le : ∀ {z : W}, (e ++ [some z])[e.length]? = some (some z) := fun {z} => by rw [List.getElem?_append_right (Nat.le_refl _), Nat.sub_self]; rfl
  obtain ⟨u, a, b⟩ := I.at_ e.length _ le
  rw [hl, List.getElem?_append_right (Nat.le_refl _), Nat.sub_self] at a
  cases a
  obtain ⟨us, eu, b⟩ := b
  cases eu
  obtain ⟨w1, ws1, O1, O2, e1, e2, d1, d2⟩ := b
  cases e1
  have nd := I.nd e.length
  rw [e2, List.nodup_append] at nd
  have sub : ∀ j n, n ∈ (if j = e.length then O2 else if j = i ∧ i < e.length then O1 else OS j) → n ∈ OS j ∨ (j = i ∧ i < e.length ∧ n ∈ O1) := fun j n hn => by
    split at hn
    · rename_i h
      rw [h, e2]
      exact .inl (List.mem_append_right _ hn)
    · split at hn
      · rename_i h
        exact .inr ⟨h.1, h.2, hn⟩
      · exact .inl hn
  have o1 : ∀ n, n ∈ O1 → n ∈ OS e.length := fun n hn => by rw [e2]; exact List.mem_append_left _ hn
  have o2 : ∀ n, n ∈ O2 → n ∈ OS e.length := fun n hn => by rw [e2]; exact List.mem_append_right _ hn
  have any : ∀ j n, n ∈ (if j = e.length then O2 else if j = i ∧ i < e.length then O1 else OS j) → ∃ j', n ∈ OS j' := fun j n hn => by
    rcases sub j n hn with h | h
    · exact ⟨j, h⟩
    · exact ⟨_, o1 n h.2.2⟩
  refine ⟨fun j => if j = e.length then O2 else if j = i ∧ i < e.length then O1 else OS j, ⟨by rw [List.length_append, List.length_append, List.length_set, List.length_set, hl]; rfl, fun j v hv => ?_, fun j hv => ?_, fun j => ?_, fun j k n hjk hn hm => ?_, fun j n hn => ?_, I.ur, I.fm, I.fb, fun j => ?_⟩, any⟩
  · by_cases hj : j = e.length
    · subst hj
      rw [List.getElem?_append_right (by rw [List.length_set]; exact Nat.le_refl _), List.length_set, Nat.sub_self] at hv
      cases hv
      refine ⟨.tup ws, by rw [hl, List.getElem?_append_right (by rw [List.length_set]; exact Nat.le_refl _), List.length_set, Nat.sub_self]; rfl, ws, rfl, ?_⟩
      rw [if_pos rfl, if_pos rfl]
      exact Dns.frame .refl (fun n _ h => ⟨h.1, fun k z => (any k n z).elim fun k' z => h.2 k' z⟩) _ _ _ _ d2
    · have hlt : j < e.length := by
        have := (List.getElem?_eq_some_iff.mp hv).1
        rw [List.length_append, List.length_set, List.length_singleton] at this
        omega
      rw [List.getElem?_append_left (by rw [List.length_set]; exact hlt), List.getElem?_set] at hv
      rw [if_neg hj, if_neg hj]
      by_cases hi : i = j
      · subst hi
        rw [if_pos rfl, if_pos hlt] at hv
        cases hv
        refine ⟨w, by rw [List.getElem?_append_left (by rw [List.length_set, ← hl]; exact hlt), List.getElem?_set, if_pos rfl, if_pos (by rw [← hl]; exact hlt)], ?_⟩
        rw [if_pos rfl, if_pos ⟨rfl, hlt⟩]
        exact Dn.frame .refl (fun n _ h => ⟨h.1, fun k z => (any k n z).elim fun k' z => h.2 k' z⟩) _ _ _ _ d1
      · rw [if_neg hi] at hv
        obtain ⟨u, a, b⟩ := I.at_ j v (by rw [List.getElem?_append_left hlt]; exact hv)
        rw [List.getElem?_append_left (by rw [← hl]; exact hlt)] at a
        refine ⟨u, by rw [List.getElem?_append_left (by rw [List.length_set, ← hl]; exact hlt), List.getElem?_set, if_neg hi]; exact a, ?_⟩
        rw [if_neg (Ne.symm hi), if_neg (fun z => hi z.1.symm)]
        exact Dn.frame .refl (fun n _ h => ⟨h.1, fun k z => (any k n z).elim fun k' z => h.2 k' z⟩) _ _ _ _ b
  · by_cases hj : j = e.length
    · subst hj
      exact absurd (by rw [List.getElem?_append_right (by rw [List.length_set]; exact Nat.le_refl _), List.length_set, Nat.sub_self]; rfl) (hv (.tup zs))
    · show (if j = e.length then O2 else if j = i ∧ i < e.length then O1 else OS j) = []
      rw [if_neg hj]
      by_cases hi : j = i ∧ i < e.length
      · exfalso
        refine hv z ?_
        rw [List.getElem?_append_left (by rw [List.length_set, hi.1]; exact hi.2), List.getElem?_set, if_pos hi.1.symm, if_pos hi.2]
      · rw [if_neg hi]
        refine I.emp j fun v h => ?_
        have hlt : j < e.length := by
          have := (List.getElem?_eq_some_iff.mp h).1
          rw [List.length_append, List.length_singleton] at this
          omega
        rw [List.getElem?_append_left hlt] at h
        refine hv v ?_
        rw [List.getElem?_append_left (by rw [List.length_set]; exact hlt), List.getElem?_set, if_neg (fun z => hi ⟨z.symm, by rw [z]; exact hlt⟩)]
        exact h
  · show (if j = e.length then O2 else if j = i ∧ i < e.length then O1 else OS j).Nodup
    split
    · exact nd.2.1
    · split
      · exact nd.1
      · exact I.nd j
  · have hn : n ∈ (if j = e.length then O2 else if j = i ∧ i < e.length then O1 else OS j) := hn
    have hm : n ∈ (if k = e.length then O2 else if k = i ∧ i < e.length then O1 else OS k) := hm
    split at hn
    · rename_i hj
      rw [if_neg (by omega)] at hm
      split at hm
      · exact nd.2.2 n hm n hn rfl
      · exact I.dis j k n hjk (by rw [hj]; exact o2 n hn) hm
    · rename_i hj
      split at hn
      · rename_i hi
        split at hm
        · exact nd.2.2 n hn n hm rfl
        · rename_i hk
          rw [if_neg (fun z => hjk (hi.1.trans z.1.symm))] at hm
          exact I.dis e.length k n (Ne.symm hk) (o1 n hn) hm
      · split at hm
        · exact I.dis j e.length n hj hn (o2 n hm)
        · split at hm
          · exact I.dis j e.length n hj hn (o1 n hm)
          · exact I.dis j k n hjk hn hm
  · obtain ⟨j', h⟩ := any j n hn
    exact I.ge j' n h
  · show (if j = e.length then τ e.length else if j = i then τ e.length else τ j) ≤ 2
    split
    · exact I.t2 _
    · split
      · exact I.t2 _
      · exact I.t2 j
theorem Iv.unset (I : Iv s0 V0 F s V e τ e' OS) (k : Nat) (u : Option W) : Iv s0 V0 F s V (e.set k none) (fun j => if j = k then 0 else τ j) (e'.set k u) (fun j => if j = k then [] else OS j) := by
  have sub : ∀ j n, n ∈ (if j = k then [] else OS j) → n ∈ OS j := fun j n hn => by
    split at hn
    · cases hn
    · exact hn
  refine ⟨by rw [List.length_set, List.length_set, I.len], fun j v hv => ?_, fun j hv => ?_, fun j => ?_, fun i j n hij hn hm => I.dis i j n hij (sub i n hn) (sub j n hm), fun i n hn => I.ge i n (sub i n hn), I.ur, I.fm, I.fb, fun j => ?_⟩
  · rw [List.getElem?_set] at hv
    by_cases h : k = j
    · rw [if_pos h] at hv
      split at hv <;> cases hv
    · rw [if_neg h] at hv
      obtain ⟨w, a, b⟩ := I.at_ j v hv
      refine ⟨w, by rw [List.getElem?_set, if_neg h]; exact a, ?_⟩
      rw [if_neg (Ne.symm h), if_neg (Ne.symm h)]
      exact Dn.frame .refl (fun n _ h => ⟨h.1, fun j z => h.2 j (sub j n z)⟩) _ _ _ _ b
  · show (if j = k then [] else OS j) = []
    split
    · rfl
    · rename_i h
      refine I.emp j fun v hj => hv v ?_
      rw [List.getElem?_set, if_neg (Ne.symm h)]
      exact hj
  · show (if j = k then [] else OS j).Nodup
    split
    · exact List.nodup_nil
    · exact I.nd j
  · show (if j = k then 0 else τ j) ≤ 2
    split
    · decide
    · exact I.t2 j
theorem Iv.upd {i n k t' : Nat} {ws' : List W} {v' w : W} {P : List Nat} (I : Iv s0 V0 F s V e τ e' OS) (hik : i ≠ k) (hn : n ∈ OS i) (hw : e'[i]? = some (some w)) (hP : ∀ m ∈ P, m ∈ OS i ∨ m ∈ OS k) (ndP : P.Nodup) (t2 : t' ≤ 2)
    (d : Dn (s.set n ws') V (fun m => ¬ F m ∧ m ∉ P ∧ ∀ j, j ≠ i → j ≠ k → m ∉ OS j) v' t' w P) :
    Iv s0 V0 F (s.set n ws') V ((e.set i (some v')).set k none) (fun j => if j = i then t' else if j = k then 0 else τ j) e' (fun j => if j = i then P else if j = k then [] else OS j) ∧ Sx s V OS (s.set n ws') V (fun j => if j = i then P else if j = k then [] else OS j) := by
  have hlt := I.lt hn
  have f : Fx s V (fun m => m = n) (s.set n ws') V := ⟨by rw [List.length_set]; exact Nat.le_refl _, fun m us hv hx h => by rw [List.getElem?_set_ne (fun z => hx z.symm)]; exact h, fun _ h => h, fun _ _ h => h⟩
  have any : ∀ j m, m ∈ (if j = i then P else if j = k then [] else OS j) → ∃ j', m ∈ OS j' := fun j m hm => by
    split at hm
    · rcases hP m hm with z | z
      · exact ⟨_, z⟩
      · exact ⟨_, z⟩
    · split at hm
      · cases hm
      · exact ⟨j, hm⟩
  refine ⟨⟨by rw [List.length_set, List.length_set, I.len], fun j v hv => ?_, fun j hv => ?_, fun j => ?_, fun j l m hjl hj hl => ?_, fun j m hm => ?_, fun u hu => (I.ur u hu).keep (U := fun m => m = n) (Fr.set rfl) (fun z => hlt.2 (by rw [← z]; exact hu)), ⟨by rw [List.length_set]; exact I.fm.len, fun m us hv h => by
      rw [List.getElem?_set_ne (fun z => by
        have h1 := I.ge i n hn
        have h2 := lt_of h
        omega)]
      exact I.fm.get m us hv h, I.fm.up, I.fm.dn⟩, I.fb, fun j => ?_⟩, ⟨⟨by rw [List.length_set]; exact Nat.le_refl _, fun m us hv hx h => by rw [List.getElem?_set_ne (fun z => hx ⟨i, by rw [← z]; exact hn⟩)]; exact h, fun _ h => h, fun _ _ h => h⟩, fun j m hm => .inl (any j m hm)⟩⟩
  · rw [List.getElem?_set] at hv
    by_cases hk : k = j
    · rw [if_pos hk] at hv
      split at hv <;> cases hv
    · rw [if_neg hk, List.getElem?_set] at hv
      by_cases hi : i = j
      · subst hi
        rw [if_pos rfl] at hv
        split at hv
        · cases hv
          refine ⟨w, hw, ?_⟩
          rw [if_pos rfl, if_pos rfl]
          refine Dn.frame .refl (fun m _ h => ⟨h.1, fun l z => ?_⟩) _ _ _ _ d
          split at z
          · exact h.2.1 z
          · split at z
            · cases z
            · rename_i h1 h2
              exact h.2.2 l h1 h2 z
        · cases hv
      · rw [if_neg hi] at hv
        obtain ⟨u, a, b⟩ := I.at_ j v hv
        refine ⟨u, a, ?_⟩
        rw [if_neg (Ne.symm hi), if_neg (Ne.symm hk), if_neg (Ne.symm hi), if_neg (Ne.symm hk)]
        refine Dn.frameX f (fun m _ h => ⟨⟨h.1, fun l z => (any l m z).elim fun l' z => h.2 l' z⟩, fun z => h.2 i (by rw [z]; exact hn)⟩) _ _ _ _ (fun m hm z => I.dis i j n hi hn (by rw [← z]; exact hm)) b
  · show (if j = i then P else if j = k then [] else OS j) = []
    by_cases hi : j = i
    · subst hi
      exfalso
      have : j < e.length := by rw [I.len]; exact (List.getElem?_eq_some_iff.mp hw).1
      exact hv v' (by rw [List.getElem?_set, if_neg (Ne.symm hik), List.getElem?_set, if_pos rfl, if_pos this])
    · rw [if_neg hi]
      by_cases hk : j = k
      · rw [if_pos hk]
      · rw [if_neg hk]
        refine I.emp j fun v h => hv v ?_
        rw [List.getElem?_set, if_neg (Ne.symm hk), List.getElem?_set, if_neg (Ne.symm hi)]
        exact h
  · show (if j = i then P else if j = k then [] else OS j).Nodup
    split
    · exact ndP
    · split
      · exact List.nodup_nil
      · exact I.nd j
  · have hj : m ∈ (if j = i then P else if j = k then [] else OS j) := hj
    have hl : m ∈ (if l = i then P else if l = k then [] else OS l) := hl
    split at hj
    · rename_i h1
      rw [if_neg (by omega)] at hl
      split at hl
      · cases hl
      · rename_i h2
        rcases hP m hj with z | z
        · exact I.dis i l m (by omega) z hl
        · exact I.dis k l m (by omega) z hl
    · split at hj
      · cases hj
      · rename_i h1 h2
        split at hl
        · rcases hP m hl with z | z
          · exact I.dis j i m h1 hj z
          · exact I.dis j k m h2 hj z
        · split at hl
          · cases hl
          · exact I.dis j l m hjl hj hl
  · obtain ⟨j', h⟩ := any j m hm
    exact I.ge j' m h
  · show (if j = i then t' else if j = k then 0 else τ j) ≤ 2
    split
    · exact t2
    · split
      · decide
      · exact I.t2 j
end
end Pq

namespace Pq
open PySem Py Pl
theorem lookup_drp (o : Own) (i j : Nat) : (drp o i).lookup j = if j = i then none else o.lookup j := by
  induction o with
  | nil => unfold drp; rw [List.filter_nil]; split <;> rfl
  | cons p o ih =>
    unfold drp at ih ⊢
    rw [List.filter_cons]
    by_cases h : p.1 = i
    · rw [if_neg (by rw [h]; simp), ih, List.lookup_cons]
      by_cases hj : j = i
      · rw [if_pos hj, if_pos hj]
      · rw [if_neg hj, if_neg hj, show (j == p.1) = false from by rw [beq_eq_false_iff_ne, h]; exact hj]
    · rw [if_pos (by simpa using h), List.lookup_cons, List.lookup_cons, ih]
      by_cases hj : j = p.1
      · subst hj
        simp [h]
      · rw [show (j == p.1) = false from by rw [beq_eq_false_iff_ne]; exact hj]
theorem tg_drp (o : Own) (i j : Nat) : tg (drp o i) j = if j = i then 0 else tg o j := by
  unfold tg
  rw [lookup_drp]
  split <;> rfl
theorem tg_cons (p : Nat × Nat) (o : Own) (j : Nat) : tg (p :: o) j = if j = p.1 then p.2 else tg o j := by
  unfold tg
  rw [List.lookup_cons]
  by_cases h : j = p.1
  · rw [h, beq_self_eq_true, if_pos rfl]; rfl
  · rw [if_neg h, show (j == p.1) = false from by rw [beq_eq_false_iff_ne]; exact h]
theorem tg_put (o : Own) (i : Nat) (w : W) (t j : Nat) : tg (put o i w t) j ≤ if j = i then t else tg o j := by
  unfold put
  split
  · rw [tg_drp]
    split
    · exact Nat.zero_le _
    · exact Nat.le_refl _
  · rw [tg_cons, tg_drp]
    split
    · exact Nat.le_refl _
    · exact Nat.le_refl _
theorem tg_drps (o : Own) : ∀ (is : List Nat) (j : Nat), tg (drps o is) j = if j ∈ is then 0 else tg o j
  | [], j => by rw [drps, if_neg (by simp)]
  | i :: is, j => by
    rw [drps, tg_drp, tg_drps o is]
    by_cases h : j = i
    · rw [if_pos h, if_pos (by rw [h]; exact List.mem_cons_self)]
    · rw [if_neg h]
      by_cases h2 : j ∈ is
      · rw [if_pos h2, if_pos (List.mem_cons_of_mem _ h2)]
      · rw [if_neg h2, if_neg (fun z => (List.mem_cons.mp z).elim h h2)]
section
variable {G : G} {g : PG} {s0 s s1 : Sto} {V0 F V V1 : Nat → Prop} {e x e' x' : Sl} {τ : Nat → Nat} {OS : Nat → List Nat} {o : Own} {Z : KZ}
structure AX (s0 : Sto) (V0 F : Nat → Prop) (s : Sto) (V : Nat → Prop) (E : Sl) (m : Nat) (τ : Nat → Nat) (E' : Sl) (OS : Nat → List Nat) (z w : W) (t : Nat) (o1 : Own) (s1 : Sto) : Prop where
  ex : ∃ V1 τ1 OS1, Iv s0 V0 F s1 V1 (E ++ [some z]) τ1 (E' ++ [some w]) OS1 ∧ (∀ i, i < m → τ1 i = tg o1 i) ∧ (∀ i, m ≤ i → i < E.length → τ1 i = τ i) ∧ τ1 E.length = t ∧ Sx s V OS s1 V1 OS1 ∧ ∀ j, tg o1 j ≤ 2
theorem evX_dn (hG : SimG G g) {a : E} {Q : W → Nat → Own → Prop} (I : Iv s0 V0 F s V (e ++ x) τ (e' ++ x') OS) (hl : e.length = e'.length) (ht : ∀ i, i < e.length → τ i = tg o i) (h2 : ∀ j, tg o j ≤ 2) (h : evX g a e o Q Z) :
    (ev G a e' s).wp (fun w s1 => ∃ z t o1, Q z t o1 ∧ AX s0 V0 F s V (e ++ x) e.length τ (e' ++ x') OS z w t o1 s1) (PoX s V Z) := by
  have hge : ∀ {F' : Nat → Prop} {s1 V1 t z w O}, RES s V F' s1 V1 t z w O → ∀ n ∈ O, ∀ j, n ∉ OS j := fun r n hn j hj => by
    have := r.ge n hn
    have := (I.lt hj).1
    omega
  have lem : (e ++ x).length = (e' ++ x').length := I.len
  rcases h with h | h
  · refine (simE hG a e e' s V _ _ Z h (I.envT hl) I.fbT I.ur).mono fun w s1 q => ?_
    obtain ⟨z, t, V1, O, q, r⟩ := q
    rcases q with ⟨hf, q⟩ | q
    · -- all own, or no list within
      rw [Bool.or_eq_true, beq_iff_eq] at hf
      refine ⟨z, t, o, q, V1, _, _, I.push r.fm r.ur (z := z) (w := w) (t := t) (O := O) ?_ r.nd r.ge r.t2, fun i hi => ?_, fun i h1 h2 => ?_, ?_, Sx.of r.fm fun j n hn => ?_, ?_⟩
      · rcases hf with hf | hf
        · have := Dn.flat _ _ _ _ hf r.dn
          rw [this.1]
          exact this.2 _ _
        · rw [hf]
          exact Dn.all _ _ _ (by rw [← hf]; exact r.dn)
      · show (if i = (e ++ x).length then t else τ i) = _
        rw [if_neg (by rw [List.length_append]; omega)]
        exact ht i hi
      · show (if i = (e ++ x).length then t else τ i) = _
        rw [if_neg (by omega)]
      · show (if (e ++ x).length = (e ++ x).length then t else τ _) = _
        rw [if_pos rfl]
      · have hn : n ∈ (if j = (e ++ x).length then O else OS j) := hn
        split at hn
        · exact .inr (r.ge n hn)
        · exact .inl ⟨j, hn⟩
      · exact h2
    · -- the slots' own lists are given up
      obtain ⟨OS', I', sub⟩ := I.weak (fun i => if i < e.length then 0 else τ i) (fun i _ => by split <;> omega) (fun i => by
        split
        · decide
        · exact I.t2 i)
      have low0 : ∀ i, i < e.length → OS' i = [] := fun i hi => by
        rcases slot_or (e ++ x) i with ⟨v, hv⟩ | hv
        · obtain ⟨u, _, d⟩ := I'.at_ i v hv
          have d : Dn s V _ v (if i < e.length then 0 else τ i) u (OS' i) := d
          rw [if_pos hi] at d
          exact Dn.nil0 _ _ _ d
        · exact I'.emp i hv
      refine ⟨z, t, [], q, V1, _, _, I'.push r.fm r.ur (z := z) (w := w) (t := t) (O := O) ?_ r.nd r.ge r.t2, fun i hi => ?_, fun i h1 h2 => ?_, ?_, Sx.of r.fm fun j n hn => ?_, ?_⟩
      · refine Dn.frame .refl (fun n _ h => ⟨fun z => h.1 (.inl z), fun j z => ?_, h.2⟩) _ _ _ _ r.dn
        by_cases hj : j < e.length
        · rw [low0 j hj] at z
          cases z
        · exact h.1 (.inr ⟨j, by omega, (sub j).mem z⟩)
      · show (if i = (e ++ x).length then t else if i < e.length then 0 else τ i) = _
        rw [if_neg (by rw [List.length_append]; omega), if_pos hi]
        rfl
      · show (if i = (e ++ x).length then t else if i < e.length then 0 else τ i) = _
        rw [if_neg (by omega), if_neg (by omega)]
      · show (if (e ++ x).length = (e ++ x).length then t else _) = _
        rw [if_pos rfl]
      · have hn : n ∈ (if j = (e ++ x).length then O else OS' j) := hn
        split at hn
        · exact .inr (r.ge n hn)
        · exact .inl ⟨j, (sub j).mem hn⟩
      · exact fun _ => Nat.zero_le _
  · refine (simE hG a (hide o e) e' s V _ _ Z h (I.envH hl ht) I.fbH I.ur).mono fun w s1 q => ?_
    obtain ⟨z, t, V1, O, q, r⟩ := q
    refine ⟨z, t, o, q, V1, _, _, I.push r.fm r.ur (z := z) (w := w) (t := t) (O := O) ?_ r.nd r.ge r.t2, fun i hi => ?_, fun i h1 h2 => ?_, ?_, Sx.of r.fm fun j n hn => ?_, ?_⟩
    · exact Dn.frame .refl (fun n _ h => ⟨fun z => h.1 (.inl z), fun j z => h.1 (.inr ⟨j, z⟩), h.2⟩) _ _ _ _ r.dn
    · show (if i = (e ++ x).length then t else τ i) = _
      rw [if_neg (by rw [List.length_append]; omega)]
      exact ht i hi
    · show (if i = (e ++ x).length then t else τ i) = _
      rw [if_neg (by omega)]
    · show (if (e ++ x).length = (e ++ x).length then t else τ _) = _
      rw [if_pos rfl]
    · have hn : n ∈ (if j = (e ++ x).length then O else OS j) := hn
      split at hn
      · exact .inr (r.ge n hn)
      · exact .inl ⟨j, hn⟩
    · exact h2
theorem evF_dn (hG : SimG G g) {a : E} {Q : W → Nat → Prop} (I : Iv s0 V0 F s V (e ++ x) τ (e' ++ x') OS) (hl : e.length = e'.length) (hq : ∀ w t, Q w t → (flat w || t == 2) = true) (h : evP g a e Q Z) :
    (ev G a e' s).wp (fun w s1 => ∃ z t V1 τ1 OS1, Q z t ∧ Iv s0 V0 F s1 V1 ((e ++ x) ++ [some z]) τ1 ((e' ++ x') ++ [some w]) OS1 ∧ (∀ i, i < (e ++ x).length → τ1 i = τ i) ∧ τ1 (e ++ x).length = t ∧ Sx s V OS s1 V1 OS1 ∧ Fm s V s1 V1) (PoX s V Z) := by
  refine (simE hG a e e' s V _ _ Z h (I.envT hl) I.fbT I.ur).mono fun w s1 q => ?_
  obtain ⟨z, t, V1, O, q, r⟩ := q
  have hf := hq _ _ q
  rw [Bool.or_eq_true, beq_iff_eq] at hf
  refine ⟨z, t, V1, _, _, q, I.push r.fm r.ur (z := z) (w := w) (t := t) (O := O) ?_ r.nd r.ge r.t2, fun i hi => ?_, ?_, Sx.of r.fm fun j n hn => ?_, r.fm⟩
  · rcases hf with hf | hf
    · have := Dn.flat _ _ _ _ hf r.dn
      rw [this.1]
      exact this.2 _ _
    · rw [hf]
      exact Dn.all _ _ _ (by rw [← hf]; exact r.dn)
  · show (if i = (e ++ x).length then t else τ i) = _
    rw [if_neg (by omega)]
  · show (if (e ++ x).length = (e ++ x).length then t else τ _) = _
    rw [if_pos rfl]
  · have hn : n ∈ (if j = (e ++ x).length then O else OS j) := hn
    split at hn
    · exact .inr (r.ge n hn)
    · exact .inl ⟨j, hn⟩
theorem evH_dn (hG : SimG G g) {a : E} {Q : W → Nat → Prop} (I : Iv s0 V0 F s V (e ++ x) τ (e' ++ x') OS) (hl : e.length = e'.length) (ht : ∀ i, i < e.length → τ i = tg o i) (h : evP g a (hide o e) Q Z) :
    (ev G a e' s).wp (fun w s1 => ∃ z t V1 τ1 OS1, Q z t ∧ Iv s0 V0 F s1 V1 ((e ++ x) ++ [some z]) τ1 ((e' ++ x') ++ [some w]) OS1 ∧ (∀ i, i < (e ++ x).length → τ1 i = τ i) ∧ τ1 (e ++ x).length = t ∧ Sx s V OS s1 V1 OS1 ∧ Fm s V s1 V1) (PoX s V Z) := by
  refine (simE hG a (hide o e) e' s V _ _ Z h (I.envH hl ht) I.fbH I.ur).mono fun w s1 q => ?_
  obtain ⟨z, t, V1, O, q, r⟩ := q
  refine ⟨z, t, V1, _, _, q, I.push r.fm r.ur (z := z) (w := w) (t := t) (O := O) ?_ r.nd r.ge r.t2, fun i hi => ?_, ?_, Sx.of r.fm fun j n hn => ?_, r.fm⟩
  · exact Dn.frame .refl (fun n _ h => ⟨fun z => h.1 (.inl z), fun j z => h.1 (.inr ⟨j, z⟩), h.2⟩) _ _ _ _ r.dn
  · show (if i = (e ++ x).length then t else τ i) = _
    rw [if_neg (by omega)]
  · show (if (e ++ x).length = (e ++ x).length then t else τ _) = _
    rw [if_pos rfl]
  · have hn : n ∈ (if j = (e ++ x).length then O else OS j) := hn
    split at hn
    · exact .inr (r.ge n hn)
    · exact .inl ⟨j, hn⟩
theorem evXs_dn (hG : SimG G g) {a : E} {Q : List W → Nat → Own → Prop} (I : Iv s0 V0 F s V e (tg o) e' OS) (h : evXs g a e o Q Z) :
    (evs G a e' s).wp (fun ws s1 => ∃ zs t o1 V1 OS1, Q zs t o1 ∧ Iv s0 V0 F s1 V1 e (tg o1) e' OS1 ∧ Sx s V OS s1 V1 OS1 ∧ D0s s1 V1 (fun n => ¬ F n ∧ ∀ j, n ∉ OS1 j) zs ws) (PoX s V Z) := by
  rcases h with h | h
  · refine (simEs hG a e e' s V _ _ Z h I.envR I.fbS I.ur).mono fun ws s1 q => ?_
    obtain ⟨zs, t, V1, O, q, r⟩ := q
    have hO : ∀ n ∈ O, ¬ F n ∧ ∀ j, n ∉ OS j := fun n hn => ⟨fun z => by
      have := I.fbS n z
      have := r.ge n hn
      omega, fun j z => by
      have := (I.lt z).1
      have := r.ge n hn
      omega⟩
    rcases q with ⟨hf, q⟩ | q
    · rw [Bool.or_eq_true, beq_iff_eq] at hf
      refine ⟨zs, t, o, V1, OS, q, I.frame r.fm r.ur, Sx.of r.fm fun j n hn => .inl ⟨j, hn⟩, ?_⟩
      rcases hf with hf | hf
      · exact (Dns.flat _ _ _ _ hf r.dn).2 _ _
      · have d := r.dn
        rw [hf] at d
        exact Dns.low _ _ _ _ (Dns.all _ _ _ d : Dns s1 V1 (fun _ => False) zs 2 ws O) (fun n h => h.elim) hO
    · obtain ⟨OS', I', sub⟩ := I.weak (tg []) (fun i _ => Nat.zero_le _) (fun i => Nat.zero_le _)
      have low0 : ∀ i, OS' i = [] := fun i => by
        rcases slot_or e i with ⟨v, hv⟩ | hv
        · obtain ⟨u, _, d⟩ := I'.at_ i v hv
          exact Dn.nil0 _ _ _ d
        · exact I'.emp i hv
      refine ⟨zs, t, [], V1, OS', q, I'.frame r.fm r.ur, Sx.of r.fm fun j n hn => .inl ⟨j, (sub j).mem hn⟩, ?_⟩
      refine Dns.low _ _ _ _ r.dn (fun n h => ⟨h.1, fun j => by rw [low0 j]; simp⟩) fun n hn => ⟨(hO n hn).1, fun j => by rw [low0 j]; simp⟩
  · have I2 : Iv s0 V0 F s V (e ++ []) (tg o) (e' ++ []) OS := by rw [List.append_nil, List.append_nil]; exact I
    refine (simEs hG a (hide o e) e' s V _ _ Z h (I2.envH I.len fun _ _ => rfl) I.fbH I.ur).mono fun ws s1 q => ?_
    obtain ⟨zs, t, V1, O, q, r⟩ := q
    refine ⟨zs, t, o, V1, OS, q, I.frame r.fm r.ur, Sx.of r.fm fun j n hn => .inl ⟨j, hn⟩, ?_⟩
    refine Dns.low _ _ _ _ r.dn (fun n h => ⟨fun z => h.1 (.inl z), fun j z => h.1 (.inr ⟨j, z⟩)⟩) fun n hn => ⟨fun z => ?_, fun j z => ?_⟩
    · have := I.fbS n z
      have := r.ge n hn
      omega
    · have := (I.lt z).1
      have := r.ge n hn
      omega
theorem Iv.asg {z w : W} (I : Iv s0 V0 F s V (e ++ [some z]) τ (e' ++ [some w]) OS) (hl : e.length = e'.length) (i : Nat) (o' : Own) (ho : ∀ j, j < e.length → tg o' j ≤ if j = i then τ e.length else τ j) (h2 : ∀ j, tg o' j ≤ 2) :
    ∃ OS', Iv s0 V0 F s V (e.set i (some z)) (tg o') (e'.set i (some w)) OS' ∧ ∀ j n, n ∈ OS' j → ∃ j', n ∈ OS j' := by
  have I1 := I.last (z' := .tup [z]) (w' := .tup [w]) (t' := τ e.length) (O' := OS e.length) hl (List.Sublist.refl _) (I.t2 _) fun d A' ha _ => ⟨[w], rfl, w, [], OS e.length, [], rfl, by simp, Dn.frame .refl (fun n _ h => ha n h) _ _ _ _ d, rfl, rfl⟩
  obtain ⟨OS1, I2, sub⟩ := I1.peel hl i
  have I3 := I2.init (by rw [List.length_set, List.length_set, hl])
  obtain ⟨OS2, I4, sub2⟩ := I3.weak (tg o') (fun j hj => by
    rw [List.length_set] at hj
    show tg o' j ≤ (if j = e.length then (if e.length = e.length then τ e.length else τ e.length) else if j = i then (if e.length = e.length then τ e.length else τ e.length) else if j = e.length then τ e.length else τ j)
    have hne : ¬ j = e.length := by omega
    have := ho j hj
    simp only [if_neg hne, if_true]
    exact this) h2
  refine ⟨OS2, I4, fun j n hn => ?_⟩
  have h1 := (sub2 j).mem hn
  split at h1
  · obtain ⟨j', h⟩ := sub j n h1
    have h : n ∈ (if j' = e.length then OS e.length else OS j') := h
    split at h
    · exact ⟨_, h⟩
    · exact ⟨_, h⟩
  · cases h1
theorem setN_dn : ∀ (ts : Ta) (zs ws : List W) (t : Nat) (s : Sto) (V : Nat → Prop) (e e' : Sl) (o : Own) (τ : Nat → Nat) (OS : Nat → List Nat) (Q : Sl → Own → Prop) (P : QK Sl) (ZZ : EK),
    Iv s0 V0 F s V (e ++ [some (.tup zs)]) τ (e' ++ [some (.tup ws)]) OS → e.length = e'.length → (∀ j, j < e.length → tg o j ≤ τ j) → (∀ j, tg o j ≤ 2) → t ≤ τ e.length → setN ts zs t e o Q →
    (∀ e1 o1 e1' OS1, Q e1 o1 → Iv s0 V0 F s V e1 (tg o1) e1' OS1 → (∀ j n, n ∈ OS1 j → ∃ j', n ∈ OS j') → P e1' s) → (asgs G ts ws e' s).wp P ZZ
  | .nil, [], ws, t, s, V, e, e', o, τ, OS, Q, P, ZZ, I, hl, ho, h2, ht, h, k => by
    have hw : ws = [] := by
      obtain ⟨u, a, d⟩ := I.at_ e.length (.tup []) (by rw [List.getElem?_append_right (Nat.le_refl _), Nat.sub_self]; rfl)
      rw [hl, List.getElem?_append_right (Nat.le_refl _), Nat.sub_self] at a
      cases a
      obtain ⟨us, eu, d⟩ := d
      cases eu
      exact d.1
    subst hw
    have I3 := I.init hl
    obtain ⟨OS2, I4, sub2⟩ := I3.weak (tg o) ho h2
    rw [asgs]
    exact k e o e' OS2 h I4 fun j n hn => by
      have h1 := (sub2 j).mem hn
      split at h1
      · exact ⟨j, h1⟩
      · cases h1
  | .cons (.name i) ts, z :: zs, ws, t, s, V, e, e', o, τ, OS, Q, P, ZZ, I, hl, ho, h2, ht, h, k => by
    have hw : ∃ w ws', ws = w :: ws' := by
      obtain ⟨u, a, d⟩ := I.at_ e.length (.tup (z :: zs)) (by rw [List.getElem?_append_right (Nat.le_refl _), Nat.sub_self]; rfl)
      rw [hl, List.getElem?_append_right (Nat.le_refl _), Nat.sub_self] at a
      cases a
      obtain ⟨us, eu, d⟩ := d
      cases eu
      obtain ⟨w, ws', _, _, e1, _⟩ := d
      exact ⟨w, ws', e1⟩
    obtain ⟨w, ws', rfl⟩ := hw
    obtain ⟨OS1, I2, sub⟩ := I.peel hl i
    rw [asgs, asg]
    show (asgs G ts ws' (e'.set i (some w)) s).wp P ZZ
    have t2 := I.t2 e.length
    refine setN_dn ts zs ws' t s V (e.set i (some z)) (e'.set i (some w)) (put o i z t) _ OS1 Q P ZZ I2 (by rw [List.length_set, List.length_set, hl]) (fun j hj => ?_) (fun j => ?_) ?_ h fun e1 o1 e1' OS2 q I3 sub2 => k e1 o1 e1' OS2 q I3 fun j n hn => (sub2 j n hn).elim fun j' h => sub j' n h
    · rw [List.length_set] at hj
      rw [if_neg (by omega)]
      refine Nat.le_trans (tg_put o i z t j) ?_
      split
      · exact ht
      · exact ho j hj
    · refine Nat.le_trans (tg_put o i z t j) ?_
      split
      · omega
      · exact h2 j
    · rw [List.length_set, if_pos rfl]
      exact ht
  | .nil, _ :: _, _, _, _, _, _, _, _, _, _, _, _, _, _, _, _, _, _, h, _ => h.elim
  | .cons (.name _) _, [], _, _, _, _, _, _, _, _, _, _, _, _, _, _, _, _, _, h, _ => h.elim
  | .cons (.sub _ _) _, [], _, _, _, _, _, _, _, _, _, _, _, _, _, _, _, _, _, h, _ => h.elim
  | .cons (.sub _ _) _, _ :: _, _, _, _, _, _, _, _, _, _, _, _, _, _, _, _, _, _, h, _ => h.elim
  | .cons .nil _, [], _, _, _, _, _, _, _, _, _, _, _, _, _, _, _, _, _, h, _ => h.elim
  | .cons .nil _, _ :: _, _, _, _, _, _, _, _, _, _, _, _, _, _, _, _, _, _, h, _ => h.elim
  | .cons (.cons _ _) _, [], _, _, _, _, _, _, _, _, _, _, _, _, _, _, _, _, _, h, _ => h.elim
  | .cons (.cons _ _) _, _ :: _, _, _, _, _, _, _, _, _, _, _, _, _, _, _, _, _, _, h, _ => h.elim
  | .cons (.tup _) _, [], _, _, _, _, _, _, _, _, _, _, _, _, _, _, _, _, _, h, _ => h.elim
  | .cons (.tup _) _, _ :: _, _, _, _, _, _, _, _, _, _, _, _, _, _, _, _, _, _, h, _ => h.elim
  | .name _, _, _, _, _, _, _, _, _, _, _, _, _, _, _, _, _, _, _, h, _ => h.elim
  | .sub _ _, _, _, _, _, _, _, _, _, _, _, _, _, _, _, _, _, _, _, h, _ => h.elim
  | .tup _, _, _, _, _, _, _, _, _, _, _, _, _, _, _, _, _, _, _, h, _ => h.elim
end
end Pq

namespace Pq
open PySem Py Pl
structure LOp (f : List W → Option (List W)) (fw : List W → Option (List W)) (z w : W) : Prop where
  sz : ∀ vs vs', f vs = some vs' → vs.length ≤ sizeLine → vs'.length ≤ sizeLine
  run : ∀ {s : Sto} {V A : Nat → Prop} {vs ws vs' : List W} {d : Nat} {O : List Nat}, Dns s V A vs d ws O → O.Nodup → f vs = some vs' → ∃ ws', fw ws = some ws' ∧ ∀ Oz : List Nat, Oz.Nodup → (∀ n ∈ Oz, n ∉ O) → ∃ P, P.Nodup ∧ (∀ n ∈ P, n ∈ O ∨ n ∈ Oz) ∧
    ∀ (s' : Sto) (V' A' X : Nat → Prop), Fx s V X s' V' → (∀ n ∈ O, ¬ X n) → (∀ n, n < s.length → A n → A' n ∧ ¬ X n) → Dn s' V' A' z d w Oz → Dns s' V' A' vs' d ws' P
theorem lop_set (j : Int) (z w : W) : LOp (setF j z) (setF j w) z w := by
  constructor
  · intro vs vs' h hl
    unfold setF at h
    obtain ⟨k, _, rfl⟩ := Option.map_eq_some_iff.mp h
    rw [List.length_set]
    exact hl
  · intro s V A vs ws vs' d O D nd h
    unfold setF at h ⊢
    obtain ⟨k, hk, rfl⟩ := Option.map_eq_some_iff.mp h
    rw [← Dns.length D, hk]
    refine ⟨_, rfl, fun Oz ndz dz => ?_⟩
    have hlt : k < vs.length := by
      unfold L2.ixN at hk
      split at hk
      · split at hk
        · cases hk; omega
        · cases hk
      · split at hk
        · cases hk; omega
        · cases hk
    obtain ⟨y, O1, Oj, O3, h1, h2, h3, h4⟩ := Dns.focus D (List.getElem?_eq_getElem hlt)
    subst h2
    rw [List.append_assoc, List.nodup_append] at nd
    obtain ⟨n1, n2, n3⟩ := nd
    rw [List.nodup_append] at n2
    refine ⟨O1 ++ Oz ++ O3, ?_, fun n hn => ?_, fun s' V' A' X f hO ha dz' => h4 s' V' A' X z w Oz f (fun n hn => hO n (by simp [hn])) (fun n hn => hO n (by simp [hn])) ha dz'⟩
    · rw [List.append_assoc, List.nodup_append]
      refine ⟨n1, ?_, fun a ha b hb e => ?_⟩
      · rw [List.nodup_append]
        exact ⟨ndz, n2.2.1, fun a ha b hb e => dz a ha (by rw [e]; simp [hb])⟩
      · rcases List.mem_append.mp hb with hb | hb
        · exact dz b hb (by rw [← e]; simp [ha])
        · exact n3 a ha b (List.mem_append_right _ hb) e
    · rcases List.mem_append.mp hn with hn | hn
      · rcases List.mem_append.mp hn with hn | hn
        · exact .inl (by simp [hn])
        · exact .inr hn
      · exact .inl (by simp [hn])
theorem lop_app (z w : W) : LOp (appF z) (appF w) z w := by
  constructor
  · intro vs vs' h hl
    unfold appF at h
    split at h
    · cases h
      rw [List.length_append, List.length_singleton]
      omega
    · cases h
  · intro s V A vs ws vs' d O D nd h
    unfold appF at h ⊢
    split at h
    · rename_i hl
      cases h
      rw [if_pos (by rw [← Dns.length D]; exact hl)]
      refine ⟨_, rfl, fun Oz ndz dz => ⟨O ++ Oz, ?_, fun n hn => List.mem_append.mp hn, fun s' V' A' X f hO ha dz' => (Dns.frameX f ha _ _ _ _ hO D).snoc dz'⟩⟩
      rw [List.nodup_append]
      exact ⟨nd, ndz, fun a ha b hb e => dz b hb (by rw [← e]; exact ha)⟩
    · cases h
theorem Dns.del {s : Sto} {V A : Nat → Prop} : ∀ {vs ws : List W} {O : List Nat} {d : Nat} (j : Nat), Dns s V A vs d ws O → ∃ P, P.Sublist O ∧ Dns s V A (vs.eraseIdx j) d (ws.eraseIdx j) P
  | [], _, O, d, j, h => by
    rw [h.1]
    exact ⟨O, List.Sublist.refl _, by cases j <;> exact ⟨rfl, h.2⟩⟩
  | v :: vs, _, _, d, 0, ⟨w, ws', O1, O2, rfl, rfl, h1, h2⟩ => ⟨O2, List.sublist_append_right .., h2⟩
  | v :: vs, _, _, d, j + 1, ⟨w, ws', O1, O2, rfl, rfl, h1, h2⟩ => by
    obtain ⟨P, p1, p2⟩ := Dns.del j h2
    exact ⟨O1 ++ P, List.Sublist.append (List.Sublist.refl _) p1, w, _, O1, P, rfl, rfl, h1, p2⟩
theorem lop_del {f : List W → Option (List W)} (jf : Nat → Nat → Prop) (hf : ∀ vs vs', f vs = some vs' → ∃ j, jf vs.length j ∧ vs' = vs.eraseIdx j) (hg : ∀ (vs ws vs' : List W) (j : Nat), vs.length = ws.length → f vs = some vs' → jf vs.length j → vs' = vs.eraseIdx j → f ws = some (ws.eraseIdx j)) : LOp f f .non .non := by
  constructor
  · intro vs vs' h hl
    obtain ⟨j, _, rfl⟩ := hf vs vs' h
    exact Nat.le_trans (List.length_eraseIdx_le _ _) hl
  · intro s V A vs ws vs' d O D nd h
    obtain ⟨j, h1, h2⟩ := hf vs vs' h
    obtain ⟨P, p1, p2⟩ := Dns.del j D
    refine ⟨_, hg vs ws vs' j (Dns.length D) h h1 h2, fun Oz ndz dz => ⟨P, nd.sublist p1, fun n hn => .inl (p1.mem hn), fun s' V' A' X f hO ha _ => ?_⟩⟩
    rw [h2]
    exact Dns.frameX f ha _ _ _ _ (fun n hn => hO n (p1.mem hn)) p2
theorem lop_pop : LOp popF popF .non .non := by
  have key : ∀ (vs : List W), vs ≠ [] → popF vs = some (vs.eraseIdx (vs.length - 1)) := fun vs h => by
    cases vs with
    | nil => exact absurd rfl h
    | cons v vs =>
      show some (v :: vs).dropLast = _
      rw [List.eraseIdx_eq_dropLast (by rfl)]
  have ne : ∀ vs vs', popF vs = some vs' → vs ≠ [] := fun vs vs' h e => by subst e; cases h
  refine lop_del (fun n j => j = n - 1) (fun vs vs' h => ?_) fun vs ws vs' j hl h hj _ => ?_
  · have := key vs (ne _ _ h)
    rw [this] at h
    cases h
    exact ⟨_, rfl, rfl⟩
  · have := ne _ _ h
    rw [hj, hl]
    refine key ws fun e => this ?_
    rw [e] at hl
    exact List.length_eq_zero_iff.mp hl
theorem lop_delAt (k : Int) : LOp (delF k) (delF k) .non .non := by
  refine lop_del (fun n j => (-(2 ^ 63) ≤ k ∧ k < 2 ^ 63) ∧ seqIndex? k n = some j ∧ j < n) (fun vs vs' h => ?_) fun vs ws vs' j hl h hj _ => ?_
  · unfold delF at h
    split at h
    · rename_i hk
      obtain ⟨j, h1, h2⟩ := Option.bind_eq_some_iff.mp h
      split at h2
      · rename_i h3
        cases h2
        exact ⟨j, ⟨hk, h1, h3⟩, rfl⟩
      · cases h2
    · cases h
  · rw [hl] at hj
    unfold delF
    rw [if_pos hj.1, hj.2.1, Option.bind_some, if_pos hj.2.2]
theorem lop_clr : LOp clrF clrF .non .non := by
  constructor
  · intro vs vs' h hl
    cases h
    exact Nat.zero_le _
  · intro s V A vs ws vs' d O D nd h
    cases h
    exact ⟨[], rfl, fun Oz ndz dz => ⟨[], List.nodup_nil, (fun _ h => nomatch h), fun s' V' A' X f hO ha _ => ⟨rfl, rfl⟩⟩⟩
theorem Dns.app {s : Sto} {V A : Nat → Prop} : ∀ {vs us ws xs : List W} {O1 O2 : List Nat} {d : Nat}, Dns s V A vs d ws O1 → Dns s V A us d xs O2 → Dns s V A (vs ++ us) d (ws ++ xs) (O1 ++ O2)
  | [], _, _, _, _, _, _, ⟨rfl, rfl⟩, k => k
  | v :: vs, _, _, _, _, O2, _, ⟨x, ws', P1, P2, rfl, rfl, h1, h2⟩, k => ⟨x, _, P1, P2 ++ O2, rfl, by rw [List.append_assoc], h1, Dns.app h2 k⟩
theorem lop_ext (us xs : List W) (hl : us.length = xs.length) : LOp (extF us) (extF xs) (.tup us) (.tup xs) := by
  constructor
  · intro vs vs' h hl
    unfold extF at h
    split at h
    · cases h
      rw [List.length_append]
      omega
    · cases h
  · intro s V A vs ws vs' d O D nd h
    unfold extF at h ⊢
    split at h
    · rename_i hl2
      cases h
      rw [if_pos (by rw [← Dns.length D, ← hl]; exact hl2)]
      refine ⟨_, rfl, fun Oz ndz dz => ⟨O ++ Oz, ?_, fun n hn => List.mem_append.mp hn, fun s' V' A' X f hO ha dz' => ?_⟩⟩
      · rw [List.nodup_append]
        exact ⟨nd, ndz, fun a ha b hb e => dz b hb (by rw [← e]; exact ha)⟩
      · obtain ⟨xs', e, dz'⟩ := dz'
        cases e
        exact (Dns.frameX f ha _ _ _ _ hO D).app dz'
    · cases h
def rsv (s : Sto) : List Int → W → Option W
  | [], w => some w
  | j :: p, .tup ws => (atW ws j).bind fun w => rsv s p w
  | j :: p, w => (lsq w s).bind fun ws => (atW ws j).bind fun w => rsv s p w
theorem Dn.chgL {f fw : List W → Option (List W)} {z zw : W} (L : LOp f fw z zw) {s : Sto} {V A : Nat → Prop} : ∀ (p : List Int) (v w v' : W) (d : Nat) (O : List Nat), Dn s V A v d w O → d ≠ 0 → (d = 2 ∨ p = []) → O.Nodup → chg f p v = some v' →
    ∃ n ws ws', rsv s p w = some (.loc n) ∧ n ∈ O ∧ s[n]? = some ws ∧ fw ws = some ws' ∧ ∀ Oz : List Nat, Oz.Nodup → (∀ m ∈ Oz, m ∉ O) → ∃ P, P.Nodup ∧ (∀ m ∈ P, m ∈ O ∨ m ∈ Oz) ∧
      ∀ A' : Nat → Prop, (∀ m, A m → A' m ∧ m ≠ n) → Dn (s.set n ws') V A' z (inn d) zw Oz → Dn (s.set n ws') V A' v' d w P := by
  have fset : ∀ n (ws' : List W), Fx s V (fun m => m = n) (s.set n ws') V := fun n ws' => ⟨by rw [List.length_set]; exact Nat.le_refl _, fun m us hv hx h => by rw [List.getElem?_set_ne (fun z => hx z.symm)]; exact h, fun _ h => h, fun _ _ h => h⟩
  intro p
  induction p with
  | nil =>
    intro v w v' d O D h0 h1 nd hc
    cases v with
    | cl vs =>
      obtain ⟨vs', hf, rfl⟩ := Option.map_eq_some_iff.mp (show (f vs).map W.cl = some v' from hc)
      obtain ⟨hsz, D⟩ := D
      rcases D with ⟨n, ws, e1, hs, hv, D⟩ | ⟨_, _, z0, _⟩
      · rcases D with ⟨z0, _⟩ | ⟨_, O', hO, D⟩
        · exact absurd z0 h0
        · subst e1 hO
          rw [List.nodup_cons] at nd
          obtain ⟨ws', k1, k2⟩ := L.run D nd.2 hf
          refine ⟨n, ws, ws', rfl, List.mem_cons_self, hs, k1, fun Oz ndz dz => ?_⟩
          obtain ⟨P, p1, p2, p3⟩ := k2 Oz ndz fun m hm hm2 => dz m hm (List.mem_cons_of_mem _ hm2)
          refine ⟨n :: P, List.nodup_cons.mpr ⟨fun z => ?_, p1⟩, fun m hm => ?_, fun A' ha dz' => ⟨L.sz _ _ hf hsz, .inl ⟨n, ws', rfl, by rw [List.getElem?_set_self (lt_of hs)], hv, .inr ⟨h0, P, rfl, p3 _ _ _ _ (fset n ws') (fun m hm y => nd.1 (by rw [← y]; exact hm)) (fun m _ h => ha m h) dz'⟩⟩⟩⟩
          · rcases p2 n z with z | z
            · exact nd.1 z
            · exact dz n z List.mem_cons_self
          · rcases List.mem_cons.mp hm with z | z
            · rw [z]; exact .inl List.mem_cons_self
            · exact (p2 m z).imp (fun h => List.mem_cons_of_mem _ h) id
      · exact absurd z0 h0
    | _ => cases hc
  | cons j q ih =>
    intro v w v' d O D h0 h1 nd hc
    have hd : d = 2 := h1.resolve_right (by simp)
    subst hd
    -- in a row of things
    have row : ∀ (us wus : List W) (O' : List Nat) (u' : W) (mk : List W → W), Dns s V A us 2 wus O' → O'.Nodup → ((L2.ixN us.length j).bind fun k => (us[k]?).bind fun x => (chg f q x).map fun x' => mk (us.set k x')) = some u' →
        ∃ k x' n ws ws', u' = mk (us.set k x') ∧ ((atW wus j).bind fun y => rsv s q y) = some (.loc n) ∧ n ∈ O' ∧ s[n]? = some ws ∧ fw ws = some ws' ∧ ∀ Oz : List Nat, Oz.Nodup → (∀ m ∈ Oz, m ∉ O') → ∃ P, P.Nodup ∧ (∀ m ∈ P, m ∈ O' ∨ m ∈ Oz) ∧
          ∀ A' : Nat → Prop, (∀ m, A m → A' m ∧ m ≠ n) → Dn (s.set n ws') V A' z 2 zw Oz → Dns (s.set n ws') V A' (us.set k x') 2 wus P := by
      intro us wus O' u' mk D nd hc
      obtain ⟨k, hk, hc⟩ := Option.bind_eq_some_iff.mp hc
      obtain ⟨x, hx, hc⟩ := Option.bind_eq_some_iff.mp hc
      obtain ⟨x', hx', rfl⟩ := Option.map_eq_some_iff.mp hc
      obtain ⟨y, O1, Oj, O3, q1, q2, q3, q4⟩ := Dns.focus D hx
      subst q2
      have nd0 := nd
      rw [List.append_assoc, List.nodup_append] at nd
      obtain ⟨d1, d2, d3⟩ := nd
      rw [List.nodup_append] at d2
      obtain ⟨n, ws, ws', r1, hn, hs, k1, k2⟩ := ih x y x' 2 Oj q3 (by decide) (.inl rfl) d2.1 hx'
      refine ⟨k, x', n, ws, ws', rfl, ?_, by simp [hn], hs, k1, fun Oz ndz dz => ?_⟩
      · unfold atW
        rw [← Dns.length D, hk, Option.bind_some, q1, Option.bind_some]
        exact r1
      · obtain ⟨P, p1, p2, p3⟩ := k2 Oz ndz fun m hm hm2 => dz m hm (by simp [hm2])
        have PO : ∀ m ∈ P, m ∉ O1 ∧ m ∉ O3 := fun m hm => by
          rcases p2 m hm with h | h
          · exact ⟨fun y => d3 m y m (by simp [h]) rfl, fun y => d2.2.2 m h m y rfl⟩
          · have := dz m h
            simp only [List.mem_append, not_or] at this
            exact ⟨this.1.1, this.2⟩
        refine ⟨O1 ++ P ++ O3, ?_, fun m hm => ?_, fun A' ha dz' => ?_⟩
        · rw [List.append_assoc, List.nodup_append]
          refine ⟨d1, ?_, fun a ha b hb e => ?_⟩
          · rw [List.nodup_append]
            exact ⟨p1, d2.2.1, fun a ha b hb e => (PO a ha).2 (by rw [e]; exact hb)⟩
          · rcases List.mem_append.mp hb with hb | hb
            · exact (PO b hb).1 (by rw [← e]; exact ha)
            · exact d3 a ha b (by simp [hb]) e
        · simp only [List.mem_append] at hm ⊢
          rcases hm with (hm | hm) | hm
          · exact .inl (.inl (.inl hm))
          · exact (p2 m hm).imp (fun h => .inl (.inr h)) id
          · exact .inl (.inr hm)
        · have := q4 (s.set n ws') V A' (fun m => m = n) x' y P (fset n ws') (fun m hm y => d3 m hm n (by simp [hn]) y) (fun m hm y => d2.2.2 n hn m hm y.symm) (fun m _ h => ha m h) (p3 A' ha dz')
          have es : wus.set k y = wus := by
            obtain ⟨hk1, hk2⟩ := List.getElem?_eq_some_iff.mp q1
            rw [← hk2, List.set_getElem_self]
          rw [es] at this
          exact this
    cases v with
    | cl us =>
      obtain ⟨hsz, D⟩ := D
      rcases D with ⟨n0, wus, e1, hs0, hv0, D⟩ | ⟨_, _, z0, _⟩
      · rcases D with ⟨z0, _⟩ | ⟨_, O', hO, D⟩
        · cases z0
        · subst e1 hO
          rw [List.nodup_cons] at nd
          obtain ⟨k, x', n, ws, ws', rfl, r1, hn, hs, k1, k2⟩ := row us wus O' v' W.cl D nd.2 hc
          refine ⟨n, ws, ws', ?_, List.mem_cons_of_mem _ hn, hs, k1, fun Oz ndz dz => ?_⟩
          · show ((s[n0]?).bind fun ws => (atW ws j).bind fun w => rsv s q w) = _
            rw [hs0]
            exact r1
          · obtain ⟨P, p1, p2, p3⟩ := k2 Oz ndz fun m hm hm2 => dz m hm (List.mem_cons_of_mem _ hm2)
            have nn : n0 ≠ n := fun y => nd.1 (by rw [y]; exact hn)
            refine ⟨n0 :: P, List.nodup_cons.mpr ⟨fun h => ?_, p1⟩, fun m hm => ?_, fun A' ha dz' => ⟨by rw [List.length_set]; exact hsz, .inl ⟨n0, wus, rfl, by rw [List.getElem?_set_ne (Ne.symm nn)]; exact hs0, hv0, .inr ⟨by decide, P, rfl, p3 A' ha dz'⟩⟩⟩⟩
            · rcases p2 n0 h with h | h
              · exact nd.1 h
              · exact dz n0 h List.mem_cons_self
            · rcases List.mem_cons.mp hm with h | h
              · rw [h]; exact .inl List.mem_cons_self
              · exact (p2 m h).imp (fun h => List.mem_cons_of_mem _ h) id
      · cases z0
    | tup us =>
      obtain ⟨wus, rfl, D⟩ := D
      obtain ⟨k, x', n, ws, ws', rfl, r1, hn, hs, k1, k2⟩ := row us wus O v' W.tup D nd hc
      refine ⟨n, ws, ws', r1, hn, hs, k1, fun Oz ndz dz => ?_⟩
      obtain ⟨P, p1, p2, p3⟩ := k2 Oz ndz dz
      exact ⟨P, p1, p2, fun A' ha dz' => ⟨wus, rfl, p3 A' ha dz'⟩⟩
    | _ => cases hc
section
variable {s0 s : Sto} {V0 F V : Nat → Prop} {e e' : Sl} {τ : Nat → Nat} {OS : Nat → List Nat} {z w : W} {f fw : List W → Option (List W)}
theorem Iv.mutate {i : Nat} {p : List Int} {v v' : W} (I : Iv s0 V0 F s V (e ++ [some z]) τ (e' ++ [some w]) OS) (hl : e.length = e'.length) (hi : e[i]? = some (some v)) (L : LOp f fw z w) (h0 : τ i ≠ 0) (h1 : τ i = 2 ∨ (τ i = 1 ∧ p = [])) (hz : τ i = 2 → flat z = true ∨ τ e.length = 2)
    (hc : chg f p v = some v') : ∃ wi n ws ws', e'[i]? = some (some wi) ∧ rsv s p wi = some (.loc n) ∧ s[n]? = some ws ∧ fw ws = some ws' ∧
      ∃ OS', Iv s0 V0 F (s.set n ws') V (e.set i (some v')) (fun j => if j = e.length then 0 else τ j) e' OS' ∧ Sx s V OS (s.set n ws') V OS' := by
  have hlt := (List.getElem?_eq_some_iff.mp hi).1
  obtain ⟨wi, hw, D⟩ := I.at_ i v (by rw [List.getElem?_append_left hlt]; exact hi)
  rw [List.getElem?_append_left (by rw [← hl]; exact hlt)] at hw
  obtain ⟨u, hu, Dz⟩ := I.at_ e.length z (by rw [List.getElem?_append_right (Nat.le_refl _), Nat.sub_self]; rfl)
  rw [hl, List.getElem?_append_right (Nat.le_refl _), Nat.sub_self] at hu
  cases hu
  have hne : i ≠ e.length := by omega
  have ndi := I.nd i
  -- the end: by the new tree
  have fin : ∀ (n : Nat) (ws' : List W) (P : List Nat), n ∈ OS i → P.Nodup → (∀ m ∈ P, m ∈ OS i ∨ m ∈ OS e.length) → Dn (s.set n ws') V (fun m => ¬ F m ∧ m ∉ P ∧ ∀ j, j ≠ i → j ≠ e.length → m ∉ OS j) v' (τ i) wi P →
      ∃ OS', Iv s0 V0 F (s.set n ws') V (e.set i (some v')) (fun j => if j = e.length then 0 else τ j) e' OS' ∧ Sx s V OS (s.set n ws') V OS' := fun n ws' P hn ndP hP d => by
    obtain ⟨I1, S1⟩ := I.upd (k := e.length) hne hn (by rw [List.getElem?_append_left (by rw [← hl]; exact hlt)]; exact hw) hP ndP (I.t2 i) d
    have ee : ((e ++ [some z]).set i (some v')).set e.length none = e.set i (some v') ++ [none] := by
      rw [List.set_append_left _ _ (by omega), List.set_append_right _ _ (by rw [List.length_set]; omega), List.length_set, Nat.sub_self]
      rfl
    rw [ee] at I1
    have I2 := I1.init (by rw [List.length_set, hl])
    refine ⟨_, I2.tags fun j => ?_, S1.trans (Sx.refl fun j m hm => ?_)⟩
    · show (if j = e.length then 0 else τ j) = if j = i then τ i else if j = e.length then 0 else τ j
      by_cases h : j = i
      · subst h
        rw [if_pos rfl, if_neg hne]
      · rw [if_neg h]
    · split at hm
      · exact ⟨j, hm⟩
      · cases hm
  have fset : ∀ n (ws' : List W), Fx s V (fun m => m = n) (s.set n ws') V := fun n ws' => ⟨by rw [List.length_set]; exact Nat.le_refl _, fun m us hv hx h => by rw [List.getElem?_set_ne (fun z => hx z.symm)]; exact h, fun _ h => h, fun _ _ h => h⟩
  -- the value's own lists, at the inner tag
  have zat : ∀ (n : Nat) (ws' : List W), n ∈ OS i → ∃ Oz, Oz.Nodup ∧ (∀ m ∈ Oz, m ∈ OS e.length) ∧ ∀ A' : Nat → Prop, (∀ m, (¬ F m ∧ ∀ j, m ∉ OS j) → A' m) → (∀ m ∈ OS e.length, m ∉ Oz → A' m) → Dn (s.set n ws') V A' z (inn (τ i)) w Oz := fun n ws' hn => by
    have fr : ∀ {d O A A'}, (∀ m ∈ O, m ∈ OS e.length) → (∀ m, A m → A' m ∧ m ≠ n) → Dn s V A z d w O → Dn (s.set n ws') V A' z d w O := fun {d O A A'} hO ha d => Dn.frameX (fset n ws') (fun m _ h => ha m h) _ _ _ _ (fun m hm q => I.dis i e.length n hne hn (by rw [← q]; exact hO m hm)) d
    by_cases h2 : τ i = 2
    · have hin : inn (τ i) = 2 := by rw [h2]; rfl
      rw [hin]
      rcases hz h2 with hf | ht
      · exact ⟨[], List.nodup_nil, (fun _ h => nomatch h), fun A' ha _ => fr (A := fun _ => False) (fun _ h => nomatch h) (fun _ h => h.elim) ((Dn.flat _ _ _ _ hf Dz).2 _ _)⟩
      · rw [ht] at Dz
        exact ⟨OS e.length, I.nd _, (fun _ h => h), fun A' ha _ => fr (A := fun _ => False) (fun _ h => h) (fun _ h => h.elim) (Dn.all _ _ _ Dz)⟩
    · have hin : inn (τ i) = 0 := by unfold inn; rw [if_neg h2]
      rw [hin]
      refine ⟨[], List.nodup_nil, (fun _ h => nomatch h), fun A' ha hO => ?_⟩
      refine fr (A := fun m => A' m ∧ m ≠ n) (fun _ h => nomatch h) (fun _ h => h) (Dn.low _ _ _ _ Dz (fun m h => ⟨ha m h, fun e => h.2 i (by rw [e]; exact hn)⟩) fun m hm => ⟨hO m hm (by simp), fun q => I.dis i e.length n hne hn (by rw [← q]; exact hm)⟩)
  obtain ⟨n, ws, ws', k0, hn, hs, k1, k2⟩ := Dn.chgL L p v wi v' (τ i) (OS i) D h0 (h1.imp id fun h => h.2) ndi hc
  obtain ⟨Oz, z1, z2, z3⟩ := zat n ws' hn
  obtain ⟨P, p1, p2, p3⟩ := k2 Oz z1 fun m hm hm2 => I.dis i e.length m hne hm2 (z2 m hm)
  have sub : ∀ m, m ∈ P → ∃ j, m ∈ OS j := fun m hm => (p2 m hm).elim (fun h => ⟨i, h⟩) fun h => ⟨_, z2 m h⟩
  refine ⟨wi, n, ws, ws', hw, k0, hs, k1, fin n ws' P hn p1 (fun m hm => (p2 m hm).imp id fun h => z2 m h) (p3 _ (fun m h => ⟨⟨h.1, fun y => (sub m y).elim h.2, fun j _ _ => h.2 j⟩, fun y => h.2 i (by rw [y]; exact hn)⟩) (z3 _ (fun m h => ⟨h.1, fun y => (sub m y).elim h.2, fun j _ _ => h.2 j⟩) fun m hm hp => ⟨I.nf hm, fun y => ?_, fun j _ hj => I.dis _ j m (Ne.symm hj) hm⟩))⟩
  rcases p2 m y with y | y
  · exact I.dis i e.length m hne y hm
  · exact hp y
end
end Pq

namespace Pq
open PySem Py Pl
def RelF (s0 : Sto) (V0 F : Nat → Prop) (s : Sto) (V : Nat → Prop) (OS : Nat → List Nat) : FlP → Fl → Sto → Prop
  | .nx e o, fl, s1 => ∃ e' V1 OS1, fl = .nx e' ∧ Iv s0 V0 F s1 V1 e (tg o) e' OS1 ∧ Sx s V OS s1 V1 OS1
  | .bk e o, fl, s1 => ∃ e' V1 OS1, fl = .bk e' ∧ Iv s0 V0 F s1 V1 e (tg o) e' OS1 ∧ Sx s V OS s1 V1 OS1
  | .ct e o, fl, s1 => ∃ e' V1 OS1, fl = .ct e' ∧ Iv s0 V0 F s1 V1 e (tg o) e' OS1 ∧ Sx s V OS s1 V1 OS1
  | .rt z t, fl, s1 => ∃ w V1 O, fl = .rt w ∧ RES s0 V0 F s1 V1 t z w O
def PoS (s0 : Sto) (V0 F : Nat → Prop) (s : Sto) (V : Nat → Prop) (OS : Nat → List Nat) (Q : FlP → Prop) : QK Fl := fun fl s1 => ∃ f, Q f ∧ RelF s0 V0 F s V OS f fl s1
section
variable {s0 s s1 : Sto} {V0 F V V1 : Nat → Prop} {OS OS1 : Nat → List Nat} {Q : FlP → Prop}
theorem PoS.trans (S : Sx s V OS s1 V1 OS1) {fl : Fl} {s2 : Sto} (h : PoS s0 V0 F s1 V1 OS1 Q fl s2) : PoS s0 V0 F s V OS Q fl s2 := by
  obtain ⟨f, q, r⟩ := h
  refine ⟨f, q, ?_⟩
  cases f with
  | nx e o => obtain ⟨e', V2, OS2, a, b, c⟩ := r; exact ⟨e', V2, OS2, a, b, S.trans c⟩
  | bk e o => obtain ⟨e', V2, OS2, a, b, c⟩ := r; exact ⟨e', V2, OS2, a, b, S.trans c⟩
  | ct e o => obtain ⟨e', V2, OS2, a, b, c⟩ := r; exact ⟨e', V2, OS2, a, b, S.trans c⟩
  | rt z t => exact r
theorem pos_nx {e e' : Sl} {o : Own} (q : Q (.nx e o)) (I : Iv s0 V0 F s1 V1 e (tg o) e' OS1) (S : Sx s V OS s1 V1 OS1) : PoS s0 V0 F s V OS Q (.nx e') s1 := ⟨_, q, e', V1, OS1, rfl, I, S⟩
theorem pos_rt {z w : W} {t : Nat} {O : List Nat} (q : Q (.rt z t)) (r : RES s0 V0 F s1 V1 t z w O) : PoS s0 V0 F s V OS Q (.rt w) s1 := ⟨_, q, w, V1, O, rfl, r⟩
theorem Iv.pox {e e' : Sl} {τ : Nat → Nat} {Z : KZ} (I : Iv s0 V0 F s V e τ e' OS) {c : Str} {s' : Sto} (h : PoX s V Z c s') : PoX s0 V0 Z c s' := h.trans I.fm
theorem Iv.res {e e' : Sl} {τ : Nat → Nat} {t : Nat} {z w : W} {O : List Nat} (I : Iv s0 V0 F s V e τ e' OS) (r : RES s V F s1 V1 t z w O) : RES s0 V0 F s1 V1 t z w O :=
  ⟨I.fm.trans r.fm, r.dn, r.nd, fun n hn => Nat.le_trans I.fm.len (r.ge n hn), r.ur, r.t2⟩
theorem Iv.nil {e e' : Sl} {τ : Nat → Nat} (I : Iv s0 V0 F s V e τ e' OS) : Iv s0 V0 F s V (e ++ []) τ (e' ++ []) OS := by rw [List.append_nil, List.append_nil]; exact I
end
theorem rsv_app (s : Sto) : ∀ (p : List Int) (w ow : W) (j : Int), rsv s p w = some ow → rsv s (p ++ [j]) w = rsv s [j] ow
  | [], w, ow, j, h => by cases h; rfl
  | k :: p, w, ow, j, h => by
    have step : ∀ (ws : List W), (atW ws k).bind (fun w => rsv s p w) = some ow → (atW ws k).bind (fun w => rsv s (p ++ [j]) w) = rsv s [j] ow := fun ws h => by
      obtain ⟨x, h1, h2⟩ := Option.bind_eq_some_iff.mp h
      rw [h1, Option.bind_some]
      exact rsv_app s p x ow j h2
    have stepl : ∀ (w : W), ((lsq w s).bind fun ws => (atW ws k).bind fun w => rsv s p w) = some ow → ((lsq w s).bind fun ws => (atW ws k).bind fun w => rsv s (p ++ [j]) w) = rsv s [j] ow := fun w h => by
      obtain ⟨ws, h1, h2⟩ := Option.bind_eq_some_iff.mp h
      rw [h1, Option.bind_some]
      exact step ws h2
    cases w with
    | tup ws => exact step ws h
    | _ => exact stepl _ h
theorem subP_app : ∀ (p : List Int) (v : W) (j : Int), subP v (p ++ [j]) = (subP v p).bind fun w => subW w j
  | [], v, j => by
    show (subW v j).bind (fun w => some w) = (some v).bind fun w => subW w j
    rw [Option.bind_some]
    cases subW v j <;> rfl
  | k :: p, v, j => by
    show (subW v k).bind (fun w => subP w (p ++ [j])) = ((subW v k).bind fun w => subP w p).bind fun w => subW w j
    rw [Option.bind_assoc]
    congr 1
    funext w
    exact subP_app p w j
theorem D0.sub {s : Sto} {V A : Nat → Prop} : ∀ (p : List Int) (v w x : W), D0 s V A v w → subP v p = some x → ∃ ow, (∀ s2 V2, Fm s V s2 V2 → rsv s2 p w = some ow) ∧ D0 s V A x ow
  | [], v, w, x, d, h => by cases h; exact ⟨w, fun _ _ _ => rfl, d⟩
  | j :: p, v, w, x, d, h => by
    have h : (subW v j).bind (fun w => subP w p) = some x := h
    obtain ⟨u, h1, h2⟩ := Option.bind_eq_some_iff.mp h
    cases v with
    | cl vs =>
      obtain ⟨ws, a1, b1, _, c1⟩ := d.lst
      obtain ⟨y, hy, dy⟩ := atW_dn b1 (show atW vs j = some u from h1)
      obtain ⟨ow, k1, k2⟩ := D0.sub p u y x dy h2
      refine ⟨ow, fun s2 V2 f => ?_, k2⟩
      rcases c1 with ⟨n, rfl, c1, hv, _⟩ | rfl
      · show ((s2[n]?).bind fun ws => (atW ws j).bind fun w => rsv s2 p w) = _
        rw [f.get n ws hv c1, Option.bind_some, hy, Option.bind_some]
        exact k1 s2 V2 f
      · show (atW ws j).bind (fun w => rsv s2 p w) = _
        rw [hy, Option.bind_some]
        exact k1 s2 V2 f
    | tup vs =>
      obtain ⟨ws, rfl, b1⟩ := d
      obtain ⟨y, hy, dy⟩ := atW_dn b1 (show atW vs j = some u from h1)
      obtain ⟨ow, k1, k2⟩ := D0.sub p u y x dy h2
      refine ⟨ow, fun s2 V2 f => ?_, k2⟩
      show (atW ws j).bind (fun w => rsv s2 p w) = _
      rw [hy, Option.bind_some]
      exact k1 s2 V2 f
    | _ => cases h1
section
variable {G : G} {g : PG} {RR : B → Sl → Own → (FlP → Prop) → KZ → Prop} (hG : SimG G g)
include hG
theorem lv_dn : ∀ (lv : E) (e e' : Sl) (s : Sto) (V F : Nat → Prop) (Q : Nat → List Int → Prop) (Z : KZ), lvP g lv e Q Z → EnvR s V F e e' → Fb s F → Ur s V →
    (ev G lv e' s).wp (fun ow s1 => ∃ i p V1, Q i p ∧ Fm s V s1 V1 ∧ Ur s1 V1 ∧ ∃ wi, e'[i]? = some (some wi) ∧ ∀ s2 V2, Fm s1 V1 s2 V2 → rsv s2 p wi = some ow) (PoX s V Z)
  | .var i, e, e', s, V, F, Q, Z, h, he, fb, ur => by
    rw [lvP] at h
    obtain ⟨v, hv, q⟩ := slot_some h
    obtain ⟨w, a, b⟩ := he.at_ i v hv
    exact e_var a ⟨i, [], V, q, .refl, ur, w, a, fun _ _ _ => rfl⟩
  | .ix a b, e, e', s, V, F, Q, Z, h, he, fb, ur => by
    rw [lvP] at h
    refine e_ix ((lv_dn a e e' s V F _ Z h he fb ur).mono fun ow s1 z => ?_)
    obtain ⟨i, p, V1, q, f1, ur1, wi, hw, hr⟩ := z
    refine (simE hG b e e' s1 V1 F _ Z q (he.later f1) (fb.up f1) ur1).imp (fun u s2 z => ?_) fun _ _ z => z.trans f1
    obtain ⟨z1, t1, V2, O1, q1, r1⟩ := z
    obtain ⟨j, rfl, q⟩ := toIP_some q1
    rw [(r1.low (fb.up f1)).1]
    obtain ⟨v, hv, q⟩ := slot_some q
    obtain ⟨x, hx, q2⟩ := ofO_some q
    obtain ⟨w, a1, d⟩ := he.at_ i v hv
    rw [hw] at a1
    cases a1
    have f2 := f1.trans r1.fm
    have d2 : D0 s2 V2 (Nt F) v wi := Dn.frame f2 (fun _ _ h => h) _ _ _ _ d
    obtain ⟨y, k1, k2⟩ := D0.sub (p ++ [j]) v wi x d2 hx
    rw [subP_app] at hx
    obtain ⟨xu, hx1, hx2⟩ := Option.bind_eq_some_iff.mp hx
    obtain ⟨ou, k3, k4⟩ := D0.sub p v wi xu d2 hx1
    have eo : ou = ow := by
      have := k3 s2 V2 .refl
      rw [hr s2 V2 r1.fm] at this
      exact (Option.some.inj this).symm
    subst eo
    have hy := k1 s2 V2 .refl
    rw [rsv_app s2 p wi ou j (k3 s2 V2 .refl)] at hy
    have fin : ∃ i p V1, Q i p ∧ Fm s V s2 V1 ∧ Ur s2 V1 ∧ ∃ wi, e'[i]? = some (some wi) ∧ ∀ s3 V3, Fm s2 V1 s3 V3 → rsv s3 p wi = some y := ⟨i, p ++ [j], V2, q2, f2, r1.ur, wi, hw, k1⟩
    cases xu with
    | cl vs =>
      obtain ⟨ws, a1, b1, _, c1⟩ := k4.lst
      have hy : atW ws j = some y := by
        have : ((lsq ou s2).bind fun ws => (atW ws j).bind fun w => some w) = some y := by
          rcases c1 with ⟨n, rfl, _⟩ | rfl <;> exact hy
        rw [a1, Option.bind_some] at this
        obtain ⟨_, h1, h2⟩ := Option.bind_eq_some_iff.mp this
        cases h2
        exact h1
      exact o_ix a1 hy fin
    | tup vs =>
      obtain ⟨ws, rfl, b1⟩ := k4
      have hy : atW ws j = some y := by
        have : (atW ws j).bind (fun w => some w) = some y := hy
        obtain ⟨_, h1, h2⟩ := Option.bind_eq_some_iff.mp this
        cases h2
        exact h1
      exact o_ixt hy fin
    | _ => cases hx2
  | .con _, _, _, _, _, _, _, _, h, _, _, _ => h.elim
  | .fref _, _, _, _, _, _, _, _, h, _, _, _ => h.elim
  | .int _, _, _, _, _, _, _, _, h, _, _, _ => h.elim
  | .bl _, _, _, _, _, _, _, _, h, _, _, _ => h.elim
  | .non, _, _, _, _, _, _, _, h, _, _, _ => h.elim
  | .str _, _, _, _, _, _, _, _, h, _, _, _ => h.elim
  | .nil, _, _, _, _, _, _, _, h, _, _, _ => h.elim
  | .cons _ _, _, _, _, _, _, _, _, h, _, _, _ => h.elim
  | .bin _ _ _, _, _, _, _, _, _, _, h, _, _, _ => h.elim
  | .neg _, _, _, _, _, _, _, _, h, _, _, _ => h.elim
  | .no _, _, _, _, _, _, _, _, h, _, _, _ => h.elim
  | .cmp _ _ _, _, _, _, _, _, _, _, h, _, _, _ => h.elim
  | .chain _ _ _ _ _, _, _, _, _, _, _, _, h, _, _, _ => h.elim
  | .and _ _, _, _, _, _, _, _, _, h, _, _, _ => h.elim
  | .or _ _, _, _, _, _, _, _, _, h, _, _, _ => h.elim
  | .one _, _, _, _, _, _, _, _, h, _, _, _ => h.elim
  | .ite _ _ _, _, _, _, _, _, _, _, h, _, _, _ => h.elim
  | .tup _, _, _, _, _, _, _, _, h, _, _, _ => h.elim
  | .lst _, _, _, _, _, _, _, _, h, _, _, _ => h.elim
  | .sl _ _ _, _, _, _, _, _, _, _, h, _, _, _ => h.elim
  | .rv _, _, _, _, _, _, _, _, h, _, _, _ => h.elim
  | .call _ _, _, _, _, _, _, _, _, h, _, _, _ => h.elim
  | .callv _ _, _, _, _, _, _, _, _, h, _, _, _ => h.elim
  | .bi _ _, _, _, _, _, _, _, _, h, _, _, _ => h.elim
  | .mt _ _ _, _, _, _, _, _, _, _, h, _, _, _ => h.elim
  | .isi _ _, _, _, _, _, _, _, _, h, _, _, _ => h.elim
  | .comp _ _ _ _ _ _, _, _, _, _, _, _, _, h, _, _, _ => h.elim
omit hG in
theorem Iv.put0 {s0 s : Sto} {V0 F V : Nat → Prop} {e e' : Sl} {o : Own} {OS : Nat → List Nat} {z w : W} (I : Iv s0 V0 F s V e (tg o) e' OS) (i : Nat) (d : D0 s V (fun n => ¬ F n ∧ ∀ j, n ∉ OS j) z w) :
    ∃ OS', Iv s0 V0 F s V (e.set i (some z)) (tg (drp o i)) (e'.set i (some w)) OS' ∧ ∀ j n, n ∈ OS' j → ∃ j', n ∈ OS j' := by
  have I1 := I.push .refl I.ur (z := z) (w := w) (t := 0) (O := []) (Dn.frame .refl (fun n _ h => ⟨h.1, h.2, by simp⟩) _ _ _ _ d) List.nodup_nil (fun _ h => nomatch h) (by decide)
  obtain ⟨OS2, I2, sub⟩ := I1.asg I.len i (drp o i) (fun j hj => by
    rw [tg_drp]
    split
    · exact Nat.zero_le _
    · show _ ≤ (if j = e.length then 0 else tg o j)
      rw [if_neg (by omega)]
      exact Nat.le_refl _) (fun j => by
    rw [tg_drp]
    split
    · decide
    · exact I.t2 j)
  refine ⟨OS2, I2, fun j n hn => ?_⟩
  obtain ⟨j', h⟩ := sub j n hn
  have h : n ∈ (if j' = e.length then [] else OS j') := h
  split at h
  · cases h
  · exact ⟨j', h⟩
omit hG in
theorem Iv.give {s0 s : Sto} {V0 F V : Nat → Prop} {e e' : Sl} {τ : Nat → Nat} {OS : Nat → List Nat} (I : Iv s0 V0 F s V e τ e' OS) : Iv s0 V0 F s V e (tg []) e' (fun _ => []) := by
  obtain ⟨OS', I', sub⟩ := I.weak (tg []) (fun i _ => Nat.zero_le _) (fun i => Nat.zero_le _)
  have low0 : OS' = fun _ => [] := funext fun i => by
    rcases slot_or e i with ⟨v, hv⟩ | hv
    · obtain ⟨u, _, d⟩ := I'.at_ i v hv
      exact Dn.nil0 _ _ _ d
    · exact I'.emp i hv
  rw [low0] at I'
  exact I'
omit hG in
mutual
theorem tnSet_iv {s0 s : Sto} {V0 F V : Nat → Prop} : ∀ (t : Tn) (v w : W) (e e' e1 : Sl) (o : Own) (OS : Nat → List Nat), Iv s0 V0 F s V e (tg o) e' OS → D0 s V (fun n => ¬ F n ∧ ∀ j, n ∉ OS j) v w → tnSet t v e = some e1 →
    ∃ e2 OS', tnSet t w e' = some e2 ∧ Iv s0 V0 F s V e1 (tg (drps o (tnIxs t))) e2 OS' ∧ ∀ j n, n ∈ OS' j → ∃ j', n ∈ OS j'
  | .name i, v, w, e, e', e1, o, OS, I, d, hs => by
    cases hs
    obtain ⟨OS', I', sub⟩ := I.put0 i d
    exact ⟨_, OS', rfl, I', sub⟩
  | .tup ts, v, w, e, e', e1, o, OS, I, d, hs => by
    cases v with
    | tup vs =>
      obtain ⟨ws, rfl, b⟩ := d
      exact tnSets_iv ts vs ws e e' e1 o OS I b hs
    | _ => cases hs
  | .nil, v, w, e, e', e1, o, OS, I, d, hs => by cases v <;> cases hs
  | .cons _ _, v, w, e, e', e1, o, OS, I, d, hs => by cases v <;> cases hs
theorem tnSets_iv {s0 s : Sto} {V0 F V : Nat → Prop} : ∀ (t : Tn) (vs ws : List W) (e e' e1 : Sl) (o : Own) (OS : Nat → List Nat), Iv s0 V0 F s V e (tg o) e' OS → D0s s V (fun n => ¬ F n ∧ ∀ j, n ∉ OS j) vs ws → tnSets t vs e = some e1 →
    ∃ e2 OS', tnSets t ws e' = some e2 ∧ Iv s0 V0 F s V e1 (tg (drps o (tnIxs t))) e2 OS' ∧ ∀ j n, n ∈ OS' j → ∃ j', n ∈ OS j'
  | .nil, vs, ws, e, e', e1, o, OS, I, d, hs => by
    cases vs with
    | nil =>
      cases hs
      rw [show ws = [] from d.1]
      exact ⟨e', OS, rfl, I, fun j n h => ⟨j, h⟩⟩
    | cons _ _ => cases hs
  | .cons t ts, vs, ws, e, e', e1, o, OS, I, d, hs => by
    cases vs with
    | nil => cases hs
    | cons v vs =>
      obtain ⟨w, ws', rfl, a, b⟩ := d.inv
      have hs : (tnSet t v e).bind (fun e' => tnSets ts vs e') = some e1 := hs
      obtain ⟨e2, h1, h2⟩ := Option.bind_eq_some_iff.mp hs
      obtain ⟨e3, OS1, h3, I1, sub1⟩ := tnSet_iv t v w e e' e2 o OS I a h1
      obtain ⟨e4, OS2, h5, I2, sub2⟩ := tnSets_iv ts vs ws' e2 e3 e1 _ OS1 I1 (Dns.frame .refl (fun n _ h => ⟨h.1, fun j z => (sub1 j n z).elim fun j' z => h.2 j' z⟩) _ _ _ _ b) h2
      refine ⟨e4, OS2, by show (tnSet t w e').bind (fun e' => tnSets ts ws' e') = _; rw [h3, Option.bind_some, h5], I2.tags fun j => ?_, fun j n h => (sub2 j n h).elim fun j' h => sub1 j' n h⟩
      show tg (drps o (tnIxs t ++ tnIxs ts)) j = _
      rw [tg_drps, tg_drps, tg_drps]
      by_cases h1 : j ∈ tnIxs t
      · rw [if_pos (List.mem_append_left _ h1), if_pos h1]
        split <;> rfl
      · by_cases h2 : j ∈ tnIxs ts
        · rw [if_pos (List.mem_append_right _ h2), if_pos h2]
        · rw [if_neg (fun z => (List.mem_append.mp z).elim h1 h2), if_neg h2, if_neg h1]
  | .name _, vs, ws, e, e', e1, o, OS, I, d, hs => by cases vs <;> cases hs
  | .tup _, vs, ws, e, e', e1, o, OS, I, d, hs => by cases vs <;> cases hs
end
omit hG in
theorem may_ok {o : Own} {i : Nat} {p : List Int} (h : mayB o i p = true) : tg o i = 2 ∨ (tg o i = 1 ∧ p = []) := by
  unfold mayB at h
  rw [Bool.or_eq_true, beq_iff_eq, Bool.and_eq_true, beq_iff_eq, List.isEmpty_iff] at h
  exact h
omit hG in
theorem own1_tg {o : Own} {i : Nat} {w : W} {t : Nat} (j : Nat) : tg (own1 o i w t) j = if (flat w || t == 2) = true then tg o j else if j = i then 1 else tg o j := by
  unfold own1
  split
  · rfl
  · rw [tg_cons, tg_drp]
    by_cases h : j = i
    · subst h
      rw [if_pos rfl, if_pos rfl]
    · rw [if_neg h, if_neg h, if_neg h]
theorem to_nx {s0 s : Sto} {V0 F V : Nat → Prop} {OS : Nat → List Nat} {Q : FlP → Prop} {Z : KZ} {k : B} (hk : ∀ (e : Sl) (o : Own) (e' : Sl) (s1 : Sto) (V1 : Nat → Prop) (OS1 : Nat → List Nat), RR k e o Q Z → Iv s0 V0 F s1 V1 e (tg o) e' OS1 → (exS G k e' s1).wp (PoS s0 V0 F s1 V1 OS1 Q) (PoX s0 V0 Z))
    {fl : Fl} {s1 : Sto} (h : PoS s0 V0 F s V OS (thnP (fun e o Q => RR k e o Q Z) Q) fl s1) : nxQ G k (PoS s0 V0 F s V OS Q) (PoX s0 V0 Z) fl s1 := by
  obtain ⟨f, q, r⟩ := h
  cases f with
  | nx e o =>
    obtain ⟨e', V1, OS1, rfl, I, S⟩ := r
    exact nx_nx ((hk e o e' s1 V1 OS1 q I).mono fun fl s2 r => r.trans S)
  | bk e o =>
    obtain ⟨e', V1, OS1, rfl, I, S⟩ := r
    exact ⟨_, q, e', V1, OS1, rfl, I, S⟩
  | ct e o =>
    obtain ⟨e', V1, OS1, rfl, I, S⟩ := r
    exact ⟨_, q, e', V1, OS1, rfl, I, S⟩
  | rt z t =>
    obtain ⟨w, V1, O, rfl, r⟩ := r
    exact ⟨_, q, w, V1, O, rfl, r⟩
theorem for_dn {s0 sS : Sto} {V0 F VS : Nat → Prop} {OSS : Nat → List Nat} {t : Tn} {b : B} {src : Src} {xs : List W} {Q : FlP → Prop} {Z : KZ} (hs : Sr sS VS (fun n => ¬ F n ∧ ∀ j, n ∉ OSS j) src xs)
    (hb : ∀ (e : Sl) (o : Own) (e' : Sl) (s1 : Sto) (V1 : Nat → Prop) (OS1 : Nat → List Nat) (Q : FlP → Prop), RR b e o Q Z → Iv s0 V0 F s1 V1 e (tg o) e' OS1 → (exS G b e' s1).wp (PoS s0 V0 F s1 V1 OS1 Q) (PoX s0 V0 Z)) :
    ∀ (N i : Nat) (e : Sl) (o : Own) (e' : Sl) (s1 : Sto) (V1 : Nat → Prop) (OS1 : Nat → List Nat), xs.length - i < N → i ≤ xs.length → forP (fun w e o Q => ofO (tnSet t w e) fun e' => RR b e' (drps o (tnIxs t)) Q Z) Q (xs.drop i) e o →
      Iv s0 V0 F s1 V1 e (tg o) e' OS1 → Sx sS VS OSS s1 V1 OS1 → (forL (forF G t b) N src i e' s1).wp (PoS s0 V0 F sS VS OSS Q) (PoX s0 V0 Z) := by
  intro N
  induction N with
  | zero => intro i e o e' s1 V1 OS1 h; omega
  | succ N ih =>
    intro i e o e' s1 V1 OS1 hN hi h I S
    obtain ⟨h1, h2⟩ := hs.at_ s1 V1 (fun n => ¬ F n ∧ ∀ j, n ∉ OS1 j) (fun n => ∃ j, n ∈ OSS j) S.fx (fun n hn h => ⟨⟨h.1, fun j z => by
      rcases S.gr j n z with ⟨j', z⟩ | z
      · exact h.2 j' z
      · omega⟩, fun ⟨j, z⟩ => h.2 j z⟩)
    unfold forL
    rcases Nat.lt_or_eq_of_le hi with lt | rfl
    · have hx : xs[i]? = some xs[i] := List.getElem?_eq_getElem lt
      have hd : xs.drop i = xs[i] :: xs.drop (i + 1) := List.drop_eq_getElem_cons lt
      obtain ⟨w, a, d⟩ := h1 i _ hx
      rw [a]
      rw [hd, forP] at h
      obtain ⟨e1, k1, k2⟩ := ofO_some h
      obtain ⟨e2, OS2, k3, I2, sub⟩ := tnSet_iv t _ _ _ _ _ o OS1 I d k1
      show ((forF G t b w e' s1).bind _).wp _ _
      rw [wp_bind]
      unfold forF
      rw [k3]
      refine (hb _ _ _ _ _ _ _ k2 I2).mono fun fl s2 r => ?_
      replace r := r.trans (S.trans (Sx.refl sub))
      obtain ⟨f, q, r⟩ := r
      cases f with
      | nx e3 o3 =>
        obtain ⟨e3', V3, OS3, rfl, I3, S3⟩ := r
        exact ih (i + 1) e3 o3 e3' s2 V3 OS3 (by omega) lt q I3 S3
      | ct e3 o3 =>
        obtain ⟨e3', V3, OS3, rfl, I3, S3⟩ := r
        exact ih (i + 1) e3 o3 e3' s2 V3 OS3 (by omega) lt q I3 S3
      | bk e3 o3 =>
        obtain ⟨e3', V3, OS3, rfl, I3, S3⟩ := r
        exact ⟨_, q, e3', V3, OS3, rfl, I3, S3⟩
      | rt z t =>
        obtain ⟨w, V3, O, rfl, r⟩ := r
        exact ⟨_, q, w, V3, O, rfl, r⟩
    · rw [h2]
      rw [List.drop_length, forP] at h
      exact ⟨_, h, e', V1, OS1, rfl, I, S⟩
theorem while_dn {s0 sS : Sto} {V0 F VS : Nat → Prop} {OSS : Nat → List Nat} {c : E} {b : B} {Q : FlP → Prop} {Z : KZ}
    (hb : ∀ (e : Sl) (o : Own) (e' : Sl) (s1 : Sto) (V1 : Nat → Prop) (OS1 : Nat → List Nat) (Q : FlP → Prop), RR b e o Q Z → Iv s0 V0 F s1 V1 e (tg o) e' OS1 → (exS G b e' s1).wp (PoS s0 V0 F s1 V1 OS1 Q) (PoX s0 V0 Z)) :
    ∀ (N : Nat) (e : Sl) (o : Own) (e' : Sl) (s1 : Sto) (V1 : Nat → Prop) (OS1 : Nat → List Nat), whileP (fun e Q => evTP g c e Q Z) (fun e o Q => RR b e o Q Z) Q N e o →
      Iv s0 V0 F s1 V1 e (tg o) e' OS1 → Sx sS VS OSS s1 V1 OS1 → (whileL (evT G c) (exS G b) N e' s1).wp (PoS s0 V0 F sS VS OSS Q) (PoX s0 V0 Z) := by
  intro N
  induction N with
  | zero => intro e o e' s1 V1 OS1 h; exact h.elim
  | succ N ih =>
    intro e o e' s1 V1 OS1 h I S
    rw [whileP] at h
    unfold whileL
    rw [wp_bind]
    refine (simT hG c e e' s1 V1 F _ Z h I.envR I.fbS I.ur).imp (fun t s2 z => ?_) fun _ _ z => I.pox z
    obtain ⟨q, V2, f2, ur2⟩ := z
    have I2 := I.frame f2 ur2
    have S2 := S.trans (Sx.of f2 fun j n hn => .inl ⟨j, hn⟩)
    cases t with
    | false =>
      rw [if_neg (by decide)] at q
      exact ⟨_, q, e', V2, OS1, rfl, I2, S2⟩
    | true =>
      rw [if_pos rfl] at q
      show ((exS G b e' s2).bind _).wp _ _
      rw [wp_bind]
      refine (hb _ _ _ _ _ _ _ q I2).mono fun fl s3 r => ?_
      replace r := r.trans S2
      obtain ⟨f, q, r⟩ := r
      cases f with
      | nx e3 o3 =>
        obtain ⟨e3', V3, OS3, rfl, I3, S3⟩ := r
        exact ih e3 o3 e3' s3 V3 OS3 q I3 S3
      | ct e3 o3 =>
        obtain ⟨e3', V3, OS3, rfl, I3, S3⟩ := r
        exact ih e3 o3 e3' s3 V3 OS3 q I3 S3
      | bk e3 o3 =>
        obtain ⟨e3', V3, OS3, rfl, I3, S3⟩ := r
        exact ⟨_, q, e3', V3, OS3, rfl, I3, S3⟩
      | rt z t =>
        obtain ⟨w, V3, O, rfl, r⟩ := r
        exact ⟨_, q, w, V3, O, rfl, r⟩
theorem chg_dn {s0 s : Sto} {V0 F V : Nat → Prop} {e e' : Sl} {o : Own} {τ : Nat → Nat} {OS : Nat → List Nat} {z w ow : W} {f fw : List W → Option (List W)} {i : Nat} {p : List Int} {wi : W} {Q : Sl → Prop} (I : Iv s0 V0 F s V (e ++ [some z]) τ (e' ++ [some w]) OS) (hl : e.length = e'.length)
    (ht : ∀ j, j < e.length → τ j = tg o j) (hz : (flat z || τ e.length == 2) = true ∨ p = []) (L : LOp f fw z w) (hw : e'[i]? = some (some wi)) (hr : rsv s p wi = some ow) (h2 : ∀ j, tg o j ≤ 2) (h : chgQ e o i p f Q) :
    ∃ n ws ws' v', ow = .loc n ∧ s[n]? = some ws ∧ fw ws = some ws' ∧ Q (e.set i (some v')) ∧ ∃ OS', Iv s0 V0 F (s.set n ws') V (e.set i (some v')) (tg (own1 o i z (τ e.length))) e' OS' ∧ Sx s V OS (s.set n ws') V OS' := by
  obtain ⟨hm, h⟩ := h
  obtain ⟨v, hv, h⟩ := slot_some h
  obtain ⟨v', hc, q⟩ := ofO_some h
  have hi := (List.getElem?_eq_some_iff.mp hv).1
  have hm := may_ok hm
  have o2 : ∀ j, tg (own1 o i z (τ e.length)) j ≤ 2 := fun j => by
    rw [own1_tg]
    split
    · exact h2 j
    · split
      · decide
      · exact h2 j
  have fin : ∀ {τ1 : Nat → Nat} {OS1 : Nat → List Nat} {n : Nat} {ws' : List W}, (∀ j, j < e.length → tg (own1 o i z (τ e.length)) j ≤ τ1 j) → Iv s0 V0 F (s.set n ws') V (e.set i (some v')) (fun j => if j = e.length then 0 else τ1 j) e' OS1 → Sx s V OS (s.set n ws') V OS1 →
      ∃ OS', Iv s0 V0 F (s.set n ws') V (e.set i (some v')) (tg (own1 o i z (τ e.length))) e' OS' ∧ Sx s V OS (s.set n ws') V OS' := fun {τ1 OS1 n ws'} h1 I1 S1 => by
    obtain ⟨OS2, I2, sub⟩ := I1.weak (tg (own1 o i z (τ e.length))) (fun j hj => by
      rw [List.length_set] at hj
      show _ ≤ (if j = e.length then 0 else τ1 j)
      rw [if_neg (by omega)]
      exact h1 j hj) o2
    exact ⟨OS2, I2, S1.trans (Sx.refl fun j n hn => ⟨j, (sub j).mem hn⟩)⟩
  by_cases hf : (flat z || τ e.length == 2) = true
  · obtain ⟨wi', n, ws, ws', a1, a2, a3, a4, OS1, I1, S1⟩ := I.mutate hl hv L (by rw [ht i hi]; rcases hm with h | h <;> omega) (by rw [ht i hi]; exact hm) (fun _ => by rw [Bool.or_eq_true, beq_iff_eq] at hf; exact hf) hc
    rw [hw] at a1
    cases a1
    rw [hr] at a2
    cases a2
    exact ⟨n, ws, ws', v', rfl, a3, a4, q, fin (fun j hj => by rw [own1_tg, if_pos hf, ht j hj]; exact Nat.le_refl _) I1 S1⟩
  · have hp0 : p = [] := hz.resolve_left hf
    obtain ⟨OS0, I0, sub0⟩ := I.weak (fun j => if j = i then 1 else τ j) (fun j _ => by
      split
      · rename_i h
        rw [h, ht i hi]
        rcases hm with h | h <;> omega
      · exact Nat.le_refl _) (fun j => by
      split
      · decide
      · exact I.t2 j)
    obtain ⟨wi', n, ws, ws', a1, a2, a3, a4, OS1, I1, S1⟩ := I0.mutate hl hv L (by rw [if_pos rfl]; decide) (by rw [if_pos rfl]; exact .inr ⟨rfl, hp0⟩) (by rw [if_pos rfl]; intro h; cases h) hc
    rw [hw] at a1
    cases a1
    rw [hr] at a2
    cases a2
    refine ⟨n, ws, ws', v', rfl, a3, a4, q, fin (τ1 := fun j => if j = i then 1 else τ j) (fun j hj => ?_) I1 ((Sx.refl fun j n hn => ⟨j, (sub0 j).mem hn⟩ : Sx s V OS s V OS0).trans S1)⟩
    rw [own1_tg, if_neg hf]
    split
    · exact Nat.le_refl _
    · rw [ht j hj]; exact Nat.le_refl _
omit hG in
theorem retT_dn {s0 s : Sto} {V0 F V : Nat → Prop} {e e' : Sl} {o : Own} {OS : Nat → List Nat} {A : Nat → Prop} (I : Iv s0 V0 F s V e (tg o) e' OS) : ∀ (as : E) (us : List Nat) (P : List W → Prop), retT e o as us P →
    ∃ vs ws O, P vs ∧ Dns s V A vs 2 ws O ∧ O.Nodup ∧ (∀ n ∈ O, s0.length ≤ n) ∧ (∀ n ∈ O, ∃ j, j ∉ us ∧ n ∈ OS j) ∧ ∀ (Q : QK (List W)) (Z : EK), Q ws s → (evs G as e' s).wp Q Z
  | .nil, us, P, h => ⟨[], [], [], h, ⟨rfl, rfl⟩, List.nodup_nil, (fun _ h => nomatch h), (fun _ h => nomatch h), fun Q Z q => es_nil q⟩
  | .cons (.var i) as, us, P, h => by
    obtain ⟨hi, h⟩ := h
    obtain ⟨v, hv, hf, h⟩ := slot_some h
    obtain ⟨vs, ws, O, p, D, nd, ge, hO, ev⟩ := retT_dn I as (i :: us) _ h
    obtain ⟨w, hw, Dv⟩ := I.at_ i v hv
    have key : ∃ Oi, Dn s V A v 2 w Oi ∧ Oi.Nodup ∧ ∀ n ∈ Oi, n ∈ OS i := by
      rcases hf with hf | hf
      · exact ⟨[], (Dn.flat _ _ _ _ hf Dv).2 _ _, List.nodup_nil, fun _ h => nomatch h⟩
      · have et : tg o i = 2 := by unfold tg; rw [hf]; rfl
        rw [et] at Dv
        exact ⟨OS i, Dn.all _ _ _ Dv, I.nd i, fun _ h => h⟩
    obtain ⟨Oi, D1, nd1, sub⟩ := key
    refine ⟨v :: vs, w :: ws, Oi ++ O, p, ⟨w, ws, Oi, O, rfl, rfl, D1, D⟩, ?_, fun n hn => ?_, fun n hn => ?_, fun Q Z q => es_cons (e_var hw (ev _ _ q))⟩
    · rw [List.nodup_append]
      refine ⟨nd1, nd, fun a ha b hb e => ?_⟩
      subst e
      obtain ⟨j, hj, hn⟩ := hO a hb
      exact I.dis i j a (fun z => hj (by rw [z]; exact List.mem_cons_self)) (sub a ha) hn
    · rcases List.mem_append.mp hn with hn | hn
      · exact I.ge i n (sub n hn)
      · exact ge n hn
    · rcases List.mem_append.mp hn with hn | hn
      · exact ⟨i, hi, sub n hn⟩
      · obtain ⟨j, hj, hn⟩ := hO n hn
        exact ⟨j, fun z => hj (List.mem_cons_of_mem _ z), hn⟩
  | .cons (.str x) as, us, P, h => by
    obtain ⟨vs, ws, O, p, D, nd, ge, hO, ev⟩ := retT_dn I as us _ h
    exact ⟨.str x :: vs, .str x :: ws, O, p, ⟨_, _, [], O, rfl, rfl, ⟨rfl, rfl⟩, D⟩, nd, ge, hO, fun Q Z q => es_cons (e_str (ev _ _ q))⟩
  | .cons (.con _) _, _, _, h => h.elim
  | .cons (.fref _) _, _, _, h => h.elim
  | .cons (.int _) _, _, _, h => h.elim
  | .cons (.bl _) _, _, _, h => h.elim
  | .cons .non _, _, _, h => h.elim
  | .cons (.bin _ _ _) _, _, _, h => h.elim
  | .cons (.neg _) _, _, _, h => h.elim
  | .cons (.no _) _, _, _, h => h.elim
  | .cons (.cmp _ _ _) _, _, _, h => h.elim
  | .cons (.chain _ _ _ _ _) _, _, _, h => h.elim
  | .cons (.and _ _) _, _, _, h => h.elim
  | .cons (.or _ _) _, _, _, h => h.elim
  | .cons (.one _) _, _, _, h => h.elim
  | .cons (.ite _ _ _) _, _, _, h => h.elim
  | .cons (.tup _) _, _, _, h => h.elim
  | .cons (.lst _) _, _, _, h => h.elim
  | .cons (.ix _ _) _, _, _, h => h.elim
  | .cons (.sl _ _ _) _, _, _, h => h.elim
  | .cons (.rv _) _, _, _, h => h.elim
  | .cons (.call _ _) _, _, _, h => h.elim
  | .cons (.callv _ _) _, _, _, h => h.elim
  | .cons (.bi _ _) _, _, _, h => h.elim
  | .cons (.mt _ _ _) _, _, _, h => h.elim
  | .cons (.isi _ _) _, _, _, h => h.elim
  | .cons (.comp _ _ _ _ _ _) _, _, _, h => h.elim
  | .cons .nil _, _, _, h => h.elim
  | .cons (.cons _ _) _, _, _, h => h.elim
  | .var _, _, _, h => h.elim
  | .con _, _, _, h => h.elim
  | .fref _, _, _, h => h.elim
  | .int _, _, _, h => h.elim
  | .bl _, _, _, h => h.elim
  | .non, _, _, h => h.elim
  | .str _, _, _, h => h.elim
  | .bin _ _ _, _, _, h => h.elim
  | .neg _, _, _, h => h.elim
  | .no _, _, _, h => h.elim
  | .cmp _ _ _, _, _, h => h.elim
  | .chain _ _ _ _ _, _, _, h => h.elim
  | .and _ _, _, _, h => h.elim
  | .or _ _, _, _, h => h.elim
  | .one _, _, _, h => h.elim
  | .ite _ _ _, _, _, h => h.elim
  | .tup _, _, _, h => h.elim
  | .lst _, _, _, h => h.elim
  | .ix _ _, _, _, h => h.elim
  | .sl _ _ _, _, _, h => h.elim
  | .rv _, _, _, h => h.elim
  | .call _ _, _, _, h => h.elim
  | .callv _ _, _, _, h => h.elim
  | .bi _ _, _, _, h => h.elim
  | .mt _ _ _, _, _, h => h.elim
  | .isi _ _, _, _, h => h.elim
  | .comp _ _ _ _ _ _, _, _, h => h.elim
omit hG in
theorem apx_eq {t : Tn} {ik : Ik} {as : E} {b : B} {i j : Nat} {p q : Int} (h : apx t ik as b = some (i, j, p, q)) : t = .name j ∧ ik = .seq ∧ as = .cons (.var i) .nil ∧ b = .exp (.mt .append (.var j) (.cons (.tup (.cons (.int p) (.cons (.int q) .nil))) .nil)) .done ∧ i ≠ j := by
  unfold apx at h
  split at h
  · split at h
    · rename_i hc
      cases h
      obtain ⟨rfl, hc⟩ := hc
      exact ⟨rfl, rfl, rfl, rfl, hc⟩
    · cases h
  · cases h
omit hG in
def srcW : W → Src
  | .tup ws => .tu ws
  | w => .li w
omit hG in
theorem atW_nat {ws : List W} {m : Nat} {x : W} (h : atW ws (m : Int) = some x) : ws[m]? = some x := by
  unfold atW L2.ixN at h
  rw [if_pos (by omega), Int.toNat_natCast] at h
  split at h
  · exact h
  · cases h
omit hG in
theorem it_rsv {s : Sto} {m : Nat} {w ow : W} (h : rsv s [(m : Int)] w = some ow) : itAt (srcW w) m s = some (some ow) := by
  have go : ∀ ws : List W, ((atW ws (m : Int)).bind fun w => rsv s [] w) = some ow → ws[m]? = some ow := fun ws h => by
    obtain ⟨x, h1, h2⟩ := Option.bind_eq_some_iff.mp h
    cases h2
    exact atW_nat h1
  have gol : ∀ w : W, ((lsq w s).bind fun ws => (atW ws (m : Int)).bind fun w => rsv s [] w) = some ow → itAt (.li w) m s = some (some ow) := fun w h => by
    obtain ⟨ws, h1, h2⟩ := Option.bind_eq_some_iff.mp h
    show (lsq w s).map (fun ws => ws[m]?) = _
    rw [h1, Option.map_some, go ws h2]
  cases w with
  | tup ws =>
    show some ws[m]? = _
    rw [go ws h]
  | _ => exact gol _ h
omit hG in
theorem it_end {s : Sto} {V A : Nat → Prop} {v w : W} {d : Nat} {O : List Nat} {n : Nat} (D : Dn s V A v d w O) (h : lenW v = some n) : itAt (srcW w) n s = some none := by
  cases v with
  | cl vs =>
    cases h
    obtain ⟨_, D⟩ := D
    have go : ∀ {d' ws O'}, Dns s V A vs d' ws O' → lsq w s = some ws → srcW w = .li w → itAt (srcW w) vs.length s = some none := fun {d' ws O'} D hw hs => by
      rw [hs]
      show (lsq w s).map (fun ws => ws[vs.length]?) = _
      rw [hw, Option.map_some, List.getElem?_eq_none (by rw [Dns.length D]; exact Nat.le_refl _)]
    rcases D with ⟨m, ws, rfl, hs, _, ⟨_, _, _, D⟩ | ⟨_, _, _, D⟩⟩ | ⟨ws, rfl, _, _, D⟩
    · exact go D hs rfl
    · exact go D hs rfl
    · exact go D rfl rfl
  | tup vs =>
    cases h
    obtain ⟨ws, rfl, D⟩ := D
    show some ws[vs.length]? = _
    rw [List.getElem?_eq_none (by rw [Dns.length D]; exact Nat.le_refl _)]
  | _ => cases h
omit hG in
theorem it_src {s : Sto} {V A : Nat → Prop} {v w : W} {d : Nat} {O : List Nat} {n : Nat} (D : Dn s V A v d w O) (h : lenW v = some n) : srcOf .seq [w] s = some (srcW w) := by
  cases v with
  | cl vs =>
    obtain ⟨_, D⟩ := D
    rcases D with ⟨m, ws, rfl, hs, _⟩ | ⟨ws, rfl, _⟩
    · show (if isLi (.loc m) s then some (Src.li (.loc m)) else none) = _
      rw [if_pos (by show (s[m]?).isSome = true; rw [hs]; rfl)]
      rfl
    · rfl
  | tup vs =>
    obtain ⟨ws, rfl, D⟩ := D
    rfl
  | _ => cases h
omit hG in
theorem chg_lenW {f : List W → Option (List W)} {i : Int} {v v' : W} (h : chg f [i] v = some v') : lenW v' = lenW v := by
  cases v with
  | cl vs =>
    obtain ⟨j, h1, h⟩ := Option.bind_eq_some_iff.mp h
    obtain ⟨w, h2, h⟩ := Option.bind_eq_some_iff.mp h
    obtain ⟨w', h3, rfl⟩ := Option.map_eq_some_iff.mp h
    show some _ = some _
    rw [List.length_set]
  | tup vs =>
    obtain ⟨j, h1, h⟩ := Option.bind_eq_some_iff.mp h
    obtain ⟨w, h2, h⟩ := Option.bind_eq_some_iff.mp h
    obtain ⟨w', h3, rfl⟩ := Option.map_eq_some_iff.mp h
    show some _ = some _
    rw [List.length_set]
  | _ => cases h
theorem ap_dn {s0 sS : Sto} {V0 F VS : Nat → Prop} {OSS : Nat → List Nat} {i j : Nat} {p q : Int} {o : Own} {K : Sl → Prop} {Z : KZ} {wi : W} (hij : i ≠ j) (hoj : tg o j = 0) :
    ∀ (n m N : Nat) (e e' : Sl) (s : Sto) (V : Nat → Prop) (OS : Nat → List Nat) (v : W), apP o i (.tup [.int p, .int q]) K n m e → e.set j none = e → j < e.length → Iv s0 V0 F s V e (tg o) e' OS → e[i]? = some (some v) → lenW v = some (m + n) → e'[i]? = some (some wi) → n < N → Sx sS VS OSS s V OS →
      (forL (forF G (.name j) (.exp (.mt .append (.var j) (.cons (.tup (.cons (.int p) (.cons (.int q) .nil))) .nil)) .done)) N (srcW wi) m e' s).wp (PoS s0 V0 F sS VS OSS (fun f => ∃ e, f = .nx e o ∧ K e)) (PoX s0 V0 Z) := by
  intro n
  induction n with
  | zero =>
    intro m N e e' s V OS v h he hj I hv hl hw hN S
    obtain ⟨w, a, D⟩ := I.at_ i v hv
    rw [hw] at a
    cases a
    cases N with
    | zero => omega
    | succ N =>
      unfold forL
      rw [it_end (n := m) D hl]
      exact pos_nx ⟨e, rfl, h⟩ I S
  | succ n ih =>
    intro m N e e' s V OS v h he hj I hv hl hw hN S
    cases N with
    | zero => omega
    | succ N =>
      have hlen := I.len
      have dz : ∀ (s1 : Sto) (V1 A' : Nat → Prop) (d' : Nat), Dn s1 V1 A' (.tup [.int p, .int q]) d' (.tup [.int p, .int q]) [] := fun s1 V1 A' d' => ⟨_, rfl, _, _, [], [], rfl, rfl, ⟨rfl, rfl⟩, _, _, [], [], rfl, rfl, ⟨rfl, rfl⟩, rfl, rfl⟩
      obtain ⟨hm, hc⟩ := id h
      obtain ⟨v1, hv1, hc⟩ := slot_some hc
      rw [hv] at hv1
      cases hv1
      obtain ⟨v', hc, hK⟩ := ofO_some hc
      have hm' := may_ok hm
      have h2 : chgQ e o i [(m : Int)] (appF (.tup [.int p, .int q])) (fun e1 => apP o i (.tup [.int p, .int q]) K n (m + 1) e1 ∧ e1 = e.set i (some v')) := ⟨hm, by
        unfold slotP
        rw [hv]
        show ofO (chg _ _ v) _
        rw [hc]
        exact ⟨hK, rfl⟩⟩
      have Id := I.push .refl I.ur (z := .tup [.int p, .int q]) (w := .tup [.int p, .int q]) (t := 0) (O := []) (dz _ _ _ _) List.nodup_nil (fun _ h => nomatch h) (by decide)
      have hi := (List.getElem?_eq_some_iff.mp hv).1
      obtain ⟨wi', n0, ws0, ws1, a1, a2, a3, a4, _⟩ := Id.mutate hlen hv (lop_app (.tup [.int p, .int q]) (.tup [.int p, .int q])) (by rw [if_neg (by omega)]; rcases hm' with h | h <;> omega) (by rw [if_neg (by omega)]; exact hm') (fun _ => .inl rfl) hc
      rw [hw] at a1
      cases a1
      have I2 := I.unset j (some (.loc n0))
      rw [he] at I2
      have et : (fun l => if l = j then 0 else tg o l) = tg o := funext fun l => by
        split
        · rename_i z
          rw [z, hoj]
        · rfl
      rw [et] at I2
      have hw2 : (e'.set j (some (.loc n0)))[i]? = some (some wi) := by rw [List.getElem?_set_ne (Ne.symm hij)]; exact hw
      have Id2 := I2.push .refl I2.ur (z := .tup [.int p, .int q]) (w := .tup [.int p, .int q]) (t := 0) (O := []) (dz _ _ _ _) List.nodup_nil (fun _ h => nomatch h) (by decide)
      obtain ⟨n1, ws, ws', v2, e1, b1, b2, ⟨K2, ev⟩, OS4, I4, S4⟩ := chg_dn hG Id2 (by rw [List.length_set]; exact hlen) (fun j hj => by rw [if_neg (by omega)]) (.inl rfl) (lop_app _ _) hw2 a2 I.t2 h2
      cases e1
      rw [ev] at I4 K2
      have eo : ∀ t, own1 o i (.tup [.int p, .int q]) t = o := fun t => rfl
      rw [eo] at I4
      have b2 : (if ws.length < sizeLine then some (ws ++ [.tup [.int p, .int q]]) else none) = some ws' := b2
      split at b2
      · rename_i hsz
        cases b2
        unfold forL
        rw [it_rsv a2]
        show ((forF G _ _ _ e' s).bind _).wp _ _
        rw [wp_bind]
        unfold forF
        show (exS G _ (e'.set j (some (.loc n0))) s).wp _ _
        refine x_exp (e_mt (e_var (List.getElem?_set_self (by rw [← hlen]; exact hj)) ⟨by show (s[n0]?).isSome = true; rw [b1]; rfl, es_cons (e_tup (es_cons (e_int (es_cons (e_int (es_nil ⟨by show 2 ≤ sizeLine; decide, es_nil ?_⟩))))))⟩))
        refine o_append b1 hsz (x_done ?_)
        show (forL _ N (srcW wi) (m + 1) (e'.set j (some (.loc n0))) _).wp _ _
        refine ih (m + 1) N (e.set i (some v')) _ _ _ OS4 v' K2 ?_ (by rw [List.length_set]; exact hj) I4 (List.getElem?_set_self hi) ?_ hw2 (by omega) (S.trans ((Sx.refl fun l y hy => ⟨l, ?_⟩).trans S4))
        · rw [List.set_comm _ _ hij, he]
        · rw [chg_lenW hc, hl]
          congr 1
          omega
        · have hy : y ∈ (if l = e.length then [] else if l = j then [] else OS l) := hy
          split at hy
          · cases hy
          · split at hy
            · cases hy
            · exact hy
      · cases b2
omit hG in
theorem Iv.asg0 {s0 s : Sto} {V0 F V : Nat → Prop} {e e' : Sl} {τ : Nat → Nat} {OS : Nat → List Nat} {z w : W} (I : Iv s0 V0 F s V (e ++ [some z]) τ (e' ++ [some w]) OS) (hl : e.length = e'.length) (i : Nat) (hi : i < e.length) :
    ∃ OS', Iv s0 V0 F s V (e.set i (some z)) (fun j => if j = i then τ e.length else τ j) (e'.set i (some w)) OS' ∧ ∀ j n, n ∈ OS' j → ∃ j', n ∈ OS j' := by
  have I1 := I.last (z' := .tup [z]) (w' := .tup [w]) (t' := τ e.length) (O' := OS e.length) hl (List.Sublist.refl _) (I.t2 _) fun d A' ha _ => ⟨[w], rfl, w, [], OS e.length, [], rfl, by simp, Dn.frame .refl (fun n _ h => ha n h) _ _ _ _ d, rfl, rfl⟩
  obtain ⟨OS1, I2, sub⟩ := I1.peel hl i
  have I3 := I2.init (by rw [List.length_set, List.length_set, hl])
  obtain ⟨OS2, I4, sub2⟩ := I3.weak (fun j => if j = i then τ e.length else τ j) (fun j hj => by
    rw [List.length_set] at hj
    have hne : ¬ j = e.length := by omega
    simp only [if_neg hne, if_true]
    exact Nat.le_refl _) (fun j => by
    split
    · exact I.t2 _
    · exact I.t2 j)
  refine ⟨OS2, I4, fun j n hn => ?_⟩
  have h1 := (sub2 j).mem hn
  split at h1
  · obtain ⟨j', h⟩ := sub j n h1
    have h : n ∈ (if j' = e.length then OS e.length else OS j') := h
    split at h
    · exact ⟨_, h⟩
    · exact ⟨_, h⟩
  · cases h1
omit hG in
theorem asg_tup {ts : Ta} {ws : List W} {e : Sl} {s : Sto} (h : ws.length = taN ts) : asg G (.tup ts) (.tup ws) e s = asgs G ts ws e s := by rw [asg, if_pos h]
omit hG in
theorem asgs_cons {t ts : Ta} {w : W} {ws : List W} {e : Sl} {s : Sto} : asgs G (.cons t ts) (w :: ws) e s = (asg G t w e s).bind fun e1 s1 => asgs G ts ws e1 s1 := by rw [asgs]
omit hG in
theorem asgs_nil {e : Sl} {s : Sto} : asgs G .nil [] e s = .ok e s := by rw [asgs]
omit hG in
theorem pair_d0 {s : Sto} {V A : Nat → Prop} {x y : Str} {d : Nat} : Dn s V A (.tup [.str x, .str y]) d (.tup [.str x, .str y]) [] :=
  ⟨_, rfl, .str x, [.str y], [], [], rfl, rfl, ⟨rfl, rfl⟩, .str y, [], [], [], rfl, rfl, ⟨rfl, rfl⟩, rfl, rfl⟩
omit hG in
theorem tg_top (o : Own) (x l : Nat) : tg ((x, 1) :: drp o x) l = if l = x then 1 else tg o l := by
  rw [tg_cons, tg_drp]
  show (if l = x then 1 else if l = x then 0 else tg o l) = _
  by_cases h : l = x
  · rw [if_pos h, if_pos h]
  · rw [if_neg h, if_neg h, if_neg h]
omit hG in
theorem lop_id : LOp some some .non .non := by
  constructor
  · intro vs vs' h hl
    cases h
    exact hl
  · intro s V A vs ws vs' d O D nd h
    cases h
    exact ⟨ws, rfl, fun Oz ndz dz => ⟨O, nd, fun n hn => .inl hn, fun s' V' A' X f hO ha _ => Dns.frameX f ha _ _ _ _ hO D⟩⟩
theorem swp_dn {s0 s : Sto} {V0 F V : Nat → Prop} {e e' : Sl} {o : Own} {OS : Nat → List Nat} {ts : Ta} {v : E} {K : Sl → Own → Prop} {Z : KZ} {k : B} {P : QK Fl} (hlen : e.length = e'.length) (I : Iv s0 V0 F s V e (tg o) e' OS) (h : swpP g ts v e o K Z)
    (hk : ∀ (e1 : Sl) (o1 : Own) (e1' : Sl) (s1 : Sto) (V1 : Nat → Prop) (OS1 : Nat → List Nat), K e1 o1 → Iv s0 V0 F s1 V1 e1 (tg o1) e1' OS1 → Sx s V OS s1 V1 OS1 → (exS G k e1' s1).wp P (PoX s0 V0 Z)) :
    (ev G v e' s).wp (fun w s1 => (asg G (.tup ts) w e' s1).wp (fun e1 s2 => (exS G k e1 s2).wp P (PoX s0 V0 Z)) (PoX s0 V0 Z)) (PoX s0 V0 Z) := by
  unfold swpP at h
  split at h
  · rename_i x i y j zz a u b
    obtain ⟨rfl, rfl, rfl, hm, h⟩ := h
    obtain ⟨v0, hv, h⟩ := slot_some h
    obtain ⟨wx, hw, hD0⟩ := I.at_ x v0 hv
    clear hD0
    have hx := (List.getElem?_eq_some_iff.mp hv).1
    split at h
    · rename_i vs
      -- own at the top alone
      obtain ⟨OS0, I0, sub0⟩ := I.weak (tg ((x, 1) :: drp o x)) (fun l hl => by
        rw [tg_top]
        split
        · rename_i hlx
          subst hlx
          rcases may_ok hm with h | h <;> omega
        · exact Nat.le_refl _) (fun l => by
        rw [tg_top]
        split
        · decide
        · exact I.t2 l)
      have S0 : Sx s V OS s V OS0 := Sx.refl fun j n hn => ⟨j, (sub0 j).mem hn⟩
      have top : tg ((x, 1) :: drp o x) x = 1 := by rw [tg_top, if_pos rfl]
      -- the list as it stands
      have st : ∀ {s1 : Sto} {V1 : Nat → Prop} {e1 : Sl} {vs : List W} {OS1 : Nat → List Nat}, Iv s0 V0 F s1 V1 e1 (tg ((x, 1) :: drp o x)) e' OS1 → e1[x]? = some (some (.cl vs)) → ∃ n ws, wx = .loc n ∧ s1[n]? = some ws ∧ ¬ V1 n ∧ D0s s1 V1 (fun n => ¬ F n ∧ ∀ j, n ∉ OS1 j) vs ws := fun {s1 V1 e1 vs OS1} I1 h1 => by
        obtain ⟨w, a, d⟩ := I1.at_ x _ h1
        rw [hw] at a
        cases a
        rw [top] at d
        obtain ⟨_, d⟩ := d
        rcases d with ⟨n, ws, e1, hs, hv, d⟩ | ⟨_, _, z0, _⟩
        · rcases d with ⟨z0, _⟩ | ⟨_, O', _, d⟩
          · cases z0
          · have := Dns.nil0 _ _ _ d
            rw [this] at d
            exact ⟨n, ws, e1, hs, hv, d⟩
        · cases z0
      obtain ⟨n, ws, rfl, hs, hnv, D⟩ := st I0 hv
      refine e_tup (es_cons (e_ix (e_var hw ?_)))
      refine (simE hG a e e' s V F _ Z h I0.envR I0.fbS I0.ur).imp (fun wa s1 q => ?_) fun _ _ z => I0.pox z
      obtain ⟨za, ta, V1, Oa, q, r1⟩ := q
      obtain ⟨ia, rfl, q⟩ := toIP_some q
      obtain ⟨p, hp, q⟩ := ofO_some q
      rw [(r1.low I0.fbS).1]
      obtain ⟨wp, hwp, dp⟩ := atW_dn D hp
      refine o_ix (show lsq (.loc n) s1 = some ws from r1.fm.get n ws hnv hs) hwp ?_
      refine es_cons (e_ix (e_var hw ?_))
      refine (simE hG b e e' s1 V1 F _ Z q (I0.envR.later r1.fm) (I0.fbS.up r1.fm) r1.ur).imp (fun wb s2 q => ?_) fun _ _ z => I0.pox (z.trans r1.fm)
      obtain ⟨zb, tb, V2, Ob, q, r2⟩ := q
      obtain ⟨ib, rfl, q⟩ := toIP_some q
      obtain ⟨qv, hq, q⟩ := ofO_some q
      rw [(r2.low (I0.fbS.up r1.fm)).1]
      obtain ⟨wq, hwq, dq⟩ := atW_dn D hq
      have f2 := r1.fm.trans r2.fm
      refine o_ix (show lsq (.loc n) s2 = some ws from f2.get n ws hnv hs) hwq (es_nil ⟨by show 2 ≤ sizeLine; decide, ?_⟩)
      have ea : asg G (.tup (.cons (.sub (.var x) i) (.cons (.sub (.var x) j) .nil))) (.tup [wp, wq]) e' s2 = (asg G (.sub (.var x) i) wp e' s2).bind fun e1 s3 => (asg G (.sub (.var x) j) wq e1 s3).bind fun e2 s4 => R.ok e2 s4 := by
        rw [asg_tup (by rfl), asgs_cons]
        simp only [asgs_cons, asgs_nil]
      rw [ea, wp_bind]
      refine a_sub (e_var hw ?_)
      refine (simE hG i e e' s2 V2 F _ Z q (I0.envR.later f2) (I0.fbS.up f2) r2.ur).imp (fun wi s3 q => ?_) fun _ _ z => I0.pox (z.trans f2)
      obtain ⟨zi, ti, V3, Oi, q, r3⟩ := q
      obtain ⟨ii, rfl, q⟩ := toIP_some q
      obtain ⟨vs1, hvs1, q⟩ := ofO_some q
      have f3 := f2.trans r3.fm
      have I3 := I0.frame f3 r3.ur
      have dp3 : D0 s3 V3 (fun n => ¬ F n ∧ ∀ j, n ∉ OS0 j) p wp := Dn.frame f3 (fun _ _ h => h) _ _ _ _ dp
      have dq3 : D0 s3 V3 (fun n => ¬ F n ∧ ∀ j, n ∉ OS0 j) qv wq := Dn.frame f3 (fun _ _ h => h) _ _ _ _ dq
      have P3 := I3.push .refl I3.ur (z := p) (w := wp) (t := 0) (O := []) (Dn.frame .refl (fun n _ h => ⟨h.1, h.2, by simp⟩) _ _ _ _ dp3) List.nodup_nil (fun _ h => nomatch h) (by decide)
      obtain ⟨wi', n1, ws1, ws1', a1, a2, a3, a4, OS4, I4, S4⟩ := P3.mutate hlen hv (lop_set ii p wp) (by rw [if_neg (by omega), top]; decide) (by rw [if_neg (by omega), top]; exact .inr ⟨rfl, rfl⟩) (by rw [if_neg (by omega), top]; intro h; cases h) (p := []) (show (setF ii p vs).map W.cl = some (.cl vs1) by rw [hvs1]; rfl)
      rw [hw] at a1
      cases a1
      cases a2
      obtain ⟨m1, hm1, rfl⟩ := Option.map_eq_some_iff.mp (show (L2.ixN ws1.length ii).map (fun k => ws1.set k wp) = some ws1' from a4)
      refine ⟨n, ws1, ii, m1, rfl, (r3.low (I0.fbS.up f2)).1, a3, hm1, ?_⟩
      obtain ⟨OS5, I5, sub5⟩ := I4.weak (tg ((x, 1) :: drp o x)) (fun l hl => by
        rw [List.length_set] at hl
        show _ ≤ (if l = e.length then 0 else if l = e.length then 0 else tg ((x, 1) :: drp o x) l)
        rw [if_neg (by omega), if_neg (by omega)]
        exact Nat.le_refl _) I0.t2
      have S5 : Sx s3 V3 OS0 (s3.set n (ws1.set m1 wp)) V3 OS5 := by
        refine Sx.trans ?_ (S4.trans (Sx.refl fun j n hn => ⟨j, (sub5 j).mem hn⟩))
        refine Sx.refl fun j n hn => ?_
        have hn : n ∈ (if j = e.length then [] else OS0 j) := hn
        split at hn
        · cases hn
        · exact ⟨j, hn⟩
      have dq5 : D0 (s3.set n (ws1.set m1 wp)) V3 (fun n => ¬ F n ∧ ∀ j, n ∉ OS5 j) qv wq := by
        refine Dn.frameX S5.fx (fun m hm h => ⟨⟨h.1, fun j z => ?_⟩, fun ⟨j, z⟩ => h.2 j z⟩) _ _ _ _ (fun _ z => nomatch z) dq3
        rcases S5.gr j m z with ⟨j', z⟩ | z
        · exact h.2 j' z
        · omega
      rw [wp_bind]
      refine a_sub (e_var hw ?_)
      have hv5 : (e.set x (some (.cl vs1)))[x]? = some (some (.cl vs1)) := List.getElem?_set_self hx
      refine (simE hG j _ e' _ V3 F _ Z q I5.envR I5.fbS I5.ur).imp (fun wj s6 q => ?_) fun _ _ z => I5.pox z
      obtain ⟨zj, tj, V6, Oj, q, r6⟩ := q
      obtain ⟨ij, rfl, q⟩ := toIP_some q
      obtain ⟨vs2, hvs2, q⟩ := ofO_some q
      have I6 := I5.frame r6.fm r6.ur
      have P6 := I6.push .refl I6.ur (z := qv) (w := wq) (t := 0) (O := []) (Dn.frame .refl (fun n _ h => ⟨h.1, h.2, by simp⟩) _ _ _ _ (Dn.frame r6.fm (fun _ _ h => h) _ _ _ _ dq5 : D0 s6 V6 _ qv wq)) List.nodup_nil (fun _ h => nomatch h) (by decide)
      have hl5 : (e.set x (some (.cl vs1))).length = e.length := List.length_set ..
      obtain ⟨wi', n2, ws2, ws2', a1, a2, a5, a6, OS7, I7, S7⟩ := P6.mutate (by rw [hl5]; exact hlen) hv5 (lop_set ij qv wq) (by rw [if_neg (by omega), top]; decide) (by rw [if_neg (by omega), top]; exact .inr ⟨rfl, rfl⟩) (by rw [if_neg (by omega), top]; intro h; cases h) (p := []) (show (setF ij qv vs1).map W.cl = some (.cl vs2) by rw [hvs2]; rfl)
      rw [hw] at a1
      cases a1
      cases a2
      obtain ⟨m2, hm2, rfl⟩ := Option.map_eq_some_iff.mp (show (L2.ixN ws2.length ij).map (fun k => ws2.set k wq) = some ws2' from a6)
      refine ⟨n, ws2, ij, m2, rfl, (r6.low I5.fbS).1, a5, hm2, ?_⟩
      obtain ⟨OS8, I8, sub8⟩ := I7.weak (tg ((x, 1) :: drp o x)) (fun l hl => by
        rw [List.length_set, hl5] at hl
        rw [hl5]
        show _ ≤ (if l = e.length then 0 else if l = e.length then 0 else tg ((x, 1) :: drp o x) l)
        rw [if_neg (by omega), if_neg (by omega)]
        exact Nat.le_refl _) I0.t2
      rw [List.set_set] at I8
      have S7' : Sx s6 V6 OS5 (s6.set n (ws2.set m2 wq)) V6 OS8 := by
        refine Sx.trans ?_ (S7.trans (Sx.refl fun j n hn => ⟨j, (sub8 j).mem hn⟩))
        refine Sx.refl fun j n hn => ?_
        have hn : n ∈ (if j = (e.set x (some (.cl vs1))).length then [] else OS5 j) := hn
        split at hn
        · cases hn
        · exact ⟨j, hn⟩
      exact hk _ _ _ _ _ OS8 q I8 (S0.trans ((Sx.of f3 fun j n hn => .inl ⟨j, hn⟩).trans (S5.trans ((Sx.of r6.fm fun j n hn => .inl ⟨j, hn⟩).trans S7'))))
    · exact h.elim
  · exact h.elim
theorem give1 {s0 s s1 : Sto} {V0 F V V1 : Nat → Prop} {e e' : Sl} {o : Own} {OS : Nat → List Nat} {z w : W} (I : Iv s0 V0 F s V e (tg o) e' OS) (f : Fm s V s1 V1) (ur : Ur s1 V1) (i : Nat) (d : D0 s1 V1 (Nt F) z w) :
    ∃ OS', Iv s0 V0 F s1 V1 (e.set i (some z)) (tg []) (e'.set i (some w)) OS' ∧ Sx s V OS s1 V1 OS' := by
  have IG := (I.frame f ur).give
  obtain ⟨OA, IA, sA⟩ := IG.put0 (o := []) i (Dn.frame .refl (fun n _ h => ⟨h, fun j => by simp⟩) _ _ _ _ d)
  exact ⟨OA, IA, Sx.of f fun j n hn => (sA j n hn).elim fun j' h => by cases h⟩
def Sound (G : Py.G) (RR : B → Sl → Own → (FlP → Prop) → KZ → Prop) : Prop := ∀ (b : B) (s0 : Sto) (V0 F : Nat → Prop) (e : Sl) (o : Own) (e' : Sl) (s : Sto) (V : Nat → Prop) (OS : Nat → List Nat) (Q : FlP → Prop) (Z : KZ), RR b e o Q Z → Iv s0 V0 F s V e (tg o) e' OS → (exS G b e' s).wp (PoS s0 V0 F s V OS Q) (PoX s0 V0 Z)
theorem simF (hR : Sound G RR) : ∀ (b : B) (s0 : Sto) (V0 F : Nat → Prop) (e : Sl) (o : Own) (e' : Sl) (s : Sto) (V : Nat → Prop) (OS : Nat → List Nat) (Q : FlP → Prop) (Z : KZ), exF g RR b e o Q Z → Iv s0 V0 F s V e (tg o) e' OS → (exS G b e' s).wp (PoS s0 V0 F s V OS Q) (PoX s0 V0 Z)
  | .done, s0, V0, F, e, o, e', s, V, OS, Q, Z, h, I => by
    rw [exF] at h
    exact x_done (pos_nx h I (Sx.refl fun j n hn => ⟨j, hn⟩))
  | .asg t v k, s0, V0, F, e, o, e', s, V, OS, Q, Z, h, I => by
    have hlen := I.len
    cases t with
    | name i =>
      rw [exF] at h
      replace h : evX g v e o (fun w t o' => RR k (e.set i (some w)) (put o' i w t) Q Z) Z ∨ evP g v e (fun w _ => RR k (e.set i (some w)) [] Q Z) Z := h
      rcases h with h | h
      case inr =>
        refine x_set ((simE hG v e e' s V F _ Z h I.envR I.fbS I.ur).imp (fun w s1 q => ?_) fun _ _ z => I.pox z)
        obtain ⟨z, t, V1, O, q, r⟩ := q
        obtain ⟨OS1, I1, S1⟩ := give1 hG I r.fm r.ur i (r.low I.fbS)
        exact (hR k s0 V0 F _ _ _ s1 V1 OS1 Q Z q I1).mono fun fl s2 r => r.trans S1
      refine x_set ((evX_dn hG I.nil I.len (fun _ _ => rfl) I.t2 h).imp (fun w s1 q => ?_) fun _ _ z => I.pox z)
      obtain ⟨z, t, o1, q, V1, τ1, OS1, I1, h1, _, h3, S1, h4⟩ := q
      rw [List.append_nil, List.append_nil] at I1
      rw [List.append_nil] at h3
      have t2 := I1.t2 e.length
      rw [h3] at t2
      obtain ⟨OS2, I2, sub⟩ := I1.asg hlen i (put o1 i z t) (fun j hj => by
        refine Nat.le_trans (tg_put o1 i z t j) ?_
        split
        · rw [h3]; exact Nat.le_refl _
        · rw [h1 j hj]; exact Nat.le_refl _) (fun j => by
        refine Nat.le_trans (tg_put o1 i z t j) ?_
        split
        · exact t2
        · exact h4 j)
      exact (hR k s0 V0 F _ _ _ s1 V1 OS2 Q Z q I2).mono fun fl s2 r => r.trans (S1.trans (Sx.refl sub))
    | sub lv ix =>
      rw [exF] at h
      replace h : asgP g (.sub lv ix) v e o (fun e o => RR k e o Q Z) Z := h
      refine x_asg ?_
      rcases h with h | h
      · refine (evF_dn hG I.nil I.len (fun _ _ q => q.1) h).imp (fun w s1 q => ?_) fun _ _ z => I.pox z
        obtain ⟨z, t, V1, τ1, OS1, ⟨hf, q⟩, I1, h1, h3, S1, f1⟩ := q
        simp only [List.append_nil] at I1 h1 h3
        have er := I1.envR.pre hlen
        refine a_sub ((lv_dn hG lv e e' s1 V1 F _ Z q er I1.fbS I1.ur).imp (fun ow s2 q => ?_) fun _ _ z => I1.pox z)
        obtain ⟨i, p, V2, q, f2, ur2, wi, hw, hr⟩ := q
        refine (simE hG ix e e' s2 V2 F _ Z q (er.later f2) (I1.fbS.up f2) ur2).imp (fun iw s3 q => ?_) fun _ _ z => I1.pox (z.trans f2)
        obtain ⟨zi, ti, V3, Oi, q, r3⟩ := q
        obtain ⟨j, rfl, q4⟩ := toIP_some q
        have I3 := I1.frame (f2.trans r3.fm) r3.ur
        obtain ⟨n, ws, ws', v', rfl, a1, a2, q5, OS4, I4, S4⟩ := chg_dn hG I3 hlen h1 (.inl (by rw [h3]; exact hf)) (lop_set j z w) hw (hr _ _ r3.fm) I.t2 q4
        obtain ⟨m, hm, rfl⟩ := Option.map_eq_some_iff.mp (show (L2.ixN ws.length j).map (fun k => ws.set k w) = some ws' from a2)
        refine ⟨n, ws, j, m, rfl, (r3.low (I1.fbS.up f2)).1, a1, hm, ?_⟩
        have eo : own1 o i z (τ1 e.length) = o := by unfold own1; rw [h3, if_pos hf]
        rw [eo] at I4
        exact (hR k s0 V0 F _ _ _ _ _ OS4 Q Z q5 I4).mono fun fl s5 r => r.trans (S1.trans ((Sx.of (f2.trans r3.fm) fun j n hn => .inl ⟨j, hn⟩).trans S4))
      · refine (evH_dn hG I.nil I.len (fun _ _ => rfl) h).imp (fun w s1 q => ?_) fun _ _ z => I.pox z
        obtain ⟨z, t, V1, τ1, OS1, q, I1, h1, h3, S1, f1⟩ := q
        simp only [List.append_nil] at I1 h1 h3
        have er := I1.envR.pre hlen
        refine a_sub ((lv_dn hG lv e e' s1 V1 F _ Z q er I1.fbS I1.ur).imp (fun ow s2 q => ?_) fun _ _ z => I1.pox z)
        obtain ⟨i, p, V2, q, f2, ur2, wi, hw, hr⟩ := q
        refine (simE hG ix e e' s2 V2 F _ Z q (er.later f2) (I1.fbS.up f2) ur2).imp (fun iw s3 q => ?_) fun _ _ z => I1.pox (z.trans f2)
        obtain ⟨zi, ti, V3, Oi, q, r3⟩ := q
        obtain ⟨j, rfl, hp0, q4⟩ := toIP_some q
        have I3 := I1.frame (f2.trans r3.fm) r3.ur
        obtain ⟨n, ws, ws', v', rfl, a1, a2, q5, OS4, I4, S4⟩ := chg_dn hG I3 hlen h1 (.inr hp0) (lop_set j z w) hw (hr _ _ r3.fm) I.t2 q4
        obtain ⟨m, hm, rfl⟩ := Option.map_eq_some_iff.mp (show (L2.ixN ws.length j).map (fun k => ws.set k w) = some ws' from a2)
        refine ⟨n, ws, j, m, rfl, (r3.low (I1.fbS.up f2)).1, a1, hm, ?_⟩
        rw [h3] at I4
        exact (hR k s0 V0 F _ _ _ _ _ OS4 Q Z q5 I4).mono fun fl s5 r => r.trans (S1.trans ((Sx.of (f2.trans r3.fm) fun j n hn => .inl ⟨j, hn⟩).trans S4))
    | tup ts =>
      rw [exF] at h
      replace h : evX g v e o (fun w t o' => match w with
        | .tup ws => ws.length = taN ts ∧ setN ts ws t e o' (fun e o => RR k e o Q Z)
        | .cl ws => t ≠ 0 ∧ ws.length = taN ts ∧ setN ts ws (if t = 2 then 2 else 0) e o' (fun e o => RR k e o Q Z)
        | _ => False) Z ∨ evP g v e (fun w _ => match w with
        | .tup ws => ws.length = taN ts ∧ setN ts ws 0 e [] (fun e o => RR k e o Q Z)
        | _ => False) Z ∨ swpP g ts v e o (fun e o => RR k e o Q Z) Z ∨ popP ts v e o (fun e o => RR k e o Q Z) := h
      refine x_asg ?_
      rcases h with h | h | h | h
      · refine (evX_dn hG I.nil I.len (fun _ _ => rfl) I.t2 h).imp (fun w s1 q => ?_) fun _ _ z => I.pox z
        obtain ⟨z, t, o1, q, V1, τ1, OS1, I1, h1, _, h3, S1, h4⟩ := q
        simp only [List.append_nil] at I1 h1 h3
        have go : ∀ {zs ws : List W} {t2 : Nat} {τ2 : Nat → Nat} {OS2 : Nat → List Nat}, Iv s0 V0 F s1 V1 (e ++ [some (.tup zs)]) τ2 (e' ++ [some (.tup ws)]) OS2 → (∀ j, j < e.length → tg o1 j ≤ τ2 j) → t2 ≤ τ2 e.length → (∀ j n, n ∈ OS2 j → ∃ j', n ∈ OS1 j') → setN ts zs t2 e o1 (fun e1 o1 => RR k e1 o1 Q Z) →
            (asgs G ts ws e' s1).wp (fun e1 s2 => (exS G k e1 s2).wp (PoS s0 V0 F s V OS Q) (PoX s0 V0 Z)) (PoX s0 V0 Z) := fun {zs ws t2 τ2 OS2} I2 h5 h6 sub h => by
          refine setN_dn ts zs ws t2 s1 V1 e e' o1 τ2 OS2 _ _ _ I2 hlen h5 h4 h6 h fun e1 o2 e1' OS3 q I3 sub3 => ?_
          exact (hR k s0 V0 F _ _ _ s1 V1 OS3 Q Z q I3).mono fun fl s2 r => r.trans (S1.trans (Sx.refl fun j n hn => (sub3 j n hn).elim fun j' h => sub j' n h))
        obtain ⟨u, hu, D⟩ := I1.at_ e.length z (by rw [List.getElem?_append_right (Nat.le_refl _), Nat.sub_self]; rfl)
        rw [hlen, List.getElem?_append_right (Nat.le_refl _), Nat.sub_self] at hu
        cases hu
        cases z with
        | tup zs =>
          obtain ⟨ws, rfl, D⟩ := D
          have hq : zs.length = taN ts ∧ setN ts zs t e o1 (fun e1 o1 => RR k e1 o1 Q Z) := q
          have e1 : asg G (.tup ts) (.tup ws) e' s1 = asgs G ts ws e' s1 := by
            rw [asg, if_pos (by rw [← Dns.length D]; exact hq.1)]
          rw [e1]
          exact go I1 (fun j hj => by rw [h1 j hj]; exact Nat.le_refl _) (by rw [h3]; exact Nat.le_refl _) (fun j n h => ⟨j, h⟩) hq.2
        | cl zs =>
          have hq0 : t ≠ 0 ∧ zs.length = taN ts ∧ setN ts zs (if t = 2 then 2 else 0) e o1 (fun e1 o1 => RR k e1 o1 Q Z) := q
          have hq := hq0.2
          have main : ∃ n ws O2, w = .loc n ∧ s1[n]? = some ws ∧ O2.Sublist (OS1 e.length) ∧ zs.length = ws.length ∧ ∀ A' : Nat → Prop, (∀ n, (¬ F n ∧ ∀ j, n ∉ OS1 j) → A' n) → (∀ n ∈ OS1 e.length, n ∉ O2 → A' n) → Dns s1 V1 A' zs (if t = 2 then 2 else 0) ws O2 := by
            obtain ⟨_, D⟩ := D
            rcases D with ⟨n, ws, e1, hs, hv, D⟩ | ⟨ws, e1, z0, _, D⟩
            · subst e1
              rcases D with ⟨z0, _, hO, D⟩ | ⟨z0, O', hO, D⟩
              · rw [h3] at z0
                refine ⟨n, ws, [], rfl, hs, by simp, Dns.length D, fun A' ha _ => ?_⟩
                rw [if_neg (by omega)]
                exact Dns.frame .refl (fun n _ h => ha n h) _ _ _ _ D
              · by_cases ht2 : t = 2
                · refine ⟨n, ws, O', rfl, hs, by rw [hO]; exact List.sublist_cons_self _ _, Dns.length D, fun A' ha _ => ?_⟩
                  rw [h3, ht2] at D
                  rw [if_pos ht2]
                  exact Dns.all _ _ _ D
                · refine ⟨n, ws, [], rfl, hs, by simp, Dns.length D, fun A' ha hO2 => ?_⟩
                  rw [if_neg ht2]
                  exact Dns.low _ _ _ _ D (fun n h => ha n h) fun m hm => hO2 m (by rw [hO]; exact List.mem_cons_of_mem _ hm) (by simp)
            · exact absurd (h3.symm.trans z0) hq0.1
          obtain ⟨n, ws, O2, rfl, hs, hsub, hlz, D2⟩ := main
          have e1 : asg G (.tup ts) (.loc n) e' s1 = asgs G ts ws e' s1 := by
            rw [asg, hs]
            show (if ws.length = taN ts then asgs G ts ws e' s1 else .bad) = _
            rw [if_pos (by rw [← hlz]; exact hq.1)]
          rw [e1]
          have I2 := I1.last (z' := .tup zs) (w' := .tup ws) (t' := if t = 2 then 2 else 0) (O' := O2) hlen hsub (by split <;> decide) fun _ A' ha hO => ⟨ws, rfl, D2 A' ha hO⟩
          refine go (t2 := if t = 2 then 2 else 0) I2 (fun j hj => ?_) ?_ (fun j n h => ?_) hq.2
          · show _ ≤ (if j = e.length then _ else τ1 j)
            rw [if_neg (by omega), h1 j hj]
            exact Nat.le_refl _
          · show _ ≤ (if e.length = e.length then _ else τ1 e.length)
            rw [if_pos rfl]
            exact Nat.le_refl _
          · have h : n ∈ (if j = e.length then O2 else OS1 j) := h
            split at h
            · exact ⟨_, hsub.mem h⟩
            · exact ⟨j, h⟩
        | _ => exact q.elim
      · refine (simE hG v e e' s V F _ Z h I.envR I.fbS I.ur).imp (fun w s1 q => ?_) fun _ _ z => I.pox z
        obtain ⟨z, t, V1, O, q, r⟩ := q
        have d := r.low I.fbS
        cases z with
        | tup zs =>
          obtain ⟨ws, rfl, d⟩ := d
          have IG := (I.frame r.fm r.ur).give
          have I1 := IG.push .refl r.ur (z := .tup zs) (w := .tup ws) (t := 0) (O := []) ⟨ws, rfl, Dns.frame .refl (fun n _ h => ⟨h, fun j => by simp, by simp⟩) _ _ _ _ d⟩ List.nodup_nil (fun _ h => nomatch h) (by decide)
          rw [asg_tup (by rw [← Dns.length d]; exact q.1)]
          refine setN_dn ts zs ws 0 s1 V1 e e' [] _ _ _ _ _ I1 hlen (fun j hj => Nat.zero_le _) (fun j => Nat.zero_le _) (Nat.zero_le _) q.2 fun e1 o2 e1' OS3 q I3 sub3 => ?_
          refine (hR k s0 V0 F _ _ _ s1 V1 OS3 Q Z q I3).mono fun fl s2 r2 => r2.trans (Sx.of r.fm fun j n hn => ?_)
          obtain ⟨j', h⟩ := sub3 j n hn
          have h : n ∈ (if j' = e.length then [] else []) := h
          split at h <;> cases h
        | _ => exact q.elim
      · exact swp_dn hG hlen I h fun e1 o1 e1' s1 V1 OS1 q I1 S1 => (hR k s0 V0 F e1 o1 e1' s1 V1 OS1 Q Z q I1).mono fun fl s2 r => r.trans S1
      · unfold popP at h
        split at h
        · rename_i i
          obtain ⟨v0, hv, h⟩ := slot_some h
          obtain ⟨vs, hvs, h⟩ := ofO_some h
          obtain ⟨z, hz, hfz, h⟩ := ofO_some h
          obtain ⟨zs, hzs, hn, q⟩ := ofO_some h
          cases v0 with
          | cl vs' =>
            cases hvs
            cases z with
            | tup zs' =>
              cases hzs
              obtain ⟨wi, hw, D⟩ := I.at_ i _ hv
              have Id := I.push .refl I.ur (z := .non) (w := .non) (t := 0) (O := []) ⟨rfl, rfl⟩ List.nodup_nil (fun _ h => nomatch h) (by decide)
              obtain ⟨n, ws, ws', v', rfl, a1, a2, q, OS4, I4, S4⟩ := chg_dn hG Id hlen (fun j hj => by rw [if_neg (by omega)]) (.inl rfl) lop_pop hw (show rsv s [] wi = some wi from rfl) I.t2 q
              have eo : ∀ t, own1 o i .non t = o := fun t => rfl
              rw [eo] at I4
              have hne : ws ≠ [] := fun e => by rw [e] at a2; cases a2
              have e2 : ws' = ws.dropLast := by
                cases ws with
                | nil => exact absurd rfl hne
                | cons _ _ => cases a2; rfl
              obtain ⟨_, D⟩ := D
              have D' : ∃ d O, Dns s V (fun n => ¬ F n ∧ ∀ j, n ∉ OS j) vs d ws O := by
                rcases D with ⟨m, xs, e1, hs, hv, D⟩ | ⟨_, e1, _⟩
                · cases e1
                  rw [a1] at hs
                  cases hs
                  rcases D with ⟨_, _, _, D⟩ | ⟨_, O', _, D⟩
                  · exact ⟨_, _, D⟩
                  · exact ⟨_, _, D⟩
                · cases e1
              obtain ⟨d, O, D⟩ := D'
              obtain ⟨w, O1, b1, _, b2⟩ := Dns.get D hz
              have b3 := (Dn.flat _ _ _ _ hfz b2).2 (fun _ => False) 2
              have b4 : Dn (s.set n ws') V (fun _ => False) (.tup zs) 2 w [] := Dn.frameX (X := fun m => m = n) ⟨by rw [List.length_set]; exact Nat.le_refl _, fun m us hv hx h => by rw [List.getElem?_set_ne (fun z => hx z.symm)]; exact h, fun _ h => h, fun _ _ h => h⟩ (fun _ _ h => h.elim) _ _ _ _ (fun _ h => nomatch h) b3
              obtain ⟨wz, rfl, b5⟩ := b4
              have b4 : Dn (s.set n ws') V (fun _ => False) (.tup zs) 2 (.tup wz) [] := ⟨wz, rfl, b5⟩
              refine e_mt (e_var hw ⟨by show (s[n]?).isSome = true; rw [a1]; rfl, es_nil ?_⟩)
              have hlast : ws.getLast hne = .tup wz := by
                rw [Dns.length D] at b1
                rw [List.getLast_eq_getElem]
                exact (List.getElem?_eq_some_iff.mp b1).2
              refine o_pop (w := .tup wz) (ws := ws.dropLast) (by rw [← hlast, List.dropLast_concat_getLast]; exact a1) ?_
              rw [← e2]
              have I5 := I4.push .refl I4.ur (z := .tup zs) (w := .tup wz) (t := 2) (O := []) (Dn.frame .refl (fun _ _ h => h.elim) _ _ _ _ b4) List.nodup_nil (fun _ h => nomatch h) (by decide)
              rw [asg_tup (by rw [← Dns.length b5]; exact hn)]
              refine setN_dn ts zs wz 2 _ _ (e.set i (some v')) e' o _ _ _ _ _ I5 (by rw [List.length_set]; exact hlen) (fun j hj => ?_) I.t2 ?_ q fun e1 o2 e1' OS3 q I3 sub3 => ?_
              · rw [if_neg (by omega)]
                exact Nat.le_refl _
              · rw [if_pos rfl]
                exact Nat.le_refl _
              · refine (hR k s0 V0 F _ _ _ _ _ OS3 Q Z q I3).mono fun fl s2 r => r.trans (Sx.trans (Sx.refl fun j n hn => ⟨j, ?_⟩) (S4.trans (Sx.refl fun j n hn => ?_)))
                · have hn : n ∈ (if j = e.length then [] else OS j) := hn
                  split at hn
                  · cases hn
                  · exact hn
                · obtain ⟨j', h⟩ := sub3 j n hn
                  have h : n ∈ (if j' = (e.set i (some v')).length then [] else OS4 j') := h
                  split at h
                  · cases h
                  · exact ⟨j', h⟩
            | _ => cases hzs
          | _ => cases hvs
        · exact h.elim
    | nil => rw [exF] at h; exact h.elim
    | cons _ _ => rw [exF] at h; exact h.elim
  | .par2 i j a b k, s0, V0, F, e, o, e', s, V, OS, Q, Z, h, I => by
    rw [exF] at h
    rcases h with h | h
    case inl =>
      refine x_par2 ((simE hG a e e' s V F _ Z h I.envR I.fbS I.ur).imp (fun w s1 q => ?_) fun _ _ z => I.pox z)
      obtain ⟨z1, t1, V1, O1, q, r1⟩ := q
      refine (simE hG b e e' s1 V1 F _ Z q (I.envR.later r1.fm) (I.fbS.up r1.fm) r1.ur).imp (fun u s2 q => ?_) fun _ _ z => I.pox (z.trans r1.fm)
      obtain ⟨z2, t2, V2, O2, q, r2⟩ := q
      have f2 := r1.fm.trans r2.fm
      obtain ⟨OS1, I1, S1⟩ := give1 hG I f2 r2.ur i (Dn.frame r2.fm (fun _ _ h => h) _ _ _ _ (r1.low I.fbS) : D0 s2 V2 (Nt F) z1 w)
      obtain ⟨OS2, I2, S2⟩ := give1 hG I1 .refl r2.ur j (r2.low (I.fbS.up r1.fm))
      exact (hR k s0 V0 F _ _ _ s2 V2 OS2 Q Z q I2).mono fun fl s3 r => r.trans (S1.trans S2)
    obtain ⟨hij, h⟩ := h
    rw [Bool.and_eq_true, Bool.and_eq_true, bne_iff_ne, decide_eq_true_eq, decide_eq_true_eq] at hij
    obtain ⟨hne, hi, hj⟩ := hij
    have hlen := I.len
    refine x_par2 ((evX_dn hG I.nil I.len (fun _ _ => rfl) I.t2 h).imp (fun w s1 q => ?_) fun _ _ z => I.pox z)
    obtain ⟨z, t, o1, q, V1, τ1, OS1, I1, h1, _, h3, S1, h4⟩ := q
    simp only [List.append_nil] at I1 h1 h3
    refine (evX_dn hG I1 hlen h1 h4 q).imp (fun u s2 q => ?_) fun _ _ z => I1.pox z
    obtain ⟨y, t', o2, q, V2, τ2, OS2, I2, k1, k2, k3, S2, k4⟩ := q
    have le : (e ++ [some z]).length = e.length + 1 := by simp
    have k2' : τ2 e.length = t := by rw [k2 e.length (Nat.le_refl _) (by rw [le]; omega), h3]
    rw [le] at k3
    -- the second one first: into j
    obtain ⟨OS3, I3, sub3⟩ := I2.asg0 (by rw [le]; simp [hlen]) j (by rw [le]; omega)
    rw [List.set_append_left _ _ (by omega), List.set_append_left _ _ (by omega)] at I3
    obtain ⟨OS4, I4, sub4⟩ := I3.asg (by rw [List.length_set, List.length_set, hlen]) i (put (put o2 i z t) j y t') (fun l hl => by
      rw [List.length_set] at hl
      rw [List.length_set]
      refine Nat.le_trans (tg_put _ _ _ _ _) ?_
      have hp := tg_put o2 i z t l
      show _ ≤ (if l = i then (if e.length = j then τ2 (e ++ [some z]).length else τ2 e.length) else if l = j then τ2 (e ++ [some z]).length else τ2 l)
      rw [le, k3, k2', if_neg (show ¬ e.length = j by omega)]
      by_cases c1 : l = i
      · rw [if_pos c1] at hp ⊢
        rw [if_neg (show ¬ l = j by omega)]
        exact hp
      · rw [if_neg c1] at hp ⊢
        by_cases c2 : l = j
        · rw [if_pos c2, if_pos c2]
          exact Nat.le_refl _
        · rw [if_neg c2, if_neg c2, k1 l hl]
          exact hp) (fun l => by
      have a1 := I2.t2 e.length
      have a2 := I2.t2 (e.length + 1)
      rw [k2'] at a1
      rw [k3] at a2
      refine Nat.le_trans (tg_put _ _ _ _ _) ?_
      split
      · exact a2
      · refine Nat.le_trans (tg_put _ _ _ _ _) ?_
        split
        · exact a1
        · exact k4 l)
    rw [List.set_comm _ _ (Ne.symm hne), List.set_comm _ _ (Ne.symm hne)] at I4
    exact (hR k s0 V0 F _ _ _ s2 V2 OS4 Q Z q I4).mono fun fl s3 r => r.trans (S1.trans (S2.trans (Sx.refl fun j n hn => (sub4 j n hn).elim fun j' h => sub3 j' n h)))
  | .par3 i j l a b c k, s0, V0, F, e, o, e', s, V, OS, Q, Z, h, I => by
    rw [exF] at h
    refine x_par3 ((simE hG a e e' s V F _ Z h I.envR I.fbS I.ur).imp (fun w s1 q => ?_) fun _ _ z => I.pox z)
    obtain ⟨z1, t1, V1, O1, q, r1⟩ := q
    refine (simE hG b e e' s1 V1 F _ Z q (I.envR.later r1.fm) (I.fbS.up r1.fm) r1.ur).imp (fun u s2 q => ?_) fun _ _ z => I.pox (z.trans r1.fm)
    obtain ⟨z2, t2, V2, O2, q, r2⟩ := q
    have f2 := r1.fm.trans r2.fm
    refine (simE hG c e e' s2 V2 F _ Z q (I.envR.later f2) (I.fbS.up f2) r2.ur).imp (fun v s3 q => ?_) fun _ _ z => I.pox (z.trans f2)
    obtain ⟨z3, t3, V3, O3, q, r3⟩ := q
    have f3 := f2.trans r3.fm
    have d1 : D0 s3 V3 (Nt F) z1 w := Dn.frame (r2.fm.trans r3.fm) (fun _ _ h => h) _ _ _ _ (r1.low I.fbS)
    have d2 : D0 s3 V3 (Nt F) z2 u := Dn.frame r3.fm (fun _ _ h => h) _ _ _ _ (r2.low (I.fbS.up r1.fm))
    have d3 : D0 s3 V3 (Nt F) z3 v := r3.low (I.fbS.up f2)
    have I3 := I.frame f3 r3.ur
    by_cases hf : (flat z1 && flat z2 && flat z3) = true
    · rw [if_pos hf] at q
      rw [Bool.and_eq_true, Bool.and_eq_true] at hf
      obtain ⟨OA, IA, sA⟩ := I3.put0 i ((Dn.flat _ _ _ _ hf.1.1 d1).2 _ 0)
      obtain ⟨OB, IB, sB⟩ := IA.put0 j ((Dn.flat _ _ _ _ hf.1.2 d2).2 _ 0)
      obtain ⟨OC, IC, sC⟩ := IB.put0 l ((Dn.flat _ _ _ _ hf.2 d3).2 _ 0)
      exact (hR k s0 V0 F _ _ _ s3 V3 OC Q Z q IC).mono fun fl s4 r => r.trans ((Sx.of f3 fun j n hn => .inl ⟨j, hn⟩).trans (Sx.refl fun j n hn => (sC j n hn).elim fun j' h => (sB j' n h).elim fun j' h => sA j' n h))
    · rw [if_neg hf] at q
      have IG := I3.give
      have up : ∀ {OS' : Nat → List Nat} {z w}, (∀ j n, n ∈ OS' j → ∃ j', n ∈ (fun _ => [] : Nat → List Nat) j') → D0 s3 V3 (Nt F) z w → D0 s3 V3 (fun n => ¬ F n ∧ ∀ j, n ∉ OS' j) z w := fun {OS' z w} hs d => Dn.frame .refl (fun n _ h => ⟨h, fun j hj => (hs j n hj).elim fun j' h => by cases h⟩) _ _ _ _ d
      obtain ⟨OA, IA, sA⟩ := IG.put0 i (up (fun j n h => ⟨j, h⟩) d1)
      obtain ⟨OB, IB, sB⟩ := IA.put0 j (up sA d2)
      obtain ⟨OC, IC, sC⟩ := IB.put0 l (up (fun j n hn => (sB j n hn).elim fun j' h => sA j' n h) d3)
      refine (hR k s0 V0 F _ [] _ s3 V3 OC Q Z q (IC.tags fun n => ?_)).mono fun fl s4 r => r.trans ((Sx.of f3 (OS1 := OC) fun j n hn => (sC j n hn).elim fun j' h => (sB j' n h).elim fun j' h => (sA j' n h).elim fun j' h => by cases h))
      rw [tg_drp, tg_drp, tg_drp]
      show 0 = _
      split
      · rfl
      · split
        · rfl
        · split <;> rfl
  | .aug i op v k, s0, V0, F, e, o, e', s, V, OS, Q, Z, h, I => by
    rw [exF] at h
    obtain ⟨v0, hv, h⟩ := slot_some h
    obtain ⟨w0, hw, D⟩ := I.at_ i v0 hv
    have fin : ∀ (r : Int) (s1 : Sto) (V1 : Nat → Prop), Fm s V s1 V1 → Ur s1 V1 → RR k (e.set i (some (.int r))) (drp o i) Q Z → (exS G k (e'.set i (some (.int r))) s1).wp (PoS s0 V0 F s V OS Q) (PoX s0 V0 Z) := fun r s1 V1 f ur q => by
      obtain ⟨OS2, I2, sub⟩ := (I.frame f ur).put0 i (z := .int r) (w := .int r) ⟨rfl, rfl⟩
      exact (hR k s0 V0 F _ _ _ s1 V1 OS2 Q Z q I2).mono fun fl s2 r => r.trans ((Sx.of f fun j n hn => .inl ⟨j, hn⟩).trans (Sx.refl sub))
    have ex := fun (QQ : KQ) (h : evP g v e QQ Z) => (simE hG v e e' s V F QQ Z h I.envR I.fbS I.ur)
    have bad : ∀ {QQ : KQ}, evP g v e QQ Z → (∀ z t, ¬ QQ z t) → (exS G (.aug i op v k) e' s).wp (PoS s0 V0 F s V OS Q) (PoX s0 V0 Z) := fun {QQ} h hq => by
      rw [exS, rslot, hw]
      show ((ev G v e' s).bind _).wp _ _
      rw [wp_bind]
      refine (ex _ h).imp (fun u s1 q => ?_) fun _ _ z => I.pox z
      obtain ⟨z1, t1, V1, O1, q, r1⟩ := q
      exact (hq _ _ q).elim
    cases op with
    | add =>
      cases v0 with
      | int xx =>
        rw [D.1] at hw
        refine x_add hw ((ex _ h).imp (fun u s1 q => ?_) fun _ _ z => I.pox z)
        obtain ⟨z1, t1, V1, O1, q, r1⟩ := q
        cases z1 with
        | int y => exact ⟨y, (r1.low I.fbS).1, fin _ s1 V1 r1.fm r1.ur q⟩
        | _ => exact q.elim
      | _ => exact bad h (fun z t q => q.elim)
    | sub =>
      cases v0 with
      | int xx =>
        rw [D.1] at hw
        refine x_sub hw ((ex _ h).imp (fun u s1 q => ?_) fun _ _ z => I.pox z)
        obtain ⟨z1, t1, V1, O1, q, r1⟩ := q
        cases z1 with
        | int y => exact ⟨y, (r1.low I.fbS).1, fin _ s1 V1 r1.fm r1.ur q⟩
        | _ => exact q.elim
      | _ => exact bad h (fun z t q => q.elim)
    | _ => exact bad h (fun z t q => q.elim)
  | .ite c t f k, s0, V0, F, e, o, e', s, V, OS, Q, Z, h, I => by
    rw [exF] at h
    refine x_ite ((simT hG c e e' s V F _ Z h I.envR I.fbS I.ur).imp (fun b s1 q => ?_) fun _ _ z => I.pox z)
    obtain ⟨q, V1, f1, ur1⟩ := q
    have I1 := I.frame f1 ur1
    have S1 : Sx s V OS s1 V1 OS := Sx.of f1 fun j n hn => .inl ⟨j, hn⟩
    refine ⟨fun hb => ?_, fun hb => ?_⟩
    · rw [if_pos hb] at q
      exact (hR t s0 V0 F _ _ _ s1 V1 OS _ Z q I1).mono fun fl s2 r => to_nx hG (fun e o e' s1 V1 OS1 h I => hR k s0 V0 F e o e' s1 V1 OS1 Q Z h I) (r.trans S1)
    · rw [if_neg (by rw [hb]; decide)] at q
      exact (hR f s0 V0 F _ _ _ s1 V1 OS _ Z q I1).mono fun fl s2 r => to_nx hG (fun e o e' s1 V1 OS1 h I => hR k s0 V0 F e o e' s1 V1 OS1 Q Z h I) (r.trans S1)
  | .whl c b k, s0, V0, F, e, o, e', s, V, OS, Q, Z, h, I => by
    rw [exF] at h
    refine x_whl ((while_dn hG (fun e o e' s1 V1 OS1 Q h I => hR b s0 V0 F e o e' s1 V1 OS1 Q Z h I) big e o e' s V OS h I (Sx.refl fun j n hn => ⟨j, hn⟩)).mono fun fl s2 r => to_nx hG (fun e o e' s1 V1 OS1 h I => hR k s0 V0 F e o e' s1 V1 OS1 Q Z h I) r)
  | .for_ t ik as b k, s0, V0, F, e, o, e', s, V, OS, Q, Z, h, I => by
    rw [exF] at h
    rcases h with h | h
    rotate_left
    · unfold aplP at h
      split at h
      · rename_i i j p q heq
        obtain ⟨rfl, rfl, rfl, rfl, hij⟩ := apx_eq heq
        obtain ⟨v, hv, h⟩ := slot_some h
        obtain ⟨n, hl, hn, hj, h⟩ := ofO_some h
        obtain ⟨w, hw, D⟩ := I.at_ i v hv
        refine x_for (es_cons (e_var hw (es_nil ⟨srcW w, it_src D hl, ?_⟩)))
        have I1 := I.unset j (e'.getD j none)
        have e1 : e'.set j (e'.getD j none) = e' := by
          apply List.ext_getElem?
          intro l
          rw [List.getElem?_set]
          split
          · rename_i z
            subst z
            split
            · rename_i z
              rw [List.getD_eq_getElem?_getD, List.getElem?_eq_getElem z]
              rfl
            · rename_i z
              rw [List.getElem?_eq_none (by omega)]
          · rfl
        rw [e1] at I1
        have et : (fun l => if l = j then 0 else tg o l) = tg (drp o j) := funext fun l => (tg_drp o j l).symm
        rw [et] at I1
        have S1 : Sx s V OS s V (fun l => if l = j then [] else OS l) := Sx.refl fun l y hy => ⟨l, by
          have hy : y ∈ (if l = j then [] else OS l) := hy
          split at hy
          · cases hy
          · exact hy⟩
        refine (ap_dn hG hij (by rw [tg_drp, if_pos rfl]) n 0 big (e.set j none) e' s V _ v h (by rw [List.set_set]) (by rw [List.length_set]; exact hj) I1 (by rw [List.getElem?_set_ne (Ne.symm hij)]; exact hv) (by rw [Nat.zero_add]; exact hl) hw (by unfold big; omega) S1).mono fun fl s2 r => ?_
        obtain ⟨f, ⟨e2, rfl, q⟩, r⟩ := r
        exact to_nx hG (fun e o e' s1 V1 OS1 h I => hR k s0 V0 F e o e' s1 V1 OS1 Q Z h I) ⟨.nx e2 (drp o j), q, r⟩
      · exact h.elim
    refine x_for ((evXs_dn hG I h).imp (fun ws s1 q => ?_) fun _ _ z => I.pox z)
    obtain ⟨zs, t', o1, V1, OS1, q, I1, S1, D⟩ := q
    obtain ⟨xs, hx, q⟩ := ofO_some q
    obtain ⟨src, h1, h2⟩ := src_dn D hx
    refine ⟨src, h1, ?_⟩
    refine (for_dn hG h2 (fun e o e' s1 V1 OS1 Q h I => hR b s0 V0 F e o e' s1 V1 OS1 Q Z h I) big 0 e o1 e' s1 V1 OS1 (by have := h2.few; omega) (Nat.zero_le _) (by rw [List.drop_zero]; exact q) I1 (Sx.refl fun j n hn => ⟨j, hn⟩)).mono fun fl s2 r => ?_
    exact to_nx hG (fun e o e' s1 V1 OS1 h I => hR k s0 V0 F e o e' s1 V1 OS1 Q Z h I) (r.trans S1)
  | .ret v k, s0, V0, F, e, o, e', s, V, OS, Q, Z, h, I => by
    rw [exF] at h
    rcases h with h | h
    · refine x_ret ((simE hG v e e' s V F _ Z h I.envR I.fbS I.ur).imp (fun w s1 q => ?_) fun _ _ z => I.pox z)
      obtain ⟨z, t, V1, O, q, r⟩ := q
      exact pos_rt q (I.res r)
    · cases v with
      | var i =>
        obtain ⟨z, hz, q⟩ := slot_some h
        obtain ⟨t, ht, q⟩ := ofO_some q
        obtain ⟨w, hw, D⟩ := I.at_ i z hz
        have et : tg o i = t := by unfold tg; rw [ht]; rfl
        refine x_ret (e_var hw (pos_rt (O := OS i) q ⟨I.fm, ?_, I.nd i, I.ge i, I.ur, by rw [← et]; exact I.t2 i⟩))
        rw [← et]
        exact Dn.frame .refl (fun n _ h => ⟨h.1, h.2 i⟩) _ _ _ _ D
      | tup as =>
        obtain ⟨vs, ws, O, ⟨hl, q⟩, D, nd, ge, _, ev⟩ := retT_dn (G := G) (A := fun _ => False) I as [] _ h
        refine x_ret (e_tup (ev _ _ ⟨by rw [← Dns.length D]; exact hl, pos_rt (O := O) q ⟨I.fm, ⟨ws, rfl, Dns.all _ _ _ D⟩, nd, ge, I.ur, by decide⟩⟩))
      | _ => exact h.elim
  | .retn k, s0, V0, F, e, o, e', s, V, OS, Q, Z, h, I => by
    rw [exF] at h
    exact x_retn (pos_rt (O := []) h ⟨I.fm, ⟨rfl, rfl⟩, List.nodup_nil, (fun _ h => nomatch h), I.ur, by decide⟩)
  | .brk k, s0, V0, F, e, o, e', s, V, OS, Q, Z, h, I => by
    rw [exF] at h
    exact x_brk ⟨_, h, e', V, OS, rfl, I, Sx.refl fun j n hn => ⟨j, hn⟩⟩
  | .ct k, s0, V0, F, e, o, e', s, V, OS, Q, Z, h, I => by
    rw [exF] at h
    exact x_ct ⟨_, h, e', V, OS, rfl, I, Sx.refl fun j n hn => ⟨j, hn⟩⟩
  | .pass k, s0, V0, F, e, o, e', s, V, OS, Q, Z, h, I => by
    rw [exF] at h
    exact x_pass (hR k s0 V0 F e o e' s V OS Q Z h I)
  | .exp v k, s0, V0, F, e, o, e', s, V, OS, Q, Z, h, I => by
    rw [exF] at h
    have hlen := I.len
    have plain : evP g v e (fun _ _ => RR k e o Q Z) Z → (exS G (.exp v k) e' s).wp (PoS s0 V0 F s V OS Q) (PoX s0 V0 Z) := fun h => by
      refine x_exp ((simE hG v e e' s V F _ Z h I.envR I.fbS I.ur).imp (fun w s1 q => ?_) fun _ _ z => I.pox z)
      obtain ⟨z, t, V1, O, q, r⟩ := q
      exact (hR k s0 V0 F e o e' s1 V1 OS Q Z q (I.frame r.fm r.ur)).mono fun fl s2 r2 => r2.trans (Sx.of r.fm fun j n hn => .inl ⟨j, hn⟩)
    have hlocG : ∀ {i : Nat} {p : List Int} {s1 : Sto} {V1 : Nat → Prop} {ow wi : W}, isL e o i p → Iv s0 V0 F s1 V1 e (tg o) e' OS → e'[i]? = some (some wi) → rsv s1 p wi = some ow → ∃ n ws, ow = .loc n ∧ s1[n]? = some ws := fun {i p s1 V1 ow wi} h I1 hw hr => by
      obtain ⟨hm, hc⟩ := h
      have Id := I1.push .refl I1.ur (z := .non) (w := .non) (t := 0) (O := []) ⟨rfl, rfl⟩ List.nodup_nil (fun _ h => nomatch h) (by decide)
      obtain ⟨v, hv, hc⟩ := slot_some hc
      obtain ⟨v', hc⟩ := Option.isSome_iff_exists.mp hc
      obtain ⟨n, ws, _, _, a1, a2, _⟩ := chg_dn (Q := fun _ => True) hG Id hlen (fun j hj => by rw [if_neg (by omega)]) (.inl rfl) lop_id hw hr I.t2 ⟨hm, by unfold slotP; rw [hv]; show ofO (chg some p v) _; rw [hc]; trivial⟩
      exact ⟨n, ws, a1, a2⟩
    have nov : ∀ {f fw : List W → Option (List W)} {z w : W} (L : LOp f fw z w) (hz : flat z = true) {i : Nat} {p : List Int} {s1 : Sto} {V1 : Nat → Prop} {ow wi : W} (dz : ∀ (A' : Nat → Prop) (d' : Nat), Dn s1 V1 A' z d' w []), Iv s0 V0 F s1 V1 e (tg o) e' OS → Sx s V OS s1 V1 OS → e'[i]? = some (some wi) → rsv s1 p wi = some ow → chgQ e o i p f (fun e' => RR k e' o Q Z) →
        ∃ n ws ws', ow = .loc n ∧ s1[n]? = some ws ∧ fw ws = some ws' ∧ (exS G k e' (s1.set n ws')).wp (PoS s0 V0 F s V OS Q) (PoX s0 V0 Z) := fun {f fw z w} L hz {i p s1 V1 ow wi} dz I1 S1 hw hr q => by
      have Id := I1.push .refl I1.ur (z := z) (w := w) (t := 0) (O := []) (dz _ _) List.nodup_nil (fun _ h => nomatch h) (by decide)
      obtain ⟨n, ws, ws', v', a0, a1, a2, q, OS4, I4, S4⟩ := chg_dn hG Id hlen (fun j hj => by rw [if_neg (by omega)]) (.inl (by rw [hz]; rfl)) L hw hr I.t2 q
      refine ⟨n, ws, ws', a0, a1, a2, ?_⟩
      have eo : ∀ t, own1 o i z t = o := fun t => by unfold own1; rw [hz]; rfl
      rw [eo] at I4
      refine (hR k s0 V0 F _ _ _ _ _ OS4 Q Z q I4).mono fun fl s5 r => r.trans (S1.trans (Sx.trans (Sx.refl fun j n hn => ⟨j, ?_⟩) S4))
      have hn : n ∈ (if j = e.length then [] else OS j) := hn
      split at hn
      · cases hn
      · exact hn
    unfold expP at h
    split at h
    · rename_i lv a
      refine x_exp (e_mt ((lv_dn hG lv e e' s V F _ Z h I.envR I.fbS I.ur).imp (fun ow s1 q => ?_) fun _ _ z => I.pox z))
      obtain ⟨i, p, V1, ⟨⟨hm, hc⟩, q⟩, f1, ur1, wi, hw, hr⟩ := q
      have I1 := I.frame f1 ur1
      have S1 : Sx s V OS s1 V1 OS := Sx.of f1 fun j n hn => .inl ⟨j, hn⟩
      have hloc := hlocG ⟨hm, hc⟩ I1 hw (hr _ _ .refl)
      obtain ⟨n0, ws0, rfl, hn0⟩ := hloc
      refine ⟨by show (s1[n0]?).isSome = true; rw [hn0]; rfl, es_cons ?_⟩
      have fin : ∀ {z w : W} {s2 : Sto} {V2 : Nat → Prop} {τ2 : Nat → Nat} {OS2 : Nat → List Nat} {o2 : Own}, Fm s1 V1 s2 V2 → Sx s1 V1 OS s2 V2 OS2 → Iv s0 V0 F s2 V2 (e ++ [some z]) τ2 (e' ++ [some w]) OS2 → (∀ j, j < e.length → τ2 j = tg o j) → ((flat z || τ2 e.length == 2) = true ∨ p = []) → own1 o i z (τ2 e.length) = o2 → (chgQ e o i p (appF z) fun e' => RR k e' o2 Q Z) →
          (mtW .append (.loc n0) [w] s2).wp (fun _ s3 => (exS G k e' s3).wp (PoS s0 V0 F s V OS Q) (PoX s0 V0 Z)) (PoX s0 V0 Z) := fun {z w s2 V2 τ2 OS2 o2} f2 S2 I2 h1 hz ho q => by
        obtain ⟨n, ws, ws', v', e1, a1, a2, q, OS4, I4, S4⟩ := chg_dn hG I2 hlen h1 hz (lop_app z w) hw (hr _ _ f2) I.t2 q
        cases e1
        have a2 : (if ws.length < sizeLine then some (ws ++ [w]) else none) = some ws' := a2
        split at a2
        · rename_i hl
          cases a2
          refine o_append a1 hl ?_
          rw [ho] at I4
          exact (hR k s0 V0 F _ _ _ _ _ OS4 Q Z q I4).mono fun fl s5 r => r.trans (S1.trans (S2.trans S4))
        · cases a2
      rcases q with q | q
      · refine (evF_dn hG I1.nil hlen (fun _ _ q => q.1) q).imp (fun w s2 q => es_nil ?_) fun _ _ z => I1.pox z
        obtain ⟨z, t, V2, τ2, OS2, ⟨hf, q⟩, I2, h1, h3, S2, f2⟩ := q
        simp only [List.append_nil] at I2 h1 h3
        exact fin f2 S2 I2 h1 (.inl (by rw [h3]; exact hf)) (by unfold own1; rw [h3, if_pos hf]) q
      · refine (evH_dn hG I1.nil hlen (fun _ _ => rfl) q).imp (fun w s2 q => es_nil ?_) fun _ _ z => I1.pox z
        obtain ⟨z, t, V2, τ2, OS2, ⟨hp0, q⟩, I2, h1, h3, S2, f2⟩ := q
        simp only [List.append_nil] at I2 h1 h3
        exact fin f2 S2 I2 h1 (.inr hp0) (by rw [h3]) q
    · rename_i lv
      refine x_exp (e_mt ((lv_dn hG lv e e' s V F _ Z h I.envR I.fbS I.ur).imp (fun ow s1 q => ?_) fun _ _ z => I.pox z))
      obtain ⟨i, p, V1, q, f1, ur1, wi, hw, hr⟩ := q
      obtain ⟨n, ws, ws', rfl, a1, a2, fin⟩ := nov lop_pop rfl (fun _ _ => ⟨rfl, rfl⟩) (I.frame f1 ur1) (Sx.of f1 fun j n hn => .inl ⟨j, hn⟩) hw (hr _ _ .refl) q
      refine ⟨by show (s1[n]?).isSome = true; rw [a1]; rfl, es_nil ?_⟩
      have hne : ws ≠ [] := fun e => by rw [e] at a2; cases a2
      have e2 : ws' = ws.dropLast := by
        cases ws with
        | nil => exact absurd rfl hne
        | cons _ _ => cases a2; rfl
      rw [e2] at fin
      exact o_pop (w := ws.getLast hne) (ws := ws.dropLast) (by rw [List.dropLast_concat_getLast]; exact a1) fin
    · rename_i lv
      refine x_exp (e_mt ((lv_dn hG lv e e' s V F _ Z h I.envR I.fbS I.ur).imp (fun ow s1 q => ?_) fun _ _ z => I.pox z))
      obtain ⟨i, p, V1, q, f1, ur1, wi, hw, hr⟩ := q
      obtain ⟨n, ws, ws', rfl, a1, a2, fin⟩ := nov lop_clr rfl (fun _ _ => ⟨rfl, rfl⟩) (I.frame f1 ur1) (Sx.of f1 fun j n hn => .inl ⟨j, hn⟩) hw (hr _ _ .refl) q
      refine ⟨by show (s1[n]?).isSome = true; rw [a1]; rfl, es_nil ?_⟩
      cases a2
      show (match s1[n]? with
        | some _ => R.ok .non (s1.set n [])
        | none => .bad : R W).wp _ _
      rw [a1]
      exact fin
    · rename_i lv a
      refine x_exp (e_mt ((lv_dn hG lv e e' s V F _ Z h I.envR I.fbS I.ur).imp (fun ow s1 q => ?_) fun _ _ z => I.pox z))
      obtain ⟨i, p, V1, ⟨hi, q⟩, f1, ur1, wi, hw, hr⟩ := q
      have I1 := I.frame f1 ur1
      obtain ⟨n0, ws0, rfl, hn0⟩ := hlocG hi I1 hw (hr _ _ .refl)
      refine ⟨by show (s1[n0]?).isSome = true; rw [hn0]; rfl, es_cons ((simE hG a e e' s1 V1 F _ Z q I1.envR I1.fbS I1.ur).imp (fun u s2 q => es_nil ?_) fun _ _ z => I1.pox z)⟩
      obtain ⟨z1, t1, V2, O1, q1, r1⟩ := q
      obtain ⟨j, rfl, q⟩ := toIP_some q1
      rw [(r1.low I1.fbS).1]
      have f2 := f1.trans r1.fm
      obtain ⟨n, ws, ws', e1, a1, a2, fin⟩ := nov (lop_delAt j) rfl (fun _ _ => ⟨rfl, rfl⟩) (I.frame f2 r1.ur) (Sx.of f2 fun j n hn => .inl ⟨j, hn⟩) hw (hr _ _ r1.fm) q
      cases e1
      unfold delF at a2
      split at a2
      · rename_i hk
        obtain ⟨m, h1, h2⟩ := Option.bind_eq_some_iff.mp a2
        split at h2
        · rename_i h3
          cases h2
          show (match s2[n0]? with
            | some ws => if -(2 ^ 63) ≤ j ∧ j < 2 ^ 63 then match seqIndex? j ws.length with
              | some k => match ws[k]? with
                | some w => R.ok w (s2.set n0 (ws.eraseIdx k))
                | none => .bad
              | none => .bad
              else .bad
            | none => .bad : R W).wp _ _
          rw [a1]
          show (if -(2 ^ 63) ≤ j ∧ j < 2 ^ 63 then match seqIndex? j ws.length with
              | some k => match ws[k]? with
                | some w => R.ok w (s2.set n0 (ws.eraseIdx k))
                | none => .bad
              | none => .bad
              else .bad : R W).wp _ _
          rw [if_pos hk, h1]
          show (match ws[m]? with
                | some w => R.ok w (s2.set n0 (ws.eraseIdx m))
                | none => .bad : R W).wp _ _
          rw [List.getElem?_eq_getElem h3]
          exact fin
        · cases h2
      · cases a2
    · rename_i lv a
      refine x_exp (e_mt ((lv_dn hG lv e e' s V F _ Z h I.envR I.fbS I.ur).imp (fun ow s1 q => ?_) fun _ _ z => I.pox z))
      obtain ⟨i, p, V1, ⟨hi, q⟩, f1, ur1, wi, hw, hr⟩ := q
      have I1 := I.frame f1 ur1
      obtain ⟨n0, ws0, rfl, hn0⟩ := hlocG hi I1 hw (hr _ _ .refl)
      refine ⟨by show (s1[n0]?).isSome = true; rw [hn0]; rfl, es_cons ((simE hG a e e' s1 V1 F _ Z q I1.envR I1.fbS I1.ur).imp (fun u s2 q => es_nil ?_) fun _ _ z => I1.pox z)⟩
      obtain ⟨z1, t1, V2, O1, ⟨ht1, q1⟩, r1⟩ := q
      obtain ⟨us, hus, hfl, q⟩ := ofO_some q1
      cases z1 with
      | cl us' =>
        cases hus
        obtain ⟨_, D⟩ := r1.dn
        rcases D with ⟨m, xs, e1, hs, hv, D⟩ | ⟨_, _, z0, _⟩
        · have D' : ∃ d O, Dns s2 V2 (fun n => ¬ F n ∧ n ∉ O1) us d xs O := by
            rcases D with ⟨_, _, _, D⟩ | ⟨_, O', _, D⟩
            · exact ⟨_, _, D⟩
            · exact ⟨_, _, D⟩
          obtain ⟨d, O, D⟩ := D'
          subst e1
          have Df := (Dns.flat _ _ _ _ hfl D).2
          have f2 := f1.trans r1.fm
          obtain ⟨n, ws, ws', e1, a1, a2, fin⟩ := nov (lop_ext us xs (Dns.length D)) hfl (fun A' d' => ⟨xs, rfl, Df A' d'⟩) (I.frame f2 r1.ur) (Sx.of f2 fun j n hn => .inl ⟨j, hn⟩) hw (hr _ _ r1.fm) q
          cases e1
          unfold extF at a2
          split at a2
          · rename_i hl
            cases a2
            show (match s2[n0]?, s2[m]? with
              | some xs, some ys => if xs.length + ys.length ≤ sizeLine then R.ok .non (s2.set n0 (xs ++ ys)) else .bad
              | _, _ => .bad : R W).wp _ _
            rw [a1, hs]
            show (if ws.length + xs.length ≤ sizeLine then R.ok .non (s2.set n0 (ws ++ xs)) else .bad : R W).wp _ _
            rw [if_pos hl]
            exact fin
          · cases a2
        · exact absurd z0 ht1
      | _ => cases hus
    · exact plain h
  | .raise c k, s0, V0, F, e, o, e', s, V, OS, Q, Z, h, I => by
    rw [exF] at h
    exact x_raise (by rw [← hG.ex]; exact h.1) ⟨h.2, V, I.fm, I.ur⟩
  | .tryr j t v f k, s0, V0, F, e, o, e', s, V, OS, Q, Z, h, I => by
    rw [exF] at h
    obtain ⟨hx, hj, h⟩ := h
    rw [exS, if_pos (by rw [Bool.and_eq_true, decide_eq_true_eq]; exact ⟨by rw [← hG.ex]; exact hx, by rw [← I.len]; exact hj⟩)]
    have hlen := I.len
    have key := simE hG v e e' s V F _ _ h I.envR I.fbS I.ur
    cases hv : ev G v e' s with
    | bad => rw [hv] at key; exact key.elim
    | ok w s1 =>
      rw [hv] at key
      obtain ⟨z, tz, V1, O, q, r⟩ := key
      have S1 : Sx s V OS s1 V1 OS := Sx.of r.fm fun j n hn => .inl ⟨j, hn⟩
      cases t with
      | set i =>
        have q : RR k (e.set i (some z)) (if (flat z || tz == 2) = true then put o i z tz else put [] i z tz) Q Z ∨ RR k (e.set i (some z)) [] Q Z := q
        rcases q with q | q
        case inr =>
          obtain ⟨OS1, I1, S1⟩ := give1 hG I r.fm r.ur i (r.low I.fbS)
          exact (hR k s0 V0 F _ _ _ s1 V1 OS1 Q Z q I1).mono fun fl s2 r => r.trans S1
        show (exS G k (e'.set i (some w)) s1).wp _ _
        have fin : ∀ {o1 : Own} {OS1 : Nat → List Nat}, Iv s0 V0 F s V e (tg o1) e' OS1 → (∀ j n, n ∈ OS1 j → ∃ j', n ∈ OS j') → Dn s1 V1 (fun n => ¬ F n ∧ (∀ j, n ∉ OS1 j) ∧ n ∉ O) z tz w O → RR k (e.set i (some z)) (put o1 i z tz) Q Z → (exS G k (e'.set i (some w)) s1).wp (PoS s0 V0 F s V OS Q) (PoX s0 V0 Z) := fun {o1 OS1} I0 s01 d q => by
          have I1 := I0.push r.fm r.ur d r.nd r.ge r.t2
          obtain ⟨OS2, I2, sub⟩ := I1.asg hlen i (put o1 i z tz) (fun j hj => by
            refine Nat.le_trans (tg_put o1 i z tz j) ?_
            split
            · rw [if_pos rfl]; exact Nat.le_refl _
            · rw [if_neg (by omega)]; exact Nat.le_refl _) (fun j => by
            refine Nat.le_trans (tg_put o1 i z tz j) ?_
            split
            · exact r.t2
            · exact I0.t2 j)
          refine (hR k s0 V0 F _ _ _ s1 V1 OS2 Q Z q I2).mono fun fl s2 r2 => r2.trans (Sx.of r.fm fun j n hn => ?_)
          obtain ⟨j', h⟩ := sub j n hn
          have h : n ∈ (if j' = e.length then O else OS1 j') := h
          split at h
          · exact .inr (r.ge n h)
          · exact .inl (s01 j' n h)
        have hO : ∀ n ∈ O, ∀ j, n ∉ OS j := fun n hn j z => by
          have := r.ge n hn
          have := (I.lt z).1
          omega
        by_cases hf : (flat z || tz == 2) = true
        · rw [if_pos hf] at q
          refine fin I (fun j n h => ⟨j, h⟩) ?_ q
          rw [Bool.or_eq_true, beq_iff_eq] at hf
          rcases hf with hf | hf
          · have := Dn.flat _ _ _ _ hf r.dn
            rw [this.1]
            exact this.2 _ _
          · rw [hf]
            exact Dn.all _ _ _ (by rw [← hf]; exact r.dn)
        · rw [if_neg hf] at q
          exact fin I.give (fun j n h => by cases h) (Dn.frame .refl (fun n _ h => ⟨h.1, fun j => by simp, h.2⟩) _ _ _ _ r.dn) q
      | ret => exact pos_rt q (I.res r)
      | exp => exact (hR k s0 V0 F e o e' s1 V1 OS Q Z q (I.frame r.fm r.ur)).mono fun fl s2 r2 => r2.trans S1
    | exc c s1 =>
      rw [hv] at key
      obtain ⟨q, V1, f1, ur1⟩ := key
      have q : tryXP j f (fun e o Q => RR k e o Q Z) e o Q c := q
      obtain ⟨x, hw, q⟩ := ofO_some q
      show (tryX j f (exS G k) e' c s1).wp _ _
      unfold tryX
      rw [hw]
      have I1 := I.frame f1 ur1
      have S1 : Sx s V OS s1 V1 OS := Sx.of f1 fun j n hn => .inl ⟨j, hn⟩
      cases f with
      | ret => exact pos_rt (O := []) q ⟨I1.fm, pair_d0, List.nodup_nil, (fun _ h => nomatch h), ur1, by decide⟩
      | set i =>
        have q : RR k ((e.set i (some (.tup [.str "refused", .str x]))).set j none) (drp (drp o i) j) Q Z := q
        obtain ⟨OS2, I2, sub⟩ := I1.put0 i (z := .tup [.str "refused", .str x]) (w := .tup [.str "refused", .str x]) pair_d0
        have I3 := I2.unset j none
        refine (hR k s0 V0 F _ _ _ s1 V1 _ Q Z q (I3.tags fun l => tg_drp _ _ _)).mono fun fl s2 r2 => r2.trans (S1.trans (Sx.refl fun l n hn => ?_))
        have hn : n ∈ (if l = j then [] else OS2 l) := hn
        split at hn
        · cases hn
        · exact sub l n hn
      | retEq y => exact pos_rt (O := []) q ⟨I1.fm, ⟨rfl, rfl⟩, List.nodup_nil, (fun _ h => nomatch h), ur1, by decide⟩
end
@[irreducible] def exP (g : PG) (b : B) (e : Sl) (o : Own) (Q : FlP → Prop) (Z : KZ) : Prop := ∀ G : Py.G, SimG G g → ∀ (s0 : Sto) (V0 F : Nat → Prop) (e' : Sl) (s : Sto) (V : Nat → Prop) (OS : Nat → List Nat), Iv s0 V0 F s V e (tg o) e' OS → (exS G b e' s).wp (PoS s0 V0 F s V OS Q) (PoX s0 V0 Z)
theorem exP_iff {g : PG} {b : B} {e : Sl} {o : Own} {Q : FlP → Prop} {Z : KZ} : exP g b e o Q Z ↔ ∀ G : Py.G, SimG G g → ∀ (s0 : Sto) (V0 F : Nat → Prop) (e' : Sl) (s : Sto) (V : Nat → Prop) (OS : Nat → List Nat), Iv s0 V0 F s V e (tg o) e' OS → (exS G b e' s).wp (PoS s0 V0 F s V OS Q) (PoX s0 V0 Z) := by
  unfold exP
  exact Iff.rfl
theorem exP_of {g : PG} {b : B} {e : Sl} {o : Own} {Q : FlP → Prop} {Z : KZ} (h : ∀ G : Py.G, SimG G g → ∀ (s0 : Sto) (V0 F : Nat → Prop) (e' : Sl) (s : Sto) (V : Nat → Prop) (OS : Nat → List Nat), Iv s0 V0 F s V e (tg o) e' OS → (exS G b e' s).wp (PoS s0 V0 F s V OS Q) (PoX s0 V0 Z)) : exP g b e o Q Z := exP_iff.mpr h
theorem simS {G : Py.G} {g : PG} (hG : SimG G g) : Sound G (exP g) := fun _ s0 V0 F _ _ e' s V OS _ _ h I => exP_iff.mp h G hG s0 V0 F e' s V OS I
theorem exP_in {g : PG} {b : B} {e : Sl} {o : Own} {Q : FlP → Prop} {Z : KZ} (h : exF g (exP g) b e o Q Z) : exP g b e o Q Z := exP_of fun _ hG s0 V0 F e' s V OS I => simF hG (simS hG) b s0 V0 F e o e' s V OS Q Z h I
theorem exP_weak {g : PG} {b : B} {e : Sl} {o o' : Own} {Q : FlP → Prop} {Z : KZ} (h : exP g b e o' Q Z) (ho : ∀ i, tg o' i ≤ tg o i) : exP g b e o Q Z := exP_of fun G hG s0 V0 F e' s V OS I => by
  obtain ⟨OS', I', sub⟩ := I.weak (tg o') (fun i _ => ho i) fun i => Nat.le_trans (ho i) (I.t2 i)
  exact (exP_iff.mp h G hG s0 V0 F e' s V OS' I').mono fun fl s2 r => r.trans (Sx.refl fun j n hn => ⟨j, (sub j).mem hn⟩)
end Pq

namespace Pq
open PySem Py Pl
def gamP (tab : Str → Option Fi) (con : Str → Option W) (ex : Str → Bool) : Nat → PG
  | 0 => ⟨fun _ _ _ _ _ => False, con, fun x => (tab x).isSome, ex⟩
  | k + 1 => ⟨fun x vs ts Q Z => if x = "_law_draw" then drawP vs Q else if x = "_law_urn" then urnP vs Q else match tab x with
    | some fi => vs.length = fi.ps.length ∧ (exP (gamP tab con ex k) fi.body (vs.map some ++ List.replicate (fi.names.length - vs.length) none) [] (fnQP Q) Z ∨ exP (gamP tab con ex k) fi.body (vs.map some ++ List.replicate (fi.names.length - vs.length) none) (ownOf 0 vs ts) (fnQP Q) Z)
    | none => False, con, fun x => (tab x).isSome, ex⟩
mutual
def grd : W → Bool
  | .tup ws => grds ws
  | .cl ws => decide (ws.length ≤ sizeLine) && grds ws
  | .loc _ => false
  | .fn _ => false
  | _ => true
def grds : List W → Bool
  | [] => true
  | w :: ws => grd w && grds ws
end
section
variable {s : Sto} {V A : Nat → Prop}
mutual
theorem grd_ok : ∀ (w : W), grd w = true → D0 s V A w w
  | .tup ws, h => ⟨ws, rfl, grds_ok ws h⟩
  | .cl ws, h => by
    have h : (decide (ws.length ≤ sizeLine) && grds ws) = true := h
    rw [Bool.and_eq_true, decide_eq_true_eq] at h
    exact ⟨h.1, .inr ⟨ws, rfl, rfl, rfl, grds_ok ws h.2⟩⟩
  | .loc _, h => by cases h
  | .fn _, h => by cases h
  | .non, _ => ⟨rfl, rfl⟩
  | .bl _, _ => ⟨rfl, rfl⟩
  | .int _, _ => ⟨rfl, rfl⟩
  | .str _, _ => ⟨rfl, rfl⟩
theorem grds_ok : ∀ (ws : List W), grds ws = true → D0s s V A ws ws
  | [], _ => ⟨rfl, rfl⟩
  | w :: ws, h => by
    have h : (grd w && grds ws) = true := h
    rw [Bool.and_eq_true] at h
    exact D0s.cons (grd_ok w h.1) (grds_ok ws h.2)
end
end
structure Prim (T : Str → Option Fi) (C : Str → Option W) (X : Str → Bool) : Prop where
  draw : ∀ (k : Nat) (s : Sto) (u : Nat) (m : Int) (Q : QK W) (Z : EK), Urn s u → 0 < m → m ≤ 10 ^ 18 → (∀ d s', 0 ≤ d → d < m → Urn s' u → Fr (At u) s s' → s'.length = s.length → Q (.int d) s') → ((gam T C X (k + 1)).call "_law_draw" [.loc u, .int m] s).wp Q Z
  urn : ∀ (k : Nat) (s : Sto) (ns : List Int) (a : Int) (Q : QK W) (Z : EK), 0 ≤ a → a < 8 → ns.length ≤ 63 → (∀ s', Urn s' s.length → Fr No s s' → s'.length = s.length + 1 → Q (.loc s.length) s') → ((gam T C X (k + 1)).call "_law_urn" [.cl (ns.map W.int), .int a] s).wp Q Z
theorem prim_of {T : Str → Option Fi} {C : Str → Option W} {X : Str → Bool} (hd : Has T "_law_draw" 2 3 bd__law_draw) (hu : Has T "_law_urn" 2 5 bd__law_urn) : Prim T C X :=
  ⟨fun k s u m Q Z h1 h2 h3 q => draw_wp hd h1 h2 h3 q, fun k s ns a Q Z h1 h2 h3 q => urn_wp hu h1 h2 h3 q⟩
theorem Iv.d0s {s0 s : Sto} {V0 F V : Nat → Prop} {vs ws : List W} {τ : Nat → Nat} {OS : Nat → List Nat} (I : Iv s0 V0 F s V (vs.map some) τ (ws.map some) OS) : D0s s V (Nt F) vs ws := by
  have E := I.envR
  refine D0s.of (by simpa using E.len) fun i v w h1 h2 => ?_
  obtain ⟨u, a, b⟩ := E.at_ i v (by rw [List.getElem?_map, h1]; rfl)
  rw [List.getElem?_map, h2] at a
  cases a
  exact b
theorem Iv.pad {s0 s : Sto} {V0 F V : Nat → Prop} {vs ws : List W} {τ : Nat → Nat} {OS : Nat → List Nat} (I : Iv s0 V0 F s V (vs.map some) τ (ws.map some) OS) (n : Nat) : Iv s0 V0 F s V (vs.map some ++ List.replicate n none) τ (ws.map some ++ List.replicate n none) OS := by
  have hl : vs.length = ws.length := by simpa using I.len
  refine ⟨by simp [hl], fun i v hv => ?_, fun i hv => I.emp i fun v h => hv v ?_, I.nd, I.dis, I.ge, I.ur, I.fm, I.fb, I.t2⟩
  · by_cases hi : i < vs.length
    · rw [List.getElem?_append_left (by simpa using hi)] at hv
      obtain ⟨w, a, b⟩ := I.at_ i v hv
      exact ⟨w, by rw [List.getElem?_append_left (by simpa [← hl] using hi)]; exact a, b⟩
    · rw [List.getElem?_append_right (by simpa using hi), List.getElem?_replicate] at hv
      split at hv <;> cases hv
  · rw [List.getElem?_append_left (List.getElem?_eq_some_iff.mp h).1]
    exact h
theorem own_low : ∀ (n : Nat) (vs : List W) (ts : List Nat) (i : Nat), i < n → tg (ownOf n vs ts) i = 0
  | n, [], _, i, _ => by unfold ownOf; rfl
  | n, _ :: _, [], i, _ => by unfold ownOf; rfl
  | n, v :: vs, t :: ts, i, h => by
    unfold ownOf
    split
    · exact own_low (n + 1) vs ts i (by omega)
    · rw [tg_cons, if_neg (by omega)]
      exact own_low (n + 1) vs ts i (by omega)
theorem own_le' : ∀ (n : Nat) (vs : List W) (ts : List Nat) (i : Nat), tg (ownOf n vs ts) (n + i) ≤ ts.getD i 0
  | n, [], _, i => Nat.zero_le _
  | n, _ :: _, [], i => Nat.zero_le _
  | n, v :: vs, t :: ts, 0 => by
    unfold ownOf
    split
    · rw [own_low (n + 1) vs ts (n + 0) (by omega)]
      exact Nat.zero_le _
    · rw [tg_cons, if_pos (by omega)]
      exact Nat.le_refl _
  | n, v :: vs, t :: ts, i + 1 => by
    have := own_le' (n + 1) vs ts i
    rw [show n + 1 + i = n + (i + 1) from by omega] at this
    unfold ownOf
    split
    · exact this
    · rw [tg_cons, if_neg (by omega)]
      exact this
theorem ownOf_le (n : Nat) (vs : List W) (ts : List Nat) (i : Nat) : tg (ownOf 0 vs ts) i ≤ ts.getD i 0 := by
  have := own_le' 0 vs ts i
  rw [Nat.zero_add] at this
  exact this
section
variable {T : Str → Option Fi} {C : Str → Option W} {X : Str → Bool}
theorem sim_gam (P : Prim T C X) (hc : ∀ x w, C x = some w → grd w = true) : ∀ k, SimG (gam T C X k) (gamP T C X k) := by
  intro k
  induction k with
  | zero => exact ⟨fun x vs ws ts s0 s V0 V F OS Q Z h => h.elim, fun x w h => ⟨h, fun s V A => grd_ok w (hc x w h)⟩, fun _ => rfl, fun _ => rfl⟩
  | succ k ih =>
    refine ⟨fun x vs ws ts s0 s V0 V F OS Q Z h I => ?_, fun x w h => ⟨h, fun s V A => grd_ok w (hc x w h)⟩, fun _ => rfl, fun _ => rfl⟩
    replace h : (if x = "_law_draw" then drawP vs Q else if x = "_law_urn" then urnP vs Q else match T x with
      | some fi => vs.length = fi.ps.length ∧ (exP (gamP T C X k) fi.body (vs.map some ++ List.replicate (fi.names.length - vs.length) none) [] (fnQP Q) Z ∨ exP (gamP T C X k) fi.body (vs.map some ++ List.replicate (fi.names.length - vs.length) none) (ownOf 0 vs ts) (fnQP Q) Z)
      | none => False) := h
    have d : D0s s V (Nt F) vs ws := I.d0s
    have fb := I.fbS
    have ur := I.ur
    split at h
    · rename_i hx
      subst hx
      unfold drawP at h
      split at h
      · rename_i u m
        obtain ⟨h1, h2, h3⟩ := h
        obtain ⟨w1, ws1, rfl, a1, b1⟩ := D0s.inv d
        obtain ⟨w2, ws2, rfl, a2, b2⟩ := D0s.inv b1
        rw [show ws2 = [] from b2.1, a1.1, a2.1]
        refine P.draw k s u m _ _ (ur u a1.2.1) h1 h2 fun r s' d0 d1 hu f l => ?_
        refine ⟨.int r, 2, V, [], h3 r d0 d1, I.fm.trans ⟨f.len, fun n us hn e => f.get n us (fun z => hn (by rw [show n = u from z]; exact a1.2.1)) e, fun _ h => h, fun _ _ h => h⟩, ⟨rfl, rfl⟩, List.nodup_nil, (fun _ h => nomatch h), fun v hv => ?_, by decide⟩
        by_cases e : v = u
        · rw [e]; exact hu
        · exact (ur v hv).keep f e
      · exact h.elim
    · split at h
      · rename_i hx
        subst hx
        unfold urnP at h
        split at h
        · rename_i y a
          obtain ⟨rfl, h1, h2, h3⟩ := h
          obtain ⟨w1, ws1, rfl, a1, b1⟩ := D0s.inv d
          obtain ⟨w2, ws2, rfl, a2, b2⟩ := D0s.inv b1
          rcases fn_dn a1 with ⟨z, _⟩ | ⟨_, is, rfl, hl⟩
          · exact absurd rfl z
          · rw [show ws2 = [] from b2.1, a2.1]
            refine P.urn k s is a _ _ h1 h2 hl fun s' hu f l => ?_
            have fm : Fm s V s' (fun n => V n ∨ n = s.length) := ⟨f.len, fun n us hn e => f.get n us (fun z => z) e, fun n h => .inl h, fun n hn h => h.resolve_right (by omega)⟩
            refine ⟨.loc s.length, 2, _, [], h3 _, I.fm.trans fm, ⟨rfl, .inr rfl, rfl⟩, List.nodup_nil, (fun _ h => nomatch h), fun v hv => ?_, by decide⟩
            rcases hv with hv | hv
            · exact (ur v hv).keep f (fun z => z)
            · rw [hv]; exact hu
        · exact h.elim
      · cases hT : T x with
        | none => rw [hT] at h; exact h.elim
        | some fi =>
          rw [hT] at h
          obtain ⟨hl, h⟩ := h
          refine call_wp hT (by rw [← Dns.length d]; exact hl) ?_
          have Ip := I.pad (fi.names.length - vs.length)
          rw [Dns.length d] at Ip
          have main : ∃ o OS1, exP (gamP T C X k) fi.body (vs.map some ++ List.replicate (fi.names.length - vs.length) none) o (fnQP Q) Z ∧ Iv s0 V0 F s V (vs.map some ++ List.replicate (fi.names.length - vs.length) none) (tg o) (ws.map some ++ List.replicate (fi.names.length - ws.length) none) OS1 := by
            rw [← Dns.length d] at Ip ⊢
            rcases h with h | h
            · exact ⟨[], _, h, Ip.give⟩
            · obtain ⟨OS1, I1, _⟩ := Ip.weak (tg (ownOf 0 vs ts)) (fun i _ => ownOf_le 0 vs ts i) fun i => Nat.le_trans (ownOf_le 0 vs ts i) (I.t2 i)
              exact ⟨_, OS1, h, I1⟩
          obtain ⟨o, OS1, h, I1⟩ := main
          refine (simS ih fi.body s0 V0 F _ o _ s V OS1 (fnQP Q) Z h I1).mono fun fl s1 r => ?_
          obtain ⟨f, q, r⟩ := r
          cases f with
          | nx e o =>
            obtain ⟨e', V1, OS1, rfl, I1, S1⟩ := r
            exact fn_nx ⟨.non, 2, V1, [], q, I1.fm, ⟨rfl, rfl⟩, List.nodup_nil, (fun _ h => nomatch h), I1.ur, by decide⟩
          | rt z t =>
            obtain ⟨w, V1, O, rfl, r⟩ := r
            exact fn_rt ⟨z, t, V1, O, q, r⟩
          | bk e o => exact q.elim
          | ct e o => exact q.elim
theorem law_of (P : Prim T C X) (hc : ∀ x w, C x = some w → grd w = true) {k : Nat} {ts : List Nat} (hts : ts = []) (h : (gamP T C X k).call "law" [.fn "!"] ts (fun v _ => v = .bl true) (fun _ => False)) :
    ∀ ns : List Int, ns.length ≤ 63 → ∃ s', (gam T C X k).call "law" [.cl (ns.map W.int)] [] = .ok (.bl true) s' := fun ns hl => by
  have := (sim_gam P hc k).call "law" [.fn "!"] [.cl (ns.map W.int)] ts [] [] (fun _ => False) (fun _ => False) (fun _ => False) _ _ _ h (by
    subst hts
    have := (iv_nil (s := []) (V := fun _ => False) (F := fun _ => False) (fun n h => h.elim) (fun u h => h.elim)).push .refl (fun u h => h.elim) (z := .fn "!") (w := .cl (ns.map W.int)) (t := 0) (O := []) ⟨⟨ns, rfl, hl⟩, rfl⟩ List.nodup_nil (fun _ h => nomatch h) (by decide)
    exact this.tags fun i => by simp)
  cases hr : (gam T C X k).call "law" [.cl (ns.map W.int)] [] with
  | bad => rw [hr] at this; exact this.elim
  | exc c s => rw [hr] at this; exact this.1.elim
  | ok w s =>
    rw [hr] at this
    obtain ⟨z, t, V', O, rfl, r⟩ := this
    rw [r.dn.1]
    exact ⟨s, rfl⟩
theorem con_grd {cs : List (Str × W)} (h : (cs.all fun p => grd p.2) = true) : ∀ x w, findC cs x = some w → grd w = true := fun x w hx => List.all_eq_true.mp h _ (findC_mem hx)
end
end Pq

namespace Pq
open PySem Py Pl
section
variable {s0 s : Sto} {V0 F V : Nat → Prop} {e e' : Sl} {τ : Nat → Nat} {OS : Nat → List Nat}
end
section
variable {g : PG} {e : Sl} {o : Own} {Q : FlP → Prop} {Z : KZ} {k : B}
end
end Pq

namespace Pr
open PySem Py Pl Pq
section
variable {g : PG} {e : Sl} {Q : KQ} {Z : KZ}
theorem v_var {i : Nat} {w : W} (h : e[i]? = some (some w)) (q : Q w 0) : evP g (.var i) e Q Z := by rw [evP]; unfold slotP; rw [h]; exact q
theorem v_con {x : Str} {w : W} (h : g.con x = some w) (q : Q w 0) : evP g (.con x) e Q Z := by rw [evP, h]; exact q
theorem v_fref {x : Str} (h : x ≠ "!") (h2 : g.df x = true) (q : Q (.fn x) 2) : evP g (.fref x) e Q Z := by rw [evP]; exact ⟨h, h2, q⟩
theorem v_int {i : Int} (q : Q (.int i) 2) : evP g (.int i) e Q Z := by rw [evP]; exact q
theorem v_bl {i : Bool} (q : Q (.bl i) 2) : evP g (.bl i) e Q Z := by rw [evP]; exact q
theorem v_non (q : Q .non 2) : evP g .non e Q Z := by rw [evP]; exact q
theorem v_str {i : Str} (q : Q (.str i) 2) : evP g (.str i) e Q Z := by rw [evP]; exact q
theorem v_bin {op : Bop} {a b : E} (q : evP g a e (fun w t => evP g b e (fun u _ => bopP op w t u Q) Z) Z) : evP g (.bin op a b) e Q Z := by rw [evP]; exact q
theorem v_neg {a : E} (q : evP g a e (fun w _ => toIP w fun i => Q (.int (-i)) 2) Z) : evP g (.neg a) e Q Z := by rw [evP]; exact q
theorem v_no {a : E} (q : evP g a e (fun w _ => toBP w fun b => Q (.bl (!b)) 2) Z) : evP g (.no a) e Q Z := by rw [evP]; exact q
theorem v_cmp {op : Cop} {a b : E} (q : evP g a e (fun w _ => evP g b e (fun u _ => rQ (cop op w u []) fun z => Q z 2) Z) Z) : evP g (.cmp op a b) e Q Z := by rw [evP]; exact q
theorem v_chain {op op' : Cop} {a b c : E} (q : evP g a e (fun w _ => evP g b e (fun u _ => rQ (cop op w u []) fun z => toBP z fun k => if k = true then evP g c e (fun v _ => rQ (cop op' u v []) fun z => Q z 2) Z else Q (.bl false) 2) Z) Z) : evP g (.chain op op' a b c) e Q Z := by rw [evP]; exact q
theorem v_and {a b : E} (q : evP g a e (fun w _ => toBP w fun k => if k = true then evP g b e Q Z else Q (.bl false) 2) Z) : evP g (.and a b) e Q Z := by rw [evP]; exact q
theorem v_or {a b : E} (q : evP g a e (fun w _ => toBP w fun k => if k = true then Q (.bl true) 2 else evP g b e Q Z) Z) : evP g (.or a b) e Q Z := by rw [evP]; exact q
theorem v_one {a : E} (q : evP g a e Q Z) : evP g (.one a) e Q Z := by rw [evP]; exact q
theorem v_ite {c a b : E} (q : evTP g c e (fun k => if k = true then evP g a e Q Z else evP g b e Q Z) Z) : evP g (.ite c a b) e Q Z := by rw [evP]; exact q
theorem v_tup {as : E} (q : evsP g as e (fun ws t => ws.length ≤ sizeLine ∧ Q (.tup ws) t) Z) : evP g (.tup as) e Q Z := by rw [evP]; exact q
theorem v_lst {as : E} (q : evsP g as e (fun ws t => ws.length ≤ sizeLine ∧ Q (.cl ws) (if t = 2 then 2 else 1)) Z) : evP g (.lst as) e Q Z := by rw [evP]; exact q
theorem v_ix {a b : E} (q : evP g a e (fun w _ => evP g b e (fun u _ => ixP w u Q) Z) Z) : evP g (.ix a b) e Q Z := by rw [evP]; exact q
theorem v_sl {a lo hi : E} (q : evP g a e (fun w _ => evOP g lo e (fun l => evOP g hi e (fun h => slP w l h Q) Z) Z) Z) : evP g (.sl a lo hi) e Q Z := by rw [evP]; exact q
def rvP (Q : KQ) (w : W) : Prop := match w with
  | .cl ws => Q (.cl ws.reverse) (tgl ws.reverse)
  | _ => False
theorem v_rv {a : E} (q : evP g a e (fun w _ => rvP Q w) Z) : evP g (.rv a) e Q Z := by
  rw [evP]
  have h2 : (fun (w : W) (_ : Nat) => rvP Q w) = (fun w (_ : Nat) => match w with
    | .cl ws => Q (.cl ws.reverse) (tgl ws.reverse)
    | _ => False) := funext fun w => funext fun _ => by cases w <;> rfl
  rw [h2] at q
  exact q
theorem rv_cl {ws : List W} (q : Q (.cl ws.reverse) (tgl ws.reverse)) : rvP Q (.cl ws) := q
theorem v_call {x : Str} {as : E} (q : evaP g as e (fun ws ts => g.call x ws ts Q Z) Z) : evP g (.call x as) e Q Z := by rw [evP]; exact q
theorem v_bi {f : Bi} {as : E} (q : evsP g as e (fun ws _ => biP f ws Q) Z) : evP g (.bi f as) e Q Z := by rw [evP]; exact q
theorem v_isi {a : E} {t : Ty} (q : evP g a e (fun w _ => ofO (isiW t w) fun b => Q (.bl b) 2) Z) : evP g (.isi a t) e Q Z := by rw [evP]; exact q
theorem v_comp {own : List (Str × Nat)} {tg : Tn} {k : Ik} {as cond elt : E} (q : evsP g as e (fun ws _ => ofO (srcP k ws) fun xs => compP (fun x y n => ofO (tnSet tg x (wipeS e (own.map Prod.snd))) fun e' => evTP g cond e' (fun k => if k = true then evP g elt e' y (fun _ => False) else n) (fun _ => False)) Q xs [] 2) Z) : evP g (.comp own tg k as cond elt) e Q Z := by rw [evP]; exact q
end
section
variable {g : PG} {e : Sl} {Q : List W → Nat → Prop} {Z : KZ}
theorem a_nil (q : Q [] 2) : evsP g .nil e Q Z := by rw [evsP]; exact q
theorem a_cons {a as : E} (q : evP g a e (fun w t => evsP g as e (fun ws u => Q (w :: ws) (mn w t u)) Z) Z) : evsP g (.cons a as) e Q Z := by rw [evsP]; exact q
end
section
variable {g : PG} {e : Sl} {Q : List W → List Nat → Prop} {Z : KZ}
theorem y_nil (q : Q [] []) : evaP g .nil e Q Z := by rw [evaP]; exact q
theorem y_cons {a as : E} (q : evP g a e (fun w t => evaP g as e (fun ws ts => Q (w :: ws) (t :: ts)) Z) Z) : evaP g (.cons a as) e Q Z := by rw [evaP]; exact q
end
section
variable {g : PG} {e : Sl} {Q : Option Int → Prop} {Z : KZ}
theorem o_nil (q : Q none) : evOP g .nil e Q Z := by rw [evOP]; exact q
theorem o_one {a : E} (q : evP g a e (fun w _ => toIP w fun i => Q (some i)) Z) : evOP g (.one a) e Q Z := by rw [evOP]; exact q
end
section
variable {g : PG} {e : Sl} {Q : Bool → Prop} {Z : KZ}
theorem t_and {a b : E} (q : evTP g a e (fun k => if k = true then evTP g b e Q Z else Q false) Z) : evTP g (.and a b) e Q Z := by rw [evTP]; exact q
theorem t_or {a b : E} (q : evTP g a e (fun k => if k = true then Q true else evTP g b e Q Z) Z) : evTP g (.or a b) e Q Z := by rw [evTP]; exact q
theorem t_no {a : E} (q : evTP g a e (fun k => Q (!k)) Z) : evTP g (.no a) e Q Z := by rw [evTP]; exact q
theorem t_one {a : E} (q : evTP g a e Q Z) : evTP g (.one a) e Q Z := by rw [evTP]; exact q
theorem t_nil (q : Q true) : evTP g .nil e Q Z := by rw [evTP]; exact q
theorem t_cmp {op : Cop} {a b : E} (q : evP g a e (fun w _ => evP g b e (fun u _ => rQ (cop op w u []) fun z => toBP z Q) Z) Z) : evTP g (.cmp op a b) e Q Z := by rw [evTP]; exact q
theorem t_chain {op op' : Cop} {a b c : E} (q : evP g a e (fun w _ => evP g b e (fun u _ => rQ (cop op w u []) fun z => toBP z fun k => if k = true then evP g c e (fun v _ => rQ (cop op' u v []) fun z => toBP z Q) Z else Q false) Z) Z) : evTP g (.chain op op' a b c) e Q Z := by rw [evTP]; exact q
theorem t_var {i : Nat} {w : W} {b : Bool} (h : e[i]? = some (some w)) (t : truW w [] = some b) (q : Q b) : evTP g (.var i) e Q Z := by
  rw [evTP]; unfold slotP; rw [h]; show ofO (truW w []) Q; rw [t]; exact q
theorem t_call {x : Str} {as : E} (q : evaP g as e (fun ws ts => g.call x ws ts (fun w _ => ofO (truW w []) Q) Z) Z) : evTP g (.call x as) e Q Z := by rw [evTP]; exact q
theorem t_bi {f : Bi} {as : E} (q : evsP g as e (fun ws _ => biP f ws fun w _ => ofO (truW w []) Q) Z) : evTP g (.bi f as) e Q Z := by rw [evTP]; exact q
theorem t_isi {a : E} {t : Ty} (q : evP g a e (fun w _ => ofO (isiW t w) Q) Z) : evTP g (.isi a t) e Q Z := by rw [evTP]; exact q
end
section
variable {Q : KQ} {P : W → Prop} {R : Bool → Prop}
theorem b_add {i j : Int} {t : Nat} (q : Q (.int (i + j)) 2) : bopP .add (.int i) t (.int j) Q := q
theorem b_adb {i : Int} {j : Bool} {t : Nat} (q : Q (.int (i + PyProof.Rows.b2i j)) 2) : bopP .add (.int i) t (.bl j) Q := q
theorem b_sub {i j : Int} {t : Nat} (q : Q (.int (i - j)) 2) : bopP .sub (.int i) t (.int j) Q := q
theorem b_mul {i j : Int} {t : Nat} (h : bitsOk i j = true) (q : Q (.int (i * j)) 2) : bopP .mul (.int i) t (.int j) Q := ⟨h, q⟩
theorem b_div {i j : Int} {t : Nat} (h : j ≠ 0) (q : Q (.int (i.fdiv j)) 2) : bopP .fdiv (.int i) t (.int j) Q := ⟨h, q⟩
theorem b_mod {i j : Int} {t : Nat} (h : j ≠ 0) (q : Q (.int (i.fmod j)) 2) : bopP .mod (.int i) t (.int j) Q := ⟨h, q⟩
theorem b_pow {i j : Int} {t : Nat} (h : powOk i j = true) (q : Q (.int (i ^ j.toNat)) 2) : bopP .pow (.int i) t (.int j) Q := ⟨h, q⟩
theorem b_p6 {t : Nat} (q : Q (.int 1000000) 2) : bopP .pow (.int 10) t (.int 6) Q := b_pow (by decide) q
theorem b_cat {xs ys : List W} {t : Nat} (h : xs.length + ys.length ≤ sizeLine) (q : Q (.cl (xs ++ ys)) (tgl (xs ++ ys))) : bopP .add (.cl xs) t (.cl ys) Q := ⟨h, q⟩
theorem i_int {K : Int → Prop} {i : Int} (q : K i) : toIP (.int i) K := q
theorem i_bl {K : Bool → Prop} {i : Bool} (q : K i) : toBP (.bl i) K := q
theorem of_some {α : Type} {o : Option α} {a : α} {K : α → Prop} (h : o = some a) (q : K a) : ofO o K := by rw [h]; exact q
theorem c_lt {i j : Int} (q : P (.bl (decide (i < j)))) : rQ (cop .lt (.int i) (.int j) []) P := q
theorem c_le {i j : Int} (q : P (.bl (decide (i ≤ j)))) : rQ (cop .le (.int i) (.int j) []) P := q
theorem c_gt {i j : Int} (q : P (.bl (decide (j < i)))) : rQ (cop .gt (.int i) (.int j) []) P := q
theorem c_ge {i j : Int} (q : P (.bl (decide (j ≤ i)))) : rQ (cop .ge (.int i) (.int j) []) P := q
theorem c_eqi {i j : Int} (q : P (.bl (decide (i = j)))) : rQ (cop .eq (.int i) (.int j) []) P := q
theorem c_nei {i j : Int} (q : P (.bl (!decide (i = j)))) : rQ (cop .ne (.int i) (.int j) []) P := q
theorem c_eqs {i j : Str} (q : P (.bl (decide (i = j)))) : rQ (cop .eq (.str i) (.str j) []) P := q
theorem c_nes {i j : Str} (q : P (.bl (!decide (i = j)))) : rQ (cop .ne (.str i) (.str j) []) P := q
theorem c_eq {a b : W} {k : Bool} (h : eqW a b [] = some k) (q : P (.bl k)) : rQ (cop .eq a b []) P := by
  show rQ (ob (eqW a b []) []) P
  rw [h]; exact q
theorem c_ne {a b : W} {k : Bool} (h : eqW a b [] = some k) (q : P (.bl (!k))) : rQ (cop .ne a b []) P := by
  show rQ (ob ((eqW a b []).map (!·)) []) P
  rw [h]; exact q
theorem c_isn (q : P (.bl true)) : rQ (cop .isN .non .non []) P := q
theorem c_non (q : P (.bl false)) : rQ (cop .notN .non .non []) P := q
theorem c_ist {ws : List W} (q : P (.bl false)) : rQ (cop .isN (.tup ws) .non []) P := q
theorem c_not {ws : List W} (q : P (.bl true)) : rQ (cop .notN (.tup ws) .non []) P := q
theorem c_isi {i : Int} (q : P (.bl false)) : rQ (cop .isN (.int i) .non []) P := q
theorem c_noi {i : Int} (q : P (.bl true)) : rQ (cop .notN (.int i) .non []) P := q
theorem c_isc {ws : List W} (q : P (.bl false)) : rQ (cop .isN (.cl ws) .non []) P := q
theorem c_noc {ws : List W} (q : P (.bl true)) : rQ (cop .notN (.cl ws) .non []) P := q
theorem c_isb {b : Bool} (q : P (.bl false)) : rQ (cop .isN (.bl b) .non []) P := q
theorem c_nob {b : Bool} (q : P (.bl true)) : rQ (cop .notN (.bl b) .non []) P := q
theorem c_iss {x : Str} (q : P (.bl false)) : rQ (cop .isN (.str x) .non []) P := q
theorem c_nos {x : Str} (q : P (.bl true)) : rQ (cop .notN (.str x) .non []) P := q
theorem c_isB {a b : Bool} (q : P (.bl (decide (a = b)))) : rQ (cop .isB (.bl a) (.bl b) []) P := q
theorem c_notB {a b : Bool} (q : P (.bl (!decide (a = b)))) : rQ (cop .notB (.bl a) (.bl b) []) P := q
theorem x_n0 {r : Rat} (q : Q (.int r.num) 0) : ixP (nW r) (.int 0) Q := q
theorem x_n1 {r : Rat} (q : Q (.int r.den) 0) : ixP (nW r) (.int 1) Q := q
theorem x_tup {ws : List W} {i : Int} {w : W} (h : atW ws i = some w) (q : Q w 0) : ixP (.tup ws) (.int i) Q := of_some h q
theorem x_cl {ws : List W} {i : Int} {w : W} (h : atW ws i = some w) (q : Q w 0) : ixP (.cl ws) (.int i) Q := of_some h q
theorem at_mem {ws : List W} {d : Int} (h0 : 0 ≤ d) (h1 : d < ws.length) : ∃ w, w ∈ ws ∧ atW ws d = some w := by
  refine ⟨ws[d.toNat]'(by omega), List.getElem_mem _, ?_⟩
  unfold atW L2.ixN
  have e : (if 0 ≤ d then d else d + ws.length) = d := if_pos h0
  first
  | (rw [if_pos h0]; simp; omega)
  | (simp only [e]; simp; omega)
  | simp [h0, h1]
theorem x_pick {ws : List W} {d : Int} (h0 : 0 ≤ d) (h1 : d < ws.length) (q : ∀ w ∈ ws, Q w 0) : ixP (.cl ws) (.int d) Q := by
  obtain ⟨w, hw, h⟩ := at_mem h0 h1
  exact x_cl h (q w hw)
theorem fac {α : Type} {A : α → Prop} {a : α} {as : List α} (h : A a) (hs : ∀ w ∈ as, A w) : ∀ w ∈ a :: as, A w := fun w hw => by
  cases hw with
  | head => exact h
  | tail _ z => exact hs w z
theorem fan {α : Type} {A : α → Prop} : ∀ w ∈ ([] : List α), A w := fun w hw => by cases hw
theorem x_sgn {d : Int} (h0 : 0 ≤ d) (h1 : d < 2) (q : ∀ i : Int, (i = 1 ∨ i = -1) → Q (.int i) 0) : ixP (.cl [.int 1, .int (-1)]) (.int d) Q :=
  x_pick h0 h1 (fac (q 1 (.inl rfl)) (fac (q (-1) (.inr rfl)) fan))
theorem l_cl {ws : List W} {lo hi : Option Int} (q : Q (.cl (cutW ws lo hi)) (tgl (cutW ws lo hi))) : slP (.cl ws) lo hi Q := q
theorem i_len {ws : List W} (q : Q (.int ws.length) 2) : biP .len [.cl ws] Q := q
theorem i_lent {ws : List W} (q : Q (.int ws.length) 2) : biP .len [.tup ws] Q := q
theorem i_abs {i : Int} (q : Q (.int i.natAbs) 2) : biP .abs [.int i] Q := by
  have e : (if i < 0 then -i else i) = (i.natAbs : Int) := by split <;> omega
  show Q (.int (if i < 0 then -i else i)) 2
  rw [e]; exact q
theorem i_max {i j : Int} (q : Q (.int (max i j)) 2) : biP .max2 [.int i, .int j] Q := by
  have e : (if j > i then j else i) = max i j := by split <;> omega
  show Q (.int (if j > i then j else i)) 2
  rw [e]; exact q
theorem i_min {i j : Int} (q : Q (.int (min i j)) 2) : biP .min2 [.int i, .int j] Q := by
  have e : (if j < i then j else i) = min i j := by split <;> omega
  show Q (.int (if j < i then j else i)) 2
  rw [e]; exact q
theorem i_inti {i : Int} (q : Q (.int i) 2) : biP .int [.int i] Q := q
theorem i_intb {b : Bool} (q : Q (.int (if b then 1 else 0)) 2) : biP .int [.bl b] Q := q
theorem i_list {ws : List W} (q : Q (.cl ws) (tgl ws)) : biP .list [.cl ws] Q := q
theorem i_tuple {ws : List W} (q : Q (.tup ws) (tgf (.tup ws))) : biP .tuple [.cl ws] Q := q
theorem i_all {ws : List W} {bs : List Bool} (hb : bools ws = some bs) (q : Q (.bl (bs.all id)) 2) : biP .all [.cl ws] Q := by
  show rQ (match bools ws with
    | some bs => R.ok (W.bl (bs.all id)) []
    | none => .bad) _
  rw [hb]; exact q
theorem i_script (q : ∀ n : Nat, n ≤ 63 → Q (.int n) 2) : biP .len [.fn "!"] Q := ⟨rfl, q⟩
theorem ln {n : Nat} {A : Prop} (h : Nat.ble n sizeLine = true) (q : A) : n ≤ sizeLine ∧ A := ⟨Nat.le_of_ble_eq_true h, q⟩
theorem ifd {p A B : Prop} [Decidable p] (h1 : p → A) (h2 : ¬ p → B) : if decide p = true then A else B := by
  by_cases h : p
  · rw [if_pos (decide_eq_true h)]; exact h1 h
  · rw [if_neg (by rw [decide_eq_false h]; decide)]; exact h2 h
theorem ifn {p A B : Prop} [Decidable p] (h1 : ¬ p → A) (h2 : p → B) : if (!decide p) = true then A else B := by
  by_cases h : p
  · rw [decide_eq_true h]; exact h2 h
  · rw [decide_eq_false h]; exact h1 h
theorem ifr {α : Type} {a : α} [DecidableEq α] {A B : Prop} (q : A) : if decide (a = a) = true then A else B := ifd (fun _ => q) fun z => absurd rfl z
theorem ifnr {α : Type} {a : α} [DecidableEq α] {A B : Prop} (q : B) : if (!decide (a = a)) = true then A else B := ifn (fun z => absurd rfl z) fun _ => q
theorem ift {A B : Prop} (q : A) : if true = true then A else B := q
theorem iff_ {A B : Prop} (q : B) : if false = true then A else B := q
theorem ifnt {A B : Prop} (q : B) : if (!true) = true then A else B := q
theorem ifnf {A B : Prop} (q : A) : if (!false) = true then A else B := q
end
section
theorem of_isi {t : Ty} {w : W} {b : Bool} {K : Bool → Prop} (h : isiW t w = some b) (q : K b) : ofO (isiW t w) K := of_some h q
theorem of_tru {w : W} {b : Bool} {K : Bool → Prop} (h : truW w [] = some b) (q : K b) : ofO (truW w []) K := of_some h q
theorem of_tn {t : Tn} {w : W} {e e' : Sl} {K : Sl → Prop} (h : tnSet t w e = some e') (q : K e') : ofO (tnSet t w e) K := of_some h q
theorem src_cl {ws : List W} {K : List W → Prop} (q : K ws) : ofO (srcP .seq [.cl ws]) K := q
theorem src_tp {ws : List W} {K : List W → Prop} (h : Nat.ble ws.length sizeLine = true) (q : K ws) : ofO (srcP .seq [.tup ws]) K := by
  rw [srcP, if_pos (Nat.le_of_ble_eq_true h)]
  exact q
theorem src_zp {xs ys : List W} {K : List W → Prop} (q : K (List.zipWith (fun x y => W.tup [x, y]) xs ys)) : ofO (srcP .zip [.cl xs, .cl ys]) K := q
theorem src_en {xs : List W} {K : List W → Prop} (q : K (enP 0 xs)) : ofO (srcP .enu [.cl xs]) K := q
theorem src_rv {xs : List W} {K : List W → Prop} (q : K xs.reverse) : ofO (srcP .rev [.cl xs]) K := q
theorem src_two {K : List W → Prop} (q : K [.int 0, .int 1]) : ofO (srcP .rng1 [.int 2]) K := by
  have h : lim62 2 = true := by unfold lim62; decide
  rw [srcP, if_pos h]
  exact q
end
section
variable {g : PG} {e : Sl} {o : Own} {Q : FlP → Prop} {Z : KZ} {k : B}
theorem s_done (q : Q (.nx e o)) : exP g .done e o Q Z := by (refine exP_in ?_; rw [exF]); exact q
theorem s_set {i : Nat} {v : E} (q : evP g v e (fun w _ => exP g k (e.set i (some w)) [] Q Z) Z) : exP g (.asg (.name i) v k) e o Q Z := by (refine exP_in ?_; rw [exF]); exact .inr q
theorem s_set2 {i : Nat} {v : E} (q : evP g v e (fun w t => ((flat w || t == 2) = true ∧ exP g k (e.set i (some w)) (put o i w t) Q Z) ∨ exP g k (e.set i (some w)) (put [] i w t) Q Z) Z) : exP g (.asg (.name i) v k) e o Q Z := by (refine exP_in ?_; rw [exF]); exact .inl (.inl q)
theorem kp {A B : Prop} {b : Bool} (h : b = true) (q : A) : (b = true ∧ A) ∨ B := .inl ⟨h, q⟩
theorem s_tup {ts : Ta} {v : E} (q : evP g v e (fun w _ => match w with
    | .tup ws => ws.length = taN ts ∧ setN ts ws 0 e [] fun e o => exP g k e o Q Z
    | _ => False) Z) : exP g (.asg (.tup ts) v k) e o Q Z := by (refine exP_in ?_; rw [exF]); exact .inr (.inl q)
theorem s_tup2 {ts : Ta} {v : E} (q : evP g v e (fun w t => ((flat w || t == 2) = true ∧ (match w with
    | .tup ws => ws.length = taN ts ∧ setN ts ws t e o fun e o => exP g k e o Q Z
    | .cl ws => t ≠ 0 ∧ ws.length = taN ts ∧ setN ts ws (if t = 2 then 2 else 0) e o fun e o => exP g k e o Q Z
    | _ => False)) ∨ (match w with
    | .tup ws => ws.length = taN ts ∧ setN ts ws t e [] fun e o => exP g k e o Q Z
    | .cl ws => t ≠ 0 ∧ ws.length = taN ts ∧ setN ts ws (if t = 2 then 2 else 0) e [] fun e o => exP g k e o Q Z
    | _ => False)) Z) : exP g (.asg (.tup ts) v k) e o Q Z := by (refine exP_in ?_; rw [exF]); exact .inl (.inl q)
theorem s_par2 {i j : Nat} {a b : E} (q : evP g a e (fun w _ => evP g b e (fun u _ => exP g k ((e.set i (some w)).set j (some u)) [] Q Z) Z) Z) : exP g (.par2 i j a b k) e o Q Z := by (refine exP_in ?_; rw [exF]); exact .inl q
theorem s_par3 {i j l : Nat} {a b c : E} (q : evP g a e (fun w _ => evP g b e (fun u _ => evP g c e (fun v _ => exP g k (((e.set i (some w)).set j (some u)).set l (some v)) (if flat w && flat u && flat v then drp (drp (drp o i) j) l else []) Q Z) Z) Z) Z) : exP g (.par3 i j l a b c k) e o Q Z := by (refine exP_in ?_; rw [exF]); exact q
theorem s_add {i : Nat} {x : Int} {v : E} (h : e[i]? = some (some (.int x))) (q : evP g v e (fun u _ => toIP u fun y => exP g k (e.set i (some (.int (x + y)))) (drp o i) Q Z) Z) : exP g (.aug i .add v k) e o Q Z := by
  (refine exP_in ?_; rw [exF]); unfold slotP; rw [h]
  have h2 : (fun (u : W) (_ : Nat) => toIP u fun y => exP g k (e.set i (some (.int (x + y)))) (drp o i) Q Z) = (fun u (_ : Nat) => match Bop.add, W.int x, u with
      | .add, .int x, .int y => exP g k (e.set i (some (.int (x + y)))) (drp o i) Q Z
      | .sub, .int x, .int y => exP g k (e.set i (some (.int (x - y)))) (drp o i) Q Z
      | _, _, _ => False) := funext fun u => funext fun _ => by cases u <;> rfl
  rw [h2] at q
  exact q
theorem s_sub {i : Nat} {x : Int} {v : E} (h : e[i]? = some (some (.int x))) (q : evP g v e (fun u _ => toIP u fun y => exP g k (e.set i (some (.int (x - y)))) (drp o i) Q Z) Z) : exP g (.aug i .sub v k) e o Q Z := by
  (refine exP_in ?_; rw [exF]); unfold slotP; rw [h]
  have h2 : (fun (u : W) (_ : Nat) => toIP u fun y => exP g k (e.set i (some (.int (x - y)))) (drp o i) Q Z) = (fun u (_ : Nat) => match Bop.sub, W.int x, u with
      | .add, .int x, .int y => exP g k (e.set i (some (.int (x + y)))) (drp o i) Q Z
      | .sub, .int x, .int y => exP g k (e.set i (some (.int (x - y)))) (drp o i) Q Z
      | _, _, _ => False) := funext fun u => funext fun _ => by cases u <;> rfl
  rw [h2] at q
  exact q
theorem s_ite {c : E} {t f : B} (q : evTP g c e (fun b => if b = true then exP g t e o (thnP (fun e o Q => exP g k e o Q Z) Q) Z else exP g f e o (thnP (fun e o Q => exP g k e o Q Z) Q) Z) Z) : exP g (.ite c t f k) e o Q Z := by (refine exP_in ?_; rw [exF]); exact q
theorem s_whl {c : E} {b : B} (q : whileP (fun e Q => evTP g c e Q Z) (fun e o Q => exP g b e o Q Z) (thnP (fun e o Q => exP g k e o Q Z) Q) big e o) : exP g (.whl c b k) e o Q Z := by (refine exP_in ?_; rw [exF]); exact q
theorem s_for {t : Tn} {ik : Ik} {as : E} {b : B} (q : evsP g as (hide o e) (fun ws _ => ofO (srcP ik ws) fun xs => forP (fun w e o Q => ofO (tnSet t w e) fun e' => exP g b e' (drps o (tnIxs t)) Q Z) (thnP (fun e o Q => exP g k e o Q Z) Q) xs e o) Z) : exP g (.for_ t ik as b k) e o Q Z := by (refine exP_in ?_; rw [exF]); exact .inl (.inr q)
theorem s_for0 {t : Tn} {ik : Ik} {as : E} {b : B} (q : evsP g as e (fun ws _ => ofO (srcP ik ws) fun xs => forP (fun w e o Q => ofO (tnSet t w e) fun e' => exP g b e' (drps o (tnIxs t)) Q Z) (thnP (fun e o Q => exP g k e o Q Z) Q) xs e []) Z) : exP g (.for_ t ik as b k) e [] Q Z := s_for q
theorem s_ret {v : E} (q : evP g v e (fun w t => Q (.rt w t)) Z) : exP g (.ret v k) e o Q Z := by (refine exP_in ?_; rw [exF]); exact .inl q
theorem s_retv {i t : Nat} {w : W} (h : e[i]? = some (some w)) (ho : o.lookup i = some t) (q : Q (.rt w t)) : exP g (.ret (.var i) k) e o Q Z := by
  (refine exP_in ?_; rw [exF]); refine .inr ?_
  show slotP e i fun w => ofO (o.lookup i) fun t => Q (.rt w t)
  unfold slotP; rw [h]; show ofO (o.lookup i) _; rw [ho]; exact q
theorem ite_join {b : Bool} {t f : B} {K : Sl → Own → (FlP → Prop) → Prop} (I : Sl → Own → Prop) (h1 : b = true → ∀ K' : FlP → Prop, (∀ e o, I e o → K' (.nx e o)) → exP g t e o K' Z) (h2 : b = false → ∀ K' : FlP → Prop, (∀ e o, I e o → K' (.nx e o)) → exP g f e o K' Z) (h : ∀ e o, I e o → K e o Q) :
    if b = true then exP g t e o (thnP K Q) Z else exP g f e o (thnP K Q) Z := by
  cases b with
  | true => exact h1 rfl _ h
  | false => exact h2 rfl _ h
theorem s_retn (q : Q (.rt .non 2)) : exP g (.retn k) e o Q Z := by (refine exP_in ?_; rw [exF]); exact q
theorem s_brk (q : Q (.bk e o)) : exP g (.brk k) e o Q Z := by (refine exP_in ?_; rw [exF]); exact q
theorem s_ct (q : Q (.ct e o)) : exP g (.ct k) e o Q Z := by (refine exP_in ?_; rw [exF]); exact q
theorem s_pass (q : exP g k e o Q Z) : exP g (.pass k) e o Q Z := by (refine exP_in ?_; rw [exF]); exact q
theorem s_call {x : Str} {as : E} (q : evP g (.call x as) e (fun _ _ => exP g k e o Q Z) Z) : exP g (.exp (.call x as) k) e o Q Z := by (refine exP_in ?_; rw [exF]); exact q
theorem s_app {i : Nat} {a : E} {vs : List W} (h : e[i]? = some (some (.cl vs))) (ho : mayB o i [] = true) (hl : vs.length < sizeLine) (q : evP g a e (fun w t => (flat w || t == 2) = true ∧ exP g k (e.set i (some (.cl (vs ++ [w])))) o Q Z) Z) : exP g (.exp (.mt .append (.var i) (.cons a .nil)) k) e o Q Z := by
  have m : ∀ w (t : Nat), ((flat w || t == 2) = true ∧ exP g k (e.set i (some (.cl (vs ++ [w])))) o Q Z) = ((flat w || t == 2) = true ∧ chgQ e o i [] (appF w) fun e' => exP g k e' o Q Z) := by
    intro w t
    unfold chgQ slotP
    rw [h]
    show _ = (_ ∧ _ ∧ ofO ((appF w vs).map W.cl) _)
    unfold appF
    rw [if_pos hl]
    simp only [Option.map_some, ofO, ho, true_and]
  (refine exP_in ?_; rw [exF])
  show slotP e i fun _ => ((mayB o i [] = true ∧ slotP e i fun v => (chg some [] v).isSome = true) ∧ (evP g a e (fun w t => (flat w || t == 2) = true ∧ chgQ e o i [] (appF w) fun e' => exP g k e' o Q Z) Z ∨
      evP g a (hide o e) (fun w t => ([] : List Int) = [] ∧ chgQ e o i [] (appF w) fun e' => exP g k e' (own1 o i w t) Q Z) Z))
  unfold slotP
  rw [h]
  refine ⟨⟨ho, rfl⟩, .inl ?_⟩
  have : (fun w (t : Nat) => (flat w || t == 2) = true ∧ exP g k (e.set i (some (.cl (vs ++ [w])))) o Q Z) = fun w (t : Nat) => (flat w || t == 2) = true ∧ chgQ e o i [] (appF w) fun e' => exP g k e' o Q Z := funext fun w => funext fun t => m w t
  rw [this] at q
  exact q
theorem s_raise {c : Str} (h : g.ex c = true) (q : Z c) : exP g (.raise c k) e o Q Z := by (refine exP_in ?_; rw [exF]); exact ⟨h, q⟩
theorem s_try {j : Nat} {t : Tk} {v : E} {f : Sf} (hx : g.ex "_law_which" = true) (hj : j < e.length) (q : evP g v e (fun w tg => tryKP t (fun e o Q => exP g k e o Q Z) e o Q w tg) (fun c => tryXP j f (fun e o Q => exP g k e o Q Z) e o Q c)) : exP g (.tryr j t v f k) e o Q Z := by (refine exP_in ?_; rw [exF]); exact ⟨hx, hj, q⟩
theorem k_set {i : Nat} {w : W} {t : Nat} {K : Sl → Own → (FlP → Prop) → Prop} (q : K (e.set i (some w)) [] Q) : tryKP (.set i) K e o Q w t := .inr q
theorem k_ret {w : W} {t : Nat} {K : Sl → Own → (FlP → Prop) → Prop} (q : Q (.rt w t)) : tryKP .ret K e o Q w t := q
theorem k_exp {w : W} {t : Nat} {K : Sl → Own → (FlP → Prop) → Prop} (q : K e o Q) : tryKP .exp K e o Q w t := q
theorem e_ret {j : Nat} {c x : Str} {K : Sl → Own → (FlP → Prop) → Prop} (h : whichOf c = some x) (q : Q (.rt (.tup [.str "refused", .str x]) 2)) : tryXP j .ret K e o Q c := of_some h q
theorem n_nx {K : Sl → Own → (FlP → Prop) → Prop} (q : K e o Q) : thnP K Q (.nx e o) := q
theorem n_rt {K : Sl → Own → (FlP → Prop) → Prop} {w : W} {t : Nat} (q : Q (.rt w t)) : thnP K Q (.rt w t) := q
theorem n_bk {K : Sl → Own → (FlP → Prop) → Prop} (q : Q (.bk e o)) : thnP K Q (.bk e o) := q
theorem n_ct {K : Sl → Own → (FlP → Prop) → Prop} (q : Q (.ct e o)) : thnP K Q (.ct e o) := q
theorem f_nx {Q : KQ} (q : Q .non 2) : fnQP Q (.nx e o) := q
theorem f_rt {Q : KQ} {w : W} {t : Nat} (q : Q w t) : fnQP Q (.rt w t) := q
end
def lpP (K : Sl → Own → Prop) (Q : FlP → Prop) : FlP → Prop
  | .nx e o => K e o
  | .ct e o => K e o
  | .bk e o => Q (.nx e o)
  | .rt w t => Q (.rt w t)
theorem lp_nx {K : Sl → Own → Prop} {Q : FlP → Prop} {e : Sl} {o : Own} (q : K e o) : lpP K Q (.nx e o) := q
theorem lp_ct {K : Sl → Own → Prop} {Q : FlP → Prop} {e : Sl} {o : Own} (q : K e o) : lpP K Q (.ct e o) := q
theorem lp_bk {K : Sl → Own → Prop} {Q : FlP → Prop} {e : Sl} {o : Own} (q : Q (.nx e o)) : lpP K Q (.bk e o) := q
theorem lp_rt {K : Sl → Own → Prop} {Q : FlP → Prop} {w : W} {t : Nat} (q : Q (.rt w t)) : lpP K Q (.rt w t) := q
theorem for_eq {b : W → Sl → Own → (FlP → Prop) → Prop} {Q : FlP → Prop} {w : W} {ws : List W} {e : Sl} {o : Own} : forP b Q (w :: ws) e o = b w e o (lpP (forP b Q ws) Q) := by
  have h2 : (fun f => match f with
      | .nx e' o' => forP b Q ws e' o'
      | .ct e' o' => forP b Q ws e' o'
      | .bk e' o' => Q (.nx e' o')
      | .rt w t => Q (.rt w t)) = lpP (forP b Q ws) Q := funext fun f => by cases f <;> rfl
  rw [← h2]
  rfl
theorem whl_eq {c : Sl → (Bool → Prop) → Prop} {b : Sl → Own → (FlP → Prop) → Prop} {Q : FlP → Prop} {n : Nat} {e : Sl} {o : Own} : whileP c b Q (n + 1) e o = c e fun t => if t = true then b e o (lpP (whileP c b Q n) Q) else Q (.nx e o) := by
  have h2 : (fun f => match f with
      | .nx e' o' => whileP c b Q n e' o'
      | .ct e' o' => whileP c b Q n e' o'
      | .bk e' o' => Q (.nx e' o')
      | .rt w t => Q (.rt w t)) = lpP (whileP c b Q n) Q := funext fun f => by cases f <;> rfl
  rw [← h2]
  rfl
theorem for_ind {b : W → Sl → Own → (FlP → Prop) → Prop} {Q : FlP → Prop} (I : Nat → Sl → Own → Prop) : ∀ (xs : List W) (n : Nat) (e : Sl) (o : Own), I n e o →
    (∀ (i : Nat) (hi : i < xs.length) (e : Sl) (o : Own) (K : Sl → Own → Prop), I (n + i) e o → (∀ e' o', I (n + i + 1) e' o' → K e' o') → b xs[i] e o (lpP K Q)) →
    (∀ e o, I (n + xs.length) e o → Q (.nx e o)) → forP b Q xs e o
  | [], n, e, o, h, _, fin => fin e o h
  | x :: xs, n, e, o, h, step, fin => by
    rw [for_eq]
    refine step 0 (Nat.zero_lt_succ _) e o _ h fun e' o' h' => ?_
    refine for_ind I xs (n + 1) e' o' h' (fun i hi e o K h1 h2 => ?_) fun e o h1 => fin e o ?_
    · have := step (i + 1) (Nat.succ_lt_succ hi) e o K (by rw [show n + (i + 1) = n + 1 + i from by omega]; exact h1) (fun e' o' h3 => h2 e' o' (by rw [show n + 1 + i + 1 = n + (i + 1) + 1 from by omega]; exact h3))
      exact this
    · rw [List.length_cons, show n + (xs.length + 1) = n + 1 + xs.length from by omega]
      exact h1
theorem for_inv {b : W → Sl → Own → (FlP → Prop) → Prop} {Q : FlP → Prop} {xs : List W} {e : Sl} {o : Own} (I : Sl → Own → Prop) (h : I e o) (step : ∀ w ∈ xs, ∀ (e : Sl) (o : Own) (K : Sl → Own → Prop), I e o → (∀ e' o', I e' o' → K e' o') → b w e o (lpP K Q)) (fin : ∀ e o, I e o → Q (.nx e o)) : forP b Q xs e o :=
  for_ind (fun _ => I) xs 0 e o h (fun i hi e o K h1 h2 => step xs[i] (List.getElem_mem _) e o K h1 h2) fun e o h1 => fin e o h1
theorem while_ind {c : Sl → (Bool → Prop) → Prop} {b : Sl → Own → (FlP → Prop) → Prop} {Q : FlP → Prop} (I : Nat → Sl → Own → Prop)
    (step : ∀ (m : Nat) (e : Sl) (o : Own) (K : Sl → Own → Prop), I m e o → (∀ m' e' o', m' < m → I m' e' o' → K e' o') → c e (fun t => if t = true then b e o (lpP K Q) else Q (.nx e o))) :
    ∀ (N m : Nat) (e : Sl) (o : Own), m < N → I m e o → whileP c b Q N e o := by
  intro N
  induction N with
  | zero => intro m e o h; omega
  | succ N ih =>
    intro m e o hN h
    rw [whl_eq]
    exact step m e o _ h fun m' e' o' lt h' => ih m' e' o' (by omega) h'
section
variable {T : Str → Option Fi} {C : Str → Option W} {X : Str → Bool} {k : Nat} {x : Str} {n m : Nat} {b : B} {ws : List W} {ts : List Nat} {Q : KQ} {Z : KZ}
theorem call_or (h : Has T x n m b) (hx : x ≠ "_law_draw" ∧ x ≠ "_law_urn") (hl : ws.length = n)
    (q : exP (gamP T C X k) b (ws.map some ++ List.replicate (m - ws.length) none) [] (fnQP Q) Z ∨ exP (gamP T C X k) b (ws.map some ++ List.replicate (m - ws.length) none) (ownOf 0 ws ts) (fnQP Q) Z) : (gamP T C X (k + 1)).call x ws ts Q Z := by
  obtain ⟨fi, h1, h2, h3, h4⟩ := h
  show (if x = "_law_draw" then drawP ws Q else if x = "_law_urn" then urnP ws Q else match T x with
    | some fi => ws.length = fi.ps.length ∧ (exP (gamP T C X k) fi.body (ws.map some ++ List.replicate (fi.names.length - ws.length) none) [] (fnQP Q) Z ∨ exP (gamP T C X k) fi.body (ws.map some ++ List.replicate (fi.names.length - ws.length) none) (ownOf 0 ws ts) (fnQP Q) Z)
    | none => False)
  rw [if_neg hx.1, if_neg hx.2, h1]
  subst h4
  exact ⟨by rw [hl, h2], by rw [h3]; exact q⟩
theorem call_of (h : Has T x n m b) (hx : x ≠ "_law_draw" ∧ x ≠ "_law_urn") (hl : ws.length = n) (q : exP (gamP T C X k) b (ws.map some ++ List.replicate (m - ws.length) none) [] (fnQP Q) Z) : (gamP T C X (k + 1)).call x ws ts Q Z := call_or h hx hl (.inl q)
end
theorem call_draw {T : Str → Option Fi} {C : Str → Option W} {X : Str → Bool} {k u : Nat} {m : Int} {ts : List Nat} {Q : KQ} {Z : KZ} (h1 : 0 < m) (h2 : m ≤ 10 ^ 18) (q : ∀ d : Int, 0 ≤ d → d < m → Q (.int d) 2) : (gamP T C X (k + 1)).call "_law_draw" [.loc u, .int m] ts Q Z := ⟨h1, h2, q⟩
theorem call_urn {T : Str → Option Fi} {C : Str → Option W} {X : Str → Bool} {k : Nat} {a : Int} {ts : List Nat} {Q : KQ} {Z : KZ} (h1 : 0 ≤ a) (h2 : a < 8) (q : ∀ u, Q (.loc u) 2) : (gamP T C X (k + 1)).call "_law_urn" [.fn "!", .int a] ts Q Z := ⟨rfl, h1, h2, q⟩
theorem gpc {T : Str → Option Fi} {C : Str → Option W} {X : Str → Bool} {k : Nat} {c : Str} : (gamP T C X k).con c = C c := by cases k <;> rfl
theorem gpx {T : Str → Option Fi} {C : Str → Option W} {X : Str → Bool} {k : Nat} {c : Str} : (gamP T C X k).ex c = X c := by cases k <;> rfl
theorem gpd {T : Str → Option Fi} {C : Str → Option W} {X : Str → Bool} {k : Nat} {c : Str} : (gamP T C X k).df c = (T c).isSome := by cases k <;> rfl
theorem rg_mem {lo c : Int} {w : W} : ∀ {n i : Nat}, w ∈ rgP lo c i n → ∃ m : Nat, i ≤ m ∧ m < i + n ∧ w = .int (lo + (m : Nat) * c)
  | 0, _, h => nomatch h
  | n + 1, i, h => by
    have h : w ∈ W.int (lo + (i : Nat) * c) :: rgP lo c (i + 1) n := h
    cases h with
    | head => exact ⟨i, Nat.le_refl _, by omega, rfl⟩
    | tail _ z =>
      obtain ⟨m, h1, h2, h3⟩ := rg_mem z
      exact ⟨m, by omega, by omega, h3⟩
theorem src_r1 {j : Int} {K : List W → Prop} (h : lim62 j = true) (q : K (rgP 0 1 0 j.toNat)) : ofO (srcP .rng1 [.int j]) K := by
  refine of_some (a := rgP 0 1 0 j.toNat) ?_ q
  show (if lim62 j then _ else _) = _
  rw [if_pos h]
theorem lim_nat {n : Nat} (h : n ≤ 1000000) : lim62 (n : Int) = true := by
  unfold lim62
  first
  | exact decide_eq_true (by omega)
  | (simp; omega)
def Tells (g : PG) (d : Str) (ws : List W) (A : W → Prop) (E : Str → Prop) : Prop := ∀ (Q : KQ) (Z : KZ) (ts : List Nat), (∀ v t, A v → Q v t) → (∀ c, E c → Z c) → g.call d ws ts Q Z
theorem s_rett {g : PG} {e : Sl} {o : Own} {Q : FlP → Prop} {Z : KZ} {kk : B} {as : E} (q : retT e o as [] fun vs => vs.length ≤ sizeLine ∧ Q (.rt (.tup vs) 2)) : exP g (.ret (.tup as) kk) e o Q Z := by (refine exP_in ?_; rw [exF]); exact .inr q
theorem rt_nil {e : Sl} {o : Own} {us : List Nat} {Q : List W → Prop} (q : Q []) : retT e o .nil us Q := q
theorem rt_var {e : Sl} {o : Own} {us : List Nat} {Q : List W → Prop} {i : Nat} {as : E} {v : W} (h : e[i]? = some (some v)) (hi : i ∉ us) (hf : flat v = true ∨ o.lookup i = some 2) (q : retT e o as (i :: us) fun vs => Q (v :: vs)) : retT e o (.cons (.var i) as) us Q := by
  refine ⟨hi, ?_⟩
  unfold slotP
  rw [h]
  exact ⟨hf, q⟩
theorem rt_str {e : Sl} {o : Own} {us : List Nat} {Q : List W → Prop} {x : Str} {as : E} (q : retT e o as us fun vs => Q (.str x :: vs)) : retT e o (.cons (.str x) as) us Q := q
end Pr

--PR
namespace Pr
open PySem Py Pl Pq
local macro_rules | `(tactic| decreasing_trivial_pre_omega) => `(tactic| (first | ((with_reducible apply s_retv); (focus rfl); (focus rfl)) | with_reducible refine s_ite ?_ | with_reducible refine s_ret ?_ | with_reducible refine s_retn ?_ | with_reducible refine s_brk ?_ | with_reducible refine s_ct ?_ | with_reducible refine s_pass ?_ | with_reducible refine s_call ?_ | with_reducible refine s_done ?_ | with_reducible refine s_par2 ?_ | with_reducible refine s_par3 ?_ | with_reducible refine n_nx ?_ | with_reducible refine n_rt ?_ | with_reducible refine n_bk ?_ | with_reducible refine n_ct ?_ | with_reducible refine lp_nx ?_ | with_reducible refine lp_ct ?_ | with_reducible refine lp_bk ?_ | with_reducible refine lp_rt ?_ | with_reducible refine f_nx ?_ | with_reducible refine f_rt ?_ | with_reducible refine k_ret ?_ | with_reducible refine k_exp ?_ | with_reducible refine k_set ?_ | with_reducible refine v_int ?_ | with_reducible refine v_bl ?_ | with_reducible refine v_non ?_ | with_reducible refine v_str ?_ | with_reducible refine v_bin ?_ | with_reducible refine v_neg ?_ | with_reducible refine v_no ?_ | with_reducible refine v_cmp ?_ | with_reducible refine v_chain ?_ | with_reducible refine v_and ?_ | with_reducible refine v_or ?_ | with_reducible refine v_one ?_ | with_reducible refine v_ite ?_ | with_reducible refine v_tup ?_ | with_reducible refine v_lst ?_ | with_reducible refine v_ix ?_ | with_reducible refine v_sl ?_ | with_reducible refine v_rv ?_ | with_reducible refine v_call ?_ | with_reducible refine v_bi ?_ | with_reducible refine v_isi ?_ | with_reducible refine v_comp ?_ | with_reducible refine a_nil ?_ | with_reducible refine a_cons ?_ | with_reducible refine y_nil ?_ | with_reducible refine y_cons ?_ | with_reducible refine o_nil ?_ | with_reducible refine o_one ?_ | with_reducible refine t_and ?_ | with_reducible refine t_or ?_ | with_reducible refine t_no ?_ | with_reducible refine t_one ?_ | with_reducible refine t_nil ?_ | with_reducible refine t_cmp ?_ | with_reducible refine t_chain ?_ | with_reducible refine t_call ?_ | with_reducible refine t_bi ?_ | with_reducible refine t_isi ?_ | with_reducible refine b_add ?_ | with_reducible refine b_sub ?_ | with_reducible refine b_adb ?_ | with_reducible refine c_lt ?_ | with_reducible refine c_le ?_ | with_reducible refine c_gt ?_ | with_reducible refine c_ge ?_ | with_reducible refine c_eqi ?_ | with_reducible refine c_nei ?_ | with_reducible refine c_eqs ?_ | with_reducible refine c_nes ?_ | with_reducible refine c_isn ?_ | with_reducible refine c_non ?_ | with_reducible refine c_ist ?_ | with_reducible refine c_not ?_ | with_reducible refine c_isi ?_ | with_reducible refine c_noi ?_ | with_reducible refine c_isc ?_ | with_reducible refine c_noc ?_ | with_reducible refine c_isb ?_ | with_reducible refine c_nob ?_ | with_reducible refine c_iss ?_ | with_reducible refine c_nos ?_ | with_reducible refine ifr ?_ | with_reducible refine ifnr ?_ | with_reducible refine c_isB ?_ | with_reducible refine c_notB ?_ | with_reducible refine i_int ?_ | with_reducible refine i_bl ?_ | with_reducible refine i_abs ?_ | with_reducible refine i_max ?_ | with_reducible refine i_min ?_ | with_reducible refine i_inti ?_ | with_reducible refine i_intb ?_ | with_reducible refine i_len ?_ | with_reducible refine i_lent ?_ | with_reducible refine i_listn ?_ | with_reducible refine i_list ?_ | with_reducible refine i_tuple ?_ | with_reducible refine rv_cl ?_ | with_reducible refine l_cl ?_ | with_reducible refine x_n0 ?_ | with_reducible refine x_n1 ?_ | with_reducible refine b_p6 ?_ | with_reducible refine s_for0 ?_ | with_reducible refine src_cl ?_ | with_reducible refine src_zip ?_ | with_reducible refine src_enu ?_ | with_reducible refine src_rvm ?_ | with_reducible refine src_zp ?_ | with_reducible refine src_en ?_ | with_reducible refine src_rv ?_ | with_reducible refine src_two ?_ | with_reducible refine ift ?_ | with_reducible refine iff_ ?_ | with_reducible refine ifnt ?_ | with_reducible refine ifnf ?_ | ((with_reducible apply v_var); exact rfl) | ((with_reducible apply s_add); exact rfl) | ((with_reducible apply s_sub); exact rfl) | ((with_reducible apply x_tup); exact rfl) | ((with_reducible apply x_cl); exact rfl) | ((with_reducible apply of_isi); exact rfl) | ((with_reducible apply of_tru); exact rfl) | ((with_reducible apply of_tn); exact rfl) | ((with_reducible apply src_tp); exact rfl) | ((with_reducible apply ln); exact rfl) | ((with_reducible apply c_eqT); focus (first | exact gd_pL _ | exact gd_tW _ | exact gd_n _ | (simp only [gd_tup, gd_cl, gd_cln, gds_cons, gds_nil, gd_pL, gd_tW, gd_n, gd_int, gd_bl, gd_non, gd_str, Bool.and_true, Bool.true_and, Bool.and_self]; done) | (simp only [gd_tup, gd_cl, gd_cln, gds_cons, gds_nil, gd_pL, gd_tW, gd_n, gd_int, gd_bl, gd_non, gd_str, Bool.and_true, Bool.true_and, Bool.and_self]; kernel_rfl) | kernel_rfl)) | ((with_reducible apply c_neT); focus (first | exact gd_pL _ | exact gd_tW _ | exact gd_n _ | (simp only [gd_tup, gd_cl, gd_cln, gds_cons, gds_nil, gd_pL, gd_tW, gd_n, gd_int, gd_bl, gd_non, gd_str, Bool.and_true, Bool.true_and, Bool.and_self]; done) | (simp only [gd_tup, gd_cl, gd_cln, gds_cons, gds_nil, gd_pL, gd_tW, gd_n, gd_int, gd_bl, gd_non, gd_str, Bool.and_true, Bool.true_and, Bool.and_self]; kernel_rfl) | kernel_rfl)) | with_reducible refine c_eqn ?_ | with_reducible refine c_nen ?_ | with_reducible refine c_eqp ?_ | with_reducible refine c_nep ?_ | with_reducible refine c_eqtt ?_ | with_reducible refine c_nett ?_ | with_reducible refine c_eqnil ?_ | with_reducible refine c_nenil ?_ | ((with_reducible apply v_con); rw [gpc]; assumption) | with_reducible refine s_set ?_ | ((with_reducible apply v_fref); decide; rw [gpd]; rfl)))
section
variable {g : PG} {e : Sl} {i j : Nat} {Z : KZ} {Q : FlP → Prop}
theorem gcd_loop (hij : i ≠ j) (hi : i < e.length) (hj : j < e.length) (n a b : Nat) (hab : a * b < 2 ^ n) (hn : n + 1 < big)
    (q : Q (.nx ((e.set i (some (.int (Nat.gcd a b : Nat)))).set j (some (.int (0 : Nat)))) [])) :
    whileP (fun e Q => evTP g (.cmp .gt (.var j) (.int 0)) e Q Z) (fun e o Q => exP g (.par2 i j (.var j) (.bin .mod (.var i) (.var j)) .done) e o Q Z) Q big ((e.set i (some (.int (a : Nat)))).set j (some (.int (b : Nat)))) [] := by
  refine while_ind (fun m e' o => ∃ x y : Nat, e' = (e.set i (some (.int (x : Nat)))).set j (some (.int (y : Nat))) ∧ o = [] ∧ Nat.gcd x y = Nat.gcd a b ∧ ((y ≤ x ∧ x * y < 2 ^ m) ∨ (x < y ∧ ∃ l, m = l + 1 ∧ x * y < 2 ^ l))) ?_ big (n + 1) _ _ hn ⟨a, b, rfl, rfl, rfl, ?_⟩
  · intro m e' o K h hK
    obtain ⟨x, y, rfl, rfl, hg, hm⟩ := h
    have hi' : ((e.set i (some (.int (x : Nat)))).set j (some (.int (y : Nat))))[i]? = some (some (W.int (x : Nat))) := by
      rw [List.getElem?_set_ne (fun h => hij h.symm), List.getElem?_set_self hi]
    have hj' : ((e.set i (some (.int (x : Nat)))).set j (some (.int (y : Nat))))[j]? = some (some (W.int (y : Nat))) := by
      rw [List.getElem?_set_self (by rw [List.length_set]; exact hj)]
    refine t_cmp (v_var hj' (v_int (c_gt (i_bl (ifd (fun h => ?_) fun h => ?_)))))
    · have hy : y ≠ 0 := by omega
      refine s_par2 (v_var hj' (v_bin (v_var hi' (v_var hj' (b_mod (by omega) (s_done (lp_nx ?_)))))))
      rw [set4 hij, ← Int.ofNat_fmod]
      have hlt : x % y < y := Nat.mod_lt _ (by omega)
      have hgr : Nat.gcd y (x % y) = Nat.gcd a b := by rw [← hg, Nat.gcd_comm x y, Nat.gcd_rec y x, Nat.gcd_comm]
      rcases hm with ⟨h1, h2⟩ | ⟨h1, l, rfl, h2⟩
      · have h3 : 2 * (x % y) ≤ x := by
          have h2 := Nat.div_add_mod x y
          have h3 : 1 ≤ x / y := (Nat.one_le_div_iff (by omega)).mpr h1
          have h4 : y * 1 ≤ y * (x / y) := Nat.mul_le_mul_left _ h3
          omega
        have h4 : y * (2 * (x % y)) ≤ y * x := Nat.mul_le_mul_left _ h3
        have h5 : y * (2 * (x % y)) = 2 * (y * (x % y)) := Nat.mul_left_comm ..
        have h7 : 1 * 1 ≤ x * y := Nat.mul_le_mul (by omega) (by omega)
        cases m with
        | zero => omega
        | succ m =>
          rw [Nat.pow_succ] at h2
          rw [Nat.mul_comm y x] at h4
          exact hK m _ _ (Nat.lt_succ_self _) ⟨y, x % y, rfl, rfl, hgr, .inl ⟨by omega, by omega⟩⟩
      · rw [Nat.mod_eq_of_lt h1] at hgr ⊢
        exact hK l _ _ (Nat.lt_succ_self _) ⟨y, x, rfl, rfl, hgr, .inl ⟨by omega, by rw [Nat.mul_comm]; exact h2⟩⟩
    · have hy : y = 0 := by omega
      subst hy
      rw [Nat.gcd_zero_right] at hg
      rw [hg]
      exact q
  · by_cases h : b ≤ a
    · exact .inl ⟨h, Nat.lt_of_lt_of_le hab (Nat.pow_le_pow_right (by decide) (by omega))⟩
    · exact .inr ⟨by omega, n, rfl, hab⟩
end
section
variable {T : Str → Option Fi} {C : Str → Option W} {X : Str → Bool} {k n m : Nat} {ts : List Nat} {Z : KZ} {Q : KQ}
theorem p_divisor (h : Has T "shared_divisor" 2 2 bd_shared_divisor) {a b : Int} (ha : Bt n a) (hb : Bt m b) (hn : n + m ≤ 1000000000) (q : ∀ t, Q (.int (Int.gcd a b : Nat)) t) : (gamP T C X (k + 1)).call "shared_divisor" [.int a, .int b] ts Q Z := by
  refine call_of h ⟨by decide, by decide⟩ rfl ?_
  unfold bd_shared_divisor
  refine s_par2 ?_
  (repeat decreasing_trivial_pre_omega)
  refine s_whl ?_
  refine gcd_loop (e := [some (.int a), some (.int b)]) (i := 0) (j := 1) (by decide) (by exact Nat.le.step Nat.le.refl) (by exact Nat.le.refl) (n + m) a.natAbs b.natAbs (by rw [Nat.pow_add]; exact Nat.mul_lt_mul'' ha hb) (by unfold big; omega) ?_
  (repeat decreasing_trivial_pre_omega)
  exact q _
theorem p_fraction (h : Has T "fraction" 2 3 bd_fraction) (h' : Has T "shared_divisor" 2 2 bd_shared_divisor) {a b : Int} (ha : Bt n a) (hb : Bt m b) (hn : n + m ≤ 1000000000) (h0 : b ≠ 0)
    (q : ∀ t, Q (nW (Rat.divInt a b)) t) : (gamP T C X (k + 2)).call "fraction" [.int a, .int b] ts Q Z := by
  refine call_of h ⟨by decide, by decide⟩ rfl ?_
  unfold bd_fraction
  (repeat decreasing_trivial_pre_omega)
  refine ifd (fun z => absurd z h0) fun _ => ?_
  (repeat decreasing_trivial_pre_omega)
  refine p_divisor h' ha hb hn fun _ => ?_
  (repeat decreasing_trivial_pre_omega)
  obtain ⟨h1, h2, h3⟩ := sign_div (t := a) h0 _ rfl
  refine ifd (fun z => ?_) fun z => ?_
  · rw [if_pos z] at h1 h2 h3
    (repeat decreasing_trivial_pre_omega)
    refine b_div h3 ?_
    (repeat decreasing_trivial_pre_omega)
    refine b_div h3 ?_
    (repeat decreasing_trivial_pre_omega)
    rw [h1, h2]
    exact q _
  · rw [if_neg z] at h1 h2 h3
    (repeat decreasing_trivial_pre_omega)
    refine b_div h3 ?_
    (repeat decreasing_trivial_pre_omega)
    refine b_div h3 ?_
    (repeat decreasing_trivial_pre_omega)
    rw [h1, h2]
    exact q _
theorem p_low {l : Nat} (h : Has T "_law_low" 2 l bd__law_low) (hl : l = 4) {a b : Int} (ha : Bt n a) (hb : Bt m b) (hn : n + m ≤ 1000000000) (h0 : b ≠ 0)
    (q : ∀ t, Q (nW (Rat.divInt a b)) t) : (gamP T C X (k + 1)).call "_law_low" [.int a, .int b] ts Q Z := by
  subst hl
  refine call_of h ⟨by decide, by decide⟩ rfl ?_
  unfold bd__law_low
  (repeat decreasing_trivial_pre_omega)
  refine s_whl ?_
  refine gcd_loop (e := [some (.int a), some (.int b), some (.int a), some (.int b)]) (i := 2) (j := 3) (by decide) (by exact Nat.le.step Nat.le.refl) (by exact Nat.le.refl) (n + m) a.natAbs b.natAbs (by rw [Nat.pow_add]; exact Nat.mul_lt_mul'' ha hb) (by unfold big; omega) ?_
  (repeat decreasing_trivial_pre_omega)
  obtain ⟨h1, h2, h3⟩ := sign_div (t := a) h0 _ rfl
  refine ifd (fun z => ?_) fun z => ?_
  · rw [if_pos z] at h1 h2 h3
    (repeat decreasing_trivial_pre_omega)
    refine b_div h3 ?_
    (repeat decreasing_trivial_pre_omega)
    refine b_div h3 ?_
    (repeat decreasing_trivial_pre_omega)
    show Q (.tup [.int (a.fdiv (0 - (Int.gcd a b : Int))), .int (b.fdiv (0 - (Int.gcd a b : Int)))]) _
    rw [h1, h2]
    exact q _
  · rw [if_neg z] at h1 h2 h3
    (repeat decreasing_trivial_pre_omega)
    refine b_div h3 ?_
    (repeat decreasing_trivial_pre_omega)
    refine b_div h3 ?_
    (repeat decreasing_trivial_pre_omega)
    show Q (.tup [.int (a.fdiv (Int.gcd a b : Int)), .int (b.fdiv (Int.gcd a b : Int))]) _
    rw [h1, h2]
    exact q _
structure Frac (T : Str → Option Fi) : Prop where
  fr : Has T "fraction" 2 3 bd_fraction
  sd : Has T "shared_divisor" 2 2 bd_shared_divisor
theorem p_times (F : Frac T) (h : Has T "times" 2 2 bd_times) {p q : Rat} (hp : Sz n p) (hq : Sz m q) (h0 : 0 < n) (h1 : 0 < m) (hn : n + m ≤ 60000000) (w : ∀ t, Q (nW (p * q)) t) :
    (gamP T C X (k + 3)).call "times" [nW p, nW q] ts Q Z := by
  refine call_of h ⟨by decide, by decide⟩ rfl ?_
  unfold bd_times
  (repeat decreasing_trivial_pre_omega)
  refine b_mul (hp.bn.bits hq.bn (by omega) (by omega) (by omega)) ?_
  (repeat decreasing_trivial_pre_omega)
  refine b_mul (hp.bd.bits hq.bd (by omega) (by omega) (by omega)) ?_
  (repeat decreasing_trivial_pre_omega)
  refine p_fraction F.fr F.sd (hp.bn.mul hq.bn) (hp.bd.mul hq.bd) (by omega) (Int.mul_ne_zero (den_ne p) (den_ne q)) fun t => ?_
  rw [mul_divInt]
  (repeat decreasing_trivial_pre_omega)
  exact w _
theorem p_plus (F : Frac T) (h : Has T "plus" 2 2 bd_plus) {p q : Rat} (hp : Sz n p) (hq : Sz m q) (h0 : 0 < n) (h1 : 0 < m) (hn : n + m ≤ 60000000) (w : ∀ t, Q (nW (p + q)) t) :
    (gamP T C X (k + 3)).call "plus" [nW p, nW q] ts Q Z := by
  refine call_of h ⟨by decide, by decide⟩ rfl ?_
  unfold bd_plus
  (repeat decreasing_trivial_pre_omega)
  refine b_mul (hp.bn.bits hq.bd (by omega) (by omega) (by omega)) ?_
  (repeat decreasing_trivial_pre_omega)
  refine b_mul (hq.bn.bits hp.bd (by omega) (by omega) (by omega)) ?_
  (repeat decreasing_trivial_pre_omega)
  refine b_mul (hp.bd.bits hq.bd (by omega) (by omega) (by omega)) ?_
  (repeat decreasing_trivial_pre_omega)
  refine p_fraction F.fr F.sd ((hp.bn.mul hq.bd).add ((hq.bn.mul hp.bd).mono (by omega))) (hp.bd.mul hq.bd) (by omega) (Int.mul_ne_zero (den_ne p) (den_ne q)) fun t => ?_
  rw [add_divInt]
  (repeat decreasing_trivial_pre_omega)
  exact w _
theorem p_ltimes (L : Has T "_law_low" 2 4 bd__law_low) (h : Has T "_law_times" 2 2 bd__law_times) {p q : Rat} (hp : Sz n p) (hq : Sz m q) (h0 : 0 < n) (h1 : 0 < m) (hn : n + m ≤ 60000000) (w : ∀ t, Q (nW (p * q)) t) :
    (gamP T C X (k + 2)).call "_law_times" [nW p, nW q] ts Q Z := by
  refine call_of h ⟨by decide, by decide⟩ rfl ?_
  unfold bd__law_times
  (repeat decreasing_trivial_pre_omega)
  refine b_mul (hp.bn.bits hq.bn (by omega) (by omega) (by omega)) ?_
  (repeat decreasing_trivial_pre_omega)
  refine b_mul (hp.bd.bits hq.bd (by omega) (by omega) (by omega)) ?_
  (repeat decreasing_trivial_pre_omega)
  refine p_low L rfl (hp.bn.mul hq.bn) (hp.bd.mul hq.bd) (by omega) (Int.mul_ne_zero (den_ne p) (den_ne q)) fun t => ?_
  rw [mul_divInt]
  (repeat decreasing_trivial_pre_omega)
  exact w _
theorem p_lplus (L : Has T "_law_low" 2 4 bd__law_low) (h : Has T "_law_plus" 2 2 bd__law_plus) {p q : Rat} (hp : Sz n p) (hq : Sz m q) (h0 : 0 < n) (h1 : 0 < m) (hn : n + m ≤ 60000000) (w : ∀ t, Q (nW (p + q)) t) :
    (gamP T C X (k + 2)).call "_law_plus" [nW p, nW q] ts Q Z := by
  refine call_of h ⟨by decide, by decide⟩ rfl ?_
  unfold bd__law_plus
  (repeat decreasing_trivial_pre_omega)
  refine b_mul (hp.bn.bits hq.bd (by omega) (by omega) (by omega)) ?_
  (repeat decreasing_trivial_pre_omega)
  refine b_mul (hq.bn.bits hp.bd (by omega) (by omega) (by omega)) ?_
  (repeat decreasing_trivial_pre_omega)
  refine b_mul (hp.bd.bits hq.bd (by omega) (by omega) (by omega)) ?_
  (repeat decreasing_trivial_pre_omega)
  refine p_low L rfl ((hp.bn.mul hq.bd).add ((hq.bn.mul hp.bd).mono (by omega))) (hp.bd.mul hq.bd) (by omega) (Int.mul_ne_zero (den_ne p) (den_ne q)) fun t => ?_
  rw [add_divInt]
  (repeat decreasing_trivial_pre_omega)
  exact w _
end
end Pr

--PR
namespace Pr
open PySem Py Pl Pq
local macro_rules | `(tactic| decreasing_trivial_pre_omega) => `(tactic| (first | ((with_reducible apply s_retv); (focus rfl); (focus rfl)) | with_reducible refine s_ite ?_ | with_reducible refine s_ret ?_ | with_reducible refine s_retn ?_ | with_reducible refine s_brk ?_ | with_reducible refine s_ct ?_ | with_reducible refine s_pass ?_ | with_reducible refine s_call ?_ | with_reducible refine s_done ?_ | with_reducible refine s_par2 ?_ | with_reducible refine s_par3 ?_ | with_reducible refine n_nx ?_ | with_reducible refine n_rt ?_ | with_reducible refine n_bk ?_ | with_reducible refine n_ct ?_ | with_reducible refine lp_nx ?_ | with_reducible refine lp_ct ?_ | with_reducible refine lp_bk ?_ | with_reducible refine lp_rt ?_ | with_reducible refine f_nx ?_ | with_reducible refine f_rt ?_ | with_reducible refine k_ret ?_ | with_reducible refine k_exp ?_ | with_reducible refine k_set ?_ | with_reducible refine v_int ?_ | with_reducible refine v_bl ?_ | with_reducible refine v_non ?_ | with_reducible refine v_str ?_ | with_reducible refine v_bin ?_ | with_reducible refine v_neg ?_ | with_reducible refine v_no ?_ | with_reducible refine v_cmp ?_ | with_reducible refine v_chain ?_ | with_reducible refine v_and ?_ | with_reducible refine v_or ?_ | with_reducible refine v_one ?_ | with_reducible refine v_ite ?_ | with_reducible refine v_tup ?_ | with_reducible refine v_lst ?_ | with_reducible refine v_ix ?_ | with_reducible refine v_sl ?_ | with_reducible refine v_rv ?_ | with_reducible refine v_call ?_ | with_reducible refine v_bi ?_ | with_reducible refine v_isi ?_ | with_reducible refine v_comp ?_ | with_reducible refine a_nil ?_ | with_reducible refine a_cons ?_ | with_reducible refine y_nil ?_ | with_reducible refine y_cons ?_ | with_reducible refine o_nil ?_ | with_reducible refine o_one ?_ | with_reducible refine t_and ?_ | with_reducible refine t_or ?_ | with_reducible refine t_no ?_ | with_reducible refine t_one ?_ | with_reducible refine t_nil ?_ | with_reducible refine t_cmp ?_ | with_reducible refine t_chain ?_ | with_reducible refine t_call ?_ | with_reducible refine t_bi ?_ | with_reducible refine t_isi ?_ | with_reducible refine b_add ?_ | with_reducible refine b_sub ?_ | with_reducible refine b_adb ?_ | with_reducible refine c_lt ?_ | with_reducible refine c_le ?_ | with_reducible refine c_gt ?_ | with_reducible refine c_ge ?_ | with_reducible refine c_eqi ?_ | with_reducible refine c_nei ?_ | with_reducible refine c_eqs ?_ | with_reducible refine c_nes ?_ | with_reducible refine c_isn ?_ | with_reducible refine c_non ?_ | with_reducible refine c_ist ?_ | with_reducible refine c_not ?_ | with_reducible refine c_isi ?_ | with_reducible refine c_noi ?_ | with_reducible refine c_isc ?_ | with_reducible refine c_noc ?_ | with_reducible refine c_isb ?_ | with_reducible refine c_nob ?_ | with_reducible refine c_iss ?_ | with_reducible refine c_nos ?_ | with_reducible refine ifr ?_ | with_reducible refine ifnr ?_ | with_reducible refine c_isB ?_ | with_reducible refine c_notB ?_ | with_reducible refine i_int ?_ | with_reducible refine i_bl ?_ | with_reducible refine i_abs ?_ | with_reducible refine i_max ?_ | with_reducible refine i_min ?_ | with_reducible refine i_inti ?_ | with_reducible refine i_intb ?_ | with_reducible refine i_len ?_ | with_reducible refine i_lent ?_ | with_reducible refine i_listn ?_ | with_reducible refine i_list ?_ | with_reducible refine i_tuple ?_ | with_reducible refine rv_cl ?_ | with_reducible refine l_cl ?_ | with_reducible refine x_n0 ?_ | with_reducible refine x_n1 ?_ | with_reducible refine b_p6 ?_ | with_reducible refine s_for0 ?_ | with_reducible refine src_cl ?_ | with_reducible refine src_zip ?_ | with_reducible refine src_enu ?_ | with_reducible refine src_rvm ?_ | with_reducible refine src_zp ?_ | with_reducible refine src_en ?_ | with_reducible refine src_rv ?_ | with_reducible refine src_two ?_ | with_reducible refine ift ?_ | with_reducible refine iff_ ?_ | with_reducible refine ifnt ?_ | with_reducible refine ifnf ?_ | ((with_reducible apply v_var); exact rfl) | ((with_reducible apply s_add); exact rfl) | ((with_reducible apply s_sub); exact rfl) | ((with_reducible apply x_tup); exact rfl) | ((with_reducible apply x_cl); exact rfl) | ((with_reducible apply of_isi); exact rfl) | ((with_reducible apply of_tru); exact rfl) | ((with_reducible apply of_tn); exact rfl) | ((with_reducible apply src_tp); exact rfl) | ((with_reducible apply ln); exact rfl) | ((with_reducible apply c_eqT); focus (first | exact gd_pL _ | exact gd_tW _ | exact gd_n _ | (simp only [gd_tup, gd_cl, gd_cln, gds_cons, gds_nil, gd_pL, gd_tW, gd_n, gd_int, gd_bl, gd_non, gd_str, Bool.and_true, Bool.true_and, Bool.and_self]; done) | (simp only [gd_tup, gd_cl, gd_cln, gds_cons, gds_nil, gd_pL, gd_tW, gd_n, gd_int, gd_bl, gd_non, gd_str, Bool.and_true, Bool.true_and, Bool.and_self]; kernel_rfl) | kernel_rfl)) | ((with_reducible apply c_neT); focus (first | exact gd_pL _ | exact gd_tW _ | exact gd_n _ | (simp only [gd_tup, gd_cl, gd_cln, gds_cons, gds_nil, gd_pL, gd_tW, gd_n, gd_int, gd_bl, gd_non, gd_str, Bool.and_true, Bool.true_and, Bool.and_self]; done) | (simp only [gd_tup, gd_cl, gd_cln, gds_cons, gds_nil, gd_pL, gd_tW, gd_n, gd_int, gd_bl, gd_non, gd_str, Bool.and_true, Bool.true_and, Bool.and_self]; kernel_rfl) | kernel_rfl)) | with_reducible refine c_eqn ?_ | with_reducible refine c_nen ?_ | with_reducible refine c_eqp ?_ | with_reducible refine c_nep ?_ | with_reducible refine c_eqtt ?_ | with_reducible refine c_nett ?_ | with_reducible refine c_eqnil ?_ | with_reducible refine c_nenil ?_ | ((with_reducible apply v_con); rw [gpc]; assumption) | with_reducible refine s_set ?_ | ((with_reducible apply v_fref); decide; rw [gpd]; rfl)))
section
variable {T : Str → Option Fi} {C : Str → Option W} {X : Str → Bool} {k n m u : Nat} {ts : List Nat} {Z : KZ} {Q : KQ}
theorem p_kind (h : Has T "_law_kind" 1 1 bd__law_kind) (w : ∀ (i : Int) t, (i = 0 ∨ i = 1 ∨ i = 2) → Q (.int i) t) : (gamP T C X (k + 2)).call "_law_kind" [.loc u] ts Q Z := by
  refine call_of h ⟨by decide, by decide⟩ rfl ?_
  unfold bd__law_kind
  (repeat decreasing_trivial_pre_omega)
  refine call_draw (by decide) (by decide) fun d h0 h1 => ?_
  have h2 := w 0 0 (.inl rfl)
  have h3 := w 1 0 (.inr (.inl rfl))
  exact x_pick h0 h1 (fac h2 (fac h3 (fac h2 (fac h3 (fac h2 (fac h3 (fac h2 (fac (w 2 0 (.inr (.inr rfl))) fan))))))))
theorem p_number (L : Has T "_law_low" 2 4 bd__law_low) (h : Has T "_law_number" 2 3 bd__law_number) {kd : Int} (w : ∀ r t, Sz 40 r → Q (nW r) t) : (gamP T C X (k + 2)).call "_law_number" [.loc u, .int kd] ts Q Z := by
  refine call_of h ⟨by decide, by decide⟩ rfl ?_
  unfold bd__law_number
  (repeat decreasing_trivial_pre_omega)
  refine ifd (fun z => ?_) fun z => ?_
  · (repeat decreasing_trivial_pre_omega)
    refine call_draw (by decide) (by decide) fun d1 a1 b1 => ?_
    (repeat decreasing_trivial_pre_omega)
    refine b_mul (Bt.bits (n := 20) (m := 20) (by unfold Bt; omega) (by unfold Bt; decide) (by decide) (by decide) (by decide)) ?_
    (repeat decreasing_trivial_pre_omega)
    refine call_draw (by decide) (by decide) fun d2 a2 b2 => ?_
    (repeat decreasing_trivial_pre_omega)
    refine call_draw (by decide) (by decide) fun d3 a3 b3 => ?_
    refine x_sgn a3 b3 fun i hi => ?_
    refine b_mul (Bt.bits (n := 40) (m := 1) (by unfold Bt; omega) (by unfold Bt; omega) (by decide) (by decide) (by decide)) ?_
    (repeat decreasing_trivial_pre_omega)
    refine call_draw (by decide) (by decide) fun d4 a4 b4 => ?_
    (repeat decreasing_trivial_pre_omega)
    refine b_mul (Bt.bits (n := 20) (m := 20) (by unfold Bt; omega) (by unfold Bt; decide) (by decide) (by decide) (by decide)) ?_
    (repeat decreasing_trivial_pre_omega)
    have hb : Bt 40 (1 + d4 * 1000000) := by unfold Bt; omega
    have ht : Bt 40 ((d1 * 1000000 + d2) * i) := by
      unfold Bt
      rcases hi with rfl | rfl <;> omega
    refine p_low L rfl ht hb (by decide) (by omega) fun t => ?_
    (repeat decreasing_trivial_pre_omega)
    exact w _ _ (Sz.of ht hb (by decide))
  · (repeat decreasing_trivial_pre_omega)
    refine call_draw (by decide) (by decide) fun d1 a1 b1 => ?_
    (repeat decreasing_trivial_pre_omega)
    refine call_draw (by decide) (by decide) fun d2 a2 b2 => ?_
    (repeat decreasing_trivial_pre_omega)
    have hi : ∀ b : Bool, (if b then (1 : Int) else 0) = 1 ∨ (if b then (1 : Int) else 0) = 0 := fun b => by cases b <;> simp
    generalize hx : (if decide (kd = 0) = true then (1 : Int) else 0) = x
    have hx' : x = 1 ∨ x = 0 := by rw [← hx]; exact hi _
    refine b_mul (Bt.bits (n := 20) (m := 20) (by unfold Bt; omega) (by unfold Bt; omega) (by decide) (by decide) (by decide)) ?_
    (repeat decreasing_trivial_pre_omega)
    have ht : Bt 40 (d1 - 9) := by unfold Bt; omega
    have hb : Bt 40 (1 + d2 * x) := by
      unfold Bt
      rcases hx' with rfl | rfl <;> omega
    have hb0 : 1 + d2 * x ≠ 0 := by rcases hx' with rfl | rfl <;> omega
    refine p_low L rfl ht hb (by decide) hb0 fun t => ?_
    (repeat decreasing_trivial_pre_omega)
    exact w _ _ (Sz.of ht hb (by decide))
theorem p_other (L : Has T "_law_low" 2 4 bd__law_low) (h' : Has T "_law_number" 2 3 bd__law_number) (h : Has T "_law_other" 2 3 bd__law_other) {kd : Int}
    (w : ∀ r t, r ≠ 0 → Sz 40 r → Q (nW r) t) : (gamP T C X (k + 3)).call "_law_other" [.loc u, .int kd] ts Q Z := by
  refine call_of h ⟨by decide, by decide⟩ rfl ?_
  unfold bd__law_other
  (repeat decreasing_trivial_pre_omega)
  refine p_number L h' fun r t hr => ?_
  (repeat decreasing_trivial_pre_omega)
  refine ifd (fun z => ?_) fun z => ?_
  · (repeat decreasing_trivial_pre_omega)
    refine call_draw (by decide) (by decide) fun d2 a2 b2 => ?_
    (repeat decreasing_trivial_pre_omega)
    have e : W.tup [.int (1 + d2), .int 1] = nW ((1 + d2 : Int) : Rat) := rfl
    rw [e]
    refine w _ _ ?_ ⟨?_, ?_⟩
    · intro z
      have := congrArg Rat.num z
      rw [show (((1 + d2 : Int) : Rat)).num = 1 + d2 from rfl] at this
      have e0 : (0 : Rat).num = 0 := rfl
      omega
    · show (1 + d2).natAbs < 2 ^ 40
      omega
    · show 1 < 2 ^ 40
      decide
  · (repeat decreasing_trivial_pre_omega)
    refine w _ _ (fun e => ?_) hr
    subst e
    exact z rfl
theorem p_whole (h : Has T "_law_whole" 1 1 bd__law_whole) {i : Int} (w : ∀ t, Q (.bl true) t) : (gamP T C X (k + 1)).call "_law_whole" [.int i] ts Q Z := by
  refine call_of h ⟨by decide, by decide⟩ rfl ?_
  unfold bd__law_whole
  (repeat decreasing_trivial_pre_omega)
  exact w _
theorem p_isnum (L : Has T "_law_low" 2 4 bd__law_low) (Wh : Has T "_law_whole" 1 1 bd__law_whole) (h : Has T "_law_is_number" 1 1 bd__law_is_number) {r : Rat} (hr : Sz n r) (hn : n ≤ 60000000) (w : ∀ t, Q (.bl true) t) :
    (gamP T C X (k + 2)).call "_law_is_number" [nW r] ts Q Z := by
  refine call_of h ⟨by decide, by decide⟩ rfl ?_
  unfold bd__law_is_number
  (repeat decreasing_trivial_pre_omega)
  refine p_whole Wh fun t => ?_
  (repeat decreasing_trivial_pre_omega)
  refine p_whole Wh fun t => ?_
  (repeat decreasing_trivial_pre_omega)
  refine ifd (fun _ => ?_) fun z => ?_
  · (repeat decreasing_trivial_pre_omega)
    refine p_low L rfl hr.bn hr.bd (by omega) (den_ne r) fun t => ?_
    (repeat decreasing_trivial_pre_omega)
    refine c_eq (eqW_n _ _ _) ?_
    rw [nW_divInt, decide_eq_true rfl]
    exact w _
  · have := den_ne r
    omega
abbrev toldW (w : W) : W := .tup [.str "told", w]
abbrev refW (x : Str) : W := .tup [.str "refused", .str x]
end
end Pr

--PR
namespace Pr
open PySem Py Pl Pq
local macro_rules | `(tactic| decreasing_trivial_pre_omega) => `(tactic| (first | ((with_reducible apply s_retv); (focus rfl); (focus rfl)) | with_reducible refine s_ite ?_ | with_reducible refine s_ret ?_ | with_reducible refine s_retn ?_ | with_reducible refine s_brk ?_ | with_reducible refine s_ct ?_ | with_reducible refine s_pass ?_ | with_reducible refine s_call ?_ | with_reducible refine s_done ?_ | with_reducible refine s_par2 ?_ | with_reducible refine s_par3 ?_ | with_reducible refine n_nx ?_ | with_reducible refine n_rt ?_ | with_reducible refine n_bk ?_ | with_reducible refine n_ct ?_ | with_reducible refine lp_nx ?_ | with_reducible refine lp_ct ?_ | with_reducible refine lp_bk ?_ | with_reducible refine lp_rt ?_ | with_reducible refine f_nx ?_ | with_reducible refine f_rt ?_ | with_reducible refine k_ret ?_ | with_reducible refine k_exp ?_ | with_reducible refine k_set ?_ | with_reducible refine v_int ?_ | with_reducible refine v_bl ?_ | with_reducible refine v_non ?_ | with_reducible refine v_str ?_ | with_reducible refine v_bin ?_ | with_reducible refine v_neg ?_ | with_reducible refine v_no ?_ | with_reducible refine v_cmp ?_ | with_reducible refine v_chain ?_ | with_reducible refine v_and ?_ | with_reducible refine v_or ?_ | with_reducible refine v_one ?_ | with_reducible refine v_ite ?_ | with_reducible refine v_tup ?_ | with_reducible refine v_lst ?_ | with_reducible refine v_ix ?_ | with_reducible refine v_sl ?_ | with_reducible refine v_rv ?_ | with_reducible refine v_call ?_ | with_reducible refine v_bi ?_ | with_reducible refine v_isi ?_ | with_reducible refine v_comp ?_ | with_reducible refine a_nil ?_ | with_reducible refine a_cons ?_ | with_reducible refine y_nil ?_ | with_reducible refine y_cons ?_ | with_reducible refine o_nil ?_ | with_reducible refine o_one ?_ | with_reducible refine t_and ?_ | with_reducible refine t_or ?_ | with_reducible refine t_no ?_ | with_reducible refine t_one ?_ | with_reducible refine t_nil ?_ | with_reducible refine t_cmp ?_ | with_reducible refine t_chain ?_ | with_reducible refine t_call ?_ | with_reducible refine t_bi ?_ | with_reducible refine t_isi ?_ | with_reducible refine b_add ?_ | with_reducible refine b_sub ?_ | with_reducible refine b_adb ?_ | with_reducible refine c_lt ?_ | with_reducible refine c_le ?_ | with_reducible refine c_gt ?_ | with_reducible refine c_ge ?_ | with_reducible refine c_eqi ?_ | with_reducible refine c_nei ?_ | with_reducible refine c_eqs ?_ | with_reducible refine c_nes ?_ | with_reducible refine c_isn ?_ | with_reducible refine c_non ?_ | with_reducible refine c_ist ?_ | with_reducible refine c_not ?_ | with_reducible refine c_isi ?_ | with_reducible refine c_noi ?_ | with_reducible refine c_isc ?_ | with_reducible refine c_noc ?_ | with_reducible refine c_isb ?_ | with_reducible refine c_nob ?_ | with_reducible refine c_iss ?_ | with_reducible refine c_nos ?_ | with_reducible refine ifr ?_ | with_reducible refine ifnr ?_ | with_reducible refine c_isB ?_ | with_reducible refine c_notB ?_ | with_reducible refine i_int ?_ | with_reducible refine i_bl ?_ | with_reducible refine i_abs ?_ | with_reducible refine i_max ?_ | with_reducible refine i_min ?_ | with_reducible refine i_inti ?_ | with_reducible refine i_intb ?_ | with_reducible refine i_len ?_ | with_reducible refine i_lent ?_ | with_reducible refine i_listn ?_ | with_reducible refine i_list ?_ | with_reducible refine i_tuple ?_ | with_reducible refine rv_cl ?_ | with_reducible refine l_cl ?_ | with_reducible refine x_n0 ?_ | with_reducible refine x_n1 ?_ | with_reducible refine b_p6 ?_ | with_reducible refine s_for0 ?_ | with_reducible refine src_cl ?_ | with_reducible refine src_zip ?_ | with_reducible refine src_enu ?_ | with_reducible refine src_rvm ?_ | with_reducible refine src_zp ?_ | with_reducible refine src_en ?_ | with_reducible refine src_rv ?_ | with_reducible refine src_two ?_ | with_reducible refine ift ?_ | with_reducible refine iff_ ?_ | with_reducible refine ifnt ?_ | with_reducible refine ifnf ?_ | ((with_reducible apply v_var); exact rfl) | ((with_reducible apply s_add); exact rfl) | ((with_reducible apply s_sub); exact rfl) | ((with_reducible apply x_tup); exact rfl) | ((with_reducible apply x_cl); exact rfl) | ((with_reducible apply of_isi); exact rfl) | ((with_reducible apply of_tru); exact rfl) | ((with_reducible apply of_tn); exact rfl) | ((with_reducible apply src_tp); exact rfl) | ((with_reducible apply ln); exact rfl) | ((with_reducible apply c_eqT); focus (first | exact gd_pL _ | exact gd_tW _ | exact gd_n _ | (simp only [gd_tup, gd_cl, gd_cln, gds_cons, gds_nil, gd_pL, gd_tW, gd_n, gd_int, gd_bl, gd_non, gd_str, Bool.and_true, Bool.true_and, Bool.and_self]; done) | (simp only [gd_tup, gd_cl, gd_cln, gds_cons, gds_nil, gd_pL, gd_tW, gd_n, gd_int, gd_bl, gd_non, gd_str, Bool.and_true, Bool.true_and, Bool.and_self]; kernel_rfl) | kernel_rfl)) | ((with_reducible apply c_neT); focus (first | exact gd_pL _ | exact gd_tW _ | exact gd_n _ | (simp only [gd_tup, gd_cl, gd_cln, gds_cons, gds_nil, gd_pL, gd_tW, gd_n, gd_int, gd_bl, gd_non, gd_str, Bool.and_true, Bool.true_and, Bool.and_self]; done) | (simp only [gd_tup, gd_cl, gd_cln, gds_cons, gds_nil, gd_pL, gd_tW, gd_n, gd_int, gd_bl, gd_non, gd_str, Bool.and_true, Bool.true_and, Bool.and_self]; kernel_rfl) | kernel_rfl)) | with_reducible refine c_eqn ?_ | with_reducible refine c_nen ?_ | with_reducible refine c_eqp ?_ | with_reducible refine c_nep ?_ | with_reducible refine c_eqtt ?_ | with_reducible refine c_nett ?_ | with_reducible refine c_eqnil ?_ | with_reducible refine c_nenil ?_ | ((with_reducible apply v_con); rw [gpc]; assumption) | with_reducible refine s_set ?_ | ((with_reducible apply v_fref); decide; rw [gpd]; rfl)))
section
variable {α : Type} {f : W → (W → Nat → Prop) → Prop → Prop} {Q : KQ}
theorem comp_fl (enc : α → W) (F : α → W) : ∀ (as : List α) (acc : List W) (t : Nat), (∀ x ∈ as, flat (F x) = true) → (∀ x ∈ as, ∀ (y : W → Nat → Prop) (n : Prop), (∀ t, y (F x) t) → f (enc x) y n) → acc.length + as.length ≤ sizeLine → t = 2 → Q (.cl (acc ++ as.map F)) 2 → compP f Q (as.map enc) acc t
  | [], acc, t, _, _, _, ht, q => by
    rw [List.map_nil]
    show Q (.cl acc) (if t = 2 then 2 else 1)
    rw [if_pos ht]
    simpa using q
  | x :: xs, acc, t, hf, h, hl, ht, q => by
    rw [List.map_cons]
    unfold compP
    rw [List.length_cons] at hl
    refine h x List.mem_cons_self _ _ fun u => ⟨by omega, ?_⟩
    refine comp_fl enc F xs (acc ++ [F x]) _ (fun y hy => hf y (List.mem_cons_of_mem _ hy)) (fun y hy => h y (List.mem_cons_of_mem _ hy)) (by rw [List.length_append, List.length_singleton]; omega) ?_ (by simpa using q)
    unfold mn
    rw [if_pos (hf x List.mem_cons_self)]
    exact ht
theorem comp_flat (enc : α → W) (F : α → W) (as : List α) (hf : ∀ x ∈ as, flat (F x) = true) (hl : as.length ≤ sizeLine) (h : ∀ x ∈ as, ∀ (y : W → Nat → Prop) (n : Prop), (∀ t, y (F x) t) → f (enc x) y n) (q : Q (.cl (as.map F)) 2) : compP f Q (as.map enc) [] 2 :=
  comp_fl enc F as [] 2 hf h (by simpa using hl) rfl q
end
theorem for_on {α : Type} (enc : α → W) (as : List α) {b : W → Sl → Own → (FlP → Prop) → Prop} {Q : FlP → Prop} {e : Sl} {o : Own} (I : Nat → Sl → Own → Prop) (h0 : I 0 e o)
    (step : ∀ (i : Nat) (hi : i < as.length) (e : Sl) (o : Own) (K : Sl → Own → Prop), I i e o → (∀ e' o', I (i + 1) e' o' → K e' o') → b (enc as[i]) e o (lpP K Q)) (fin : ∀ e o, I as.length e o → Q (.nx e o)) : forP b Q (as.map enc) e o := by
  refine for_ind I (as.map enc) 0 e o h0 (fun i hi e o K h1 h2 => ?_) fun e o h => fin e o (by simpa using h)
  rw [List.getElem_map]
  rw [List.length_map] at hi
  rw [Nat.zero_add] at h1 h2
  exact step i hi e o K h1 h2
theorem rg_range (lo : Int) : ∀ (n i : Nat), rgP lo 1 i n = (List.range' i n).map fun j : Nat => W.int (lo + (j : Int))
  | 0, _ => rfl
  | n + 1, i => by
    rw [List.range'_succ, List.map_cons, ← rg_range lo n (i + 1)]
    show W.int (lo + (i : Nat) * 1) :: _ = _
    rw [Int.mul_one]
theorem rg_r1 (n : Nat) : rgP 0 1 0 n = (List.range n).map fun j : Nat => W.int (j : Int) := by
  have h := rg_range 0 n 0
  simp only [Int.zero_add] at h
  exact h.trans (congrArg (List.map fun j : Nat => W.int (j : Int)) List.range_eq_range'.symm)
theorem en_map {α : Type} (enc : α → W) : ∀ (as : List α) (i : Nat), enP i (as.map enc) = (as.zipIdx i).map fun p => W.tup [.int (p.2 : Nat), enc p.1]
  | [], _ => rfl
  | a :: as, i => by
    rw [List.map_cons, List.zipIdx_cons, List.map_cons, ← en_map enc as (i + 1)]
    rfl
theorem zip_map {α β : Type} (f : α → W) (g : β → W) : ∀ (as : List α) (bs : List β), List.zipWith (fun x y => W.tup [x, y]) (as.map f) (bs.map g) = (as.zip bs).map fun p => W.tup [f p.1, g p.2]
  | [], _ => by simp
  | _ :: _, [] => by simp
  | a :: as, b :: bs => by
    rw [List.map_cons, List.map_cons, List.zip_cons_cons, List.map_cons, ← zip_map f g as bs]
    rfl
theorem src_eq {n : Nat} (h : n ≤ 1000000) : srcP .rng1 [.int (n : Nat)] = some ((List.range n).map fun j : Nat => W.int (j : Int)) := by
  show (if lim62 (n : Int) then some (rgP 0 1 0 (n : Int).toNat) else none) = _
  rw [if_pos (lim_nat h), Int.toNat_natCast, rg_r1]
theorem src_range {n : Nat} {K : List W → Prop} (h : n ≤ 1000000) (q : K ((List.range n).map fun j : Nat => W.int (j : Int))) : ofO (srcP .rng1 [.int (n : Nat)]) K := by
  rw [src_eq h]
  exact q
theorem src_zip {α β : Type} {f : α → W} {g : β → W} {as : List α} {bs : List β} {K : List W → Prop} (q : K ((as.zip bs).map fun p => W.tup [f p.1, g p.2])) : ofO (srcP .zip [.cl (as.map f), .cl (bs.map g)]) K := by
  have h : srcP .zip [.cl (as.map f), .cl (bs.map g)] = some (List.zipWith (fun x y => W.tup [x, y]) (as.map f) (bs.map g)) := by rw [srcP]
  rw [h, zip_map f g as bs]
  exact q
theorem src_enu {α : Type} {f : α → W} {as : List α} {K : List W → Prop} (q : K ((as.zipIdx 0).map fun p => W.tup [.int (p.2 : Nat), f p.1])) : ofO (srcP .enu [.cl (as.map f)]) K := by
  have h : srcP .enu [.cl (as.map f)] = some (enP 0 (as.map f)) := by rw [srcP]
  rw [h, en_map f as 0]
  exact q
abbrev pL (p : List Rat) : W := .cl (p.map nW)
abbrev tW (t : List (List Rat)) : W := .cl (t.map pL)
theorem flats_n : ∀ p : List Rat, flats (p.map nW) = true
  | [] => rfl
  | _ :: p => by
    show (true && flats (p.map nW)) = true
    rw [flats_n p]; rfl
theorem at_map {α : Type} {f : α → W} {as : List α} {i : Nat} (h : i < as.length) : atW (as.map f) (i : Int) = some (f as[i]) := by
  unfold atW L2.ixN
  rw [if_pos (by omega), List.length_map, if_pos (by omega), Option.bind_some, Int.toNat_natCast, List.getElem?_map, List.getElem?_eq_getElem h]
  rfl
theorem x_map {α : Type} {f : α → W} {as : List α} {i : Nat} {Q : KQ} (h : i < as.length) (q : Q (f as[i]) 0) : ixP (.cl (as.map f)) (.int (i : Nat)) Q := x_cl (at_map h) q
section
variable {T : Str → Option Fi} {C : Str → Option W} {X : Str → Bool} {k n m u : Nat} {ts : List Nat} {Z : KZ} {Q : KQ}
end
end Pr

namespace Pr
open PySem Py Pl Pq
mutual
def weq : W → W → Bool
  | .int i, .int j => decide (i = j)
  | .int i, .bl b => decide (i = if b then 1 else 0)
  | .bl b, .int i => decide ((if b then 1 else 0) = i)
  | .bl a, .bl b => decide (a = b)
  | .str x, .str y => decide (x = y)
  | .non, .non => true
  | .tup xs, .tup ys => weqs xs ys
  | .cl xs, .cl ys => weqs xs ys
  | _, _ => false
def weqs : List W → List W → Bool
  | [], [] => true
  | x :: xs, y :: ys => weq x y && weqs xs ys
  | _, _ => false
end
mutual
def dOf : W → PyData
  | .int i => .int i
  | .bl b => .bool b
  | .str x => .str x
  | .tup ws => .tuple (dOfs ws)
  | .cl ws => .list (dOfs ws)
  | _ => .none
def dOfs : List W → List PyData
  | [] => []
  | w :: ws => dOf w :: dOfs ws
end
mutual
def gd : Nat → W → Bool
  | n + 1, .int _ => true
  | n + 1, .bl _ => true
  | n + 1, .non => true
  | n + 1, .str x => (PyData.str x).canLay0
  | n + 1, .tup ws => gds n ws
  | n + 1, .cl ws => gds n ws
  | _, _ => false
def gds : Nat → List W → Bool
  | _, [] => true
  | n, w :: ws => gd n w && gds n ws
end
mutual
theorem toD_gd : ∀ (w : W) (n : Nat), gd n w = true → toD n [] w = some (dOf w)
  | .int _, n + 1, _ => rfl
  | .bl _, n + 1, _ => rfl
  | .non, n + 1, _ => rfl
  | .str _, n + 1, _ => rfl
  | .tup ws, n + 1, h => by
    show (ws.mapM (toD n [])).map PyData.tuple = _
    rw [toDs_gd ws n h]; rfl
  | .cl ws, n + 1, h => by
    show (ws.mapM (toD n [])).map PyData.list = _
    rw [toDs_gd ws n h]; rfl
  | .loc _, n, h => by cases n <;> cases h
  | .fn _, n, h => by cases n <;> cases h
theorem toDs_gd : ∀ (ws : List W) (n : Nat), gds n ws = true → ws.mapM (toD n []) = some (dOfs ws)
  | [], _, _ => rfl
  | w :: ws, n, h => by
    have h : (gd n w && gds n ws) = true := h
    rw [Bool.and_eq_true] at h
    rw [List.mapM_cons, toD_gd w n h.1, toDs_gd ws n h.2]
    rfl
end
mutual
theorem lay_gd : ∀ (w : W) (n : Nat), gd n w = true → (dOf w).canLay0 = true
  | .int _, n + 1, _ => rfl
  | .bl _, n + 1, _ => rfl
  | .non, n + 1, _ => rfl
  | .str _, n + 1, h => h
  | .tup ws, n + 1, h => lays_gd ws n h
  | .cl ws, n + 1, h => lays_gd ws n h
  | .loc _, n, h => by cases n <;> cases h
  | .fn _, n, h => by cases n <;> cases h
theorem lays_gd : ∀ (ws : List W) (n : Nat), gds n ws = true → PyData.canLayAll0 (dOfs ws) = true
  | [], _, _ => rfl
  | w :: ws, n, h => by
    have h : (gd n w && gds n ws) = true := h
    rw [Bool.and_eq_true] at h
    show ((dOf w).canLay0 && PyData.canLayAll0 (dOfs ws)) = true
    rw [lay_gd w n h.1, lays_gd ws n h.2]; rfl
end
mutual
theorem eqv_gd : ∀ (a b : W) (n m : Nat), gd (n + 1) a = true → gd (m + 1) b = true → PyData.eqv (dOf a) (dOf b) = weq a b
  | .tup xs, .tup ys, n, m, h, h' => by
    show PyData.eqv (.tuple (dOfs xs)) (.tuple (dOfs ys)) = weqs xs ys
    rw [PyData.eqv]
    exact eqvs_gd xs ys n m h h'
  | .cl xs, .cl ys, n, m, h, h' => by
    show PyData.eqv (.list (dOfs xs)) (.list (dOfs ys)) = weqs xs ys
    rw [PyData.eqv]
    exact eqvs_gd xs ys n m h h'
  | .int i, b, n, m, h, h' => by cases b <;> first | rfl | cases h' | (simp only [dOf, PyData.eqv, weq]; rfl)
  | .bl i, b, n, m, h, h' => by cases b <;> first | rfl | cases h' | (simp only [dOf, PyData.eqv, weq]; rename_i c; cases i <;> cases c <;> rfl) | (simp only [dOf, PyData.eqv, weq]; rfl)
  | .str i, b, n, m, h, h' => by cases b <;> first | rfl | cases h' | (simp only [dOf, PyData.eqv, weq]; rfl)
  | .non, b, n, m, h, h' => by cases b <;> first | rfl | cases h'
  | .tup _, .int _, n, m, h, h' => rfl
  | .tup _, .bl _, n, m, h, h' => rfl
  | .tup _, .str _, n, m, h, h' => rfl
  | .tup _, .non, n, m, h, h' => rfl
  | .tup _, .cl _, n, m, h, h' => rfl
  | .cl _, .int _, n, m, h, h' => rfl
  | .cl _, .bl _, n, m, h, h' => rfl
  | .cl _, .str _, n, m, h, h' => rfl
  | .cl _, .non, n, m, h, h' => rfl
  | .cl _, .tup _, n, m, h, h' => rfl
  | .loc _, _, _, _, h, _ => by cases h
  | .fn _, _, _, _, h, _ => by cases h
  | .tup _, .loc _, _, _, _, h => by cases h
  | .tup _, .fn _, _, _, _, h => by cases h
  | .cl _, .loc _, _, _, _, h => by cases h
  | .cl _, .fn _, _, _, _, h => by cases h
theorem eqvs_gd : ∀ (as bs : List W) (n m : Nat), gds n as = true → gds m bs = true → PyData.eqvAll (dOfs as) (dOfs bs) = weqs as bs
  | [], [], _, _, _, _ => rfl
  | [], _ :: _, _, _, _, _ => rfl
  | _ :: _, [], _, _, _, _ => rfl
  | a :: as, b :: bs, n, m, h, h' => by
    have h : (gd n a && gds n as) = true := h
    have h' : (gd m b && gds m bs) = true := h'
    rw [Bool.and_eq_true] at h h'
    show PyData.eqvAll (dOf a :: dOfs as) (dOf b :: dOfs bs) = (weq a b && weqs as bs)
    cases n with
    | zero => exact absurd h.1 (by cases a <;> exact Bool.false_ne_true)
    | succ n =>
      cases m with
      | zero => exact absurd h'.1 (by cases b <;> exact Bool.false_ne_true)
      | succ m => rw [PyData.eqvAll, eqv_gd a b n m h.1 h'.1, eqvs_gd as bs (n + 1) (m + 1) h.2 h'.2]
end
theorem eqW_gd {a b : W} (ha : gd 16 a = true) (hb : gd 16 b = true) : eqW a b [] = some (weq a b) := by
  rw [eqW_data (toD_gd a 16 ha) (toD_gd b 16 hb) (lay_gd a 16 ha) (lay_gd b 16 hb), eqv_gd a b 15 15 ha hb]
theorem c_eqw {a b : W} {P : W → Prop} (ha : gd 16 a = true) (hb : gd 16 b = true) (q : P (.bl (weq a b))) : rQ (cop .eq a b []) P := c_eq (eqW_gd ha hb) q
theorem c_new {a b : W} {P : W → Prop} (ha : gd 16 a = true) (hb : gd 16 b = true) (q : P (.bl (!weq a b))) : rQ (cop .ne a b []) P := c_ne (eqW_gd ha hb) q
mutual
theorem weq_self : ∀ w : W, gd 1 w = true ∨ (∃ n, gd n w = true) → weq w w = true
  | .int _, _ => decide_eq_true rfl
  | .bl _, _ => decide_eq_true rfl
  | .non, _ => rfl
  | .str _, _ => decide_eq_true rfl
  | .tup ws, h => weqs_self ws (by
      rcases h with h | ⟨n, h⟩
      · exact ⟨0, h⟩
      · cases n with
        | zero => cases h
        | succ n => exact ⟨n, h⟩)
  | .cl ws, h => weqs_self ws (by
      rcases h with h | ⟨n, h⟩
      · exact ⟨0, h⟩
      · cases n with
        | zero => cases h
        | succ n => exact ⟨n, h⟩)
  | .fn _, h => by
    rcases h with h | ⟨n, h⟩
    · cases h
    · cases n <;> cases h
  | .loc _, h => by
    rcases h with h | ⟨n, h⟩
    · cases h
    · cases n <;> cases h
theorem weqs_self : ∀ ws : List W, (∃ n, gds n ws = true) → weqs ws ws = true
  | [], _ => rfl
  | w :: ws, ⟨n, h⟩ => by
    have h : (gd n w && gds n ws) = true := h
    rw [Bool.and_eq_true] at h
    show (weq w w && weqs ws ws) = true
    rw [weq_self w (.inr ⟨n, h.1⟩), weqs_self ws ⟨n, h.2⟩]; rfl
end
theorem gds_map {α : Type} {f : α → W} {n : Nat} (h : ∀ a, gd n (f a) = true) : ∀ as : List α, gds n (as.map f) = true
  | [] => rfl
  | a :: as => by
    show (gd n (f a) && gds n (as.map f)) = true
    rw [h a, gds_map h as]; rfl
theorem gd_n {n : Nat} (q : Rat) : gd (n + 2) (nW q) = true := rfl
theorem gd_pL {n : Nat} (p : List Rat) : gd (n + 3) (pL p) = true := gds_map gd_n p
theorem gd_tW {n : Nat} (t : List (List Rat)) : gd (n + 4) (tW t) = true := gds_map gd_pL t
theorem weqs_map {α : Type} [DecidableEq α] {f : α → W} (h : ∀ a b, weq (f a) (f b) = decide (a = b)) : ∀ as bs : List α, weqs (as.map f) (bs.map f) = decide (as = bs)
  | [], [] => by simp; rfl
  | [], _ :: _ => by simp; rfl
  | _ :: _, [] => by simp; rfl
  | a :: as, b :: bs => by
    show (weq (f a) (f b) && weqs (as.map f) (bs.map f)) = _
    rw [h a b, weqs_map h as bs]
    by_cases h1 : a = b <;> by_cases h2 : as = bs <;> simp [h1, h2]
theorem weq_n (p q : Rat) : weq (nW p) (nW q) = decide (p = q) := by
  show (decide (p.num = q.num) && (decide ((p.den : Int) = q.den) && true)) = _
  by_cases h : p = q
  · subst h; simp
  · by_cases h1 : p.num = q.num
    · have h2 : ¬ ((p.den : Int) = q.den) := fun z => h (Rat.ext h1 (by omega))
      simp [h, h2]
    · simp [h, h1]
theorem weq_pL (p q : List Rat) : weq (pL p) (pL q) = decide (p = q) := weqs_map weq_n p q
theorem weq_tW (p q : List (List Rat)) : weq (tW p) (tW q) = decide (p = q) := weqs_map weq_pL p q
theorem c_eqT {a : W} {P : W → Prop} (h : gd 16 a = true) (q : P (.bl true)) : rQ (cop .eq a a []) P := by
  refine c_eqw h h ?_
  rw [weq_self a (.inr ⟨16, h⟩)]
  exact q
theorem c_neT {a : W} {P : W → Prop} (h : gd 16 a = true) (q : P (.bl false)) : rQ (cop .ne a a []) P := by
  refine c_new h h ?_
  rw [weq_self a (.inr ⟨16, h⟩)]
  exact q
theorem gd_tup {n : Nat} {ws : List W} : gd (n + 1) (.tup ws) = gds n ws := rfl
theorem gd_cl {n : Nat} {w : W} {ws : List W} : gd (n + 1) (.cl (w :: ws)) = (gd n w && gds n ws) := rfl
theorem gd_cln {n : Nat} : gd (n + 1) (.cl []) = true := rfl
theorem gds_cons {n : Nat} {w : W} {ws : List W} : gds n (w :: ws) = (gd n w && gds n ws) := rfl
theorem gds_nil {n : Nat} : gds n [] = true := rfl
theorem gd_str {n : Nat} {x : Str} : gd (n + 1) (.str x) = (PyData.str x).canLay0 := rfl
theorem gd_int {n : Nat} {i : Int} : gd (n + 1) (.int i) = true := rfl
theorem gd_bl {n : Nat} {i : Bool} : gd (n + 1) (.bl i) = true := rfl
theorem gd_non {n : Nat} : gd (n + 1) .non = true := rfl
theorem c_eqn {p q : Rat} {P : W → Prop} (h : P (.bl (decide (p = q)))) : rQ (cop .eq (nW p) (nW q) []) P := c_eqw (gd_n _) (gd_n _) (by rw [weq_n]; exact h)
theorem c_nen {p q : Rat} {P : W → Prop} (h : P (.bl (!decide (p = q)))) : rQ (cop .ne (nW p) (nW q) []) P := c_new (gd_n _) (gd_n _) (by rw [weq_n]; exact h)
theorem c_eqp {p q : List Rat} {P : W → Prop} (h : P (.bl (decide (p = q)))) : rQ (cop .eq (pL p) (pL q) []) P := c_eqw (gd_pL _) (gd_pL _) (by rw [weq_pL]; exact h)
theorem c_nep {p q : List Rat} {P : W → Prop} (h : P (.bl (!decide (p = q)))) : rQ (cop .ne (pL p) (pL q) []) P := c_new (gd_pL _) (gd_pL _) (by rw [weq_pL]; exact h)
theorem c_eqtt {p q : List (List Rat)} {P : W → Prop} (h : P (.bl (decide (p = q)))) : rQ (cop .eq (tW p) (tW q) []) P := c_eqw (gd_tW _) (gd_tW _) (by rw [weq_tW]; exact h)
theorem c_nett {p q : List (List Rat)} {P : W → Prop} (h : P (.bl (!decide (p = q)))) : rQ (cop .ne (tW p) (tW q) []) P := c_new (gd_tW _) (gd_tW _) (by rw [weq_tW]; exact h)
theorem c_eqnil {p : List Rat} {P : W → Prop} (h : P (.bl (decide (p = [])))) : rQ (cop .eq (pL p) (.cl []) []) P := c_eqp (q := []) h
theorem c_nenil {p : List Rat} {P : W → Prop} (h : P (.bl (!decide (p = [])))) : rQ (cop .ne (pL p) (.cl []) []) P := c_nep (q := []) h
theorem _root_.Pl.Sz.pos {n : Nat} {q : Rat} (h : Sz n q) : 0 < n := by
  have h1 := h.den
  have h2 := q.den_pos
  cases n with
  | zero => rw [Nat.pow_zero] at h1; omega
  | succ n => omega
section
variable {n m : Nat} {p q : Rat}
theorem z_add (h : Sz n p) (h' : Sz m q) : Sz (n + m + 1) (p + q) := h.add h' h.pos
theorem z_sub (h : Sz n p) (h' : Sz m q) : Sz (n + m + 1) (p - q) := h.sub h' h.pos
theorem z_mul (h : Sz n p) (h' : Sz m q) : Sz (n + m) (p * q) := h.mul h' h.pos
end
structure Szs (n : Nat) (p : List Rat) : Prop where
  pos : 0 < n
  get : ∀ x ∈ p, Sz n x
structure Szt (n : Nat) (t : List (List Rat)) : Prop where
  pos : 0 < n
  get : ∀ r ∈ t, ∀ x ∈ r, Sz n x
theorem Szt.row {n : Nat} {t : List (List Rat)} (h : Szt n t) {r : List Rat} (hr : r ∈ t) : Szs n r := ⟨h.pos, h.get r hr⟩
theorem Szs.mono {n m : Nat} {p : List Rat} (h : Szs n p) (l : n ≤ m) : Szs m p := ⟨Nat.lt_of_lt_of_le h.pos l, fun x hx => (h.get x hx).mono l⟩
theorem Szt.mono {n m : Nat} {p : List (List Rat)} (h : Szt n p) (l : n ≤ m) : Szt m p := ⟨Nat.lt_of_lt_of_le h.pos l, fun r hr x hx => (h.get r hr x hx).mono l⟩
theorem Szs.map {α : Type} {n : Nat} (h0 : 0 < n) {f : α → Rat} {as : List α} (h : ∀ a ∈ as, Sz n (f a)) : Szs n (as.map f) := ⟨h0, fun x hx => by
  obtain ⟨a, ha, rfl⟩ := List.mem_map.mp hx
  exact h a ha⟩
theorem Szt.map {α : Type} {n : Nat} (h0 : 0 < n) {f : α → List Rat} {as : List α} (h : ∀ a ∈ as, Szs n (f a)) : Szt n (as.map f) := ⟨h0, fun x hx => by
  obtain ⟨a, ha, rfl⟩ := List.mem_map.mp hx
  exact (h a ha).get⟩
theorem zip_l {α β : Type} {as : List α} {bs : List β} {x : α × β} (h : x ∈ as.zip bs) : x.1 ∈ as := (List.of_mem_zip (show (x.1, x.2) ∈ as.zip bs from h)).1
theorem zip_r {α β : Type} {as : List α} {bs : List β} {x : α × β} (h : x ∈ as.zip bs) : x.2 ∈ bs := (List.of_mem_zip (show (x.1, x.2) ∈ as.zip bs from h)).2
def AdN (g : PG) (c : Str) : Prop := ∀ {n m : Nat} {p q : Rat} {ts : List Nat} {Q : KQ} {Z : KZ}, Sz n p → Sz m q → n + m ≤ 60000000 → (∀ t, Q (nW (p + q)) t) → g.call c [nW p, nW q] ts Q Z
def SuN (g : PG) (c : Str) : Prop := ∀ {n m : Nat} {p q : Rat} {ts : List Nat} {Q : KQ} {Z : KZ}, Sz n p → Sz m q → n + m ≤ 60000000 → (∀ t, Q (nW (p - q)) t) → g.call c [nW p, nW q] ts Q Z
def MuN (g : PG) (c : Str) : Prop := ∀ {n m : Nat} {p q : Rat} {ts : List Nat} {Q : KQ} {Z : KZ}, Sz n p → Sz m q → n + m ≤ 60000000 → (∀ t, Q (nW (p * q)) t) → g.call c [nW p, nW q] ts Q Z
def OpD (g : PG) (c : Str) : Prop := ∀ {n m : Nat} {p q : Rat} {ts : List Nat} {Q : KQ} {Z : KZ}, Sz n p → Sz m q → n + m ≤ 60000000 → q ≠ 0 → (∀ t, Q (nW (p / q)) t) → g.call c [nW p, nW q] ts Q Z
def SgN (g : PG) (c : Str) : Prop := ∀ {q : Rat} {ts : List Nat} {Q : KQ} {Z : KZ}, (∀ t, Q (.int q.num.sign) t) → g.call c [nW q] ts Q Z
def BeN (g : PG) (c : Str) : Prop := ∀ {n m : Nat} {p q : Rat} {ts : List Nat} {Q : KQ} {Z : KZ}, Sz n p → Sz m q → n + m ≤ 60000000 → (∀ t, Q (.bl (decide (p < q))) t) → g.call c [nW p, nW q] ts Q Z
def LoN (g : PG) (c : Str) : Prop := ∀ {n m : Nat} {a b : Int} {ts : List Nat} {Q : KQ} {Z : KZ}, Bt n a → Bt m b → n + m ≤ 1000000000 → b ≠ 0 → (∀ t, Q (nW (Rat.divInt a b)) t) → g.call c [.int a, .int b] ts Q Z
def KdN (g : PG) (c : Str) : Prop := ∀ {u : Nat} {ts : List Nat} {Q : KQ} {Z : KZ}, (∀ (i : Int) t, (i = 0 ∨ i = 1 ∨ i = 2) → Q (.int i) t) → g.call c [.loc u] ts Q Z
def NuN (g : PG) (c : Str) : Prop := ∀ {u : Nat} {i : Int} {ts : List Nat} {Q : KQ} {Z : KZ}, (∀ r t, Sz 40 r → Q (nW r) t) → g.call c [.loc u, .int i] ts Q Z
def OtN (g : PG) (c : Str) : Prop := ∀ {u : Nat} {i : Int} {ts : List Nat} {Q : KQ} {Z : KZ}, (∀ r t, r ≠ 0 → Sz 40 r → Q (nW r) t) → g.call c [.loc u, .int i] ts Q Z
def IsN (g : PG) (c : Str) : Prop := ∀ {n : Nat} {q : Rat} {ts : List Nat} {Q : KQ} {Z : KZ}, Sz n q → n ≤ 60000000 → (∀ t, Q (.bl true) t) → g.call c [nW q] ts Q Z
def WhN (g : PG) (c : Str) : Prop := ∀ {i : Int} {ts : List Nat} {Q : KQ} {Z : KZ}, (∀ t, Q (.bl true) t) → g.call c [.int i] ts Q Z
section
variable {T : Str → Option Fi} {C : Str → Option W} {X : Str → Bool} {k : Nat}
theorem o_plus (F : Frac T) (h : Has T "plus" 2 2 bd_plus) : AdN (gamP T C X (k + 3)) "plus" := fun hp hq hn w => p_plus F h hp hq hp.pos hq.pos hn w
theorem o_times (F : Frac T) (h : Has T "times" 2 2 bd_times) : MuN (gamP T C X (k + 3)) "times" := fun hp hq hn w => p_times F h hp hq hp.pos hq.pos hn w
theorem o_lplus (L : Has T "_law_low" 2 4 bd__law_low) (h : Has T "_law_plus" 2 2 bd__law_plus) : AdN (gamP T C X (k + 2)) "_law_plus" := fun hp hq hn w => p_lplus L h hp hq hp.pos hq.pos hn w
theorem o_ltimes (L : Has T "_law_low" 2 4 bd__law_low) (h : Has T "_law_times" 2 2 bd__law_times) : MuN (gamP T C X (k + 2)) "_law_times" := fun hp hq hn w => p_ltimes L h hp hq hp.pos hq.pos hn w
theorem o_kind (h : Has T "_law_kind" 1 1 bd__law_kind) : KdN (gamP T C X (k + 2)) "_law_kind" := fun w => p_kind h w
theorem o_number (L : Has T "_law_low" 2 4 bd__law_low) (h : Has T "_law_number" 2 3 bd__law_number) : NuN (gamP T C X (k + 2)) "_law_number" := fun w => p_number L h w
theorem o_other (L : Has T "_law_low" 2 4 bd__law_low) (h' : Has T "_law_number" 2 3 bd__law_number) (h : Has T "_law_other" 2 3 bd__law_other) : OtN (gamP T C X (k + 3)) "_law_other" := fun w => p_other L h' h w
theorem o_isnum (L : Has T "_law_low" 2 4 bd__law_low) (Wh : Has T "_law_whole" 1 1 bd__law_whole) (h : Has T "_law_is_number" 1 1 bd__law_is_number) : IsN (gamP T C X (k + 2)) "_law_is_number" := fun hr hn w => p_isnum L Wh h hr hn w
end
theorem sl_ok {n : Nat} (h : n ≤ 1000000) : n ≤ sizeLine := Nat.le_trans h (by decide)
theorem sl_ok2 {n : Nat} (h : n ≤ 4000000) : n ≤ sizeLine := Nat.le_trans h (by decide)
section
variable {α : Type} {f : W → (W → Nat → Prop) → Prop → Prop} {Q : KQ}
theorem comp_num (enc : α → W) (F : α → Rat) (as : List α) (hl : as.length ≤ 1000000) (h : ∀ x ∈ as, ∀ (y : W → Nat → Prop) (n : Prop), (∀ t, y (nW (F x)) t) → f (enc x) y n) (q : Q (pL (as.map F)) 2) : compP f Q (as.map enc) [] 2 :=
  comp_flat enc (fun a => nW (F a)) as (fun _ _ => rfl) (sl_ok hl) h (by rw [show as.map (fun a => nW (F a)) = (as.map F).map nW from by rw [List.map_map]; rfl]; exact q)
theorem comp_bool (enc : α → W) (F : α → Bool) (as : List α) (hl : as.length ≤ 1000000) (h : ∀ x ∈ as, ∀ (y : W → Nat → Prop) (n : Prop), (∀ t, y (.bl (F x)) t) → f (enc x) y n) (q : Q (.cl ((as.map F).map W.bl)) 2) : compP f Q (as.map enc) [] 2 :=
  comp_flat enc (fun a => .bl (F a)) as (fun _ _ => rfl) (sl_ok hl) h (by rw [show as.map (fun a => W.bl (F a)) = (as.map F).map W.bl from by rw [List.map_map]; rfl]; exact q)
theorem comp_draw (enc : α → W) (A : W → Prop) (hA : ∀ w, A w → flat w = true) : ∀ (as : List α) (acc : List W), (∀ x ∈ as, ∀ (y : W → Nat → Prop) (n : Prop), (∀ w t, A w → y w t) → f (enc x) y n) → acc.length + as.length ≤ sizeLine → (∀ ws : List W, ws.length = as.length → (∀ w ∈ ws, A w) → Q (.cl (acc ++ ws)) 2) → compP f Q (as.map enc) acc 2
  | [], acc, _, _, q => by
    rw [List.map_nil]
    show Q (.cl acc) 2
    simpa using q [] rfl fun _ h => nomatch h
  | x :: xs, acc, h, hl, q => by
    rw [List.map_cons]
    unfold compP
    rw [List.length_cons] at hl
    refine h x List.mem_cons_self _ _ fun w t hw => ⟨by omega, ?_⟩
    have e : mn w t 2 = 2 := by unfold mn; rw [if_pos (hA w hw)]
    rw [e]
    refine comp_draw enc A hA xs (acc ++ [w]) (fun y hy => h y (List.mem_cons_of_mem _ hy)) (by rw [List.length_append, List.length_singleton]; omega) fun ws hl' hws => ?_
    rw [List.append_assoc]
    refine q (w :: ws) (by rw [List.length_cons, List.length_cons, hl']) fun v hv => ?_
    cases hv with
    | head => exact hw
    | tail _ z => exact hws v z
theorem unmap {β : Type} {A : β → Prop} {g : β → W} : ∀ ws : List W, (∀ w ∈ ws, ∃ b, A b ∧ w = g b) → ∃ bs : List β, bs.length = ws.length ∧ (∀ b ∈ bs, A b) ∧ ws = bs.map g
  | [], _ => ⟨[], rfl, fun _ h => (nomatch h), rfl⟩
  | w :: ws, h => by
    obtain ⟨b, hb, rfl⟩ := h w List.mem_cons_self
    obtain ⟨bs, h1, h2, rfl⟩ := unmap ws fun v hv => h v (List.mem_cons_of_mem _ hv)
    refine ⟨b :: bs, by rw [List.length_cons, List.length_cons, h1], fun c hc => ?_, rfl⟩
    cases hc with
    | head => exact hb
    | tail _ z => exact h2 c z
theorem comp_nums (enc : α → W) (A : Rat → Prop) (as : List α) (hl : as.length ≤ 1000000) (h : ∀ x ∈ as, ∀ (y : W → Nat → Prop) (n : Prop), (∀ r t, A r → y (nW r) t) → f (enc x) y n) (q : ∀ p : List Rat, p.length = as.length → (∀ r ∈ p, A r) → Q (pL p) 2) : compP f Q (as.map enc) [] 2 :=
  comp_draw enc (fun w => ∃ r, A r ∧ w = nW r) (fun w hw => by obtain ⟨r, _, rfl⟩ := hw; rfl) as [] (fun x hx y n hy => h x hx y n fun r t hr => hy _ t ⟨r, hr, rfl⟩) (by rw [List.length_nil, Nat.zero_add]; exact sl_ok hl) fun ws hl' hws => by
    obtain ⟨p, h1, h2, rfl⟩ := unmap ws hws
    rw [List.nil_append]
    exact q p (h1.trans hl') h2
end
theorem tgl_n (p : List Rat) : tgl (p.map nW) = 2 := by unfold tgl; rw [flats_n]; rfl
end Pr

--PR
namespace Pr
open PySem Py Pl Pq
theorem src_rvm {α : Type} {f : α → W} {as : List α} {K : List W → Prop} (q : K (as.reverse.map f)) : ofO (srcP .rev [.cl (as.map f)]) K := by
  have h : srcP .rev [.cl (as.map f)] = some (as.map f).reverse := by rw [srcP]
  rw [h, ← List.map_reverse]
  exact q
theorem i_listn {p : List Rat} {Q : KQ} (q : Q (pL p) 2) : biP .list [.cl (p.map nW)] Q := i_list (by rw [tgl_n]; exact q)
local macro_rules | `(tactic| decreasing_trivial_pre_omega) => `(tactic| (first | ((with_reducible apply s_retv); (focus rfl); (focus rfl)) | with_reducible refine s_ite ?_ | with_reducible refine s_ret ?_ | with_reducible refine s_retn ?_ | with_reducible refine s_brk ?_ | with_reducible refine s_ct ?_ | with_reducible refine s_pass ?_ | with_reducible refine s_call ?_ | with_reducible refine s_done ?_ | with_reducible refine s_par2 ?_ | with_reducible refine s_par3 ?_ | with_reducible refine n_nx ?_ | with_reducible refine n_rt ?_ | with_reducible refine n_bk ?_ | with_reducible refine n_ct ?_ | with_reducible refine lp_nx ?_ | with_reducible refine lp_ct ?_ | with_reducible refine lp_bk ?_ | with_reducible refine lp_rt ?_ | with_reducible refine f_nx ?_ | with_reducible refine f_rt ?_ | with_reducible refine k_ret ?_ | with_reducible refine k_exp ?_ | with_reducible refine k_set ?_ | with_reducible refine v_int ?_ | with_reducible refine v_bl ?_ | with_reducible refine v_non ?_ | with_reducible refine v_str ?_ | with_reducible refine v_bin ?_ | with_reducible refine v_neg ?_ | with_reducible refine v_no ?_ | with_reducible refine v_cmp ?_ | with_reducible refine v_chain ?_ | with_reducible refine v_and ?_ | with_reducible refine v_or ?_ | with_reducible refine v_one ?_ | with_reducible refine v_ite ?_ | with_reducible refine v_tup ?_ | with_reducible refine v_lst ?_ | with_reducible refine v_ix ?_ | with_reducible refine v_sl ?_ | with_reducible refine v_rv ?_ | with_reducible refine v_call ?_ | with_reducible refine v_bi ?_ | with_reducible refine v_isi ?_ | with_reducible refine v_comp ?_ | with_reducible refine a_nil ?_ | with_reducible refine a_cons ?_ | with_reducible refine y_nil ?_ | with_reducible refine y_cons ?_ | with_reducible refine o_nil ?_ | with_reducible refine o_one ?_ | with_reducible refine t_and ?_ | with_reducible refine t_or ?_ | with_reducible refine t_no ?_ | with_reducible refine t_one ?_ | with_reducible refine t_nil ?_ | with_reducible refine t_cmp ?_ | with_reducible refine t_chain ?_ | with_reducible refine t_call ?_ | with_reducible refine t_bi ?_ | with_reducible refine t_isi ?_ | with_reducible refine b_add ?_ | with_reducible refine b_sub ?_ | with_reducible refine b_adb ?_ | with_reducible refine c_lt ?_ | with_reducible refine c_le ?_ | with_reducible refine c_gt ?_ | with_reducible refine c_ge ?_ | with_reducible refine c_eqi ?_ | with_reducible refine c_nei ?_ | with_reducible refine c_eqs ?_ | with_reducible refine c_nes ?_ | with_reducible refine c_isn ?_ | with_reducible refine c_non ?_ | with_reducible refine c_ist ?_ | with_reducible refine c_not ?_ | with_reducible refine c_isi ?_ | with_reducible refine c_noi ?_ | with_reducible refine c_isc ?_ | with_reducible refine c_noc ?_ | with_reducible refine c_isb ?_ | with_reducible refine c_nob ?_ | with_reducible refine c_iss ?_ | with_reducible refine c_nos ?_ | with_reducible refine ifr ?_ | with_reducible refine ifnr ?_ | with_reducible refine c_isB ?_ | with_reducible refine c_notB ?_ | with_reducible refine i_int ?_ | with_reducible refine i_bl ?_ | with_reducible refine i_abs ?_ | with_reducible refine i_max ?_ | with_reducible refine i_min ?_ | with_reducible refine i_inti ?_ | with_reducible refine i_intb ?_ | with_reducible refine i_len ?_ | with_reducible refine i_lent ?_ | with_reducible refine i_listn ?_ | with_reducible refine i_list ?_ | with_reducible refine i_tuple ?_ | with_reducible refine rv_cl ?_ | with_reducible refine l_cl ?_ | with_reducible refine x_n0 ?_ | with_reducible refine x_n1 ?_ | with_reducible refine b_p6 ?_ | with_reducible refine s_for0 ?_ | with_reducible refine src_cl ?_ | with_reducible refine src_zip ?_ | with_reducible refine src_enu ?_ | with_reducible refine src_rvm ?_ | with_reducible refine src_zp ?_ | with_reducible refine src_en ?_ | with_reducible refine src_rv ?_ | with_reducible refine src_two ?_ | with_reducible refine ift ?_ | with_reducible refine iff_ ?_ | with_reducible refine ifnt ?_ | with_reducible refine ifnf ?_ | ((with_reducible apply v_var); exact rfl) | ((with_reducible apply s_add); exact rfl) | ((with_reducible apply s_sub); exact rfl) | ((with_reducible apply x_tup); exact rfl) | ((with_reducible apply x_cl); exact rfl) | ((with_reducible apply of_isi); exact rfl) | ((with_reducible apply of_tru); exact rfl) | ((with_reducible apply of_tn); exact rfl) | ((with_reducible apply src_tp); exact rfl) | ((with_reducible apply ln); exact rfl) | ((with_reducible apply c_eqT); focus (first | exact gd_pL _ | exact gd_tW _ | exact gd_n _ | (simp only [gd_tup, gd_cl, gd_cln, gds_cons, gds_nil, gd_pL, gd_tW, gd_n, gd_int, gd_bl, gd_non, gd_str, Bool.and_true, Bool.true_and, Bool.and_self]; done) | (simp only [gd_tup, gd_cl, gd_cln, gds_cons, gds_nil, gd_pL, gd_tW, gd_n, gd_int, gd_bl, gd_non, gd_str, Bool.and_true, Bool.true_and, Bool.and_self]; kernel_rfl) | kernel_rfl)) | ((with_reducible apply c_neT); focus (first | exact gd_pL _ | exact gd_tW _ | exact gd_n _ | (simp only [gd_tup, gd_cl, gd_cln, gds_cons, gds_nil, gd_pL, gd_tW, gd_n, gd_int, gd_bl, gd_non, gd_str, Bool.and_true, Bool.true_and, Bool.and_self]; done) | (simp only [gd_tup, gd_cl, gd_cln, gds_cons, gds_nil, gd_pL, gd_tW, gd_n, gd_int, gd_bl, gd_non, gd_str, Bool.and_true, Bool.true_and, Bool.and_self]; kernel_rfl) | kernel_rfl)) | with_reducible refine c_eqn ?_ | with_reducible refine c_nen ?_ | with_reducible refine c_eqp ?_ | with_reducible refine c_nep ?_ | with_reducible refine c_eqtt ?_ | with_reducible refine c_nett ?_ | with_reducible refine c_eqnil ?_ | with_reducible refine c_nenil ?_ | ((with_reducible apply v_con); rw [gpc]; assumption) | with_reducible refine s_set ?_ | ((with_reducible apply v_fref); decide; rw [gpd]; rfl)))
def dotF (l : List (Rat × Rat)) : Rat := l.foldl (fun a x => a + x.1 * x.2) 0
def dot (p q : List Rat) : Rat := dotF (p.zip q)
def radd (p q : List Rat) : List Rat := (p.zip q).map fun x => x.1 + x.2
def roft (a : Rat) (p : List Rat) : List Rat := p.map fun x => a * x
def rless (p : List Rat) (a : Rat) (q : List Rat) : List Rat := (p.zip q).map fun x => x.1 - a * x.2
def cols (t : List (List Rat)) : List (List Rat) := (List.range t.length).map fun j => t.map fun r => r.getD j 0
def tadd (a b : List (List Rat)) : List (List Rat) := (a.zip b).map fun x => radd x.1 x.2
def toft (a : Rat) (t : List (List Rat)) : List (List Rat) := t.map fun r => roft a r
def tmul (a b : List (List Rat)) : List (List Rat) := a.map fun r => (cols b).map fun c => dot r c
def tunit (n : Nat) : List (List Rat) := (List.range n).map fun i => (List.range n).map fun j => if i = j then 1 else 0
def tcol (t : List (List Rat)) (c : List Rat) : List Rat := t.map fun r => dot r c
structure Sq (n : Nat) (t : List (List Rat)) : Prop where
  len : t.length = n
  row : ∀ r ∈ t, r.length = n
theorem getD_sz {n j : Nat} {p : List Rat} (hp : Szs n p) : Sz n (p.getD j 0) := by
  rw [List.getD_eq_getElem?_getD]
  by_cases h : j < p.length
  · rw [List.getElem?_eq_getElem h]
    exact hp.get _ (List.getElem_mem h)
  · rw [List.getElem?_eq_none (by omega)]
    exact Sz.zero.mono hp.pos
theorem roft_sz {n m : Nat} {a : Rat} {p : List Rat} (ha : Sz m a) (hp : Szs n p) : Szs (m + n) (roft a p) := Szs.map (by have := hp.pos; omega) fun x hx => z_mul ha (hp.get x hx)
theorem Sq.cols {n : Nat} {t : List (List Rat)} (h : Sq n t) : Sq n (cols t) := ⟨by unfold Pr.cols; rw [List.length_map, List.length_range, h.len], fun r hr => by
  obtain ⟨j, _, rfl⟩ := List.mem_map.mp hr
  rw [List.length_map, h.len]⟩
theorem Sq.tmul {n : Nat} {a b : List (List Rat)} (ha : Sq n a) (hb : Sq n b) : Sq n (tmul a b) := ⟨by unfold Pr.tmul; rw [List.length_map, ha.len], fun r hr => by
  obtain ⟨x, _, rfl⟩ := List.mem_map.mp hr
  rw [List.length_map, hb.cols.len]⟩
theorem Sq.tadd {n : Nat} {a b : List (List Rat)} (ha : Sq n a) (hb : Sq n b) : Sq n (tadd a b) := ⟨by unfold Pr.tadd; rw [List.length_map, List.length_zip, ha.len, hb.len, Nat.min_self], fun r hr => by
  obtain ⟨x, hx, rfl⟩ := List.mem_map.mp hr
  unfold radd
  rw [List.length_map, List.length_zip, ha.row _ (zip_l hx), hb.row _ (zip_r hx), Nat.min_self]⟩
theorem Sq.toft {n : Nat} {a : Rat} {t : List (List Rat)} (h : Sq n t) : Sq n (toft a t) := ⟨by unfold Pr.toft; rw [List.length_map, h.len], fun r hr => by
  obtain ⟨x, hx, rfl⟩ := List.mem_map.mp hr
  unfold roft
  rw [List.length_map, h.row _ hx]⟩
theorem Sq.tunit (n : Nat) : Sq n (tunit n) := ⟨by unfold Pr.tunit; rw [List.length_map, List.length_range], fun r hr => by
  obtain ⟨x, hx, rfl⟩ := List.mem_map.mp hr
  rw [List.length_map, List.length_range]⟩
theorem Sq.le {n : Nat} {t : List (List Rat)} (h : Sq n t) : ∀ r ∈ t, r.length ≤ n := fun r hr => Nat.le_of_eq (h.row r hr)
theorem x_pL {p : List Rat} {i : Nat} {Q : KQ} (h : i < p.length) (q : Q (nW (p.getD i 0)) 0) : ixP (pL p) (.int (i : Nat)) Q := by
  rw [List.getD_eq_getElem?_getD, List.getElem?_eq_getElem h] at q
  exact x_map h q
def DotC (g : PG) (c : Str) : Prop := ∀ {n m : Nat} (l : Nat) {p q : List Rat} {ts : List Nat} {Q : KQ} {Z : KZ}, Szs n p → Szs m q → p.length ≤ l → 1 + (l + 1) * (n + m + 1) ≤ 60000000 → (∀ t, Q (nW (dot p q)) t) → g.call c [pL p, pL q] ts Q Z
def ColC (g : PG) (c : Str) : Prop := ∀ {t : List (List Rat)} {ts : List Nat} {Q : KQ} {Z : KZ}, t.length ≤ 1000000 → (∀ r ∈ t, t.length ≤ r.length) → Q (tW (cols t)) 2 → g.call c [tW t] ts Q Z
def LpC (g : PG) (c : Str) : Prop := ∀ {us ws : List W} {ts : List Nat} {Q : KQ} {Z : KZ}, (us.length = ws.length → Q .non 2) → (us.length ≠ ws.length → Z "NoPair") → g.call c [.cl us, .cl ws] ts Q Z
def RaC (g : PG) (c : Str) : Prop := ∀ {n m : Nat} {p q : List Rat} {ts : List Nat} {Q : KQ} {Z : KZ}, Szs n p → Szs m q → n + m ≤ 60000000 → p.length ≤ 1000000 → Q (pL (radd p q)) 2 → g.call c [pL p, pL q] ts Q Z
def RoC (g : PG) (c : Str) : Prop := ∀ {n m : Nat} {a : Rat} {p : List Rat} {ts : List Nat} {Q : KQ} {Z : KZ}, Sz n a → Szs m p → n + m ≤ 60000000 → p.length ≤ 1000000 → Q (pL (roft a p)) 2 → g.call c [nW a, pL p] ts Q Z
def RlC (g : PG) (c : Str) : Prop := ∀ {n l m : Nat} {p : List Rat} {a : Rat} {q : List Rat} {ts : List Nat} {Q : KQ} {Z : KZ}, Szs n p → Sz l a → Szs m q → n + (l + m) ≤ 60000000 → p.length ≤ 1000000 → Q (pL (rless p a q)) 2 → g.call c [pL p, nW a, pL q] ts Q Z
def UnC (g : PG) (c : Str) : Prop := ∀ {n : Nat} {ts : List Nat} {Q : KQ} {Z : KZ}, n ≤ 1000000 → Q (tW (tunit n)) 2 → g.call c [.int (n : Nat)] ts Q Z
def TaC (g : PG) (c : Str) : Prop := ∀ {n m : Nat} {a b : List (List Rat)} {ts : List Nat} {Q : KQ} {Z : KZ}, Szt n a → Szt m b → n + m ≤ 60000000 → a.length ≤ 1000000 → (∀ r ∈ a, r.length ≤ 1000000) → a.length = b.length → Q (tW (tadd a b)) 2 → g.call c [tW a, tW b] ts Q Z
def TbC (g : PG) (c : Str) : Prop := ∀ {a b : List (List Rat)} {ts : List Nat} {Q : KQ} {Z : KZ}, a.length ≠ b.length → Z "NoPair" → g.call c [tW a, tW b] ts Q Z
def ToC (g : PG) (c : Str) : Prop := ∀ {n m : Nat} {a : Rat} {t : List (List Rat)} {ts : List Nat} {Q : KQ} {Z : KZ}, Sz n a → Szt m t → n + m ≤ 60000000 → t.length ≤ 1000000 → (∀ r ∈ t, r.length ≤ 1000000) → Q (tW (toft a t)) 2 → g.call c [nW a, tW t] ts Q Z
def TmC (g : PG) (c : Str) : Prop := ∀ {n m : Nat} (l : Nat) {a b : List (List Rat)} {ts : List Nat} {Q : KQ} {Z : KZ}, Szt n a → Szt m b → (∀ r ∈ a, r.length ≤ l) → 1 + (l + 1) * (n + m + 1) ≤ 60000000 → a.length ≤ 1000000 → a.length = b.length → (∀ r ∈ b, b.length ≤ r.length) → Q (tW (tmul a b)) 2 → g.call c [tW a, tW b] ts Q Z
def TcC (g : PG) (c : Str) : Prop := ∀ {n m : Nat} (l : Nat) {t : List (List Rat)} {v : List Rat} {ts : List Nat} {Q : KQ} {Z : KZ}, Szt n t → Szs m v → (∀ r ∈ t, r.length ≤ l) → 1 + (l + 1) * (n + m + 1) ≤ 60000000 → t.length ≤ 1000000 → t.length = v.length → Q (pL (tcol t v)) 2 → g.call c [tW t, pL v] ts Q Z
def TdC (g : PG) (c : Str) : Prop := ∀ {t : List (List Rat)} {v : List Rat} {ts : List Nat} {Q : KQ} {Z : KZ}, t.length ≠ v.length → Z "NoPair" → g.call c [tW t, pL v] ts Q Z
def TwC (g : PG) (c : Str) : Prop := ∀ {n m : Nat} (l : Nat) {t : List (List Rat)} {v : List Rat} {ts : List Nat} {Q : KQ} {Z : KZ}, Szt n t → Szs m v → (∀ r ∈ t, r.length ≤ l) → t.length ≤ l → 1 + (l + 1) * (n + m + 1) ≤ 60000000 → 1 + (l + 1) * (1 + l * (n + m + 1) + m + 1) ≤ 60000000 → t.length ≤ 1000000 → t.length = v.length → (∀ ts, Q (nW (dot (tcol t v) v)) ts) → g.call c [tW t, pL v] ts Q Z
section
variable {T : Str → Option Fi} {C : Str → Option W} {X : Str → Bool} {k : Nat} {x : Str}
abbrev NoDr (x : Str) : Prop := x ≠ "_law_draw" ∧ x ≠ "_law_urn"
theorem bools_map : ∀ bs : List Bool, bools (bs.map W.bl) = some bs
  | [] => rfl
  | b :: bs => by
    show (bools (bs.map W.bl)).map (b :: ·) = _
    rw [bools_map bs]; rfl
theorem i_allb {bs : List Bool} {Q : KQ} (q : Q (.bl (bs.all id)) 2) : biP .all [.cl (bs.map W.bl)] Q := i_all (bools_map bs) q
theorem all_true {α : Type} (as : List α) : ((as.map fun _ => true).all id) = true := by
  rw [List.all_map, List.all_eq_true]
  exact fun _ _ => rfl
def ItC (g : PG) (c : Str) : Prop := ∀ {n m : Nat} {t : List (List Rat)} {ts : List Nat} {Q : KQ} {Z : KZ}, Sq n t → Szt m t → m ≤ 60000000 → n ≤ 1000000 → (∀ t, Q (.bl true) t) → g.call c [tW t, .int (n : Nat)] ts Q Z
def DtC (g : PG) (c : Str) : Prop := ∀ {u n : Nat} {i : Int} {ts : List Nat} {Q : KQ} {Z : KZ}, n ≤ 1000000 → (∀ t, Sq n t → Szt 40 t → Q (tW t) 2) → g.call c [.loc u, .int i, .int (n : Nat)] ts Q Z
end
end Pr

--PR
namespace Pr
open PySem Py Pl Pq
local macro_rules | `(tactic| decreasing_trivial_pre_omega) => `(tactic| (first | ((with_reducible apply s_retv); (focus rfl); (focus rfl)) | with_reducible refine s_ite ?_ | with_reducible refine s_ret ?_ | with_reducible refine s_retn ?_ | with_reducible refine s_brk ?_ | with_reducible refine s_ct ?_ | with_reducible refine s_pass ?_ | with_reducible refine s_call ?_ | with_reducible refine s_done ?_ | with_reducible refine s_par2 ?_ | with_reducible refine s_par3 ?_ | with_reducible refine n_nx ?_ | with_reducible refine n_rt ?_ | with_reducible refine n_bk ?_ | with_reducible refine n_ct ?_ | with_reducible refine lp_nx ?_ | with_reducible refine lp_ct ?_ | with_reducible refine lp_bk ?_ | with_reducible refine lp_rt ?_ | with_reducible refine f_nx ?_ | with_reducible refine f_rt ?_ | with_reducible refine k_ret ?_ | with_reducible refine k_exp ?_ | with_reducible refine k_set ?_ | with_reducible refine v_int ?_ | with_reducible refine v_bl ?_ | with_reducible refine v_non ?_ | with_reducible refine v_str ?_ | with_reducible refine v_bin ?_ | with_reducible refine v_neg ?_ | with_reducible refine v_no ?_ | with_reducible refine v_cmp ?_ | with_reducible refine v_chain ?_ | with_reducible refine v_and ?_ | with_reducible refine v_or ?_ | with_reducible refine v_one ?_ | with_reducible refine v_ite ?_ | with_reducible refine v_tup ?_ | with_reducible refine v_lst ?_ | with_reducible refine v_ix ?_ | with_reducible refine v_sl ?_ | with_reducible refine v_rv ?_ | with_reducible refine v_call ?_ | with_reducible refine v_bi ?_ | with_reducible refine v_isi ?_ | with_reducible refine v_comp ?_ | with_reducible refine a_nil ?_ | with_reducible refine a_cons ?_ | with_reducible refine y_nil ?_ | with_reducible refine y_cons ?_ | with_reducible refine o_nil ?_ | with_reducible refine o_one ?_ | with_reducible refine t_and ?_ | with_reducible refine t_or ?_ | with_reducible refine t_no ?_ | with_reducible refine t_one ?_ | with_reducible refine t_nil ?_ | with_reducible refine t_cmp ?_ | with_reducible refine t_chain ?_ | with_reducible refine t_call ?_ | with_reducible refine t_bi ?_ | with_reducible refine t_isi ?_ | with_reducible refine b_add ?_ | with_reducible refine b_sub ?_ | with_reducible refine b_adb ?_ | with_reducible refine c_lt ?_ | with_reducible refine c_le ?_ | with_reducible refine c_gt ?_ | with_reducible refine c_ge ?_ | with_reducible refine c_eqi ?_ | with_reducible refine c_nei ?_ | with_reducible refine c_eqs ?_ | with_reducible refine c_nes ?_ | with_reducible refine c_isn ?_ | with_reducible refine c_non ?_ | with_reducible refine c_ist ?_ | with_reducible refine c_not ?_ | with_reducible refine c_isi ?_ | with_reducible refine c_noi ?_ | with_reducible refine c_isc ?_ | with_reducible refine c_noc ?_ | with_reducible refine c_isb ?_ | with_reducible refine c_nob ?_ | with_reducible refine c_iss ?_ | with_reducible refine c_nos ?_ | with_reducible refine ifr ?_ | with_reducible refine ifnr ?_ | with_reducible refine c_isB ?_ | with_reducible refine c_notB ?_ | with_reducible refine i_int ?_ | with_reducible refine i_bl ?_ | with_reducible refine i_abs ?_ | with_reducible refine i_max ?_ | with_reducible refine i_min ?_ | with_reducible refine i_inti ?_ | with_reducible refine i_intb ?_ | with_reducible refine i_len ?_ | with_reducible refine i_lent ?_ | with_reducible refine i_listn ?_ | with_reducible refine i_list ?_ | with_reducible refine i_tuple ?_ | with_reducible refine rv_cl ?_ | with_reducible refine l_cl ?_ | with_reducible refine x_n0 ?_ | with_reducible refine x_n1 ?_ | with_reducible refine b_p6 ?_ | with_reducible refine s_for0 ?_ | with_reducible refine src_cl ?_ | with_reducible refine src_zip ?_ | with_reducible refine src_enu ?_ | with_reducible refine src_rvm ?_ | with_reducible refine src_zp ?_ | with_reducible refine src_en ?_ | with_reducible refine src_rv ?_ | with_reducible refine src_two ?_ | with_reducible refine ift ?_ | with_reducible refine iff_ ?_ | with_reducible refine ifnt ?_ | with_reducible refine ifnf ?_ | ((with_reducible apply v_var); exact rfl) | ((with_reducible apply s_add); exact rfl) | ((with_reducible apply s_sub); exact rfl) | ((with_reducible apply x_tup); exact rfl) | ((with_reducible apply x_cl); exact rfl) | ((with_reducible apply of_isi); exact rfl) | ((with_reducible apply of_tru); exact rfl) | ((with_reducible apply of_tn); exact rfl) | ((with_reducible apply src_tp); exact rfl) | ((with_reducible apply ln); exact rfl) | ((with_reducible apply c_eqT); focus (first | exact gd_pL _ | exact gd_tW _ | exact gd_n _ | (simp only [gd_tup, gd_cl, gd_cln, gds_cons, gds_nil, gd_pL, gd_tW, gd_n, gd_int, gd_bl, gd_non, gd_str, Bool.and_true, Bool.true_and, Bool.and_self]; done) | (simp only [gd_tup, gd_cl, gd_cln, gds_cons, gds_nil, gd_pL, gd_tW, gd_n, gd_int, gd_bl, gd_non, gd_str, Bool.and_true, Bool.true_and, Bool.and_self]; kernel_rfl) | kernel_rfl)) | ((with_reducible apply c_neT); focus (first | exact gd_pL _ | exact gd_tW _ | exact gd_n _ | (simp only [gd_tup, gd_cl, gd_cln, gds_cons, gds_nil, gd_pL, gd_tW, gd_n, gd_int, gd_bl, gd_non, gd_str, Bool.and_true, Bool.true_and, Bool.and_self]; done) | (simp only [gd_tup, gd_cl, gd_cln, gds_cons, gds_nil, gd_pL, gd_tW, gd_n, gd_int, gd_bl, gd_non, gd_str, Bool.and_true, Bool.true_and, Bool.and_self]; kernel_rfl) | kernel_rfl)) | with_reducible refine c_eqn ?_ | with_reducible refine c_nen ?_ | with_reducible refine c_eqp ?_ | with_reducible refine c_nep ?_ | with_reducible refine c_eqtt ?_ | with_reducible refine c_nett ?_ | with_reducible refine c_eqnil ?_ | with_reducible refine c_nenil ?_ | ((with_reducible apply v_con); rw [gpc]; assumption) | with_reducible refine s_set ?_ | ((with_reducible apply v_fref); decide; rw [gpd]; rfl)))
def lawB (N : Int) : B := (.for_ (.name 1) .rng1 (.cons (.bi .max2 (.cons (.int 1) (.cons (.bi .min2 (.cons (.int N) (.cons (.bi .len (.cons (.var 0) .nil)) .nil))) .nil))) .nil) (.ite (.no (.call "_law_right" (.cons (.call "_law_urn" (.cons (.var 0) (.cons (.var 1) .nil))) .nil))) (.ret (.bl false) .done) .done .done) (.ret (.bl true) .done))
def RightC (g : PG) : Prop := ∀ {u : Nat} {ts : List Nat} {Q : KQ} {Z : KZ}, (∀ t, Q (.bl true) t) → g.call "_law_right" [.loc u] ts Q Z
section
variable {T : Str → Option Fi} {C : Str → Option W} {X : Str → Bool} {k : Nat} {x : Str}
theorem nat_of {d : Int} (h : 0 ≤ d) : ∃ n : Nat, d = (n : Int) := ⟨d.toNat, by omega⟩
theorem cut_hi {α : Type} {f : α → W} {as : List α} {n : Nat} : cutW (as.map f) none (some (n : Int)) = (as.take n).map f := by
  unfold cutW
  rw [HT.sIx_none, HT.sIx_nat, List.drop_zero, Nat.sub_zero, List.length_map, ← List.map_take]
  by_cases h : n ≤ as.length
  · rw [Nat.min_eq_left h]
  · rw [Nat.min_eq_right (by omega), List.take_of_length_le (Nat.le_refl _), List.take_of_length_le (by omega)]
end
section
variable {g : PG} {e : Sl} {o : Own} {Q : FlP → Prop} {Z : KZ} {kk : B}
end
def atomW (n : Nat) : W → Prop
  | .int i => Bt n i
  | .loc _ => False
  | .fn _ => False
  | _ => True
def wholeB : W → Bool
  | .int _ => true
  | _ => false
def GcC (g : PG) (c : Str) : Prop := ∀ {n m : Nat} {a b : Int} {ts : List Nat} {Q : KQ} {Z : KZ}, Bt n a → Bt m b → n + m ≤ 1000000000 → (∀ t, Q (.int (Int.gcd a b : Nat)) t) → g.call c [.int a, .int b] ts Q Z
def WgC (g : PG) (c : Str) : Prop := ∀ {n : Nat} {w : W} {ts : List Nat} {Q : KQ} {Z : KZ}, atomW n w → (∀ t, Q (.bl (wholeB w)) t) → g.call c [w] ts Q Z
section
variable {T : Str → Option Fi} {C : Str → Option W} {X : Str → Bool} {k : Nat} {x : Str}
end
end Pr

namespace Pr
open PySem Py Pl Pq
def trim : List Rat → List Rat
  | [] => []
  | a :: p => if a = 0 ∧ trim p = [] then [] else a :: trim p
theorem trim_zero : ∀ p : List Rat, trim (p ++ [0]) = trim p
  | [] => by rw [List.nil_append, trim, trim, if_pos ⟨rfl, rfl⟩]
  | a :: p => by rw [List.cons_append, trim, trim, trim_zero p]
theorem trim_last {a : Rat} (h : a ≠ 0) : ∀ p : List Rat, trim (p ++ [a]) = p ++ [a]
  | [] => by rw [List.nil_append, trim, trim, if_neg (fun z => h z.1)]
  | b :: p => by
    rw [List.cons_append, trim, trim_last h p, if_neg (fun z => by simp at z)]
theorem trim_trim : ∀ p : List Rat, trim (trim p) = trim p
  | [] => rfl
  | a :: p => by
    rw [trim]
    split
    · rfl
    · rename_i h
      rw [trim, trim_trim p, if_neg h]
theorem trim_len : ∀ p : List Rat, (trim p).length ≤ p.length
  | [] => Nat.le_refl _
  | a :: p => by
    rw [trim]
    split
    · exact Nat.zero_le _
    · have := trim_len p
      simp only [List.length_cons]
      omega
theorem trim_mem {q : Rat} : ∀ {p : List Rat}, q ∈ trim p → q ∈ p
  | [], h => h
  | a :: p, h => by
    rw [trim] at h
    split at h
    · cases h
    · rcases List.mem_cons.mp h with rfl | h
      · exact List.mem_cons_self
      · exact List.mem_cons_of_mem _ (trim_mem h)
theorem snoc {α : Type} {p : List α} (h : p ≠ []) : ∃ r a, p = r ++ [a] := ⟨p.dropLast, p.getLast h, (List.dropLast_concat_getLast h).symm⟩
abbrev at0 (p : List Rat) (i : Nat) : Rat := p.getD i 0
theorem at0_get {p : List Rat} {i : Nat} (h : i < p.length) : p[i] = at0 p i := by
  unfold at0
  rw [List.getD_eq_getElem?_getD, List.getElem?_eq_getElem h]
  rfl
theorem at0_no {p : List Rat} {i : Nat} (h : p.length ≤ i) : at0 p i = 0 := by
  unfold at0
  rw [List.getD_eq_getElem?_getD, List.getElem?_eq_none h]
  rfl
theorem trim_at : ∀ (p : List Rat) (i : Nat), at0 (trim p) i = at0 p i
  | [], i => rfl
  | a :: p, i => by
    rw [trim]
    split
    · rename_i h
      cases i with
      | zero => exact h.1.symm
      | succ i =>
        have := trim_at p i
        rw [h.2] at this
        exact this
    · cases i with
      | zero => rfl
      | succ i => exact trim_at p i
theorem trim_nil_of : ∀ {p : List Rat}, (∀ i, at0 p i = 0) → trim p = []
  | [], _ => rfl
  | a :: p, h => by
    rw [trim, if_pos ⟨h 0, trim_nil_of fun i => h (i + 1)⟩]
theorem range_at {n : Nat} {f : Nat → Rat} (i : Nat) : at0 ((List.range n).map f) i = if i < n then f i else 0 := by
  by_cases h : i < n
  · rw [if_pos h, ← at0_get (by simpa using h)]
    simp
  · rw [if_neg h, at0_no (by simpa using h)]
def padd (p q : List Rat) : List Rat := (List.range (max p.length q.length)).map fun i => at0 p i + at0 q i
def psub (p q : List Rat) : List Rat := (List.range (max p.length q.length)).map fun i => at0 p i - at0 q i
def smul (c : Rat) (p : List Rat) : List Rat := p.map (c * ·)
theorem padd_at (p q : List Rat) (i : Nat) : at0 (padd p q) i = at0 p i + at0 q i := by
  unfold padd
  rw [range_at]
  split
  · rfl
  · rw [at0_no (by omega), at0_no (by omega)]
    exact (Rat.add_zero 0).symm
theorem psub_at (p q : List Rat) (i : Nat) : at0 (psub p q) i = at0 p i - at0 q i := by
  unfold psub
  rw [range_at]
  split
  · rfl
  · rw [at0_no (by omega), at0_no (by omega)]
    grind
theorem smul_at (c : Rat) (p : List Rat) (i : Nat) : at0 (smul c p) i = c * at0 p i := by
  unfold smul
  by_cases h : i < p.length
  · rw [← at0_get (by simpa using h), ← at0_get h]
    simp
  · rw [at0_no (by simpa using h), at0_no (by omega), Rat.mul_zero]
def cS (p q : List Rat) : Nat → Nat → Rat
  | 0, _ => 0
  | i + 1, n => cS p q i n + if i ≤ n then at0 p i * at0 q (n - i) else 0
def pmul (p q : List Rat) : List Rat := if p = [] ∨ q = [] then [] else (List.range (p.length + q.length - 1)).map (cS p q p.length)
theorem cS_hi {p q : List Rat} {n : Nat} : ∀ i, (∀ t, t < i → t + q.length ≤ n) → cS p q i n = 0
  | 0, _ => rfl
  | i + 1, h => by
    rw [cS, cS_hi i fun t ht => h t (by omega)]
    have := h i (by omega)
    rw [if_pos (by omega), at0_no (p := q) (by omega), Rat.mul_zero]
    exact Rat.add_zero 0
theorem ne_trim {p : List Rat} (h : trim p = p) (hp : p ≠ []) : ∃ r a, p = r ++ [a] ∧ a ≠ 0 := by
  obtain ⟨r, a, rfl⟩ := snoc hp
  refine ⟨r, a, rfl, fun e => ?_⟩
  subst e
  rw [trim_zero] at h
  have h2 := trim_len r
  rw [h, List.length_append, List.length_singleton] at h2
  omega
def cM (p q : List Rat) (i j n : Nat) : Rat := if i ≤ n ∧ n < i + j then cS p q (i + 1) n else cS p q i n
def sumTo (f : Nat → Rat) : Nat → Rat
  | 0 => 0
  | m + 1 => sumTo f m + f m
theorem sumTo_left (f : Nat → Rat) : ∀ m, sumTo f (m + 1) = f 0 + sumTo (fun t => f (t + 1)) m
  | 0 => by rw [sumTo, sumTo, sumTo, Rat.zero_add, Rat.add_zero]
  | m + 1 => by
    rw [sumTo, sumTo_left f m, sumTo, Rat.add_assoc]
theorem sumTo_congr {f g : Nat → Rat} : ∀ {m : Nat}, (∀ t, t < m → f t = g t) → sumTo f m = sumTo g m
  | 0, _ => rfl
  | m + 1, h => by rw [sumTo, sumTo, sumTo_congr fun t ht => h t (by omega), h m (by omega)]
theorem sumTo_rev (f : Nat → Rat) : ∀ m, sumTo (fun t => f (m - t)) (m + 1) = sumTo f (m + 1)
  | 0 => rfl
  | m + 1 => by
    have e : sumTo f (m + 1 + 1) = sumTo f (m + 1) + f (m + 1) := rfl
    rw [sumTo_left, e, ← sumTo_rev f m, Nat.sub_zero, Rat.add_comm]
    congr 1
    exact sumTo_congr fun t _ => by rw [Nat.add_sub_add_right]
theorem cS_sum (p q : List Rat) (n : Nat) : ∀ i, cS p q i n = sumTo (fun t => if t ≤ n then at0 p t * at0 q (n - t) else 0) i
  | 0 => rfl
  | i + 1 => by rw [cS, sumTo, cS_sum p q n i]
theorem sumTo_cut {f : Nat → Rat} {a : Nat} : ∀ b, a ≤ b → (∀ t, a ≤ t → f t = 0) → sumTo f b = sumTo f a
  | 0, h, _ => by rw [Nat.le_zero.mp h]
  | b + 1, h, hf => by
    rcases Nat.lt_or_eq_of_le h with lt | e
    · rw [sumTo, sumTo_cut b (by omega) hf, hf b (by omega), Rat.add_zero]
    · rw [e]
theorem cS_all (p q : List Rat) (n : Nat) : cS p q p.length n = sumTo (fun t => at0 p t * at0 q (n - t)) (n + 1) := by
  have h1 := sumTo_cut (f := fun t => if t ≤ n then at0 p t * at0 q (n - t) else 0) (a := p.length) (max p.length (n + 1)) (by omega) fun t ht => by
    rw [at0_no (p := p) ht, Rat.zero_mul]
    split <;> rfl
  have h2 := sumTo_cut (f := fun t => if t ≤ n then at0 p t * at0 q (n - t) else 0) (a := n + 1) (max p.length (n + 1)) (by omega) fun t ht => by
    rw [if_neg (by omega)]
  rw [cS_sum, ← h1, h2]
  exact sumTo_congr fun t ht => by rw [if_pos (by omega)]
theorem cS_comm (p q : List Rat) (n : Nat) : cS p q p.length n = cS q p q.length n := by
  rw [cS_all, cS_all, ← sumTo_rev (fun t => at0 q t * at0 p (n - t))]
  exact sumTo_congr fun t ht => by
    rw [Rat.mul_comm, show n - (n - t) = t from by omega]
theorem trim_of_last {p : List Rat} (h : p ≠ [] → at0 p (p.length - 1) ≠ 0) : trim p = p := by
  by_cases hp : p = []
  · subst hp
    rfl
  · obtain ⟨r, a, rfl⟩ := snoc hp
    have := h hp
    rw [List.length_append, List.length_singleton, Nat.add_sub_cancel, ← at0_get (by simp)] at this
    simp at this
    exact trim_last this r
theorem last_of_trim {p : List Rat} (h : trim p = p) (hp : p ≠ []) : at0 p (p.length - 1) ≠ 0 := by
  obtain ⟨r, a, rfl, ha⟩ := ne_trim h hp
  rw [List.length_append, List.length_singleton, Nat.add_sub_cancel, ← at0_get (by simp)]
  simpa using ha
def wor (x : Rat) : List Rat → Rat
  | [] => 0
  | a :: p => wor x p * x + a
def slp (p : List Rat) : List Rat := (List.range (p.length - 1)).map fun i => ((i + 1 : Nat) : Rat) * at0 p (i + 1)
def sg (i : Nat) : Rat := if i % 2 = 0 then 1 else -1
def mir (p : List Rat) : List Rat := (List.range p.length).map fun i => sg i * at0 p i
end Pr

namespace Pr
open PySem Py Pl Pq
theorem sumTo_add (f g : Nat → Rat) : ∀ m, sumTo (fun t => f t + g t) m = sumTo f m + sumTo g m
  | 0 => by simp only [sumTo]; grind
  | m + 1 => by simp only [sumTo, sumTo_add f g m]; grind
theorem sumTo_mul (c : Rat) (f : Nat → Rat) : ∀ m, sumTo (fun t => c * f t) m = c * sumTo f m
  | 0 => by simp only [sumTo]; grind
  | m + 1 => by simp only [sumTo, sumTo_mul c f m]; grind
theorem sumTo_mulr (c : Rat) (f : Nat → Rat) (m : Nat) : sumTo (fun t => f t * c) m = sumTo f m * c := by
  rw [Rat.mul_comm, ← sumTo_mul]
  exact sumTo_congr fun t _ => Rat.mul_comm ..
theorem sumTo_zero : ∀ m, sumTo (fun _ => 0) m = 0
  | 0 => rfl
  | m + 1 => by simp only [sumTo, sumTo_zero m]; grind
theorem tri (f : Nat → Nat → Rat) : ∀ m, sumTo (fun a => sumTo (fun b => f a b) (m - a)) m = sumTo (fun c => sumTo (fun a => f a (c - a)) (c + 1)) m
  | 0 => rfl
  | m + 1 => by
    have e1 : sumTo (fun a => sumTo (fun b => f a b) (m + 1 - a)) m = sumTo (fun a => sumTo (fun b => f a b) (m - a) + f a (m - a)) m := sumTo_congr fun a ha => by
      rw [show m + 1 - a = (m - a) + 1 from by omega, sumTo]
    rw [sumTo, e1, sumTo_add, tri f m, sumTo, sumTo, show m + 1 - m = 0 + 1 from by omega, sumTo, sumTo, Nat.sub_self]
    grind
@[ext] structure PS where
  f : Nat → Rat
namespace PS
def conv (a b : Nat → Rat) (n : Nat) : Rat := sumTo (fun t => a t * b (n - t)) (n + 1)
theorem conv_comm (a b : Nat → Rat) (n : Nat) : conv a b n = conv b a n := by
  unfold conv
  rw [← sumTo_rev (fun t => a t * b (n - t))]
  exact sumTo_congr fun t ht => by rw [show n - (n - t) = t from by omega, Rat.mul_comm]
theorem conv_assoc (a b c : Nat → Rat) (n : Nat) : conv (conv a b) c n = conv a (conv b c) n := by
  unfold conv
  have h := tri (fun i j => a i * b j * c (n - i - j)) (n + 1)
  have h1 : sumTo (fun t => sumTo (fun t_1 => a t_1 * b (t - t_1)) (t + 1) * c (n - t)) (n + 1) = sumTo (fun d => sumTo (fun i => a i * b (d - i) * c (n - i - (d - i))) (d + 1)) (n + 1) := sumTo_congr fun d hd => by
    rw [← sumTo_mulr]
    exact sumTo_congr fun i hi => by rw [show n - i - (d - i) = n - d from by omega]
  have h2 : sumTo (fun t => a t * sumTo (fun t_1 => b t_1 * c (n - t - t_1)) (n - t + 1)) (n + 1) = sumTo (fun i => sumTo (fun j => a i * b j * c (n - i - j)) (n + 1 - i)) (n + 1) := sumTo_congr fun i hi => by
    rw [← sumTo_mul, show n + 1 - i = n - i + 1 from by omega]
    exact sumTo_congr fun j _ => (Rat.mul_assoc ..).symm
  rw [h1, h2, h]
def c (a : Rat) : PS := ⟨fun n => if n = 0 then a else 0⟩
theorem conv_c (a : Rat) (b : Nat → Rat) (n : Nat) : conv (c a).f b n = a * b n := by
  unfold conv
  rw [sumTo_left]
  have : sumTo (fun t => (c a).f (t + 1) * b (n - (t + 1))) n = sumTo (fun _ => 0) n := sumTo_congr fun t _ => by
    show (if t + 1 = 0 then a else 0) * _ = 0
    rw [if_neg (by omega), Rat.zero_mul]
  rw [this, sumTo_zero, Rat.add_zero]
  rfl
instance : Add PS := ⟨fun a b => ⟨fun n => a.f n + b.f n⟩⟩
instance : Sub PS := ⟨fun a b => ⟨fun n => a.f n - b.f n⟩⟩
instance : Neg PS := ⟨fun a => ⟨fun n => -a.f n⟩⟩
instance : Mul PS := ⟨fun a b => ⟨conv a.f b.f⟩⟩
instance : NatCast PS := ⟨fun n => c n⟩
instance : IntCast PS := ⟨fun n => c n⟩
instance (n : Nat) : OfNat PS n := ⟨c n⟩
instance : HPow PS Nat PS := ⟨fun a n => Nat.rec (c 1) (fun _ b => ⟨conv b.f a.f⟩) n⟩
instance : SMul Nat PS := ⟨fun n a => c n * a⟩
instance : SMul Int PS := ⟨fun n a => c n * a⟩
theorem add_f (a b : PS) (n : Nat) : (a + b).f n = a.f n + b.f n := rfl
theorem sub_f (a b : PS) (n : Nat) : (a - b).f n = a.f n - b.f n := rfl
theorem neg_f (a : PS) (n : Nat) : (-a).f n = -a.f n := rfl
theorem mul_f (a b : PS) (n : Nat) : (a * b).f n = conv a.f b.f n := rfl
theorem c_mul (a : Rat) (b : PS) (n : Nat) : (c a * b).f n = a * b.f n := conv_c a b.f n
theorem c_f (a : Rat) (n : Nat) : (c a).f n = if n = 0 then a else 0 := rfl
theorem zero_f (n : Nat) : (0 : PS).f n = 0 := by
  show (if n = 0 then ((0 : Nat) : Rat) else 0) = 0
  split <;> rfl
theorem mul_comm (a b : PS) : a * b = b * a := PS.ext (funext fun n => conv_comm a.f b.f n)
theorem mul_assoc (a b d : PS) : a * b * d = a * (b * d) := PS.ext (funext fun n => conv_assoc a.f b.f d.f n)
theorem one_mul (a : PS) : 1 * a = a := PS.ext (funext fun n => by
  show (c ((1 : Nat) : Rat) * a).f n = _
  rw [c_mul]
  exact Rat.one_mul _)
theorem mul_one (a : PS) : a * 1 = a := by rw [mul_comm, one_mul]
theorem left_distrib (a b d : PS) : a * (b + d) = a * b + a * d := PS.ext (funext fun n => by
  rw [mul_f, add_f, mul_f, mul_f]
  unfold conv
  rw [← sumTo_add]
  exact sumTo_congr fun t _ => by rw [add_f, Rat.mul_add])
theorem zero_mul (a : PS) : 0 * a = 0 := PS.ext (funext fun n => by
  show (c ((0 : Nat) : Rat) * a).f n = _
  rw [c_mul, zero_f]
  exact Rat.zero_mul _)
theorem c_add (a b : Rat) : c (a + b) = c a + c b := PS.ext (funext fun n => by
  rw [add_f, c_f, c_f, c_f]; split <;> grind)
theorem c_neg (a : Rat) : c (-a) = -c a := PS.ext (funext fun n => by
  rw [neg_f, c_f, c_f]; split <;> grind)
instance : Lean.Grind.CommRing PS where
  add_zero a := PS.ext (funext fun n => by rw [add_f, zero_f]; grind)
  add_comm a b := PS.ext (funext fun n => by rw [add_f, add_f]; grind)
  add_assoc a b d := PS.ext (funext fun n => by simp only [add_f]; grind)
  mul_assoc := mul_assoc
  mul_one := mul_one
  one_mul := one_mul
  left_distrib := left_distrib
  right_distrib a b d := by rw [mul_comm, left_distrib, mul_comm d a, mul_comm d b]
  zero_mul := zero_mul
  mul_zero a := by rw [mul_comm, zero_mul]
  mul_comm := mul_comm
  neg_add_cancel a := PS.ext (funext fun n => by rw [add_f, neg_f, zero_f]; grind)
  sub_eq_add_neg a b := PS.ext (funext fun n => by simp only [add_f, neg_f, sub_f]; grind)
  pow_zero a := rfl
  pow_succ a n := rfl
  ofNat_succ n := by
    show c ((n + 1 : Nat) : Rat) = c n + c ((1 : Nat) : Rat)
    rw [← c_add]
    congr 1
    exact Rat.natCast_add n 1
  ofNat_eq_natCast n := rfl
  intCast_ofNat n := rfl
  intCast_neg n := by
    show c ((-n : Int) : Rat) = -c n
    rw [← c_neg]
    congr 1
  nsmul_eq_natCast_mul n a := rfl
  zsmul_natCast_eq_nsmul n a := rfl
  neg_zsmul i a := by
    show c ((-i : Int) : Rat) * a = -(c i * a)
    apply PS.ext
    funext n
    rw [c_mul, neg_f, c_mul, Rat.intCast_neg]
    grind
end PS
def ser (p : List Rat) : PS := ⟨at0 p⟩
theorem ser_psub (p q : List Rat) : ser (psub p q) = ser p - ser q := PS.ext (funext fun i => psub_at p q i)
theorem ser_smul (c : Rat) (p : List Rat) : ser (smul c p) = PS.c c * ser p := PS.ext (funext fun i => by rw [PS.c_mul]; exact smul_at c p i)
theorem ser_trim (p : List Rat) : ser (trim p) = ser p := PS.ext (funext fun i => trim_at p i)
theorem pmul_at (p q : List Rat) (i : Nat) : at0 (pmul p q) i = PS.conv (at0 p) (at0 q) i := by
  have e : cS p q p.length i = PS.conv (at0 p) (at0 q) i := cS_all p q i
  rw [← e]
  unfold pmul
  split
  · rename_i h
    rcases h with rfl | rfl
    · rfl
    · rw [cS_comm]
      rfl
  · rw [range_at]
    split
    · rfl
    · rename_i h1 h2
      rw [cS_hi]
      intro t ht
      have : 0 < p.length := List.length_pos_iff.mpr fun z => h1 (.inl z)
      omega
def PS.x (m : Nat) : PS := ⟨fun i => if i = m then 1 else 0⟩
theorem PS.x_mul (m : Nat) (a : PS) (n : Nat) : (PS.x m * a).f n = if m ≤ n then a.f (n - m) else 0 := by
  rw [PS.mul_f]
  unfold PS.conv
  by_cases h : m ≤ n
  · rw [if_pos h]
    have h1 : sumTo (fun t => (PS.x m).f t * a.f (n - t)) (n + 1) = sumTo (fun t => (PS.x m).f t * a.f (n - t)) (m + 1) := sumTo_cut _ (by omega) fun t ht => by
      show (if t = m then (1 : Rat) else 0) * _ = 0
      rw [if_neg (by omega), Rat.zero_mul]
    have h2 : sumTo (fun t => (PS.x m).f t * a.f (n - t)) m = sumTo (fun _ => 0) m := sumTo_congr fun t ht => by
      show (if t = m then (1 : Rat) else 0) * _ = 0
      rw [if_neg (by omega), Rat.zero_mul]
    rw [h1, sumTo, h2, sumTo_zero]
    show 0 + (if m = m then (1 : Rat) else 0) * _ = _
    rw [if_pos rfl, Rat.one_mul, Rat.zero_add]
  · rw [if_neg h]
    have h2 : sumTo (fun t => (PS.x m).f t * a.f (n - t)) (n + 1) = sumTo (fun _ => 0) (n + 1) := sumTo_congr fun t ht => by
      show (if t = m then (1 : Rat) else 0) * _ = 0
      rw [if_neg (by omega), Rat.zero_mul]
    rw [h2, sumTo_zero]
theorem PS.x_add (m n : Nat) : PS.x (m + n) = PS.x m * PS.x n := PS.ext (funext fun i => by
  rw [PS.x_mul]
  show (if i = m + n then (1 : Rat) else 0) = if m ≤ i then (if i - m = n then 1 else 0) else 0
  by_cases h : m ≤ i
  · rw [if_pos h]
    by_cases h2 : i - m = n
    · rw [if_pos h2, if_pos (by omega)]
    · rw [if_neg h2, if_neg (by omega)]
  · rw [if_neg h, if_neg (by omega)])
def pad (m : Nat) (p : List Rat) : List Rat := List.replicate m 0 ++ p
theorem pad_at (m : Nat) (p : List Rat) (i : Nat) : at0 (pad m p) i = if m ≤ i then at0 p (i - m) else 0 := by
  unfold pad
  induction m generalizing i with
  | zero => rfl
  | succ m ih =>
    cases i with
    | zero => rfl
    | succ i =>
      rw [List.replicate_succ, List.cons_append]
      show at0 (List.replicate m 0 ++ p) i = _
      rw [ih]
      by_cases h : m ≤ i
      · rw [if_pos h, if_pos (by omega), Nat.add_sub_add_right]
      · rw [if_neg h, if_neg (by omega)]
theorem ser_pad (m : Nat) (p : List Rat) : ser (pad m p) = PS.x m * ser p := PS.ext (funext fun i => by rw [PS.x_mul]; exact pad_at m p i)
structure DivOf (p q Q R : List Rat) : Prop where
  eq : ser p = ser q * ser Q + ser R
  tQ : trim Q = Q
  tR : trim R = R
  lt : R.length < q.length
structure Com (n : Nat) (p : List Rat) : Prop where
  com : ∃ D : Int, D ≠ 0 ∧ Bt n D ∧ ∀ i, ∃ z : Int, at0 p i = (z : Rat) / (D : Rat) ∧ Bt n z
theorem ratne {D : Int} (h : D ≠ 0) : (D : Rat) ≠ 0 := fun z => h (by
  have := congrArg Rat.num z
  simpa using this)
theorem Bt.zeroI (n : Nat) : Bt n 0 := Nat.two_pow_pos n
theorem Com.pos {n : Nat} {p : List Rat} (h : Com n p) : 0 < n := by
  obtain ⟨D, h0, hD, _⟩ := h.com
  unfold Bt at hD
  cases n with
  | zero => rw [Nat.pow_zero] at hD; omega
  | succ n => omega
theorem divI (z D : Int) : (z : Rat) / (D : Rat) = Rat.divInt z D := (Rat.divInt_eq_div z D).symm
theorem Com.at {n : Nat} {p : List Rat} (h : Com n p) (i : Nat) : Sz n (at0 p i) := by
  have hp := h.pos
  obtain ⟨D, h0, hD, hz⟩ := h.com
  obtain ⟨z, e, hz⟩ := hz i
  rw [e, divI]
  exact Sz.of hz hD hp
theorem Com.mono {n m : Nat} {p : List Rat} (h : Com n p) (l : n ≤ m) : Com m p := by
  obtain ⟨D, h0, hD, hz⟩ := h.com
  exact ⟨D, h0, hD.mono l, fun i => by
    obtain ⟨z, e, hz⟩ := hz i
    exact ⟨z, e, hz.mono l⟩⟩
theorem Com.of {n : Nat} {p q : List Rat} (h : Com n p) (e : ∀ i, (∃ j, at0 q i = at0 p j) ∨ at0 q i = 0) : Com n q := by
  obtain ⟨D, h0, hD, hz⟩ := h.com
  refine ⟨D, h0, hD, fun i => ?_⟩
  rcases e i with ⟨j, e⟩ | e
  · rw [e]; exact hz j
  · refine ⟨0, ?_, Bt.zeroI n⟩
    rw [e]
    show 0 = (0 : Rat) / _
    rw [Rat.div_def, Rat.zero_mul]
theorem Com.trim {n : Nat} {p : List Rat} (h : Com n p) : Com n (trim p) := h.of fun i => .inl ⟨i, trim_at p i⟩
theorem Com.pad {n m : Nat} {p : List Rat} (h : Com n p) : Com n (pad m p) := h.of fun i => by
  rw [pad_at]
  split
  · exact .inl ⟨_, rfl⟩
  · exact .inr rfl
theorem Com.nil : Com 1 [] := ⟨1, by decide, by show 1 < 2 ^ 1; decide, fun i => ⟨0, by show (0 : Rat) = (0 : Rat) / _; rw [Rat.div_def, Rat.zero_mul], Bt.zeroI 1⟩⟩
theorem add_div' {a b D E : Rat} (h : D ≠ 0) (h' : E ≠ 0) : a / D + b / E = (a * E + b * D) / (D * E) := by grind
theorem sub_div' {a b D E : Rat} (h : D ≠ 0) (h' : E ≠ 0) : a / D - b / E = (a * E - b * D) / (D * E) := by grind
theorem Com.padd {n m : Nat} {p q : List Rat} (h : Com n p) (h' : Com m q) : Com (n + m + 1) (padd p q) := by
  obtain ⟨D, h0, hD, hz⟩ := h.com
  obtain ⟨E, h0', hE, hz'⟩ := h'.com
  refine ⟨D * E, Int.mul_ne_zero h0 h0', (hD.mul hE).mono (by omega), fun i => ?_⟩
  obtain ⟨z, e, hz⟩ := hz i
  obtain ⟨z', e', hz'⟩ := hz' i
  refine ⟨z * E + z' * D, ?_, (hz.mul hE).add (by rw [Nat.add_comm]; exact hz'.mul hD)⟩
  rw [padd_at, e, e', add_div' (ratne h0) (ratne h0')]
  simp only [Rat.intCast_add, Rat.intCast_mul]
theorem Com.psub {n m : Nat} {p q : List Rat} (h : Com n p) (h' : Com m q) : Com (n + m + 1) (psub p q) := by
  obtain ⟨D, h0, hD, hz⟩ := h.com
  obtain ⟨E, h0', hE, hz'⟩ := h'.com
  refine ⟨D * E, Int.mul_ne_zero h0 h0', (hD.mul hE).mono (by omega), fun i => ?_⟩
  obtain ⟨z, e, hz⟩ := hz i
  obtain ⟨z', e', hz'⟩ := hz' i
  refine ⟨z * E - z' * D, ?_, (hz.mul hE).sub (by rw [Nat.add_comm]; exact hz'.mul hD)⟩
  rw [psub_at, e, e', sub_div' (ratne h0) (ratne h0')]
  simp only [Rat.intCast_sub, Rat.intCast_mul]
theorem num_div (q : Rat) : q = (q.num : Rat) / ((q.den : Int) : Rat) := by
  rw [divI, Rat.num_divInt_den]
theorem Com.smul {n m : Nat} {c : Rat} {p : List Rat} (hc : Sz m c) (h : Com n p) : Com (m + n) (smul c p) := by
  obtain ⟨D, h0, hD, hz⟩ := h.com
  refine ⟨c.den * D, Int.mul_ne_zero (by have := c.den_nz; omega) h0, (hc.bd).mul hD, fun i => ?_⟩
  obtain ⟨z, e, hz⟩ := hz i
  refine ⟨c.num * z, ?_, hc.bn.mul hz⟩
  rw [smul_at, e]
  conv => lhs; rw [num_div c]
  simp only [Rat.intCast_mul]
  have a := ratne h0
  have b : ((c.den : Int) : Rat) ≠ 0 := ratne (by have := c.den_nz; omega)
  grind
theorem Szs.com {n : Nat} : ∀ {p : List Rat}, Szs n p → Com (n * p.length + n) p
  | [], h => ⟨1, by decide, by
      have := h.pos
      show 1 < 2 ^ _
      exact Nat.one_lt_two_pow (by simp; omega), fun i => ⟨0, by show (0 : Rat) = (0 : Rat) / _; rw [Rat.div_def, Rat.zero_mul], Bt.zeroI _⟩⟩
  | a :: p, h => by
    have ih := Szs.com (n := n) (p := p) ⟨h.pos, fun x hx => h.get x (List.mem_cons_of_mem _ hx)⟩
    obtain ⟨D, h0, hD, hz⟩ := ih.com
    have ha := h.get a List.mem_cons_self
    have hd : (a.den : Int) ≠ 0 := by have := a.den_nz; omega
    have el : n * (a :: p).length + n = n + (n * p.length + n) := by rw [List.length_cons, Nat.mul_add]; omega
    rw [el]
    refine ⟨a.den * D, Int.mul_ne_zero hd h0, ha.bd.mul hD, fun i => ?_⟩
    cases i with
    | zero =>
      refine ⟨a.num * D, ?_, ha.bn.mul hD⟩
      show a = _
      conv => lhs; rw [num_div a]
      simp only [Rat.intCast_mul]
      have := ratne h0
      have := ratne hd
      grind
    | succ i =>
      obtain ⟨z, e, hz⟩ := hz i
      refine ⟨a.den * z, ?_, ha.bd.mul hz⟩
      show at0 p i = _
      rw [e]
      simp only [Rat.intCast_mul]
      have := ratne h0
      have := ratne hd
      grind
theorem trim_le : ∀ {p : List Rat} {m : Nat}, (∀ i, m ≤ i → at0 p i = 0) → (Pr.trim p).length ≤ m
  | [], m, _ => Nat.zero_le _
  | a :: p, 0, h => by
    rw [trim_nil_of fun i => h i (Nat.zero_le i)]
    exact Nat.le_refl _
  | a :: p, m + 1, h => by
    have := trim_le (p := p) (m := m) fun i hi => h (i + 1) (by omega)
    rw [Pr.trim]
    split
    · exact Nat.zero_le _
    · rw [List.length_cons]; omega
def ldc (p : List Rat) : Rat := at0 p (p.length - 1)
def cof (q r : List Rat) : Rat := ldc r / ldc q
def red (q r : List Rat) : List Rat := Pr.trim (Pr.psub r (Pr.pad (r.length - q.length) (Pr.trim (Pr.smul (cof q r) q))))
theorem red_at (q r : List Rat) (i : Nat) : at0 (red q r) i = at0 r i - if r.length - q.length ≤ i then cof q r * at0 q (i - (r.length - q.length)) else 0 := by
  unfold red
  rw [trim_at, psub_at, pad_at]
  congr 1
  split
  · rw [trim_at, smul_at]
  · rfl
theorem ldc_ne {p : List Rat} (h : Pr.trim p = p) (hp : p ≠ []) : ldc p ≠ 0 := last_of_trim h hp
theorem red_len {q r : List Rat} (hq : Pr.trim q = q) (qn : q ≠ []) (hl : q.length ≤ r.length) : (red q r).length < r.length := by
  have q0 : 0 < q.length := List.length_pos_iff.mpr qn
  have := trim_le (p := Pr.psub r (Pr.pad (r.length - q.length) (Pr.trim (Pr.smul (cof q r) q)))) (m := r.length - 1) fun i hi => by
    have e := red_at q r i
    unfold red at e
    rw [trim_at] at e
    rw [e]
    by_cases h : i = r.length - 1
    · subst h
      rw [if_pos (by omega), show r.length - 1 - (r.length - q.length) = q.length - 1 from by omega]
      unfold cof ldc
      have := last_of_trim hq qn
      grind
    · rw [at0_no (p := r) (by omega), at0_no (p := q) (by omega), Rat.mul_zero]
      split <;> grind
  unfold red
  omega
theorem red_ser (q r : List Rat) : ser r = PS.c (cof q r) * PS.x (r.length - q.length) * ser q + ser (red q r) := by
  unfold red
  rw [ser_trim, ser_psub, ser_pad, ser_trim, ser_smul]
  grind
theorem red_com {n m : Nat} {q r : List Rat} (hq : Pr.trim q = q) (qn : q ≠ []) (hr : Com n r) (hm : Com m q) : Com (n + m + 1) (red q r) ∧ Sz (n + m) (cof q r) := by
  have np := hr.pos
  obtain ⟨D, h0, hD, hz⟩ := hr.com
  obtain ⟨E, h0', hE, hz'⟩ := hm.com
  obtain ⟨a, ea, ha⟩ := hz (r.length - 1)
  obtain ⟨b, eb, hb⟩ := hz' (q.length - 1)
  have tn : ldc q ≠ 0 := ldc_ne hq qn
  have bn : b ≠ 0 := fun z => tn (by
    unfold ldc
    rw [eb, z, Rat.div_def]
    exact Rat.zero_mul _)
  have d0 := ratne h0
  have e0 := ratne h0'
  have b0 := ratne bn
  have ec : cof q r = ((a * E : Int) : Rat) / ((D * b : Int) : Rat) := by
    unfold cof ldc
    rw [ea, eb]
    simp only [Rat.intCast_mul]
    grind
  refine ⟨⟨D * b, Int.mul_ne_zero h0 bn, (hD.mul hb).mono (by omega), fun i => ?_⟩, ?_⟩
  · rw [red_at]
    obtain ⟨z, e, hz⟩ := hz i
    by_cases h : r.length - q.length ≤ i
    · rw [if_pos h]
      obtain ⟨y, e', hy⟩ := hz' (i - (r.length - q.length))
      refine ⟨z * b - a * y, ?_, (hz.mul hb).sub (ha.mul hy)⟩
      rw [e, e', ec]
      simp only [Rat.intCast_sub, Rat.intCast_mul]
      grind
    · rw [if_neg h]
      refine ⟨z * b, ?_, (hz.mul hb).mono (by omega)⟩
      rw [e]
      simp only [Rat.intCast_mul]
      grind
  · rw [ec, divI]
    exact Sz.of (ha.mul hE) (hD.mul hb) (by omega)
end Pr

namespace Pr
open PySem Py Pl Pq
theorem PS.pow_z (a : PS) : a ^ 0 = 1 := rfl
theorem PS.pow_s (a : PS) (n : Nat) : a ^ (n + 1) = a ^ n * a := rfl
theorem PS.pow_add (a : PS) (m : Nat) : ∀ n : Nat, a ^ (m + n) = a ^ m * a ^ n
  | 0 => by rw [PS.pow_z, PS.mul_one]; rfl
  | n + 1 => by rw [← Nat.add_assoc, PS.pow_s, PS.pow_add a m n, PS.pow_s, PS.mul_assoc]
def hL (p : List Rat) (o u : PS) (n : Nat) : Nat → PS
  | 0 => 0
  | i + 1 => hL p o u n i + PS.c (at0 p i) * o ^ i * u ^ (n - i)
def hA (p : List Rat) (o u : PS) (n : Nat) : Nat → PS
  | 0 => 0
  | j + 1 => hA p o u n j * o + PS.c (at0 p (n - j)) * u ^ j
def pw (u : List Rat) : Nat → List Rat
  | 0 => [1]
  | j + 1 => pmul (pw u j) u
def mx (p o u : List Rat) (n : Nat) : Nat → List Rat
  | 0 => []
  | j + 1 => trim (padd (pmul (mx p o u n j) o) (trim (smul (at0 p (n - j)) (pw u j))))
def npw (x : Rat) : Nat → Rat
  | 0 => 1
  | n + 1 => npw x n * x
def mix (p o u : List Rat) (n : Nat) : List Rat := mx p o u n (n + 1)
theorem cS_com {n m : Nat} {p q : List Rat} {D E : Int} (hD : D ≠ 0) (hE : E ≠ 0) (hp : ∀ i, ∃ z : Int, at0 p i = (z : Rat) / (D : Rat) ∧ Bt n z) (hq : ∀ i, ∃ z : Int, at0 q i = (z : Rat) / (E : Rat) ∧ Bt m z) (i : Nat) : ∀ l, ∃ z : Int, cS p q l i = (z : Rat) / ((D * E : Int) : Rat) ∧ Bt (n + m + l) z
  | 0 => ⟨0, by
      show (0 : Rat) = (0 : Rat) / _
      rw [Rat.div_def, Rat.zero_mul], Bt.zeroI _⟩
  | l + 1 => by
    obtain ⟨z, e, hz⟩ := cS_com hD hE hp hq i l
    rw [cS, e]
    split
    · obtain ⟨a, ea, ha⟩ := hp l
      obtain ⟨b, eb, hb⟩ := hq (i - l)
      refine ⟨z + a * b, ?_, hz.add ((ha.mul hb).mono (by omega))⟩
      rw [ea, eb]
      simp only [Rat.intCast_add, Rat.intCast_mul]
      have := ratne hD
      have := ratne hE
      grind
    · exact ⟨z, Rat.add_zero _, hz.mono (by omega)⟩
theorem Com.pmul {n m l : Nat} {p q : List Rat} (hp : Com n p) (hq : Com m q) (hl : p.length ≤ l) : Com (n + m + l) (pmul p q) := by
  obtain ⟨D, hD, bD, zp⟩ := hp.com
  obtain ⟨E, hE, bE, zq⟩ := hq.com
  refine ⟨D * E, Int.mul_ne_zero hD hE, (bD.mul bE).mono (by omega), fun i => ?_⟩
  obtain ⟨z, e, hz⟩ := cS_com hD hE zp zq i p.length
  refine ⟨z, ?_, hz.mono (by omega)⟩
  rw [← e, pmul_at]
  exact (cS_all p q i).symm
theorem Com.one {n : Nat} {a : Rat} (h : Sz n a) : Com n [a] := ⟨a.den, by have := a.den_nz; omega, h.bd, fun i => by
  cases i with
  | zero => exact ⟨a.num, num_div a, h.bn⟩
  | succ i =>
    refine ⟨0, ?_, Bt.zeroI _⟩
    show (0 : Rat) = (0 : Rat) / _
    rw [Rat.div_def, Rat.zero_mul]⟩
theorem Com.cons {n m : Nat} {a : Rat} {p : List Rat} (h : Sz n a) (hp : Com m p) : Com (n + m) (a :: p) := by
  obtain ⟨D, h0, hD, hz⟩ := hp.com
  have hd : (a.den : Int) ≠ 0 := by have := a.den_nz; omega
  refine ⟨a.den * D, Int.mul_ne_zero hd h0, h.bd.mul hD, fun i => ?_⟩
  have := ratne h0
  have := ratne hd
  cases i with
  | zero =>
    refine ⟨a.num * D, ?_, h.bn.mul hD⟩
    show a = _
    conv => lhs; rw [num_div a]
    simp only [Rat.intCast_mul]
    grind
  | succ i =>
    obtain ⟨z, e, hz⟩ := hz i
    refine ⟨a.den * z, ?_, h.bd.mul hz⟩
    show at0 p i = _
    rw [e]
    simp only [Rat.intCast_mul]
    grind
def lp (a : Rat) (o u : List Rat) (i : Nat) : Nat → List Rat
  | 0 => [a]
  | k + 1 => trim (pmul (lp a o u i k) (if k < i then o else u))
def lm (p o u : List Rat) (n : Nat) : Nat → List Rat
  | 0 => []
  | i + 1 => trim (padd (lm p o u n i) (lp (at0 p i) o u i n))
theorem padd_len (p q : List Rat) : (padd p q).length = max p.length q.length := by simp [padd]
end Pr

--PR
namespace Pr
open PySem Py Pl Pq
local macro_rules | `(tactic| decreasing_trivial_pre_omega) => `(tactic| (first | ((with_reducible apply s_retv); (focus rfl); (focus rfl)) | with_reducible refine s_ite ?_ | with_reducible refine s_ret ?_ | with_reducible refine s_retn ?_ | with_reducible refine s_brk ?_ | with_reducible refine s_ct ?_ | with_reducible refine s_pass ?_ | with_reducible refine s_call ?_ | with_reducible refine s_done ?_ | with_reducible refine s_par2 ?_ | with_reducible refine s_par3 ?_ | with_reducible refine n_nx ?_ | with_reducible refine n_rt ?_ | with_reducible refine n_bk ?_ | with_reducible refine n_ct ?_ | with_reducible refine lp_nx ?_ | with_reducible refine lp_ct ?_ | with_reducible refine lp_bk ?_ | with_reducible refine lp_rt ?_ | with_reducible refine f_nx ?_ | with_reducible refine f_rt ?_ | with_reducible refine k_ret ?_ | with_reducible refine k_exp ?_ | with_reducible refine k_set ?_ | with_reducible refine v_int ?_ | with_reducible refine v_bl ?_ | with_reducible refine v_non ?_ | with_reducible refine v_str ?_ | with_reducible refine v_bin ?_ | with_reducible refine v_neg ?_ | with_reducible refine v_no ?_ | with_reducible refine v_cmp ?_ | with_reducible refine v_chain ?_ | with_reducible refine v_and ?_ | with_reducible refine v_or ?_ | with_reducible refine v_one ?_ | with_reducible refine v_ite ?_ | with_reducible refine v_tup ?_ | with_reducible refine v_lst ?_ | with_reducible refine v_ix ?_ | with_reducible refine v_sl ?_ | with_reducible refine v_rv ?_ | with_reducible refine v_call ?_ | with_reducible refine v_bi ?_ | with_reducible refine v_isi ?_ | with_reducible refine v_comp ?_ | with_reducible refine a_nil ?_ | with_reducible refine a_cons ?_ | with_reducible refine y_nil ?_ | with_reducible refine y_cons ?_ | with_reducible refine o_nil ?_ | with_reducible refine o_one ?_ | with_reducible refine t_and ?_ | with_reducible refine t_or ?_ | with_reducible refine t_no ?_ | with_reducible refine t_one ?_ | with_reducible refine t_nil ?_ | with_reducible refine t_cmp ?_ | with_reducible refine t_chain ?_ | with_reducible refine t_call ?_ | with_reducible refine t_bi ?_ | with_reducible refine t_isi ?_ | with_reducible refine b_add ?_ | with_reducible refine b_sub ?_ | with_reducible refine b_adb ?_ | with_reducible refine c_lt ?_ | with_reducible refine c_le ?_ | with_reducible refine c_gt ?_ | with_reducible refine c_ge ?_ | with_reducible refine c_eqi ?_ | with_reducible refine c_nei ?_ | with_reducible refine c_eqs ?_ | with_reducible refine c_nes ?_ | with_reducible refine c_isn ?_ | with_reducible refine c_non ?_ | with_reducible refine c_ist ?_ | with_reducible refine c_not ?_ | with_reducible refine c_isi ?_ | with_reducible refine c_noi ?_ | with_reducible refine c_isc ?_ | with_reducible refine c_noc ?_ | with_reducible refine c_isb ?_ | with_reducible refine c_nob ?_ | with_reducible refine c_iss ?_ | with_reducible refine c_nos ?_ | with_reducible refine ifr ?_ | with_reducible refine ifnr ?_ | with_reducible refine c_isB ?_ | with_reducible refine c_notB ?_ | with_reducible refine i_int ?_ | with_reducible refine i_bl ?_ | with_reducible refine i_abs ?_ | with_reducible refine i_max ?_ | with_reducible refine i_min ?_ | with_reducible refine i_inti ?_ | with_reducible refine i_intb ?_ | with_reducible refine i_len ?_ | with_reducible refine i_lent ?_ | with_reducible refine i_listn ?_ | with_reducible refine i_list ?_ | with_reducible refine i_tuple ?_ | with_reducible refine rv_cl ?_ | with_reducible refine l_cl ?_ | with_reducible refine x_n0 ?_ | with_reducible refine x_n1 ?_ | with_reducible refine b_p6 ?_ | with_reducible refine s_for0 ?_ | with_reducible refine src_cl ?_ | with_reducible refine src_zip ?_ | with_reducible refine src_enu ?_ | with_reducible refine src_rvm ?_ | with_reducible refine src_zp ?_ | with_reducible refine src_en ?_ | with_reducible refine src_rv ?_ | with_reducible refine src_two ?_ | with_reducible refine ift ?_ | with_reducible refine iff_ ?_ | with_reducible refine ifnt ?_ | with_reducible refine ifnf ?_ | ((with_reducible apply v_var); exact rfl) | ((with_reducible apply s_add); exact rfl) | ((with_reducible apply s_sub); exact rfl) | ((with_reducible apply x_tup); exact rfl) | ((with_reducible apply x_cl); exact rfl) | ((with_reducible apply of_isi); exact rfl) | ((with_reducible apply of_tru); exact rfl) | ((with_reducible apply of_tn); exact rfl) | ((with_reducible apply src_tp); exact rfl) | ((with_reducible apply ln); exact rfl) | ((with_reducible apply c_eqT); focus (first | exact gd_pL _ | exact gd_tW _ | exact gd_n _ | (simp only [gd_tup, gd_cl, gd_cln, gds_cons, gds_nil, gd_pL, gd_tW, gd_n, gd_int, gd_bl, gd_non, gd_str, Bool.and_true, Bool.true_and, Bool.and_self]; done) | (simp only [gd_tup, gd_cl, gd_cln, gds_cons, gds_nil, gd_pL, gd_tW, gd_n, gd_int, gd_bl, gd_non, gd_str, Bool.and_true, Bool.true_and, Bool.and_self]; kernel_rfl) | kernel_rfl)) | ((with_reducible apply c_neT); focus (first | exact gd_pL _ | exact gd_tW _ | exact gd_n _ | (simp only [gd_tup, gd_cl, gd_cln, gds_cons, gds_nil, gd_pL, gd_tW, gd_n, gd_int, gd_bl, gd_non, gd_str, Bool.and_true, Bool.true_and, Bool.and_self]; done) | (simp only [gd_tup, gd_cl, gd_cln, gds_cons, gds_nil, gd_pL, gd_tW, gd_n, gd_int, gd_bl, gd_non, gd_str, Bool.and_true, Bool.true_and, Bool.and_self]; kernel_rfl) | kernel_rfl)) | with_reducible refine c_eqn ?_ | with_reducible refine c_nen ?_ | with_reducible refine c_eqp ?_ | with_reducible refine c_nep ?_ | with_reducible refine c_eqtt ?_ | with_reducible refine c_nett ?_ | with_reducible refine c_eqnil ?_ | with_reducible refine c_nenil ?_ | ((with_reducible apply v_con); rw [gpc]; assumption) | with_reducible refine s_set ?_ | ((with_reducible apply v_fref); decide; rw [gpd]; rfl)))
theorem Szs.at {n : Nat} {p : List Rat} (h : Szs n p) (i : Nat) : Sz n (at0 p i) := getD_sz h
theorem Szs.range {n m : Nat} (h0 : 0 < n) {f : Nat → Rat} (h : ∀ i, i < m → Sz n (f i)) : Szs n ((List.range m).map f) := Szs.map h0 fun i hi => h i (List.mem_range.mp hi)
theorem Szs.trim {n : Nat} {p : List Rat} (h : Szs n p) : Szs n (trim p) := ⟨h.pos, fun q hq => h.get q (trim_mem hq)⟩
theorem Szs.padd {n m : Nat} {p q : List Rat} (hp : Szs n p) (hq : Szs m q) : Szs (n + m + 1) (padd p q) := Szs.range (by omega) fun i _ => z_add (hp.at i) (hq.at i)
theorem Szs.psub {n m : Nat} {p q : List Rat} (hp : Szs n p) (hq : Szs m q) : Szs (n + m + 1) (psub p q) := Szs.range (by omega) fun i _ => z_sub (hp.at i) (hq.at i)
theorem Szs.smul {n m : Nat} {c : Rat} {p : List Rat} (hc : Sz m c) (hp : Szs n p) : Szs (m + n) (smul c p) := roft_sz hc hp
theorem cS_sz {n m : Nat} {p q : List Rat} (hp : Szs n p) (hq : Szs m q) (i : Nat) : ∀ l, Sz (1 + l * (n + m + 1)) (cS p q l i)
  | 0 => by rw [Nat.zero_mul]; exact Sz.zero
  | l + 1 => by
    unfold cS
    have ih := cS_sz hp hq i l
    split
    · have := z_add ih (z_mul (hp.at l) (hq.at (i - l)))
      rw [show 1 + l * (n + m + 1) + (n + m) + 1 = 1 + (l + 1) * (n + m + 1) from by rw [Nat.add_mul]; omega] at this
      exact this
    · rw [Rat.add_zero]
      exact ih.mono (Nat.add_le_add_left (Nat.mul_le_mul_right _ (Nat.le_succ l)) 1)
theorem Szs.pmul {n m : Nat} {p q : List Rat} (l : Nat) (hl : p.length ≤ l) (hp : Szs n p) (hq : Szs m q) : Szs (1 + l * (n + m + 1)) (pmul p q) := by
  unfold Pr.pmul
  split
  · exact ⟨by omega, fun x hx => nomatch hx⟩
  · refine Szs.range (by omega) fun i _ => (cS_sz hp hq i _).mono ?_
    have := Nat.mul_le_mul_right (n + m + 1) hl
    omega
def PoC (g : PG) (c : Str) : Prop := ∀ {p : List Rat} {ts : List Nat} {Q : KQ} {Z : KZ}, p.length ≤ 1000000 → Q (pL (trim p)) 2 → g.call c [pL p] ts Q Z
def NaC (g : PG) (c : Str) : Prop := ∀ {p : List Rat} {i : Nat} {ts : List Nat} {Q : KQ} {Z : KZ}, (∀ t, Q (nW (at0 p i)) t) → g.call c [pL p, .int (i : Nat)] ts Q Z
def PsC (g : PG) (c : Str) : Prop := ∀ {n m : Nat} {p q : List Rat} {ts : List Nat} {Q : KQ} {Z : KZ}, Szs n p → Szs m q → n + m ≤ 60000000 → p.length ≤ 1000000 → q.length ≤ 1000000 → Q (pL (trim (padd p q))) 2 → g.call c [pL p, pL q] ts Q Z
def PdC (g : PG) (c : Str) : Prop := ∀ {n m : Nat} {p q : List Rat} {ts : List Nat} {Q : KQ} {Z : KZ}, Szs n p → Szs m q → n + m ≤ 60000000 → p.length ≤ 1000000 → q.length ≤ 1000000 → Q (pL (trim (psub p q))) 2 → g.call c [pL p, pL q] ts Q Z
def ScC (g : PG) (c : Str) : Prop := ∀ {n m : Nat} {a : Rat} {p : List Rat} {ts : List Nat} {Q : KQ} {Z : KZ}, Sz n a → Szs m p → n + m ≤ 60000000 → p.length ≤ 1000000 → Q (pL (trim (smul a p))) 2 → g.call c [nW a, pL p] ts Q Z
def PmC (g : PG) (c : Str) : Prop := ∀ {n m : Nat} {p q : List Rat} {ts : List Nat} {Q : KQ} {Z : KZ}, Szs n p → Szs m q → 1 + (p.length + 1) * (n + m + 1) ≤ 60000000 → p.length + q.length ≤ 1000000 → Q (pL (pmul p q)) 2 → g.call c [pL p, pL q] ts Q Z
def PtC (g : PG) (c : Str) : Prop := ∀ {n m : Nat} {p q : List Rat} {ts : List Nat} {Q : KQ} {Z : KZ}, Szs n p → Szs m q → 1 + (p.length + 1) * (n + m + 1) ≤ 60000000 → p.length + q.length ≤ 1000000 → Q (pL (trim (pmul p q))) 2 → g.call c [pL p, pL q] ts Q Z
def WoC (g : PG) (c : Str) : Prop := ∀ {n m : Nat} {p : List Rat} {x : Rat} {ts : List Nat} {Q : KQ} {Z : KZ}, Szs n p → Sz m x → 1 + (p.length + 1) * (n + m + 1) ≤ 60000000 → (∀ t, Q (nW (wor x p)) t) → g.call c [pL p, nW x] ts Q Z
def SlC (g : PG) (c : Str) : Prop := ∀ {n : Nat} {p : List Rat} {ts : List Nat} {Q : KQ} {Z : KZ}, Szs n p → n + 20 ≤ 60000000 → p.length ≤ 1000000 → Q (pL (slp p)) 2 → g.call c [pL p] ts Q Z
def MiC (g : PG) (c : Str) : Prop := ∀ {n : Nat} {p : List Rat} {ts : List Nat} {Q : KQ} {Z : KZ}, Szs n p → n + 1 ≤ 60000000 → p.length ≤ 1000000 → Q (pL (mir p)) 2 → g.call c [pL p] ts Q Z
def DpC (g : PG) (c : Str) : Prop := ∀ {u most : Nat} {i : Int} {ts : List Nat} {Q : KQ} {Z : KZ}, most ≤ 100000 → (∀ p : List Rat, p ≠ [] → p.length ≤ most + 1 → Pr.trim p = p → Szs 40 p → Q (pL p) 2) → g.call c [.loc u, .int i, .int (most : Nat)] ts Q Z
def IpC (g : PG) (c : Str) : Prop := ∀ {n : Nat} {p : List Rat} {ts : List Nat} {Q : KQ} {Z : KZ}, Szs n p → n ≤ 60000000 → p.length ≤ 1000000 → Pr.trim p = p → (∀ t, Q (.bl true) t) → g.call c [pL p] ts Q Z
def AbC (g : PG) (c : Str) : Prop := ∀ {u : Nat} {i : Int} {ts : List Nat} {Q : KQ} {Z : KZ}, (∀ r t, 0 < r → Sz 40 r → Q (nW r) t) → g.call c [.loc u, .int i] ts Q Z
section
variable {T : Str → Option Fi} {C : Str → Option W} {X : Str → Bool} {k : Nat} {x : Str}
theorem take_last {p : List Rat} {m : Nat} (h : m + 1 ≤ p.length) : p.take (m + 1) = p.take m ++ [at0 p m] := by
  rw [List.take_succ_eq_append_getElem (by omega), at0_get (by omega)]
theorem c_poly {k0 : Str} (h : Has T x 1 2 (by_poly k0)) (hx : NoDr x) (hc : C k0 = some (nW 0)) : PoC (gamP T C X (k + 1)) x := by
  intro p ts Q Z hl w
  refine call_of h hx rfl ?_
  unfold by_poly
  (repeat decreasing_trivial_pre_omega)
  refine s_whl ?_
  rw [List.length_map]
  refine while_ind (fun m e o => o = [] ∧ m ≤ p.length ∧ e = [some (pL p), some (.int (m : Nat))] ∧ trim (p.take m) = trim p) (fun m e o K hI hK => ?_) big p.length _ _ (by unfold big; omega) ⟨rfl, Nat.le_refl _, rfl, by rw [List.take_length]⟩
  obtain ⟨rfl, hm, rfl, ht⟩ := hI
  (repeat decreasing_trivial_pre_omega)
  refine ifd (fun z => ?_) fun z => ?_
  · obtain ⟨m, rfl⟩ : ∃ j, m = j + 1 := ⟨m - 1, by omega⟩
    rw [take_last hm] at ht
    (repeat decreasing_trivial_pre_omega)
    rw [show ((m + 1 : Nat) : Int) - 1 = ((m : Nat) : Int) from by omega]
    refine x_pL (by omega) ?_
    (repeat decreasing_trivial_pre_omega)
    refine ifd (fun z => ?_) fun z => ?_
    · (repeat decreasing_trivial_pre_omega)
      rw [show at0 p m = 0 from z, trim_zero] at ht
      exact hK m _ _ (Nat.lt_succ_self _) ⟨rfl, by omega, by rw [show ((m + 1 : Nat) : Int) - 1 = ((m : Nat) : Int) from by omega]; rfl, ht⟩
    · rw [trim_last z, ← take_last hm] at ht
      (repeat decreasing_trivial_pre_omega)
      rw [cut_hi, ht]
      (repeat decreasing_trivial_pre_omega)
      rw [tgl_n]
      exact w
  · have : m = 0 := by omega
    subst this
    rw [List.take_zero] at ht
    (repeat decreasing_trivial_pre_omega)
    rw [cut_hi, List.take_zero, show ([] : List Rat) = trim p from ht]
    (repeat decreasing_trivial_pre_omega)
    rw [tgl_n]
    exact w
theorem c_number_at {k0 : Str} (h : Has T x 2 2 (by_number_at k0)) (hx : NoDr x) (hc : C k0 = some (nW 0)) : NaC (gamP T C X (k + 1)) x := by
  intro p i ts Q Z w
  refine call_of h hx rfl ?_
  unfold by_number_at
  (repeat decreasing_trivial_pre_omega)
  rw [List.length_map]
  refine ifd (fun z => ?_) fun z => ?_
  · (repeat decreasing_trivial_pre_omega)
    exact x_pL (by omega) (w _)
  · (repeat decreasing_trivial_pre_omega)
    rw [at0_no (by omega)] at w
    exact w _
theorem max_len (p q : List Rat) : max ((p.map nW).length : Int) ((q.map nW).length : Int) = ((max p.length q.length : Nat) : Int) := by
  rw [List.length_map, List.length_map]
  omega
theorem c_poly_sum {s0 c0 c1 c2 : Str} (h : Has T x 2 3 (by_poly_sum s0 c0 c1 c2)) (hx : NoDr x) (hp : PoC (gamP T C X k) c0) (ha : AdN (gamP T C X k) c1) (hn : NaC (gamP T C X k) c2) : PsC (gamP T C X (k + 1)) x := by
  intro n m p q ts Q Z zp zq hb lp lq w
  refine call_of h hx rfl ?_
  unfold by_poly_sum
  (repeat decreasing_trivial_pre_omega)
  rw [max_len]
  refine src_range (by omega) ?_
  refine comp_num _ (fun i => at0 p i + at0 q i) _ (by rw [List.length_range]; omega) (fun i hi y n hy => ?_) ?_
  · (repeat decreasing_trivial_pre_omega)
    refine hn fun _ => ?_
    (repeat decreasing_trivial_pre_omega)
    refine hn fun _ => ?_
    (repeat decreasing_trivial_pre_omega)
    exact ha (zp.at i) (zq.at i) hb fun _ => hy _
  · (repeat decreasing_trivial_pre_omega)
    refine hp (by rw [List.length_map, List.length_range]; omega) ?_
    (repeat decreasing_trivial_pre_omega)
    exact w
theorem c_scaled {s0 c0 c1 : Str} (h : Has T x 2 3 (by_scaled s0 c0 c1)) (hx : NoDr x) (hp : PoC (gamP T C X k) c0) (ha : MuN (gamP T C X k) c1) : ScC (gamP T C X (k + 1)) x := by
  intro n m a p ts Q Z za zp hb lp w
  refine call_of h hx rfl ?_
  unfold by_scaled
  (repeat decreasing_trivial_pre_omega)
  refine comp_num _ (fun r => a * r) p lp (fun i hi y n hy => ?_) ?_
  · (repeat decreasing_trivial_pre_omega)
    exact ha za (zp.get _ hi) hb fun _ => hy _
  · (repeat decreasing_trivial_pre_omega)
    refine hp (by rw [List.length_map]; exact lp) ?_
    (repeat decreasing_trivial_pre_omega)
    exact w
def mulB (PL TI : Str) : B := .asg (.sub (.var 2) (.bin .add (.var 3) (.var 5))) (.call PL (.cons (.ix (.var 2) (.bin .add (.var 3) (.var 5))) (.cons (.call TI (.cons (.var 4) (.cons (.var 6) .nil))) .nil))) .done
def mulI (PL TI : Str) : B := .for_ (.tup (.cons (.name 5) (.cons (.name 6) .nil))) .enu (.cons (.var 1) .nil) (mulB PL TI) .done
theorem len_ne {p : List Rat} (h : p ≠ []) : 0 < p.length := List.length_pos_iff.mpr h
theorem at_last {α : Type} {f : α → W} {r : List α} {a : α} : atW ((r ++ [a]).map f) (-1) = some (f a) := by
  unfold atW L2.ixN
  rw [if_neg (by decide), List.length_map, List.length_append, List.length_singleton, if_pos (by omega), Option.bind_some, show (-1 + ((r.length + 1 : Nat) : Int)).toNat = r.length from by omega, List.map_append, List.getElem?_append_right (by rw [List.length_map]; exact Nat.le_refl _), List.length_map, Nat.sub_self]
  rfl
theorem x_last {r : List Rat} {a : Rat} {Q : KQ} (q : Q (nW a) 0) : ixP (pL (r ++ [a])) (.int (-1)) Q := x_cl at_last q
theorem s_pop {g : PG} {e : Sl} {o : Own} {Q : FlP → Prop} {Z : KZ} {kk : B} {i : Nat} {vs : List W} (h : e[i]? = some (some (.cl vs))) (ho : mayB o i [] = true) (hv : vs ≠ []) (q : exP g kk (e.set i (some (.cl vs.dropLast))) o Q Z) : exP g (.exp (.mt .pop (.var i) .nil) kk) e o Q Z := by
  (refine exP_in ?_; rw [exF])
  show lvP g (.var i) e (fun i p => chgQ e o i p popF fun e' => exP g kk e' o Q Z) Z
  rw [lvP]
  unfold slotP
  rw [h]
  refine ⟨ho, ?_⟩
  unfold slotP
  rw [h]
  show ofO ((popF vs).map W.cl) _
  have : popF vs = some vs.dropLast := by
    cases vs with
    | nil => exact absurd rfl hv
    | cons a b => rfl
  rw [this]
  exact q
theorem drop_map (r : List Rat) (a : Rat) : ((r ++ [a]).map nW).dropLast = r.map nW := by rw [List.map_append, List.map_singleton, List.dropLast_concat]
theorem c__law_trim (h : Has T x 1 2 by__law_trim) (hx : NoDr x) : PoC (gamP T C X (k + 1)) x := by
  intro p ts Q Z hl w
  refine call_of h hx rfl ?_
  unfold by__law_trim
  (repeat (first | (with_reducible refine s_set2 (i := 1) ?_) | decreasing_trivial_pre_omega))
  refine kp rfl ?_
  refine s_whl ?_
  refine while_ind (fun m e o => o = [(1, 2)] ∧ ∃ q, q.length = m ∧ e = [some (pL p), some (pL q)] ∧ trim q = trim p) (fun m e o K hI hK => ?_) big p.length _ _ (by unfold big; omega) ⟨rfl, p, rfl, rfl, rfl⟩
  obtain ⟨rfl, q, hq, rfl, ht⟩ := hI
  (repeat decreasing_trivial_pre_omega)
  refine ifn (fun z => ?_) fun z => ?_
  · obtain ⟨r, a, rfl⟩ := snoc z
    (repeat decreasing_trivial_pre_omega)
    refine x_last ?_
    (repeat decreasing_trivial_pre_omega)
    refine ifd (fun z => ?_) fun z => ?_
    · refine s_pop rfl rfl (by simp) ?_
      (repeat decreasing_trivial_pre_omega)
      rw [drop_map]
      rw [show a = 0 from Rat.num_eq_zero.mp z, trim_zero] at ht
      refine hK r.length _ _ (by rw [← hq, List.length_append]; exact Nat.lt_succ_self _) ⟨rfl, r, rfl, rfl, ht⟩
    · rw [trim_last (fun y => z (by rw [y]; rfl))] at ht
      (repeat decreasing_trivial_pre_omega)
      rw [ht]
      exact w
  · subst z
    (repeat decreasing_trivial_pre_omega)
    rw [show ([] : List Rat) = trim p from ht] 
    exact w
theorem c__law_poly_plus {c0 c1 : Str} (h : Has T x 2 6 (by__law_poly_plus c0 c1)) (hx : NoDr x) (ha : AdN (gamP T C X k) c0) (ht : PoC (gamP T C X k) c1) : PsC (gamP T C X (k + 1)) x := by
  intro n m p q ts Q Z zp zq hn lp lq w
  refine call_of h hx rfl ?_
  unfold by__law_poly_plus
  (repeat (first | (with_reducible refine s_set2 (i := 2) ?_) | decreasing_trivial_pre_omega))
  refine kp rfl ?_
  refine s_for ?_
  (repeat decreasing_trivial_pre_omega)
  rw [max_len]
  refine src_range (by omega) ?_
  generalize gamP T C X k = g at ha ht ⊢
  refine for_on (fun j : Nat => W.int (j : Int)) (List.range (max p.length q.length)) (fun i e o => o = [(2, 2)] ∧ ∃ x3 x4 x5, e = [some (pL p), some (pL q), some (pL ((List.range i).map fun i => at0 p i + at0 q i)), x3, x4, x5]) ⟨rfl, _, _, _, rfl⟩ (fun i hi e o K hI hK => ?_) fun e o hI => ?_
  · obtain ⟨rfl, x3, x4, x5, rfl⟩ := hI
    rw [List.length_range] at hi
    rw [List.getElem_range]
    refine of_tn rfl ?_
    have e1 : ∀ (j l : Nat) (r : List Rat) (e : Sl) (o : Own) (kk : B) (QF : FlP → Prop), e[j]? = some (some (pL r)) → e[3]? = some (some (.int (i : Nat))) → exP g kk (e.set l (some (nW (at0 r i)))) (put o l (nW 0) 2) QF Z → exP g (.asg (.name l) (.ite (.cmp .lt (.var 3) (.bi .len (.cons (.var j) .nil))) (.ix (.var j) (.var 3)) (.tup (.cons (.int 0) (.cons (.int 1) .nil)))) kk) e o QF Z := fun j l r e o kk QF h1 h2 h3 => by
      refine s_set2 (v_ite (t_cmp (v_var h2 (v_bi (a_cons (v_var h1 (a_nil (i_len ?_))))))))
      (repeat decreasing_trivial_pre_omega)
      rw [List.length_map]
      refine ifd (fun z => ?_) fun z => ?_
      · refine v_ix (v_var h1 (v_var h2 (x_pL (by omega) ?_)))
        exact kp rfl h3
      · rw [at0_no (by omega)] at h3
        (repeat decreasing_trivial_pre_omega)
        exact kp rfl h3
    refine e1 0 4 p _ _ _ _ ?_ ?_ ?_
    · rfl
    · rfl
    refine e1 1 5 q _ _ _ _ ?_ ?_ ?_
    · rfl
    · rfl
    refine s_app rfl rfl (by simp; exact Nat.lt_of_lt_of_le (by omega : i < 1000001) (by decide)) ?_
    (repeat decreasing_trivial_pre_omega)
    refine ha (zp.at i) (zq.at i) hn fun _ => ⟨rfl, ?_⟩
    (repeat decreasing_trivial_pre_omega)
    have e2 : ((List.range i).map fun i => at0 p i + at0 q i).map nW ++ [nW (at0 p i + at0 q i)] = ((List.range (i + 1)).map fun i => at0 p i + at0 q i).map nW := by
      rw [List.range_succ, List.map_append, List.map_append]
      rfl
    rw [e2]
    exact hK _ _ ⟨rfl, _, _, _, rfl⟩
  · obtain ⟨rfl, x3, x4, x5, rfl⟩ := hI
    rw [List.length_range]
    (repeat decreasing_trivial_pre_omega)
    refine ht (by simp; omega) ?_
    (repeat decreasing_trivial_pre_omega)
    exact w
end
end Pr

--PR
namespace Pr
open PySem Py Pl Pq
local macro_rules | `(tactic| decreasing_trivial_pre_omega) => `(tactic| (first | ((with_reducible apply s_retv); (focus rfl); (focus rfl)) | with_reducible refine s_ite ?_ | with_reducible refine s_ret ?_ | with_reducible refine s_retn ?_ | with_reducible refine s_brk ?_ | with_reducible refine s_ct ?_ | with_reducible refine s_pass ?_ | with_reducible refine s_call ?_ | with_reducible refine s_done ?_ | with_reducible refine s_par2 ?_ | with_reducible refine s_par3 ?_ | with_reducible refine n_nx ?_ | with_reducible refine n_rt ?_ | with_reducible refine n_bk ?_ | with_reducible refine n_ct ?_ | with_reducible refine lp_nx ?_ | with_reducible refine lp_ct ?_ | with_reducible refine lp_bk ?_ | with_reducible refine lp_rt ?_ | with_reducible refine f_nx ?_ | with_reducible refine f_rt ?_ | with_reducible refine k_ret ?_ | with_reducible refine k_exp ?_ | with_reducible refine k_set ?_ | with_reducible refine v_int ?_ | with_reducible refine v_bl ?_ | with_reducible refine v_non ?_ | with_reducible refine v_str ?_ | with_reducible refine v_bin ?_ | with_reducible refine v_neg ?_ | with_reducible refine v_no ?_ | with_reducible refine v_cmp ?_ | with_reducible refine v_chain ?_ | with_reducible refine v_and ?_ | with_reducible refine v_or ?_ | with_reducible refine v_one ?_ | with_reducible refine v_ite ?_ | with_reducible refine v_tup ?_ | with_reducible refine v_lst ?_ | with_reducible refine v_ix ?_ | with_reducible refine v_sl ?_ | with_reducible refine v_rv ?_ | with_reducible refine v_call ?_ | with_reducible refine v_bi ?_ | with_reducible refine v_isi ?_ | with_reducible refine v_comp ?_ | with_reducible refine a_nil ?_ | with_reducible refine a_cons ?_ | with_reducible refine y_nil ?_ | with_reducible refine y_cons ?_ | with_reducible refine o_nil ?_ | with_reducible refine o_one ?_ | with_reducible refine t_and ?_ | with_reducible refine t_or ?_ | with_reducible refine t_no ?_ | with_reducible refine t_one ?_ | with_reducible refine t_nil ?_ | with_reducible refine t_cmp ?_ | with_reducible refine t_chain ?_ | with_reducible refine t_call ?_ | with_reducible refine t_bi ?_ | with_reducible refine t_isi ?_ | with_reducible refine b_add ?_ | with_reducible refine b_sub ?_ | with_reducible refine b_adb ?_ | with_reducible refine c_lt ?_ | with_reducible refine c_le ?_ | with_reducible refine c_gt ?_ | with_reducible refine c_ge ?_ | with_reducible refine c_eqi ?_ | with_reducible refine c_nei ?_ | with_reducible refine c_eqs ?_ | with_reducible refine c_nes ?_ | with_reducible refine c_isn ?_ | with_reducible refine c_non ?_ | with_reducible refine c_ist ?_ | with_reducible refine c_not ?_ | with_reducible refine c_isi ?_ | with_reducible refine c_noi ?_ | with_reducible refine c_isc ?_ | with_reducible refine c_noc ?_ | with_reducible refine c_isb ?_ | with_reducible refine c_nob ?_ | with_reducible refine c_iss ?_ | with_reducible refine c_nos ?_ | with_reducible refine ifr ?_ | with_reducible refine ifnr ?_ | with_reducible refine c_isB ?_ | with_reducible refine c_notB ?_ | with_reducible refine i_int ?_ | with_reducible refine i_bl ?_ | with_reducible refine i_abs ?_ | with_reducible refine i_max ?_ | with_reducible refine i_min ?_ | with_reducible refine i_inti ?_ | with_reducible refine i_intb ?_ | with_reducible refine i_len ?_ | with_reducible refine i_lent ?_ | with_reducible refine i_listn ?_ | with_reducible refine i_list ?_ | with_reducible refine i_tuple ?_ | with_reducible refine rv_cl ?_ | with_reducible refine l_cl ?_ | with_reducible refine x_n0 ?_ | with_reducible refine x_n1 ?_ | with_reducible refine b_p6 ?_ | with_reducible refine s_for0 ?_ | with_reducible refine src_cl ?_ | with_reducible refine src_zip ?_ | with_reducible refine src_enu ?_ | with_reducible refine src_rvm ?_ | with_reducible refine src_zp ?_ | with_reducible refine src_en ?_ | with_reducible refine src_rv ?_ | with_reducible refine src_two ?_ | with_reducible refine ift ?_ | with_reducible refine iff_ ?_ | with_reducible refine ifnt ?_ | with_reducible refine ifnf ?_ | ((with_reducible apply v_var); exact rfl) | ((with_reducible apply s_add); exact rfl) | ((with_reducible apply s_sub); exact rfl) | ((with_reducible apply x_tup); exact rfl) | ((with_reducible apply x_cl); exact rfl) | ((with_reducible apply of_isi); exact rfl) | ((with_reducible apply of_tru); exact rfl) | ((with_reducible apply of_tn); exact rfl) | ((with_reducible apply src_tp); exact rfl) | ((with_reducible apply ln); exact rfl) | ((with_reducible apply c_eqT); focus (first | exact gd_pL _ | exact gd_tW _ | exact gd_n _ | (simp only [gd_tup, gd_cl, gd_cln, gds_cons, gds_nil, gd_pL, gd_tW, gd_n, gd_int, gd_bl, gd_non, gd_str, Bool.and_true, Bool.true_and, Bool.and_self]; done) | (simp only [gd_tup, gd_cl, gd_cln, gds_cons, gds_nil, gd_pL, gd_tW, gd_n, gd_int, gd_bl, gd_non, gd_str, Bool.and_true, Bool.true_and, Bool.and_self]; kernel_rfl) | kernel_rfl)) | ((with_reducible apply c_neT); focus (first | exact gd_pL _ | exact gd_tW _ | exact gd_n _ | (simp only [gd_tup, gd_cl, gd_cln, gds_cons, gds_nil, gd_pL, gd_tW, gd_n, gd_int, gd_bl, gd_non, gd_str, Bool.and_true, Bool.true_and, Bool.and_self]; done) | (simp only [gd_tup, gd_cl, gd_cln, gds_cons, gds_nil, gd_pL, gd_tW, gd_n, gd_int, gd_bl, gd_non, gd_str, Bool.and_true, Bool.true_and, Bool.and_self]; kernel_rfl) | kernel_rfl)) | with_reducible refine c_eqn ?_ | with_reducible refine c_nen ?_ | with_reducible refine c_eqp ?_ | with_reducible refine c_nep ?_ | with_reducible refine c_eqtt ?_ | with_reducible refine c_nett ?_ | with_reducible refine c_eqnil ?_ | with_reducible refine c_nenil ?_ | ((with_reducible apply v_con); rw [gpc]; assumption) | with_reducible refine s_set ?_ | ((with_reducible apply v_fref); decide; rw [gpd]; rfl)))
section
variable {T : Str → Option Fi} {C : Str → Option W} {X : Str → Bool} {k : Nat} {x : Str}
theorem map_snoc {p : List Rat} {r : Rat} : p.map nW ++ [nW r] = (p ++ [r]).map nW := by rw [List.map_append, List.map_singleton]
theorem c__law_drawn_poly {s0 c0 c1 : Str} (h : Has T x 3 4 (by__law_drawn_poly s0 c0 c1)) (hx : NoDr x) (hn : NuN (gamP T C X (k + 1)) c0) (ho : OtN (gamP T C X (k + 1)) c1) : DpC (gamP T C X (k + 2)) x := by
  intro u most i ts Q Z hm w
  refine call_of h hx rfl ?_
  unfold by__law_drawn_poly
  (repeat decreasing_trivial_pre_omega)
  refine call_draw (by omega) (by omega) fun d a b => ?_
  obtain ⟨l, rfl⟩ := nat_of a
  (repeat decreasing_trivial_pre_omega)
  refine src_range (by omega) ?_
  refine comp_nums _ (fun r => Sz 40 r) _ (by rw [List.length_range]; omega) (fun b hb y' m hy' => ?_) fun p hl hp => ?_
  · (repeat decreasing_trivial_pre_omega)
    exact hn fun r t hr => hy' _ _ hr
  rw [List.length_range] at hl
  (repeat decreasing_trivial_pre_omega)
  refine ho fun r t r0 hr => ?_
  (repeat decreasing_trivial_pre_omega)
  refine b_cat (sl_ok (by simp; omega)) ?_
  rw [map_snoc, tgl_n]
  (repeat decreasing_trivial_pre_omega)
  refine w (p ++ [r]) (by simp) (by simp; omega) (trim_last r0 p) ⟨by decide, fun x hx => ?_⟩
  rcases List.mem_append.mp hx with hx | hx
  · exact hp x hx
  · rw [List.mem_singleton.mp hx]
    exact hr
theorem c__law_is_poly {s0 c0 c1 : Str} (h : Has T x 1 2 (by__law_is_poly s0 c0 c1)) (hx : NoDr x) (hi : IsN (gamP T C X k) c0) (ht : PoC (gamP T C X k) c1) : IpC (gamP T C X (k + 1)) x := by
  intro n p ts Q Z zp hn lp e w
  refine call_of h hx rfl ?_
  unfold by__law_is_poly
  (repeat decreasing_trivial_pre_omega)
  refine comp_bool nW (fun _ => true) p lp (fun r hr y n hy => ?_) ?_
  · (repeat decreasing_trivial_pre_omega)
    exact hi (zp.get _ hr) hn fun _ => hy _
  (repeat decreasing_trivial_pre_omega)
  refine i_allb ?_
  rw [all_true]
  (repeat decreasing_trivial_pre_omega)
  refine ht lp ?_
  rw [e]
  (repeat decreasing_trivial_pre_omega)
  exact w _
def wF (x : Rat) (l : List Rat) : Rat := l.foldl (fun s a => s * x + a) 0
end
end Pr

--PR
namespace Pr
open PySem Py Pl Pq
local macro_rules | `(tactic| decreasing_trivial_pre_omega) => `(tactic| (first | ((with_reducible apply s_retv); (focus rfl); (focus rfl)) | with_reducible refine s_ite ?_ | with_reducible refine s_ret ?_ | with_reducible refine s_retn ?_ | with_reducible refine s_brk ?_ | with_reducible refine s_ct ?_ | with_reducible refine s_pass ?_ | with_reducible refine s_call ?_ | with_reducible refine s_done ?_ | with_reducible refine s_par2 ?_ | with_reducible refine s_par3 ?_ | with_reducible refine n_nx ?_ | with_reducible refine n_rt ?_ | with_reducible refine n_bk ?_ | with_reducible refine n_ct ?_ | with_reducible refine lp_nx ?_ | with_reducible refine lp_ct ?_ | with_reducible refine lp_bk ?_ | with_reducible refine lp_rt ?_ | with_reducible refine f_nx ?_ | with_reducible refine f_rt ?_ | with_reducible refine k_ret ?_ | with_reducible refine k_exp ?_ | with_reducible refine k_set ?_ | with_reducible refine v_int ?_ | with_reducible refine v_bl ?_ | with_reducible refine v_non ?_ | with_reducible refine v_str ?_ | with_reducible refine v_bin ?_ | with_reducible refine v_neg ?_ | with_reducible refine v_no ?_ | with_reducible refine v_cmp ?_ | with_reducible refine v_chain ?_ | with_reducible refine v_and ?_ | with_reducible refine v_or ?_ | with_reducible refine v_one ?_ | with_reducible refine v_ite ?_ | with_reducible refine v_tup ?_ | with_reducible refine v_lst ?_ | with_reducible refine v_ix ?_ | with_reducible refine v_sl ?_ | with_reducible refine v_rv ?_ | with_reducible refine v_call ?_ | with_reducible refine v_bi ?_ | with_reducible refine v_isi ?_ | with_reducible refine v_comp ?_ | with_reducible refine a_nil ?_ | with_reducible refine a_cons ?_ | with_reducible refine y_nil ?_ | with_reducible refine y_cons ?_ | with_reducible refine o_nil ?_ | with_reducible refine o_one ?_ | with_reducible refine t_and ?_ | with_reducible refine t_or ?_ | with_reducible refine t_no ?_ | with_reducible refine t_one ?_ | with_reducible refine t_nil ?_ | with_reducible refine t_cmp ?_ | with_reducible refine t_chain ?_ | with_reducible refine t_call ?_ | with_reducible refine t_bi ?_ | with_reducible refine t_isi ?_ | with_reducible refine b_add ?_ | with_reducible refine b_sub ?_ | with_reducible refine b_adb ?_ | with_reducible refine c_lt ?_ | with_reducible refine c_le ?_ | with_reducible refine c_gt ?_ | with_reducible refine c_ge ?_ | with_reducible refine c_eqi ?_ | with_reducible refine c_nei ?_ | with_reducible refine c_eqs ?_ | with_reducible refine c_nes ?_ | with_reducible refine c_isn ?_ | with_reducible refine c_non ?_ | with_reducible refine c_ist ?_ | with_reducible refine c_not ?_ | with_reducible refine c_isi ?_ | with_reducible refine c_noi ?_ | with_reducible refine c_isc ?_ | with_reducible refine c_noc ?_ | with_reducible refine c_isb ?_ | with_reducible refine c_nob ?_ | with_reducible refine c_iss ?_ | with_reducible refine c_nos ?_ | with_reducible refine ifr ?_ | with_reducible refine ifnr ?_ | with_reducible refine c_isB ?_ | with_reducible refine c_notB ?_ | with_reducible refine i_int ?_ | with_reducible refine i_bl ?_ | with_reducible refine i_abs ?_ | with_reducible refine i_max ?_ | with_reducible refine i_min ?_ | with_reducible refine i_inti ?_ | with_reducible refine i_intb ?_ | with_reducible refine i_len ?_ | with_reducible refine i_lent ?_ | with_reducible refine i_listn ?_ | with_reducible refine i_list ?_ | with_reducible refine i_tuple ?_ | with_reducible refine rv_cl ?_ | with_reducible refine l_cl ?_ | with_reducible refine x_n0 ?_ | with_reducible refine x_n1 ?_ | with_reducible refine b_p6 ?_ | with_reducible refine s_for0 ?_ | with_reducible refine src_cl ?_ | with_reducible refine src_zip ?_ | with_reducible refine src_enu ?_ | with_reducible refine src_rvm ?_ | with_reducible refine src_zp ?_ | with_reducible refine src_en ?_ | with_reducible refine src_rv ?_ | with_reducible refine src_two ?_ | with_reducible refine ift ?_ | with_reducible refine iff_ ?_ | with_reducible refine ifnt ?_ | with_reducible refine ifnf ?_ | ((with_reducible apply v_var); exact rfl) | ((with_reducible apply s_add); exact rfl) | ((with_reducible apply s_sub); exact rfl) | ((with_reducible apply x_tup); exact rfl) | ((with_reducible apply x_cl); exact rfl) | ((with_reducible apply of_isi); exact rfl) | ((with_reducible apply of_tru); exact rfl) | ((with_reducible apply of_tn); exact rfl) | ((with_reducible apply src_tp); exact rfl) | ((with_reducible apply ln); exact rfl) | ((with_reducible apply c_eqT); focus (first | exact gd_pL _ | exact gd_tW _ | exact gd_n _ | (simp only [gd_tup, gd_cl, gd_cln, gds_cons, gds_nil, gd_pL, gd_tW, gd_n, gd_int, gd_bl, gd_non, gd_str, Bool.and_true, Bool.true_and, Bool.and_self]; done) | (simp only [gd_tup, gd_cl, gd_cln, gds_cons, gds_nil, gd_pL, gd_tW, gd_n, gd_int, gd_bl, gd_non, gd_str, Bool.and_true, Bool.true_and, Bool.and_self]; kernel_rfl) | kernel_rfl)) | ((with_reducible apply c_neT); focus (first | exact gd_pL _ | exact gd_tW _ | exact gd_n _ | (simp only [gd_tup, gd_cl, gd_cln, gds_cons, gds_nil, gd_pL, gd_tW, gd_n, gd_int, gd_bl, gd_non, gd_str, Bool.and_true, Bool.true_and, Bool.and_self]; done) | (simp only [gd_tup, gd_cl, gd_cln, gds_cons, gds_nil, gd_pL, gd_tW, gd_n, gd_int, gd_bl, gd_non, gd_str, Bool.and_true, Bool.true_and, Bool.and_self]; kernel_rfl) | kernel_rfl)) | with_reducible refine c_eqn ?_ | with_reducible refine c_nen ?_ | with_reducible refine c_eqp ?_ | with_reducible refine c_nep ?_ | with_reducible refine c_eqtt ?_ | with_reducible refine c_nett ?_ | with_reducible refine c_eqnil ?_ | with_reducible refine c_nenil ?_ | ((with_reducible apply v_con); rw [gpc]; assumption) | with_reducible refine s_set ?_ | ((with_reducible apply v_fref); decide; rw [gpd]; rfl)))
structure DI (n m : Nat) (p q : List Rat) (s : Nat) (r F : List Rat) : Prop where
  len : F.length = p.length + 1 - q.length
  eq : ser p = ser q * ser F + ser r
  tr : trim r = r
  lo : ∀ i, i + q.length ≤ r.length → at0 F i = 0
  ldc : r = p ∨ at0 F (p.length - q.length) ≠ 0
  le : r.length + s ≤ p.length
  com : Com (n + s * (m + 1)) r
  fz : Szs (n + s * (m + 1) + m) F
theorem DI.init {n m : Nat} {p q : List Rat} (cp : Com n p) (tp : trim p = p) : DI n m p q 0 p (List.replicate (p.length + 1 - q.length) 0) := by
  have z : ∀ i, at0 (List.replicate (p.length + 1 - q.length) (0 : Rat)) i = 0 := fun i => by
    unfold at0
    rw [List.getD_eq_getElem?_getD, List.getElem?_replicate]
    split <;> rfl
  have zs : ser (List.replicate (p.length + 1 - q.length) (0 : Rat)) = 0 := PS.ext (funext fun i => by rw [PS.zero_f]; exact z i)
  refine ⟨by rw [List.length_replicate], by rw [zs]; grind, tp, fun i _ => z i, .inl rfl, by omega, cp.mono (by omega), ⟨by have := cp.pos; omega, fun x hx => ?_⟩⟩
  rw [List.eq_of_mem_replicate hx]
  exact Sz.zero.mono (by have := cp.pos; omega)
theorem at0_set {F : List Rat} {a : Nat} {c : Rat} (h : a < F.length) (i : Nat) : at0 (F.set a c) i = if i = a then c else at0 F i := by
  unfold at0
  rw [List.getD_eq_getElem?_getD, List.getElem?_set, List.getD_eq_getElem?_getD]
  by_cases e : i = a
  · subst e
    rw [if_pos rfl, if_pos h, if_pos rfl]
    rfl
  · rw [if_neg (Ne.symm e), if_neg e]
theorem ser_set {F : List Rat} {a : Nat} {c : Rat} (h : a < F.length) (h0 : at0 F a = 0) : ser (F.set a c) = ser F + PS.c c * PS.x a := PS.ext (funext fun i => by
  rw [PS.add_f, PS.c_mul]
  show at0 (F.set a c) i = at0 F i + c * (if i = a then 1 else 0)
  rw [at0_set h]
  by_cases e : i = a
  · subst e
    rw [if_pos rfl, if_pos rfl, h0]
    grind
  · rw [if_neg e, if_neg e]
    grind)
theorem DI.step {n m s : Nat} {p q r F : List Rat} (h : DI n m p q s r F) (cq : Com m q) (tq : trim q = q) (qn : q ≠ []) (hl : q.length ≤ r.length) :
    DI n m p q (s + 1) (red q r) (F.set (r.length - q.length) (cof q r)) ∧ Sz (n + s * (m + 1) + m) (cof q r) := by
  have q0 := len_ne qn
  have hle := h.le
  have hlt : r.length - q.length < F.length := by rw [h.len]; omega
  have hrl := red_len tq qn hl
  obtain ⟨c1, c2⟩ := red_com tq qn h.com cq
  have e : n + (s + 1) * (m + 1) = n + s * (m + 1) + m + 1 := by rw [Nat.add_mul]; omega
  refine ⟨⟨by rw [List.length_set, h.len], ?_, trim_trim _, fun i hi => ?_, .inr ?_, by omega, by rw [e]; exact c1, ⟨by rw [e]; omega, fun x hx => ?_⟩⟩, c2⟩
  · rw [ser_set hlt (h.lo _ (by omega)), h.eq, red_ser q r]
    grind
  · rw [at0_set hlt, if_neg (by omega)]
    exact h.lo i (by omega)
  · rw [at0_set hlt]
    split
    · have rn : r ≠ [] := fun z => by rw [z, List.length_nil] at hl; omega
      have h1 := ldc_ne h.tr rn
      have h2 := ldc_ne tq qn
      unfold cof
      intro z
      rw [Rat.div_def] at z
      rcases Rat.mul_eq_zero.mp z with z | z
      · exact h1 z
      · exact h2 (by grind)
    · rename_i z
      refine h.ldc.resolve_left fun y => z ?_
      rw [y]
  · rw [e]
    rcases List.mem_or_eq_of_mem_set hx with hx | rfl
    · exact (h.fz.get x hx).mono (by omega)
    · exact c2.mono (by omega)
theorem DI.fin {n m s : Nat} {p q r F : List Rat} (h : DI n m p q s r F) (hl : r.length < q.length) : DivOf p q F r := by
  refine ⟨h.eq, trim_of_last fun hF => ?_, h.tr, hl⟩
  have f0 := len_ne hF
  rw [h.len] at f0 ⊢
  have e : p.length + 1 - q.length - 1 = p.length - q.length := by omega
  rw [e]
  refine h.ldc.resolve_left fun y => ?_
  rw [y] at hl
  omega
def DvC (g : PG) (c : Str) : Prop := ∀ {n m : Nat} {p q : List Rat} {ts : List Nat} {Q : KQ} {Z : KZ}, Com n p → Com m q → trim p = p → trim q = q → q ≠ [] → p.length ≤ 10000 → q.length ≤ 10000 → n + (p.length + 1) * (m + 1) ≤ 25000000 → (∀ F r, DivOf p q F r → F.length ≤ p.length + 1 → Szs (n + (p.length + 1) * (m + 1)) F → Com (n + p.length * (m + 1)) r → Q (.tup [pL F, pL r]) 2) → g.call c [pL p, pL q] ts Q Z
def DvE (g : PG) (c : Str) : Prop := ∀ {n m : Nat} {p q : List Rat} {ts : List Nat} {Q : KQ} {Z : KZ}, Com n p → Com m q → trim p = p → trim q = q → q ≠ [] → p.length ≤ 10000 → q.length ≤ 10000 → n + (p.length + 1 - q.length + 1) * (m + 1) ≤ 25000000 → (∀ F r, DivOf p q F r → F.length ≤ p.length + 1 → Szs (n + (p.length + 1 - q.length + 1) * (m + 1)) F → Com (n + (p.length + 1 - q.length) * (m + 1)) r → Q (.tup [pL F, pL r]) 2) → g.call c [pL p, pL q] ts Q Z
def DvR (g : PG) (c : Str) : Prop := ∀ {p : List Rat} {ts : List Nat} {Q : KQ} {Z : KZ}, Z "NoPolynomial" → g.call c [pL p, pL []] ts Q Z
def ReC (g : PG) (c : Str) : Prop := ∀ {n m : Nat} {p q : List Rat} {ts : List Nat} {Q : KQ} {Z : KZ}, Com n p → Com m q → trim p = p → trim q = q → q ≠ [] → p.length ≤ 10000 → q.length ≤ 10000 → n + (p.length + 1 - q.length + 1) * (m + 1) ≤ 25000000 → (∀ F r, DivOf p q F r → Com (n + (p.length + 1 - q.length) * (m + 1)) r → Q (pL r) 2) → g.call c [pL p, pL q] ts Q Z
section
variable {T : Str → Option Fi} {C : Str → Option W} {X : Str → Bool} {k : Nat} {x : Str}
end
end Pr

namespace Lw
open PySem PyProof.Rows Py Pl Pq Pr
theorem h_shared_divisor : Has (tabR rows) "shared_divisor" 2 2 bd_shared_divisor := ⟨fi_shared_divisor, by kernel_rfl, rfl, rfl, rfl⟩
theorem h_fraction : Has (tabR rows) "fraction" 2 3 bd_fraction := ⟨fi_fraction, by kernel_rfl, rfl, rfl, rfl⟩
theorem h_plus : Has (tabR rows) "plus" 2 2 bd_plus := ⟨fi_plus, by kernel_rfl, rfl, rfl, rfl⟩
theorem h_times : Has (tabR rows) "times" 2 2 bd_times := ⟨fi_times, by kernel_rfl, rfl, rfl, rfl⟩
theorem h_poly : Has (tabR rows) "poly" 1 2 (by_poly "NOUGHT") := ⟨fi_poly, by kernel_rfl, rfl, rfl, rfl⟩
theorem h_number_at_polys : Has (tabR rows) "number_at_polys" 2 2 (by_number_at "NOUGHT") := ⟨fi_number_at_polys, by kernel_rfl, rfl, rfl, rfl⟩
theorem h_poly_sum : Has (tabR rows) "poly_sum" 2 3 (by_poly_sum "i" "poly" "plus" "number_at_polys") := ⟨fi_poly_sum, by kernel_rfl, rfl, rfl, rfl⟩
theorem h_scaled : Has (tabR rows) "scaled" 2 3 (by_scaled "one" "poly" "times") := ⟨fi_scaled, by kernel_rfl, rfl, rfl, rfl⟩
theorem h_look_gain : Has (tabR rows) "look_gain" 2 2 (by_look_gain "MOST_DEGREE") := ⟨fi_look_gain, by kernel_rfl, rfl, rfl, rfl⟩
theorem h_gained : Has (tabR rows) "gained" 3 3 (by_gained "look_gain" "poly_sum" "scaled") := ⟨fi_gained, by kernel_rfl, rfl, rfl, rfl⟩
theorem h_gains_of : Has (tabR rows) "gains_of" 2 8 (by_gains_of "look_gain" "edge_poly" "stretches_of" "dies" "gained" "NOUGHT") := ⟨fi_gains_of, by kernel_rfl, rfl, rfl, rfl⟩
theorem h__law_urn : Has (tabR rows) "_law_urn" 2 5 bd__law_urn := ⟨fi__law_urn, by kernel_rfl, rfl, rfl, rfl⟩
theorem h__law_draw : Has (tabR rows) "_law_draw" 2 3 bd__law_draw := ⟨fi__law_draw, by kernel_rfl, rfl, rfl, rfl⟩
theorem h__law_low : Has (tabR rows) "_law_low" 2 4 bd__law_low := ⟨fi__law_low, by kernel_rfl, rfl, rfl, rfl⟩
theorem h__law_plus : Has (tabR rows) "_law_plus" 2 2 bd__law_plus := ⟨fi__law_plus, by kernel_rfl, rfl, rfl, rfl⟩
theorem h__law_times : Has (tabR rows) "_law_times" 2 2 bd__law_times := ⟨fi__law_times, by kernel_rfl, rfl, rfl, rfl⟩
theorem h__law_kind : Has (tabR rows) "_law_kind" 1 1 bd__law_kind := ⟨fi__law_kind, by kernel_rfl, rfl, rfl, rfl⟩
theorem h__law_number : Has (tabR rows) "_law_number" 2 3 bd__law_number := ⟨fi__law_number, by kernel_rfl, rfl, rfl, rfl⟩
theorem h__law_other : Has (tabR rows) "_law_other" 2 3 bd__law_other := ⟨fi__law_other, by kernel_rfl, rfl, rfl, rfl⟩
theorem h__law_trim : Has (tabR rows) "_law_trim" 1 2 by__law_trim := ⟨fi__law_trim, by kernel_rfl, rfl, rfl, rfl⟩
theorem h__law_poly_plus : Has (tabR rows) "_law_poly_plus" 2 6 (by__law_poly_plus "_law_plus" "_law_trim") := ⟨fi__law_poly_plus, by kernel_rfl, rfl, rfl, rfl⟩
theorem h__law_poly_often : Has (tabR rows) "_law_poly_often" 2 3 (by_scaled "_law_one" "_law_trim" "_law_times") := ⟨fi__law_poly_often, by kernel_rfl, rfl, rfl, rfl⟩
theorem h__law_drawn_poly : Has (tabR rows) "_law_drawn_poly" 3 4 (by__law_drawn_poly "_law_i" "_law_number" "_law_other") := ⟨fi__law_drawn_poly, by kernel_rfl, rfl, rfl, rfl⟩
theorem h__law_whole : Has (tabR rows) "_law_whole" 1 1 bd__law_whole := ⟨fi__law_whole, by kernel_rfl, rfl, rfl, rfl⟩
theorem h__law_is_number : Has (tabR rows) "_law_is_number" 1 1 bd__law_is_number := ⟨fi__law_is_number, by kernel_rfl, rfl, rfl, rfl⟩
theorem h__law_is_poly : Has (tabR rows) "_law_is_poly" 1 2 (by__law_is_poly "_law_one" "_law_is_number" "_law_trim") := ⟨fi__law_is_poly, by kernel_rfl, rfl, rfl, rfl⟩
theorem h__law_said : Has (tabR rows) "_law_said" 3 5 fi__law_said.body := ⟨fi__law_said, by kernel_rfl, rfl, rfl, rfl⟩
theorem h__law_refused : Has (tabR rows) "_law_refused" 2 3 fi__law_refused.body := ⟨fi__law_refused, by kernel_rfl, rfl, rfl, rfl⟩
theorem h_law : Has (tabR rows) "law" 1 14 fi_law.body := ⟨fi_law, by kernel_rfl, rfl, rfl, rfl⟩
theorem c_NOUGHT : findC cons "NOUGHT" = some (.tup [.int 0, .int 1]) := by kernel_rfl
theorem c_MOST_DEGREE : findC cons "MOST_DEGREE" = some (.int 5) := by kernel_rfl
theorem x_NoGain : exR exs "NoGain" = true := by kernel_rfl
theorem x__law_which : exR exs "_law_which" = true := by kernel_rfl
theorem consOk : ∀ x w, findC cons x = some w → grd w = true := con_grd (by decide +kernel)
abbrev gm (k : Nat) : PG := gamP (tabR rows) (findC cons) (exR exs) k
theorem prim : Prim (tabR rows) (findC cons) (exR exs) := prim_of h__law_draw h__law_urn
end Lw

namespace Lw
open PySem PyProof.Rows Py Pl Pq Pr
theorem k_plus {k : Nat} : AdN (gm (k + 3)) "plus" := o_plus ⟨h_fraction, h_shared_divisor⟩ h_plus
theorem k_times {k : Nat} : MuN (gm (k + 3)) "times" := o_times ⟨h_fraction, h_shared_divisor⟩ h_times
theorem k_poly {k : Nat} : PoC (gm (k + 1)) "poly" := c_poly (k := k + 0) h_poly (by decide) c_NOUGHT
theorem k_number_at_polys {k : Nat} : NaC (gm (k + 1)) "number_at_polys" := c_number_at (k := k + 0) h_number_at_polys (by decide) c_NOUGHT
theorem k_poly_sum {k : Nat} : PsC (gm (k + 4)) "poly_sum" := c_poly_sum (k := k + 3) h_poly_sum (by decide) (k_poly (k := k + 2)) (k_plus (k := k + 0)) (k_number_at_polys (k := k + 2))
theorem k_scaled {k : Nat} : ScC (gm (k + 4)) "scaled" := c_scaled (k := k + 3) h_scaled (by decide) (k_poly (k := k + 2)) (k_times (k := k + 0))
theorem k__law_plus {k : Nat} : AdN (gm (k + 2)) "_law_plus" := o_lplus h__law_low h__law_plus
theorem k__law_times {k : Nat} : MuN (gm (k + 2)) "_law_times" := o_ltimes h__law_low h__law_times
theorem k__law_kind {k : Nat} : KdN (gm (k + 2)) "_law_kind" := o_kind h__law_kind
theorem k__law_number {k : Nat} : NuN (gm (k + 2)) "_law_number" := o_number h__law_low h__law_number
theorem k__law_other {k : Nat} : OtN (gm (k + 3)) "_law_other" := o_other h__law_low h__law_number h__law_other
theorem k__law_trim {k : Nat} : PoC (gm (k + 1)) "_law_trim" := c__law_trim (k := k + 0) h__law_trim (by decide) 
theorem k__law_poly_plus {k : Nat} : PsC (gm (k + 3)) "_law_poly_plus" := c__law_poly_plus (k := k + 2) h__law_poly_plus (by decide) (k__law_plus (k := k + 0)) (k__law_trim (k := k + 1))
theorem k__law_poly_often {k : Nat} : ScC (gm (k + 3)) "_law_poly_often" := c_scaled (k := k + 2) h__law_poly_often (by decide) (k__law_trim (k := k + 1)) (k__law_times (k := k + 0))
theorem k__law_drawn_poly {k : Nat} : DpC (gm (k + 4)) "_law_drawn_poly" := c__law_drawn_poly (k := k + 2) h__law_drawn_poly (by decide) (k__law_number (k := k + 1)) (k__law_other (k := k + 0))
theorem k__law_is_number {k : Nat} : IsN (gm (k + 2)) "_law_is_number" := o_isnum h__law_low h__law_whole h__law_is_number
theorem k__law_is_poly {k : Nat} : IpC (gm (k + 3)) "_law_is_poly" := c__law_is_poly (k := k + 2) h__law_is_poly (by decide) (k__law_is_number (k := k + 0)) (k__law_trim (k := k + 1))
end Lw

--PR
--CORE PrM
--HEADFIRST
namespace Pr
open PySem Py Pl Pq Lw
local macro_rules | `(tactic| decreasing_trivial_pre_omega) => `(tactic| (first | ((with_reducible apply s_retv); (focus rfl); (focus rfl)) | with_reducible refine s_ite ?_ | with_reducible refine s_ret ?_ | with_reducible refine s_retn ?_ | with_reducible refine s_brk ?_ | with_reducible refine s_ct ?_ | with_reducible refine s_pass ?_ | with_reducible refine s_call ?_ | with_reducible refine s_done ?_ | with_reducible refine s_par2 ?_ | with_reducible refine s_par3 ?_ | with_reducible refine n_nx ?_ | with_reducible refine n_rt ?_ | with_reducible refine n_bk ?_ | with_reducible refine n_ct ?_ | with_reducible refine lp_nx ?_ | with_reducible refine lp_ct ?_ | with_reducible refine lp_bk ?_ | with_reducible refine lp_rt ?_ | with_reducible refine f_nx ?_ | with_reducible refine f_rt ?_ | with_reducible refine k_ret ?_ | with_reducible refine k_exp ?_ | with_reducible refine k_set ?_ | with_reducible refine v_int ?_ | with_reducible refine v_bl ?_ | with_reducible refine v_non ?_ | with_reducible refine v_str ?_ | with_reducible refine v_bin ?_ | with_reducible refine v_neg ?_ | with_reducible refine v_no ?_ | with_reducible refine v_cmp ?_ | with_reducible refine v_chain ?_ | with_reducible refine v_and ?_ | with_reducible refine v_or ?_ | with_reducible refine v_one ?_ | with_reducible refine v_ite ?_ | with_reducible refine v_tup ?_ | with_reducible refine v_lst ?_ | with_reducible refine v_ix ?_ | with_reducible refine v_sl ?_ | with_reducible refine v_rv ?_ | with_reducible refine v_call ?_ | with_reducible refine v_bi ?_ | with_reducible refine v_isi ?_ | with_reducible refine v_comp ?_ | with_reducible refine a_nil ?_ | with_reducible refine a_cons ?_ | with_reducible refine y_nil ?_ | with_reducible refine y_cons ?_ | with_reducible refine o_nil ?_ | with_reducible refine o_one ?_ | with_reducible refine t_and ?_ | with_reducible refine t_or ?_ | with_reducible refine t_no ?_ | with_reducible refine t_one ?_ | with_reducible refine t_nil ?_ | with_reducible refine t_cmp ?_ | with_reducible refine t_chain ?_ | with_reducible refine t_call ?_ | with_reducible refine t_bi ?_ | with_reducible refine t_isi ?_ | with_reducible refine b_add ?_ | with_reducible refine b_sub ?_ | with_reducible refine b_adb ?_ | with_reducible refine c_lt ?_ | with_reducible refine c_le ?_ | with_reducible refine c_gt ?_ | with_reducible refine c_ge ?_ | with_reducible refine c_eqi ?_ | with_reducible refine c_nei ?_ | with_reducible refine c_eqs ?_ | with_reducible refine c_nes ?_ | with_reducible refine c_isn ?_ | with_reducible refine c_non ?_ | with_reducible refine c_ist ?_ | with_reducible refine c_not ?_ | with_reducible refine c_isi ?_ | with_reducible refine c_noi ?_ | with_reducible refine c_isc ?_ | with_reducible refine c_noc ?_ | with_reducible refine c_isb ?_ | with_reducible refine c_nob ?_ | with_reducible refine c_iss ?_ | with_reducible refine c_nos ?_ | with_reducible refine ifr ?_ | with_reducible refine ifnr ?_ | with_reducible refine c_isB ?_ | with_reducible refine c_notB ?_ | with_reducible refine i_int ?_ | with_reducible refine i_bl ?_ | with_reducible refine i_abs ?_ | with_reducible refine i_max ?_ | with_reducible refine i_min ?_ | with_reducible refine i_inti ?_ | with_reducible refine i_intb ?_ | with_reducible refine i_len ?_ | with_reducible refine i_lent ?_ | with_reducible refine i_listn ?_ | with_reducible refine i_list ?_ | with_reducible refine i_tuple ?_ | with_reducible refine rv_cl ?_ | with_reducible refine l_cl ?_ | with_reducible refine x_n0 ?_ | with_reducible refine x_n1 ?_ | with_reducible refine b_p6 ?_ | with_reducible refine s_for0 ?_ | with_reducible refine src_cl ?_ | with_reducible refine src_zip ?_ | with_reducible refine src_enu ?_ | with_reducible refine src_rvm ?_ | with_reducible refine src_zp ?_ | with_reducible refine src_en ?_ | with_reducible refine src_rv ?_ | with_reducible refine src_two ?_ | with_reducible refine ift ?_ | with_reducible refine iff_ ?_ | with_reducible refine ifnt ?_ | with_reducible refine ifnf ?_ | ((with_reducible apply v_var); exact rfl) | ((with_reducible apply s_add); exact rfl) | ((with_reducible apply s_sub); exact rfl) | ((with_reducible apply x_tup); exact rfl) | ((with_reducible apply x_cl); exact rfl) | ((with_reducible apply of_isi); exact rfl) | ((with_reducible apply of_tru); exact rfl) | ((with_reducible apply of_tn); exact rfl) | ((with_reducible apply src_tp); exact rfl) | ((with_reducible apply ln); exact rfl) | ((with_reducible apply c_eqT); focus (first | exact gd_pL _ | exact gd_tW _ | exact gd_n _ | (simp only [gd_tup, gd_cl, gd_cln, gds_cons, gds_nil, gd_pL, gd_tW, gd_n, gd_int, gd_bl, gd_non, gd_str, Bool.and_true, Bool.true_and, Bool.and_self]; done) | (simp only [gd_tup, gd_cl, gd_cln, gds_cons, gds_nil, gd_pL, gd_tW, gd_n, gd_int, gd_bl, gd_non, gd_str, Bool.and_true, Bool.true_and, Bool.and_self]; kernel_rfl) | kernel_rfl)) | ((with_reducible apply c_neT); focus (first | exact gd_pL _ | exact gd_tW _ | exact gd_n _ | (simp only [gd_tup, gd_cl, gd_cln, gds_cons, gds_nil, gd_pL, gd_tW, gd_n, gd_int, gd_bl, gd_non, gd_str, Bool.and_true, Bool.true_and, Bool.and_self]; done) | (simp only [gd_tup, gd_cl, gd_cln, gds_cons, gds_nil, gd_pL, gd_tW, gd_n, gd_int, gd_bl, gd_non, gd_str, Bool.and_true, Bool.true_and, Bool.and_self]; kernel_rfl) | kernel_rfl)) | with_reducible refine c_eqn ?_ | with_reducible refine c_nen ?_ | with_reducible refine c_eqp ?_ | with_reducible refine c_nep ?_ | with_reducible refine c_eqtt ?_ | with_reducible refine c_nett ?_ | with_reducible refine c_eqnil ?_ | with_reducible refine c_nenil ?_ | ((with_reducible apply v_con); rw [gpc]; assumption) | with_reducible refine s_set ?_ | ((with_reducible apply v_fref); decide; rw [gpd]; rfl)))
structure Gd (p : List Rat) : Prop where
  tr : trim p = p
  le : p.length ≤ 8
  sz : Szs 40 p
def Good (p q : List Rat) : Bool := decide (2 ≤ p.length ∧ p.length ≤ 6) && decide (1 ≤ q.length ∧ q.length < p.length)
def gnd (p : List Rat) (a : Rat) (q : List Rat) : List Rat := trim (padd p (trim (smul a q)))
theorem good_b {p q : List Rat} : Good p q = true ↔ (2 ≤ p.length ∧ p.length ≤ 6) ∧ 1 ≤ q.length ∧ q.length < p.length := by
  unfold Good
  rw [Bool.and_eq_true, decide_eq_true_eq, decide_eq_true_eq]
section
variable {k : Nat} {ts : List Nat} {Z : KZ} {Q : KQ}
theorem look_ok {p q : List Rat} (h : Good p q = true) (w : Q .non 2) : (gm (k + 1)).call "look_gain" [pL p, pL q] ts Q Z := by
  have h := good_b.mp h
  have cm := c_MOST_DEGREE
  refine call_of h_look_gain ⟨by decide, by decide⟩ rfl ?_
  unfold by_look_gain
  (repeat decreasing_trivial_pre_omega)
  rw [List.length_map]
  refine ifd (fun _ => ?_) fun z => absurd (show (2 : Int) ≤ p.length by omega) z
  (repeat decreasing_trivial_pre_omega)
  refine ifn (fun z => absurd (show (p.length : Int) ≤ 5 + 1 by omega) z) fun _ => ?_
  (repeat decreasing_trivial_pre_omega)
  rw [List.length_map]
  refine ifd (fun _ => ?_) fun z => absurd (show (1 : Int) ≤ q.length by omega) z
  (repeat decreasing_trivial_pre_omega)
  rw [List.length_map]
  refine ifn (fun z => absurd (show (q.length : Int) < p.length by omega) z) fun _ => ?_
  (repeat decreasing_trivial_pre_omega)
  exact w
theorem look_no {p q : List Rat} (h : Good p q = false) (w : Z "NoGain") : (gm (k + 1)).call "look_gain" [pL p, pL q] ts Q Z := by
  have h : ¬ ((2 ≤ p.length ∧ p.length ≤ 6) ∧ 1 ≤ q.length ∧ q.length < p.length) := fun z => by
    rw [good_b.mpr z] at h
    cases h
  have no : ∀ {j e o Q'}, exP (gm j) (.raise "NoGain" .done) e o Q' Z := s_raise (by rw [gpx]; exact x_NoGain) w
  have cm := c_MOST_DEGREE
  refine call_of h_look_gain ⟨by decide, by decide⟩ rfl ?_
  unfold by_look_gain
  (repeat decreasing_trivial_pre_omega)
  rw [List.length_map]
  refine ifd (fun z1 => ?_) fun z => ?_
  · (repeat decreasing_trivial_pre_omega)
    refine ifn (fun z => no) fun z2 => ?_
    (repeat decreasing_trivial_pre_omega)
    rw [List.length_map]
    refine ifd (fun z3 => ?_) fun z => ?_
    · (repeat decreasing_trivial_pre_omega)
      rw [List.length_map]
      refine ifn (fun z => no) fun z4 => absurd ⟨⟨by omega, by omega⟩, by omega, by omega⟩ h
    · (repeat decreasing_trivial_pre_omega)
      exact no
  · (repeat decreasing_trivial_pre_omega)
    exact no
theorem gained_ok {p q : List Rat} {a : Rat} (gp : Gd p) (gq : Gd q) (ha : Sz 40 a) (h : Good p q = true) (w : Q (pL (gnd p a q)) 2) : (gm (k + 5)).call "gained" [pL p, pL q, nW a] ts Q Z := by
  have lp := gp.le
  have lq := gq.le
  refine call_of h_gained ⟨by decide, by decide⟩ rfl ?_
  unfold by_gained
  (repeat decreasing_trivial_pre_omega)
  refine look_ok (k := k + 3) h ?_
  (repeat decreasing_trivial_pre_omega)
  refine k_scaled ha gq.sz (by decide) (by omega) ?_
  (repeat decreasing_trivial_pre_omega)
  have := trim_len (smul a q)
  have e : (smul a q).length = q.length := by unfold smul; rw [List.length_map]
  exact k_poly_sum gp.sz (Szs.smul ha gq.sz).trim (by decide) (by omega) (by omega) w
theorem gained_no {p q : List Rat} {v : W} (h : Good p q = false) (w : Z "NoGain") : (gm (k + 2)).call "gained" [pL p, pL q, v] ts Q Z := by
  refine call_of h_gained ⟨by decide, by decide⟩ rfl ?_
  unfold by_gained
  (repeat decreasing_trivial_pre_omega)
  exact look_no (k := k) h w
theorem gains_no {p q : List Rat} (h : Good p q = false) (w : Z "NoGain") : (gm (k + 2)).call "gains_of" [pL p, pL q] ts Q Z := by
  refine call_of h_gains_of ⟨by decide, by decide⟩ rfl ?_
  unfold by_gains_of
  (repeat decreasing_trivial_pre_omega)
  exact look_no (k := k) h w
theorem said_ok {p q : List Rat} {a : Rat} (gp : Gd p) (gq : Gd q) (ha : Sz 40 a) (h : Good p q = true) (w : Q (.tup [.str "told", pL (gnd p a q)]) 2) : (gm (k + 6)).call "_law_said" [pL p, pL q, nW a] ts Q Z := by
  refine call_of h__law_said ⟨by decide, by decide⟩ rfl ?_
  unfold fi__law_said
  refine s_try (by rw [gpx]; exact x__law_which) (by exact Nat.lt_add_one 4) ?_
  (repeat decreasing_trivial_pre_omega)
  refine gained_ok gp gq ha h ?_
  refine .inl ?_
  rw [ite_self]
  refine s_rett ?_
  refine rt_str ?_
  refine rt_var rfl (by decide) (.inr rfl) ?_
  refine rt_nil ⟨by show 2 ≤ sizeLine; decide, ?_⟩
  exact w
theorem said_no {p q : List Rat} {v : W} (h : Good p q = false) (w : Q (refW "gain") 2) : (gm (k + 3)).call "_law_said" [pL p, pL q, v] ts Q Z := by
  refine call_of h__law_said ⟨by decide, by decide⟩ rfl ?_
  unfold fi__law_said
  refine s_try (by rw [gpx]; exact x__law_which) (by exact Nat.lt_add_one 4) ?_
  (repeat decreasing_trivial_pre_omega)
  refine gained_no h ?_
  exact e_ret rfl w
theorem refused {p q : List Rat} (h : Good p q = false) (w : Q (.bl true) 2) : (gm (k + 3)).call "_law_refused" [pL p, pL q] ts Q Z := by
  refine call_of h__law_refused ⟨by decide, by decide⟩ rfl ?_
  unfold fi__law_refused
  refine s_try (by rw [gpx]; exact x__law_which) (by exact Nat.lt_add_one 2) ?_
  (repeat decreasing_trivial_pre_omega)
  refine gains_no h ?_
  exact of_some rfl w
theorem good_ev {g : PG} {p q : List Rat} {a0 a1 a2 a3 a4 a7 a8 a9 a10 a11 a12 a13 : Option W} {Q : KQ} {Z : KZ} (w : Q (.bl (Good p q)) 2) : evP g (.and (.chain .le .le (.int 2) (.bi .len (.cons (.var 5) .nil)) (.int 6)) (.one (.chain .le .lt (.int 1) (.bi .len (.cons (.var 6) .nil)) (.bi .len (.cons (.var 5) .nil))))) [a0, a1, a2, a3, a4, some (pL p), some (pL q), a7, a8, a9, a10, a11, a12, a13] Q Z := by
  have yes : ((2 ≤ p.length ∧ p.length ≤ 6) ∧ 1 ≤ q.length ∧ q.length < p.length) → Q (.bl true) 2 := fun h => by
    rw [good_b.mpr h] at w
    exact w
  have no : ¬ ((2 ≤ p.length ∧ p.length ≤ 6) ∧ 1 ≤ q.length ∧ q.length < p.length) → Q (.bl false) 2 := fun h => by
    cases e : Good p q with
    | true => exact absurd (good_b.mp e) h
    | false => rw [e] at w; exact w
  (repeat decreasing_trivial_pre_omega)
  rw [List.length_map]
  refine ifd (fun z1 => ?_) fun z => ?_
  · (repeat decreasing_trivial_pre_omega)
    refine ifd (fun z2 => ?_) fun z => ?_
    · (repeat decreasing_trivial_pre_omega)
      rw [List.length_map]
      refine ifd (fun z3 => ?_) fun z => ?_
      · (repeat decreasing_trivial_pre_omega)
        rw [List.length_map]
        by_cases z4 : (q.length : Int) < p.length
        · rw [decide_eq_true z4]
          exact yes ⟨⟨by omega, by omega⟩, by omega, by omega⟩
        · rw [decide_eq_false z4]
          exact no fun h => z4 (by omega)
      · (repeat decreasing_trivial_pre_omega)
        exact no fun h => z (by omega)
    · (repeat decreasing_trivial_pre_omega)
      exact no fun h => z (by omega)
  · (repeat decreasing_trivial_pre_omega)
    exact no fun h => z (by omega)
theorem law_pure : (gm 40).call "law" [.fn "!"] [] (fun v _ => v = .bl true) (fun _ => False) := by
  refine call_of h_law ⟨by decide, by decide⟩ rfl ?_
  unfold fi_law
  (repeat decreasing_trivial_pre_omega)
  refine i_script fun ln hn => ?_
  (repeat decreasing_trivial_pre_omega)
  refine src_r1 (by unfold lim62; simp; omega) ?_
  refine for_inv (fun e o => ∃ x1 x2 x3 x4 x5 x6 x7 x8 x9 x10 x11 x12 x13, e = [some (.fn "!"), x1, x2, x3, x4, x5, x6, x7, x8, x9, x10, x11, x12, x13]) ⟨_, _, _, _, _, _, _, _, _, _, _, _, _, rfl⟩ (fun w' hw e o K hI hK => ?_) fun e o hI => ?_
  · obtain ⟨x1, x2, x3, x4, x5, x6, x7, x8, x9, x10, x11, x12, x13, rfl⟩ := hI
    obtain ⟨mm, _, hm, rfl⟩ := rg_mem hw
    (repeat decreasing_trivial_pre_omega)
    refine call_urn (by omega) (by omega) fun u => ?_
    (repeat decreasing_trivial_pre_omega)
    refine call_draw (by omega) (by omega) fun way _ _ => ?_
    (repeat decreasing_trivial_pre_omega)
    refine k__law_kind fun kd _ hk => ?_
    (repeat decreasing_trivial_pre_omega)
    refine k__law_drawn_poly (most := 7) (by decide) fun p pn pl pt pz => ?_
    (repeat decreasing_trivial_pre_omega)
    refine k__law_drawn_poly (most := 7) (by decide) fun q qn ql qt qz => ?_
    (repeat decreasing_trivial_pre_omega)
    refine k__law_number fun a _ ha => ?_
    have gp : Gd p := ⟨pt, by omega, pz⟩
    have gq : Gd q := ⟨qt, by omega, qz⟩
    clear pn pl pt pz qn ql qt qz
    (repeat decreasing_trivial_pre_omega)
    refine ite_join (fun e o => o = [] ∧ ∃ q : List Rat, Gd q ∧ e = [some (.fn "!"), some (.int (0 + (mm : Nat) * 1)), some (.loc u), some (.int way), some (.int kd), some (pL p), some (pL q), some (nW a), x8, x9, x10, x11, x12, x13]) (fun h K' hK => ?_) (fun h K' hK => ?_) fun e o h => ?_
    · (repeat decreasing_trivial_pre_omega)
      exact hK _ _ ⟨rfl, [], ⟨rfl, by decide, by decide, fun _ h => nomatch h⟩, rfl⟩
    · (repeat decreasing_trivial_pre_omega)
      exact hK _ _ ⟨rfl, q, gq, rfl⟩
    obtain ⟨rfl, q, gq, rfl⟩ := h
    (repeat decreasing_trivial_pre_omega)
    refine ite_join (fun e o => o = [] ∧ ∃ a : Rat, Sz 40 a ∧ e = [some (.fn "!"), some (.int (0 + (mm : Nat) * 1)), some (.loc u), some (.int way), some (.int kd), some (pL p), some (pL q), some (nW a), x8, x9, x10, x11, x12, x13]) (fun h K' hK => ?_) (fun h K' hK => ?_) fun e o h => ?_
    · (repeat decreasing_trivial_pre_omega)
      exact hK _ _ ⟨rfl, 0, Sz.zero.mono (by decide), rfl⟩
    · (repeat decreasing_trivial_pre_omega)
      exact hK _ _ ⟨rfl, a, ha, rfl⟩
    obtain ⟨rfl, a, ha, rfl⟩ := h
    (repeat decreasing_trivial_pre_omega)
    refine ite_join (fun e o => o = [] ∧ ∃ p q : List Rat, Gd p ∧ Gd q ∧ e = [some (.fn "!"), some (.int (0 + (mm : Nat) * 1)), some (.loc u), some (.int way), some (.int kd), some (pL p), some (pL q), some (nW a), x8, x9, x10, x11, x12, x13]) (fun h K' hK => ?_) (fun h K' hK => ?_) fun e o h => ?_
    · have lp := gp.le
      have lq := gq.le
      (repeat decreasing_trivial_pre_omega)
      rw [show (5 : Int) = ((5 : Nat) : Int) from rfl, cut_hi]
      refine b_cat (sl_ok2 (by simp; omega)) ?_
      rw [show W.tup [.int 2, .int 1] = nW 2 from rfl, map_snoc]
      (repeat decreasing_trivial_pre_omega)
      rw [List.length_map, show (((p.take 5 ++ [(2 : Rat)] : List Rat).length : Nat) : Int) - 1 = (((p.take 5).length : Nat) : Int) from by rw [List.length_append, List.length_singleton]; omega, cut_hi]
      refine k__law_trim (by rw [List.length_take]; omega) ?_
      (repeat decreasing_trivial_pre_omega)
      have h8 : (trim (q.take (p.take 5).length)).length ≤ 8 := Nat.le_trans (trim_len _) (by rw [List.length_take]; omega)
      refine hK _ _ ⟨rfl, p.take 5 ++ [2], trim (q.take (p.take 5).length), ⟨trim_last (by decide) _, by rw [List.length_append, List.length_take, List.length_singleton]; omega, by decide, fun y hy => ?_⟩, ⟨trim_trim _, h8, by decide, fun y hy => gq.sz.get y (List.mem_of_mem_take (trim_mem hy))⟩, rfl⟩
      rcases List.mem_append.mp hy with hy | hy
      · exact gp.sz.get y (List.mem_of_mem_take hy)
      · rw [List.mem_singleton.mp hy]
        exact ⟨by decide, by decide⟩
    · (repeat decreasing_trivial_pre_omega)
      exact hK _ _ ⟨rfl, p, q, gp, gq, rfl⟩
    obtain ⟨rfl, p, q, gp, gq, rfl⟩ := h
    have lp := gp.le
    have lq := gq.le
    repeat (first | refine good_ev ?_ | decreasing_trivial_pre_omega)
    have nog : Good ([] : List Rat) q = false := rfl
    have no1 : Good [1] [1] = false := rfl
    cases hG : Good p q with
    | true =>
      (repeat decreasing_trivial_pre_omega)
      refine for_inv (fun e o => ∃ y11 y12 y13, e = [some (.fn "!"), some (.int (0 + (mm : Nat) * 1)), some (.loc u), some (.int way), some (.int kd), some (pL p), some (pL q), some (nW a), some (pL p), some (pL q), some (.bl true), y11, y12, y13]) ⟨_, _, _, rfl⟩ (fun w' hw e o K hI hK => ?_) fun e o hI => ?_
      · obtain ⟨y11, y12, y13, rfl⟩ := hI
        refine of_tn rfl ?_
        refine exP_weak (o' := []) ?_ (fun i => Nat.zero_le _)
        refine s_tup2 ?_
        (repeat decreasing_trivial_pre_omega)
        refine said_ok gp gq ha hG ?_
        refine .inl ⟨rfl, rfl, ?_⟩
        show exP _ _ _ (put (put _ 12 _ 2) 13 _ 2) _ _
        (repeat decreasing_trivial_pre_omega)
        refine t_var rfl rfl ?_
        have lt : (trim (smul a q)).length ≤ 8 := Nat.le_trans (trim_len _) (by unfold smul; rw [List.length_map]; omega)
        have zs : Szs 80 (trim (smul a q)) := (Szs.smul ha gq.sz).trim
        have lg : (gnd p a q).length ≤ 8 := Nat.le_trans (trim_len _) (by rw [padd_len]; omega)
        have zg : Szs 121 (gnd p a q) := (Szs.padd gp.sz zs).trim
        (repeat decreasing_trivial_pre_omega)
        refine k__law_is_poly zg (by decide) (by omega) (trim_trim _) fun _ => ?_
        (repeat decreasing_trivial_pre_omega)
        refine k__law_poly_often ha gq.sz (by decide) (by omega) ?_
        (repeat decreasing_trivial_pre_omega)
        refine k__law_poly_plus gp.sz zs (by decide) (by omega) (by omega) ?_
        (repeat decreasing_trivial_pre_omega)
        refine ifn (fun z => absurd rfl z) fun _ => ?_
        (repeat decreasing_trivial_pre_omega)
        refine s_app rfl rfl (by show (List.map nW (gnd p a q)).length < _; rw [List.length_map]; exact Nat.lt_of_lt_of_le (by omega : (gnd p a q).length < 1000) (by decide)) ?_
        (repeat decreasing_trivial_pre_omega)
        refine ⟨rfl, ?_⟩
        (repeat decreasing_trivial_pre_omega)
        exact hK _ _ ⟨_, _, _, rfl⟩
      · obtain ⟨y11, y12, y13, rfl⟩ := hI
        refine exP_weak (o' := []) ?_ (fun i => Nat.zero_le _)
        (repeat decreasing_trivial_pre_omega)
        refine said_no nog ?_
        (repeat decreasing_trivial_pre_omega)
        refine refused no1 ?_
        (repeat decreasing_trivial_pre_omega)
        exact hK _ _ ⟨_, _, _, _, _, _, _, _, _, _, _, _, _, rfl⟩
    | false =>
      (repeat decreasing_trivial_pre_omega)
      refine for_inv (fun e o => ∃ y11 y12 y13, e = [some (.fn "!"), some (.int (0 + (mm : Nat) * 1)), some (.loc u), some (.int way), some (.int kd), some (pL p), some (pL q), some (nW a), some (pL p), some (pL q), some (.bl false), y11, y12, y13]) ⟨_, _, _, rfl⟩ (fun w' hw e o K hI hK => ?_) fun e o hI => ?_
      · obtain ⟨y11, y12, y13, rfl⟩ := hI
        refine of_tn rfl ?_
        refine exP_weak (o' := []) ?_ (fun i => Nat.zero_le _)
        refine s_tup ?_
        (repeat decreasing_trivial_pre_omega)
        refine said_no hG ?_
        refine ⟨rfl, ?_⟩
        show exP _ _ _ [] _ _
        (repeat decreasing_trivial_pre_omega)
        refine t_var rfl rfl ?_
        (repeat decreasing_trivial_pre_omega)
        refine refused hG ?_
        (repeat decreasing_trivial_pre_omega)
        exact hK _ _ ⟨_, _, _, rfl⟩
      · obtain ⟨y11, y12, y13, rfl⟩ := hI
        refine exP_weak (o' := []) ?_ (fun i => Nat.zero_le _)
        (repeat decreasing_trivial_pre_omega)
        refine said_no nog ?_
        (repeat decreasing_trivial_pre_omega)
        refine refused no1 ?_
        (repeat decreasing_trivial_pre_omega)
        exact hK _ _ ⟨_, _, _, _, _, _, _, _, _, _, _, _, _, rfl⟩
  · obtain ⟨x1, x2, x3, x4, x5, x6, x7, x8, x9, x10, x11, x12, x13, rfl⟩ := hI
    (repeat decreasing_trivial_pre_omega)
    rfl
theorem law_ok : ∀ ns : List Int, ns.length ≤ 63 → ∃ s', (gam (tabR rows) (findC cons) (exR exs) 40).call "law" [.cl (ns.map W.int)] [] = .ok (.bl true) s' :=
  law_of prim consOk rfl law_pure
end
end Pr

namespace Lw
open PySem PySem.Spec PyProof.Rows L2 Py
theorem law_in : (⟨"law", 102, fi_law, "law"⟩ : Py.Row) ∈ rows := by
  unfold rows
  simp only [List.mem_cons, true_or, or_true]
end Lw
open PySem PySem.W PySem.Calls PyProof.Rows
theorem PySem.Challenge.cw_restward_k53_gained_holds : PySem.Challenge.rw_restward_k53_gained.Holds := by
  w_on; o_law
  refine HandSHeadRun.head_any (r := OpenLaw.row PySem.Challenge.rw_restward_k53_gained) (q := Lw.qv) (H := Lw.hk) (ob := Lw.ob) (M := 20000) (loose := Lw.names) (d := HandSHeadRun.topDef (OpenLaw.row PySem.Challenge.rw_restward_k53_gained).prog 102) (kwd := []) Lw.ob_eq
    (by kernel_rfl) (fun s => by kernel_rfl) Lw.run (by kernel_rfl) (by kernel_rfl) (by kernel_rfl) (by rfl) (by first | assumption | decide +kernel) (by decide +kernel) ⟨rfl, rfl, rfl, rfl, rfl, by decide +kernel⟩ ?hw ?hc
  case hw => w_witness2
  case hc => exact Py.walk_row (rl := ⟨"law", 102, Lw.fi_law, "law"⟩) (x := "_law_script") (k := 39) (wi := Lw.wi) rfl (by kernel_rfl) ⟨rfl, by decide, by decide⟩ (by kernel_rfl) (by kernel_rfl) (by kernel_rfl) Lw.law_in (by rfl) Lw.looks Lw.binds Lw.lookw Lw.bindw (by kernel_rfl) Pr.law_ok

