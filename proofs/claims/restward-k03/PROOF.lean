import PyProof.Rows.All
import Wide.All
import OpenK.AllK
import Wide.FinOn
import HandS.ForMost
import HandS.ForExc
import HandS.Wide
import HandS.Zip
import HandS.Rev
import HandS.Deep
import HandS.IsInst
import HandS.HotCalls
import HandS.ExcIs
import HandS.CallLocal
import HandS.Style
import HandS.SetFor
import HandS.TupAny
import HandS.Defaults
import HandS.HeadEnd
import HandS.HeadHook1
import HandS.HeadHook2
import HandS.HeadHook3
import HandS.HeadHook4
import HandS.Head0
import HandS.Head1
import HandS.Head2
import PySem.Challenge.RW_restward_k03_worths_slopes_shifts
set_option Elab.async false
set_option linter.all false
set_option maxRecDepth 100000
set_option autoImplicit false
set_option maxHeartbeats 0
namespace Py
open PySem

inductive W where
  | non | bl (b : Bool) | int (i : Int) | str (x : Str) | tup (ws : List W) | loc (n : Nat) | cl (ws : List W) | fn (x : Str)

abbrev Sto := List (List W)
abbrev Sl := List (Option W)

inductive R (α : Type) where
  | ok (a : α) (s : Sto) | exc (c : Str) (s : Sto) | bad
def R.bind {α β : Type} (r : R α) (f : α → Sto → R β) : R β := match r with
  | .ok a s => f a s
  | .exc c s => .exc c s
  | .bad => .bad
def R.noex {α : Type} (r : R α) : R α := match r with
  | .exc _ _ => .bad
  | r => r
@[simp] theorem R.bind_ok {α β : Type} (a : α) (s : Sto) (f : α → Sto → R β) : (R.ok a s).bind f = f a s := rfl
@[simp] theorem R.bind_exc {α β : Type} (c : Str) (s : Sto) (f : α → Sto → R β) : (R.exc c s : R α).bind f = .exc c s := rfl
@[simp] theorem R.bind_bad {α β : Type} (f : α → Sto → R β) : (R.bad : R α).bind f = .bad := rfl
@[simp] theorem R.noex_ok {α : Type} (a : α) (s : Sto) : (R.ok a s).noex = .ok a s := rfl
theorem R.bind_assoc {α β γ : Type} (r : R α) (f : α → Sto → R β) (g : β → Sto → R γ) : (r.bind f).bind g = r.bind fun a s => (f a s).bind g := by cases r <;> rfl

inductive Bop where | add | sub | mul | fdiv | mod | pow | shl
inductive Cop where | eq | ne | lt | le | gt | ge | isN | notN | isB | notB | inn | nin
inductive Ty where | int | bool | tuple | list | str | lt
inductive Bi where | len | abs | max2 | min2 | int | all | any | sum | list | tuple | str
inductive Mt where | append | pop | popAt | extend | clear
inductive Ik where | seq | rng1 | rng2 | rng3 | enu | zip | rev
inductive Tn where | name (i : Nat) | nil | cons (t ts : Tn) | tup (ts : Tn)

inductive E where
  | var (i : Nat) | con (x : Str) | fref (x : Str)
  | int (i : Int) | bl (b : Bool) | non | str (x : Str)
  | nil | cons (a as : E)
  | bin (op : Bop) (a b : E) | neg (a : E) | no (a : E)
  | cmp (op : Cop) (a b : E) | chain (op op' : Cop) (a b c : E)
  | and (a b : E) | or (a b : E) | one (a : E) | ite (c a b : E)
  | tup (as : E) | lst (as : E)
  | ix (a b : E) | sl (a lo hi : E) | rv (a : E)
  | call (x : Str) (as : E) | callv (i : Nat) (as : E)
  | bi (f : Bi) (as : E) | mt (m : Mt) (o as : E) | isi (a : E) (t : Ty)
  | comp (own : List (Str × Nat)) (tg : Tn) (k : Ik) (as cond elt : E)

def big : Nat := 2 ^ 62
def bitsOk (i j : Int) : Bool := decide (i.natAbs.log2 + j.natAbs.log2 + 2 ≤ 134217728)
def divOk (j : Int) : Bool := decide (j ≠ 0 ∧ j.natAbs.log2 < 9000)
def alloc (ws : List W) (s : Sto) : R W := .ok (.loc s.length) (s ++ [ws])
def lsq : W → Sto → Option (List W)
  | .loc n, s => s[n]?
  | .cl ws, _ => some ws
  | _, _ => none
def powOk (i j : Int) : Bool := decide (0 ≤ j ∧ j ≤ 1000000 ∧ i.natAbs < 2 ^ 64)
def bop : Bop → W → W → Sto → R W
  | .add, .int i, .int j, s => .ok (.int (i + j)) s
  | .add, .int i, .bl k, s => .ok (.int (i + PyProof.Rows.b2i k)) s
  | .add, .str x, .str y, s => if x.length + y.length ≤ sizeLine then .ok (.str (x ++ y)) s else .bad
  | .add, .loc a, .loc b, s => match s[a]?, s[b]? with
    | some xs, some ys => if xs.length + ys.length ≤ sizeLine then alloc (xs ++ ys) s else .bad
    | _, _ => .bad
  | .add, .tup xs, .tup ys, s => match xs with
    | [] => .bad
    | x :: xr => if (x :: xr).length + ys.length ≤ sizeLine then .ok (.tup (x :: xr ++ ys)) s else .bad
  | .sub, .int i, .int j, s => .ok (.int (i - j)) s
  | .mul, .int i, .int j, s => if bitsOk i j then .ok (.int (i * j)) s else .bad
  | .mul, .loc a, .int k, s => match s[a]? with
    | some xs => if -(2 ^ 63) ≤ k ∧ k < 2 ^ 63 ∧ xs.length * k.toNat ≤ sizeLine then alloc (List.replicate k.toNat xs).flatten s else .bad
    | none => .bad
  | .fdiv, .int i, .int j, s => if divOk j then .ok (.int (i.fdiv j)) s else .bad
  | .mod, .int i, .int j, s => if j ≠ 0 then .ok (.int (i.fmod j)) s else .bad
  | .pow, .int i, .int j, s => if powOk i j then .ok (.int (i ^ j.toNat)) s else .bad
  | .shl, .int i, .int j, s => if powOk i j then .ok (.int (i * 2 ^ j.toNat)) s else .bad
  | _, _, _, _ => .bad
def toD : Nat → Sto → W → Option PyData
  | 0, _, _ => none
  | _ + 1, _, .non => some .none
  | _ + 1, _, .bl b => some (.bool b)
  | _ + 1, _, .int i => some (.int i)
  | _ + 1, _, .str x => some (.str x)
  | n + 1, s, .tup ws => (ws.mapM (toD n s)).map .tuple
  | n + 1, s, .loc a => (s[a]?).bind fun ws => (ws.mapM (toD n s)).map .list
  | n + 1, s, .cl ws => (ws.mapM (toD n s)).map .list
  | _ + 1, _, .fn _ => none
def eqW (a b : W) (s : Sto) : Option Bool := match a, b with
  | .int i, .int j => some (decide (i = j))
  | .str x, .str y => some (decide (x = y))
  | a, b => match toD 16 s a, toD 16 s b with
    | some d, some e => if SeqAt.shaped d && SeqAt.shaped e then some (PyData.eqv d e) else none
    | _, _ => none
def inW (a b : W) (s : Sto) : Option Bool := match toD 16 s a, (lsq b s).bind fun ws => ws.mapM (toD 15 s) with
  | some d, some ds => if SeqAt.shaped d && SeqAt.shaped (.list ds) then some (ds.any fun z => PyData.eqv z d) else none
  | _, _ => none
def ob : Option Bool → Sto → R W
  | some b, s => .ok (.bl b) s
  | none, _ => .bad
def isNon : W → Bool
  | .non => true
  | _ => false
def cop : Cop → W → W → Sto → R W
  | .eq, a, b, s => ob (eqW a b s) s
  | .ne, a, b, s => ob ((eqW a b s).map (!·)) s
  | .lt, .int i, .int j, s => .ok (.bl (decide (i < j))) s
  | .le, .int i, .int j, s => .ok (.bl (decide (i ≤ j))) s
  | .gt, .int i, .int j, s => .ok (.bl (decide (j < i))) s
  | .ge, .int i, .int j, s => .ok (.bl (decide (j ≤ i))) s
  | .isN, a, .non, s => .ok (.bl (isNon a)) s
  | .notN, a, .non, s => .ok (.bl (!isNon a)) s
  | .isB, .bl a, .bl b, s => .ok (.bl (decide (a = b))) s
  | .notB, .bl a, .bl b, s => .ok (.bl (!decide (a = b))) s
  | .inn, a, b, s => ob (inW a b s) s
  | .nin, a, b, s => ob ((inW a b s).map (!·)) s
  | _, _, _, _ => .bad
def atW (ws : List W) (i : Int) : Option W := (L2.ixN ws.length i).bind fun j => ws[j]?
def ixW : W → W → Sto → R W
  | .tup ws, .int i, s => match atW ws i with
    | some w => .ok w s
    | none => .bad
  | .str x, .int i, s => if x.length ≤ sizeLine then match (L2.ixN x.cps.toList.length i).bind fun j => x.cps.toList[j]? with
    | some c => .ok (.str ⟨#[c]⟩) s
    | none => .bad
    else .bad
  | w, .int i, s => match lsq w s with
    | some ws => match atW ws i with
      | some w => .ok w s
      | none => .bad
    | none => .bad
  | _, _, _ => .bad
def cutW (ws : List W) (lo hi : Option Int) : List W := (ws.drop (HT.sIx ws.length 0 lo)).take (HT.sIx ws.length ws.length hi - HT.sIx ws.length 0 lo)
def slW : W → Option Int → Option Int → Sto → R W
  | .tup ws, lo, hi, s => if HT.sIx ws.length 0 lo = 0 ∧ HT.sIx ws.length ws.length hi = ws.length then .bad else .ok (.tup (cutW ws lo hi)) s
  | w, lo, hi, s => match lsq w s with
    | some ws => alloc (cutW ws lo hi) s
    | none => .bad
def negW : W → Sto → R W
  | .int i, s => .ok (.int (-i)) s
  | _, _ => .bad
def truW : W → Sto → Option Bool
  | .bl b, _ => some b
  | .non, _ => some false
  | .int i, _ => some (i != 0)
  | .loc n, s => (s[n]?).map fun ws => !ws.isEmpty
  | .cl ws, _ => some (!ws.isEmpty)
  | .tup ws, _ => some (!ws.isEmpty)
  | _, _ => none
def isiW : Ty → W → Option Bool
  | .int, .int _ => some true
  | .int, .bl _ => some true
  | .int, .fn _ => none
  | .int, _ => some false
  | .bool, .bl _ => some true
  | .bool, .fn _ => none
  | .bool, _ => some false
  | .tuple, .tup _ => some true
  | .tuple, .fn _ => none
  | .tuple, _ => some false
  | .list, .loc _ => some true
  | .list, .cl _ => some true
  | .list, .fn _ => none
  | .list, _ => some false
  | .str, .str _ => some true
  | .str, .fn _ => none
  | .str, _ => some false
  | .lt, .loc _ => some true
  | .lt, .cl _ => some true
  | .lt, .tup _ => some true
  | .lt, .fn _ => none
  | .lt, _ => some false
def bools : List W → Option (List Bool)
  | [] => some []
  | .bl b :: r => (bools r).map (b :: ·)
  | _ :: _ => none
def intsW : List W → Option (List Int)
  | [] => some []
  | .int i :: r => (intsW r).map (i :: ·)
  | _ :: _ => none
def strOk (i : Int) : Bool := decide (i.natAbs.log2 < 1920)
def biLen (ws : List W) (s : Sto) : R W := match ws with
  | [.tup ws] => .ok (.int ws.length) s
  | [.str x] => if x.length ≤ sizeLine then .ok (.int x.length) s else .bad
  | [w] => match lsq w s with
    | some ws => .ok (.int ws.length) s
    | none => .bad
  | _ => .bad
def biAbs (ws : List W) (s : Sto) : R W := match ws with
  | [.int i] => .ok (.int (if i < 0 then -i else i)) s
  | _ => .bad
def biMax (ws : List W) (s : Sto) : R W := match ws with
  | [.int i, .int j] => .ok (.int (if j > i then j else i)) s
  | _ => .bad
def biMin (ws : List W) (s : Sto) : R W := match ws with
  | [.int i, .int j] => .ok (.int (if j < i then j else i)) s
  | _ => .bad
def biInt (ws : List W) (s : Sto) : R W := match ws with
  | [.int i] => .ok (.int i) s
  | [.bl b] => .ok (.int (if b then 1 else 0)) s
  | _ => .bad
def biAll (ws : List W) (s : Sto) : R W := match ws with
  | [w] => match (lsq w s).bind bools with
    | some bs => .ok (.bl (bs.all id)) s
    | none => .bad
  | _ => .bad
def biAny (ws : List W) (s : Sto) : R W := match ws with
  | [w] => match (lsq w s).bind bools with
    | some bs => .ok (.bl (bs.any id)) s
    | none => .bad
  | _ => .bad
def biSum (ws : List W) (s : Sto) : R W := match ws with
  | [w] => match (lsq w s).bind intsW with
    | some ns => .ok (.int ns.sum) s
    | none => .bad
  | _ => .bad
def biList (ws : List W) (s : Sto) : R W := match ws with
  | [.tup ws] => alloc ws s
  | [w] => match lsq w s with
    | some ws => alloc ws s
    | none => .bad
  | _ => .bad
def biTuple (ws : List W) (s : Sto) : R W := match ws with
  | [.tup ws] => .ok (.tup ws) s
  | [w] => match lsq w s with
    | some ws => .ok (.tup ws) s
    | none => .bad
  | _ => .bad
def biStr (ws : List W) (s : Sto) : R W := match ws with
  | [.int i] => if strOk i then .ok (.str (toString i)) s else .bad
  | _ => .bad
def biW : Bi → List W → Sto → R W
  | .len => biLen
  | .abs => biAbs
  | .max2 => biMax
  | .min2 => biMin
  | .int => biInt
  | .all => biAll
  | .any => biAny
  | .sum => biSum
  | .list => biList
  | .tuple => biTuple
  | .str => biStr
def mtAppend (n : Nat) (ws : List W) (s : Sto) : R W := match ws with
  | [w] => match s[n]? with
    | some ws => if ws.length < sizeLine then .ok .non (s.set n (ws ++ [w])) else .bad
    | none => .bad
  | _ => .bad
def mtPop (n : Nat) (ws : List W) (s : Sto) : R W := match ws with
  | [] => match s[n]? with
    | some ws => match ws[ws.length - 1]? with
      | some w => .ok w (s.set n ws.dropLast)
      | none => .bad
    | none => .bad
  | _ => .bad
def mtPopAt (n : Nat) (ws : List W) (s : Sto) : R W := match ws with
  | [.int i] => match s[n]? with
    | some ws => if -(2 ^ 63) ≤ i ∧ i < 2 ^ 63 then match seqIndex? i ws.length with
      | some k => match ws[k]? with
        | some w => .ok w (s.set n (ws.eraseIdx k))
        | none => .bad
      | none => .bad
      else .bad
    | none => .bad
  | _ => .bad
def mtExtend (n : Nat) (ws : List W) (s : Sto) : R W := match ws with
  | [.loc m] => match s[n]?, s[m]? with
    | some xs, some ys => if xs.length + ys.length ≤ sizeLine then .ok .non (s.set n (xs ++ ys)) else .bad
    | _, _ => .bad
  | _ => .bad
def mtClear (n : Nat) (ws : List W) (s : Sto) : R W := match ws with
  | [] => match s[n]? with
    | some _ => .ok .non (s.set n [])
    | none => .bad
  | _ => .bad
def mtW : Mt → W → List W → Sto → R W
  | .append, .loc n, ws, s => mtAppend n ws s
  | .pop, .loc n, ws, s => mtPop n ws s
  | .popAt, .loc n, ws, s => mtPopAt n ws s
  | .extend, .loc n, ws, s => mtExtend n ws s
  | .clear, .loc n, ws, s => mtClear n ws s
  | _, _, _, _ => .bad
def isLoc : W → Sto → Bool
  | .loc n, s => (s[n]?).isSome
  | _, _ => false
def setW : W → W → W → Sto → R Unit
  | .loc n, .int i, w, s => match s[n]? with
    | some ws => match L2.ixN ws.length i with
      | some j => .ok () (s.set n (ws.set j w))
      | none => .bad
    | none => .bad
  | _, _, _, _ => .bad

inductive Src where
  | li (w : W) | tu (ws : List W) | st (x : Str) | rng (lo c : Int) (n : Nat) | enu (w : W) | zp (w u : W) | zt (ws us : List W) | rv (w : W) (n : Nat) | rt (ws : List W)
def itAt : Src → Nat → Sto → Option (Option W)
  | .li w, i, s => (lsq w s).map fun ws => ws[i]?
  | .tu ws, i, _ => some ws[i]?
  | .st x, i, _ => some ((x.cps[i]?).map fun c => .str ⟨#[c]⟩)
  | .rng lo c n, i, _ => some (if i < n then some (.int (lo + (i : Nat) * c)) else none)
  | .enu w, i, s => (lsq w s).map fun ws => (ws[i]?).map fun x => .tup [.int (i : Nat), x]
  | .zp w u, i, s => match lsq w s, lsq u s with
    | some xs, some ys => some (match xs[i]?, ys[i]? with
      | some x, some y => some (.tup [x, y])
      | _, _ => none)
    | _, _ => none
  | .zt xs ys, i, _ => some (match xs[i]?, ys[i]? with
      | some x, some y => some (.tup [x, y])
      | _, _ => none)
  | .rv w n, i, s => if i < n then (lsq w s).bind fun ws => (ws[n - 1 - i]?).map some else some none
  | .rt ws, i, _ => if i < ws.length then (ws[ws.length - 1 - i]?).map some else some none
def lim62 (i : Int) : Bool := decide (-(2 ^ 62) ≤ i ∧ i < 2 ^ 62)
def isLi : W → Sto → Bool
  | .loc n, s => (s[n]?).isSome
  | .cl _, _ => true
  | _, _ => false
def srcSeq (ws : List W) (s : Sto) : Option Src := match ws with
  | [.tup ws] => some (.tu ws)
  | [.str x] => some (.st x)
  | [w] => if isLi w s then some (.li w) else none
  | _ => none
def srcR1 (ws : List W) : Option Src := match ws with
  | [.int j] => if lim62 j then some (.rng 0 1 j.toNat) else none
  | _ => none
def srcR2 (ws : List W) : Option Src := match ws with
  | [.int i, .int j] => if lim62 i && lim62 j then some (.rng i 1 (j - i).toNat) else none
  | _ => none
def srcR3 (ws : List W) : Option Src := match ws with
  | [.int i, .int j, .int c] => if decide (c ≠ 0 ∧ c.natAbs < 1073741824) && Builtin.Range.small i j c then some (.rng i c (Builtin.Range.rangeSize i j c).toNat) else none
  | _ => none
def srcEnu (ws : List W) (s : Sto) : Option Src := match ws with
  | [w] => if isLi w s then some (.enu w) else none
  | _ => none
def srcZip (ws : List W) (s : Sto) : Option Src := match ws with
  | [.tup xs, .tup ys] => some (.zt xs ys)
  | [w, u] => if isLi w s && isLi u s then some (.zp w u) else none
  | _ => none
def srcRev (ws : List W) (s : Sto) : Option Src := match ws with
  | [.tup ws] => some (.rt ws)
  | [w] => (lsq w s).map fun ws => .rv w ws.length
  | _ => none
def srcOf : Ik → List W → Sto → Option Src
  | .seq, ws, s => srcSeq ws s
  | .rng1, ws, _ => srcR1 ws
  | .rng2, ws, _ => srcR2 ws
  | .rng3, ws, _ => srcR3 ws
  | .enu, ws, s => srcEnu ws s
  | .zip, ws, s => srcZip ws s
  | .rev, ws, s => srcRev ws s
mutual
def tnSet : Tn → W → Sl → Option Sl
  | .name i, w, e => some (e.set i (some w))
  | .tup ts, .tup ws, e => tnSets ts ws e
  | _, _, _ => none
def tnSets : Tn → List W → Sl → Option Sl
  | .nil, [], e => some e
  | .cons t ts, w :: ws, e => (tnSet t w e).bind fun e' => tnSets ts ws e'
  | _, _, _ => none
end
def compL (f : W → Sto → R (Option W)) : Nat → Src → Nat → List W → Sto → R (List W)
  | 0, _, _, _, _ => .bad
  | n + 1, src, i, acc, s => match itAt src i s with
    | none => .bad
    | some none => .ok acc s
    | some (some w) => (f w s).bind fun o s' => match o with
      | some v => if acc.length < sizeLine then compL f n src (i + 1) (acc ++ [v]) s' else .bad
      | none => compL f n src (i + 1) acc s'
def wipeS : Sl → List Nat → Sl
  | e, [] => e
  | e, v :: vs => (wipeS e vs).set v none

structure G where
  call : Str → List W → Sto → R W
  con : Str → Option W
  df : Str → Bool
  ex : Str → Bool

def rslot (e : Sl) (i : Nat) (s : Sto) : R W := match e[i]? with
  | some (some w) => .ok w s
  | _ => .bad
def toB : W → Sto → R Bool
  | .bl b, s => .ok b s
  | _, _ => .bad
def toT (w : W) (s : Sto) : R Bool := match truW w s with
  | some b => .ok b s
  | none => .bad
def toI (w : W) (s : Sto) : R Int := match w with
  | .int i => .ok i s
  | _ => .bad

mutual
def ev (g : G) : E → Sl → Sto → R W
  | .var i, e, s => rslot e i s
  | .con x, _, s => match g.con x with
    | some w => .ok w s
    | none => .bad
  | .fref x, _, s => if g.df x then .ok (.fn x) s else .bad
  | .int i, _, s => .ok (.int i) s
  | .bl b, _, s => .ok (.bl b) s
  | .non, _, s => .ok .non s
  | .str x, _, s => .ok (.str x) s
  | .bin op a b, e, s => (ev g a e s).bind fun w s1 => (ev g b e s1).bind fun u s2 => bop op w u s2
  | .neg a, e, s => (ev g a e s).bind fun w s1 => negW w s1
  | .no a, e, s => (ev g a e s).bind fun w s1 => (toB w s1).bind fun b s2 => .ok (.bl (!b)) s2
  | .cmp op a b, e, s => (ev g a e s).bind fun w s1 => (ev g b e s1).bind fun u s2 => cop op w u s2
  | .chain op op' a b c, e, s => (ev g a e s).bind fun w s1 => (ev g b e s1).bind fun u s2 => (cop op w u s2).bind fun z s3 => (toB z s3).bind fun k s3 => if k then (ev g c e s3).bind fun v s4 => cop op' u v s4 else .ok (.bl false) s3
  | .and a b, e, s => (ev g a e s).bind fun w s1 => (toB w s1).bind fun k s2 => if k then ev g b e s2 else .ok (.bl false) s2
  | .or a b, e, s => (ev g a e s).bind fun w s1 => (toB w s1).bind fun k s2 => if k then .ok (.bl true) s2 else ev g b e s2
  | .one a, e, s => ev g a e s
  | .ite c a b, e, s => (evT g c e s).bind fun k s1 => if k then ev g a e s1 else ev g b e s1
  | .tup as, e, s => (evs g as e s).bind fun ws s1 => if ws.length ≤ sizeLine then .ok (.tup ws) s1 else .bad
  | .lst as, e, s => (evs g as e s).bind fun ws s1 => if ws.length ≤ sizeLine then alloc ws s1 else .bad
  | .ix a b, e, s => (ev g a e s).bind fun w s1 => (ev g b e s1).bind fun u s2 => ixW w u s2
  | .sl a lo hi, e, s => (ev g a e s).bind fun w s1 => (evO g lo e s1).bind fun l s2 => (evO g hi e s2).bind fun h s3 => slW w l h s3
  | .rv a, e, s => (ev g a e s).bind fun w s1 => match lsq w s1 with
    | some ws => alloc ws.reverse s1
    | none => .bad
  | .call x as, e, s => (evs g as e s).bind fun ws s1 => g.call x ws s1
  | .callv i as, e, s => match e[i]? with
    | some (some (.fn x)) => if g.df x then (evs g as e s).bind fun ws s1 => g.call x ws s1 else .bad
    | _ => .bad
  | .bi f as, e, s => (evs g as e s).bind fun ws s1 => biW f ws s1
  | .mt m o as, e, s => (ev g o e s).bind fun w s1 => if isLoc w s1 then (evs g as e s1).bind fun ws s2 => mtW m w ws s2 else .bad
  | .isi a t, e, s => (ev g a e s).bind fun w s1 => ob (isiW t w) s1
  | .comp own tg k as cond elt, e, s => (evs g as e s).bind fun ws s1 => match srcOf k ws s1 with
    | none => .bad
    | some src => (compL (fun w s2 => R.noex (match tnSet tg w (wipeS e (own.map Prod.snd)) with
      | none => R.bad
      | some e' => (evT g cond e' s2).bind fun k s3 => if k then (ev g elt e' s3).bind fun v s4 => R.ok (some v) s4 else R.ok none s3)) big src 0 [] s1).bind fun acc s2 => alloc acc s2
  | _, _, _ => .bad
def evs (g : G) : E → Sl → Sto → R (List W)
  | .nil, _, s => .ok [] s
  | .cons a as, e, s => (ev g a e s).bind fun w s1 => (evs g as e s1).bind fun ws s2 => .ok (w :: ws) s2
  | _, _, _ => .bad
def evO (g : G) : E → Sl → Sto → R (Option Int)
  | .nil, _, s => .ok none s
  | .one a, e, s => (ev g a e s).bind fun w s1 => (toI w s1).bind fun i s2 => .ok (some i) s2
  | _, _, _ => .bad
def evT (g : G) : E → Sl → Sto → R Bool
  | .and a b, e, s => (evT g a e s).bind fun k s1 => if k then evT g b e s1 else .ok false s1
  | .or a b, e, s => (evT g a e s).bind fun k s1 => if k then .ok true s1 else evT g b e s1
  | .no a, e, s => (evT g a e s).bind fun k s1 => .ok (!k) s1
  | .one a, e, s => evT g a e s
  | .nil, _, s => .ok true s
  | .cmp op a b, e, s => (ev g a e s).bind fun w s1 => (ev g b e s1).bind fun u s2 => (cop op w u s2).bind fun z s3 => toB z s3
  | .chain op op' a b c, e, s => (ev g a e s).bind fun w s1 => (ev g b e s1).bind fun u s2 => (cop op w u s2).bind fun z s3 => (toB z s3).bind fun k s3 => if k then (ev g c e s3).bind fun v s4 => (cop op' u v s4).bind fun z s5 => toB z s5 else .ok false s3
  | .var i, e, s => (rslot e i s).bind fun w s1 => toT w s1
  | .call x as, e, s => (evs g as e s).bind fun ws s1 => (g.call x ws s1).bind fun w s2 => toT w s2
  | .bi f as, e, s => (evs g as e s).bind fun ws s1 => (biW f ws s1).bind fun w s2 => toT w s2
  | .isi a t, e, s => (ev g a e s).bind fun w s1 => (ob (isiW t w) s1).bind fun w s2 => toT w s2
  | _, _, _ => .bad
end

inductive Ta where | name (i : Nat) | sub (o i : E) | nil | cons (t ts : Ta) | tup (ts : Ta)
inductive Tk where | set (i : Nat) | ret | exp
inductive Sf where | ret | set (i : Nat) | retEq (x : Str)
inductive B where
  | done
  | asg (t : Ta) (e : E) (k : B)
  | par2 (i j : Nat) (a b : E) (k : B)
  | par3 (i j l : Nat) (a b c : E) (k : B)
  | aug (i : Nat) (op : Bop) (e : E) (k : B)
  | ite (c : E) (t f : B) (k : B)
  | whl (c : E) (b : B) (k : B)
  | for_ (t : Tn) (ik : Ik) (as : E) (b : B) (k : B)
  | ret (e : E) (k : B) | retn (k : B) | brk (k : B) | ct (k : B)
  | pass (k : B)
  | exp (e : E) (k : B)
  | raise (c : Str) (k : B)
  | tryr (t : Tk) (e : E) (f : Sf) (k : B)
inductive Fl where | nx (e : Sl) | rt (w : W) | bk (e : Sl) | ct (e : Sl)
def excNames : List (Str × Str) := [("NoFraction", "fraction"), ("NoPolynomial", "polynomial"), ("NoStretch", "stretch"), ("NoRow", "row"), ("NoPair", "pair"), ("NoBack", "back"), ("NoForm", "form"), ("NoParts", "parts"),
  ("NoDegree", "degree"), ("NoSteps", "steps"), ("NoBox", "box"), ("NoGain", "gain"), ("NoText", "text"), ("NoLine", "line"), ("NoName", "name"), ("NoDeed", "deed")]
def whichOf (c : Str) : Option Str := excNames.lookup c
def taN : Ta → Nat
  | .nil => 0
  | .cons _ ts => taN ts + 1
  | _ => 0
mutual
def asg (g : G) : Ta → W → Sl → Sto → R Sl
  | .name i, w, e, s => .ok (e.set i (some w)) s
  | .sub o i, w, e, s => (ev g o e s).bind fun ow s1 => (ev g i e s1).bind fun iw s2 => (setW ow iw w s2).bind fun _ s3 => .ok e s3
  | .tup ts, .tup ws, e, s => if ws.length = taN ts then asgs g ts ws e s else .bad
  | .tup ts, .loc n, e, s => match s[n]? with
    | some ws => if ws.length = taN ts then asgs g ts ws e s else .bad
    | none => .bad
  | _, _, _, _ => .bad
def asgs (g : G) : Ta → List W → Sl → Sto → R Sl
  | .nil, [], e, s => .ok e s
  | .cons t ts, w :: ws, e, s => (asg g t w e s).bind fun e1 s1 => asgs g ts ws e1 s1
  | _, _, _, _ => .bad
end
def whileL (c : Sl → Sto → R Bool) (b : Sl → Sto → R Fl) : Nat → Sl → Sto → R Fl
  | 0, _, _ => .bad
  | n + 1, e, s => (c e s).bind fun t s1 => if t then (b e s1).bind fun f s2 => match f with
      | .nx e' => whileL c b n e' s2
      | .ct e' => whileL c b n e' s2
      | .bk e' => .ok (.nx e') s2
      | .rt w => .ok (.rt w) s2
    else .ok (.nx e) s1
def forL (f : W → Sl → Sto → R Fl) : Nat → Src → Nat → Sl → Sto → R Fl
  | 0, _, _, _, _ => .bad
  | n + 1, src, i, e, s => match itAt src i s with
    | none => .bad
    | some none => .ok (.nx e) s
    | some (some w) => (f w e s).bind fun fl s2 => match fl with
      | .nx e' => forL f n src (i + 1) e' s2
      | .ct e' => forL f n src (i + 1) e' s2
      | .bk e' => .ok (.nx e') s2
      | .rt w => .ok (.rt w) s2
def thn (r : R Fl) (k : Sl → Sto → R Fl) : R Fl := r.bind fun f s => match f with
  | .nx e => k e s
  | f => .ok f s
def exS (g : G) : B → Sl → Sto → R Fl
  | .done, e, s => .ok (.nx e) s
  | .asg t v k, e, s => (ev g v e s).bind fun w s1 => (asg g t w e s1).bind fun e1 s2 => exS g k e1 s2
  | .par2 i j a b k, e, s => (ev g a e s).bind fun w s1 => (ev g b e s1).bind fun u s2 => exS g k ((e.set i (some w)).set j (some u)) s2
  | .par3 i j l a b c k, e, s => (ev g a e s).bind fun w s1 => (ev g b e s1).bind fun u s2 => (ev g c e s2).bind fun v s3 => exS g k (((e.set i (some w)).set j (some u)).set l (some v)) s3
  | .aug i op v k, e, s => (rslot e i s).bind fun w s1 => (ev g v e s1).bind fun u s2 => (match op, w, u with
      | .add, .int x, .int y => R.ok (W.int (x + y)) s2
      | .sub, .int x, .int y => R.ok (W.int (x - y)) s2
      | _, _, _ => R.bad).bind fun z s3 => exS g k (e.set i (some z)) s3
  | .ite c t f k, e, s => (evT g c e s).bind fun b s1 => thn (if b then exS g t e s1 else exS g f e s1) (exS g k)
  | .whl c b k, e, s => thn (whileL (evT g c) (exS g b) big e s) (exS g k)
  | .for_ t ik as b k, e, s => (evs g as e s).bind fun ws s1 => match srcOf ik ws s1 with
    | none => .bad
    | some src => thn (forL (fun w e s => match tnSet t w e with
      | none => .bad
      | some e' => exS g b e' s) big src 0 e s1) (exS g k)
  | .ret v _, e, s => (ev g v e s).bind fun w s1 => .ok (.rt w) s1
  | .retn _, _, s => .ok (.rt .non) s
  | .brk _, e, s => .ok (.bk e) s
  | .ct _, e, s => .ok (.ct e) s
  | .pass k, e, s => exS g k e s
  | .exp v k, e, s => (ev g v e s).bind fun _ s1 => exS g k e s1
  | .raise c _, _, s => if g.ex c then .exc c s else .bad
  | .tryr t v f k, e, s => match ev g v e s with
    | .ok w s1 => match t with
      | .set i => exS g k (e.set i (some w)) s1
      | .ret => .ok (.rt w) s1
      | .exp => exS g k e s1
    | .exc c s1 => match whichOf c with
      | none => .bad
      | some x => match f with
        | .ret => .ok (.rt (.tup [.str "refused", .str x])) s1
        | .set i => exS g k (e.set i (some (.tup [.str "refused", .str x]))) s1
        | .retEq y => .ok (.rt (.bl (decide (x = y)))) s1
    | .bad => .bad

structure Fi where
  ps : List Str
  names : List Str
  body : B
def evF (g : G) (fi : Fi) (ws : List W) (s : Sto) : R W :=
  if ws.length = fi.ps.length then (exS g fi.body (ws.map some ++ List.replicate (fi.names.length - ws.length) none) s).bind fun f s1 => match f with
    | .nx _ => .ok .non s1
    | .rt w => .ok w s1
    | _ => .bad
  else .bad
def gam (tab : Str → Option Fi) (con : Str → Option W) (ex : Str → Bool) : Nat → G
  | 0 => ⟨fun _ _ _ => .bad, con, fun x => (tab x).isSome, ex⟩
  | k + 1 => ⟨fun x ws s => match tab x with
    | some fi => evF (gam tab con ex k) fi ws s
    | none => .bad, con, fun x => (tab x).isSome, ex⟩
end Py
namespace Py
open PySem PySem.Spec PyProof.Rows L2

def FzL (K : PySem.W.Frag) (H : Hp) (a : Addr) (vs : List V) : Prop := (∃ o, H a = some (.frz o (.lst vs))) ∨
  ∃ (o : Obj) (its : Array Value) (n : Nat), K.lookup a = some o ∧ o.cls = .type "list" ∧ o.dict = none ∧ o.data = .seq its n ∧ its.size ≤ sizeLine ∧ Vals vs its.toList
theorem FzL.sq {K : PySem.W.Frag} {H : Hp} {a : Addr} {vs : List V} (h : FzL K H a vs) : SqL K H a vs := by
  rcases h with ⟨o, h⟩ | h
  · exact .inl (.inr ⟨o, h⟩)
  · exact .inr h

section
variable (K : PySem.W.Frag) (mg : Str → Option Value)
mutual
def RW (io : List Addr) (H : Hp) : W → V → Prop
  | .non, v => v = .non
  | .bl b, v => v = .bl b
  | .int i, v => v = .int i
  | .str x, v => v = .str x
  | .tup ws, v => ∃ a vs, v = .ref a ∧ SqT K H a vs ∧ RWs io H ws vs
  | .loc n, v => ∃ a, v = .ref a ∧ io[n]? = some a
  | .cl ws, v => ∃ a vs, v = .ref a ∧ FzL K H a vs ∧ RWs io H ws vs
  | .fn x, v => ∃ f, v = .ref f ∧ mg x = some (.ref f)
def RWs (io : List Addr) (H : Hp) : List W → List V → Prop
  | [], vs => vs = []
  | w :: ws, vs => ∃ v r, vs = v :: r ∧ RW io H w v ∧ RWs io H ws r
end
structure Rel (io : List Addr) (H : Hp) (s : Sto) : Prop where
  len : io.length = s.length
  nd : io.Nodup
  at_ : ∀ (n : Nat) (a : Addr) (ws : List W), io[n]? = some a → s[n]? = some ws → ∃ vs, H a = some (.lst vs) ∧ RWs K mg io H ws vs
end
structure Stp (io : List Addr) (H : Hp) (io' : List Addr) (H' : Hp) : Prop where
  pre : ∃ r, io' = io ++ r
  old : ∀ b o, H b = some o → b ∉ io → H' b = some o
  new : ∀ a, a ∈ io' → a ∈ io ∨ H a = none
theorem Stp.refl {io : List Addr} {H : Hp} : Stp io H io H := ⟨⟨[], by simp⟩, fun _ _ h _ => h, fun _ h => .inl h⟩
theorem Stp.trans {io io1 io2 : List Addr} {H H1 H2 : Hp} (a : Stp io H io1 H1) (b : Stp io1 H1 io2 H2) : Stp io H io2 H2 := by
  obtain ⟨r1, e1⟩ := a.pre
  obtain ⟨r2, e2⟩ := b.pre
  refine ⟨⟨r1 ++ r2, by rw [e2, e1, List.append_assoc]⟩, fun c o h hn => ?_, fun c hc => ?_⟩
  · refine b.old c o (a.old c o h hn) fun z => ?_
    rcases a.new c z with z | z
    · exact hn z
    · rw [z] at h; cases h
  · rcases b.new c hc with z | z
    · exact a.new c z
    · by_cases hm : c ∈ io
      · exact .inl hm
      · refine .inr ?_
        cases q : H c with
        | none => rfl
        | some o => rw [a.old c o q hm] at z; cases z
theorem Stp.get {io io' : List Addr} {H H' : Hp} (t : Stp io H io' H') {n : Nat} {a : Addr} (h : io[n]? = some a) : io'[n]? = some a := by
  obtain ⟨r, e⟩ := t.pre
  rw [e, List.getElem?_append_left (List.getElem?_eq_some_iff.mp h).1]
  exact h
section
variable {K : PySem.W.Frag} {mg : Str → Option Value} {io io' : List Addr} {H H' : Hp} {s : Sto}
theorem Rel.lst (r : Rel K mg io H s) {a : Addr} (h : a ∈ io) : ∃ vs, H a = some (.lst vs) := by
  obtain ⟨n, hn⟩ := List.mem_iff_getElem?.mp h
  have hl : n < s.length := by rw [← r.len]; exact (List.getElem?_eq_some_iff.mp hn).1
  obtain ⟨vs, q, _⟩ := r.at_ n a _ hn (List.getElem?_eq_getElem hl)
  exact ⟨vs, q⟩
theorem Rel.keepT (r : Rel K mg io H s) (t : Stp io H io' H') {a : Addr} {vs : List V} (h : SqT K H a vs) : SqT K H' a vs := by
  rcases h with (h | ⟨o, h⟩) | h
  · refine .inl (.inl (t.old _ _ h fun z => ?_))
    obtain ⟨xs, q⟩ := r.lst z
    rw [h] at q; cases q
  · refine .inl (.inr ⟨o, t.old _ _ h fun z => ?_⟩)
    obtain ⟨xs, q⟩ := r.lst z
    rw [h] at q; cases q
  · exact .inr h
theorem Rel.keepF (r : Rel K mg io H s) (t : Stp io H io' H') {a : Addr} {vs : List V} (h : FzL K H a vs) : FzL K H' a vs := by
  rcases h with ⟨o, h⟩ | h
  · refine .inl ⟨o, t.old _ _ h fun z => ?_⟩
    obtain ⟨xs, q⟩ := r.lst z
    rw [h] at q; cases q
  · exact .inr h
structure Kp (H H' : Hp) : Prop where
  tup : ∀ a xs, H a = some (.tup xs) → H' a = some (.tup xs)
  frz : ∀ a o u, H a = some (.frz o u) → H' a = some (.frz o u)
theorem Kp.refl {H : Hp} : Kp H H := ⟨fun _ _ h => h, fun _ _ _ h => h⟩
theorem Kp.sqT (k : Kp H H') {a : Addr} {vs : List V} (h : SqT K H a vs) : SqT K H' a vs := by
  rcases h with (h | ⟨o, h⟩) | h
  · exact .inl (.inl (k.tup _ _ h))
  · exact .inl (.inr ⟨o, k.frz _ _ _ h⟩)
  · exact .inr h
theorem Kp.fzL (k : Kp H H') {a : Addr} {vs : List V} (h : FzL K H a vs) : FzL K H' a vs := by
  rcases h with ⟨o, h⟩ | h
  · exact .inl ⟨o, k.frz _ _ _ h⟩
  · exact .inr h
mutual
theorem RW.keep (k : Kp H H') {r : List Addr} : ∀ (w : W) (v : V), RW K mg io H w v → RW K mg (io ++ r) H' w v
  | .non, _, h => h
  | .bl _, _, h => h
  | .int _, _, h => h
  | .str _, _, h => h
  | .tup ws, _, ⟨a, vs, e, h1, h2⟩ => ⟨a, vs, e, k.sqT h1, RWs.keep k ws vs h2⟩
  | .loc n, _, ⟨a, e, h⟩ => ⟨a, e, by rw [List.getElem?_append_left (List.getElem?_eq_some_iff.mp h).1]; exact h⟩
  | .cl ws, _, ⟨a, vs, e, h1, h2⟩ => ⟨a, vs, e, k.fzL h1, RWs.keep k ws vs h2⟩
  | .fn _, _, h => h
theorem RWs.keep (k : Kp H H') {r : List Addr} : ∀ (ws : List W) (vs : List V), RWs K mg io H ws vs → RWs K mg (io ++ r) H' ws vs
  | [], _, h => h
  | w :: ws, _, ⟨v, q, e, h1, h2⟩ => ⟨v, q, e, RW.keep k w v h1, RWs.keep k ws q h2⟩
end
theorem Rel.kp (r : Rel K mg io H s) (t : Stp io H io' H') : Kp H H' := by
  refine ⟨fun a xs h => t.old _ _ h fun z => ?_, fun a o u h => t.old _ _ h fun z => ?_⟩
  · obtain ⟨vs, q⟩ := r.lst z
    rw [h] at q
    cases q
  · obtain ⟨vs, q⟩ := r.lst z
    rw [h] at q
    cases q
theorem Rel.mono (r : Rel K mg io H s) (t : Stp io H io' H') (w : W) (v : V) (h : RW K mg io H w v) : RW K mg io' H' w v := by
  obtain ⟨q, rfl⟩ := t.pre
  exact RW.keep (r.kp t) w v h
theorem Rel.monos (r : Rel K mg io H s) (t : Stp io H io' H') (ws : List W) (vs : List V) (h : RWs K mg io H ws vs) : RWs K mg io' H' ws vs := by
  obtain ⟨q, rfl⟩ := t.pre
  exact RWs.keep (r.kp t) ws vs h
theorem RWs.length : ∀ {ws : List W} {vs : List V}, RWs K mg io H ws vs → ws.length = vs.length
  | [], vs, h => by rw [show vs = [] from h]; rfl
  | w :: ws, _, ⟨v, q, e, h1, h2⟩ => by rw [e, List.length_cons, List.length_cons, RWs.length h2]
theorem RWs.get : ∀ {ws : List W} {vs : List V} {i : Nat} {w : W}, RWs K mg io H ws vs → ws[i]? = some w → ∃ v, vs[i]? = some v ∧ RW K mg io H w v
  | [], _, _, _, _, e => by simp at e
  | x :: ws, _, 0, w, ⟨v, q, e, h1, h2⟩, e1 => by
    rw [List.getElem?_cons_zero] at e1
    cases e1
    exact ⟨v, by rw [e]; rfl, h1⟩
  | x :: ws, _, i + 1, w, ⟨v, q, e, h1, h2⟩, e1 => by
    rw [List.getElem?_cons_succ] at e1
    obtain ⟨u, q1, q2⟩ := RWs.get h2 e1
    exact ⟨u, by rw [e, List.getElem?_cons_succ]; exact q1, q2⟩
theorem RWs.of : ∀ {ws : List W} {vs : List V}, ws.length = vs.length → (∀ (i : Nat) w v, ws[i]? = some w → vs[i]? = some v → RW K mg io H w v) → RWs K mg io H ws vs
  | [], [], _, _ => rfl
  | w :: ws, v :: vs, hl, h => ⟨v, vs, rfl, h 0 w v rfl rfl, RWs.of (by simpa using hl) fun i x y h1 h2 => h (i + 1) x y (by simpa using h1) (by simpa using h2)⟩
  | [], _ :: _, hl, _ => by simp at hl
  | _ :: _, [], hl, _ => by simp at hl
theorem RWs.get2 {ws : List W} {vs : List V} (h : RWs K mg io H ws vs) {i : Nat} {w : W} {v : V} (h1 : ws[i]? = some w) (h2 : vs[i]? = some v) : RW K mg io H w v := by
  obtain ⟨u, q1, q2⟩ := h.get h1
  rw [h2] at q1; cases q1
  exact q2
theorem RWs.app : ∀ {ws us : List W} {vs xs : List V}, RWs K mg io H ws vs → RWs K mg io H us xs → RWs K mg io H (ws ++ us) (vs ++ xs)
  | [], _, _, _, h, k => by rw [show _ = [] from h]; exact k
  | w :: ws, _, _, _, ⟨v, q, e, h1, h2⟩, k => ⟨v, q ++ _, by rw [e]; rfl, h1, RWs.app h2 k⟩
theorem RWs.take {ws : List W} {vs : List V} (n : Nat) (h : RWs K mg io H ws vs) : RWs K mg io H (ws.take n) (vs.take n) := by
  refine RWs.of (by rw [List.length_take, List.length_take, h.length]) fun i w v h1 h2 => ?_
  rw [List.getElem?_take] at h1 h2
  split at h1
  · rename_i hi
    rw [if_pos hi] at h2
    exact h.get2 h1 h2
  · cases h1
theorem RWs.drop {ws : List W} {vs : List V} (n : Nat) (h : RWs K mg io H ws vs) : RWs K mg io H (ws.drop n) (vs.drop n) := by
  refine RWs.of (by rw [List.length_drop, List.length_drop, h.length]) fun i w v h1 h2 => ?_
  rw [List.getElem?_drop] at h1 h2
  exact h.get2 h1 h2
theorem RWs.reverse {ws : List W} {vs : List V} (h : RWs K mg io H ws vs) : RWs K mg io H ws.reverse vs.reverse := by
  refine RWs.of (by rw [List.length_reverse, List.length_reverse, h.length]) fun i w v h1 h2 => ?_
  have hl := h.length
  have hi : i < ws.length := by have := (List.getElem?_eq_some_iff.mp h1).1; rwa [List.length_reverse] at this
  rw [List.getElem?_reverse hi] at h1
  rw [List.getElem?_reverse (by omega)] at h2
  rw [← hl] at h2
  exact h.get2 h1 h2
theorem RWs.set {ws : List W} {vs : List V} {w : W} {v : V} (j : Nat) (h : RWs K mg io H ws vs) (hw : RW K mg io H w v) : RWs K mg io H (ws.set j w) (vs.set j v) := by
  refine RWs.of (by rw [List.length_set, List.length_set, h.length]) fun i x y h1 h2 => ?_
  rw [List.getElem?_set] at h1 h2
  by_cases e : j = i
  · rw [if_pos e] at h1 h2
    split at h1
    · split at h2
      · cases h1; cases h2; exact hw
      · cases h2
    · cases h1
  · rw [if_neg e] at h1 h2
    exact h.get2 h1 h2
theorem RWs.dropLast {ws : List W} {vs : List V} (h : RWs K mg io H ws vs) : RWs K mg io H ws.dropLast vs.dropLast := by
  rw [List.dropLast_eq_take, List.dropLast_eq_take, h.length]
  exact h.take _
theorem RWs.erase {ws : List W} {vs : List V} (j : Nat) (h : RWs K mg io H ws vs) : RWs K mg io H (ws.eraseIdx j) (vs.eraseIdx j) := by
  rw [List.eraseIdx_eq_take_drop_succ, List.eraseIdx_eq_take_drop_succ]
  exact (h.take _).app (h.drop _)
theorem RWs.one {w : W} {v : V} (h : RW K mg io H w v) : RWs K mg io H [w] [v] := ⟨v, [], rfl, h, rfl⟩
theorem RWs.two {w u : W} {v x : V} (h : RW K mg io H w v) (k : RW K mg io H u x) : RWs K mg io H [w, u] [v, x] := ⟨v, [x], rfl, h, x, [], rfl, k, rfl⟩
theorem RWs.rep {ws : List W} {vs : List V} (h : RWs K mg io H ws vs) : ∀ n : Nat, RWs K mg io H (List.replicate n ws).flatten (List.replicate n vs).flatten
  | 0 => rfl
  | n + 1 => by
    rw [List.replicate_succ, List.replicate_succ, List.flatten_cons, List.flatten_cons]
    exact h.app (RWs.rep h n)
theorem Rel.sto (r : Rel K mg io H s) {n : Nat} {ws : List W} (h : s[n]? = some ws) : ∃ a vs, io[n]? = some a ∧ H a = some (.lst vs) ∧ RWs K mg io H ws vs := by
  have hl : n < io.length := by rw [r.len]; exact (List.getElem?_eq_some_iff.mp h).1
  have e := List.getElem?_eq_getElem hl
  obtain ⟨vs, q1, q2⟩ := r.at_ n _ ws e h
  exact ⟨_, vs, e, q1, q2⟩
theorem stp_new {p : Addr} {o : HO} (hp : H p = none) : Stp io H (io ++ [p]) (upd H p o) :=
  ⟨⟨[p], rfl⟩, fun b u h _ => by rw [upd_ne (ne_of_none h hp)]; exact h, fun a h => by
    rcases List.mem_append.mp h with h | h
    · exact .inl h
    · rw [List.mem_singleton.mp h]; exact .inr hp⟩
theorem stp_tup {p : Addr} {o : HO} (hp : H p = none) : Stp io H io (upd H p o) :=
  ⟨⟨[], by simp⟩, fun b u h _ => by rw [upd_ne (ne_of_none h hp)]; exact h, fun a h => .inl h⟩
theorem stp_mut {a : Addr} {o : HO} (ha : a ∈ io) : Stp io H io (upd H a o) :=
  ⟨⟨[], by simp⟩, fun b u h hn => by rw [upd_ne (fun z => hn (by rw [z]; exact ha))]; exact h, fun a h => .inl h⟩
theorem Rel.new (r : Rel K mg io H s) {p : Addr} {ws : List W} {vs : List V} (hp : H p = none) (h : RWs K mg io H ws vs) : Rel K mg (io ++ [p]) (upd H p (.lst vs)) (s ++ [ws]) := by
  have t : Stp io H (io ++ [p]) (upd H p (.lst vs)) := stp_new hp
  have np : p ∉ io := fun z => by
    obtain ⟨xs, q⟩ := r.lst z
    rw [hp] at q; cases q
  refine ⟨by rw [List.length_append, List.length_append, r.len]; rfl, ?_, fun n a us h1 h2 => ?_⟩
  · rw [List.nodup_append]
    refine ⟨r.nd, by simp, fun a ha b hb e => ?_⟩
    rw [List.mem_singleton.mp hb] at e
    exact np (by rw [← e]; exact ha)
  · by_cases hn : n < io.length
    · rw [List.getElem?_append_left hn] at h1
      rw [List.getElem?_append_left (by rw [← r.len]; exact hn)] at h2
      obtain ⟨xs, q1, q2⟩ := r.at_ n a us h1 h2
      exact ⟨xs, by rw [upd_ne (ne_of_none q1 hp)]; exact q1, r.monos t _ _ q2⟩
    · have e : n = io.length := by
        have := (List.getElem?_eq_some_iff.mp h1).1
        rw [List.length_append, List.length_singleton] at this
        omega
      subst e
      rw [List.getElem?_append_right (Nat.le_refl _), Nat.sub_self] at h1
      rw [r.len, List.getElem?_append_right (Nat.le_refl _), Nat.sub_self] at h2
      cases h1; cases h2
      exact ⟨vs, upd_same, r.monos t _ _ h⟩
theorem Rel.tup (r : Rel K mg io H s) {p : Addr} {o : HO} (hp : H p = none) : Rel K mg io (upd H p o) s :=
  ⟨r.len, r.nd, fun n a us h1 h2 => by
    obtain ⟨xs, q1, q2⟩ := r.at_ n a us h1 h2
    exact ⟨xs, by rw [upd_ne (ne_of_none q1 hp)]; exact q1, r.monos (stp_tup hp) _ _ q2⟩⟩
theorem Rel.mut (r : Rel K mg io H s) {n : Nat} {a : Addr} {ws : List W} {vs : List V} (ha : io[n]? = some a) (h : RWs K mg io H ws vs) : Rel K mg io (upd H a (.lst vs)) (s.set n ws) := by
  have t : Stp io H io (upd H a (.lst vs)) := stp_mut (List.mem_of_getElem? ha)
  refine ⟨by rw [List.length_set]; exact r.len, r.nd, fun m b us h1 h2 => ?_⟩
  by_cases e : n = m
  · subst e
    rw [ha] at h1; cases h1
    rw [List.getElem?_set_self (by rw [← r.len]; exact (List.getElem?_eq_some_iff.mp ha).1)] at h2
    cases h2
    exact ⟨vs, upd_same, r.monos t _ _ h⟩
  · rw [List.getElem?_set_ne e] at h2
    obtain ⟨xs, q1, q2⟩ := r.at_ m b us h1 h2
    have ne : b ≠ a := fun z => by
      obtain ⟨l1, e1⟩ := List.getElem?_eq_some_iff.mp ha
      obtain ⟨l2, e2⟩ := List.getElem?_eq_some_iff.mp h1
      exact e ((List.getElem_inj r.nd).mp (e1.trans (z.symm.trans e2.symm)))
    exact ⟨xs, by rw [upd_ne ne]; exact q1, r.monos t _ _ q2⟩
end

section
variable {K : PySem.W.Frag} {mg : Str → Option Value} {io io1 : List Addr} {H H1 : Hp} {s : Sto} {D : Addr} {xs ys : List V}
theorem kp_out (hD : H D = some (.lst xs)) : Kp H (upd H D (.lst ys)) :=
  ⟨fun a zs h => by rw [upd_ne (ne_of h hD (by intro z; cases z))]; exact h, fun a o u h => by rw [upd_ne (ne_of h hD (by intro z; cases z))]; exact h⟩
theorem Rel.out (r : Rel K mg io H s) (hn : D ∉ io) (hD : H D = some (.lst xs)) : Rel K mg io (upd H D (.lst ys)) s :=
  ⟨r.len, r.nd, fun n a ws h1 h2 => by
    obtain ⟨vs, q1, q2⟩ := r.at_ n a ws h1 h2
    refine ⟨vs, by rw [upd_ne (fun z => hn (by rw [← z]; exact List.mem_of_getElem? h1))]; exact q1, ?_⟩
    have := RWs.keep (r := []) (kp_out (ys := ys) hD) ws vs q2
    rwa [List.append_nil] at this⟩
theorem Stp.out (t : Stp io H io1 H1) (hD : H D = none) : Stp io H io1 (upd H1 D (.lst ys)) :=
  ⟨t.pre, fun b o h hn => by rw [upd_ne (ne_of_none h hD)]; exact t.old b o h hn, t.new⟩
theorem Stp.add (t : Stp io H io1 H1) (hD : H D = none) : Stp io H (io1 ++ [D]) H1 :=
  ⟨let ⟨r, e⟩ := t.pre; ⟨r ++ [D], by rw [e, List.append_assoc]⟩, t.old, fun a h => by
    rcases List.mem_append.mp h with h | h
    · exact t.new a h
    · rw [List.mem_singleton.mp h]; exact .inr hD⟩
theorem Rel.add {ws : List W} (r : Rel K mg io H s) (hn : D ∉ io) (hD : H D = some (.lst xs)) (k : RWs K mg io H ws xs) : Rel K mg (io ++ [D]) H (s ++ [ws]) := by
  refine ⟨by rw [List.length_append, List.length_append, r.len]; rfl, ?_, fun n a us h1 h2 => ?_⟩
  · rw [List.nodup_append]
    refine ⟨r.nd, by simp, fun a ha b hb e => ?_⟩
    rw [List.mem_singleton.mp hb] at e
    exact hn (by rw [← e]; exact ha)
  · by_cases hl : n < io.length
    · rw [List.getElem?_append_left hl] at h1
      rw [List.getElem?_append_left (by rw [← r.len]; exact hl)] at h2
      obtain ⟨zs, q1, q2⟩ := r.at_ n a us h1 h2
      exact ⟨zs, q1, RWs.keep .refl _ _ q2⟩
    · have e : n = io.length := by
        have := (List.getElem?_eq_some_iff.mp h1).1
        rw [List.length_append, List.length_singleton] at this
        omega
      subst e
      rw [List.getElem?_append_right (Nat.le_refl _), Nat.sub_self] at h1
      rw [r.len, List.getElem?_append_right (Nat.le_refl _), Nat.sub_self] at h2
      cases h1; cases h2
      exact ⟨xs, hD, RWs.keep .refl _ _ k⟩
end
section
variable {K : PySem.W.Frag} {mg : Str → Option Value} {α β : Type}
abbrev KO (α : Type) := α → Sto → List Addr → Hp → Prop
variable (K mg) in
def Out (r : R α) (io : List Addr) (H : Hp) (Q : KO α) (X : KO Str) : Prop := match r with
  | .ok a s => ∀ io' H', Stp io H io' H' → Rel K mg io' H' s → Q a s io' H'
  | .exc c s => ∀ io' H', Stp io H io' H' → Rel K mg io' H' s → X c s io' H'
  | .bad => False
variable {r : R α} {io io' : List Addr} {H H' : Hp} {Q Q' : KO α} {X X' : KO Str} {s : Sto}
theorem Out.imp (h : Out K mg r io H Q X) (hq : ∀ a s io' H', Stp io H io' H' → Rel K mg io' H' s → Q a s io' H' → Q' a s io' H') (hx : ∀ a s io' H', Stp io H io' H' → Rel K mg io' H' s → X a s io' H' → X' a s io' H') : Out K mg r io H Q' X' := by
  cases r with
  | ok a s => exact fun i h' t e => hq _ _ _ _ t e (h i h' t e)
  | exc c s => exact fun i h' t e => hx _ _ _ _ t e (h i h' t e)
  | bad => exact h
theorem Out.after (h : Out K mg r io H Q X) (t : Stp io H io' H') : Out K mg r io' H' Q X := by
  cases r with
  | ok a s => exact fun i h' t' e => h i h' (t.trans t') e
  | exc c s => exact fun i h' t' e => h i h' (t.trans t') e
  | bad => exact h
theorem Out.bind {f : α → Sto → R β} {Q : KO β} (h : Out K mg (r.bind f) io H Q X) : Out K mg r io H (fun a s io' H' => Out K mg (f a s) io' H' Q X) X := by
  cases r with
  | ok a s => exact fun i h' t e => Out.after h t
  | exc c s => exact h
  | bad => exact h
theorem Out.here {a : α} (h : Out K mg (.ok a s) io H Q X) (e : Rel K mg io H s) : Q a s io H := h io H .refl e
theorem Out.alloc {ws : List W} {vs : List V} {p : Addr} {Q : KO W} (h : Out K mg (alloc ws s) io H Q X) (e : Rel K mg io H s) (k : RWs K mg io H ws vs) (hp : H p = none) : Q (.loc s.length) (s ++ [ws]) (io ++ [p]) (upd H p (.lst vs)) :=
  h _ _ (stp_new hp) (e.new hp k)
theorem rw_new {ws : List W} {vs : List V} {p : Addr} (e : Rel K mg io H s) : RW K mg (io ++ [p]) (upd H p (.lst vs)) (.loc s.length) (.ref p) :=
  ⟨p, rfl, by rw [← e.len, List.getElem?_append_right (Nat.le_refl _), Nat.sub_self]; rfl⟩
theorem rw_tup {ws : List W} {vs : List V} {p : Addr} (e : Rel K mg io H s) (k : RWs K mg io H ws vs) (hp : H p = none) : RW K mg io (upd H p (.tup vs)) (.tup ws) (.ref p) :=
  ⟨p, vs, rfl, .of upd_same, e.monos (stp_tup hp) _ _ k⟩
abbrev KV (K : PySem.W.Frag) (mg : Str → Option Value) (Q : VK) : KO W := fun w _ io' H' => ∀ v, RW K mg io' H' w v → Q v H'
theorem Out.val {w : W} {v : V} {Q : VK} (h : Out K mg (.ok w s) io H (KV K mg Q) X) (e : Rel K mg io H s) (k : RW K mg io H w v) : Q v H := h io H .refl e v k
theorem Out.valL {ws : List W} {vs : List V} {p : Addr} {Q : VK} (h : Out K mg (Py.alloc ws s) io H (KV K mg Q) X) (e : Rel K mg io H s) (k : RWs K mg io H ws vs) (hp : H p = none) : Q (.ref p) (upd H p (.lst vs)) :=
  h.alloc e k hp _ (rw_new (ws := ws) e)
theorem Out.valT {ws : List W} {vs : List V} {p : Addr} {Q : VK} (h : Out K mg (.ok (.tup ws) s) io H (KV K mg Q) X) (e : Rel K mg io H s) (k : RWs K mg io H ws vs) (hp : H p = none) : Q (.ref p) (upd H p (.tup vs)) :=
  h _ _ (stp_tup hp) (e.tup hp) _ (rw_tup e k hp)
end
theorem lsq_sq {K : PySem.W.Frag} {mg : Str → Option Value} {io : List Addr} {H : Hp} {s : Sto} {w : W} {v : V} {ws : List W} (e : Rel K mg io H s) (k : RW K mg io H w v) (h : lsq w s = some ws) : ∃ a vs, v = .ref a ∧ SqL K H a vs ∧ RWs K mg io H ws vs := by
  cases w with
  | loc n =>
    obtain ⟨a, rfl, ha⟩ := k
    obtain ⟨b, vs, h1, h2, h3⟩ := e.sto (show s[n]? = some ws from h)
    rw [ha] at h1; cases h1
    exact ⟨a, vs, rfl, .of h2, h3⟩
  | cl us =>
    obtain ⟨a, vs, rfl, h1, h2⟩ := k
    cases (show some us = some ws from h)
    exact ⟨a, vs, rfl, h1.sq, h2⟩
  | non => cases h
  | bl b => cases h
  | int i => cases h
  | str x => cases h
  | tup x => cases h
  | fn x => cases h
end Py
namespace Py
open PySem PySem.Spec PyProof.Rows L2

section
variable {K : PySem.W.Frag} {mg : Str → Option Value} {io : List Addr} {H : Hp} {s : Sto}
theorem mapM_dp {n : Nat} (ih : ∀ (w : W) (d : PyData) (v : V), toD n s w = some d → RW K mg io H w v → Dp K H v d) :
    ∀ (ws : List W) (ds : List PyData) (vs : List V), ws.mapM (toD n s) = some ds → RWs K mg io H ws vs → DpAll K H vs ds
  | [], ds, vs, h, k => by
    rw [List.mapM_nil] at h
    cases h
    rw [show vs = [] from k]
    exact .nil
  | w :: ws, ds, vs, h, k => by
    obtain ⟨v, q, rfl, k1, k2⟩ := k
    rw [List.mapM_cons] at h
    cases h1 : toD n s w with
    | none => rw [h1] at h; cases h
    | some d =>
      rw [h1] at h
      cases h2 : ws.mapM (toD n s) with
      | none => rw [h2] at h; cases h
      | some ds' =>
        rw [h2] at h
        cases h
        exact .cons (ih w d v h1 k1) (mapM_dp ih ws ds' q h2 k2)
theorem toD_dp (e : Rel K mg io H s) : ∀ (n : Nat) (w : W) (d : PyData) (v : V), toD n s w = some d → RW K mg io H w v → Dp K H v d
  | 0, _, _, _, h, _ => by cases h
  | n + 1, .non, d, v, h, k => by cases h; rw [show v = .non from k]; exact .non
  | n + 1, .bl b, d, v, h, k => by cases h; rw [show v = .bl b from k]; exact .bl b
  | n + 1, .int i, d, v, h, k => by cases h; rw [show v = .int i from k]; exact .int i
  | n + 1, .str x, d, v, h, k => by cases h; rw [show v = .str x from k]; exact .str x
  | n + 1, .tup ws, d, v, h, k => by
    obtain ⟨a, vs, rfl, k1, k2⟩ := k
    unfold toD at h
    cases h1 : ws.mapM (toD n s) with
    | none => rw [h1] at h; cases h
    | some ds =>
      rw [h1] at h
      cases h
      exact .tup k1 (mapM_dp (fun w d v => toD_dp e n w d v) ws ds vs h1 k2)
  | n + 1, .loc m, d, v, h, k => by
    unfold toD at h
    cases h0 : s[m]? with
    | none => rw [h0] at h; cases h
    | some ws =>
      rw [h0] at h
      have h : (ws.mapM (toD n s)).map PyData.list = some d := h
      cases h1 : ws.mapM (toD n s) with
      | none => rw [h1] at h; cases h
      | some ds =>
        rw [h1] at h
        cases h
        obtain ⟨a, vs, rfl, k1, k2⟩ := lsq_sq (w := .loc m) e k h0
        exact .lst k1 (mapM_dp (fun w d v => toD_dp e n w d v) ws ds vs h1 k2)
  | n + 1, .cl ws, d, v, h, k => by
    unfold toD at h
    cases h1 : ws.mapM (toD n s) with
    | none => rw [h1] at h; cases h
    | some ds =>
      rw [h1] at h
      cases h
      obtain ⟨a, vs, rfl, k1, k2⟩ := lsq_sq (w := .cl ws) e k rfl
      exact .lst k1 (mapM_dp (fun w d v => toD_dp e n w d v) ws ds vs h1 k2)
  | n + 1, .fn x, d, v, h, k => by cases h
theorem RW.ref_of {w : W} {v : V} (k : RW K mg io H w v) : match w with
    | .non => v = .non
    | .bl b => v = .bl b
    | .int i => v = .int i
    | .str x => v = .str x
    | _ => ∃ a, v = .ref a := by
  cases w with
  | non => exact k
  | bl b => exact k
  | int i => exact k
  | str x => exact k
  | tup ws => obtain ⟨a, vs, e, _⟩ := k; exact ⟨a, e⟩
  | loc n => obtain ⟨a, e, _⟩ := k; exact ⟨a, e⟩
  | cl ws => obtain ⟨a, vs, e, _⟩ := k; exact ⟨a, e⟩
  | fn x => obtain ⟨a, e, _⟩ := k; exact ⟨a, e⟩
end

def rB (K : PySem.W.Frag) (mg : Str → Option Value) (f : W → W → Sto → R W) : R2 := fun x y H Q => ∃ io s w u Z, RW K mg io H w x ∧ RW K mg io H u y ∧ Rel K mg io H s ∧ Out K mg (f w u s) io H (KV K mg Q) Z
def Bop.op : Bop → Operator
  | .add => .Add
  | .sub => .Sub
  | .mul => .Mult
  | .fdiv => .FloorDiv
  | .mod => .Mod
  | .pow => .Pow
  | .shl => .LShift
def Cop.op : Cop → CmpOp
  | .eq => .Eq
  | .ne => .NotEq
  | .lt => .Lt
  | .le => .LtE
  | .gt => .Gt
  | .ge => .GtE
  | .isN => .Is
  | .notN => .IsNot
  | .isB => .Is
  | .notB => .IsNot
  | .inn => .In
  | .nin => .NotIn
section
variable {X : Cx} {k : Nat}
theorem op_mulB : OpR X (binaryOp .Mult) (rI (fun i j => bitsOk i j = true) fun i j => .int (i * j)) := opI fun i j _ _ _ _ _ hc q => mul_int q (by
  have b : ∀ x : Int, Builtin.Int.intBits x ≤ x.natAbs.log2 + 1 := fun x => by
    unfold Builtin.Int.intBits
    split <;> omega
  have h1 := b i
  have h2 := b j
  have h3 : i.natAbs.log2 + j.natAbs.log2 + 2 ≤ 134217728 := of_decide_eq_true hc
  have e : bitsLine = 134217728 := by decide
  unfold IntMulOk
  intro z
  rw [Bool.and_eq_true] at z
  have z2 := z.2
  unfold Builtin.Int.intTooBig at z2
  have z3 := of_decide_eq_true z2
  rw [e] at z3
  omega)
theorem op_fdivB : OpR X (binaryOp .FloorDiv) (rI (fun _ j => divOk j = true) fun i j => .int (i.fdiv j)) := opI fun i j _ _ _ _ _ hc q => by
  have h1 : j ≠ 0 ∧ j.natAbs.log2 < 9000 := of_decide_eq_true hc
  exact floordiv_int h1.1 q (.inl (PyProof.noPylong_of_log2 h1.2))
theorem pow_ok {i j : Int} (h : powOk i j = true) : 0 ≤ j ∧ j ≤ 1000000 ∧ i.natAbs < 2 ^ 64 := of_decide_eq_true h
theorem op_bin (hr : Room k X.A) (op : Bop) : OpR X (binaryOp op.op) (rB X.K X.mg (bop op)) := by
  intro pins st σ H x y v u Q I rx ry h
  obtain ⟨io, s, a, b, Z, ka, kb, e, o⟩ := h
  unfold bop at o
  split at o
  · exact op_add pins st σ H x y v u Q I rx ry ⟨_, _, ka, kb, o.val e rfl⟩
  · exact op_add_ib pins st σ H x y v u Q I rx ry ⟨_, _, ka, kb, o.val e rfl⟩
  · split at o
    · exact op_add_str pins st σ H x y v u Q I rx ry ⟨_, _, ka, kb, by assumption, o.val e rfl⟩
    · exact o.elim
  · split at o
    · rename_i xs ys h1 h2
      split at o
      · obtain ⟨p, rfl, hp⟩ := ka
        obtain ⟨q, rfl, hq⟩ := kb
        obtain ⟨p', vs, hp', l1, r1⟩ := e.sto h1
        obtain ⟨q', us, hq', l2, r2⟩ := e.sto h2
        rw [hp] at hp'; cases hp'
        rw [hq] at hq'; cases hq'
        refine op_cat pins st σ H _ _ v u Q I rx ry ⟨p, q, vs, us, rfl, rfl, l1, l2, by rw [← r1.length, ← r2.length]; assumption, fun z hz => o.valL e (r1.app r2) hz⟩
      · exact o.elim
    · exact o.elim
  · split at o
    · exact o.elim
    · split at o
      · rename_i xr h1
        obtain ⟨p, vs, rfl, hp, r1⟩ := ka
        obtain ⟨q, us, rfl, hq, r2⟩ := kb
        have l1 := r1.length
        have l2 := r2.length
        refine op_catT pins st σ H _ _ v u Q I rx ry ⟨p, q, vs, us, rfl, rfl, hp, hq, fun z => ?_, by rw [← l1, ← l2]; assumption, fun z => ?_, fun _ z hz => o.valT e (r1.app r2) hz⟩
        · rw [z] at l1; simp at l1
        · have hu := List.eq_nil_of_length_eq_zero (by rw [l2, z]; rfl)
          subst hu
          subst z
          refine o.val e ⟨p, vs, rfl, hp, ?_⟩
          have := r1.app (show RWs X.K X.mg io H [] [] from rfl)
          rwa [List.append_nil vs] at this
      · exact o.elim
  · exact op_sub pins st σ H x y v u Q I rx ry ⟨_, _, ka, kb, o.val e rfl⟩
  · split at o
    · exact op_mulB pins st σ H x y v u Q I rx ry ⟨_, _, ka, kb, by assumption, o.val e rfl⟩
    · exact o.elim
  · split at o
    · rename_i xs h1
      split at o
      · rename_i h2
        obtain ⟨p, rfl, hp⟩ := ka
        obtain ⟨p', vs, hp', l1, r1⟩ := e.sto h1
        rw [hp] at hp'; cases hp'
        refine op_rep pins st σ H _ _ v u Q I rx ry ⟨p, _, vs, rfl, kb, l1, h2.1, h2.2.1, by rw [← r1.length]; exact h2.2.2, fun z hz => o.valL e (r1.rep _) hz⟩
      · exact o.elim
    · exact o.elim
  · split at o
    · exact op_fdivB pins st σ H x y v u Q I rx ry ⟨_, _, ka, kb, by assumption, o.val e rfl⟩
    · exact o.elim
  · split at o
    · exact op_modN pins st σ H x y v u Q I rx ry ⟨_, _, ka, kb, by assumption, o.val e rfl⟩
    · exact o.elim
  · split at o
    · rename_i h1
      have h2 := pow_ok h1
      exact op_pow pins st σ H x y v u Q I rx ry ⟨_, _, ka, kb, h2, o.val e rfl⟩
    · exact o.elim
  · split at o
    · rename_i h1
      have h2 := pow_ok h1
      exact op_shl pins st σ H x y v u Q I rx ry ⟨_, _, ka, kb, h2, o.val e rfl⟩
    · exact o.elim
  · exact o.elim
theorem dec_int (i j : Int) : decide (V.int i = V.int j) = decide (i = j) := by
  by_cases e : i = j
  · rw [e, decide_eq_true rfl, decide_eq_true rfl]
  · rw [decide_eq_false e, decide_eq_false fun z => e (V.int.inj z)]
theorem dec_str (i j : Str) : decide (V.str i = V.str j) = decide (i = j) := by
  by_cases e : i = j
  · rw [e, decide_eq_true rfl, decide_eq_true rfl]
  · rw [decide_eq_false e, decide_eq_false fun z => e (V.str.inj z)]
theorem op_cmp (hr : Room k X.A) (op : Cop) : OpR X (compareOp op.op) (rB X.K X.mg (cop op)) := by
  have hu : X.A.units + 64 < cLine := hr.units
  have hu1 : X.A.units + 65 < cLine := by have := hr.un; omega
  intro pins st σ H x y v u Q I rx ry h
  obtain ⟨io, s, a, b, Z, ka, kb, e, o⟩ := h
  have eqc : ∀ {r : Bool} (z : eqW a b s = some r), (scal x y = true ∧ decide (x = y) = r) ∨ ∃ d e', Dp X.K H x d ∧ Dp X.K H y e' ∧ SeqAt.shaped d = true ∧ SeqAt.shaped e' = true ∧ PyData.eqv d e' = r := by
    intro r z
    unfold eqW at z
    split at z
    · rw [show x = .int _ from ka, show y = .int _ from kb]
      exact .inl ⟨rfl, (dec_int _ _).trans (Option.some.inj z)⟩
    · rw [show x = .str _ from ka, show y = .str _ from kb]
      exact .inl ⟨rfl, (dec_str _ _).trans (Option.some.inj z)⟩
    · split at z
      · rename_i d e' h1 h2
        split at z
        · rename_i hs
          rw [Bool.and_eq_true] at hs
          exact .inr ⟨d, e', toD_dp e 16 a d x h1 ka, toD_dp e 16 b e' y h2 kb, hs.1, hs.2, Option.some.inj z⟩
        · cases z
      · cases z
  have inc : ∀ {r : Bool} (z : inW a b s = some r), ∃ d ds, Dp X.K H x d ∧ Dp X.K H y (.list ds) ∧ SeqAt.shaped d = true ∧ SeqAt.shaped (.list ds) = true ∧ (ds.any fun z => PyData.eqv z d) = r := by
    intro r z
    unfold inW at z
    split at z
    · rename_i d ds h1 h2
      split at z
      · rename_i hs
        rw [Bool.and_eq_true] at hs
        refine ⟨d, ds, toD_dp e 16 a d x h1 ka, ?_, hs.1, hs.2, Option.some.inj z⟩
        cases h3 : lsq b s with
        | none => rw [h3] at h2; cases h2
        | some ws =>
          rw [h3] at h2
          obtain ⟨p, vs, rfl, q1, q2⟩ := lsq_sq e kb h3
          exact .lst q1 (mapM_dp (fun w d v => toD_dp e 15 w d v) ws ds vs h2 q2)
      · cases z
    · cases z
  cases op with
  | eq =>
    have o : Out X.K X.mg (ob (eqW a b s) s) io H (KV X.K X.mg Q) Z := o
    cases hz : eqW a b s with
    | none => rw [hz] at o; exact o.elim
    | some r =>
      rw [hz] at o
      have q := o.val e (show RW X.K X.mg io H (.bl r) (.bl r) from rfl)
      rcases eqc hz with ⟨h1, h2⟩ | ⟨d, e', h1, h2, h3, h4, h5⟩
      · exact op_eq pins st σ H x y v u Q I rx ry ⟨h1, by rw [h2]; exact q⟩
      · exact op_eqD hu pins st σ H x y v u Q I rx ry ⟨d, e', h1, h2, h3, h4, by rw [h5]; exact q⟩
  | ne =>
    have o : Out X.K X.mg (ob ((eqW a b s).map (!·)) s) io H (KV X.K X.mg Q) Z := o
    cases hz : eqW a b s with
    | none => rw [hz] at o; exact o.elim
    | some r =>
      rw [hz] at o
      have q := o.val e (show RW X.K X.mg io H (.bl (!r)) (.bl (!r)) from rfl)
      rcases eqc hz with ⟨h1, h2⟩ | ⟨d, e', h1, h2, h3, h4, h5⟩
      · exact op_ne pins st σ H x y v u Q I rx ry ⟨h1, by rw [h2]; exact q⟩
      · exact op_neD hu pins st σ H x y v u Q I rx ry ⟨d, e', h1, h2, h3, h4, by rw [h5]; exact q⟩
  | inn =>
    have o : Out X.K X.mg (ob (inW a b s) s) io H (KV X.K X.mg Q) Z := o
    cases hz : inW a b s with
    | none => rw [hz] at o; exact o.elim
    | some r =>
      rw [hz] at o
      have q := o.val e (show RW X.K X.mg io H (.bl r) (.bl r) from rfl)
      obtain ⟨d, ds, h1, h2, h3, h4, h5⟩ := inc hz
      exact op_inD hu1 pins st σ H x y v u Q I rx ry ⟨d, ds, h1, h2, h3, h4, by rw [h5]; exact q⟩
  | nin =>
    have o : Out X.K X.mg (ob ((inW a b s).map (!·)) s) io H (KV X.K X.mg Q) Z := o
    cases hz : inW a b s with
    | none => rw [hz] at o; exact o.elim
    | some r =>
      rw [hz] at o
      have q := o.val e (show RW X.K X.mg io H (.bl (!r)) (.bl (!r)) from rfl)
      obtain ⟨d, ds, h1, h2, h3, h4, h5⟩ := inc hz
      exact op_notInD hu1 pins st σ H x y v u Q I rx ry ⟨d, ds, h1, h2, h3, h4, by rw [h5]; exact q⟩
  | lt =>
    cases a <;> first
      | exact False.elim o
      | (cases b <;> first
        | exact False.elim o
        | exact op_lt pins st σ H x y v u Q I rx ry ⟨_, _, ka, kb, o.val e rfl⟩)
  | le =>
    cases a <;> first
      | exact False.elim o
      | (cases b <;> first
        | exact False.elim o
        | exact op_le pins st σ H x y v u Q I rx ry ⟨_, _, ka, kb, o.val e rfl⟩)
  | gt =>
    cases a <;> first
      | exact False.elim o
      | (cases b <;> first
        | exact False.elim o
        | exact op_gt pins st σ H x y v u Q I rx ry ⟨_, _, ka, kb, o.val e rfl⟩)
  | ge =>
    cases a <;> first
      | exact False.elim o
      | (cases b <;> first
        | exact False.elim o
        | exact op_ge pins st σ H x y v u Q I rx ry ⟨_, _, ka, kb, o.val e rfl⟩)
  | isB =>
    cases a <;> first
      | exact False.elim o
      | (cases b <;> first
        | exact False.elim o
        | exact op_isBl pins st σ H x y v u Q I rx ry ⟨_, _, ka, kb, o.val e rfl⟩)
  | notB =>
    cases a <;> first
      | exact False.elim o
      | (cases b <;> first
        | exact False.elim o
        | exact op_notBl pins st σ H x y v u Q I rx ry ⟨_, _, ka, kb, o.val e rfl⟩)
  | isN =>
    cases b <;> first
      | exact False.elim o
      | skip
    refine op_isN pins st σ H x y v u Q I rx ry ⟨kb, ?_⟩
    have q := o.val e (show RW X.K X.mg io H (.bl (isNon a)) (.bl (isNon a)) from rfl)
    have z := ka.ref_of
    cases a <;> first | (rw [show x = _ from z]; exact q) | (obtain ⟨p, rfl⟩ := z; exact q)
  | notN =>
    cases b <;> first
      | exact False.elim o
      | skip
    refine op_notN pins st σ H x y v u Q I rx ry ⟨kb, ?_⟩
    have q := o.val e (show RW X.K X.mg io H (.bl (!isNon a)) (.bl (!isNon a)) from rfl)
    have z := ka.ref_of
    cases a <;> first | (rw [show x = _ from z]; exact q) | (obtain ⟨p, rfl⟩ := z; exact q)
end
end Py
namespace Py
open PySem PySem.Spec PyProof.Rows L2
section
variable {X : Cx} {k : Nat}
theorem ixR_bad {X : Cx} {f : W → W → Sto → R W} {x y : V} {H : Hp} {Q : VK} : True := trivial
theorem atW_at {io : List Addr} {H : Hp} {ws : List W} {vs : List V} {i : Int} {w : W} (r : RWs X.K X.mg io H ws vs) (h : atW ws i = some w) : ∃ v, atI vs i = some v ∧ RW X.K X.mg io H w v := by
  unfold atW at h
  unfold atI
  rw [← r.length]
  cases h1 : ixN ws.length i with
  | none => rw [h1] at h; cases h
  | some j =>
    rw [h1] at h
    exact r.get (show ws[j]? = some w from h)
theorem ix_all : IxR X (rB X.K X.mg ixW) := by
  intro value slice pins st σ H x y v u Q I rx ry h hs
  obtain ⟨io, s, a, b, Z, ka, kb, e, o⟩ := h
  have lst : ∀ {ws : List W} {i : Int}, lsq a s = some ws → b = .int i → Out X.K X.mg (match atW ws i with | some w => .ok w s | none => .bad : R W) io H (KV X.K X.mg Q) Z →
      wpAny (model X.prog X.w) X.A (subscriptTail value slice v u) (EP X pins σ Q) X.xe st := fun {ws i} h1 h2 o2 => by
    subst h2
    clear o
    obtain ⟨p, vs, rfl, h3, h4⟩ := lsq_sq e ka h1
    cases h5 : atW ws i with
    | none => rw [h5] at o2; exact o2.elim
    | some w =>
      rw [h5] at o2
      obtain ⟨z, h6, h7⟩ := atW_at h4 h5
      exact ix_list value slice pins st σ H _ _ v u Q I rx ry ⟨p, vs, i, z, rfl, kb, h3, h6, o2.val e h7⟩ hs
  cases b with
  | int i =>
    cases a with
    | tup ws =>
      obtain ⟨p, vs, rfl, h3, h4⟩ := ka
      have o : Out X.K X.mg (match atW ws i with | some w => .ok w s | none => .bad : R W) io H (KV X.K X.mg Q) Z := o
      cases h5 : atW ws i with
      | none => rw [h5] at o; exact o.elim
      | some w =>
        rw [h5] at o
        obtain ⟨z, h6, h7⟩ := atW_at h4 h5
        exact ix_tup value slice pins st σ H _ _ v u Q I rx ry ⟨p, vs, i, z, rfl, kb, h3, h6, o.val e h7⟩ hs
    | str z =>
      have o : Out X.K X.mg (if z.length ≤ sizeLine then match (L2.ixN z.cps.toList.length i).bind fun j => z.cps.toList[j]? with
        | some c => R.ok (W.str ⟨#[c]⟩) s
        | none => .bad
        else .bad) io H (KV X.K X.mg Q) Z := o
      split at o
      · rename_i hz
        split at o
        · rename_i c hc
          exact ix_str value slice pins st σ H _ _ v u Q I rx ry ⟨z, i, c, ka, kb, hz, hc, o.val e rfl⟩ hs
        · exact o.elim
      · exact o.elim
    | loc n =>
      have o : Out X.K X.mg (match lsq (.loc n) s with | some ws => (match atW ws i with | some w => .ok w s | none => .bad) | none => .bad : R W) io H (KV X.K X.mg Q) Z := o
      cases h1 : lsq (.loc n) s with
      | none => rw [h1] at o; exact o.elim
      | some ws => rw [h1] at o; exact lst h1 rfl o
    | cl us =>
      exact lst (ws := us) rfl rfl o
    | non => exact False.elim o
    | bl _ => exact False.elim o
    | int _ => exact False.elim o
    | fn _ => exact False.elim o
  | _ => cases a <;> exact False.elim o
def rSl (K : PySem.W.Frag) (mg : Str → Option Value) : V → Option Int → Option Int → Hp → VK → Prop := fun x lo hi H Q => ∃ io s w Z, RW K mg io H w x ∧ Rel K mg io H s ∧ Out K mg (slW w lo hi s) io H (KV K mg Q) Z
theorem RWs.cut {io : List Addr} {H : Hp} {ws : List W} {vs : List V} (lo hi : Option Int) (r : RWs X.K X.mg io H ws vs) : RWs X.K X.mg io H (cutW ws lo hi) (cutV vs lo hi) := by
  unfold cutW cutV
  rw [r.length]
  exact (r.drop _).take _
theorem sl_all : SlR X (rSl X.K X.mg) := by
  intro pins st σ H x v vl vu lo hi sl Q I rx hs pl pu h
  obtain ⟨io, s, a, Z, ka, e, o⟩ := h
  have lst : ∀ {ws : List W}, lsq a s = some ws → Out X.K X.mg (alloc (cutW ws lo hi) s) io H (KV X.K X.mg Q) Z → rSlL X.K x lo hi H Q := fun {ws} h1 o => by
    obtain ⟨p, vs, rfl, h3, h4⟩ := lsq_sq e ka h1
    exact ⟨p, vs, rfl, h3, fun z hz => o.valL e (h4.cut lo hi) hz⟩
  cases a with
  | tup ws =>
    obtain ⟨p, vs, rfl, h3, h4⟩ := ka
    have o : Out X.K X.mg (if HT.sIx ws.length 0 lo = 0 ∧ HT.sIx ws.length ws.length hi = ws.length then .bad else .ok (.tup (cutW ws lo hi)) s) io H (KV X.K X.mg Q) Z := o
    split at o
    · exact o.elim
    · rename_i hn
      rw [h4.length] at hn
      exact sl_tup pins st σ H _ v vl vu lo hi sl Q I rx hs pl pu ⟨p, vs, rfl, h3, hn, fun z hz => o.valT e (h4.cut lo hi) hz⟩
  | loc n =>
    have o : Out X.K X.mg (match lsq (.loc n) s with | some ws => alloc (cutW ws lo hi) s | none => .bad : R W) io H (KV X.K X.mg Q) Z := o
    cases h1 : lsq (.loc n) s with
    | none => rw [h1] at o; exact o.elim
    | some ws => rw [h1] at o; exact sl_list pins st σ H _ v vl vu lo hi sl Q I rx hs pl pu (lst h1 o)
  | cl us => exact sl_list pins st σ H _ v vl vu lo hi sl Q I rx hs pl pu (lst (ws := us) rfl o)
  | non => exact False.elim o
  | bl _ => exact False.elim o
  | int _ => exact False.elim o
  | str _ => exact False.elim o
  | fn _ => exact False.elim o
def rBi (K : PySem.W.Frag) (mg : Str → Option Value) (f : Bi) : List V → Hp → VK → Prop := fun xs H Q => ∃ io s ws Z, RWs K mg io H ws xs ∧ Rel K mg io H s ∧ Out K mg (biW f ws s) io H (KV K mg Q) Z
def Bi.nm : Bi → Str
  | .len => "len"
  | .abs => "abs"
  | .max2 => "max"
  | .min2 => "min"
  | .int => "int"
  | .all => "all"
  | .any => "any"
  | .sum => "sum"
  | .list => "list"
  | .tuple => "tuple"
  | .str => "str"
def Bi.val : Bi → Value
  | .len => .builtin "len"
  | .abs => .builtin "abs"
  | .max2 => .builtin "max"
  | .min2 => .builtin "min"
  | .int => .type "int"
  | .all => .builtin "all"
  | .any => .builtin "any"
  | .sum => .builtin "sum"
  | .list => .type "list"
  | .tuple => .type "tuple"
  | .str => .type "str"
theorem bools_v {io : List Addr} {H : Hp} : ∀ {ws : List W} {vs : List V} {bs : List Bool}, RWs X.K X.mg io H ws vs → bools ws = some bs → vs = bs.map V.bl
  | [], vs, bs, r, h => by cases h; exact r
  | .bl b :: ws, vs, bs, r, h => by
    obtain ⟨v, q, rfl, h1, h2⟩ := r
    unfold bools at h
    cases h3 : bools ws with
    | none => rw [h3] at h; cases h
    | some bs' =>
      rw [h3] at h
      cases h
      rw [bools_v h2 h3, show v = .bl b from h1]
      rfl
  | .non :: _, _, _, _, h => by cases h
  | .int _ :: _, _, _, _, h => by cases h
  | .str _ :: _, _, _, _, h => by cases h
  | .tup _ :: _, _, _, _, h => by cases h
  | .loc _ :: _, _, _, _, h => by cases h
  | .cl _ :: _, _, _, _, h => by cases h
  | .fn _ :: _, _, _, _, h => by cases h
theorem ints_v {io : List Addr} {H : Hp} : ∀ {ws : List W} {vs : List V} {bs : List Int}, RWs X.K X.mg io H ws vs → intsW ws = some bs → vs = bs.map V.int
  | [], vs, bs, r, h => by cases h; exact r
  | .int b :: ws, vs, bs, r, h => by
    obtain ⟨v, q, rfl, h1, h2⟩ := r
    unfold intsW at h
    cases h3 : intsW ws with
    | none => rw [h3] at h; cases h
    | some bs' =>
      rw [h3] at h
      cases h
      rw [ints_v h2 h3, show v = .int b from h1]
      rfl
  | .non :: _, _, _, _, h => by cases h
  | .bl _ :: _, _, _, _, h => by cases h
  | .str _ :: _, _, _, _, h => by cases h
  | .tup _ :: _, _, _, _, h => by cases h
  | .loc _ :: _, _, _, _, h => by cases h
  | .cl _ :: _, _, _, _, h => by cases h
  | .fn _ :: _, _, _, _, h => by cases h
theorem bi_one {f : Bi} {id : Value} {r : List V → Hp → VK → Prop} (c : CallR X id r)
    (h : ∀ (io : List Addr) (H : Hp) (s : Sto) (ws : List W) (xs : List V) (Q : VK) (Z : KO Str), RWs X.K X.mg io H ws xs → Rel X.K X.mg io H s → Out X.K X.mg (biW f ws s) io H (KV X.K X.mg Q) Z → r xs H Q) : CallR X id (rBi X.K X.mg f) := by
  intro pins st σ H xs us Q I rx hh
  obtain ⟨io, s, ws, Z, k, e, o⟩ := hh
  exact c pins st σ H xs us Q I rx (h io H s ws xs Q Z k e o)
theorem bi_len : CallR X (.builtin "len") (rBi X.K X.mg .len) := bi_one call_len fun io H s ws xs Q Z k e o => by
  replace o : Out X.K X.mg (biLen ws s) io H (KV X.K X.mg Q) Z := o
  unfold biLen at o
  split at o
  · obtain ⟨x, q, rfl, ⟨p, vs, rfl, h3, h4⟩, k2⟩ := k
    exact ⟨.ref p, _, by rw [show q = [] from k2], .inr ⟨vs, h3, h4.length⟩, o.val e rfl⟩
  · rename_i z
    obtain ⟨x, q, rfl, k1, k2⟩ := k
    split at o
    · rename_i hz
      exact ⟨.str z, z.length, by rw [show x = .str z from k1, show q = [] from k2], ⟨hz, rfl⟩, o.val e rfl⟩
    · exact o.elim
  · obtain ⟨x, q, rfl, k1, k2⟩ := k
    rw [show q = [] from k2]
    split at o
    · rename_i h1
      obtain ⟨p, vs, rfl, h3, h4⟩ := lsq_sq e k1 h1
      exact ⟨.ref p, _, rfl, .inl ⟨vs, h3, h4.length⟩, o.val e rfl⟩
    · exact o.elim
  · exact o.elim
theorem bi_abs : CallR X (.builtin "abs") (rBi X.K X.mg .abs) := bi_one call_abs fun io H s ws xs Q Z k e o => by
  replace o : Out X.K X.mg (biAbs ws s) io H (KV X.K X.mg Q) Z := o
  unfold biAbs at o
  split at o
  · rename_i i
    obtain ⟨x, q, rfl, k1, k2⟩ := k
    exact ⟨i, by rw [show x = .int i from k1, show q = [] from k2], o.val e rfl⟩
  · exact o.elim
theorem bi_max (hc : X.calm = true) : CallR X (.builtin "max") (rBi X.K X.mg .max2) := bi_one (call_max2 hc) fun io H s ws xs Q Z k e o => by
  replace o : Out X.K X.mg (biMax ws s) io H (KV X.K X.mg Q) Z := o
  unfold biMax at o
  split at o
  · rename_i i j
    obtain ⟨x, q, rfl, k1, y, q', rfl, k2, k3⟩ := k
    exact ⟨i, j, by rw [show x = .int i from k1, show y = .int j from k2, show q' = [] from k3], o.val e rfl⟩
  · exact o.elim
theorem bi_min (hc : X.calm = true) : CallR X (.builtin "min") (rBi X.K X.mg .min2) := bi_one (call_min2 hc) fun io H s ws xs Q Z k e o => by
  replace o : Out X.K X.mg (biMin ws s) io H (KV X.K X.mg Q) Z := o
  unfold biMin at o
  split at o
  · rename_i i j
    obtain ⟨x, q, rfl, k1, y, q', rfl, k2, k3⟩ := k
    exact ⟨i, j, by rw [show x = .int i from k1, show y = .int j from k2, show q' = [] from k3], o.val e rfl⟩
  · exact o.elim
theorem bi_int : CallR X (.type "int") (rBi X.K X.mg .int) := bi_one call_int1 fun io H s ws xs Q Z k e o => by
  replace o : Out X.K X.mg (biInt ws s) io H (KV X.K X.mg Q) Z := o
  unfold biInt at o
  split at o
  · rename_i i
    obtain ⟨x, q, rfl, k1, k2⟩ := k
    exact .inl ⟨i, by rw [show x = .int i from k1, show q = [] from k2], o.val e rfl⟩
  · rename_i i
    obtain ⟨x, q, rfl, k1, k2⟩ := k
    exact .inr ⟨i, by rw [show x = .bl i from k1, show q = [] from k2], o.val e rfl⟩
  · exact o.elim
theorem bi_str : CallR X (.type "str") (rBi X.K X.mg .str) := bi_one call_str_int fun io H s ws xs Q Z k e o => by
  replace o : Out X.K X.mg (biStr ws s) io H (KV X.K X.mg Q) Z := o
  unfold biStr at o
  split at o
  · rename_i i
    obtain ⟨x, q, rfl, k1, k2⟩ := k
    split at o
    · rename_i h
      exact ⟨i, by rw [show x = .int i from k1, show q = [] from k2], of_decide_eq_true h, o.val e rfl⟩
    · exact o.elim
  · exact o.elim
theorem bi_all (hc : X.calm = true) : CallR X (.builtin "all") (rBi X.K X.mg .all) := bi_one (cr_all hc) fun io H s ws xs Q Z k e o => by
  replace o : Out X.K X.mg (biAll ws s) io H (KV X.K X.mg Q) Z := o
  unfold biAll at o
  split at o
  · rename_i a
    obtain ⟨x, q, rfl, k1, k2⟩ := k
    split at o
    · rename_i bs h0
      cases h1 : lsq a s with
      | none => rw [h1] at h0; cases h0
      | some ws =>
        rw [h1] at h0
        obtain ⟨p, vs, rfl, h3, h4⟩ := lsq_sq e k1 h1
        exact ⟨p, bs, by rw [show q = [] from k2], by rw [← bools_v h4 (show bools ws = some bs from h0)]; exact h3, o.val e rfl⟩
    · exact o.elim
  · exact o.elim
theorem bi_any (hc : X.calm = true) : CallR X (.builtin "any") (rBi X.K X.mg .any) := bi_one (cr_any hc) fun io H s ws xs Q Z k e o => by
  replace o : Out X.K X.mg (biAny ws s) io H (KV X.K X.mg Q) Z := o
  unfold biAny at o
  split at o
  · rename_i a
    obtain ⟨x, q, rfl, k1, k2⟩ := k
    split at o
    · rename_i bs h0
      cases h1 : lsq a s with
      | none => rw [h1] at h0; cases h0
      | some ws =>
        rw [h1] at h0
        obtain ⟨p, vs, rfl, h3, h4⟩ := lsq_sq e k1 h1
        exact ⟨p, bs, by rw [show q = [] from k2], by rw [← bools_v h4 (show bools ws = some bs from h0)]; exact h3, o.val e rfl⟩
    · exact o.elim
  · exact o.elim
theorem bi_sum (hc : X.calm = true) : CallR X (.builtin "sum") (rBi X.K X.mg .sum) := bi_one (cr_sum hc) fun io H s ws xs Q Z k e o => by
  replace o : Out X.K X.mg (biSum ws s) io H (KV X.K X.mg Q) Z := o
  unfold biSum at o
  split at o
  · rename_i a
    obtain ⟨x, q, rfl, k1, k2⟩ := k
    split at o
    · rename_i bs h0
      cases h1 : lsq a s with
      | none => rw [h1] at h0; cases h0
      | some ws =>
        rw [h1] at h0
        obtain ⟨p, vs, rfl, h3, h4⟩ := lsq_sq e k1 h1
        exact ⟨p, bs, by rw [show q = [] from k2], by rw [← ints_v h4 (show intsW ws = some bs from h0)]; exact h3, o.val e rfl⟩
    · exact o.elim
  · exact o.elim
theorem bi_list : CallR X (.type "list") (rBi X.K X.mg .list) := bi_one call_list_of fun io H s ws xs Q Z k e o => by
  replace o : Out X.K X.mg (biList ws s) io H (KV X.K X.mg Q) Z := o
  unfold biList at o
  split at o
  · obtain ⟨x, q, rfl, ⟨p, vs, rfl, h3, h4⟩, k2⟩ := k
    exact ⟨p, vs, by rw [show q = [] from k2], .inr h3, fun z hz => o.valL e h4 hz⟩
  · obtain ⟨x, q, rfl, k1, k2⟩ := k
    rw [show q = [] from k2]
    split at o
    · rename_i h1
      obtain ⟨p, vs, rfl, h3, h4⟩ := lsq_sq e k1 h1
      exact ⟨p, vs, rfl, .inl h3, fun z hz => o.valL e h4 hz⟩
    · exact o.elim
  · exact o.elim
theorem bi_tuple : CallR X (.type "tuple") (rBi X.K X.mg .tuple) := bi_one call_tuple_of fun io H s ws xs Q Z k e o => by
  replace o : Out X.K X.mg (biTuple ws s) io H (KV X.K X.mg Q) Z := o
  unfold biTuple at o
  split at o
  · obtain ⟨x, q, rfl, ⟨p, vs, rfl, h3, h4⟩, k2⟩ := k
    exact ⟨p, vs, by rw [show q = [] from k2], .inr ⟨h3, o.val e ⟨p, vs, rfl, h3, h4⟩⟩⟩
  · obtain ⟨x, q, rfl, k1, k2⟩ := k
    rw [show q = [] from k2]
    split at o
    · rename_i h1
      obtain ⟨p, vs, rfl, h3, h4⟩ := lsq_sq e k1 h1
      exact ⟨p, vs, rfl, .inl ⟨h3, fun z hz => o.valT e h4 hz⟩⟩
    · exact o.elim
  · exact o.elim
theorem bi_rule (hc : X.calm = true) (f : Bi) : CallR X f.val (rBi X.K X.mg f) := by
  cases f with
  | len => exact bi_len
  | abs => exact bi_abs
  | max2 => exact bi_max hc
  | min2 => exact bi_min hc
  | int => exact bi_int
  | all => exact bi_all hc
  | any => exact bi_any hc
  | sum => exact bi_sum hc
  | list => exact bi_list
  | tuple => exact bi_tuple
  | str => exact bi_str
def rMt (K : PySem.W.Frag) (mg : Str → Option Value) (m : Mt) : V → List V → Hp → VK → Prop := fun x xs H Q => ∃ io s w ws Z, RW K mg io H w x ∧ RWs K mg io H ws xs ∧ Rel K mg io H s ∧ Out K mg (mtW m w ws s) io H (KV K mg Q) Z
def Mt.nm : Mt → Str
  | .append => "append"
  | .pop => "pop"
  | .popAt => "pop"
  | .extend => "extend"
  | .clear => "clear"
def Mt.id : Mt → String
  | .append => "list.append"
  | .pop => "list.pop"
  | .popAt => "list.pop"
  | .extend => "list.extend"
  | .clear => "list.clear"
theorem Out.set {io : List Addr} {H : Hp} {s : Sto} {n : Nat} {a : Addr} {w : W} {v : V} {ws : List W} {vs : List V} {Q : VK} {Z : KO Str} (o : Out X.K X.mg (.ok w (s.set n ws)) io H (KV X.K X.mg Q) Z) (e : Rel X.K X.mg io H s) (ha : io[n]? = some a)
    (k : RWs X.K X.mg io H ws vs) (kw : RW X.K X.mg io H w v) : Q v (upd H a (.lst vs)) :=
  o io _ (stp_mut (List.mem_of_getElem? ha)) (e.mut ha k) v (e.mono (stp_mut (List.mem_of_getElem? ha)) _ _ kw)
theorem Rel.same {io : List Addr} {H : Hp} {s : Sto} {n : Nat} {a : Addr} {ws : List W} (e : Rel X.K X.mg io H s) (ha : io[n]? = some a) (h : s[n]? = some ws) : ∃ vs, H a = some (.lst vs) ∧ RWs X.K X.mg io H ws vs := e.at_ n a ws ha h
theorem mt_rule (m : Mt) : MtR X m.id (rMt X.K X.mg m) := by
  intro pins st σ H x xs v us Q I rx rxs h
  obtain ⟨io, s, w, ws, Z, kw, kws, e, o⟩ := h
  cases w with
  | loc n =>
    obtain ⟨a, rfl, ha⟩ := kw
    cases m with
    | append =>
      replace o : Out X.K X.mg (mtAppend n ws s) io H (KV X.K X.mg Q) Z := o
      unfold mtAppend at o
      split at o
      · obtain ⟨y, q, rfl, k1, k2⟩ := kws
        rw [show q = [] from k2] at rxs
        split at o
        · rename_i h1
          split at o
          · obtain ⟨vs, h2, h3⟩ := e.same ha h1
            exact mt_append pins st σ H _ _ v us Q I rx rxs ⟨a, vs, y, rfl, rfl, h2, by rw [← h3.length]; assumption, o.set e ha (h3.app (.one k1)) rfl⟩
          · exact o.elim
        · exact o.elim
      · exact o.elim
    | pop =>
      replace o : Out X.K X.mg (mtPop n ws s) io H (KV X.K X.mg Q) Z := o
      unfold mtPop at o
      split at o
      · split at o
        · rename_i h1
          split at o
          · rename_i h4
            obtain ⟨vs, h2, h3⟩ := e.same ha h1
            obtain ⟨y, h5, h6⟩ := h3.get h4
            rw [h3.length] at h5
            exact mt_pop pins st σ H _ _ v us Q I rx rxs ⟨a, vs, y, rfl, kws, h2, h5, o.set e ha h3.dropLast h6⟩
          · exact o.elim
        · exact o.elim
      · exact o.elim
    | popAt =>
      replace o : Out X.K X.mg (mtPopAt n ws s) io H (KV X.K X.mg Q) Z := o
      unfold mtPopAt at o
      split at o
      · rename_i i
        obtain ⟨y, q, rfl, k1, k2⟩ := kws
        rw [show q = [] from k2, show y = .int i from k1] at rxs
        split at o
        · rename_i h1
          split at o
          · rename_i hi
            split at o
            · rename_i k hk
              split at o
              · rename_i z h4
                obtain ⟨vs, h2, h3⟩ := e.same ha h1
                obtain ⟨y, h5, h6⟩ := h3.get h4
                rw [h3.length] at hk
                exact mt_popAt pins st σ H _ _ v us Q I rx rxs ⟨a, vs, i, k, y, rfl, rfl, h2, hi.1, hi.2, hk, h5, o.set e ha (h3.erase k) h6⟩
              · exact o.elim
            · exact o.elim
          · exact o.elim
        · exact o.elim
      · exact o.elim
    | extend =>
      replace o : Out X.K X.mg (mtExtend n ws s) io H (KV X.K X.mg Q) Z := o
      unfold mtExtend at o
      split at o
      · obtain ⟨y, q, rfl, ⟨c, rfl, hc⟩, k2⟩ := kws
        rw [show q = [] from k2] at rxs
        split at o
        · rename_i h1 h2
          split at o
          · obtain ⟨vs, h3, h4⟩ := e.same ha h1
            obtain ⟨ts, h5, h6⟩ := e.same hc h2
            exact mt_extend pins st σ H _ _ v us Q I rx rxs ⟨a, c, vs, ts, rfl, rfl, h3, h5, by rw [← h4.length, ← h6.length]; assumption, o.set e ha (h4.app h6) rfl⟩
          · exact o.elim
        · exact o.elim
      · exact o.elim
    | clear =>
      replace o : Out X.K X.mg (mtClear n ws s) io H (KV X.K X.mg Q) Z := o
      unfold mtClear at o
      split at o
      · split at o
        · rename_i h1
          obtain ⟨vs, h2, h3⟩ := e.same ha h1
          exact mt_clear pins st σ H _ _ v us Q I rx rxs ⟨a, vs, rfl, kws, h2, o.set (vs := []) e ha rfl rfl⟩
        · exact o.elim
      · exact o.elim
  | _ => cases m <;> exact False.elim o
def rSt (K : PySem.W.Frag) (mg : Str → Option Value) : TSet := fun o i v H Q => ∃ io s ow iw w Z, RW K mg io H ow o ∧ RW K mg io H iw i ∧ RW K mg io H w v ∧ Rel K mg io H s ∧ Out K mg (setW ow iw w s) io H (fun _ s' io' H' => Q H') Z
theorem set_rule : PSet X (rSt X.K X.mg) := by
  intro pins st σ H o i v ov iv u Q I ro ri rv h
  obtain ⟨io, s, ow, iw, w, Z, k1, k2, k3, e, q⟩ := h
  cases ow with
  | loc n =>
    cases iw with
    | int j =>
      obtain ⟨a, rfl, ha⟩ := k1
      have q : Out X.K X.mg (match s[n]? with | some ws => (match L2.ixN ws.length j with | some j => .ok () (s.set n (ws.set j w)) | none => .bad) | none => .bad : R Unit) io H (fun _ s' io' H' => Q H') Z := q
      cases h1 : s[n]? with
      | none => rw [h1] at q; exact q.elim
      | some zs =>
        rw [h1] at q
        have q : Out X.K X.mg (match L2.ixN zs.length j with | some j => .ok () (s.set n (zs.set j w)) | none => .bad : R Unit) io H (fun _ s' io' H' => Q H') Z := q
        cases h4 : L2.ixN zs.length j with
        | none => rw [h4] at q; exact q.elim
        | some m =>
          rw [h4] at q
          obtain ⟨vs, h2, h3⟩ := e.same ha h1
          rw [h3.length] at h4
          exact set_list pins st σ H _ _ v ov iv u Q I ro ri rv ⟨a, vs, j, m, rfl, k2, h2, h4, q io _ (stp_mut (List.mem_of_getElem? ha)) (e.mut ha (h3.set m k3))⟩
    | _ => exact False.elim q
  | _ => exact False.elim q
end
end Py
namespace Py
open PySem PySem.Spec PyProof.Rows L2
def okN (x : Str) : Bool := !(x == ("__debug__" : Str)) && !(x == ("__classdict__" : Str))
def visB (sc : Scope) (x : Str) : Bool := match sc.names.lookup x with
  | some .local => true
  | some .cell => true
  | some .free => true
  | _ => false
def locB (sc : Scope) (x : Str) : Bool := match sc.names.lookup x with
  | some .local => true
  | some .cell => true
  | _ => false
def glB (sc : Scope) (x : Str) : Bool := sc.names.lookup x == some .globalImplicit
def noStar : Expr → Bool
  | .Starred _ _ => false
  | _ => true
def noSet : Expr → Bool
  | .Set _ _ _ => false
  | _ => true
def rcv : Expr → Bool
  | .Name _ _ => true
  | .Subscript _ _ _ => true
  | _ => false
def isNil : E → Bool
  | .nil => true
  | _ => false
def Ty.nm : Ty → Str
  | .int => "int"
  | .bool => "bool"
  | .tuple => "tuple"
  | .list => "list"
  | .str => "str"
  | .lt => ""
mutual
def mTn (N : List Str) (sc : Scope) : Tn → Expr → Bool
  | .name i, t => match t with
    | .Name x _ => N[i]? == some x && sc.names.lookup x == some .local
    | _ => false
  | .tup ts, t => match t with
    | .Tuple es _ _ => mTns N sc ts es
    | _ => false
  | _, _ => false
def mTns (N : List Str) (sc : Scope) : Tn → List Expr → Bool
  | .nil, ts => match ts with
    | [] => true
    | _ => false
  | .cons t ts, es => match es with
    | x :: xs => noStar x && mTn N sc t x && mTns N sc ts xs
    | _ => false
  | _, _ => false
end
def tnIx : Tn → List Nat
  | .name i => [i]
  | .nil => []
  | .cons t ts => tnIx t ++ tnIx ts
  | .tup ts => tnIx ts
def isTup : Expr → Bool
  | .Tuple _ _ _ => true
  | _ => false
def call1 (nm : Str) (q : List Expr → Bool) (sc : Scope) : Expr → Bool
  | .Call (.Name y _) [a] [] _ => y == nm && glB sc y && q [a]
  | _ => false
def call2 (nm : Str) (q : List Expr → Bool) (sc : Scope) : Expr → Bool
  | .Call (.Name y _) [a, b] [] _ => y == nm && glB sc y && q [a, b]
  | _ => false
def call3 (nm : Str) (q : List Expr → Bool) (sc : Scope) : Expr → Bool
  | .Call (.Name y _) [a, b, c] [] _ => y == nm && glB sc y && q [a, b, c]
  | _ => false
theorem call1_ok {nm : Str} {q : List Expr → Bool} {sc : Scope} {x : Expr} (h : call1 nm q sc x = true) : ∃ p a pos, x = .Call (.Name nm p) [a] [] pos ∧ glB sc nm = true ∧ q [a] = true := by
  unfold call1 at h
  split at h
  · rw [Bool.and_eq_true, Bool.and_eq_true, beq_iff_eq] at h
    obtain ⟨⟨rfl, h1⟩, h2⟩ := h
    exact ⟨_, _, _, rfl, h1, h2⟩
  · cases h
theorem call2_ok {nm : Str} {q : List Expr → Bool} {sc : Scope} {x : Expr} (h : call2 nm q sc x = true) : ∃ p a b pos, x = .Call (.Name nm p) [a, b] [] pos ∧ glB sc nm = true ∧ q [a, b] = true := by
  unfold call2 at h
  split at h
  · rw [Bool.and_eq_true, Bool.and_eq_true, beq_iff_eq] at h
    obtain ⟨⟨rfl, h1⟩, h2⟩ := h
    exact ⟨_, _, _, _, rfl, h1, h2⟩
  · cases h
theorem call3_ok {nm : Str} {q : List Expr → Bool} {sc : Scope} {x : Expr} (h : call3 nm q sc x = true) : ∃ p a b c pos, x = .Call (.Name nm p) [a, b, c] [] pos ∧ glB sc nm = true ∧ q [a, b, c] = true := by
  unfold call3 at h
  split at h
  · rw [Bool.and_eq_true, Bool.and_eq_true, beq_iff_eq] at h
    obtain ⟨⟨rfl, h1⟩, h2⟩ := h
    exact ⟨_, _, _, _, _, rfl, h1, h2⟩
  · cases h
def mI (q : List Expr → Bool) (sc : Scope) (t : Expr) : Ik → Expr → Bool
  | .seq, x => q [x]
  | .rng1, x => call1 "range" q sc x
  | .rng2, x => call2 "range" q sc x
  | .rng3, x => call3 "range" q sc x
  | .enu, x => isTup t && call1 "enumerate" q sc x
  | .zip, x => isTup t && call2 "zip" q sc x
  | .rev, x => call1 "reversed" q sc x
def tyOne : Ty → Bool
  | .lt => false
  | _ => true
mutual
def mE (N : List Str) (D : Str → Bool) : E → Scope → Expr → Bool
  | .var i, sc, x => match x with
    | .Name y _ => N[i]? == some y && visB sc y && okN y
    | _ => false
  | .con n, sc, x => match x with
    | .Name y _ => n == y && glB sc y && okN y
    | _ => false
  | .fref n, sc, x => match x with
    | .Name y _ => n == y && glB sc y && okN y
    | _ => false
  | .int i, sc, x => match x with
    | .Constant (.int j) _ _ => i == j
    | _ => false
  | .bl b, sc, x => match x with
    | .Constant (.bool c) _ _ => b == c
    | _ => false
  | .non, sc, x => match x with
    | .Constant .none _ _ => true
    | _ => false
  | .str z, sc, x => match x with
    | .Constant (.str y) _ _ => z == y
    | _ => false
  | .bin op a b, sc, x => match x with
    | .BinOp p o q _ => o == op.op && mE N D a sc p && mE N D b sc q
    | _ => false
  | .neg a, sc, x => match x with
    | .UnaryOp .USub p _ => mE N D a sc p
    | _ => false
  | .no a, sc, x => match x with
    | .UnaryOp .Not p _ => mE N D a sc p
    | _ => false
  | .cmp op a b, sc, x => match x with
    | .Compare p [o] [q] _ => o == op.op && noSet q && mE N D a sc p && mE N D b sc q
    | _ => false
  | .chain op op' a b c, sc, x => match x with
    | .Compare p [o, o'] [q, r] _ => o == op.op && o' == op'.op && noSet r && mE N D a sc p && mE N D b sc q && mE N D c sc r
    | _ => false
  | .and a b, sc, x => match x with
    | .BoolOp .And (p :: q :: r) pos => mE N D a sc p && mE N D b sc (.BoolOp .And (q :: r) pos)
    | _ => false
  | .or a b, sc, x => match x with
    | .BoolOp .Or (p :: q :: r) pos => mE N D a sc p && mE N D b sc (.BoolOp .Or (q :: r) pos)
    | _ => false
  | .one a, sc, x => match x with
    | .BoolOp _ [p] _ => mE N D a sc p
    | _ => false
  | .ite c a b, sc, x => match x with
    | .IfExp t p q _ => mT N D c sc t && mE N D a sc p && mE N D b sc q
    | _ => false
  | .tup as, sc, x => match x with
    | .Tuple es _ _ => mEs N D as sc es
    | _ => false
  | .lst as, sc, x => match x with
    | .List es _ => mEs N D as sc es
    | _ => false
  | .ix a b, sc, x => match x with
    | .Subscript p q _ => (match q with
      | .Slice _ _ _ _ => false
      | _ => mE N D a sc p && mE N D b sc q)
    | _ => false
  | .sl a lo hi, sc, x => match x with
    | .Subscript p (.Slice l h none _) _ => mE N D a sc p && mO N D lo sc l && mO N D hi sc h
    | _ => false
  | .rv a, sc, x => match x with
    | .Subscript p (.Slice none none (some (.UnaryOp .USub (.Constant (.int i) _ _) _)) _) _ => i == 1 && mE N D a sc p
    | _ => false
  | .call f as, sc, x => match x with
    | .Call (.Name y _) (e :: es) [] _ => D f && f == y && glB sc y && okN y && mEs N D as sc (e :: es)
    | _ => false
  | .callv i as, sc, x => match x with
    | .Call (.Name y _) (e :: es) [] _ => N[i]? == some y && visB sc y && okN y && mEs N D as sc (e :: es)
    | _ => false
  | .bi f as, sc, x => match x with
    | .Call (.Name y _) (e :: es) [] _ => f.nm == y && glB sc y && mEs N D as sc (e :: es)
    | _ => false
  | .mt m o as, sc, x => match x with
    | .Call (.Attribute p y ap) [] [] cp => rcv p && m.nm == y && (ap.endLine == cp.line) && mE N D o sc p && isNil as
    | .Call (.Attribute p y ap) (e :: es) [] cp => rcv p && m.nm == y && (ap.endLine == cp.line) && decide (es.length < 20) && mE N D o sc p && mEs N D as sc (e :: es)
    | _ => false
  | .isi a t, sc, x => match x with
    | .Call (.Name y _) [p, .Name z _] [] _ => tyOne t && y == "isinstance" && glB sc y && glB sc z && t.nm == z && noStar p && mE N D a sc p
    | .Call (.Name y _) [p, .Tuple [.Name z _, .Name u _] _ _] [] _ => (match t with
      | .lt => true
      | _ => false) && y == "isinstance" && glB sc y && glB sc z && glB sc u && z == "list" && u == "tuple" && noStar p && mE N D a sc p
    | _ => false
  | .comp own tg k as cond elt, sc, x => match x with
    | .ListComp el [⟨t, iter, ifs, as'⟩] scope _ => as' == 0 && blkC N sc scope own && mTn N (relS scope sc) tg t && (tnIx tg).all (fun i => decide (i ∈ own.map Prod.snd)) && noSet iter && mI (mEs N D as sc) sc t k iter &&
        (match ifs with
          | [] => isNil cond
          | [c] => mT N D cond (relS scope sc) c
          | _ => false) && mE N D elt (relS scope sc) el
    | _ => false
  | .nil, _, _ => false
  | .cons _ _, _, _ => false
def mEs (N : List Str) (D : Str → Bool) : E → Scope → List Expr → Bool
  | .nil, sc, xs => match xs with
    | [] => true
    | _ => false
  | .cons a as, sc, xs => match xs with
    | x :: r => noStar x && mE N D a sc x && mEs N D as sc r
    | _ => false
  | _, _, _ => false
def mO (N : List Str) (D : Str → Bool) : E → Scope → Option Expr → Bool
  | .nil, sc, x => match x with
    | none => true
    | _ => false
  | .one a, sc, x => match x with
    | some e => mE N D a sc e
    | _ => false
  | _, _, _ => false
def mT (N : List Str) (D : Str → Bool) : E → Scope → Expr → Bool
  | .and a b, sc, x => match x with
    | .BoolOp .And (p :: q :: r) pos => mT N D a sc p && mW N D b sc (.BoolOp .And (q :: r) pos)
    | _ => false
  | .or a b, sc, x => match x with
    | .BoolOp .Or (p :: q :: r) pos => mT N D a sc p && mW N D b sc (.BoolOp .Or (q :: r) pos)
    | _ => false
  | .no a, sc, x => match x with
    | .UnaryOp .Not p _ => mT N D a sc p
    | _ => false
  | .cmp op a b, sc, x => match x with
    | .Compare p [o] [q] _ => o == op.op && noSet q && mE N D a sc p && mE N D b sc q
    | _ => false
  | .chain op op' a b c, sc, x => match x with
    | .Compare p [o, o'] [q, r] _ => o == op.op && o' == op'.op && noSet r && mE N D a sc p && mE N D b sc q && mE N D c sc r
    | _ => false
  | .var i, sc, x => match x with
    | .Name y _ => N[i]? == some y && visB sc y && okN y
    | _ => false
  | .call f as, sc, x => match x with
    | .Call (.Name y _) (e :: es) [] _ => D f && f == y && glB sc y && okN y && mEs N D as sc (e :: es)
    | _ => false
  | .bi f as, sc, x => match x with
    | .Call (.Name y _) (e :: es) [] _ => f.nm == y && glB sc y && mEs N D as sc (e :: es)
    | _ => false
  | .isi a t, sc, x => match x with
    | .Call (.Name y _) [p, .Name z _] [] _ => tyOne t && y == "isinstance" && glB sc y && glB sc z && t.nm == z && noStar p && mE N D a sc p
    | .Call (.Name y _) [p, .Tuple [.Name z _, .Name u _] _ _] [] _ => (match t with
      | .lt => true
      | _ => false) && y == "isinstance" && glB sc y && glB sc z && glB sc u && z == "list" && u == "tuple" && noStar p && mE N D a sc p
    | _ => false
  | _, _, _ => false
def mW (N : List Str) (D : Str → Bool) : E → Scope → Expr → Bool
  | .and a b, sc, x => match x with
    | .BoolOp .And (p :: q :: r) pos => mT N D a sc p && mW N D b sc (.BoolOp .And (q :: r) pos)
    | _ => false
  | .or a b, sc, x => match x with
    | .BoolOp .Or (p :: q :: r) pos => mT N D a sc p && mW N D b sc (.BoolOp .Or (q :: r) pos)
    | _ => false
  | .one a, sc, x => match x with
    | .BoolOp _ [p] _ => mT N D a sc p
    | _ => false
  | _, _, _ => false
end
end Py
namespace Py
open PySem PySem.Spec PyProof.Rows L2
structure RSl (K : PySem.W.Frag) (mg : Str → Option Value) (io : List Addr) (H : Hp) (e : Sl) (σ : L2.St) : Prop where
  len : e.length = σ.length
  at_ : ∀ (i : Nat) (w : W), e[i]? = some (some w) → ∃ v, σ[i]? = some (some v) ∧ RW K mg io H w v
section
variable {K : PySem.W.Frag} {mg : Str → Option Value} {io io' : List Addr} {H H' : Hp} {s : Sto} {e : Sl} {σ : L2.St}
theorem RSl.mono (h : RSl K mg io H e σ) (r : Rel K mg io H s) (t : Stp io H io' H') : RSl K mg io' H' e σ :=
  ⟨h.len, fun i w q => let ⟨v, a, b⟩ := h.at_ i w q; ⟨v, a, r.mono t w v b⟩⟩
theorem RSl.set (h : RSl K mg io H e σ) {w : W} {v : V} (i : Nat) (k : RW K mg io H w v) : RSl K mg io H (e.set i (some w)) (σ.set i (some v)) := by
  refine ⟨by rw [List.length_set, List.length_set, h.len], fun j u q => ?_⟩
  rw [List.getElem?_set] at q
  by_cases z : i = j
  · rw [if_pos z] at q
    split at q
    · rename_i hl
      cases q
      exact ⟨v, by rw [List.getElem?_set, if_pos z, if_pos (by rw [← h.len]; exact hl)], k⟩
    · cases q
  · rw [if_neg z] at q
    obtain ⟨x, a, b⟩ := h.at_ j u q
    exact ⟨x, by rw [List.getElem?_set, if_neg z]; exact a, b⟩
theorem RSl.setN (h : RSl K mg io H e σ) (i : Nat) : RSl K mg io H (e.set i none) (σ.set i none) := by
  refine ⟨by rw [List.length_set, List.length_set, h.len], fun j u q => ?_⟩
  rw [List.getElem?_set] at q
  by_cases z : i = j
  · rw [if_pos z] at q
    split at q <;> cases q
  · rw [if_neg z] at q
    obtain ⟨x, a, b⟩ := h.at_ j u q
    exact ⟨x, by rw [List.getElem?_set, if_neg z]; exact a, b⟩
theorem RSl.wipe (h : RSl K mg io H e σ) : ∀ vs : List Nat, RSl K mg io H (wipeS e vs) (L2.wipe σ vs)
  | [] => h
  | v :: vs => (RSl.wipe h vs).setN v
theorem wipe_get (σ : L2.St) : ∀ (vs : List Nat) (j : Nat), (L2.wipe σ vs)[j]? = if j ∈ vs ∧ j < σ.length then some none else σ[j]?
  | [], j => by
    rw [if_neg (fun z => by cases z.1)]
    rfl
  | v :: vs, j => by
    show ((L2.wipe σ vs).set v none)[j]? = _
    rw [List.getElem?_set, wipe_length, wipe_get σ vs j]
    by_cases z : v = j
    · subst z
      rw [if_pos rfl]
      by_cases hl : v < σ.length
      · rw [if_pos hl, if_pos ⟨List.mem_cons_self, hl⟩]
      · rw [if_neg hl, if_neg (fun q => hl q.2)]
        exact (List.getElem?_eq_none_iff.mpr (Nat.le_of_not_lt hl)).symm
    · rw [if_neg z]
      by_cases hm : j ∈ vs ∧ j < σ.length
      · rw [if_pos hm, if_pos ⟨List.mem_cons_of_mem _ hm.1, hm.2⟩]
      · rw [if_neg hm, if_neg (fun q => hm ⟨(List.mem_cons.mp q.1).resolve_left (fun y => z y.symm), q.2⟩)]
theorem wipe_set (σ : L2.St) {vs : List Nat} {i : Nat} (x : Option V) (h : i ∈ vs) : L2.wipe (σ.set i x) vs = L2.wipe σ vs := by
  refine List.ext_getElem? fun j => ?_
  rw [wipe_get, wipe_get, List.length_set, List.getElem?_set]
  by_cases z : i = j
  · subst z
    by_cases hl : i < σ.length
    · rw [if_pos ⟨h, hl⟩, if_pos ⟨h, hl⟩]
    · have e := List.getElem?_eq_none_iff.mpr (Nat.le_of_not_lt hl)
      rw [if_neg (fun q => hl q.2), if_pos rfl, if_neg hl, if_neg (fun q => hl q.2), e]
  · rw [if_neg z]
theorem wipe_wipe (σ : L2.St) (vs : List Nat) : L2.wipe (L2.wipe σ vs) vs = L2.wipe σ vs := by
  refine List.ext_getElem? fun j => ?_
  rw [wipe_get, wipe_get, wipe_length]
  split <;> rfl
theorem rsl_out {D : Addr} {xs ys : List V} (h : RSl K mg io H e σ) (hD : H D = some (.lst xs)) : RSl K mg io (upd H D (.lst ys)) e σ :=
  ⟨h.len, fun i w q => by
    obtain ⟨v, a, b⟩ := h.at_ i w q
    have := RW.keep (r := []) (kp_out (ys := ys) hD) w v b
    rw [List.append_nil] at this
    exact ⟨v, a, this⟩⟩
mutual
def gOf (K : PySem.W.Frag) : Tn → TG
  | .name i => gName i
  | .tup ts => gTup K (gLen ts) (gsOf K ts)
  | .nil => fun _ _ _ _ => False
  | .cons _ _ => fun _ _ _ _ => False
def gsOf (K : PySem.W.Frag) : Tn → TGs
  | .nil => gNil
  | .cons t ts => gCons (gOf K t) (gsOf K ts)
  | .name _ => fun _ _ _ _ => False
  | .tup _ => fun _ _ _ _ => False
def gLen : Tn → Nat
  | .nil => 0
  | .cons _ ts => gLen ts + 1
  | _ => 0
end
theorem tnSets_len : ∀ {ts : Tn} {ws : List W} {e e' : Sl}, tnSets ts ws e = some e' → ws.length = gLen ts
  | .nil, [], _, _, _ => rfl
  | .nil, _ :: _, _, _, h => by cases h
  | .cons t ts, [], _, _, h => by cases h
  | .cons t ts, w :: ws, e, e', h => by
    unfold tnSets at h
    cases h1 : tnSet t w e with
    | none => rw [h1] at h; cases h
    | some e1 =>
      rw [h1] at h
      show ws.length + 1 = gLen ts + 1
      rw [tnSets_len (show tnSets ts ws e1 = some e' from h)]
  | .name _, _, _, _, h => by cases h
  | .tup _, _, _, _, h => by cases h
mutual
theorem gOf_ok (r : Rel K mg io H s) : ∀ (t : Tn) (w : W) (v : V) (e e' : Sl) (σ : L2.St) (Q : L2.St → Hp → Prop), RSl K mg io H e σ → RW K mg io H w v → tnSet t w e = some e' →
    (∀ σ', RSl K mg io H e' σ' → (∀ own : List Nat, (∀ i ∈ tnIx t, i ∈ own) → L2.wipe σ' own = L2.wipe σ own) → Q σ' H) → gOf K t v σ H Q
  | .name i, w, v, e, e', σ, Q, hs, hw, ht, q => by
    cases ht
    exact q _ (hs.set i hw) fun own ho => wipe_set σ _ (ho i (List.mem_singleton.mpr rfl))
  | .tup ts, .tup ws, v, e, e', σ, Q, hs, hw, ht, q => by
    obtain ⟨a, vs, rfl, h1, h2⟩ := hw
    have ht : tnSets ts ws e = some e' := ht
    exact ⟨a, vs, rfl, h1, by rw [← h2.length]; exact tnSets_len ht, gsOf_ok r ts ws vs e e' σ Q hs h2 ht q⟩
  | .tup ts, .non, _, _, _, _, _, _, _, ht, _ => by cases ht
  | .tup ts, .bl _, _, _, _, _, _, _, _, ht, _ => by cases ht
  | .tup ts, .int _, _, _, _, _, _, _, _, ht, _ => by cases ht
  | .tup ts, .str _, _, _, _, _, _, _, _, ht, _ => by cases ht
  | .tup ts, .loc _, _, _, _, _, _, _, _, ht, _ => by cases ht
  | .tup ts, .cl _, _, _, _, _, _, _, _, ht, _ => by cases ht
  | .tup ts, .fn _, _, _, _, _, _, _, _, ht, _ => by cases ht
  | .nil, _, _, _, _, _, _, _, _, ht, _ => by cases ht
  | .cons _ _, _, _, _, _, _, _, _, _, ht, _ => by cases ht
theorem gsOf_ok (r : Rel K mg io H s) : ∀ (ts : Tn) (ws : List W) (vs : List V) (e e' : Sl) (σ : L2.St) (Q : L2.St → Hp → Prop), RSl K mg io H e σ → RWs K mg io H ws vs → tnSets ts ws e = some e' →
    (∀ σ', RSl K mg io H e' σ' → (∀ own : List Nat, (∀ i ∈ tnIx ts, i ∈ own) → L2.wipe σ' own = L2.wipe σ own) → Q σ' H) → gsOf K ts vs σ H Q
  | .nil, [], vs, e, e', σ, Q, hs, hw, ht, q => by
    cases ht
    exact ⟨hw, q σ hs fun _ _ => rfl⟩
  | .nil, _ :: _, _, _, _, _, _, _, _, ht, _ => by cases ht
  | .cons t ts, [], _, _, _, _, _, _, _, ht, _ => by cases ht
  | .cons t ts, w :: ws, vs, e, e', σ, Q, hs, hw, ht, q => by
    obtain ⟨v, vr, rfl, h1, h2⟩ := hw
    unfold tnSets at ht
    cases h3 : tnSet t w e with
    | none => rw [h3] at ht; cases ht
    | some e1 =>
      rw [h3] at ht
      refine ⟨v, vr, rfl, gOf_ok r t w v e e1 σ _ hs h1 h3 fun σ1 hs1 hw1 => ?_⟩
      refine gsOf_ok r ts ws vr e1 e' σ1 Q hs1 h2 ht fun σ2 hs2 hw2 => q σ2 hs2 fun own ho => ?_
      rw [hw2 own fun i hi => ho i (List.mem_append_right _ hi), hw1 own fun i hi => ho i (List.mem_append_left _ hi)]
  | .name _, _, _, _, _, _, _, _, _, ht, _ => by cases ht
  | .tup _, _, _, _, _, _, _, _, _, ht, _ => by cases ht
end
end
theorem starEach_ns {e : Expr} {es : List Expr} {env : PySem.Env} (h : noStar e = true) : starEach (e :: es) env = (false, eval e env) :: starEach es env := by
  cases e <;> first | rfl | cases h
section
variable {X : Cx}
theorem assignEach_ns {e : Expr} {es : List Expr} {env : PySem.Env} (h : noStar e = true) : (assignEach (e :: es) env).map (·.2) = assign e env :: (assignEach es env).map (·.2) ∧ (assignEach (e :: es) env).length = (assignEach es env).length + 1 ∧
    ((assignEach es env).findIdx? (·.1) = none → (assignEach (e :: es) env).findIdx? (·.1) = none) := by
  cases e <;> first | (refine ⟨rfl, rfl, fun z => ?_⟩; exact (by rw [show assignEach (_ :: es) env = (false, _) :: assignEach es env from rfl, List.findIdx?_cons, z]; rfl)) | cases h
mutual
theorem sG (hc : X.calm = true) (nd : X.N.Nodup) : ∀ (t : Tn) (x : Expr), mTn X.N X.env.scope t x = true → PG X x (gOf X.K t)
  | .name i, x, h => by
    unfold mTn at h
    split at h
    · rename_i y pos
      rw [Bool.and_eq_true, beq_iff_eq, beq_iff_eq] at h
      exact pg_name nd h.1 (.inl h.2) (.inr h.2)
    · cases h
  | .tup ts, x, h => by
    unfold mTn at h
    split at h
    · rename_i es kk pos
      obtain ⟨p, l, st⟩ := sGs hc nd ts es h
      exact pg_tup hc p l st
    · cases h
  | .nil, _, h => by cases h
  | .cons _ _, _, h => by cases h
theorem sGs (hc : X.calm = true) (nd : X.N.Nodup) : ∀ (ts : Tn) (xs : List Expr), mTns X.N X.env.scope ts xs = true → PGs X xs (gsOf X.K ts) ∧ (assignEach xs X.env).length = gLen ts ∧ (assignEach xs X.env).findIdx? (·.1) = none
  | .nil, xs, h => by
    unfold mTns at h
    split at h
    · exact ⟨pgs_nil, rfl, rfl⟩
    · cases h
  | .cons t ts, xs, h => by
    unfold mTns at h
    split at h
    · rename_i y ys
      rw [Bool.and_eq_true, Bool.and_eq_true] at h
      obtain ⟨p, l, st⟩ := sGs hc nd ts ys h.2
      obtain ⟨a1, a2, a3⟩ := assignEach_ns (es := ys) (env := X.env) h.1.1
      exact ⟨pgs_cons (sG hc nd t y h.1.2) p a1, by rw [a2, l]; rfl, a3 st⟩
    · cases h
  | .name _, _, h => by cases h
  | .tup _, _, h => by cases h
end
end
section
variable {K : PySem.W.Frag} {mg : Str → Option Value} {io io' : List Addr} {H H' : Hp} {s : Sto}
def JR (K : PySem.W.Frag) (mg : Str → Option Value) (src : Src) (J : It) (io0 : List Addr) (H0 : Hp) : Prop :=
  ∀ (io : List Addr) (H : Hp) (s : Sto), Stp io0 H0 io H → Rel K mg io H s → ∀ i, match itAt src i s with
    | none => True
    | some none => J.stop i H
    | some (some w) => J.go i H ∧ ∀ x H', J.yld i H x H' → Stp io H io H' ∧ Rel K mg io H' s ∧ RW K mg io H' w x
theorem jr_list {w : W} {a : Addr} (k : RW K mg io H w (.ref a)) (r : Rel K mg io H s) (h : isLi w s = true) : JR K mg (.li w) (Itl K a) io H := by
  intro io1 H1 s1 t r1 i
  show match (lsq w s1).map fun ws => ws[i]? with
    | none => True
    | some none => _
    | some (some w) => _
  cases h1 : lsq w s1 with
  | none => trivial
  | some ws =>
    obtain ⟨p, vs, e, h2, h3⟩ := lsq_sq r1 (r.mono t _ _ k) h1
    cases e
    show match some ws[i]? with
      | none => True
      | some none => _
      | some (some w) => _
    cases h4 : ws[i]? with
    | none =>
      have : vs.length ≤ i := by rw [← h3.length]; exact List.getElem?_eq_none_iff.mp h4
      exact ⟨vs, h2, this⟩
    | some u =>
      obtain ⟨v, h5, h6⟩ := h3.get h4
      refine ⟨⟨vs, v, h2, h5⟩, fun x H' y => ?_⟩
      obtain ⟨e, y⟩ := y
      subst e
      have := y vs h2
      rw [h5] at this
      cases this
      exact ⟨.refl, r1, h6⟩
theorem jr_tup {ws : List W} {a : Addr} {vs : List V} (k : SqT K H a vs) (kw : RWs K mg io H ws vs) (r : Rel K mg io H s) : JR K mg (.tu ws) (Itt K a) io H := by
  intro io1 H1 s1 t r1 i
  have h2 := r.keepT t k
  have h3 := r.monos t _ _ kw
  show match some ws[i]? with
    | none => True
    | some none => _
    | some (some w) => _
  cases h4 : ws[i]? with
  | none =>
    have : vs.length ≤ i := by rw [← h3.length]; exact List.getElem?_eq_none_iff.mp h4
    exact ⟨vs, h2, this⟩
  | some u =>
    obtain ⟨v, h5, h6⟩ := h3.get h4
    refine ⟨⟨vs, v, h2, h5⟩, fun x H' y => ?_⟩
    obtain ⟨e, y⟩ := y
    subst e
    have := y vs h2
    rw [h5] at this
    cases this
    exact ⟨.refl, r1, h6⟩
theorem jr_str {x : Str} : JR K mg (.st x) (Its x) io H := by
  intro io1 H1 s1 t r1 i
  show match some ((x.cps[i]?).map fun c => W.str ⟨#[c]⟩) with
    | none => True
    | some none => _
    | some (some w) => _
  cases h4 : x.cps[i]? with
  | none => exact Array.getElem?_eq_none_iff.mp h4
  | some u =>
    refine ⟨(Array.getElem?_eq_some_iff.mp h4).1, fun y H' z => ?_⟩
    obtain ⟨rfl, c, hc, rfl⟩ := z
    rw [h4] at hc
    cases hc
    exact ⟨.refl, r1, rfl⟩
theorem jr_rng {lo : Int} {n : Nat} : JR K mg (.rng lo 1 n) (Itr lo n) io H := by
  intro io1 H1 s1 t r1 i
  show match some (if i < n then some (W.int (lo + (i : Nat) * 1)) else none) with
    | none => True
    | some none => _
    | some (some w) => _
  by_cases h : i < n
  · rw [if_pos h]
    refine ⟨h, fun y H' z => ?_⟩
    obtain ⟨rfl, rfl⟩ := z
    exact ⟨.refl, r1, by rw [Int.mul_one]; rfl⟩
  · rw [if_neg h]
    exact Nat.le_of_not_lt h
theorem jr_rngC {lo c : Int} {n : Nat} : JR K mg (.rng lo c n) (Itc lo c n) io H := by
  intro io1 H1 s1 t r1 i
  show match some (if i < n then some (W.int (lo + (i : Nat) * c)) else none) with
    | none => True
    | some none => _
    | some (some w) => _
  by_cases h : i < n
  · rw [if_pos h]
    refine ⟨h, fun y H' z => ?_⟩
    obtain ⟨rfl, rfl⟩ := z
    exact ⟨.refl, r1, rfl⟩
  · rw [if_neg h]
    exact Nat.le_of_not_lt h
theorem jr_enum {w : W} {a : Addr} (k : RW K mg io H w (.ref a)) (r : Rel K mg io H s) : JR K mg (.enu w) (Ite K a) io H := by
  intro io1 H1 s1 t r1 i
  show match (lsq w s1).map fun ws => (ws[i]?).map fun x => W.tup [.int (i : Nat), x] with
    | none => True
    | some none => _
    | some (some w) => _
  cases h1 : lsq w s1 with
  | none => trivial
  | some ws =>
    obtain ⟨p, vs, e, h2, h3⟩ := lsq_sq r1 (r.mono t _ _ k) h1
    cases e
    show match some ((ws[i]?).map fun x => W.tup [.int (i : Nat), x]) with
      | none => True
      | some none => _
      | some (some w) => _
    cases h4 : ws[i]? with
    | none =>
      have : vs.length ≤ i := by rw [← h3.length]; exact List.getElem?_eq_none_iff.mp h4
      exact ⟨vs, h2, this⟩
    | some u =>
      obtain ⟨v, h5, h6⟩ := h3.get h4
      refine ⟨⟨vs, v, h2, h5⟩, fun x H' y => ?_⟩
      obtain ⟨T, z, rfl, hT, rfl, y⟩ := y
      have := y vs h2
      rw [h5] at this
      cases this
      exact ⟨stp_tup hT, r1.tup hT, rw_tup r1 (.two rfl h6) hT⟩
theorem jr_zip {w u : W} {a b : Addr} (k : RW K mg io H w (.ref a)) (k' : RW K mg io H u (.ref b)) (r : Rel K mg io H s) : JR K mg (.zp w u) (Itz K a b) io H := by
  intro io1 H1 s1 t r1 i
  show match (match lsq w s1, lsq u s1 with
    | some xs, some ys => some (match xs[i]?, ys[i]? with
      | some x, some y => some (W.tup [x, y])
      | _, _ => none)
    | _, _ => none) with
    | none => True
    | some none => _
    | some (some w) => _
  cases h1 : lsq w s1 with
  | none => trivial
  | some xs =>
    cases h1' : lsq u s1 with
    | none => trivial
    | some ys =>
      obtain ⟨p, vs, e, h2, h3⟩ := lsq_sq r1 (r.mono t _ _ k) h1
      obtain ⟨p', us, e', h2', h3'⟩ := lsq_sq r1 (r.mono t _ _ k') h1'
      cases e
      cases e'
      show match some (match xs[i]?, ys[i]? with
        | some x, some y => some (W.tup [x, y])
        | _, _ => none) with
        | none => True
        | some none => _
        | some (some w) => _
      cases h4 : xs[i]? with
      | none =>
        have : vs.length ≤ i := by rw [← h3.length]; exact List.getElem?_eq_none_iff.mp h4
        exact ⟨vs, us, h2, h2', .inl this⟩
      | some x0 =>
        cases h4' : ys[i]? with
        | none =>
          have : us.length ≤ i := by rw [← h3'.length]; exact List.getElem?_eq_none_iff.mp h4'
          exact ⟨vs, us, h2, h2', .inr this⟩
        | some y0 =>
          obtain ⟨v, h5, h6⟩ := h3.get h4
          obtain ⟨v', h5', h6'⟩ := h3'.get h4'
          refine ⟨⟨vs, us, v, v', h2, h2', h5, h5'⟩, fun x H' y => ?_⟩
          obtain ⟨T, z, z', rfl, hT, rfl, y, y'⟩ := y
          have q := y vs h2
          rw [h5] at q
          cases q
          have q := y' us h2'
          rw [h5'] at q
          cases q
          exact ⟨stp_tup hT, r1.tup hT, rw_tup r1 (.two h6 h6') hT⟩
theorem jr_zipT {xs ys : List W} {a b : Addr} {vs us : List V} (k : SqT K H a vs) (kw : RWs K mg io H xs vs) (k' : SqT K H b us) (kw' : RWs K mg io H ys us) (r : Rel K mg io H s) : JR K mg (.zt xs ys) (RZ.ItzT K a b) io H := by
  intro io1 H1 s1 t r1 i
  have h2 := r.keepT t k
  have h3 := r.monos t _ _ kw
  have h2' := r.keepT t k'
  have h3' := r.monos t _ _ kw'
  show match some (match xs[i]?, ys[i]? with
      | some x, some y => some (W.tup [x, y])
      | _, _ => none) with
    | none => True
    | some none => _
    | some (some w) => _
  cases h4 : xs[i]? with
  | none =>
    have : vs.length ≤ i := by rw [← h3.length]; exact List.getElem?_eq_none_iff.mp h4
    exact ⟨vs, us, h2, h2', .inl this⟩
  | some x0 =>
    cases h4' : ys[i]? with
    | none =>
      have : us.length ≤ i := by rw [← h3'.length]; exact List.getElem?_eq_none_iff.mp h4'
      exact ⟨vs, us, h2, h2', .inr this⟩
    | some y0 =>
      obtain ⟨v, h5, h6⟩ := h3.get h4
      obtain ⟨v', h5', h6'⟩ := h3'.get h4'
      refine ⟨⟨vs, us, v, v', h2, h2', h5, h5'⟩, fun x H' y => ?_⟩
      obtain ⟨T, z, z', rfl, hT, rfl, y, y'⟩ := y
      have q := y vs h2
      rw [h5] at q
      cases q
      have q := y' us h2'
      rw [h5'] at q
      cases q
      exact ⟨stp_tup hT, r1.tup hT, rw_tup r1 (.two h6 h6') hT⟩
theorem jr_rev {w : W} {a : Addr} {n : Nat} (k : RW K mg io H w (.ref a)) (r : Rel K mg io H s) : JR K mg (.rv w n) (Itv K a n) io H := by
  intro io1 H1 s1 t r1 i
  show match (if i < n then (lsq w s1).bind fun ws => (ws[n - 1 - i]?).map some else some none) with
    | none => True
    | some none => _
    | some (some w) => _
  by_cases h : i < n
  · rw [if_pos h]
    cases h1 : lsq w s1 with
    | none => trivial
    | some ws =>
      obtain ⟨p, vs, e, h2, h3⟩ := lsq_sq r1 (r.mono t _ _ k) h1
      cases e
      show match (ws[n - 1 - i]?).map some with
        | none => True
        | some none => _
        | some (some w) => _
      cases h4 : ws[n - 1 - i]? with
      | none => trivial
      | some u =>
        obtain ⟨v, h5, h6⟩ := h3.get h4
        refine ⟨⟨h, vs, v, h2, h5⟩, fun x H' y => ?_⟩
        obtain ⟨e, y⟩ := y
        subst e
        have := y vs h2
        rw [h5] at this
        cases this
        exact ⟨.refl, r1, h6⟩
  · rw [if_neg h]
    exact Nat.le_of_not_lt h
theorem jr_revT {ws : List W} {a : Addr} {vs : List V} (k : SqT K H a vs) (kw : RWs K mg io H ws vs) (r : Rel K mg io H s) : JR K mg (.rt ws) (RT.ItvT K a vs.length) io H := by
  intro io1 H1 s1 t r1 i
  have h2 := r.keepT t k
  have h3 := r.monos t _ _ kw
  show match (if i < ws.length then (ws[ws.length - 1 - i]?).map some else some none) with
    | none => True
    | some none => _
    | some (some w) => _
  by_cases h : i < ws.length
  · rw [if_pos h]
    cases h4 : ws[ws.length - 1 - i]? with
    | none => trivial
    | some u =>
      obtain ⟨v, h5, h6⟩ := h3.get h4
      rw [h3.length] at h5 h
      refine ⟨⟨h, vs, v, h2, h5⟩, fun x H' y => ?_⟩
      obtain ⟨e, y⟩ := y
      subst e
      have := y vs h2
      rw [h5] at this
      cases this
      exact ⟨.refl, r1, h6⟩
  · rw [if_neg h]
    rw [h3.length] at h
    exact Nat.le_of_not_lt h
end
end Py
namespace Py
open PySem PySem.Spec PyProof.Rows L2
def spG (K : PySem.W.Frag) (mg : Str → Option Value) (g : G) (x : Str) (n : Nat) : Sp := fun vs H Q E => vs.length = n ∧ ∃ io s ws, RWs K mg io H ws vs ∧ Rel K mg io H s ∧ Out K mg (g.call x ws s) io H (KV K mg Q) (fun c _ _ H' => ∀ C, mg c = some (.ref C) → E (.ref C) none H')
structure Fn1 (P : Program) (w : World) (K : PySem.W.Frag) (mg : Str → Option Value) (base : Heap) (k : Nat) (g : G) (x : Str) : Prop where
  ex : ∃ (f : Addr) (fd : FuncData) (ps : List Str), mg x = some (.ref f) ∧ PySem.W.keepIn K (.ref f) = true ∧ Binds K fd ps [] ∧ FnOk P w K mg base (L2.CX P w) k f fd ps (spG K mg g x ps.length) ∧ ∀ ws s, ws.length ≠ ps.length → g.call x ws s = .bad
abbrev veBm : List Value := [.type "ValueError", .type "Exception", .type "BaseException", .type "object"]
structure Ex1 (K : PySem.W.Frag) (mg : Str → Option Value) (c : Str) : Prop where
  ex : ∃ C, mg c = some (.ref C) ∧ PySem.W.excIn K C veBm "ValueError.__new__" = true ∧ PySem.W.keepIn K (.ref C) = true ∧ PySem.W.subIn K (.ref C) (.type "BaseException") = some true ∧ PySem.W.typeIn K (.ref C) = some (.type "type")
def bltNames : List Str := ["len", "abs", "max", "min", "int", "all", "any", "sum", "list", "tuple", "str", "range", "enumerate", "zip", "reversed", "isinstance", "bool"]
structure Mo (P : Program) (w : World) (K : PySem.W.Frag) (mg : Str → Option Value) (base : Heap) (k : Nat) (g : G) : Prop where
  fn : ∀ x, g.df x = true → Fn1 P w K mg base k g x
  nodf : ∀ x ws s, g.df x = false → g.call x ws s = .bad
  con : ∀ x c, g.con x = some c → ∃ u v, mg x = some u ∧ RelV v u ∧ ∀ io H, RW K mg io H c v
  blt : ∀ x, x ∈ bltNames → mg x = none
  exc : ∀ c, g.ex c = true → Ex1 K mg c
abbrev Kx (mg : Str → Option Value) (W : WX) (σ : L2.St) : KO Str := fun c _ _ H' => ∀ C, mg c = some (.ref C) → W (.ref C) none σ H'
section
variable {α β : Type}
def tG (K : PySem.W.Frag) (mg : Str → Option Value) (W : WX) (f : Sl → Sto → R α) (Rv : List Addr → Hp → α → β → Prop) : L2.St → Hp → (β → Hp → Prop) → Prop := fun σ H Q =>
  ∃ io e s, RSl K mg io H e σ ∧ Rel K mg io H s ∧ Out K mg (f e s) io H (fun a _ io' H' => ∀ b, Rv io' H' a b → Q b H') (Kx mg W σ)
end
abbrev eqR {α : Type} : List Addr → Hp → α → α → Prop := fun _ _ a b => b = a
abbrev tE (K : PySem.W.Frag) (mg : Str → Option Value) (W : WX) (g : G) (a : E) : TE := tG K mg W (ev g a) (RW K mg)
abbrev tA (K : PySem.W.Frag) (mg : Str → Option Value) (W : WX) (g : G) (a : E) : TA := tG K mg W (evs g a) (RWs K mg)
abbrev tT (K : PySem.W.Frag) (mg : Str → Option Value) (W : WX) (g : G) (a : E) : TT := tG K mg W (evT g a) eqR
abbrev tP (K : PySem.W.Frag) (mg : Str → Option Value) (W : WX) (g : G) (a : E) : TO := tG K mg W (evO g a) eqR
def tI (K : PySem.W.Frag) (mg : Str → Option Value) (W : WX) (g : G) (k : Ik) (as : E) : TI := fun σ H R =>
  ∃ io e s, RSl K mg io H e σ ∧ Rel K mg io H s ∧ Out K mg (evs g as e s) io H (fun ws s' io' H' => ∃ src, srcOf k ws s' = some src ∧ ∀ J, JR K mg src J io' H' → R J H') (Kx mg W σ)
theorem PE.imp {X : Cx} {e : Expr} {t t' : TE} (h : PE X e t) (i : ∀ σ H Q, t' σ H Q → t σ H Q) : PE X e t' := ⟨fun pins s σ H Q I q => h.run pins s σ H Q I (i σ H Q q)⟩
theorem PT.imp {X : Cx} {e : Expr} {t t' : TT} (h : PT X e t) (i : ∀ σ H Q, t' σ H Q → t σ H Q) : PT X e t' := ⟨fun pins s σ H Q I q => h.run pins s σ H Q I (i σ H Q q)⟩
theorem PW.imp {X : Cx} {e : Expr} {t t' : TT} (h : PW X e t) (i : ∀ σ H Q, t' σ H Q → t σ H Q) : PW X e t' := ⟨fun wh pins s σ H Q I q => h.run wh pins s σ H Q I (i σ H Q q)⟩
theorem PA.imp {X : Cx} {e : List Expr} {t t' : TA} (h : PA X e t) (i : ∀ σ H Q, t' σ H Q → t σ H Q) : PA X e t' := ⟨fun p pins s σ H Q I q => h.run p pins s σ H Q I (i σ H Q q)⟩
theorem PO.imp {X : Cx} {e : Option Expr} {t t' : TO} (h : PO X e t) (i : ∀ σ H Q, t' σ H Q → t σ H Q) : PO X e t' := ⟨fun pins s σ H Q I q => h.run pins s σ H Q I (i σ H Q q)⟩
theorem PI.imp {X : Cx} {tg e : Expr} {t t' : TI} (h : PI X tg e t) (i : ∀ σ H Q, t' σ H Q → t σ H Q) : PI X tg e t' := ⟨fun pins s σ H Q I q => h.run pins s σ H Q I (i σ H Q q)⟩
theorem PI.or {X : Cx} {tg e : Expr} {t t' : TI} (h : PI X tg e t) (h' : PI X tg e t') : PI X tg e (fun σ H Q => t σ H Q ∨ t' σ H Q) := ⟨fun pins s σ H Q I q => q.elim (h.run pins s σ H Q I) (h'.run pins s σ H Q I)⟩
structure Good (X : Cx) (k : Nat) (g : G) (W : WX) : Prop where
  calm : X.calm = true
  room : Room k X.A
  nd : X.N.Nodup
  tk : Takes X W
  mo : Mo X.prog X.w X.K X.mg X.base k g
theorem Good.blk {X : Cx} {k : Nat} {g : G} {W : WX} (h : Good X k g W) (s : Shared) (H : Hp) (scope : Scope) (cenv : PySem.Env) (fp : List Addr) : Good (X.blk s H scope cenv fp) k g (fun _ _ _ _ => False) :=
  ⟨h.calm, h.room, h.nd, takes0, h.mo⟩
theorem okN_ok {x : Str} (h : okN x = true) : (x == ("__debug__" : Str)) = false ∧ (x == ("__classdict__" : Str)) = false := by
  unfold okN at h
  rw [Bool.and_eq_true, Bool.not_eq_true', Bool.not_eq_true'] at h
  exact h
theorem visB_ok {sc : Scope} {x : Str} (h : visB sc x = true) : Vis sc x := by
  unfold visB at h
  split at h
  · exact .inl (by assumption)
  · exact .inr (.inl (by assumption))
  · exact .inr (.inr (by assumption))
  · cases h
theorem glB_ok {X : Cx} {x : Str} (h : glB X.env.scope x = true) : Gl X x := by
  unfold glB at h
  exact eq_of_beq h
theorem nostar_any {env : PySem.Env} {pos : Pos} : ∀ {es : List Expr}, (∀ e ∈ es, noStar e = true) → (backTo pos (starEach es env)).any (·.1) = false
  | [], _ => rfl
  | e :: es, h => by
    rw [starEach_ns (h e List.mem_cons_self)]
    show (false || (backTo pos (starEach es env)).any (·.1)) = false
    rw [nostar_any fun x hx => h x (List.mem_cons_of_mem _ hx)]
    rfl
theorem nostar_all {env : PySem.Env} {pos : Pos} : ∀ {es : List Expr}, (∀ e ∈ es, noStar e = true) → (backTo pos (starEach es env)).all (fun x => !x.1) = true
  | [], _ => rfl
  | e :: es, h => by
    rw [starEach_ns (h e List.mem_cons_self)]
    show (true && (backTo pos (starEach es env)).all (fun x => !x.1)) = true
    rw [nostar_all fun x hx => h x (List.mem_cons_of_mem _ hx)]
    rfl
theorem mEs_ns {N : List Str} {D : Str → Bool} {sc : Scope} : ∀ {as : E} {es : List Expr}, mEs N D as sc es = true → ∀ e ∈ es, noStar e = true
  | .nil, es, h, e, he => by
    unfold mEs at h
    split at h
    · cases he
    · cases h
  | .cons a as, es, h, e, he => by
    unfold mEs at h
    split at h
    · rw [Bool.and_eq_true, Bool.and_eq_true] at h
      rcases List.mem_cons.mp he with z | z
      · rw [z]; exact h.1.1
      · exact mEs_ns h.2 e z
    · cases h
  | .var _, _, h, _, _ => by cases h
  | .con _, _, h, _, _ => by cases h
  | .fref _, _, h, _, _ => by cases h
  | .int _, _, h, _, _ => by cases h
  | .bl _, _, h, _, _ => by cases h
  | .non, _, h, _, _ => by cases h
  | .str _, _, h, _, _ => by cases h
  | .bin _ _ _, _, h, _, _ => by cases h
  | .neg _, _, h, _, _ => by cases h
  | .no _, _, h, _, _ => by cases h
  | .cmp _ _ _, _, h, _, _ => by cases h
  | .chain _ _ _ _ _, _, h, _, _ => by cases h
  | .and _ _, _, h, _, _ => by cases h
  | .or _ _, _, h, _, _ => by cases h
  | .one _, _, h, _, _ => by cases h
  | .ite _ _ _, _, h, _, _ => by cases h
  | .tup _, _, h, _, _ => by cases h
  | .lst _, _, h, _, _ => by cases h
  | .ix _ _, _, h, _, _ => by cases h
  | .sl _ _ _, _, h, _, _ => by cases h
  | .rv _, _, h, _, _ => by cases h
  | .call _ _, _, h, _, _ => by cases h
  | .callv _ _, _, h, _, _ => by cases h
  | .bi _ _, _, h, _, _ => by cases h
  | .mt _ _ _, _, h, _, _ => by cases h
  | .isi _ _, _, h, _, _ => by cases h
  | .comp _ _ _ _ _ _, _, h, _, _ => by cases h
section
variable {K : PySem.W.Frag} {mg : Str → Option Value} {io : List Addr} {H : Hp} {s : Sto}
def tyN : W → String
  | .non => "NoneType"
  | .bl _ => "bool"
  | .int _ => "int"
  | .str _ => "str"
  | .tup _ => "tuple"
  | .loc _ => "list"
  | .cl _ => "list"
  | .fn _ => ""
theorem kf_NoneType_int : kitB "NoneType" "int" = some false := by decide +kernel
theorem kf_NoneType_bool : kitB "NoneType" "bool" = some false := by decide +kernel
theorem kf_NoneType_tuple : kitB "NoneType" "tuple" = some false := by decide +kernel
theorem kf_NoneType_list : kitB "NoneType" "list" = some false := by decide +kernel
theorem kf_NoneType_str : kitB "NoneType" "str" = some false := by decide +kernel
theorem kf_bool_int : kitB "bool" "int" = some true := by decide +kernel
theorem kf_bool_bool : kitB "bool" "bool" = some true := by decide +kernel
theorem kf_bool_tuple : kitB "bool" "tuple" = some false := by decide +kernel
theorem kf_bool_list : kitB "bool" "list" = some false := by decide +kernel
theorem kf_bool_str : kitB "bool" "str" = some false := by decide +kernel
theorem kf_int_int : kitB "int" "int" = some true := by decide +kernel
theorem kf_int_bool : kitB "int" "bool" = some false := by decide +kernel
theorem kf_int_tuple : kitB "int" "tuple" = some false := by decide +kernel
theorem kf_int_list : kitB "int" "list" = some false := by decide +kernel
theorem kf_int_str : kitB "int" "str" = some false := by decide +kernel
theorem kf_str_int : kitB "str" "int" = some false := by decide +kernel
theorem kf_str_bool : kitB "str" "bool" = some false := by decide +kernel
theorem kf_str_tuple : kitB "str" "tuple" = some false := by decide +kernel
theorem kf_str_list : kitB "str" "list" = some false := by decide +kernel
theorem kf_str_str : kitB "str" "str" = some true := by decide +kernel
theorem kf_tuple_int : kitB "tuple" "int" = some false := by decide +kernel
theorem kf_tuple_bool : kitB "tuple" "bool" = some false := by decide +kernel
theorem kf_tuple_tuple : kitB "tuple" "tuple" = some true := by decide +kernel
theorem kf_tuple_list : kitB "tuple" "list" = some false := by decide +kernel
theorem kf_tuple_str : kitB "tuple" "str" = some false := by decide +kernel
theorem kf_list_int : kitB "list" "int" = some false := by decide +kernel
theorem kf_list_bool : kitB "list" "bool" = some false := by decide +kernel
theorem kf_list_tuple : kitB "list" "tuple" = some false := by decide +kernel
theorem kf_list_list : kitB "list" "list" = some true := by decide +kernel
theorem kf_list_str : kitB "list" "str" = some false := by decide +kernel
theorem tyX_of (r : Rel K mg io H s) {w : W} {v : V} (k : RW K mg io H w v) (t : Ty) {b : Bool} (h : isiW t w = some b) : TyX K H v (.type (tyN w)) := by
  cases w with
  | non => rw [show v = .non from k]; exact .base .non
  | bl b => rw [show v = .bl b from k]; exact .base (.bl b)
  | int i => rw [show v = .int i from k]; exact .base (.int i)
  | str x => rw [show v = .str x from k]; exact .base (.str x)
  | tup ws =>
    obtain ⟨a, vs, rfl, h1, h2⟩ := k
    rcases h1 with (h1 | ⟨o, h1⟩) | ⟨o, its, n, h1, h2, _⟩
    · exact .base (.tup h1)
    · exact .fTuple h1
    · exact .kTuple h1 h2
  | loc n =>
    obtain ⟨a, rfl, h1⟩ := k
    have hl : n < s.length := by rw [← r.len]; exact (List.getElem?_eq_some_iff.mp h1).1
    obtain ⟨vs, h3, _⟩ := r.at_ n a _ h1 (List.getElem?_eq_getElem hl)
    exact .base (.lst h3)
  | cl ws =>
    obtain ⟨a, vs, rfl, h1, h2⟩ := k
    rcases h1 with ⟨o, h1⟩ | ⟨o, its, n, h1, h2, _⟩
    · exact .base (.frz h1)
    · exact .kList h1 h2
  | fn x => cases t <;> cases h
def Ty.tn : Ty → String
  | .int => "int"
  | .bool => "bool"
  | .tuple => "tuple"
  | .list => "list"
  | .str => "str"
  | .lt => ""
theorem kit_all {w : W} {t : Ty} {b : Bool} (ht : t ≠ .lt) (h : isiW t w = some b) : kitB (tyN w) t.tn = some b := by
  cases t <;> first
    | exact absurd rfl ht
    | (cases w <;> first
      | (cases h; done)
      | (cases h; first | exact kf_NoneType_int | exact kf_NoneType_bool | exact kf_NoneType_tuple | exact kf_NoneType_list | exact kf_NoneType_str | exact kf_bool_int | exact kf_bool_bool | exact kf_bool_tuple | exact kf_bool_list | exact kf_bool_str | exact kf_int_int | exact kf_int_bool | exact kf_int_tuple | exact kf_int_list | exact kf_int_str | exact kf_str_int | exact kf_str_bool | exact kf_str_tuple | exact kf_str_list | exact kf_str_str | exact kf_tuple_int | exact kf_tuple_bool | exact kf_tuple_tuple | exact kf_tuple_list | exact kf_tuple_str | exact kf_list_int | exact kf_list_bool | exact kf_list_tuple | exact kf_list_list | exact kf_list_str))
theorem kit_lt {w : W} {b : Bool} (h : isiW .lt w = some b) : PySem.W.kitAny K (.type (tyN w)) [.type "list", .type "tuple"] = some b := by
  have ff : ∀ {a : String}, kitB a "list" = some false → kitB a "tuple" = some false → PySem.W.kitAny K (.type a) [.type "list", .type "tuple"] = some false := fun h1 h2 => kitAny_cons (b := false) (kit_ty h1) (fun _ => kitAny_cons (b := false) (kit_ty h2) (fun _ => rfl) (fun z => nomatch z)) (fun z => nomatch z)
  cases w with
  | non => cases h; exact ff kf_NoneType_list kf_NoneType_tuple
  | bl _ => cases h; exact ff kf_bool_list kf_bool_tuple
  | int _ => cases h; exact ff kf_int_list kf_int_tuple
  | str _ => cases h; exact ff kf_str_list kf_str_tuple
  | tup _ => cases h; exact kitAny_cons (b := false) (kit_ty kf_tuple_list) (fun _ => kitAny_cons (b := true) (kit_ty kf_tuple_tuple) (fun z => nomatch z) (fun _ => rfl)) (fun z => nomatch z)
  | loc _ => cases h; exact kitAny_cons (b := true) (kit_ty kf_list_list) (fun z => nomatch z) (fun _ => rfl)
  | cl _ => cases h; exact kitAny_cons (b := true) (kit_ty kf_list_list) (fun z => nomatch z) (fun _ => rfl)
  | fn _ => cases h
theorem truW_ok (r : Rel K mg io H s) {w : W} {v : V} {b : Bool} (k : RW K mg io H w v) (h : truW w s = some b) : TruV K v H b := by
  cases w with
  | non => rw [show v = .non from k]; cases h; rfl
  | bl c => rw [show v = .bl c from k]; cases h; rfl
  | int i => rw [show v = .int i from k]; cases h; rfl
  | str x => cases h
  | tup ws =>
    obtain ⟨a, vs, rfl, h1, h2⟩ := k
    cases h
    refine .inr (.inl ⟨vs, h1, ?_⟩)
    cases ws with
    | nil => rw [show vs = [] from h2]; rfl
    | cons w ws => obtain ⟨x, q, rfl, _⟩ := h2; rfl
  | loc n =>
    obtain ⟨a, rfl, h1⟩ := k
    have h : (s[n]?).map (fun ws => !ws.isEmpty) = some b := h
    cases h3 : s[n]? with
    | none => rw [h3] at h; cases h
    | some ws =>
      rw [h3] at h
      cases h
      obtain ⟨a', vs, h4, h5, h6⟩ := r.sto h3
      rw [h1] at h4
      cases h4
      refine .inl ⟨vs, .of h5, ?_⟩
      cases ws with
      | nil => rw [show vs = [] from h6]; rfl
      | cons w ws => obtain ⟨x, q, rfl, _⟩ := h6; rfl
  | cl ws =>
    obtain ⟨a, vs, rfl, h1, h2⟩ := k
    cases h
    refine .inl ⟨vs, h1.sq, ?_⟩
    cases ws with
    | nil => rw [show vs = [] from h2]; rfl
    | cons w ws => obtain ⟨x, q, rfl, _⟩ := h2; rfl
  | fn x => cases h
end
end Py
namespace Py
open PySem PySem.Spec PyProof.Rows L2
def tCallLS (i : Nat) (S : Addr → Sp → Prop) (E : L2.St → XK) (t : TA) : TE := fun σ H Q => ∃ f sp, σ[i]? = some (some (.ref f)) ∧ S f sp ∧ t σ H fun vs H1 => sp vs H1 Q (E σ)
theorem pe_callLS {X : Cx} {CX : CXT} {k i : Nat} {x : Str} {p pos : Pos} {e : Expr} {es : List Expr} {t : TA} {S : Addr → Sp → Prop} {E : L2.St → XK}
    (A : ∀ f sp, S f sp → ∃ fd ps, FnOk X.prog X.w X.K X.mg X.base CX k f fd ps sp ∧ PySem.W.keepIn X.K (.ref f) = true ∧ Binds X.K fd ps []) (hr : Room k X.A) (hN : X.N[i]? = some x) (hv : Vis X.env.scope x) (hx : ∀ σ, PassesAt CX X σ (E σ)) (ha : PA X (e :: es) t)
    (hdb : (x == ("__debug__" : Str)) = false) (hcd : (x == ("__classdict__" : Str)) = false)
    (he : starEach (e :: es) X.env = (false, eval e X.env) :: starEach es X.env) (hpl : (backTo pos (starEach es X.env)).any (·.1) = false) : PE X (.Call (.Name x p) (e :: es) [] pos) (tCallLS i S E t) := by
  refine ⟨fun pins s σ H Q I h => ?_⟩
  obtain ⟨f, sp, hs, hS, ht⟩ := h
  obtain ⟨fd, ps, F, hk, hb⟩ := A f sp hS
  refine wpAny_Call_Name_kw (L2.thn ((pe_var (pos := p) hN hv hdb hcd).run pins s σ H (fun v H1 => v = .ref f ∧ H1 = H) I ⟨.ref f, hs, rfl, rfl⟩) fun u s1 ⟨v, H1, I1, r1, q1⟩ => ?_)
  obtain ⟨rfl, rfl⟩ := q1
  cases r1
  refine PySem.W.callWith_K (h₀ := X.base) I.ok.mod.kin hk (L2.thn (ha.run pos pins s1 σ _ _ I1 ht) fun us s2 ⟨vs, H2, I2, r, q⟩ => ⟨I2.kIn, ?_⟩) he hpl
  exact run_fnS F hr hb (hx σ) I2 r q
theorem boot_abs' : bootBuiltins "abs" = some (.builtin "abs") := by decide +kernel
theorem bi_boot (f : Bi) : bootBuiltins f.nm = some f.val := by cases f <;> decide +kernel
theorem bi_nm (f : Bi) : f.nm ∈ bltNames := by cases f <;> decide
theorem bi_dunder (f : Bi) : f.nm ≠ "__name__" ∧ (f.nm == ("__debug__" : Str)) = false := by cases f <;> decide
theorem ty_boot (t : Ty) (h : t ≠ .lt) : bootBuiltins t.nm = some (.type t.tn) ∧ t.nm ∈ bltNames ∧ t.nm ≠ "__name__" ∧ (t.nm == ("__debug__" : Str)) = false := by
  cases t <;> first | exact absurd rfl h | exact ⟨by decide +kernel, by decide, by decide, by decide⟩
theorem mt_facts (m : Mt) : Slot "list" m.nm m.id ∧ typeOf (.builtin m.id) = pure (.type "method_descriptor") := by
  cases m with
  | append => exact ⟨PySem.F.slot_list_append, PySem.F.type_list_append⟩
  | pop => exact ⟨PySem.F.slot_list_pop, PySem.F.type_list_pop⟩
  | popAt => exact ⟨PySem.F.slot_list_pop, PySem.F.type_list_pop⟩
  | extend => exact ⟨PySem.F.slot_list_extend, PySem.F.type_list_extend⟩
  | clear => exact ⟨PySem.F.slot_list_clear, PySem.F.type_list_clear⟩
theorem rcv_base {X : Cx} {p : Expr} {n : Str} (h : rcv p = true) : attributeBase p n X.env (eval p X.env) = eval p X.env := by
  cases p <;> first | rfl | cases h
theorem noset_in {op : CmpOp} {e : Expr} (h : noSet e = true) : behindInMarks op e = false := by
  cases e <;> first | rfl | cases h
theorem noset_fold {X : Cx} {e : Expr} (h : noSet e = true) : ∀ x, foldedSetIterable e X.env x = pure x := by
  intro x
  cases e <;> first | rfl | cases h
section
variable {α β : Type} {K : PySem.W.Frag} {mg : Str → Option Value} {io : List Addr} {H : Hp} {s : Sto} {Q : KO α} {Z : KO Str}
theorem Out.toB {w : W} {Q : KO Bool} (o : Out K mg (toB w s) io H Q Z) : ∃ b, w = .bl b ∧ Out K mg (.ok b s) io H Q Z := by
  cases w <;> first | exact False.elim o | exact ⟨_, rfl, o⟩
theorem Out.toBk {w : W} {f : Bool → Sto → R α} (o : Out K mg ((Py.toB w s).bind f) io H Q Z) : ∃ b, w = .bl b ∧ Out K mg (f b s) io H Q Z := by
  cases w <;> first | exact False.elim o | exact ⟨_, rfl, o⟩
theorem Out.toIk {w : W} {f : Int → Sto → R α} (o : Out K mg ((Py.toI w s).bind f) io H Q Z) : ∃ b, w = .int b ∧ Out K mg (f b s) io H Q Z := by
  cases w <;> first | exact False.elim o | exact ⟨_, rfl, o⟩
theorem Out.toT {w : W} {Q : KO Bool} (o : Out K mg (Py.toT w s) io H Q Z) : ∃ b, truW w s = some b ∧ Out K mg (.ok b s) io H Q Z := by
  unfold Py.toT at o
  cases h : truW w s with
  | none => rw [h] at o; exact False.elim o
  | some b => rw [h] at o; exact ⟨b, rfl, o⟩
theorem Out.ob {b : Option Bool} {Q : KO W} (o : Out K mg (Py.ob b s) io H Q Z) : ∃ c, b = some c ∧ Out K mg (.ok (.bl c) s) io H Q Z := by
  cases b with
  | none => exact False.elim o
  | some c => exact ⟨c, rfl, o⟩
theorem Out.obk {b : Option Bool} {f : W → Sto → R α} (o : Out K mg ((Py.ob b s).bind f) io H Q Z) : ∃ c, b = some c ∧ Out K mg (f (.bl c) s) io H Q Z := by
  cases b with
  | none => exact False.elim o
  | some c => exact ⟨c, rfl, o⟩
theorem Out.slot {e : Sl} {σ : L2.St} {i : Nat} {Q : KO W} (hs : RSl K mg io H e σ) (o : Out K mg (rslot e i s) io H Q Z) : ∃ w v, σ[i]? = some (some v) ∧ RW K mg io H w v ∧ Out K mg (.ok w s) io H Q Z := by
  unfold rslot at o
  cases h : e[i]? with
  | none => rw [h] at o; exact False.elim o
  | some q =>
    rw [h] at o
    cases q with
    | none => exact False.elim o
    | some w =>
      obtain ⟨v, h1, h2⟩ := hs.at_ i w h
      exact ⟨w, v, h1, h2, o⟩
theorem Out.slotk {e : Sl} {σ : L2.St} {i : Nat} {f : W → Sto → R α} (hs : RSl K mg io H e σ) (o : Out K mg ((rslot e i s).bind f) io H Q Z) : ∃ w v, σ[i]? = some (some v) ∧ RW K mg io H w v ∧ Out K mg (f w s) io H Q Z := by
  unfold rslot at o
  cases h : e[i]? with
  | none => rw [h] at o; exact False.elim o
  | some q =>
    rw [h] at o
    cases q with
    | none => exact False.elim o
    | some w =>
      obtain ⟨v, h1, h2⟩ := hs.at_ i w h
      exact ⟨w, v, h1, h2, o⟩
theorem Out.go {r : R α} {f : α → Sto → R β} {Q : KO β} {Q' : KO α} (o : Out K mg (r.bind f) io H Q Z) (h : ∀ a s io' H', Stp io H io' H' → Rel K mg io' H' s → Out K mg (f a s) io' H' Q Z → Q' a s io' H') : Out K mg r io H Q' Z :=
  o.bind.imp h fun _ _ _ _ _ _ z => z
end
section
variable {X : Cx} {k : Nat} {g : G} {W : WX}
theorem pe_named {x : Str} {p pos : Pos} {e : Expr} {es : List Expr} {t : TA} (h : Good X k g W) (hd : g.df x = true) (hg : Gl X x) (ok : okN x = true) (ha : PA X (e :: es) t) (hn : ∀ y ∈ e :: es, noStar y = true) :
    ∃ n, PE X (.Call (.Name x p) (e :: es) [] pos) (tCallS (spG X.K X.mg g x n) (WE W) t) ∧ ∀ ws s, ws.length ≠ n → g.call x ws s = .bad := by
  obtain ⟨f, fd, ps, h1, h2, h3, h4, h5⟩ := (h.mo.fn x hd).ex
  exact ⟨ps.length, pe_callS h4 h.room hg h1 h2 h3 (fun σ => passAt h.tk σ) ha (okN_ok ok).1 (starEach_ns (hn e List.mem_cons_self)) (nostar_any fun y hy => hn y (List.mem_cons_of_mem _ hy)), h5⟩
theorem call_read {x : Str} {n : Nat} {K : PySem.W.Frag} {mg : Str → Option Value} {io : List Addr} {H : Hp} {s : Sto} {σ : L2.St} {ws : List Py.W} {vs : List V} {Q : VK} (hb : ∀ ws s, ws.length ≠ n → g.call x ws s = .bad) (r : Rel K mg io H s) (kw : RWs K mg io H ws vs)
    (o : Out K mg (g.call x ws s) io H (KV K mg Q) (Kx mg W σ)) : spG K mg g x n vs H Q (WE W σ) := by
  refine ⟨?_, io, s, ws, kw, r, o⟩
  rw [← kw.length]
  by_cases z : ws.length = n
  · exact z
  · rw [hb ws s z] at o
    exact o.elim
theorem isLi_get {w : Py.W} {s : Sto} (h : isLi w s = true) : ∃ ws, lsq w s = some ws := by
  cases w with
  | loc n => exact Option.isSome_iff_exists.mp h
  | cl us => exact ⟨us, rfl⟩
  | non => cases h
  | bl _ => cases h
  | int _ => cases h
  | str _ => cases h
  | tup _ => cases h
  | fn _ => cases h
theorem lim62_ok {i : Int} (h : lim62 i = true) : -(2 ^ 62) ≤ i ∧ i < 2 ^ 62 := of_decide_eq_true h
theorem sI1 {a : E} {t x : Expr} {ik : Ik} {wi : TI} (pi : PI X t x wi)
    (hw : ∀ (σ : L2.St) (H : Hp) (Rt : It → Hp → Prop) io e s, RSl X.K X.mg io H e σ → Rel X.K X.mg io H s →
      (match ev g a e s with
        | .ok w s1 => ∀ io1 H1, Stp io H io1 H1 → Rel X.K X.mg io1 H1 s1 → ∃ src, srcOf ik [w] s1 = some src ∧ ∀ J, JR X.K X.mg src J io1 H1 → Rt J H1
        | .exc c s1 => ∀ io1 H1, Stp io H io1 H1 → Rel X.K X.mg io1 H1 s1 → Kx X.mg W σ c s1 io1 H1
        | .bad => False) → wi σ H Rt) : PI X t x (tI X.K X.mg W g ik (.cons a .nil)) := by
  refine PI.imp pi fun σ H Rt ⟨io, e, s, hs, r, o⟩ => hw σ H Rt io e s hs r ?_
  have o : Out X.K X.mg ((ev g a e s).bind fun w s1 => (Py.R.ok [] s1).bind fun ws s2 => .ok (w :: ws) s2) io H (fun ws s' io' H' => ∃ src, srcOf ik ws s' = some src ∧ ∀ J, JR X.K X.mg src J io' H' → Rt J H') (Kx X.mg W σ) := o
  cases hev : ev g a e s with
  | bad => rw [hev] at o; exact o.elim
  | exc c s1 => rw [hev] at o; exact o
  | ok w s1 => rw [hev] at o; exact o
theorem sI {as : E} {t x : Expr} {ik : Ik} (h : Good X k g W) (hq : ∀ es, mEs X.N g.df as X.env.scope es = true → PA X es (tA X.K X.mg W g as) ∧ ∀ y, es = [y] → ∃ a, as = .cons a .nil ∧ PE X y (tE X.K X.mg W g a))
    (hm : mI (mEs X.N g.df as X.env.scope) X.env.scope t ik x = true) : PI X t x (tI X.K X.mg W g ik as) := by
  have glr : ∀ {y : Str}, glB X.env.scope y = true → Gl X y := fun z => glB_ok z
  cases ik with
  | seq =>
    obtain ⟨a, rfl, pe⟩ := (hq [x] hm).2 x rfl
    refine sI1 (PI.or (pi_list pe) (PI.or (pi_tup pe) (pi_str pe))) fun σ H Rt io e s hs r o => ?_
    cases hev : ev g a e s with
    | bad => rw [hev] at o; exact o.elim
    | exc c s1 =>
      rw [hev] at o
      exact .inl ⟨io, e, s, hs, r, by rw [hev]; exact o⟩
    | ok w s1 =>
      rw [hev] at o
      have no : (∀ io1 H1, Stp io H io1 H1 → Rel X.K X.mg io1 H1 s1 → False) → iList X.K (tE X.K X.mg W g a) σ H Rt := fun z => ⟨io, e, s, hs, r, by rw [hev]; exact fun io1 H1 t1 r1 _ _ => (z io1 H1 t1 r1).elim⟩
      cases w with
      | tup ws =>
        refine .inr (.inl ⟨io, e, s, hs, r, ?_⟩)
        rw [hev]
        intro io1 H1 t1 r1 v kv
        obtain ⟨p, vs, rfl, k1, k2⟩ := kv
        obtain ⟨src, e1, q⟩ := o io1 H1 t1 r1
        cases e1
        exact ⟨p, rfl, ⟨vs, k1⟩, q _ (jr_tup k1 k2 r1)⟩
      | str z =>
        refine .inr (.inr ⟨io, e, s, hs, r, ?_⟩)
        rw [hev]
        intro io1 H1 t1 r1 v kv
        obtain ⟨src, e1, q⟩ := o io1 H1 t1 r1
        cases e1
        exact ⟨z, kv, q _ jr_str⟩
      | loc n =>
        refine .inl ⟨io, e, s, hs, r, ?_⟩
        rw [hev]
        intro io1 H1 t1 r1 v kv
        obtain ⟨src, e1, q⟩ := o io1 H1 t1 r1
        have e1 : (if isLi (.loc n) s1 = true then some (Src.li (.loc n)) else none) = some src := e1
        split at e1
        · rename_i hl
          cases e1
          obtain ⟨ws, hw⟩ := Option.isSome_iff_exists.mp (show (s1[n]?).isSome = true from hl)
          obtain ⟨p, vs, rfl, k1, k2⟩ := lsq_sq r1 kv (show lsq (.loc n) s1 = some ws from hw)
          exact ⟨p, rfl, ⟨vs, k1⟩, q _ (jr_list kv r1 hl)⟩
        · cases e1
      | cl us =>
        refine .inl ⟨io, e, s, hs, r, ?_⟩
        rw [hev]
        intro io1 H1 t1 r1 v kv
        obtain ⟨src, e1, q⟩ := o io1 H1 t1 r1
        have e1 : some (Src.li (.cl us)) = some src := e1
        cases e1
        obtain ⟨p, vs, rfl, k1, k2⟩ := lsq_sq r1 kv (show lsq (.cl us) s1 = some us from rfl)
        exact ⟨p, rfl, ⟨vs, k1⟩, q _ (jr_list kv r1 rfl)⟩
      | non => exact .inl (no fun io1 H1 t1 r1 => by obtain ⟨src, e1, q⟩ := o io1 H1 t1 r1; cases e1)
      | bl _ => exact .inl (no fun io1 H1 t1 r1 => by obtain ⟨src, e1, q⟩ := o io1 H1 t1 r1; cases e1)
      | int _ => exact .inl (no fun io1 H1 t1 r1 => by obtain ⟨src, e1, q⟩ := o io1 H1 t1 r1; cases e1)
      | fn _ => exact .inl (no fun io1 H1 t1 r1 => by obtain ⟨src, e1, q⟩ := o io1 H1 t1 r1; cases e1)
  | rev =>
    obtain ⟨p, x1, pos, rfl, hg, hm⟩ := call1_ok hm
    obtain ⟨a, rfl, pe⟩ := (hq [_] hm).2 _ rfl
    have hns := mEs_ns hm _ List.mem_cons_self
    refine sI1 (RT.pi_revA (glB_ok hg) (h.mo.blt _ (by decide)) pe (starEach_ns hns)) fun σ H Rt io e s hs r o => ?_
    refine ⟨io, e, s, hs, r, ?_⟩
    cases hev : ev g a e s with
    | bad => rw [hev] at o; exact o.elim
    | exc c s1 => rw [hev] at o; exact o
    | ok w s1 =>
      rw [hev] at o
      intro io1 H1 t1 r1 v kv
      obtain ⟨src, e1, q⟩ := o io1 H1 t1 r1
      cases w with
      | tup ws =>
        obtain ⟨p, vs, rfl, k1, k2⟩ := kv
        cases e1
        exact ⟨p, vs, rfl, .inr ⟨k1, q _ (jr_revT k1 k2 r1)⟩⟩
      | loc n =>
        have e1 : (lsq (.loc n) s1).map (fun ws => Src.rv (.loc n) ws.length) = some src := e1
        cases hw : lsq (.loc n) s1 with
        | none => rw [hw] at e1; cases e1
        | some ws =>
          rw [hw] at e1
          cases e1
          obtain ⟨p, vs, rfl, k1, k2⟩ := lsq_sq r1 kv hw
          refine ⟨p, vs, rfl, .inl ⟨k1, ?_⟩⟩
          rw [← k2.length]
          exact q _ (jr_rev kv r1)
      | cl us =>
        have e1 : some (Src.rv (.cl us) us.length) = some src := e1
        cases e1
        obtain ⟨p, vs, rfl, k1, k2⟩ := lsq_sq r1 kv (show lsq (.cl us) s1 = some us from rfl)
        refine ⟨p, vs, rfl, .inl ⟨k1, ?_⟩⟩
        rw [← k2.length]
        exact q _ (jr_rev kv r1)
      | non => cases e1
      | bl _ => cases e1
      | int _ => cases e1
      | str _ => cases e1
      | fn _ => cases e1
  | enu =>
    rw [show mI (mEs X.N g.df as X.env.scope) X.env.scope t .enu x = (isTup t && call1 "enumerate" (mEs X.N g.df as X.env.scope) X.env.scope x) from rfl, Bool.and_eq_true] at hm
    obtain ⟨ht, hm⟩ := hm
    obtain ⟨p, x1, pos, rfl, hg, hm⟩ := call1_ok hm
    have hns := mEs_ns hm _ List.mem_cons_self
    obtain ⟨elts, kk, tpos, rfl⟩ : ∃ elts kk tpos, t = .Tuple elts kk tpos := by cases t <;> first | exact ⟨_, _, _, rfl⟩ | cases ht
    refine PI.imp (pi_enum (glB_ok hg) (h.mo.blt _ (by decide)) (hq [_] hm).1 (starEach_ns hns)) fun σ H Rt ⟨io, e, s, hs, r, o⟩ => ?_
    refine ⟨io, e, s, hs, r, o.imp (fun ws s1 io1 H1 t1 r1 q vs kv => ?_) fun _ _ _ _ _ _ z => z⟩
    obtain ⟨src, e1, q⟩ := q
    replace e1 : srcEnu ws s1 = some src := e1
    unfold srcEnu at e1
    split at e1
    · rename_i w
      split at e1
      · rename_i hl
        cases e1
        obtain ⟨v, q', rfl, k1, k2⟩ := kv
        rw [show q' = [] from k2]
        obtain ⟨zs, hw⟩ := isLi_get hl
        obtain ⟨p, us, rfl, k3, k4⟩ := lsq_sq r1 k1 hw
        exact ⟨p, us, rfl, k3, q _ (jr_enum k1 r1)⟩
      · cases e1
    · cases e1
  | zip =>
    rw [show mI (mEs X.N g.df as X.env.scope) X.env.scope t .zip x = (isTup t && call2 "zip" (mEs X.N g.df as X.env.scope) X.env.scope x) from rfl, Bool.and_eq_true] at hm
    obtain ⟨ht, hm⟩ := hm
    obtain ⟨p, x1, x2, pos, rfl, hg, hm⟩ := call2_ok hm
    have hns := mEs_ns hm _ List.mem_cons_self
    have hns2 := mEs_ns hm x2 (List.mem_cons_of_mem _ List.mem_cons_self)
    obtain ⟨elts, kk, tpos, rfl⟩ : ∃ elts kk tpos, t = .Tuple elts kk tpos := by cases t <;> first | exact ⟨_, _, _, rfl⟩ | cases ht
    refine PI.imp (RZ.pi_zipA (glB_ok hg) (h.mo.blt _ (by decide)) (hq [_, _] hm).1 (starEach_ns hns) (nostar_any fun y hy => by rw [List.mem_singleton.mp hy]; exact hns2)) fun σ H Rt ⟨io, e, s, hs, r, o⟩ => ?_
    refine ⟨io, e, s, hs, r, o.imp (fun ws s1 io1 H1 t1 r1 q vs kv => ?_) fun _ _ _ _ _ _ z => z⟩
    obtain ⟨src, e1, q⟩ := q
    replace e1 : srcZip ws s1 = some src := e1
    unfold srcZip at e1
    split at e1
    · cases e1
      obtain ⟨v, q', rfl, ⟨a, us, rfl, k1, k2⟩, v', q'', rfl, ⟨a', us', rfl, k3, k4⟩, k5⟩ := kv
      rw [show q'' = [] from k5]
      exact ⟨a, a', us, us', rfl, .inr ⟨k1, k3, q _ (jr_zipT k1 k2 k3 k4 r1)⟩⟩
    · rename_i w u _
      split at e1
      · rename_i hl
        rw [Bool.and_eq_true] at hl
        cases e1
        obtain ⟨v, q', rfl, k1, v', q'', rfl, k2, k5⟩ := kv
        rw [show q'' = [] from k5]
        obtain ⟨zs, hw⟩ := isLi_get hl.1
        obtain ⟨p, us, rfl, k3, k4⟩ := lsq_sq r1 k1 hw
        obtain ⟨zs', hw'⟩ := isLi_get hl.2
        obtain ⟨p', us', rfl, k3', k4'⟩ := lsq_sq r1 k2 hw'
        exact ⟨p, p', us, us', rfl, .inl ⟨k3, k3', q _ (jr_zip k1 k2 r1)⟩⟩
      · cases e1
    · cases e1
  | rng1 =>
    obtain ⟨p, x1, pos, rfl, hg, hm⟩ := call1_ok hm
    have hns := mEs_ns hm _ List.mem_cons_self
    refine PI.imp (pi_range1 (glB_ok hg) (h.mo.blt _ (by decide)) (hq [_] hm).1 (starEach_ns hns)) fun σ H Rt ⟨io, e, s, hs, r, o⟩ => ?_
    refine ⟨io, e, s, hs, r, o.imp (fun ws s1 io1 H1 t1 r1 q vs kv => ?_) fun _ _ _ _ _ _ z => z⟩
    obtain ⟨src, e1, q⟩ := q
    replace e1 : srcR1 ws = some src := e1
    unfold srcR1 at e1
    split at e1
    · rename_i j
      split at e1
      · rename_i hl
        have hl := lim62_ok hl
        cases e1
        obtain ⟨v, q', rfl, k1, k2⟩ := kv
        rw [show q' = [] from k2, show v = .int j from k1]
        exact ⟨j, rfl, hl.1, hl.2, q _ jr_rng⟩
      · cases e1
    · cases e1
  | rng2 =>
    obtain ⟨p, x1, x2, pos, rfl, hg, hm⟩ := call2_ok hm
    have hns := mEs_ns hm _ List.mem_cons_self
    have hns2 := mEs_ns hm x2 (List.mem_cons_of_mem _ List.mem_cons_self)
    refine PI.imp (pi_range2 (glB_ok hg) (h.mo.blt _ (by decide)) (hq [_, _] hm).1 (by rw [starEach_ns hns, starEach_ns hns2]; rfl) (starEach_ns hns2)) fun σ H Rt ⟨io, e, s, hs, r, o⟩ => ?_
    refine ⟨io, e, s, hs, r, o.imp (fun ws s1 io1 H1 t1 r1 q vs kv => ?_) fun _ _ _ _ _ _ z => z⟩
    obtain ⟨src, e1, q⟩ := q
    replace e1 : srcR2 ws = some src := e1
    unfold srcR2 at e1
    split at e1
    · rename_i i j
      split at e1
      · rename_i hl
        rw [Bool.and_eq_true] at hl
        have hl1 := lim62_ok hl.1
        have hl2 := lim62_ok hl.2
        cases e1
        obtain ⟨v, q', rfl, k1, v', q'', rfl, k2, k3⟩ := kv
        rw [show q'' = [] from k3, show v = .int i from k1, show v' = .int j from k2]
        exact ⟨i, j, rfl, ⟨hl1.1, hl1.2, hl2.1, hl2.2⟩, q _ jr_rng⟩
      · cases e1
    · cases e1
  | rng3 =>
    obtain ⟨p, x1, x2, x3, pos, rfl, hg, hm⟩ := call3_ok hm
    have hns := mEs_ns hm _ List.mem_cons_self
    have hns2 : ∀ y ∈ [x2, x3], noStar y = true := fun y hy => mEs_ns hm y (List.mem_cons_of_mem _ hy)
    refine PI.imp (pi_range3 (glB_ok hg) (h.mo.blt _ (by decide)) (hq [_, _, _] hm).1 (starEach_ns hns) (nostar_any hns2)) fun σ H Rt ⟨io, e, s, hs, r, o⟩ => ?_
    refine ⟨io, e, s, hs, r, o.imp (fun ws s1 io1 H1 t1 r1 q vs kv => ?_) fun _ _ _ _ _ _ z => z⟩
    obtain ⟨src, e1, q⟩ := q
    replace e1 : srcR3 ws = some src := e1
    unfold srcR3 at e1
    split at e1
    · rename_i i j c
      split at e1
      · rename_i hl
        rw [Bool.and_eq_true] at hl
        have hc := of_decide_eq_true hl.1
        cases e1
        obtain ⟨v, q', rfl, k1, v', q'', rfl, k2, v'', q3, rfl, k3, k4⟩ := kv
        rw [show q3 = [] from k4, show v = .int i from k1, show v' = .int j from k2, show v'' = .int c from k3]
        exact ⟨i, j, c, _, rfl, ⟨hc.1, hc.2, hl.2, PyProof.Rows.rangeSize_toNat i j c⟩, q _ jr_rngC⟩
      · cases e1
    · cases e1
end
end Py
namespace Py
open PySem PySem.Spec PyProof.Rows L2
section
variable {X : Cx} {k : Nat} {g : G} {W : WX}
abbrev PEx (X : Cx) (W : WX) (g : G) (a : E) (x : Expr) : Prop := PE X x (tE X.K X.mg W g a)
abbrev PTx (X : Cx) (W : WX) (g : G) (a : E) (x : Expr) : Prop := PT X x (tT X.K X.mg W g a)
abbrev PWx (X : Cx) (W : WX) (g : G) (a : E) (x : Expr) : Prop := PW X x (tT X.K X.mg W g a)
abbrev PAx (X : Cx) (W : WX) (g : G) (a : E) (x : List Expr) : Prop := PA X x (tA X.K X.mg W g a)
abbrev POx (X : Cx) (W : WX) (g : G) (a : E) (x : Option Expr) : Prop := PO X x (tP X.K X.mg W g a)
theorem e_bin {op : Bop} {a b : E} {x y : Expr} {pos : Pos} (h : Good X k g W) (ha : PEx X W g a x) (hb : PEx X W g b y) : PEx X W g (.bin op a b) (.BinOp x op.op y pos) :=
  PE.imp (pe_op (op_bin h.room op) ha hb) fun σ H Q ⟨io, e, s, hs, r, o⟩ =>
    ⟨io, e, s, hs, r, Out.go o fun w s1 io1 H1 t1 r1 o1 v kv => ⟨io1, e, s1, hs.mono r t1, r1, Out.go o1 fun u s2 io2 H2 t2 r2 o2 v2 kv2 => ⟨io2, s2, w, u, _, r1.mono t2 _ _ kv, kv2, r2, o2⟩⟩⟩
theorem e_cmp {op : Cop} {a b : E} {x y : Expr} {pos : Pos} (h : Good X k g W) (hn : noSet y = true) (ha : PEx X W g a x) (hb : PEx X W g b y) : PEx X W g (.cmp op a b) (.Compare x [op.op] [y] pos) :=
  PE.imp (pe_cmpR (op_cmp h.room op) ha hb (noset_in hn)) fun σ H Q ⟨io, e, s, hs, r, o⟩ =>
    ⟨io, e, s, hs, r, Out.go o fun w s1 io1 H1 t1 r1 o1 v kv => ⟨io1, e, s1, hs.mono r t1, r1, Out.go o1 fun u s2 io2 H2 t2 r2 o2 v2 kv2 => ⟨io2, s2, w, u, _, r1.mono t2 _ _ kv, kv2, r2, o2⟩⟩⟩
theorem toB_val {w : Py.W} {s : Sto} {io : List Addr} {H : Hp} {Q : Bool → Hp → Prop} {Z : KO Str} (r : Rel X.K X.mg io H s) (o : Out X.K X.mg (toB w s) io H (fun a _ io' H' => ∀ b, b = a → Q b H') Z) {v : V} (kv : RW X.K X.mg io H w v) : ∃ c, v = .bl c ∧ Q c H := by
  obtain ⟨b, rfl, o⟩ := o.toB
  exact ⟨b, kv, o.here r b rfl⟩
theorem t_cmp {op : Cop} {a b : E} {x y : Expr} {pos : Pos} (h : Good X k g W) (hn : noSet y = true) (ha : PEx X W g a x) (hb : PEx X W g b y) : PTx X W g (.cmp op a b) (.Compare x [op.op] [y] pos) :=
  PT.imp (pt_cmpR (op_cmp h.room op) ha hb (noset_in hn)) fun σ H Q ⟨io, e, s, hs, r, o⟩ =>
    ⟨io, e, s, hs, r, Out.go o fun w s1 io1 H1 t1 r1 o1 v kv => ⟨io1, e, s1, hs.mono r t1, r1, Out.go o1 fun u s2 io2 H2 t2 r2 o2 v2 kv2 =>
      ⟨io2, s2, w, u, _, r1.mono t2 _ _ kv, kv2, r2, Out.go o2 fun z s3 io3 H3 t3 r3 o3 v3 kv3 => toB_val r3 o3 kv3⟩⟩⟩
theorem e_chain {op op' : Cop} {a b c : E} {x y z : Expr} {pos : Pos} (h : Good X k g W) (hn : noSet z = true) (ha : PEx X W g a x) (hb : PEx X W g b y) (hc : PEx X W g c z) : PEx X W g (.chain op op' a b c) (.Compare x [op.op, op'.op] [y, z] pos) := by
  refine PE.imp (pe_chain (op_cmp h.room op) (op_cmp h.room op') ha hb hc (noset_in hn)) fun σ H Q ⟨io, e, s, hs, r, o⟩ => ?_
  refine ⟨io, e, s, hs, r, Out.go o fun w s1 io1 H1 t1 r1 o1 v kv => ⟨io1, e, s1, hs.mono r t1, r1, Out.go o1 fun u s2 io2 H2 t2 r2 o2 v2 kv2 =>
      ⟨io2, s2, w, u, _, r1.mono t2 _ _ kv, kv2, r2, Out.go o2 fun d s3 io3 H3 t3 r3 o3 v3 kv3 => ?_⟩⟩⟩
  obtain ⟨q, rfl, o3⟩ := o3.toBk
  refine ⟨q, kv3, ?_⟩
  cases q with
  | false => exact iteF (o3.val r3 rfl)
  | true =>
    exact iteT ⟨io3, e, s3, ((hs.mono r t1).mono r1 t2).mono r2 t3, r3, Out.go o3 fun m s4 io4 H4 t4 r4 o4 v4 kv4 => ⟨io4, s4, u, m, _, r3.mono t4 _ _ (r2.mono t3 _ _ kv2), kv4, r4, o4⟩⟩
theorem t_chain {op op' : Cop} {a b c : E} {x y z : Expr} {pos : Pos} (h : Good X k g W) (hn : noSet z = true) (ha : PEx X W g a x) (hb : PEx X W g b y) (hc : PEx X W g c z) : PTx X W g (.chain op op' a b c) (.Compare x [op.op, op'.op] [y, z] pos) := by
  refine PT.imp (pt_chain (op_cmp h.room op) (op_cmp h.room op') ha hb hc (noset_in hn)) fun σ H Q ⟨io, e, s, hs, r, o⟩ => ?_
  refine ⟨io, e, s, hs, r, Out.go o fun w s1 io1 H1 t1 r1 o1 v kv => ⟨io1, e, s1, hs.mono r t1, r1, Out.go o1 fun u s2 io2 H2 t2 r2 o2 v2 kv2 =>
      ⟨io2, s2, w, u, _, r1.mono t2 _ _ kv, kv2, r2, Out.go o2 fun d s3 io3 H3 t3 r3 o3 v3 kv3 => ?_⟩⟩⟩
  obtain ⟨q, rfl, o3⟩ := o3.toBk
  refine ⟨q, kv3, ?_⟩
  cases q with
  | false => exact iteF ⟨false, rfl, o3.here r3 _ rfl⟩
  | true =>
    exact iteT ⟨io3, e, s3, ((hs.mono r t1).mono r1 t2).mono r2 t3, r3, Out.go o3 fun m s4 io4 H4 t4 r4 o4 v4 kv4 => ⟨io4, s4, u, m, _, r3.mono t4 _ _ (r2.mono t3 _ _ kv2), kv4, r4, Out.go o4 fun z s5 io5 H5 t5 r5 o5 v5 kv5 => toB_val r5 o5 kv5⟩⟩
theorem e_neg {a : E} {x : Expr} {pos : Pos} (ha : PEx X W g a x) : PEx X W g (.neg a) (.UnaryOp .USub x pos) := by
  refine PE.imp (pe_un un_neg ha) fun σ H Q ⟨io, e, s, hs, r, o⟩ => ⟨io, e, s, hs, r, Out.go o fun w s1 io1 H1 t1 r1 o1 v kv => ?_⟩
  cases w <;> first | exact False.elim o1 | exact ⟨_, kv, o1.val r1 rfl⟩
theorem e_no {a : E} {x : Expr} {pos : Pos} (ha : PEx X W g a x) : PEx X W g (.no a) (.UnaryOp .Not x pos) := by
  refine PE.imp (pe_not ha) fun σ H Q ⟨io, e, s, hs, r, o⟩ => ⟨io, e, s, hs, r, Out.go o fun w s1 io1 H1 t1 r1 o1 v kv => ?_⟩
  obtain ⟨b, rfl, o1⟩ := o1.toBk
  exact ⟨b, kv, o1.val r1 rfl⟩
theorem e_and {a b : E} {x y : Expr} {r : List Expr} {pos : Pos} (ha : PEx X W g a x) (hb : PEx X W g b (.BoolOp .And (y :: r) pos)) : PEx X W g (.and a b) (.BoolOp .And (x :: y :: r) pos) := by
  refine PE.imp (pe_and ha hb) fun σ H Q ⟨io, e, s, hs, r, o⟩ => ⟨io, e, s, hs, r, Out.go o fun w s1 io1 H1 t1 r1 o1 v kv => ?_⟩
  obtain ⟨b, rfl, o1⟩ := o1.toBk
  refine ⟨b, kv, ?_⟩
  cases b with
  | false => exact iteF (o1.val r1 rfl)
  | true => exact iteT ⟨io1, e, s1, hs.mono r t1, r1, o1⟩
theorem e_or {a b : E} {x y : Expr} {r : List Expr} {pos : Pos} (ha : PEx X W g a x) (hb : PEx X W g b (.BoolOp .Or (y :: r) pos)) : PEx X W g (.or a b) (.BoolOp .Or (x :: y :: r) pos) := by
  refine PE.imp (pe_or ha hb) fun σ H Q ⟨io, e, s, hs, r, o⟩ => ⟨io, e, s, hs, r, Out.go o fun w s1 io1 H1 t1 r1 o1 v kv => ?_⟩
  obtain ⟨b, rfl, o1⟩ := o1.toBk
  refine ⟨b, kv, ?_⟩
  cases b with
  | true => exact iteT (o1.val r1 rfl)
  | false => exact iteF ⟨io1, e, s1, hs.mono r t1, r1, o1⟩
theorem e_ite {c a b : E} {z x y : Expr} {pos : Pos} (hc : PTx X W g c z) (ha : PEx X W g a x) (hb : PEx X W g b y) : PEx X W g (.ite c a b) (.IfExp z x y pos) := by
  refine PE.imp (pe_ifExp hc ha hb) fun σ H Q ⟨io, e, s, hs, r, o⟩ => ⟨io, e, s, hs, r, Out.go o fun w s1 io1 H1 t1 r1 o1 v kv => ?_⟩
  cases kv
  cases w with
  | true => exact iteT ⟨io1, e, s1, hs.mono r t1, r1, o1⟩
  | false => exact iteF ⟨io1, e, s1, hs.mono r t1, r1, o1⟩
theorem e_tup {as : E} {xs : List Expr} {n : Nat} {pos : Pos} (ha : PAx X W g as xs) : PEx X W g (.tup as) (.Tuple xs n pos) := by
  refine PE.imp (pe_tup ha) fun σ H Q ⟨io, e, s, hs, r, o⟩ => ⟨io, e, s, hs, r, Out.go o fun w s1 io1 H1 t1 r1 o1 v kv => ?_⟩
  by_cases hl : w.length ≤ sizeLine
  · rw [if_pos hl] at o1
    exact ⟨by rw [← kv.length]; exact hl, fun p hp => o1.valT r1 kv hp⟩
  · rw [if_neg hl] at o1
    exact o1.elim
theorem e_lst {as : E} {xs : List Expr} {pos : Pos} (ha : PAx X W g as xs) : PEx X W g (.lst as) (.List xs pos) := by
  refine PE.imp (pe_lst ha) fun σ H Q ⟨io, e, s, hs, r, o⟩ => ⟨io, e, s, hs, r, Out.go o fun w s1 io1 H1 t1 r1 o1 v kv => ?_⟩
  by_cases hl : w.length ≤ sizeLine
  · rw [if_pos hl] at o1
    exact ⟨by rw [← kv.length]; exact hl, fun p hp => o1.valL r1 kv hp⟩
  · rw [if_neg hl] at o1
    exact o1.elim
theorem e_ix {a b : E} {x y : Expr} {pos : Pos} (hp : PlainIx y) (ha : PEx X W g a x) (hb : PEx X W g b y) : PEx X W g (.ix a b) (.Subscript x y pos) :=
  PE.imp (pe_ix ix_all ha hb hp) fun σ H Q ⟨io, e, s, hs, r, o⟩ =>
    ⟨io, e, s, hs, r, Out.go o fun w s1 io1 H1 t1 r1 o1 v kv => ⟨io1, e, s1, hs.mono r t1, r1, Out.go o1 fun u s2 io2 H2 t2 r2 o2 v2 kv2 => ⟨io2, s2, w, u, _, r1.mono t2 _ _ kv, kv2, r2, o2⟩⟩⟩
theorem e_sl {a lo hi : E} {x : Expr} {l h : Option Expr} {pos pos' : Pos} (ha : PEx X W g a x) (hl : POx X W g lo l) (hh : POx X W g hi h) : PEx X W g (.sl a lo hi) (.Subscript x (.Slice l h none pos') pos) := by
  refine PE.imp (pe_slice sl_all ha hl hh) fun σ H Q ⟨io, e, s, hs, r, o⟩ =>
    ⟨io, e, s, hs, r, Out.go o fun w s1 io1 H1 t1 r1 o1 v kv => ⟨io1, e, s1, hs.mono r t1, r1, Out.go o1 fun u s2 io2 H2 t2 r2 o2 v2 kv2 => ?_⟩⟩
  cases kv2
  refine ⟨io2, e, s2, (hs.mono r t1).mono r1 t2, r2, Out.go o2 fun m s3 io3 H3 t3 r3 o3 v3 kv3 => ?_⟩
  cases kv3
  exact ⟨io3, s3, w, _, r2.mono t3 _ _ (r1.mono t2 _ _ kv), r3, o3⟩
theorem e_rv {a : E} {x : Expr} {n : Nat} {p1 p2 p3 pos : Pos} (ha : PEx X W g a x) : PEx X W g (.rv a) (.Subscript x (.Slice none none (some (.UnaryOp .USub (.Constant (.int 1) n p1) p2)) p3) pos) := by
  refine PE.imp (pe_revL ha) fun σ H Q ⟨io, e, s, hs, r, o⟩ => ⟨io, e, s, hs, r, Out.go o fun w s1 io1 H1 t1 r1 o1 v kv => ?_⟩
  cases hw : lsq w s1 with
  | none => rw [hw] at o1; exact o1.elim
  | some ws =>
    rw [hw] at o1
    obtain ⟨p, vs, rfl, k1, k2⟩ := lsq_sq r1 kv hw
    exact ⟨p, vs, rfl, k1, fun q hq => o1.valL r1 k2.reverse hq⟩
theorem e_call {f : Str} {as : E} {x : Expr} {xs : List Expr} {p pos : Pos} (h : Good X k g W) (hd : g.df f = true) (hg : glB X.env.scope f = true) (ok : okN f = true) (hn : ∀ y ∈ x :: xs, noStar y = true) (ha : PAx X W g as (x :: xs)) : PEx X W g (.call f as) (.Call (.Name f p) (x :: xs) [] pos) := by
  obtain ⟨n, pe, hb⟩ := pe_named (p := p) (pos := pos) h hd (glB_ok hg) ok ha hn
  exact PE.imp pe fun σ H Q ⟨io, e, s, hs, r, o⟩ => ⟨io, e, s, hs, r, Out.go o fun w s1 io1 H1 t1 r1 o1 v kv => call_read hb r1 kv o1⟩
theorem toT_val {w : Py.W} {s : Sto} {io : List Addr} {H : Hp} {Q : Bool → Hp → Prop} {Z : KO Str} (r : Rel X.K X.mg io H s) (o : Out X.K X.mg (toT w s) io H (fun a _ io' H' => ∀ b, b = a → Q b H') Z) {v : V} (kv : RW X.K X.mg io H w v) : ∃ c, TruV X.K v H c ∧ Q c H := by
  obtain ⟨b, h, o⟩ := o.toT
  exact ⟨b, truW_ok r kv h, o.here r b rfl⟩
theorem t_call {f : Str} {as : E} {x : Expr} {xs : List Expr} {p pos : Pos} (h : Good X k g W) (hd : g.df f = true) (hg : glB X.env.scope f = true) (ok : okN f = true) (hn : ∀ y ∈ x :: xs, noStar y = true) (ha : PAx X W g as (x :: xs)) : PTx X W g (.call f as) (.Call (.Name f p) (x :: xs) [] pos) := by
  obtain ⟨n, pe, hb⟩ := pe_named (p := p) (pos := pos) h hd (glB_ok hg) ok ha hn
  refine PT.imp (pt_truth pe (by intro _; rfl)) fun σ H Q ⟨io, e, s, hs, r, o⟩ => ⟨io, e, s, hs, r, Out.go o fun w s1 io1 H1 t1 r1 o1 v kv => call_read hb r1 kv (Out.go o1 fun z s2 io2 H2 t2 r2 o2 v2 kv2 => toT_val r2 o2 kv2)⟩
theorem e_callv {i : Nat} {as : E} {y : Str} {x : Expr} {xs : List Expr} {p pos : Pos} (h : Good X k g W) (hN : X.N[i]? = some y) (hv : visB X.env.scope y = true) (ok : okN y = true) (hn : ∀ y ∈ x :: xs, noStar y = true) (ha : PAx X W g as (x :: xs)) : PEx X W g (.callv i as) (.Call (.Name y p) (x :: xs) [] pos) := by
  refine PE.imp (pe_callLS (CX := L2.CX X.prog X.w) (E := WE W) (S := fun f sp => ∃ z, g.df z = true ∧ X.mg z = some (.ref f) ∧ ∃ ps : List Str, sp = spG X.K X.mg g z ps.length ∧ ∃ fd, PySem.W.keepIn X.K (.ref f) = true ∧ Binds X.K fd ps [] ∧ FnOk X.prog X.w X.K X.mg X.base (L2.CX X.prog X.w) k f fd ps sp)
    (fun f sp ⟨z, hd, hm, ps, e, fd, h1, h2, h3⟩ => ⟨fd, ps, h3, h1, h2⟩) h.room hN (visB_ok hv) (fun σ => passAt h.tk σ) ha (okN_ok ok).1 (okN_ok ok).2 (starEach_ns (hn x List.mem_cons_self)) (nostar_any fun y hy => hn y (List.mem_cons_of_mem _ hy))) fun σ H Q ⟨io, e, s, hs, r, o⟩ => ?_
  have o : Out X.K X.mg (match e[i]? with
    | some (some (.fn x)) => if g.df x then (evs g as e s).bind fun ws s1 => g.call x ws s1 else .bad
    | _ => .bad) io H (KV X.K X.mg Q) (Kx X.mg W σ) := o
  cases he : e[i]? with
  | none => rw [he] at o; exact o.elim
  | some w =>
    rw [he] at o
    cases w with
    | none => exact False.elim o
    | some w =>
      cases w with
      | fn z =>
        have o : Out X.K X.mg (if g.df z then (evs g as e s).bind fun ws s1 => g.call z ws s1 else .bad) io H (KV X.K X.mg Q) (Kx X.mg W σ) := o
        by_cases hd : g.df z = true
        · rw [if_pos hd] at o
          obtain ⟨v, h1, f, rfl, h2⟩ := hs.at_ i _ he
          obtain ⟨f', fd, ps, k1, k2, k3, k4, k5⟩ := (h.mo.fn z hd).ex
          rw [h2] at k1
          cases k1
          exact ⟨f, _, h1, ⟨z, hd, h2, ps, rfl, fd, k2, k3, k4⟩, io, e, s, hs, r, Out.go o fun w s1 io1 H1 t1 r1 o1 v kv => call_read k5 r1 kv o1⟩
        · rw [if_neg hd] at o
          exact o.elim
      | _ => exact False.elim o
theorem e_bi {f : Bi} {as : E} {x : Expr} {xs : List Expr} {p pos : Pos} (h : Good X k g W) (hg : glB X.env.scope f.nm = true) (hn : ∀ y ∈ x :: xs, noStar y = true) (ha : PAx X W g as (x :: xs)) : PE X (.Call (.Name f.nm p) (x :: xs) [] pos) (tCB (rBi X.K X.mg f) (tA X.K X.mg W g as)) := by
  have h1 := bi_rule h.calm f
  have h2 := bi_boot f
  have h3 := h.mo.blt _ (bi_nm f)
  have h4 := bi_dunder f
  have h5 := starEach_ns (es := xs) (env := X.env) (hn x List.mem_cons_self)
  have h6 := nostar_any (env := X.env) (pos := pos) (es := xs) fun y hy => hn y (List.mem_cons_of_mem _ hy)
  have ty : ∀ {T : String}, f.val = .type T → PE X (.Call (.Name f.nm p) (x :: xs) [] pos) (tCB (rBi X.K X.mg f) (tA X.K X.mg W g as)) := fun {T} e => by
    rw [e] at h1 h2
    exact pe_callTy h1 (glB_ok hg) h3 h2 ha h4.1 h4.2 h5 h6
  have bl : ∀ {T : String}, f.val = .builtin T → PE X (.Call (.Name f.nm p) (x :: xs) [] pos) (tCB (rBi X.K X.mg f) (tA X.K X.mg W g as)) := fun {T} e => by
    rw [e] at h1 h2
    exact pe_callB h1 (glB_ok hg) h3 h2 ha h4.1 h4.2 h5 h6
  cases f <;> first | exact ty rfl | exact bl rfl
theorem ev_bi {f : Bi} {as : E} {x : Expr} {xs : List Expr} {p pos : Pos} (h : Good X k g W) (hg : glB X.env.scope f.nm = true) (hn : ∀ y ∈ x :: xs, noStar y = true) (ha : PAx X W g as (x :: xs)) : PEx X W g (.bi f as) (.Call (.Name f.nm p) (x :: xs) [] pos) :=
  PE.imp (e_bi h hg hn ha) fun σ H Q ⟨io, e, s, hs, r, o⟩ => ⟨io, e, s, hs, r, Out.go o fun w s1 io1 H1 t1 r1 o1 v kv => ⟨io1, s1, w, _, kv, r1, o1⟩⟩
theorem t_bi {f : Bi} {as : E} {x : Expr} {xs : List Expr} {p pos : Pos} (h : Good X k g W) (hg : glB X.env.scope f.nm = true) (hn : ∀ y ∈ x :: xs, noStar y = true) (ha : PAx X W g as (x :: xs)) : PTx X W g (.bi f as) (.Call (.Name f.nm p) (x :: xs) [] pos) :=
  PT.imp (pt_truth (e_bi h hg hn ha) (by intro _; rfl)) fun σ H Q ⟨io, e, s, hs, r, o⟩ => ⟨io, e, s, hs, r, Out.go o fun w s1 io1 H1 t1 r1 o1 v kv => ⟨io1, s1, w, _, kv, r1, Out.go o1 fun z s2 io2 H2 t2 r2 o2 v2 kv2 => toT_val r2 o2 kv2⟩⟩
theorem isLoc_ty {w : Py.W} {s : Sto} {io : List Addr} {H : Hp} {v : V} (r : Rel X.K X.mg io H s) (kv : RW X.K X.mg io H w v) (h : isLoc w s = true) : tyV X.K "list" v H := by
  cases w with
  | loc n =>
    obtain ⟨ws, hw⟩ := Option.isSome_iff_exists.mp (show (s[n]?).isSome = true from h)
    obtain ⟨p, vs, rfl, k1, k2⟩ := lsq_sq r kv (show lsq (.loc n) s = some ws from hw)
    exact .inl ⟨rfl, vs, k1⟩
  | _ => cases h
theorem e_mt0 {m : Mt} {o : E} {x : Expr} {ap cp : Pos} (hr : rcv x = true) (hl : (ap.endLine == cp.line) = true) (ho : PEx X W g o x) : PEx X W g (.mt m o .nil) (.Call (.Attribute x m.nm ap) [] [] cp) := by
  refine PE.imp (pe_bm0 PySem.F.plainAttrs_list (mt_facts m).1 (mt_facts m).2 (mt_rule m) ho (rcv_base hr) hl) fun σ H Q ⟨io, e, s, hs, r, o⟩ => ⟨io, e, s, hs, r, Out.go o fun w s1 io1 H1 t1 r1 o1 v kv => ?_⟩
  by_cases hi : isLoc w s1 = true
  · rw [if_pos hi] at o1
    exact ⟨isLoc_ty r1 kv hi, io1, s1, w, [], _, kv, rfl, r1, o1⟩
  · rw [if_neg hi] at o1
    exact o1.elim
theorem e_mt {m : Mt} {o as : E} {x y : Expr} {ys : List Expr} {ap cp : Pos} (hr : rcv x = true) (hl : (ap.endLine == cp.line) = true) (hf : ys.length < 20) (hn : ∀ z ∈ y :: ys, noStar z = true) (ho : PEx X W g o x) (ha : PAx X W g as (y :: ys)) : PEx X W g (.mt m o as) (.Call (.Attribute x m.nm ap) (y :: ys) [] cp) := by
  refine PE.imp (pe_bm PySem.F.plainAttrs_list (mt_facts m).1 (mt_facts m).2 (mt_rule m) ho ha (rcv_base hr) ?_ hl (starEach_ns (hn y List.mem_cons_self)) (nostar_any fun z hz => hn z (List.mem_cons_of_mem _ hz))) fun σ H Q ⟨io, e, s, hs, r, o⟩ => ⟨io, e, s, hs, r, Out.go o fun w s1 io1 H1 t1 r1 o1 v kv => ?_⟩
  · rw [nostar_all hn]
    show (true && true && decide ((y :: ys).length + 0 + 0 < 30)) = true
    rw [decide_eq_true (by rw [List.length_cons]; omega)]
    rfl
  by_cases hi : isLoc w s1 = true
  · rw [if_pos hi] at o1
    exact ⟨isLoc_ty r1 kv hi, io1, e, s1, hs.mono r t1, r1, Out.go o1 fun u s2 io2 H2 t2 r2 o2 v2 kv2 => ⟨io2, s2, w, u, _, r1.mono t2 _ _ kv, kv2, r2, o2⟩⟩
  · rw [if_neg hi] at o1
    exact o1.elim
theorem ty_val {t : Ty} (ht : t ≠ .lt) {pos : Pos} (h : Good X k g W) (hg : glB X.env.scope t.nm = true) : PE X (.Name t.nm pos) (tC (.ty t.tn)) := by
  obtain ⟨h1, h2, h3, h4⟩ := ty_boot t ht
  exact pe_bltn (glB_ok hg) (h.mo.blt _ h2) h1 rfl h3 h4
theorem isi_pe {a : E} {t : Ty} {x : Expr} {p p2 pos : Pos} (h : Good X k g W) (ht : t ≠ .lt) (hg : glB X.env.scope "isinstance" = true) (hg2 : glB X.env.scope t.nm = true) (hn : noStar x = true) (ha : PEx X W g a x) :
    PE X (.Call (.Name "isinstance" p) [x, .Name t.nm p2] [] pos) (tCB (rIsi X.K) (tCons (tE X.K X.mg W g a) (tCons (tC (.ty t.tn)) tNil))) :=
  pe_callB call_isi (glB_ok hg) (h.mo.blt _ (by decide)) (by decide +kernel) (pa_cons ha (pa_cons (ty_val ht h hg2) pa_nil (by rfl)) (starEach_ns hn)) (by decide) (by decide) (starEach_ns hn) (by rfl)
theorem isi_rd {t : Ty} (ht : t ≠ .lt) {w : Py.W} {s : Sto} {io : List Addr} {H : Hp} {v : V} {Q : VK} {Z : KO Str} (r : Rel X.K X.mg io H s) (kv : RW X.K X.mg io H w v) (o : Out X.K X.mg (ob (isiW t w) s) io H (KV X.K X.mg Q) Z) : rIsi X.K [v, .ty t.tn] H Q := by
  obtain ⟨c, hc, o⟩ := o.ob
  exact ⟨v, .ty t.tn, .type (tyN w), .type t.tn, c, rfl, .ty _, tyX_of r kv t hc, kit_ty (kit_all ht hc), o.val r rfl⟩
theorem e_isi {a : E} {t : Ty} {x : Expr} {p p2 pos : Pos} (h : Good X k g W) (ht : t ≠ .lt) (hg : glB X.env.scope "isinstance" = true) (hg2 : glB X.env.scope t.nm = true) (hn : noStar x = true) (ha : PEx X W g a x) :
    PEx X W g (.isi a t) (.Call (.Name "isinstance" p) [x, .Name t.nm p2] [] pos) :=
  PE.imp (isi_pe h ht hg hg2 hn ha) fun σ H Q ⟨io, e, s, hs, r, o⟩ => ⟨io, e, s, hs, r, Out.go o fun w s1 io1 H1 t1 r1 o1 v kv => isi_rd ht r1 kv o1⟩
theorem t_isi {a : E} {t : Ty} {x : Expr} {p p2 pos : Pos} (h : Good X k g W) (ht : t ≠ .lt) (hg : glB X.env.scope "isinstance" = true) (hg2 : glB X.env.scope t.nm = true) (hn : noStar x = true) (ha : PEx X W g a x) :
    PTx X W g (.isi a t) (.Call (.Name "isinstance" p) [x, .Name t.nm p2] [] pos) :=
  PT.imp (pt_truth (isi_pe h ht hg hg2 hn ha) (by intro _; rfl)) fun σ H Q ⟨io, e, s, hs, r, o⟩ => ⟨io, e, s, hs, r, Out.go o fun w s1 io1 H1 t1 r1 o1 v kv => isi_rd ht r1 kv (Out.go o1 fun z s2 io2 H2 t2 r2 o2 v2 kv2 => toT_val r2 o2 kv2)⟩
theorem isl_pe {a : E} {x : Expr} {p p2 p3 p4 pos : Pos} {n : Nat} (h : Good X k g W) (hg : glB X.env.scope "isinstance" = true) (hg2 : glB X.env.scope "list" = true) (hg3 : glB X.env.scope "tuple" = true) (hn : noStar x = true) (ha : PEx X W g a x) :
    PE X (.Call (.Name "isinstance" p) [x, .Tuple [.Name "list" p2, .Name "tuple" p3] n p4] [] pos) (tCB (rIsiT X.K) (tCons (tE X.K X.mg W g a) (tCons (tTup (tCons (tC (.ty "list")) (tCons (tC (.ty "tuple")) tNil))) tNil))) :=
  pe_callB call_isiT (glB_ok hg) (h.mo.blt _ (by decide)) (by decide +kernel) (pa_cons ha (pa_cons (pe_tup (pa_cons (ty_val (t := .list) (fun z => nomatch z) h hg2) (pa_cons (ty_val (t := .tuple) (fun z => nomatch z) h hg3) pa_nil (by rfl)) (by rfl))) pa_nil (by rfl)) (starEach_ns hn)) (by decide) (by decide) (starEach_ns hn) (by rfl)
theorem isl_rd {w : Py.W} {s : Sto} {io : List Addr} {H : Hp} {v : V} {Q : VK} {Z : KO Str} {σ : L2.St} (r : Rel X.K X.mg io H s) (kv : RW X.K X.mg io H w v) (o : Out X.K X.mg (ob (isiW .lt w) s) io H (KV X.K X.mg Q) Z) :
    (tCons (tTup (tCons (tC (.ty "list")) (tCons (tC (.ty "tuple")) tNil))) tNil) σ H fun xs H2 => rIsiT X.K (v :: xs) H2 Q := by
  obtain ⟨c, hc, o⟩ := o.ob
  refine ⟨by show 2 ≤ sizeLine; decide, fun p hp => ?_⟩
  exact ⟨v, p, [.ty "list", .ty "tuple"], .type (tyN w), [.type "list", .type "tuple"], c, rfl, upd_same, .cons (.ty _) (.cons (.ty _) .nil), tyX_of (r.tup hp) (r.mono (stp_tup hp) _ _ kv) .lt hc, kit_lt hc, o io _ (stp_tup hp) (r.tup hp) _ rfl⟩
theorem e_isl {a : E} {x : Expr} {p p2 p3 p4 pos : Pos} {n : Nat} (h : Good X k g W) (hg : glB X.env.scope "isinstance" = true) (hg2 : glB X.env.scope "list" = true) (hg3 : glB X.env.scope "tuple" = true) (hn : noStar x = true) (ha : PEx X W g a x) :
    PEx X W g (.isi a .lt) (.Call (.Name "isinstance" p) [x, .Tuple [.Name "list" p2, .Name "tuple" p3] n p4] [] pos) :=
  PE.imp (isl_pe h hg hg2 hg3 hn ha) fun σ H Q ⟨io, e, s, hs, r, o⟩ => ⟨io, e, s, hs, r, Out.go o fun w s1 io1 H1 t1 r1 o1 v kv => isl_rd r1 kv o1⟩
theorem t_isl {a : E} {x : Expr} {p p2 p3 p4 pos : Pos} {n : Nat} (h : Good X k g W) (hg : glB X.env.scope "isinstance" = true) (hg2 : glB X.env.scope "list" = true) (hg3 : glB X.env.scope "tuple" = true) (hn : noStar x = true) (ha : PEx X W g a x) :
    PTx X W g (.isi a .lt) (.Call (.Name "isinstance" p) [x, .Tuple [.Name "list" p2, .Name "tuple" p3] n p4] [] pos) :=
  PT.imp (pt_truth (isl_pe h hg hg2 hg3 hn ha) (by intro _; rfl)) fun σ H Q ⟨io, e, s, hs, r, o⟩ => ⟨io, e, s, hs, r, Out.go o fun w s1 io1 H1 t1 r1 o1 v kv => isl_rd r1 kv (Out.go o1 fun z s2 io2 H2 t2 r2 o2 v2 kv2 => toT_val r2 o2 kv2)⟩
theorem w_and {a b : E} {x y : Expr} {r : List Expr} {pos : Pos} (ha : PTx X W g a x) (hb : PWx X W g b (.BoolOp .And (y :: r) pos)) : PWx X W g (.and a b) (.BoolOp .And (x :: y :: r) pos) := by
  refine PW.imp (pw_and ha hb) fun σ H Q ⟨io, e, s, hs, r, o⟩ => ⟨io, e, s, hs, r, Out.go o fun w s1 io1 H1 t1 r1 o1 v kv => ?_⟩
  cases kv
  cases w with
  | true => exact iteT ⟨io1, e, s1, hs.mono r t1, r1, o1⟩
  | false => exact iteF (o1.here r1 _ rfl)
theorem w_or {a b : E} {x y : Expr} {r : List Expr} {pos : Pos} (ha : PTx X W g a x) (hb : PWx X W g b (.BoolOp .Or (y :: r) pos)) : PWx X W g (.or a b) (.BoolOp .Or (x :: y :: r) pos) := by
  refine PW.imp (pw_or ha hb) fun σ H Q ⟨io, e, s, hs, r, o⟩ => ⟨io, e, s, hs, r, Out.go o fun w s1 io1 H1 t1 r1 o1 v kv => ?_⟩
  cases kv
  cases w with
  | false => exact iteF ⟨io1, e, s1, hs.mono r t1, r1, o1⟩
  | true => exact iteT (o1.here r1 _ rfl)
theorem t_no {a : E} {x : Expr} {pos : Pos} (ha : PTx X W g a x) : PTx X W g (.no a) (.UnaryOp .Not x pos) := by
  refine PT.imp (pt_not ha) fun σ H Q ⟨io, e, s, hs, r, o⟩ => ⟨io, e, s, hs, r, Out.go o fun w s1 io1 H1 t1 r1 o1 v kv => ?_⟩
  cases kv
  exact o1.here r1 _ rfl
theorem t_var {i : Nat} {y : Str} {pos : Pos} (hN : X.N[i]? = some y) (hv : visB X.env.scope y = true) (ok : okN y = true) : PTx X W g (.var i) (.Name y pos) := by
  refine PT.imp (pt_truth (pe_var hN (visB_ok hv) (okN_ok ok).1 (okN_ok ok).2) (by intro _; rfl)) fun σ H Q ⟨io, e, s, hs, r, o⟩ => ?_
  obtain ⟨w, v, h1, h2, o⟩ := Out.slotk hs o
  exact ⟨v, h1, toT_val r o h2⟩
end
end Py
namespace Py
open PySem PySem.Spec PyProof.Rows L2
section
variable {X : Cx} {k : Nat} {g : G} {W : WX}
theorem relab {scope : Scope} {cl : List (Str × Addr)} {C : Addr} : (compEnvC scope cl C X.env).scope = relS scope X.env.scope := rfl
structure LS (X : Cx) (io1 : List Addr) (H1 : Hp) (D : Addr) (io : List Addr) (H : Hp) (s : Sto) (acc : List Py.W) (av : List V) : Prop where
  st : Stp io1 H1 io H
  rel : Rel X.K X.mg io H s
  nin : D ∉ io
  hD : H D = some (.lst av)
  kw : RWs X.K X.mg io H acc av
theorem LS.start {io1 : List Addr} {H1 : Hp} {s : Sto} {D : Addr} (r : Rel X.K X.mg io1 H1 s) (hD : H1 D = none) : LS X io1 H1 D io1 (upd H1 D (.lst [])) s [] [] := by
  refine ⟨stp_tup hD, r.tup hD, fun z => ?_, upd_same, rfl⟩
  obtain ⟨vs, q⟩ := r.lst z
  rw [hD] at q
  cases q
theorem LS.step {io1 io io' : List Addr} {H1 H H' : Hp} {s s' : Sto} {D : Addr} {acc : List Py.W} {av : List V} (l : LS X io1 H1 D io H s acc av) (t : Stp io H io' H') (r : Rel X.K X.mg io' H' s') : LS X io1 H1 D io' H' s' acc av := by
  refine ⟨l.st.trans t, r, fun z => (t.new D z).elim l.nin fun q => ?_, t.old D _ l.hD l.nin, l.rel.monos t _ _ l.kw⟩
  rw [l.hD] at q
  cases q
theorem LS.push {io1 io : List Addr} {H1 H : Hp} {s : Sto} {D : Addr} {acc : List Py.W} {av : List V} {w : Py.W} {v : V} (l : LS X io1 H1 D io H s acc av) (h1 : H1 D = none) (kw : RW X.K X.mg io H w v) : LS X io1 H1 D io (upd H D (.lst (av ++ [v]))) s (acc ++ [w]) (av ++ [v]) := by
  refine ⟨l.st.out h1, l.rel.out l.nin l.hD, l.nin, upd_same, ?_⟩
  have := RWs.keep (r := []) (kp_out (ys := av ++ [v]) l.hD) (acc ++ [w]) (av ++ [v]) (l.kw.app (.one kw))
  rwa [List.append_nil] at this
theorem LS.done {io1 io : List Addr} {H1 H : Hp} {s : Sto} {D : Addr} {acc : List Py.W} {av : List V} {Q : VK} {Z : KO Str} (l : LS X io1 H1 D io H s acc av) (h1 : H1 D = none) (o : Out X.K X.mg (alloc acc s) io1 H1 (KV X.K X.mg Q) Z) : Q (.ref D) H :=
  o (io ++ [D]) H (l.st.add h1) (l.rel.add l.nin l.hD l.kw) _ ⟨D, rfl, by rw [← l.rel.len, List.getElem?_append_right (Nat.le_refl _), Nat.sub_self]; rfl⟩
def compF (g : G) (own : List (Str × Nat)) (tg : Tn) (cond elt : E) (e : Sl) : Py.W → Sto → R (Option Py.W) := fun w s2 => R.noex (match tnSet tg w (wipeS e (own.map Prod.snd)) with
  | none => R.bad
  | some e' => (evT g cond e' s2).bind fun k s3 => if k then (ev g elt e' s3).bind fun v s4 => R.ok (some v) s4 else R.ok none s3)
theorem noex_bind {α β : Type} {r : R α} {f : α → Sto → R β} {K : PySem.W.Frag} {mg : Str → Option Value} {io : List Addr} {H : Hp} {Q : KO β} {Z : KO Str} (o : Out K mg (r.noex.bind f) io H Q Z) : ∃ a s, r = .ok a s ∧ Out K mg (f a s) io H Q Z := by
  cases r with
  | ok a s => exact ⟨a, s, rfl, o⟩
  | exc c s => exact o.elim
  | bad => exact o.elim
theorem comp_turn {own : List (Str × Nat)} {tg : Tn} {cond elt : E} {e : Sl} {σ : L2.St} {io1 io : List Addr} {H1 H : Hp} {s : Sto} {D : Addr} {acc : List Py.W} {av : List V} {w : Py.W} {x : V} {Nx : Hp → Prop} {Qr : KO Py.W} {Z : KO Str}
    {kont : Option Py.W → Sto → R Py.W} (hD : H1 D = none) (l : LS X io1 H1 D io H s acc av) (hs : RSl X.K X.mg io H e σ) (kx : RW X.K X.mg io H w x) (hin : ∀ i ∈ tnIx tg, i ∈ own.map Prod.snd)
    (o : Out X.K X.mg ((compF g own tg cond elt e w s).bind kont) io1 H1 Qr Z)
    (hN : ∀ io' H' s' acc' av', LS X io1 H1 D io' H' s' acc' av' → RSl X.K X.mg io' H' e σ → ((∃ v, acc.length < sizeLine ∧ acc' = acc ++ [v] ∧ Out X.K X.mg (kont (some v) s') io1 H1 Qr Z) ∨ (acc' = acc ∧ Out X.K X.mg (kont none s') io1 H1 Qr Z)) → Nx H')
    (hsz : ∀ v s', Out X.K X.mg (kont (some v) s') io1 H1 Qr Z → acc.length < sizeLine) :
    gOf X.K tg x (L2.wipe σ (own.map Prod.snd)) H fun σ2 H2 => L2.wipe σ2 (own.map Prod.snd) = L2.wipe σ (own.map Prod.snd) ∧ tT X.K X.mg (fun _ _ _ _ => False) g cond σ2 H2 fun b H3 =>
      if b = true then tE X.K X.mg (fun _ _ _ _ => False) g elt σ2 H3 fun y H4 => ∃ acc, H4 D = some (.lst acc) ∧ acc.length < sizeLine ∧ Nx (upd H4 D (.lst (acc ++ [y]))) else Nx H3 := by
  obtain ⟨a0, s0, ho, o⟩ := noex_bind o
  cases ht : tnSet tg w (wipeS e (own.map Prod.snd)) with
  | none => rw [ht] at ho; cases ho
  | some e' =>
    rw [ht] at ho
    have ho : ((evT g cond e' s).bind fun k s3 => if k then (ev g elt e' s3).bind fun v s4 => R.ok (some v) s4 else R.ok none s3) = .ok a0 s0 := ho
    refine gOf_ok l.rel tg w x _ e' _ _ (hs.wipe _) kx ht fun σ2 hs2 hw2 => ⟨?_, io, e', s, hs2, l.rel, ?_⟩
    · have := hw2 (own.map Prod.snd) hin
      rw [this]
      exact wipe_wipe σ _
    · cases h1 : evT g cond e' s with
      | bad => rw [h1] at ho; cases ho
      | exc c s1 => rw [h1] at ho; cases ho
      | ok b s3 =>
        rw [h1] at ho
        intro io3 H3 t3 r3 b' hb
        subst hb
        have l3 := l.step t3 r3
        cases b' with
        | false =>
          have ho : R.ok none s3 = .ok a0 s0 := ho
          cases ho
          exact iteF (hN io3 H3 _ acc av l3 (hs.mono l.rel t3) (.inr ⟨rfl, o⟩))
        | true =>
          have ho : ((ev g elt e' s3).bind fun v s4 => R.ok (some v) s4) = .ok a0 s0 := ho
          refine iteT ⟨io3, e', s3, hs2.mono l.rel t3, r3, ?_⟩
          cases h2 : ev g elt e' s3 with
          | bad => rw [h2] at ho; cases ho
          | exc c s1 => rw [h2] at ho; cases ho
          | ok v s4 =>
            rw [h2] at ho
            have ho : R.ok (some v) s4 = .ok a0 s0 := ho
            cases ho
            intro io4 H4 t4 r4 y ky
            have l4 := l3.step t4 r4
            have hz := hsz _ _ o
            exact ⟨av, l4.hD, by rw [← l4.kw.length]; exact hz, hN io4 _ _ _ _ (l4.push hD ky) (rsl_out ((hs.mono l.rel t3).mono r3 t4) l4.hD) (.inl ⟨v, hz, rfl, o⟩)⟩
theorem e_comp {own : List (Str × Nat)} {tg : Tn} {ik : Ik} {as cond elt : E} {el t iter : Expr} {ifs : List Expr} {scope : Scope} (h : Good X k g W) (ok : blkC X.N X.env.scope scope own = true) (ht : mTn X.N (relS scope X.env.scope) tg t = true) (hin : (tnIx tg).all (fun i => decide (i ∈ own.map Prod.snd)) = true)
    (hn : noSet iter = true) (hi : PI X t iter (tI X.K X.mg W g ik as))
    (hc : ∀ (s : Shared) (H : Hp) (C : Addr) (cl : List (Str × Addr)) (fp : List Addr), PTs (X.blk s H scope (compEnvC scope cl C X.env) fp) ifs (tT X.K X.mg (fun _ _ _ _ => False) g cond))
    (he : ∀ (s : Shared) (H : Hp) (C : Addr) (cl : List (Str × Addr)) (fp : List Addr), PE (X.blk s H scope (compEnvC scope cl C X.env) fp) el (tE X.K X.mg (fun _ _ _ _ => False) g elt)) :
    ∀ σ H Q, tE X.K X.mg W g (.comp own tg ik as cond elt) σ H Q → tLc (tI X.K X.mg W g ik as) (gOf X.K tg) (tT X.K X.mg (fun _ _ _ _ => False) g cond) (tE X.K X.mg (fun _ _ _ _ => False) g elt) (own.map Prod.snd) σ H Q := by
  intro σ H Q ⟨io, e, s, hs, r, o⟩
  have hin' : ∀ i ∈ tnIx tg, i ∈ own.map Prod.snd := fun i hi => of_decide_eq_true (List.all_eq_true.mp hin i hi)
  refine ⟨io, e, s, hs, r, Out.go o fun ws s1 io1 H1 t1 r1 o1 => ?_⟩
  cases hsrc : srcOf ik ws s1 with
  | none => rw [hsrc] at o1; exact o1.elim
  | some src =>
    rw [hsrc] at o1
    refine ⟨src, rfl, fun J jr D hD => ?_⟩
    have o1 : Out X.K X.mg ((compL (compF g own tg cond elt e) big src 0 [] s1).bind fun acc s2 => alloc acc s2) io1 H1 (KV X.K X.mg Q) (Kx X.mg W σ) := o1
    refine ⟨fun i m Hc => ∃ io2 sc acc av, LS X io1 H1 D io2 Hc sc acc av ∧ RSl X.K X.mg io2 Hc e σ ∧ Out X.K X.mg ((compL (compF g own tg cond elt e) m src i acc sc).bind fun acc s2 => alloc acc s2) io1 H1 (KV X.K X.mg Q) (Kx X.mg W σ),
      ⟨big, io1, s1, [], [], .start r1 hD, (hs.mono r t1).mono r1 (stp_tup hD), o1⟩, ?_⟩
    rintro i m Hc ⟨io2, sc, acc, av, l, hs2, oc⟩
    cases m with
    | zero => exact oc.elim
    | succ m =>
      have jr' := jr io2 Hc sc l.st l.rel i
      have oc : Out X.K X.mg ((match itAt src i sc with
        | none => .bad
        | some none => .ok acc sc
        | some (some w) => (compF g own tg cond elt e w sc).bind fun o s' => match o with
          | some v => if acc.length < sizeLine then compL (compF g own tg cond elt e) m src (i + 1) (acc ++ [v]) s' else .bad
          | none => compL (compF g own tg cond elt e) m src (i + 1) acc s' : R (List Py.W)).bind fun acc s2 => alloc acc s2) io1 H1 (KV X.K X.mg Q) (Kx X.mg W σ) := oc
      cases hit : itAt src i sc with
      | none => rw [hit] at oc; exact oc.elim
      | some z =>
        rw [hit] at oc jr'
        cases z with
        | none => exact .inl ⟨jr', l.done hD oc⟩
        | some w =>
          refine .inr ⟨jr'.1, fun H' => ∃ m', m' < m + 1 ∧ ∃ io2 sc acc av, LS X io1 H1 D io2 H' sc acc av ∧ RSl X.K X.mg io2 H' e σ ∧ Out X.K X.mg ((compL (compF g own tg cond elt e) m' src (i + 1) acc sc).bind fun acc s2 => alloc acc s2) io1 H1 (KV X.K X.mg Q) (Kx X.mg W σ), fun H' z => z, fun x H' hy => ?_⟩
          obtain ⟨st, rl, kx⟩ := jr'.2 x H' hy
          have oc : Out X.K X.mg (((compF g own tg cond elt e w sc).bind fun o s' => match o with
            | some v => if acc.length < sizeLine then compL (compF g own tg cond elt e) m src (i + 1) (acc ++ [v]) s' else .bad
            | none => compL (compF g own tg cond elt e) m src (i + 1) acc s').bind fun acc s2 => alloc acc s2) io1 H1 (KV X.K X.mg Q) (Kx X.mg W σ) := oc
          rw [R.bind_assoc] at oc
          refine comp_turn hD (l.step st rl) (hs2.mono l.rel st) kx hin' oc (fun io' H'' s' acc' av' l' hs' hor => ?_) fun v s' ov => ?_
          · rcases hor with ⟨v, hz, rfl, ov⟩ | ⟨rfl, ov⟩
            · have ov : Out X.K X.mg ((if acc.length < sizeLine then compL (compF g own tg cond elt e) m src (i + 1) (acc ++ [v]) s' else .bad).bind fun acc s2 => alloc acc s2) io1 H1 (KV X.K X.mg Q) (Kx X.mg W σ) := ov
              rw [if_pos hz] at ov
              exact ⟨m, Nat.lt_succ_self m, io', s', _, av', l', hs', ov⟩
            · exact ⟨m, Nat.lt_succ_self m, io', s', _, av', l', hs', ov⟩
          · have ov : Out X.K X.mg ((if acc.length < sizeLine then compL (compF g own tg cond elt e) m src (i + 1) (acc ++ [v]) s' else .bad).bind fun acc s2 => alloc acc s2) io1 H1 (KV X.K X.mg Q) (Kx X.mg W σ) := ov
            by_cases hz : acc.length < sizeLine
            · exact hz
            · rw [if_neg hz] at ov
              exact ov.elim
theorem PTs.imp {e : List Expr} {t t' : TT} (h : PTs X e t) (i : ∀ σ H Q, t' σ H Q → t σ H Q) : PTs X e t' := ⟨fun pins s σ H Q I q => h.run pins s σ H Q I (i σ H Q q)⟩
theorem t_nil : PTs X [] (tT X.K X.mg W g .nil) := PTs.imp pts_nil fun σ H Q ⟨io, e, s, hs, r, o⟩ => o.here r true rfl
end
section
variable {k : Nat} {g : G}
mutual
theorem sE : ∀ (a : E) (X : Cx) (W : WX) (x : Expr), Good X k g W → mE X.N g.df a X.env.scope x = true → PEx X W g a x
  | .var i, X, W, x, h, m => by
    unfold mE at m
    split at m
    · rw [Bool.and_eq_true, Bool.and_eq_true, beq_iff_eq] at m
      refine PE.imp (pe_var m.1.1 (visB_ok m.1.2) (okN_ok m.2).1 (okN_ok m.2).2) fun σ H Q ⟨io, e, s, hs, r, o⟩ => ?_
      obtain ⟨w, v, h1, h2, o⟩ := Out.slot hs o
      exact ⟨v, h1, o.val r h2⟩
    · cases m
  | .con n, X, W, x, h, m => by
    unfold mE at m
    split at m
    · rw [Bool.and_eq_true, Bool.and_eq_true, beq_iff_eq] at m
      obtain ⟨⟨rfl, hg⟩, ok⟩ := m
      cases hc : g.con n with
      | none =>
        refine ⟨fun pins st σ H Q I ⟨io, e, s, hs, r, o⟩ => ?_⟩
        have o : Out X.K X.mg (match g.con n with | some w => .ok w s | none => .bad : R Py.W) io H (KV X.K X.mg Q) (Kx X.mg W σ) := o
        rw [hc] at o
        exact o.elim
      | some w =>
        obtain ⟨u, v, h1, h2, h3⟩ := h.mo.con n w hc
        refine PE.imp (pe_glob (glB_ok hg) h1 h2 (okN_ok ok).1) fun σ H Q ⟨io, e, s, hs, r, o⟩ => ?_
        have o : Out X.K X.mg (match g.con n with | some w => .ok w s | none => .bad : R Py.W) io H (KV X.K X.mg Q) (Kx X.mg W σ) := o
        rw [hc] at o
        exact o.val r (h3 io H)
    · cases m
  | .fref n, X, W, x, h, m => by
    unfold mE at m
    split at m
    · rw [Bool.and_eq_true, Bool.and_eq_true, beq_iff_eq] at m
      obtain ⟨⟨rfl, hg⟩, ok⟩ := m
      by_cases hd : g.df n = true
      · obtain ⟨f, fd, ps, h1, _⟩ := (h.mo.fn n hd).ex
        refine PE.imp (pe_glob (v := .ref f) (glB_ok hg) h1 rfl (okN_ok ok).1) fun σ H Q ⟨io, e, s, hs, r, o⟩ => ?_
        have o : Out X.K X.mg (if g.df n then .ok (.fn n) s else .bad : R Py.W) io H (KV X.K X.mg Q) (Kx X.mg W σ) := o
        rw [if_pos hd] at o
        exact o.val r ⟨f, rfl, h1⟩
      · refine ⟨fun pins st σ H Q I ⟨io, e, s, hs, r, o⟩ => ?_⟩
        have o : Out X.K X.mg (if g.df n then .ok (.fn n) s else .bad : R Py.W) io H (KV X.K X.mg Q) (Kx X.mg W σ) := o
        rw [if_neg hd] at o
        exact o.elim
    · cases m
  | .int i, X, W, x, h, m => by
    unfold mE at m
    split at m
    · rw [beq_iff_eq] at m
      subst m
      exact PE.imp pe_int fun σ H Q ⟨io, e, s, hs, r, o⟩ => o.val r rfl
    · cases m
  | .bl b, X, W, x, h, m => by
    unfold mE at m
    split at m
    · rw [beq_iff_eq] at m
      subst m
      exact PE.imp pe_bl fun σ H Q ⟨io, e, s, hs, r, o⟩ => o.val r rfl
    · cases m
  | .non, X, W, x, h, m => by
    unfold mE at m
    split at m
    · exact PE.imp pe_non fun σ H Q ⟨io, e, s, hs, r, o⟩ => o.val r rfl
    · cases m
  | .str z, X, W, x, h, m => by
    unfold mE at m
    split at m
    · rw [beq_iff_eq] at m
      subst m
      exact PE.imp pe_str fun σ H Q ⟨io, e, s, hs, r, o⟩ => o.val r rfl
    · cases m
  | .bin op a b, X, W, x, h, m => by
    unfold mE at m
    split at m
    · rw [Bool.and_eq_true, Bool.and_eq_true, beq_iff_eq] at m
      obtain ⟨⟨rfl, m1⟩, m2⟩ := m
      exact e_bin h (sE a X W _ h m1) (sE b X W _ h m2)
    · cases m
  | .neg a, X, W, x, h, m => by
    unfold mE at m
    split at m
    · exact e_neg (sE a X W _ h m)
    · cases m
  | .no a, X, W, x, h, m => by
    unfold mE at m
    split at m
    · exact e_no (sE a X W _ h m)
    · cases m
  | .cmp op a b, X, W, x, h, m => by
    unfold mE at m
    split at m
    · rw [Bool.and_eq_true, Bool.and_eq_true, Bool.and_eq_true, beq_iff_eq] at m
      obtain ⟨⟨⟨rfl, hn⟩, m1⟩, m2⟩ := m
      exact e_cmp h hn (sE a X W _ h m1) (sE b X W _ h m2)
    · cases m
  | .chain op op' a b c, X, W, x, h, m => by
    unfold mE at m
    split at m
    · rw [Bool.and_eq_true, Bool.and_eq_true, Bool.and_eq_true, Bool.and_eq_true, Bool.and_eq_true, beq_iff_eq, beq_iff_eq] at m
      obtain ⟨⟨⟨⟨⟨rfl, rfl⟩, hn⟩, m1⟩, m2⟩, m3⟩ := m
      exact e_chain h hn (sE a X W _ h m1) (sE b X W _ h m2) (sE c X W _ h m3)
    · cases m
  | .and a b, X, W, x, h, m => by
    unfold mE at m
    split at m
    · rw [Bool.and_eq_true] at m
      exact e_and (sE a X W _ h m.1) (sE b X W _ h m.2)
    · cases m
  | .or a b, X, W, x, h, m => by
    unfold mE at m
    split at m
    · rw [Bool.and_eq_true] at m
      exact e_or (sE a X W _ h m.1) (sE b X W _ h m.2)
    · cases m
  | .one a, X, W, x, h, m => by
    unfold mE at m
    split at m
    · exact pe_one (sE a X W _ h m)
    · cases m
  | .ite c a b, X, W, x, h, m => by
    unfold mE at m
    split at m
    · rw [Bool.and_eq_true, Bool.and_eq_true] at m
      exact e_ite (sT c X W _ h m.1.1) (sE a X W _ h m.1.2) (sE b X W _ h m.2)
    · cases m
  | .tup as, X, W, x, h, m => by
    unfold mE at m
    split at m
    · exact e_tup (sEs as X W _ h m).1
    · cases m
  | .lst as, X, W, x, h, m => by
    unfold mE at m
    split at m
    · exact e_lst (sEs as X W _ h m).1
    · cases m
  | .ix a b, X, W, x, h, m => by
    unfold mE at m
    split at m
    · split at m
      · cases m
      · rename_i hq
        rw [Bool.and_eq_true] at m
        refine e_ix (fun o i => ?_) (sE a X W _ h m.1) (sE b X W _ h m.2)
        rename_i p q pos _
        cases q <;> first | rfl | exact absurd rfl (hq _ _ _ _)
    · cases m
  | .sl a lo hi, X, W, x, h, m => by
    unfold mE at m
    split at m
    · rw [Bool.and_eq_true, Bool.and_eq_true] at m
      exact e_sl (sE a X W _ h m.1.1) (sO lo X W _ h m.1.2) (sO hi X W _ h m.2)
    · cases m
  | .rv a, X, W, x, h, m => by
    unfold mE at m
    split at m
    · rw [Bool.and_eq_true, beq_iff_eq] at m
      obtain ⟨rfl, m⟩ := m
      exact e_rv (sE a X W _ h m)
    · cases m
  | .call f as, X, W, x, h, m => by
    unfold mE at m
    split at m
    · rw [Bool.and_eq_true, Bool.and_eq_true, Bool.and_eq_true, Bool.and_eq_true, beq_iff_eq] at m
      obtain ⟨⟨⟨⟨hd, rfl⟩, hg⟩, ok⟩, m⟩ := m
      exact e_call h hd hg ok (mEs_ns m) (sEs as X W _ h m).1
    · cases m
  | .callv i as, X, W, x, h, m => by
    unfold mE at m
    split at m
    · rw [Bool.and_eq_true, Bool.and_eq_true, Bool.and_eq_true, beq_iff_eq] at m
      obtain ⟨⟨⟨hN, hv⟩, ok⟩, m⟩ := m
      exact e_callv h hN hv ok (mEs_ns m) (sEs as X W _ h m).1
    · cases m
  | .bi f as, X, W, x, h, m => by
    unfold mE at m
    split at m
    · rw [Bool.and_eq_true, Bool.and_eq_true, beq_iff_eq] at m
      obtain ⟨⟨rfl, hg⟩, m⟩ := m
      exact ev_bi h hg (mEs_ns m) (sEs as X W _ h m).1
    · cases m
  | .mt mm o as, X, W, x, h, m => by
    unfold mE at m
    split at m
    · rw [Bool.and_eq_true, Bool.and_eq_true, Bool.and_eq_true, Bool.and_eq_true, beq_iff_eq] at m
      obtain ⟨⟨⟨⟨hr, rfl⟩, hl⟩, m1⟩, m2⟩ := m
      have : as = .nil := by cases as <;> first | rfl | cases m2
      subst this
      exact e_mt0 hr hl (sE o X W _ h m1)
    · rw [Bool.and_eq_true, Bool.and_eq_true, Bool.and_eq_true, Bool.and_eq_true, Bool.and_eq_true, beq_iff_eq] at m
      obtain ⟨⟨⟨⟨⟨hr, rfl⟩, hl⟩, hf⟩, m1⟩, m2⟩ := m
      exact e_mt hr hl (of_decide_eq_true hf) (mEs_ns m2) (sE o X W _ h m1) (sEs as X W _ h m2).1
    · cases m
  | .isi a t, X, W, x, h, m => by
    unfold mE at m
    split at m
    · rw [Bool.and_eq_true, Bool.and_eq_true, Bool.and_eq_true, Bool.and_eq_true, Bool.and_eq_true, Bool.and_eq_true, beq_iff_eq, beq_iff_eq] at m
      obtain ⟨⟨⟨⟨⟨⟨h1, rfl⟩, hg⟩, hg2⟩, rfl⟩, hn⟩, m⟩ := m
      have ht : t ≠ .lt := fun z => by rw [z] at h1; cases h1
      exact e_isi h ht hg hg2 hn (sE a X W _ h m)
    · rw [Bool.and_eq_true, Bool.and_eq_true, Bool.and_eq_true, Bool.and_eq_true, Bool.and_eq_true, Bool.and_eq_true, Bool.and_eq_true, Bool.and_eq_true, beq_iff_eq, beq_iff_eq, beq_iff_eq] at m
      obtain ⟨⟨⟨⟨⟨⟨⟨⟨ht, rfl⟩, hg⟩, hg2⟩, hg3⟩, rfl⟩, rfl⟩, hn⟩, m⟩ := m
      have : t = .lt := by cases t <;> first | rfl | cases ht
      subst this
      exact e_isl h hg hg2 hg3 hn (sE a X W _ h m)
    · cases m
  | .comp own tg ik as cond elt, X, W, x, h, m => by
    unfold mE at m
    split at m
    · rw [Bool.and_eq_true, Bool.and_eq_true, Bool.and_eq_true, Bool.and_eq_true, Bool.and_eq_true, Bool.and_eq_true, Bool.and_eq_true, beq_iff_eq] at m
      obtain ⟨⟨⟨⟨⟨⟨⟨rfl, m1⟩, m2⟩, m3⟩, m4⟩, m5⟩, m6⟩, m7⟩ := m
      rename_i el t iter ifs scope pos
      have hi := sI h (fun es => sEs as X W es h) m5
      have he : ∀ (s : Shared) (H : Hp) (C : Addr) (cl : List (Str × Addr)) (fp : List Addr), PE (X.blk s H scope (compEnvC scope cl C X.env) fp) el (tE X.K X.mg (fun _ _ _ _ => False) g elt) := fun s H C cl fp => sE elt (X.blk s H scope (compEnvC scope cl C X.env) fp) _ el (h.blk s H scope _ fp) m7
      have hg : ∀ (s : Shared) (H : Hp) (C : Addr) (cl : List (Str × Addr)) (fp : List Addr), PG (X.blk s H scope (compEnvC scope cl C X.env) fp) t (gOf X.K tg) := fun s H C cl fp => sG (X := X.blk s H scope (compEnvC scope cl C X.env) fp) h.calm h.nd tg t m2
      have hc : ∀ (s : Shared) (H : Hp) (C : Addr) (cl : List (Str × Addr)) (fp : List Addr), PTs (X.blk s H scope (compEnvC scope cl C X.env) fp) ifs (tT X.K X.mg (fun _ _ _ _ => False) g cond) := fun s H C cl fp => by
        split at m6
        · have : cond = .nil := by cases cond <;> first | rfl | cases m6
          subst this
          exact t_nil (X := X.blk s H scope (compEnvC scope cl C X.env) fp)
        · exact pts_one (sT cond (X.blk s H scope (compEnvC scope cl C X.env) fp) _ _ (h.blk s H scope _ fp) m6)
        · cases m6
      exact PE.imp (pe_lc h.calm h.nd hi (blkOk_by m1) hg hc he (noset_fold m4)) (e_comp h m1 m2 m3 m4 hi hc he)
    · cases m
  | .nil, _, _, _, _, m => by cases m
  | .cons _ _, _, _, _, _, m => by cases m
theorem sEs : ∀ (a : E) (X : Cx) (W : WX) (xs : List Expr), Good X k g W → mEs X.N g.df a X.env.scope xs = true → PAx X W g a xs ∧ ∀ y, xs = [y] → ∃ b, a = .cons b .nil ∧ PEx X W g b y
  | .nil, X, W, xs, h, m => by
    unfold mEs at m
    split at m
    · exact ⟨PA.imp pa_nil fun σ H Q ⟨io, e, s, hs, r, o⟩ => o.here r _ rfl, fun y z => by cases z⟩
    · cases m
  | .cons a as, X, W, xs, h, m => by
    unfold mEs at m
    split at m
    · rw [Bool.and_eq_true, Bool.and_eq_true] at m
      obtain ⟨⟨hn, m1⟩, m2⟩ := m
      have pa := sE a X W _ h m1
      have ps := (sEs as X W _ h m2).1
      refine ⟨PA.imp (pa_cons pa ps (starEach_ns hn)) fun σ H Q ⟨io, e, s, hs, r, o⟩ => ⟨io, e, s, hs, r, Out.go o fun w s1 io1 H1 t1 r1 o1 v kv => ⟨io1, e, s1, hs.mono r t1, r1, Out.go o1 fun u s2 io2 H2 t2 r2 o2 v2 kv2 => o2.here r2 _ ⟨v, v2, rfl, r1.mono t2 _ _ kv, kv2⟩⟩⟩, fun y z => ?_⟩
      cases z
      have : as = .nil := by
        cases as <;> first | rfl | cases m2
      subst this
      exact ⟨a, rfl, pa⟩
    · cases m
  | .var _, _, _, _, _, m => by cases m
  | .con _, _, _, _, _, m => by cases m
  | .fref _, _, _, _, _, m => by cases m
  | .int _, _, _, _, _, m => by cases m
  | .bl _, _, _, _, _, m => by cases m
  | .non, _, _, _, _, m => by cases m
  | .str _, _, _, _, _, m => by cases m
  | .bin _ _ _, _, _, _, _, m => by cases m
  | .neg _, _, _, _, _, m => by cases m
  | .no _, _, _, _, _, m => by cases m
  | .cmp _ _ _, _, _, _, _, m => by cases m
  | .chain _ _ _ _ _, _, _, _, _, m => by cases m
  | .and _ _, _, _, _, _, m => by cases m
  | .or _ _, _, _, _, _, m => by cases m
  | .one _, _, _, _, _, m => by cases m
  | .ite _ _ _, _, _, _, _, m => by cases m
  | .tup _, _, _, _, _, m => by cases m
  | .lst _, _, _, _, _, m => by cases m
  | .ix _ _, _, _, _, _, m => by cases m
  | .sl _ _ _, _, _, _, _, m => by cases m
  | .rv _, _, _, _, _, m => by cases m
  | .call _ _, _, _, _, _, m => by cases m
  | .callv _ _, _, _, _, _, m => by cases m
  | .bi _ _, _, _, _, _, m => by cases m
  | .mt _ _ _, _, _, _, _, m => by cases m
  | .isi _ _, _, _, _, _, m => by cases m
  | .comp _ _ _ _ _ _, _, _, _, _, m => by cases m
theorem sO : ∀ (a : E) (X : Cx) (W : WX) (x : Option Expr), Good X k g W → mO X.N g.df a X.env.scope x = true → POx X W g a x
  | .nil, X, W, x, h, m => by
    unfold mO at m
    split at m
    · exact PO.imp po_none fun σ H Q ⟨io, e, s, hs, r, o⟩ => o.here r _ rfl
    · cases m
  | .one a, X, W, x, h, m => by
    unfold mO at m
    split at m
    · refine PO.imp (po_some (sE a X W _ h m)) fun σ H Q ⟨io, e, s, hs, r, o⟩ => ⟨io, e, s, hs, r, Out.go o fun w s1 io1 H1 t1 r1 o1 v kv => ?_⟩
      obtain ⟨i, rfl, o1⟩ := o1.toIk
      exact ⟨i, kv, o1.here r1 _ rfl⟩
    · cases m
  | .cons _ _, _, _, _, _, m => by cases m
  | .var _, _, _, _, _, m => by cases m
  | .con _, _, _, _, _, m => by cases m
  | .fref _, _, _, _, _, m => by cases m
  | .int _, _, _, _, _, m => by cases m
  | .bl _, _, _, _, _, m => by cases m
  | .non, _, _, _, _, m => by cases m
  | .str _, _, _, _, _, m => by cases m
  | .bin _ _ _, _, _, _, _, m => by cases m
  | .neg _, _, _, _, _, m => by cases m
  | .no _, _, _, _, _, m => by cases m
  | .cmp _ _ _, _, _, _, _, m => by cases m
  | .chain _ _ _ _ _, _, _, _, _, m => by cases m
  | .and _ _, _, _, _, _, m => by cases m
  | .or _ _, _, _, _, _, m => by cases m
  | .ite _ _ _, _, _, _, _, m => by cases m
  | .tup _, _, _, _, _, m => by cases m
  | .lst _, _, _, _, _, m => by cases m
  | .ix _ _, _, _, _, _, m => by cases m
  | .sl _ _ _, _, _, _, _, m => by cases m
  | .rv _, _, _, _, _, m => by cases m
  | .call _ _, _, _, _, _, m => by cases m
  | .callv _ _, _, _, _, _, m => by cases m
  | .bi _ _, _, _, _, _, m => by cases m
  | .mt _ _ _, _, _, _, _, m => by cases m
  | .isi _ _, _, _, _, _, m => by cases m
  | .comp _ _ _ _ _ _, _, _, _, _, m => by cases m
theorem sT : ∀ (a : E) (X : Cx) (W : WX) (x : Expr), Good X k g W → mT X.N g.df a X.env.scope x = true → PTx X W g a x
  | .and a b, X, W, x, h, m => by
    unfold mT at m
    split at m
    · rw [Bool.and_eq_true] at m
      exact (w_and (sT a X W _ h m.1) (sW b X W _ h m.2)).pt
    · cases m
  | .or a b, X, W, x, h, m => by
    unfold mT at m
    split at m
    · rw [Bool.and_eq_true] at m
      exact (w_or (sT a X W _ h m.1) (sW b X W _ h m.2)).pt
    · cases m
  | .no a, X, W, x, h, m => by
    unfold mT at m
    split at m
    · exact t_no (sT a X W _ h m)
    · cases m
  | .cmp op a b, X, W, x, h, m => by
    unfold mT at m
    split at m
    · rw [Bool.and_eq_true, Bool.and_eq_true, Bool.and_eq_true, beq_iff_eq] at m
      obtain ⟨⟨⟨rfl, hn⟩, m1⟩, m2⟩ := m
      exact t_cmp h hn (sE a X W _ h m1) (sE b X W _ h m2)
    · cases m
  | .chain op op' a b c, X, W, x, h, m => by
    unfold mT at m
    split at m
    · rw [Bool.and_eq_true, Bool.and_eq_true, Bool.and_eq_true, Bool.and_eq_true, Bool.and_eq_true, beq_iff_eq, beq_iff_eq] at m
      obtain ⟨⟨⟨⟨⟨rfl, rfl⟩, hn⟩, m1⟩, m2⟩, m3⟩ := m
      exact t_chain h hn (sE a X W _ h m1) (sE b X W _ h m2) (sE c X W _ h m3)
    · cases m
  | .var i, X, W, x, h, m => by
    unfold mT at m
    split at m
    · rw [Bool.and_eq_true, Bool.and_eq_true, beq_iff_eq] at m
      exact t_var m.1.1 m.1.2 m.2
    · cases m
  | .call f as, X, W, x, h, m => by
    unfold mT at m
    split at m
    · rw [Bool.and_eq_true, Bool.and_eq_true, Bool.and_eq_true, Bool.and_eq_true, beq_iff_eq] at m
      obtain ⟨⟨⟨⟨hd, rfl⟩, hg⟩, ok⟩, m⟩ := m
      exact t_call h hd hg ok (mEs_ns m) (sEs as X W _ h m).1
    · cases m
  | .bi f as, X, W, x, h, m => by
    unfold mT at m
    split at m
    · rw [Bool.and_eq_true, Bool.and_eq_true, beq_iff_eq] at m
      obtain ⟨⟨rfl, hg⟩, m⟩ := m
      exact t_bi h hg (mEs_ns m) (sEs as X W _ h m).1
    · cases m
  | .isi a t, X, W, x, h, m => by
    unfold mT at m
    split at m
    · rw [Bool.and_eq_true, Bool.and_eq_true, Bool.and_eq_true, Bool.and_eq_true, Bool.and_eq_true, Bool.and_eq_true, beq_iff_eq, beq_iff_eq] at m
      obtain ⟨⟨⟨⟨⟨⟨h1, rfl⟩, hg⟩, hg2⟩, rfl⟩, hn⟩, m⟩ := m
      have ht : t ≠ .lt := fun z => by rw [z] at h1; cases h1
      exact t_isi h ht hg hg2 hn (sE a X W _ h m)
    · rw [Bool.and_eq_true, Bool.and_eq_true, Bool.and_eq_true, Bool.and_eq_true, Bool.and_eq_true, Bool.and_eq_true, Bool.and_eq_true, Bool.and_eq_true, beq_iff_eq, beq_iff_eq, beq_iff_eq] at m
      obtain ⟨⟨⟨⟨⟨⟨⟨⟨ht, rfl⟩, hg⟩, hg2⟩, hg3⟩, rfl⟩, rfl⟩, hn⟩, m⟩ := m
      have : t = .lt := by cases t <;> first | rfl | cases ht
      subst this
      exact t_isl h hg hg2 hg3 hn (sE a X W _ h m)
    · cases m
  | .nil, _, _, _, _, m => by cases m
  | .cons _ _, _, _, _, _, m => by cases m
  | .one _, _, _, _, _, m => by cases m
  | .con _, _, _, _, _, m => by cases m
  | .fref _, _, _, _, _, m => by cases m
  | .int _, _, _, _, _, m => by cases m
  | .bl _, _, _, _, _, m => by cases m
  | .non, _, _, _, _, m => by cases m
  | .str _, _, _, _, _, m => by cases m
  | .bin _ _ _, _, _, _, _, m => by cases m
  | .neg _, _, _, _, _, m => by cases m
  | .ite _ _ _, _, _, _, _, m => by cases m
  | .tup _, _, _, _, _, m => by cases m
  | .lst _, _, _, _, _, m => by cases m
  | .ix _ _, _, _, _, _, m => by cases m
  | .sl _ _ _, _, _, _, _, m => by cases m
  | .rv _, _, _, _, _, m => by cases m
  | .callv _ _, _, _, _, _, m => by cases m
  | .mt _ _ _, _, _, _, _, m => by cases m
  | .comp _ _ _ _ _ _, _, _, _, _, m => by cases m
theorem sW : ∀ (a : E) (X : Cx) (W : WX) (x : Expr), Good X k g W → mW X.N g.df a X.env.scope x = true → PWx X W g a x
  | .and a b, X, W, x, h, m => by
    unfold mW at m
    split at m
    · rw [Bool.and_eq_true] at m
      exact w_and (sT a X W _ h m.1) (sW b X W _ h m.2)
    · cases m
  | .or a b, X, W, x, h, m => by
    unfold mW at m
    split at m
    · rw [Bool.and_eq_true] at m
      exact w_or (sT a X W _ h m.1) (sW b X W _ h m.2)
    · cases m
  | .one a, X, W, x, h, m => by
    unfold mW at m
    split at m
    · rename_i op p pos
      cases op with
      | And => exact pw_and1 (sT a X W _ h m)
      | Or => exact pw_or1 (sT a X W _ h m)
    · cases m
  | .nil, _, _, _, _, m => by cases m
  | .cons _ _, _, _, _, _, m => by cases m
  | .var _, _, _, _, _, m => by cases m
  | .no _, _, _, _, _, m => by cases m
  | .cmp _ _ _, _, _, _, _, m => by cases m
  | .chain _ _ _ _ _, _, _, _, _, m => by cases m
  | .call _ _, _, _, _, _, m => by cases m
  | .bi _ _, _, _, _, _, m => by cases m
  | .isi _ _, _, _, _, _, m => by cases m
  | .con _, _, _, _, _, m => by cases m
  | .fref _, _, _, _, _, m => by cases m
  | .int _, _, _, _, _, m => by cases m
  | .bl _, _, _, _, _, m => by cases m
  | .non, _, _, _, _, m => by cases m
  | .str _, _, _, _, _, m => by cases m
  | .bin _ _ _, _, _, _, _, m => by cases m
  | .neg _, _, _, _, _, m => by cases m
  | .ite _ _ _, _, _, _, _, m => by cases m
  | .tup _, _, _, _, _, m => by cases m
  | .lst _, _, _, _, _, m => by cases m
  | .ix _ _, _, _, _, _, m => by cases m
  | .sl _ _ _, _, _, _, _, m => by cases m
  | .rv _, _, _, _, _, m => by cases m
  | .callv _ _, _, _, _, _, m => by cases m
  | .mt _ _ _, _, _, _, _, m => by cases m
  | .comp _ _ _ _ _ _, _, _, _, _, m => by cases m
end
end
end Py
namespace Py
open PySem PySem.Spec PyProof.Rows L2
def isComp : Expr → Bool
  | .ListComp _ _ _ _ => true
  | .SetComp _ _ _ _ => true
  | .DictComp _ _ _ _ _ => true
  | _ => false
def notLoc (sc : Scope) : Expr → Bool
  | .Name y _ => !(sc.names.lookup y == some .local)
  | _ => true
def swNone (sc : Scope) : Expr → Expr → Bool
  | .Tuple ts _ _, .Tuple vs _ _ => ts.any (notLoc sc) || vs.all (foldedForSure 8)
  | .Tuple _ _ _, _ => true
  | .Subscript _ _ _, _ => true
  | _, _ => false
def lcSet (sc : Scope) (y : Str) (py : Pos) : Expr → Bool
  | .ListComp _ _ scope pos => py.line == pos.line && (scope.names.any fun (n, k) => n == y && (k == .local || k == .cell)) == false && sc.names.lookup y == some .local
  | _ => false
mutual
def mTa (N : List Str) (D : Str → Bool) (sc : Scope) : Ta → Expr → Bool
  | .name i, t => match t with
    | .Name x _ => N[i]? == some x && locB sc x
    | _ => false
  | .sub o i, t => match t with
    | .Subscript p q _ => (match q with
      | .Slice _ _ _ _ => false
      | _ => true) && mE N D o sc p && mE N D i sc q
    | _ => false
  | .tup ts, t => match t with
    | .Tuple es _ _ => mTas N D sc ts es
    | _ => false
  | _, _ => false
def mTas (N : List Str) (D : Str → Bool) (sc : Scope) : Ta → List Expr → Bool
  | .nil, ts => match ts with
    | [] => true
    | _ => false
  | .cons t ts, es => match es with
    | x :: xs => noStar x && mTa N D sc t x && mTas N D sc ts xs
    | _ => false
  | _, _ => false
end
def augOp : Bop → Bool
  | .add => true
  | .sub => true
  | _ => false
def mB (N : List Str) (D : Str → Bool) (sc : Scope) : B → List Stmt → Bool
  | .done, l => match l with
    | [] => true
    | _ => false
  | .asg t e k, l => match l with
    | .Assign [tg] v pos :: r => mTa N D sc t tg && mE N D e sc v && mB N D sc k r && (match tg with
      | .Name y py => if isComp v then lcSet sc y py v || (sc.names.lookup y == some .cell && (match v with
          | .ListComp _ _ _ _ => true
          | _ => false)) else true
      | _ => swNone sc tg v)
    | _ => false
  | .par2 i j a b k, l => match l with
    | .Assign [.Tuple [.Name x px, .Name y py] _ _] (.Tuple [p, q] _ _) _ :: r => N[i]? == some x && N[j]? == some y && sc.names.lookup x == some .local && sc.names.lookup y == some .local && !(x == y) && (py.line == px.line) &&
        noStar p && noStar q && !([p, q].all (foldedForSure 8)) && !([p, q].all (constantsAlone 8)) && mE N D a sc p && mE N D b sc q && mB N D sc k r
    | _ => false
  | .par3 i j m a b c k, l => match l with
    | .Assign [.Tuple [.Name x px, .Name y py, .Name z pz] _ _] (.Tuple [p, q, w] _ _) _ :: r => N[i]? == some x && N[j]? == some y && N[m]? == some z && sc.names.lookup x == some .local && sc.names.lookup y == some .local && sc.names.lookup z == some .local && !(x == y) && !(x == z) && !(y == z) && (py.line == px.line) && (pz.line == px.line) &&
        noStar p && noStar q && noStar w && !([p, q, w].all (foldedForSure 8)) && !([p, q, w].all (constantsAlone 8)) && mE N D a sc p && mE N D b sc q && mE N D c sc w && mB N D sc k r
    | _ => false
  | .aug i op e k, l => match l with
    | .AugAssign (.Name y _) o v _ :: r => augOp op && o == op.op && N[i]? == some y && locB sc y && mE N D e sc v && mB N D sc k r
    | _ => false
  | .ite c t f k, l => match l with
    | .If p x y _ :: r => mT N D c sc p && mB N D sc t x && mB N D sc f y && mB N D sc k r
    | _ => false
  | .whl c b k, l => match l with
    | .While p x [] _ :: r => mT N D c sc p && mB N D sc b x && mB N D sc k r
    | _ => false
  | .for_ t ik as b k, l => match l with
    | .For tg iter x [] _ :: r => mTn N sc t tg && noSet iter && mI (mEs N D as sc) sc tg ik iter && mB N D sc b x && mB N D sc k r
    | _ => false
  | .ret e k, l => match l with
    | [.Return (some v) _] => mE N D e sc v
    | _ => false
  | .retn k, l => match l with
    | [.Return none _] => true
    | _ => false
  | .brk k, l => match l with
    | [.Break _] => true
    | _ => false
  | .ct k, l => match l with
    | [.Continue _] => true
    | _ => false
  | .pass k, l => match l with
    | .Pass _ :: r => mB N D sc k r
    | _ => false
  | .exp e k, l => match l with
    | .Expr v _ :: r => !(isComp v) && mE N D e sc v && mB N D sc k r
    | _ => false
  | .raise c k, l => match l with
    | [.Raise (some (.Call (.Name y _) [.Constant (.str _) _ _] [] _)) none _] => y == c && glB sc y && okN y
    | _ => false
  | .tryr _ _ _ _, _ => false
abbrev KxA (mg : Str → Option Value) (W : WX) : KO Str := fun c _ _ H' => ∀ C σ, mg c = some (.ref C) → W (.ref C) none σ H'
def KFl (K : PySem.W.Frag) (mg : Str → Option Value) (D : Ends) : KO Fl := fun f _ io' H' => match f with
  | .nx e => ∀ σ, RSl K mg io' H' e σ → D.nx σ H'
  | .rt w => ∀ v, RW K mg io' H' w v → D.rt v H'
  | .bk e => ∀ σ, RSl K mg io' H' e σ → D.bk σ H'
  | .ct e => ∀ σ, RSl K mg io' H' e σ → D.ct σ H'
def tB (K : PySem.W.Frag) (mg : Str → Option Value) (W : WX) (g : G) (b : B) : TS := fun D σ H => ∃ io e s, RSl K mg io H e σ ∧ Rel K mg io H s ∧ Out K mg (exS g b e s) io H (KFl K mg D) (KxA mg W)
theorem PSs.imp {X : Cx} {l : List Stmt} {t t' : TS} (h : PSs X l t) (i : ∀ D σ H, t' D σ H → t D σ H) : PSs X l t' := ⟨fun pins s σ H D I q => h.run pins s σ H D I (i D σ H q)⟩
structure GoodS (X : Cx) (k : Nat) (g : G) (W : WX) : Prop extends Good X k g W where
  kind : X.env.scope.kind = .function
  own : PassesOwn (model X.prog X.w) X.A X.env X.xe
  fn : ∀ x, X.fn x = true
theorem locB_ok {sc : Scope} {x : Str} (h : locB sc x = true) : Loc sc x := by
  unfold locB at h
  split at h
  · exact .inl (by assumption)
  · exact .inr (by assumption)
  · cases h
section
variable {K : PySem.W.Frag} {mg : Str → Option Value} {W : WX} {g : G} {io : List Addr} {H : Hp} {s : Sto}
theorem kxa {σ : L2.St} {c : Str} {s : Sto} {io : List Addr} {H : Hp} (h : KxA mg W c s io H) : Kx mg W σ c s io H := fun C hc => h C σ hc
theorem Out.thn {r : R Fl} {k : B} {D : Ends} (o : Out K mg (Py.thn r (exS g k)) io H (KFl K mg D) (KxA mg W)) : Out K mg r io H (KFl K mg { D with nx := tB K mg W g k D }) (KxA mg W) := by
  refine Out.go o fun f s1 io1 H1 t1 r1 o1 => ?_
  cases f with
  | nx e => exact fun σ hs => ⟨io1, e, s1, hs, r1, o1⟩
  | rt w => exact o1.here r1
  | bk e => exact o1.here r1
  | ct e => exact o1.here r1
theorem Out.goS {α β : Type} {r : R α} {f : α → Sto → R β} {Q : KO β} {Q' : KO α} {σ : L2.St} (o : Out K mg (r.bind f) io H Q (KxA mg W)) (h : ∀ a s io' H', Stp io H io' H' → Rel K mg io' H' s → Out K mg (f a s) io' H' Q (KxA mg W) → Q' a s io' H') : Out K mg r io H Q' (Kx mg W σ) :=
  o.bind.imp h fun _ _ _ _ _ _ z => kxa z
end
theorem swaps_no {v : Expr} {t : Option Expr} {l : Nat} {env : PySem.Env} (h : isComp v = false) : swapsWith v t l env = pure false := by
  cases v <;> first | rfl | cases h
theorem swaps_sub {v a b : Expr} {p : Pos} {l : Nat} {env : PySem.Env} : swapsWithSole [.Subscript a b p] v l env = pure false := by
  cases v <;> rfl
theorem swaps_tup {v : Expr} {ts : List Expr} {n : Nat} {p : Pos} {l : Nat} {env : PySem.Env} : swapsWithSole [.Tuple ts n p] v l env = pure false := by
  cases v <;> rfl
theorem filter_lt {α β : Type} {f : α → Option β} : ∀ {l : List α}, (∃ x ∈ l, f x = none) → (l.filterMap f).length < l.length
  | [], h => by obtain ⟨x, hx, _⟩ := h; cases hx
  | y :: l, h => by
    have le : (l.filterMap f).length ≤ l.length := List.length_filterMap_le f l
    rw [List.filterMap_cons]
    cases hy : f y with
    | none => simp only [List.length_cons]; omega
    | some z =>
      obtain ⟨x, hx, hn⟩ := h
      rcases List.mem_cons.mp hx with e | e
      · rw [e, hy] at hn; cases hn
      · have := filter_lt ⟨x, e, hn⟩
        simp only [List.length_cons]
        omega
theorem sw_none {env : PySem.Env} {tg v : Expr} (h : swNone env.scope tg v = true) : swappedStores [tg] v env = pure none := by
  unfold swNone at h
  split at h
  · rename_i ts k p vs k' p'
    unfold swappedStores
    simp only
    split
    · rfl
    · split
      · rfl
      · split
        · rfl
        · rename_i h3
          split
          · rfl
          · rename_i h4
            exfalso
            rw [Bool.or_eq_true] at h
            rcases h with h | h
            · apply h3
              rw [Bool.or_eq_true]
              left
              rw [bne_iff_ne]
              refine Nat.ne_of_lt (filter_lt ?_)
              obtain ⟨t, ht, hn⟩ := List.any_eq_true.mp h
              refine ⟨t, ht, ?_⟩
              cases t <;> first | rfl | skip
              rename_i y py
              have hn : (!(env.scope.names.lookup y == some NameKind.local)) = true := hn
              have : (env.kindOf y == some NameKind.local) = false := by
                rw [Bool.not_eq_true'] at hn
                exact hn
              show (if (env.kindOf y == some NameKind.local && _) = true then _ else _) = none
              rw [this]
              rfl
            · exact h4 h
  · rename_i hne
    unfold swappedStores
    cases v <;> first | rfl | exact absurd rfl (hne _ _ _)
  · rfl
  · cases h
end Py
namespace Py
open PySem PySem.Spec PyProof.Rows L2
theorem not_two {x y : Str} (h : (x == y) = false) : (y == x) = false := by
  cases w : y == x with
  | false => rfl
  | true => rw [eq_of_beq w, beq_self_eq_true] at h; cases h
theorem sw_two {env : PySem.Env} {x y : Str} {px py pt p2 : Pos} {n m : Nat} {a b : Expr} (hk : env.scope.kind = .function) (hx : env.scope.names.lookup x = some .local) (hy : env.scope.names.lookup y = some .local) (hxy : (x == y) = false) (hl : (py.line == px.line) = true)
    (ha : noStar a = true) (hb : noStar b = true) (h1 : [a, b].all (foldedForSure 8) = false) (h2 : [a, b].all (constantsAlone 8) = false) :
    swappedStores [.Tuple [.Name x px, .Name y py] n pt] (.Tuple [a, b] m p2) env = pure (some [x, y]) := by
  have hbk : env.blockKind = .function := by unfold Env.blockKind; rw [hk]; rfl
  have kx : env.kindOf x = some .local := hx
  have ky : env.kindOf y = some .local := hy
  have st : ∀ f : Expr → Bool, (∀ q, noStar q = true → f q = false) → [a, b].any f = false := fun f h => by
    show (f a || (f b || false)) = false
    rw [h a ha, h b hb]
    rfl
  have hyx := not_two hxy
  unfold swappedStores
  simp only [hbk, List.length_cons, List.length_nil, List.head?_cons, Option.map_some, Option.getD_some, Expr.pos, List.filterMap_cons, List.filterMap_nil, kx, ky, hl, beq_self_eq_true, Bool.and_self, Bool.and_true, if_true, h1, h2, List.eraseDups_cons, List.eraseDups_nil, List.filter_cons, List.filter_nil, hyx, Bool.not_false, ↓reduceIte]
  rw [if_neg (by decide), if_neg (by rw [st _ fun q h => by cases q <;> first | rfl | cases h]; exact Bool.false_ne_true)]
  rfl
theorem sw_three {env : PySem.Env} {x y z : Str} {px py pz pt p2 : Pos} {n m : Nat} {a b c : Expr} (hk : env.scope.kind = .function) (hx : env.scope.names.lookup x = some .local) (hy : env.scope.names.lookup y = some .local) (hz : env.scope.names.lookup z = some .local)
    (hxy : (x == y) = false) (hxz : (x == z) = false) (hyz : (y == z) = false) (hl : (py.line == px.line) = true) (hl2 : (pz.line == px.line) = true)
    (ha : noStar a = true) (hb : noStar b = true) (hc : noStar c = true) (h1 : [a, b, c].all (foldedForSure 8) = false) (h2 : [a, b, c].all (constantsAlone 8) = false) :
    swappedStores [.Tuple [.Name x px, .Name y py, .Name z pz] n pt] (.Tuple [a, b, c] m p2) env = pure (some [x, y, z]) := by
  have hbk : env.blockKind = .function := by unfold Env.blockKind; rw [hk]; rfl
  have kx : env.kindOf x = some .local := hx
  have ky : env.kindOf y = some .local := hy
  have kz : env.kindOf z = some .local := hz
  have st : ∀ f : Expr → Bool, (∀ q, noStar q = true → f q = false) → [a, b, c].any f = false := fun f h => by
    show (f a || (f b || (f c || false))) = false
    rw [h a ha, h b hb, h c hc]
    rfl
  have hyx := not_two hxy
  have hzx := not_two hxz
  have hzy := not_two hyz
  unfold swappedStores
  simp only [hbk, List.length_cons, List.length_nil, List.head?_cons, Option.map_some, Option.getD_some, Expr.pos, List.filterMap_cons, List.filterMap_nil, kx, ky, kz, hl, hl2, beq_self_eq_true, Bool.and_self, Bool.and_true, if_true, h1, h2, List.eraseDups_cons, List.eraseDups_nil, List.filter_cons, List.filter_nil, hyx, hzx, hzy, Bool.not_false, ↓reduceIte]
  rw [if_neg (by decide), if_neg (by rw [st _ fun q h => by cases q <;> first | rfl | cases h]; exact Bool.false_ne_true)]
  rfl
section
variable {k : Nat} {g : G} {W : WX} {X : Cx}
def tTa (K : PySem.W.Frag) (mg : Str → Option Value) (W : WX) (g : G) (t : Ta) : TG := fun v σ H Q => ∃ io e s w, RSl K mg io H e σ ∧ Rel K mg io H s ∧ RW K mg io H w v ∧ Out K mg (asg g t w e s) io H (fun e' _ io' H' => ∀ σ', RSl K mg io' H' e' σ' → Q σ' H') (KxA mg W)
def tTas (K : PySem.W.Frag) (mg : Str → Option Value) (W : WX) (g : G) (t : Ta) : TGs := fun vs σ H Q => ∃ io e s ws, RSl K mg io H e σ ∧ Rel K mg io H s ∧ RWs K mg io H ws vs ∧ Out K mg (asgs g t ws e s) io H (fun e' _ io' H' => ∀ σ', RSl K mg io' H' e' σ' → Q σ' H') (KxA mg W)
theorem PG.imp {x : Expr} {t t' : TG} (h : PG X x t) (i : ∀ v σ H Q, t' v σ H Q → t v σ H Q) : PG X x t' := ⟨fun pins s σ H v u Q I r q => h.run pins s σ H v u Q I r (i v σ H Q q)⟩
theorem PG.or {x : Expr} {t t' : TG} (h : PG X x t) (h' : PG X x t') : PG X x (fun v σ H Q => t v σ H Q ∨ t' v σ H Q) := ⟨fun pins s σ H v u Q I r q => q.elim (h.run pins s σ H v u Q I r) (h'.run pins s σ H v u Q I r)⟩
theorem PGs.imp {x : List Expr} {t t' : TGs} (h : PGs X x t) (i : ∀ v σ H Q, t' v σ H Q → t v σ H Q) : PGs X x t' := ⟨fun pins s σ H v u Q I r q => h.run pins s σ H v u Q I r (i v σ H Q q)⟩
mutual
theorem sTa (h : GoodS X k g W) : ∀ (t : Ta) (x : Expr), mTa X.N g.df X.env.scope t x = true → PG X x (tTa X.K X.mg W g t)
  | .name i, x, m => by
    unfold mTa at m
    split at m
    · rw [Bool.and_eq_true, beq_iff_eq] at m
      exact PG.imp (pg_name h.nd m.1 (locB_ok m.2) (.inl (h.fn _))) fun v σ H Q ⟨io, e, s, w, hs, r, kw, o⟩ => o.here r _ (hs.set i kw)
    · cases m
  | .sub o i, x, m => by
    unfold mTa at m
    split at m
    · rw [Bool.and_eq_true, Bool.and_eq_true] at m
      obtain ⟨⟨hq, m1⟩, m2⟩ := m
      rename_i p q pos
      refine PG.imp (pg_sub (sE o X W p h.toGood m1) (sE i X W q h.toGood m2) set_rule (by intro _; cases q <;> first | rfl | cases hq)) fun v σ H Q ⟨io, e, s, w, hs, r, kw, ot⟩ => ?_
      refine ⟨io, e, s, hs, r, Out.goS ot fun ow s1 io1 H1 t1 r1 o1 ov kov => ⟨io1, e, s1, hs.mono r t1, r1, Out.goS o1 fun iw s2 io2 H2 t2 r2 o2 iv kiv => ?_⟩⟩
      exact ⟨io2, s2, ow, iw, w, _, r1.mono t2 _ _ kov, kiv, r1.mono t2 _ _ (r.mono t1 _ _ kw), r2, Out.go o2 fun u s3 io3 H3 t3 r3 o3 => o3.here r3 σ (((hs.mono r t1).mono r1 t2).mono r2 t3)⟩
    · cases m
  | .tup ts, x, m => by
    unfold mTa at m
    split at m
    · rename_i es n pos
      obtain ⟨pg, l, st⟩ := sTas h ts es m
      refine PG.imp (PG.or (pg_tup h.calm pg l st) (pg_lst h.calm pg l st)) fun v σ H Q ⟨io, e, s, w, hs, r, kw, o⟩ => ?_
      cases w with
      | tup ws =>
        obtain ⟨a, vs, rfl, k1, k2⟩ := kw
        have o : Out X.K X.mg (if ws.length = taN ts then asgs g ts ws e s else .bad) io H _ (KxA X.mg W) := o
        by_cases hl : ws.length = taN ts
        · rw [if_pos hl] at o
          exact .inl ⟨a, vs, rfl, k1, by rw [← k2.length]; exact hl, io, e, s, ws, hs, r, k2, o⟩
        · rw [if_neg hl] at o
          exact o.elim
      | loc n =>
        have o : Out X.K X.mg (match s[n]? with | some ws => (if ws.length = taN ts then asgs g ts ws e s else .bad) | none => .bad : R Sl) io H _ (KxA X.mg W) := o
        cases hn : s[n]? with
        | none => rw [hn] at o; exact o.elim
        | some ws =>
          rw [hn] at o
          have o : Out X.K X.mg (if ws.length = taN ts then asgs g ts ws e s else .bad) io H _ (KxA X.mg W) := o
          by_cases hl : ws.length = taN ts
          · rw [if_pos hl] at o
            obtain ⟨a, vs, rfl, k1, k2⟩ := lsq_sq r kw (show lsq (.loc n) s = some ws from hn)
            exact .inr ⟨a, vs, rfl, k1, by rw [← k2.length]; exact hl, io, e, s, ws, hs, r, k2, o⟩
          · rw [if_neg hl] at o
            exact o.elim
      | non => exact False.elim o
      | bl _ => exact False.elim o
      | int _ => exact False.elim o
      | str _ => exact False.elim o
      | cl _ => exact False.elim o
      | fn _ => exact False.elim o
    · cases m
  | .nil, _, m => by cases m
  | .cons _ _, _, m => by cases m
theorem sTas (h : GoodS X k g W) : ∀ (ts : Ta) (xs : List Expr), mTas X.N g.df X.env.scope ts xs = true → PGs X xs (tTas X.K X.mg W g ts) ∧ (assignEach xs X.env).length = taN ts ∧ (assignEach xs X.env).findIdx? (·.1) = none
  | .nil, xs, m => by
    unfold mTas at m
    split at m
    · refine ⟨PGs.imp pgs_nil fun v σ H Q ⟨io, e, s, ws, hs, r, kw, o⟩ => ?_, rfl, rfl⟩
      cases ws with
      | nil => exact ⟨kw, o.here r σ hs⟩
      | cons _ _ => exact False.elim o
    · cases m
  | .cons t ts, xs, m => by
    unfold mTas at m
    split at m
    · rename_i y ys
      rw [Bool.and_eq_true, Bool.and_eq_true] at m
      obtain ⟨p, l, st⟩ := sTas h ts ys m.2
      obtain ⟨a1, a2, a3⟩ := assignEach_ns (es := ys) (env := X.env) m.1.1
      refine ⟨PGs.imp (pgs_cons (sTa h t y m.1.2) p a1) fun v σ H Q ⟨io, e, s, ws, hs, r, kw, o⟩ => ?_, by rw [a2, l]; rfl, a3 st⟩
      cases ws with
      | nil => exact False.elim o
      | cons w ws =>
        obtain ⟨v1, vr, rfl, k1, k2⟩ := kw
        refine ⟨v1, vr, rfl, io, e, s, w, hs, r, k1, Out.go o fun e1 s1 io1 H1 t1 r1 o1 σ1 hs1 => ⟨io1, e1, s1, ws, hs1, r1, r.monos t1 _ _ k2, o1⟩⟩
    · cases m
  | .name _, _, m => by cases m
  | .sub _ _, _, m => by cases m
  | .tup _, _, m => by cases m
end
theorem set_read {a : E} {i : Nat} {kb : B} {D : Ends} {σ : L2.St} {H : Hp} {io : List Addr} {e : Sl} {s : Sto} (hs : RSl X.K X.mg io H e σ) (r : Rel X.K X.mg io H s)
    (o : Out X.K X.mg ((ev g a e s).bind fun w s1 => exS g kb (e.set i (some w)) s1) io H (KFl X.K X.mg D) (KxA X.mg W)) : tAsg (tE X.K X.mg W g a) (gName i) { D with nx := tB X.K X.mg W g kb D } σ H :=
  ⟨io, e, s, hs, r, Out.goS o fun w s1 io1 H1 t1 r1 o1 v kv => ⟨io1, _, s1, (hs.mono r t1).set i kv, r1, o1⟩⟩
theorem if_read {c : E} {t f kb : B} {D : Ends} {σ : L2.St} {H : Hp} {io : List Addr} {e : Sl} {s : Sto} (hs : RSl X.K X.mg io H e σ) (r : Rel X.K X.mg io H s)
    (o : Out X.K X.mg ((evT g c e s).bind fun b s1 => thn (if b then exS g t e s1 else exS g f e s1) (exS g kb)) io H (KFl X.K X.mg D) (KxA X.mg W)) :
    tIfS (tT X.K X.mg W g c) (tB X.K X.mg W g t) (tB X.K X.mg W g f) { D with nx := tB X.K X.mg W g kb D } σ H := by
  refine ⟨io, e, s, hs, r, Out.goS o fun b s1 io1 H1 t1 r1 o1 b' hb => ?_⟩
  subst hb
  cases b' with
  | true => exact iteT ⟨io1, e, s1, hs.mono r t1, r1, o1.thn⟩
  | false => exact iteF ⟨io1, e, s1, hs.mono r t1, r1, o1.thn⟩
theorem turn_read {r : R Fl} {again : Sl → Sto → R Fl} {kb : B} {D : Ends} {N : L2.St → Hp → Prop} {io : List Addr} {H : Hp}
    (o : Out X.K X.mg (thn (r.bind fun f s2 => match f with
      | .nx e' => again e' s2
      | .ct e' => again e' s2
      | .bk e' => .ok (.nx e') s2
      | .rt w => .ok (.rt w) s2) (exS g kb)) io H (KFl X.K X.mg D) (KxA X.mg W))
    (hN : ∀ e' s' io' H' σ', Stp io H io' H' → Rel X.K X.mg io' H' s' → RSl X.K X.mg io' H' e' σ' → Out X.K X.mg (thn (again e' s') (exS g kb)) io' H' (KFl X.K X.mg D) (KxA X.mg W) → N σ' H') :
    Out X.K X.mg r io H (KFl X.K X.mg { nx := N, rt := D.rt, bk := tB X.K X.mg W g kb D, ct := N }) (KxA X.mg W) := by
  unfold thn at o
  rw [R.bind_assoc] at o
  refine Out.go o fun f s1 io1 H1 t1 r1 o1 => ?_
  cases f with
  | nx e => exact fun σ hs => hN e s1 io1 H1 σ t1 r1 hs o1
  | ct e => exact fun σ hs => hN e s1 io1 H1 σ t1 r1 hs o1
  | bk e => exact fun σ hs => ⟨io1, e, s1, hs, r1, o1⟩
  | rt w => exact o1.here r1
theorem while_read {c : E} {b kb : B} {D : Ends} {σ : L2.St} {H : Hp} {io : List Addr} {e : Sl} {s : Sto} (hs : RSl X.K X.mg io H e σ) (r : Rel X.K X.mg io H s)
    (o : Out X.K X.mg (thn (whileL (evT g c) (exS g b) big e s) (exS g kb)) io H (KFl X.K X.mg D) (KxA X.mg W)) :
    tWhile (tT X.K X.mg W g c) (tB X.K X.mg W g b) { D with nx := tB X.K X.mg W g kb D } σ H := by
  refine ⟨fun m σ H => ∃ io e s, RSl X.K X.mg io H e σ ∧ Rel X.K X.mg io H s ∧ Out X.K X.mg (thn (whileL (evT g c) (exS g b) m e s) (exS g kb)) io H (KFl X.K X.mg D) (KxA X.mg W), ⟨big, io, e, s, hs, r, o⟩, ?_⟩
  rintro m σ H ⟨io, e, s, hs, r, o⟩
  cases m with
  | zero => exact o.elim
  | succ m =>
    have o : Out X.K X.mg (thn ((evT g c e s).bind fun t s1 => if t then (exS g b e s1).bind fun f s2 => match f with
      | .nx e' => whileL (evT g c) (exS g b) m e' s2
      | .ct e' => whileL (evT g c) (exS g b) m e' s2
      | .bk e' => .ok (.nx e') s2
      | .rt w => .ok (.rt w) s2
      else .ok (.nx e) s1) (exS g kb)) io H (KFl X.K X.mg D) (KxA X.mg W) := o
    unfold thn at o
    rw [R.bind_assoc] at o
    refine ⟨io, e, s, hs, r, Out.goS o fun t s1 io1 H1 t1 r1 o1 t' ht => ?_⟩
    subst ht
    cases t' with
    | false => exact iteF ⟨io1, e, s1, hs.mono r t1, r1, o1⟩
    | true =>
      refine iteT ⟨fun σ' H' => ∃ m', m' < m + 1 ∧ ∃ io e s, RSl X.K X.mg io H' e σ' ∧ Rel X.K X.mg io H' s ∧ Out X.K X.mg (thn (whileL (evT g c) (exS g b) m' e s) (exS g kb)) io H' (KFl X.K X.mg D) (KxA X.mg W), fun σ' H' z => z, io1, e, s1, hs.mono r t1, r1, ?_⟩
      exact turn_read o1 fun e' s' io' H' σ' t2 r2 hs2 o2 => ⟨m, Nat.lt_succ_self m, io', e', s', hs2, r2, o2⟩
theorem for_read {t : Tn} {ik : Ik} {as : E} {b kb : B} {D : Ends} {σ : L2.St} {H : Hp} {io : List Addr} {e : Sl} {s : Sto} (hs : RSl X.K X.mg io H e σ) (r : Rel X.K X.mg io H s)
    (o : Out X.K X.mg ((evs g as e s).bind fun ws s1 => match srcOf ik ws s1 with
      | none => .bad
      | some src => thn (forL (fun w e s => match tnSet t w e with
        | none => .bad
        | some e' => exS g b e' s) big src 0 e s1) (exS g kb)) io H (KFl X.K X.mg D) (KxA X.mg W)) :
    tFor (tI X.K X.mg W g ik as) (gOf X.K t) (tB X.K X.mg W g b) { D with nx := tB X.K X.mg W g kb D } σ H := by
  refine ⟨io, e, s, hs, r, Out.goS o fun ws s1 io1 H1 t1 r1 o1 => ?_⟩
  cases hsrc : srcOf ik ws s1 with
  | none => rw [hsrc] at o1; exact o1.elim
  | some src =>
    rw [hsrc] at o1
    refine ⟨src, rfl, fun J jr => ?_⟩
    have o1 : Out X.K X.mg (thn (forL (fun w e s => match tnSet t w e with
        | none => .bad
        | some e' => exS g b e' s) big src 0 e s1) (exS g kb)) io1 H1 (KFl X.K X.mg D) (KxA X.mg W) := o1
    refine ⟨fun i m σ H => ∃ io2 e2 s2, Stp io1 H1 io2 H ∧ RSl X.K X.mg io2 H e2 σ ∧ Rel X.K X.mg io2 H s2 ∧ Out X.K X.mg (thn (forL (fun w e s => match tnSet t w e with
        | none => .bad
        | some e' => exS g b e' s) m src i e2 s2) (exS g kb)) io2 H (KFl X.K X.mg D) (KxA X.mg W), ⟨big, io1, e, s1, .refl, hs.mono r t1, r1, o1⟩, ?_⟩
    rintro i m σ2 H2 ⟨io2, e2, s2, t2, hs2, r2, o2⟩
    cases m with
    | zero => exact o2.elim
    | succ m =>
      have jr' := jr io2 H2 s2 t2 r2 i
      have o2 : Out X.K X.mg (thn (match itAt src i s2 with
        | none => .bad
        | some none => .ok (.nx e2) s2
        | some (some w) => (match tnSet t w e2 with
          | none => .bad
          | some e' => exS g b e' s2 : R Fl).bind fun fl s3 => match fl with
          | .nx e' => forL (fun w e s => match tnSet t w e with
            | none => .bad
            | some e' => exS g b e' s) m src (i + 1) e' s3
          | .ct e' => forL (fun w e s => match tnSet t w e with
            | none => .bad
            | some e' => exS g b e' s) m src (i + 1) e' s3
          | .bk e' => .ok (.nx e') s3
          | .rt w => .ok (.rt w) s3) (exS g kb)) io2 H2 (KFl X.K X.mg D) (KxA X.mg W) := o2
      cases hit : itAt src i s2 with
      | none => rw [hit] at o2; exact o2.elim
      | some z =>
        rw [hit] at o2 jr'
        cases z with
        | none => exact .inl ⟨jr', io2, e2, s2, hs2, r2, o2⟩
        | some w =>
          refine .inr ⟨jr'.1, fun σ' H' => ∃ m', m' < m + 1 ∧ ∃ io2 e2 s2, Stp io1 H1 io2 H' ∧ RSl X.K X.mg io2 H' e2 σ' ∧ Rel X.K X.mg io2 H' s2 ∧ Out X.K X.mg (thn (forL (fun w e s => match tnSet t w e with
            | none => .bad
            | some e' => exS g b e' s) m' src (i + 1) e2 s2) (exS g kb)) io2 H' (KFl X.K X.mg D) (KxA X.mg W), fun σ' H' z => z, fun x H' hy => ?_⟩
          obtain ⟨st, rl, kx⟩ := jr'.2 x H' hy
          cases ht : tnSet t w e2 with
          | none =>
            have o2 : Out X.K X.mg (thn ((match tnSet t w e2 with
              | none => .bad
              | some e' => exS g b e' s2 : R Fl).bind _) (exS g kb)) io2 H2 (KFl X.K X.mg D) (KxA X.mg W) := o2
            rw [ht] at o2
            exact o2.elim
          | some e' =>
            have o2 : Out X.K X.mg (thn ((match tnSet t w e2 with
              | none => .bad
              | some e' => exS g b e' s2 : R Fl).bind fun fl s3 => match fl with
              | .nx e' => forL (fun w e s => match tnSet t w e with
                | none => .bad
                | some e' => exS g b e' s) m src (i + 1) e' s3
              | .ct e' => forL (fun w e s => match tnSet t w e with
                | none => .bad
                | some e' => exS g b e' s) m src (i + 1) e' s3
              | .bk e' => .ok (.nx e') s3
              | .rt w => .ok (.rt w) s3) (exS g kb)) io2 H2 (KFl X.K X.mg D) (KxA X.mg W) := o2
            rw [ht] at o2
            refine gOf_ok rl t w x e2 e' σ2 _ (hs2.mono r2 st) kx ht fun σ3 hs3 _ => ⟨io2, e', s2, hs3, rl, ?_⟩
            exact turn_read (o2.after st) fun e'' s' io' H'' σ' t3 r3 hs4 o3 => ⟨m, Nat.lt_succ_self m, io', e'', s', (t2.trans st).trans t3, hs4, r3, o3⟩
theorem assign1 {tg : Expr} {env : PySem.Env} (h : noStar tg = true) : (assignEach [tg] env).map (·.2) = [assign tg env] := (assignEach_ns (es := []) h).1
theorem lc_set {own : List (Str × Nat)} {tg : Tn} {ik : Ik} {as cond elt : E} {i : Nat} {y : Str} {py spos : Pos} {v : Expr} (h : GoodS X k g W) (hN : X.N[i]? = some y) (hy : lcSet X.env.scope y py v = true) (m : mE X.N g.df (.comp own tg ik as cond elt) X.env.scope v = true) :
    PS X (.Assign [.Name y py] v spos) (tAsg (tE X.K X.mg W g (.comp own tg ik as cond elt)) (gName i)) := by
  unfold mE at m
  split at m
  · rw [Bool.and_eq_true, Bool.and_eq_true, Bool.and_eq_true, Bool.and_eq_true, Bool.and_eq_true, Bool.and_eq_true, Bool.and_eq_true, beq_iff_eq] at m
    obtain ⟨⟨⟨⟨⟨⟨⟨rfl, m1⟩, m2⟩, m3⟩, m4⟩, m5⟩, m6⟩, m7⟩ := m
    rename_i el t iter ifs scope pos
    have hy : ((py.line == pos.line) && (scope.names.any fun (n, k) => n == y && (k == .local || k == .cell)) == false && X.env.scope.names.lookup y == some .local) = true := hy
    rw [Bool.and_eq_true, Bool.and_eq_true] at hy
    have G := h.toGood
    have hi := sI G (fun es => sEs as X W es G) m5
    have he : ∀ (s : Shared) (H : Hp) (C : Addr) (cl : List (Str × Addr)) (fp : List Addr), PE (X.blk s H scope (compEnvC scope cl C X.env) fp) el (tE X.K X.mg (fun _ _ _ _ => False) g elt) := fun s H C cl fp => sE elt (X.blk s H scope (compEnvC scope cl C X.env) fp) _ el (G.blk s H scope _ fp) m7
    have hg : ∀ (s : Shared) (H : Hp) (C : Addr) (cl : List (Str × Addr)) (fp : List Addr), PG (X.blk s H scope (compEnvC scope cl C X.env) fp) t (gOf X.K tg) := fun s H C cl fp => sG (X := X.blk s H scope (compEnvC scope cl C X.env) fp) h.calm h.nd tg t m2
    have hc : ∀ (s : Shared) (H : Hp) (C : Addr) (cl : List (Str × Addr)) (fp : List Addr), PTs (X.blk s H scope (compEnvC scope cl C X.env) fp) ifs (tT X.K X.mg (fun _ _ _ _ => False) g cond) := fun s H C cl fp => by
      split at m6
      · have : cond = .nil := by cases cond <;> first | rfl | cases m6
        subst this
        exact t_nil (X := X.blk s H scope (compEnvC scope cl C X.env) fp)
      · exact pts_one (sT cond (X.blk s H scope (compEnvC scope cl C X.env) fp) _ _ (G.blk s H scope _ fp) m6)
      · cases m6
    refine ⟨fun pins st σ H D I q => (ps_setLc (i := i) h.calm h.nd hN (eq_of_beq hy.2) (sw_true h.kind (eq_of_beq hy.2) hy.1.1 (eq_of_beq hy.1.2)) hi (blkOk_by m1) hg hc he (noset_fold m4)).run pins st σ H D I ?_⟩
    exact e_comp G m1 m2 m3 m4 hi hc he σ H _ q
  · cases m
theorem sB (h : GoodS X k g W) : ∀ (b : B) (l : List Stmt), mB X.N g.df X.env.scope b l = true → PSs X l (tB X.K X.mg W g b)
  | .done, l, m => by
    unfold mB at m
    split at m
    · exact PSs.imp pss_nil fun D σ H ⟨io, e, s, hs, r, o⟩ => o.here r σ hs
    · cases m
  | .asg t a kb, l, m => by
    unfold mB at m
    split at m
    · rename_i tg v pos rest
      rw [Bool.and_eq_true, Bool.and_eq_true, Bool.and_eq_true] at m
      obtain ⟨⟨⟨m1, m2⟩, m3⟩, m4⟩ := m
      have pk := sB h kb rest m3
      have pe := sE a X W v h.toGood m2
      split at m4
      · rename_i y py
        have ⟨i, ht⟩ : ∃ i, t = .name i := by
          cases t <;> first | exact ⟨_, rfl⟩ | cases m1
        subst ht
        have m1 : (X.N[i]? == some y && locB X.env.scope y) = true := m1
        rw [Bool.and_eq_true, beq_iff_eq] at m1
        have rd : ∀ D σ H, tB X.K X.mg W g (.asg (.name i) a kb) D σ H → tAsg (tE X.K X.mg W g a) (gName i) { D with nx := tB X.K X.mg W g kb D } σ H := fun D σ H ⟨io, e, s, hs, r, o⟩ => set_read hs r o
        by_cases hc : isComp v = true
        · rw [if_pos hc, Bool.or_eq_true, Bool.and_eq_true] at m4
          rcases m4 with m4 | ⟨m4, m5⟩
          · have : ∃ own tg ik as cond elt, a = .comp own tg ik as cond elt := by
              have : ∃ el gs sc p, v = .ListComp el gs sc p := by
                unfold lcSet at m4
                split at m4
                · exact ⟨_, _, _, _, rfl⟩
                · cases m4
              obtain ⟨el, gs, sc, p, rfl⟩ := this
              cases a <;> first | exact ⟨_, _, _, _, _, _, rfl⟩ | cases m2
            obtain ⟨own, tg, ik, as, cond, elt, rfl⟩ := this
            exact PSs.imp (pss_cons (lc_set h m1.1 m4 m2) pk) rd
          · have : ∃ el gs sc p, v = .ListComp el gs sc p := by
              split at m5
              · exact ⟨_, _, _, _, rfl⟩
              · cases m5
            obtain ⟨el, gs, sc, p, rfl⟩ := this
            rw [beq_iff_eq] at m4
            refine PSs.imp (pss_cons (ps_set (i := i) h.nd m1.1 (locB_ok m1.2) pe ?_ (.inl (h.fn y))) pk) rd
            have ky : X.env.kindOf y = some .cell := m4
            have hb : X.env.blockKind = .function := by unfold Env.blockKind; rw [h.kind]; rfl
            unfold swapsWith
            simp only [hb, ky]
            rfl
        · have hc' : isComp v = false := by cases z : isComp v <;> first | rfl | exact absurd z hc
          exact PSs.imp (pss_cons (ps_set (i := i) h.nd m1.1 (locB_ok m1.2) pe (swaps_no hc') (.inl (h.fn y))) pk) rd
      · have pg := sTa h t tg m1
        have hst : noStar tg = true := by
          cases tg <;> first | rfl | (cases t <;> cases m1)
        have hsw : swapsWithSole [tg] v pos.line X.env = pure false := by
          unfold swNone at m4
          split at m4
          · exact swaps_tup
          · exact swaps_tup
          · exact swaps_sub
          · cases m4
        refine PSs.imp (pss_cons (ps_asg pe pg hsw (sw_none m4) (assign1 hst)) pk) fun D σ H ⟨io, e, s, hs, r, o⟩ => ?_
        refine ⟨io, e, s, hs, r, Out.goS o fun w s1 io1 H1 t1 r1 o1 u ku => ⟨io1, e, s1, w, hs.mono r t1, r1, ku, Out.go o1 fun e2 s2 io2 H2 t2 r2 o2 σ2 hs2 => ⟨io2, e2, s2, hs2, r2, o2⟩⟩⟩
    · cases m
  | .par2 i j a b kb, l, m => by
    unfold mB at m
    split at m
    · rename_i x px y py n1 p1 p q n2 p2 pos rest
      simp only [Bool.and_eq_true, beq_iff_eq, Bool.not_eq_true'] at m
      obtain ⟨⟨⟨⟨⟨⟨⟨⟨⟨⟨⟨⟨hx, hy⟩, kx⟩, ky⟩, hxy⟩, hl⟩, ha⟩, hb⟩, h1⟩, h2⟩, m1⟩, m2⟩, m3⟩ := m
      have hij : i ≠ j := fun z => by
        rw [z, hy] at hx
        cases hx
        rw [beq_self_eq_true] at hxy
        cases hxy
      have pa : PA X [p, q] _ := pa_cons (sE a X W p h.toGood m1) (pa_cons (sE b X W q h.toGood m2) pa_nil (starEach_ns hb)) (starEach_ns ha)
      refine PSs.imp (pss_cons (ps_par h.calm h.nd hx hy hij kx ky pa (sw_two h.kind kx ky hxy (by rw [hl]; exact beq_self_eq_true _) ha hb h1 h2) swaps_tup) (sB h kb rest m3)) fun D σ H ⟨io, e, s, hs, r, o⟩ => ?_
      refine ⟨io, e, s, hs, r, Out.goS o fun w s1 io1 H1 t1 r1 o1 v kv => ⟨io1, e, s1, hs.mono r t1, r1, Out.goS o1 fun u s2 io2 H2 t2 r2 o2 v2 kv2 => ⟨v, v2, rfl, io2, _, s2, ?_, r2, o2⟩⟩⟩
      exact (((hs.mono r t1).mono r1 t2).set i (r1.mono t2 _ _ kv)).set j kv2
    · cases m
  | .par3 i j o' a b c kb, l, m => by
    unfold mB at m
    split at m
    · rename_i x px y py z pz n1 p1 p q w n2 p2 pos rest
      simp only [Bool.and_eq_true, beq_iff_eq, Bool.not_eq_true'] at m
      obtain ⟨⟨⟨⟨⟨⟨⟨⟨⟨⟨⟨⟨⟨⟨⟨⟨⟨⟨⟨hx, hy⟩, hz⟩, kx⟩, ky⟩, kz⟩, hxy⟩, hxz⟩, hyz⟩, hl⟩, hl2⟩, ha⟩, hb⟩, hc⟩, h1⟩, h2⟩, m1⟩, m2⟩, m4⟩, m3⟩ := m
      have ne : ∀ {i j : Nat} {x y : Str}, X.N[i]? = some x → X.N[j]? = some y → (x == y) = false → i ≠ j := fun {i j x y} hx hy hxy z => by
        rw [z, hy] at hx
        cases hx
        rw [beq_self_eq_true] at hxy
        cases hxy
      have pa : PA X [p, q, w] _ := pa_cons (sE a X W p h.toGood m1) (pa_cons (sE b X W q h.toGood m2) (pa_cons (sE c X W w h.toGood m4) pa_nil (starEach_ns hc)) (starEach_ns hb)) (starEach_ns ha)
      refine PSs.imp (pss_cons (ps_par3 h.calm h.nd hx hy hz (ne hx hy hxy) (ne hx hz hxz) (ne hy hz hyz) kx ky kz pa (sw_three h.kind kx ky kz hxy hxz hyz (by rw [hl]; exact beq_self_eq_true _) (by rw [hl2]; exact beq_self_eq_true _) ha hb hc h1 h2) swaps_tup) (sB h kb rest m3)) fun D σ H ⟨io, e, s, hs, r, o⟩ => ?_
      refine ⟨io, e, s, hs, r, Out.goS o fun w1 s1 io1 H1 t1 r1 o1 v kv => ⟨io1, e, s1, hs.mono r t1, r1, Out.goS o1 fun u s2 io2 H2 t2 r2 o2 v2 kv2 => ⟨io2, e, s2, (hs.mono r t1).mono r1 t2, r2, Out.goS o2 fun u3 s3 io3 H3 t3 r3 o3 v3 kv3 => ⟨v, v2, v3, rfl, io3, _, s3, ?_, r3, o3⟩⟩⟩⟩
      exact (((((hs.mono r t1).mono r1 t2).mono r2 t3).set i (r2.mono t3 _ _ (r1.mono t2 _ _ kv))).set j (r2.mono t3 _ _ kv2)).set o' kv3
    · cases m
  | .aug i op a kb, l, m => by
    unfold mB at m
    split at m
    · rename_i y py o' v pos rest
      simp only [Bool.and_eq_true, beq_iff_eq] at m
      obtain ⟨⟨⟨⟨⟨h1, rfl⟩, hN⟩, hl⟩, m1⟩, m2⟩ := m
      have pe := sE a X W v h.toGood m1
      have pk := sB h kb rest m2
      cases op with
      | add =>
        refine PSs.imp (pss_cons (ps_aug (i := i) h.nd hN (locB_ok hl) pe ip_add (.inl (h.fn y))) pk) fun D σ H ⟨io, e, s, hs, r, o⟩ => ?_
        obtain ⟨w, x, hx, kx, o⟩ := Out.slotk hs o
        refine ⟨x, hx, io, e, s, hs, r, Out.goS o fun u s1 io1 H1 t1 r1 o1 z kz => ?_⟩
        cases w <;> cases u <;> first | exact False.elim o1 | skip
        exact ⟨_, _, kx, kz, io1, _, s1, (hs.mono r t1).set i (w := .int _) rfl, r1, o1⟩
      | sub =>
        refine PSs.imp (pss_cons (ps_aug (i := i) h.nd hN (locB_ok hl) pe ip_sub (.inl (h.fn y))) pk) fun D σ H ⟨io, e, s, hs, r, o⟩ => ?_
        obtain ⟨w, x, hx, kx, o⟩ := Out.slotk hs o
        refine ⟨x, hx, io, e, s, hs, r, Out.goS o fun u s1 io1 H1 t1 r1 o1 z kz => ?_⟩
        cases w <;> cases u <;> first | exact False.elim o1 | skip
        exact ⟨_, _, kx, kz, io1, _, s1, (hs.mono r t1).set i (w := .int _) rfl, r1, o1⟩
      | _ => cases h1
    · cases m
  | .ite c t f kb, l, m => by
    unfold mB at m
    split at m
    · simp only [Bool.and_eq_true] at m
      obtain ⟨⟨⟨m1, m2⟩, m3⟩, m4⟩ := m
      exact PSs.imp (pss_cons (ps_if (sT c X W _ h.toGood m1) (sB h t _ m2) (sB h f _ m3)) (sB h kb _ m4)) fun D σ H ⟨io, e, s, hs, r, o⟩ => if_read hs r o
    · cases m
  | .whl c b kb, l, m => by
    unfold mB at m
    split at m
    · simp only [Bool.and_eq_true] at m
      obtain ⟨⟨m1, m2⟩, m3⟩ := m
      exact PSs.imp (pss_cons (ps_while h.own (sT c X W _ h.toGood m1) (sB h b _ m2)) (sB h kb _ m3)) fun D σ H ⟨io, e, s, hs, r, o⟩ => while_read hs r o
    · cases m
  | .for_ t ik as b kb, l, m => by
    unfold mB at m
    split at m
    · simp only [Bool.and_eq_true] at m
      obtain ⟨⟨⟨⟨m1, m2⟩, m3⟩, m4⟩, m5⟩ := m
      exact PSs.imp (pss_cons (ps_for h.own h.calm (sI h.toGood (fun es => sEs as X W es h.toGood) m3) (sG h.calm h.nd t _ m1) (sB h b _ m4) (noset_fold m2)) (sB h kb _ m5)) fun D σ H ⟨io, e, s, hs, r, o⟩ => for_read hs r o
    · cases m
  | .ret a kb, l, m => by
    unfold mB at m
    split at m
    · exact PSs.imp (pss_one (ps_ret (sE a X W _ h.toGood m))) fun D σ H ⟨io, e, s, hs, r, o⟩ => ⟨io, e, s, hs, r, Out.goS o fun w s1 io1 H1 t1 r1 o1 v kv => o1.here r1 v kv⟩
    · cases m
  | .retn kb, l, m => by
    unfold mB at m
    split at m
    · exact PSs.imp (pss_one ps_retN) fun D σ H ⟨io, e, s, hs, r, o⟩ => o.here r .non rfl
    · cases m
  | .brk kb, l, m => by
    unfold mB at m
    split at m
    · exact PSs.imp (pss_one ps_break) fun D σ H ⟨io, e, s, hs, r, o⟩ => o.here r σ hs
    · cases m
  | .ct kb, l, m => by
    unfold mB at m
    split at m
    · exact PSs.imp (pss_one ps_continue) fun D σ H ⟨io, e, s, hs, r, o⟩ => o.here r σ hs
    · cases m
  | .pass kb, l, m => by
    unfold mB at m
    split at m
    · exact PSs.imp (pss_cons ps_pass (sB h kb _ m)) fun D σ H ⟨io, e, s, hs, r, o⟩ => ⟨io, e, s, hs, r, o⟩
    · cases m
  | .exp a kb, l, m => by
    unfold mB at m
    split at m
    · simp only [Bool.and_eq_true, Bool.not_eq_true'] at m
      obtain ⟨⟨m1, m2⟩, m3⟩ := m
      exact PSs.imp (pss_cons (ps_expr (sE a X W _ h.toGood m2) (swaps_no m1)) (sB h kb _ m3)) fun D σ H ⟨io, e, s, hs, r, o⟩ => ⟨io, e, s, hs, r, Out.goS o fun w s1 io1 H1 t1 r1 o1 v kv => ⟨io1, e, s1, hs.mono r t1, r1, o1⟩⟩
    · cases m
  | .raise c kb, l, m => by
    unfold mB at m
    split at m
    · simp only [Bool.and_eq_true, beq_iff_eq] at m
      obtain ⟨⟨rfl, hg⟩, ok⟩ := m
      rename_i y p1 msg n p2 p3 p4
      by_cases hd : g.ex y = true
      · obtain ⟨C, g1, x1, k1, b1, t1⟩ := (h.mo.exc y hd).ex
        refine PSs.imp (pss_one (ps_raise h.calm h.tk (pmk_own PySem.F.excBase_ValueError x1 g1 k1 (raises_own b1 t1) (glB_ok hg) (okN_ok ok).1))) fun D σ H ⟨io, e, s, hs, r, o⟩ => ?_
        have o : Out X.K X.mg (if g.ex y then .exc y s else .bad : R Fl) io H (KFl X.K X.mg D) (KxA X.mg W) := o
        rw [if_pos hd] at o
        exact o io H .refl r C σ g1
      · refine ⟨fun pins st σ H D I ⟨io, e, s, hs, r, o⟩ => ?_⟩
        have o : Out X.K X.mg (if g.ex y then .exc y s else .bad : R Fl) io H (KFl X.K X.mg D) (KxA X.mg W) := o
        rw [if_neg hd] at o
        exact o.elim
    · cases m
  | .tryr _ _ _ _, _, m => by cases m
end
end Py
namespace Py
open PySem PySem.Spec PyProof.Rows L2
def scopeB (fi : Fi) (sc : Scope) : Bool := (sc.kind == .function) && (sc.isCoroutine == false) && (sc.isGenerator == false) && decide fi.names.Nodup && decide (fi.names.take fi.ps.length = fi.ps) &&
  (fi.ps.all fun x => sc.names.lookup x == some .local || sc.names.lookup x == some .cell) && (sc.names.all fun y => !(y.2 == .free))
theorem scopeB_ok {fi : Fi} {sc : Scope} (h : scopeB fi sc = true) : FnScope fi.names fi.ps sc := by
  unfold scopeB at h
  simp only [Bool.and_eq_true, decide_eq_true_eq, beq_iff_eq, List.all_eq_true, Bool.or_eq_true] at h
  obtain ⟨⟨⟨⟨⟨⟨h1, h2⟩, h3⟩, h4⟩, h5⟩, h6⟩, h7⟩ := h
  exact ⟨h1, h2, h3, h4, h5, h6, fun y hy z => by
    have := h7 y hy
    rw [z] at this
    cases this⟩
structure RowF (K : PySem.W.Frag) (mg : Str → Option Value) (st : Stmt) (x : Str) (fi : Fi) : Prop where
  ex : ∃ f fd, mg x = some (.ref f) ∧ FunD K x x (defArgs st) (defBody st) (defScope st) [] [] f fd ∧ Binds K fd fi.ps []
  sc : scopeB fi (defScope st) = true
structure Fix (K : PySem.W.Frag) (mg : Str → Option Value) (tab : Str → Option Fi) (con : Str → Option W) (ex : Str → Bool) : Prop where
  rows : ∀ x fi, tab x = some fi → ∃ st, RowF K mg st x fi ∧ mB fi.names (fun x => (tab x).isSome) (defScope st) fi.body (defBody st) = true
  con : ∀ x c, con x = some c → ∃ u v, mg x = some u ∧ RelV v u ∧ ∀ io H, RW K mg io H c v
  blt : ∀ x, x ∈ bltNames → mg x = none
  exc : ∀ c, ex c = true → Ex1 K mg c
section
variable {P : Program} {w : World} {K : PySem.W.Frag} {mg : Str → Option Value} {base : Heap} {tab : Str → Option Fi} {con : Str → Option W} {ex : Str → Bool}
theorem gam_df (k : Nat) (x : Str) : (gam tab con ex k).df x = (tab x).isSome := by cases k <;> rfl
theorem gam_con (k : Nat) (x : Str) : (gam tab con ex k).con x = con x := by cases k <;> rfl
theorem gam_ex (k : Nat) (x : Str) : (gam tab con ex k).ex x = ex x := by cases k <;> rfl
theorem gam_bad (k : Nat) (x : Str) (ws : List W) (s : Sto) (h : tab x = none) : (gam tab con ex k).call x ws s = .bad := by
  cases k with
  | zero => rfl
  | succ k =>
    show (match tab x with | some fi => evF (gam tab con ex k) fi ws s | none => .bad) = .bad
    rw [h]
theorem gam_len (k : Nat) (x : Str) (fi : Fi) (ws : List W) (s : Sto) (h : tab x = some fi) (hl : ws.length ≠ fi.ps.length) : (gam tab con ex k).call x ws s = .bad := by
  cases k with
  | zero => rfl
  | succ k =>
    show (match tab x with | some fi => evF (gam tab con ex k) fi ws s | none => .bad) = .bad
    rw [h]
    show evF _ fi ws s = .bad
    unfold evF
    rw [if_neg hl]
theorem start_rsl {N : List Str} {io : List Addr} {H : Hp} {ws : List W} {vs : List V} (k : RWs K mg io H ws vs) (hl : N.length - ws.length = N.length - vs.length) : RSl K mg io H (ws.map some ++ List.replicate (N.length - ws.length) none) (L2.start N vs) := by
  unfold L2.start
  have e := k.length
  refine ⟨by simp [e], fun i w h => ?_⟩
  by_cases hi : i < ws.length
  · rw [List.getElem?_append_left (by simpa using hi), List.getElem?_map] at h
    cases h1 : ws[i]? with
    | none => rw [h1] at h; cases h
    | some u =>
      rw [h1] at h
      cases h
      obtain ⟨v, h2, h3⟩ := k.get h1
      refine ⟨v, ?_, h3⟩
      rw [List.getElem?_append_left (by rw [List.length_map, ← e]; exact hi), List.getElem?_map, h2]
      rfl
  · rw [List.getElem?_append_right (by simpa using hi), List.getElem?_replicate] at h
    split at h <;> cases h
theorem fn_succ {k : Nat} {x : Str} {fi : Fi} {st : Stmt} {f : Addr} {fd : FuncData} (ih : Mo P w K mg base k (gam tab con ex k)) (hfi : tab x = some fi) (h2 : FunD K x x (defArgs st) (defBody st) (defScope st) [] [] f fd)
    (hsc : scopeB fi (defScope st) = true) (hm : mB fi.names (fun x => (tab x).isSome) (defScope st) fi.body (defBody st) = true) : FnOk P w K mg base (L2.CX P w) (k + 1) f fd fi.ps (spG K mg (gam tab con ex (k + 1)) x fi.ps.length) := by
  refine h2.ok (scopeB_ok hsc) (fun vs H Q E h => h.1) fun cdv A outer s H vs Q E hr h => ?_
  have S := scopeB_ok hsc
  let X : Cx := cxOf (L2.CX P w) P w K mg base fi.names x (defScope st) f cdv A outer s H E
  have good : GoodS X k (gam tab con ex k) (fun cls d _ H => E cls d H) :=
    { calm := rfl, room := hr, nd := S.nd, tk := takes_of rfl rfl rfl rfl, mo := ih, kind := S.kind, own := passes_of rfl, fn := fun _ => rfl }
  have hD : (gam tab con ex k).df = fun x => (tab x).isSome := funext fun y => gam_df k y
  refine ⟨_, sB good fi.body (defBody st) (by rw [hD]; exact hm), ?_⟩
  obtain ⟨hl, io, s', ws, kw, r, o⟩ := h
  have o : Out K mg (match tab x with | some fi => evF (gam tab con ex k) fi ws s' | none => .bad : R W) io H (KV K mg Q) _ := o
  rw [hfi] at o
  have o : Out K mg (evF (gam tab con ex k) fi ws s') io H (KV K mg Q) _ := o
  unfold evF at o
  rw [if_pos (by rw [kw.length]; exact hl)] at o
  refine ⟨io, _, s', start_rsl kw (by rw [kw.length]), r, ?_⟩
  refine o.bind.imp (fun fl s1 io1 H1 t1 r1 o1 => ?_) fun c s1 io1 H1 t1 r1 z C σ hC => z C hC
  cases fl with
  | nx e => exact fun σ hs => o1.here r1 .non rfl
  | rt u => exact fun v kv => o1.here r1 v kv
  | bk e => exact o1.elim
  | ct e => exact o1.elim
theorem mo_all (F : Fix K mg tab con ex) : ∀ k, Mo P w K mg base k (gam tab con ex k) := by
  intro k
  have common : ∀ k, (∀ x, (tab x).isSome = true → Fn1 P w K mg base k (gam tab con ex k) x) → Mo P w K mg base k (gam tab con ex k) := fun k h =>
    ⟨fun x hx => h x (by rw [← gam_df k x]; exact hx), fun x ws s hx => gam_bad k x ws s (by
      rw [gam_df] at hx
      cases z : tab x with
      | none => rfl
      | some _ => rw [z] at hx; cases hx), fun x c hx => F.con x c (by rw [gam_con] at hx; exact hx), F.blt, fun c hc => F.exc c (by rw [gam_ex] at hc; exact hc)⟩
  induction k with
  | zero =>
    refine common 0 fun x hx => ?_
    obtain ⟨fi, hfi⟩ := Option.isSome_iff_exists.mp hx
    obtain ⟨st, Rf, _⟩ := F.rows x fi hfi
    obtain ⟨f, fd, h1, h2, h3⟩ := Rf.ex
    refine ⟨f, fd, fi.ps, h1, h2.kp, h3, ⟨fun vs H Q E h => h.1, fun A outer s H args us vs Q E _ _ _ _ h => ?_⟩, fun ws s hl => gam_len 0 x fi ws s hfi hl⟩
    obtain ⟨_, io, s, ws, _, _, o⟩ := h
    exact o.elim
  | succ k ih =>
    refine common (k + 1) fun x hx => ?_
    obtain ⟨fi, hfi⟩ := Option.isSome_iff_exists.mp hx
    obtain ⟨st, Rf, hm⟩ := F.rows x fi hfi
    obtain ⟨f, fd, h1, h2, h3⟩ := Rf.ex
    exact ⟨f, fd, fi.ps, h1, h2.kp, h3, fn_succ ih hfi h2 Rf.sc hm, fun ws s hl => gam_len (k + 1) x fi ws s hfi hl⟩
theorem sp_law {H : Hp} {a : Addr} {ns : List Int} {g : G} {x : Str} {s' : Sto} (hO : Only H) (hS : SqL K H a (ns.map V.int)) (h : g.call x [.cl (ns.map W.int)] [] = .ok (.bl true) s') :
    spG K mg g x 1 [.ref a] H (fun v _ => v = .bl true) fun _ _ _ => False := by
  have hz : FzL K H a (ns.map V.int) := by
    rcases hS with (h1 | ⟨o, h1⟩) | h1
    · rcases hO a with z | ⟨o, xs, z⟩
      · rw [z] at h1; cases h1
      · rw [z] at h1; cases h1
    · exact .inl ⟨o, h1⟩
    · exact .inr h1
  have hw : ∀ ns : List Int, RWs K mg [] H (ns.map W.int) (ns.map V.int) := fun ns => by
    induction ns with
    | nil => rfl
    | cons n ns ih => exact ⟨.int n, ns.map V.int, rfl, rfl, ih⟩
  refine ⟨rfl, [], [], [.cl (ns.map W.int)], ⟨.ref a, [], rfl, ⟨a, ns.map V.int, rfl, hz, hw ns⟩, rfl⟩, ⟨rfl, List.nodup_nil, fun n a ws h => by simp at h⟩, ?_⟩
  rw [h]
  exact fun io' H' _ _ v hv => hv
end
theorem walk_py {l : PySem.W.OpenLaw} {n k : Nat} {q : Program} {loose : List Str} {XP : (Str → Option Value) → Heap → Prop} {YP : World → Heap → Prop} {d : DefRec} {x : Str}
    (hn : l.most = some n) (hn2 : n ≤ sizeLine) (hdf : d.params.defaults = []) (hr : Room k callerA)
    (F : ∀ (w : World) (mg : Str → Option Value) (fa : Addr) (h : Heap), YP w h → h.Ns mainGlobals mg → mg d.name = some (.ref fa) →
      ∃ (K : PySem.W.Frag) (fd : FuncData) (sp : Sp), K.In h ∧ (∀ (s : Shared) (u : Value), BindsTo s fd ⟨[u], []⟩ [(x, u)]) ∧
        (∀ (H : Hp) (a : Addr) (ns : List Int), ns.length ≤ n → Only H → SqL K H a (ns.map V.int) → sp [.ref a] H (fun v _ => v = .bl true) fun _ _ _ => False) ∧
        ∀ base : Heap, K.In base → base.Ns mainGlobals mg → FnOk l.prog w K mg base (L2.CX l.prog w) k fa fd [x] sp) :
    PySem.W.WalkO q loose XP YP l.row.toRowW d [] (fun f vs => PySem.call f vs) := by
  refine Att.attach_call hn hdf fun w s₀ s₁ mg mb fa o pm cd doc a vs ns G Y ho hd hcd hmg hobj hints hlen hg => ?_
  obtain ⟨K, fd, sp, KX, hb, hsp, hF⟩ := F w mg fa _ Y G.T.g hmg
  exact law_call KX G.T.g G.T.b G.T.builtins G.T.nolimit hg hobj hints (Nat.le_trans hlen hn2) hr hF hb (fun H hO hS => hsp H a ns hlen hO hS) fun H e s' z => by
    obtain ⟨_, _, _, _, _, _, _, _, _, _, _, _, z⟩ := z
    exact z.elim
end Py
namespace Py
open PySem PySem.Spec PyProof.Rows L2
mutual
def cst (K : PySem.W.Frag) : W → Value → Bool
  | .non, u => (match u with
    | .none => true
    | _ => false)
  | .bl b, u => (match u with
    | .bool c => b == c
    | _ => false)
  | .int i, u => (match u with
    | .int j _ => decide (i = j)
    | _ => false)
  | .str x, u => (match u with
    | .str y _ => decide (x = y)
    | _ => false)
  | .tup ws, u => (match u with
    | .ref a => (match K.lookup a with
      | some ⟨.type c, _, .seq its _, _⟩ => decide (c = "tuple") && (decide (its.size ≤ sizeLine) && csts K ws its.toList)
      | _ => false)
    | _ => false)
  | .cl ws, u => (match u with
    | .ref a => (match K.lookup a with
      | some ⟨.type c, none, .seq its _, _⟩ => decide (c = "list") && (decide (its.size ≤ sizeLine) && csts K ws its.toList)
      | _ => false)
    | _ => false)
  | .loc _, _ => false
  | .fn _, _ => false
def csts (K : PySem.W.Frag) : List W → List Value → Bool
  | [], us => us.isEmpty
  | w :: ws, us => (match us with
    | u :: r => cst K w u && csts K ws r
    | [] => false)
end
section
variable {K : PySem.W.Frag} {mg : Str → Option Value}
mutual
theorem cst_ok : ∀ (c : W) (u : Value), cst K c u = true → ∃ v, RelV v u ∧ ∀ io H, RW K mg io H c v
  | .non, u, h => by
    cases u with
    | none => exact ⟨.non, rfl, fun _ _ => rfl⟩
    | _ => cases h
  | .bl b, u, h => by
    cases u with
    | bool c =>
      have e : b = c := by
        have h : (b == c) = true := h
        exact eq_of_beq h
      subst e
      exact ⟨.bl b, rfl, fun _ _ => rfl⟩
    | _ => cases h
  | .int i, u, h => by
    cases u with
    | int j t =>
      have e : i = j := of_decide_eq_true h
      subst e
      exact ⟨.int i, ⟨t, rfl⟩, fun _ _ => rfl⟩
    | _ => cases h
  | .str x, u, h => by
    cases u with
    | str y t =>
      have e : x = y := of_decide_eq_true h
      subst e
      exact ⟨.str x, ⟨t, rfl⟩, fun _ _ => rfl⟩
    | _ => cases h
  | .tup ws, u, h => by
    cases u with
    | ref a =>
      have h : (match K.lookup a with
        | some ⟨.type c, _, .seq its _, _⟩ => decide (c = "tuple") && (decide (its.size ≤ sizeLine) && csts K ws its.toList)
        | _ => false) = true := h
      cases q : K.lookup a with
      | none =>
        rw [q] at h
        cases h
      | some o =>
        obtain ⟨oc, od, dt, osl⟩ := o
        rw [q] at h
        cases oc with
        | type c =>
          cases dt with
          | seq its n =>
            obtain ⟨h1, h2⟩ := He.ba h
            obtain ⟨h3, h4⟩ := He.ba h2
            obtain ⟨vs, h5, h6⟩ := csts_ok ws its.toList h4
            exact ⟨.ref a, rfl, fun io H => ⟨a, vs, rfl, .inr ⟨_, its, n, q, congrArg Value.type (of_decide_eq_true h1), rfl, of_decide_eq_true h3, h5⟩, h6 io H⟩⟩
          | _ => cases h
        | _ => cases dt <;> cases h
    | _ => cases h
  | .cl ws, u, h => by
    cases u with
    | ref a =>
      have h : (match K.lookup a with
        | some ⟨.type c, none, .seq its _, _⟩ => decide (c = "list") && (decide (its.size ≤ sizeLine) && csts K ws its.toList)
        | _ => false) = true := h
      cases q : K.lookup a with
      | none =>
        rw [q] at h
        cases h
      | some o =>
        obtain ⟨oc, od, dt, osl⟩ := o
        rw [q] at h
        cases oc with
        | type c =>
          cases od with
          | none =>
            cases dt with
            | seq its n =>
              obtain ⟨h1, h2⟩ := He.ba h
              obtain ⟨h3, h4⟩ := He.ba h2
              obtain ⟨vs, h5, h6⟩ := csts_ok ws its.toList h4
              exact ⟨.ref a, rfl, fun io H => ⟨a, vs, rfl, .inr ⟨_, its, n, q, congrArg Value.type (of_decide_eq_true h1), rfl, rfl, of_decide_eq_true h3, h5⟩, h6 io H⟩⟩
            | _ => cases h
          | some b => cases dt <;> cases h
        | _ => cases od <;> cases dt <;> cases h
    | _ => cases h
  | .loc _, _, h => by cases h
  | .fn _, _, h => by cases h
theorem csts_ok : ∀ (cs : List W) (us : List Value), csts K cs us = true → ∃ vs, Vals vs us ∧ ∀ io H, RWs K mg io H cs vs
  | [], us, h => by
    cases us with
    | nil => exact ⟨[], .nil, fun _ _ => rfl⟩
    | cons _ _ => cases h
  | w :: ws, us, h => by
    cases us with
    | nil => cases h
    | cons u r =>
      obtain ⟨h1, h2⟩ := He.ba (show (cst K w u && csts K ws r) = true from h)
      obtain ⟨v, h3, h4⟩ := cst_ok w u h1
      obtain ⟨vs, h5, h6⟩ := csts_ok ws r h2
      exact ⟨v :: vs, .cons h3 h5, fun io H => ⟨v, vs, rfl, h4 io H, h6 io H⟩⟩
end
end
def consB (cs : List (Str × W)) (K : PySem.W.Frag) : Bool := cs.all fun q => match PySem.W.nsIn K mainGlobals q.1 with
  | some (some u) => cst K q.2 u
  | _ => false
structure Row where
  x : Str
  i : Nat
  fi : Fi
def findR : List Row → Str → Option Row
  | [], _ => none
  | r :: rs, x => if r.x = x then some r else findR rs x
theorem findR_mem {x : Str} : ∀ {rs : List Row} {r : Row}, findR rs x = some r → r ∈ rs ∧ r.x = x
  | [], r, h => by cases h
  | q :: rs, r, h => by
    have h : (if q.x = x then some q else findR rs x) = some r := h
    split at h
    · rename_i e
      cases h
      exact ⟨List.mem_cons_self, e⟩
    · have := findR_mem h
      exact ⟨List.mem_cons_of_mem _ this.1, this.2⟩
def findC {α : Type} : List (Str × α) → Str → Option α
  | [], _ => none
  | r :: rs, x => if r.1 = x then some r.2 else findC rs x
theorem findC_mem {α : Type} {x : Str} {c : α} : ∀ {rs : List (Str × α)}, findC rs x = some c → (x, c) ∈ rs
  | [], h => by cases h
  | q :: rs, h => by
    have h : (if q.1 = x then some q.2 else findC rs x) = some c := h
    split at h
    · rename_i e
      cases h
      subst e
      exact List.mem_cons_self
    · exact List.mem_cons_of_mem _ (findC_mem h)
def tabR (rs : List Row) (x : Str) : Option Fi := (findR rs x).map (·.fi)
def exR (es : List Str) (c : Str) : Bool := es.any fun e => decide (e = c)
def rowD (top : Nat → Stmt) (r : Row) : He.DefD := ⟨(r.x, none), r.x, r.x, defArgs (top r.i), defBody (top r.i), defScope (top r.i), [], []⟩
def factsR (rs : List Row) (es : List Str) (xs : List He.Fa) : List He.Fa := (rs.map fun r => .glo r.x) ++ ((es.map fun c => .glo c) ++ ((es.map fun c => .exc c) ++ ((bltNames.map fun x => .free x) ++ xs)))
def lookB (top : Nat → Stmt) (ds : List Str) (r : Row) : Bool := scopeB r.fi (defScope (top r.i)) && mB r.fi.names (fun x => ds.any fun d => decide (d = x)) (defScope (top r.i)) r.fi.body (defBody (top r.i))
def BindR (top : Nat → Stmt) (r : Row) : Prop := ∀ (kV doc pm : Value) (an : Option Addr) (cdv ct : Value) (us : List Value), us.length = r.fi.ps.length →
  bindArgs (PySem.W.fnOf r.x r.x (defArgs (top r.i)) (defBody (top r.i)) (defScope (top r.i)) .none kV doc pm an cdv ct) ⟨us, []⟩ = pure (r.fi.ps.zip us)
theorem dsR (rs : List Row) (x : Str) : ((rs.map (·.x)).any fun d => decide (d = x)) = (tabR rs x).isSome := by
  induction rs with
  | nil => rfl
  | cons r rs ih =>
    show (decide (r.x = x) || ((rs.map (·.x)).any fun d => decide (d = x))) = ((if r.x = x then some r else findR rs x).map (·.fi)).isSome
    rw [ih]
    by_cases h : r.x = x
    · rw [if_pos h, decide_eq_true h]
      rfl
    · rw [if_neg h, decide_eq_false h]
      rfl
theorem fix_of {top : Nat → Stmt} {rs : List Row} {es : List Str} {xs : List He.Fa} {cs : List (Str × W)} {ts : List He.Tab} {tf : List He.Defn} {ex' : PySem.W.Frag → Bool} {w : World} {h h0 : Heap} {K : PySem.W.Frag} {mg : Str → Option Value}
    (c : He.SaysX (factsR rs es xs) (rs.map (rowD top)) ts tf (fun K => consB cs K && ex' K) w h0 K) (X : K.In h) (G : h.Ns mainGlobals mg)
    (hl : ∀ r ∈ rs, lookB top (rs.map (·.x)) r = true) (hb : ∀ r ∈ rs, BindR top r) : Fix K mg (tabR rs) (findC cs) (exR es) where
  rows := fun x fi hx => by
    unfold tabR at hx
    obtain ⟨r, h1, h2⟩ := Option.map_eq_some_iff.mp hx
    obtain ⟨h3, h4⟩ := findR_mem h1
    subst h2
    obtain ⟨h5, h6⟩ := He.ba (hl r h3)
    have d := c.t.d
    obtain ⟨fd, F⟩ := d.defs (d := rowD top r) (List.mem_map_of_mem h3)
    have g := He.glo_ok X G (d.facts (f := .glo r.x) (List.mem_append_left _ (List.mem_map_of_mem (f := fun r : Row => He.Fa.glo r.x) h3)))
    have F' : FunD K r.x r.x (defArgs (top r.i)) (defBody (top r.i)) (defScope (top r.i)) [] [] (He.ga K r.x) fd := F
    refine ⟨top r.i, ⟨⟨He.ga K r.x, fd, by rw [← h4]; exact g, by rw [← h4]; exact F', FunD.bindsN F' (hb r h3)⟩, h5⟩, ?_⟩
    have e : (fun x => (tabR rs x).isSome) = fun x => (rs.map (·.x)).any fun d => decide (d = x) := funext fun x => (dsR rs x).symm
    rw [e]
    exact h6
  con := fun x k hx => by
    have h1 := findC_mem hx
    have h2 := (He.ba c.more).1
    have h3 := List.all_eq_true.mp h2 _ h1
    have h3 : (match PySem.W.nsIn K mainGlobals x with
      | some (some u) => cst K k u
      | _ => false) = true := h3
    cases e : PySem.W.nsIn K mainGlobals x with
    | none =>
      rw [e] at h3
      cases h3
    | some o =>
      cases o with
      | none =>
        rw [e] at h3
        cases h3
      | some u =>
        rw [e] at h3
        obtain ⟨v, h4, h5⟩ := cst_ok (K := K) (mg := mg) k u h3
        exact ⟨u, v, PySem.W.mg_of X G e, h4, h5⟩
  blt := fun x hx => He.free_ok X G (c.t.d.facts (f := .free x) (List.mem_append_right _ (List.mem_append_right _ (List.mem_append_right _ (List.mem_append_left _ (List.mem_map_of_mem hx))))))
  exc := fun x hx => by
    obtain ⟨e, h1, h2⟩ := List.any_eq_true.mp hx
    have h3 := of_decide_eq_true h2
    subst h3
    exact ⟨He.ga K e, He.glo_ok X G (c.t.d.facts (f := .glo e) (List.mem_append_right _ (List.mem_append_left _ (List.mem_map_of_mem h1)))),
      He.exc_ok (c.t.d.facts (f := .exc e) (List.mem_append_right _ (List.mem_append_right _ (List.mem_append_left _ (List.mem_map_of_mem h1)))))⟩
theorem walk_row {top : Nat → Stmt} {rs : List Row} {es : List Str} {xs : List He.Fa} {cs : List (Str × W)} {ts : List He.Tab} {tf : List He.Defn} {ex' : PySem.W.Frag → Bool}
    {l : PySem.W.OpenLaw} {q : Program} {loose : List Str} {XP : (Str → Option Value) → Heap → Prop} {d : DefRec} {rl : Row} {x : Str} {k : Nat}
    (hn : l.most = some 63) (hdf : d.params.defaults = []) (hr : Room (k + 1) callerA) (hd : d.name = rl.x) (hm : rl ∈ rs) (hps : rl.fi.ps = [x])
    (hl : ∀ r ∈ rs, lookB top (rs.map (·.x)) r = true) (hb : ∀ r ∈ rs, BindR top r) (ht : tabR rs rl.x = some rl.fi)
    (law : ∀ ns : List Int, ns.length ≤ 63 → ∃ s', (gam (tabR rs) (findC cs) (exR es) (k + 1)).call rl.x [.cl (ns.map W.int)] [] = .ok (.bl true) s') :
    PySem.W.WalkO q loose XP (fun w h => ∃ K : PySem.W.Frag, K.In h ∧ He.SaysX (factsR rs es xs) (rs.map (rowD top)) ts tf (fun K => consB cs K && ex' K) w h K) l.row.toRowW d [] (fun f vs => PySem.call f vs) := by
  refine walk_py (n := 63) (k := k + 1) (x := x) hn (by decide) hdf hr fun w mg fa h Y G hmg => ?_
  obtain ⟨K, KX, c⟩ := Y
  have F := fix_of c KX G hl hb
  have hmg : mg rl.x = some (.ref fa) := by rw [← hd]; exact hmg
  have dd := c.t.d
  obtain ⟨fd, FD⟩ := dd.defs (d := rowD top rl) (List.mem_map_of_mem hm)
  have F' : FunD K rl.x rl.x (defArgs (top rl.i)) (defBody (top rl.i)) (defScope (top rl.i)) [] [] (He.ga K rl.x) fd := FD
  obtain ⟨h5, h6⟩ := He.ba (hl rl hm)
  have e : (fun x => (tabR rs x).isSome) = fun x => (rs.map (·.x)).any fun d => decide (d = x) := funext fun x => (dsR rs x).symm
  have ef : fa = He.ga K rl.x := by
    have g := He.glo_ok KX G (dd.facts (f := .glo rl.x) (List.mem_append_left _ (List.mem_map_of_mem (f := fun r : Row => He.Fa.glo r.x) hm)))
    cases hmg.symm.trans g
    rfl
  subst ef
  have hb1 := FunD.bindsA F' (hb rl hm)
  refine ⟨K, fd, spG K mg (gam (tabR rs) (findC cs) (exR es) (k + 1)) rl.x 1, KX, fun s u => ?_, fun H a ns hl' hO hS => ?_, fun base hKb hGb => ?_⟩
  · have := hb1 s [u] (by rw [hps]; rfl)
    rw [hps] at this
    exact this
  · obtain ⟨s', h⟩ := law ns hl'
    exact sp_law hO hS h
  · have := fn_succ (P := l.prog) (w := w) (base := base) (mo_all F k) ht F' h5 (by rw [e]; exact h6)
    rw [hps] at this
    exact this
end Py
namespace Pl
open PySem Py
abbrev QK (α : Type) : Type := α → Sto → Prop
abbrev EK : Type := Str → Sto → Prop
def _root_.Py.R.wp {α : Type} (r : R α) (Q : QK α) (Z : EK) : Prop := match r with
  | .ok a s => Q a s
  | .exc c s => Z c s
  | .bad => False
section
variable {α β : Type} {Q Q' : QK α} {Z Z' : EK} {r : R α} {s : Sto} {g : G} {e : Sl}
@[simp] theorem wp_ok {a : α} : (R.ok a s).wp Q Z = Q a s := rfl
@[simp] theorem wp_exc {c : Str} : (R.exc c s).wp Q Z = Z c s := rfl
@[simp] theorem wp_bad : (R.bad : R α).wp Q Z = False := rfl
theorem wp_bind {f : α → Sto → R β} {Q : QK β} : (r.bind f).wp Q Z = r.wp (fun a s => (f a s).wp Q Z) Z := by cases r <;> rfl
theorem _root_.Py.R.wp.imp (h : r.wp Q Z) (i : ∀ a s, Q a s → Q' a s) (j : ∀ c s, Z c s → Z' c s) : r.wp Q' Z' := by
  cases r with
  | ok a s => exact i a s h
  | exc c s => exact j c s h
  | bad => exact h
theorem _root_.Py.R.wp.mono (h : r.wp Q Z) (i : ∀ a s, Q a s → Q' a s) : r.wp Q' Z := h.imp i fun _ _ h => h
theorem wp_of_eq {a : α} {s' : Sto} (h : r = .ok a s') (q : Q a s') : r.wp Q Z := by rw [h]; exact q
theorem wp_end {Q : QK W} (h : ∀ {v s'}, Q v s' → v = .bl true) {r : R W} (w : r.wp Q (fun _ _ => False)) : ∃ s', r = .ok (.bl true) s' := by
  cases r with
  | ok a s => exact ⟨s, by rw [h w]⟩
  | exc c s => exact w.elim
  | bad => exact w.elim
theorem wp_noex (h : r.wp Q (fun _ _ => False)) : (R.noex r).wp Q Z := by
  cases r with
  | ok a s => exact h
  | exc c s => exact h.elim
  | bad => exact h.elim
end
section
variable {Q : QK W} {Z : EK} {s : Sto} {g : G} {e : Sl}
theorem e_var {i : Nat} {w : W} (h : e[i]? = some (some w)) (q : Q w s) : (ev g (.var i) e s).wp Q Z := by
  rw [ev, rslot, h]; exact q
theorem e_con {x : Str} {w : W} (h : g.con x = some w) (q : Q w s) : (ev g (.con x) e s).wp Q Z := by
  rw [ev, h]; exact q
theorem e_fref {x : Str} (h : g.df x = true) (q : Q (.fn x) s) : (ev g (.fref x) e s).wp Q Z := by
  rw [ev, if_pos h]; exact q
theorem e_int {i : Int} (q : Q (.int i) s) : (ev g (.int i) e s).wp Q Z := by rw [ev]; exact q
theorem e_bl {i : Bool} (q : Q (.bl i) s) : (ev g (.bl i) e s).wp Q Z := by rw [ev]; exact q
theorem e_non (q : Q .non s) : (ev g .non e s).wp Q Z := by rw [ev]; exact q
theorem e_str {i : Str} (q : Q (.str i) s) : (ev g (.str i) e s).wp Q Z := by rw [ev]; exact q
theorem e_bin {op : Bop} {a b : E} (q : (ev g a e s).wp (fun w s1 => (ev g b e s1).wp (fun u s2 => (bop op w u s2).wp Q Z) Z) Z) : (ev g (.bin op a b) e s).wp Q Z := by
  rw [ev, wp_bind]; simp only [wp_bind]; exact q
theorem e_neg {a : E} (q : (ev g a e s).wp (fun w s1 => (negW w s1).wp Q Z) Z) : (ev g (.neg a) e s).wp Q Z := by
  rw [ev, wp_bind]; exact q
theorem e_no {a : E} (q : (ev g a e s).wp (fun w s1 => ∃ b, w = .bl b ∧ Q (.bl (!b)) s1) Z) : (ev g (.no a) e s).wp Q Z := by
  rw [ev, wp_bind]
  refine q.mono fun w s1 h => ?_
  obtain ⟨b, rfl, h⟩ := h
  exact h
theorem e_cmp {op : Cop} {a b : E} (q : (ev g a e s).wp (fun w s1 => (ev g b e s1).wp (fun u s2 => (cop op w u s2).wp Q Z) Z) Z) : (ev g (.cmp op a b) e s).wp Q Z := by
  rw [ev, wp_bind]; simp only [wp_bind]; exact q
theorem e_chain {op op' : Cop} {a b c : E} (q : (ev g a e s).wp (fun w s1 => (ev g b e s1).wp (fun u s2 => (cop op w u s2).wp (fun z s3 => ∃ k, z = .bl k ∧ (k = true → (ev g c e s3).wp (fun v s4 => (cop op' u v s4).wp Q Z) Z) ∧ (k = false → Q (.bl false) s3)) Z) Z) Z) : (ev g (.chain op op' a b c) e s).wp Q Z := by
  rw [ev, wp_bind]; simp only [wp_bind]
  refine q.mono fun w s1 h => h.mono fun u s2 h => h.mono fun z s3 h => ?_
  obtain ⟨k, rfl, h1, h2⟩ := h
  cases k with
  | true => show ((ev g c e s3).bind fun v s4 => cop op' u v s4).wp Q Z; rw [wp_bind]; exact h1 rfl
  | false => exact h2 rfl
theorem e_and {a b : E} (q : (ev g a e s).wp (fun w s1 => ∃ k, w = .bl k ∧ (k = true → (ev g b e s1).wp Q Z) ∧ (k = false → Q (.bl false) s1)) Z) : (ev g (.and a b) e s).wp Q Z := by
  rw [ev, wp_bind]
  refine q.mono fun w s1 h => ?_
  obtain ⟨k, rfl, h1, h2⟩ := h
  cases k with
  | true => exact h1 rfl
  | false => exact h2 rfl
theorem e_or {a b : E} (q : (ev g a e s).wp (fun w s1 => ∃ k, w = .bl k ∧ (k = true → Q (.bl true) s1) ∧ (k = false → (ev g b e s1).wp Q Z)) Z) : (ev g (.or a b) e s).wp Q Z := by
  rw [ev, wp_bind]
  refine q.mono fun w s1 h => ?_
  obtain ⟨k, rfl, h1, h2⟩ := h
  cases k with
  | true => exact h1 rfl
  | false => exact h2 rfl
theorem e_one {a : E} (q : (ev g a e s).wp Q Z) : (ev g (.one a) e s).wp Q Z := by rw [ev]; exact q
theorem e_ite {c a b : E} (q : (evT g c e s).wp (fun k s1 => (k = true → (ev g a e s1).wp Q Z) ∧ (k = false → (ev g b e s1).wp Q Z)) Z) : (ev g (.ite c a b) e s).wp Q Z := by
  rw [ev, wp_bind]
  refine q.mono fun k s1 h => ?_
  cases k with
  | true => exact h.1 rfl
  | false => exact h.2 rfl
theorem e_tup {as : E} (q : (evs g as e s).wp (fun ws s1 => ws.length ≤ sizeLine ∧ Q (.tup ws) s1) Z) : (ev g (.tup as) e s).wp Q Z := by
  rw [ev, wp_bind]
  refine q.mono fun ws s1 h => ?_
  rw [if_pos h.1]; exact h.2
theorem e_lst {as : E} (q : (evs g as e s).wp (fun ws s1 => ws.length ≤ sizeLine ∧ Q (.loc s1.length) (s1 ++ [ws])) Z) : (ev g (.lst as) e s).wp Q Z := by
  rw [ev, wp_bind]
  refine q.mono fun ws s1 h => ?_
  rw [if_pos h.1]; exact h.2
theorem e_ix {a b : E} (q : (ev g a e s).wp (fun w s1 => (ev g b e s1).wp (fun u s2 => (ixW w u s2).wp Q Z) Z) Z) : (ev g (.ix a b) e s).wp Q Z := by
  rw [ev, wp_bind]; simp only [wp_bind]; exact q
theorem e_sl {a lo hi : E} (q : (ev g a e s).wp (fun w s1 => (evO g lo e s1).wp (fun l s2 => (evO g hi e s2).wp (fun h s3 => (slW w l h s3).wp Q Z) Z) Z) Z) : (ev g (.sl a lo hi) e s).wp Q Z := by
  rw [ev, wp_bind]; simp only [wp_bind]; exact q
theorem e_rv {a : E} (q : (ev g a e s).wp (fun w s1 => ∃ ws, lsq w s1 = some ws ∧ Q (.loc s1.length) (s1 ++ [ws.reverse])) Z) : (ev g (.rv a) e s).wp Q Z := by
  rw [ev, wp_bind]
  refine q.mono fun w s1 h => ?_
  obtain ⟨ws, h1, h2⟩ := h
  rw [h1]; exact h2
theorem e_call {x : Str} {as : E} (q : (evs g as e s).wp (fun ws s1 => (g.call x ws s1).wp Q Z) Z) : (ev g (.call x as) e s).wp Q Z := by
  rw [ev, wp_bind]; exact q
theorem e_callv {i : Nat} {x : Str} {as : E} (h : e[i]? = some (some (.fn x))) (d : g.df x = true) (q : (evs g as e s).wp (fun ws s1 => (g.call x ws s1).wp Q Z) Z) : (ev g (.callv i as) e s).wp Q Z := by
  rw [ev, h]
  show (if g.df x then (evs g as e s).bind fun ws s1 => g.call x ws s1 else .bad).wp Q Z
  rw [if_pos d, wp_bind]; exact q
theorem e_bi {f : Bi} {as : E} (q : (evs g as e s).wp (fun ws s1 => (biW f ws s1).wp Q Z) Z) : (ev g (.bi f as) e s).wp Q Z := by
  rw [ev, wp_bind]; exact q
theorem e_mt {m : Mt} {o as : E} (q : (ev g o e s).wp (fun w s1 => isLoc w s1 = true ∧ (evs g as e s1).wp (fun ws s2 => (mtW m w ws s2).wp Q Z) Z) Z) : (ev g (.mt m o as) e s).wp Q Z := by
  rw [ev, wp_bind]
  refine q.mono fun w s1 h => ?_
  rw [if_pos h.1, wp_bind]; exact h.2
theorem e_isi {a : E} {t : Ty} (q : (ev g a e s).wp (fun w s1 => ∃ b, isiW t w = some b ∧ Q (.bl b) s1) Z) : (ev g (.isi a t) e s).wp Q Z := by
  rw [ev, wp_bind]
  refine q.mono fun w s1 h => ?_
  obtain ⟨b, h1, h2⟩ := h
  rw [h1]; exact h2
def compF (g : G) (own : List (Str × Nat)) (tg : Tn) (cond elt : E) (e : Sl) (w : W) (s2 : Sto) : R (Option W) := match tnSet tg w (wipeS e (own.map Prod.snd)) with
  | none => R.bad
  | some e' => (evT g cond e' s2).bind fun k s3 => if k then (ev g elt e' s3).bind fun v s4 => R.ok (some v) s4 else R.ok none s3
theorem e_comp {own : List (Str × Nat)} {tg : Tn} {k : Ik} {as cond elt : E} (q : (evs g as e s).wp (fun ws s1 => ∃ src, srcOf k ws s1 = some src ∧ (compL (fun w s2 => R.noex (compF g own tg cond elt e w s2)) big src 0 [] s1).wp (fun acc s2 => Q (.loc s2.length) (s2 ++ [acc])) Z) Z) :
    (ev g (.comp own tg k as cond elt) e s).wp Q Z := by
  rw [ev, wp_bind]
  refine q.mono fun ws s1 h => ?_
  obtain ⟨src, h1, h2⟩ := h
  rw [h1]
  show ((compL (fun w s2 => R.noex (compF g own tg cond elt e w s2)) big src 0 [] s1).bind fun acc s2 => alloc acc s2).wp Q Z
  rw [wp_bind]
  exact h2
theorem compF_wp {own : List (Str × Nat)} {tg : Tn} {cond elt : E} {w : W} {e' : Sl} {Q : QK (Option W)} (h : tnSet tg w (wipeS e (own.map Prod.snd)) = some e')
    (q : (evT g cond e' s).wp (fun k s1 => (k = true → (ev g elt e' s1).wp (fun v s2 => Q (some v) s2) fun _ _ => False) ∧ (k = false → Q none s1)) fun _ _ => False) : (R.noex (compF g own tg cond elt e w s)).wp Q Z := by
  refine wp_noex ?_
  unfold compF
  rw [h]
  show ((evT g cond e' s).bind _).wp Q _
  rw [wp_bind]
  refine q.mono fun k s1 h => ?_
  cases k with
  | true =>
    show ((ev g elt e' s1).bind _).wp Q _
    rw [wp_bind]
    exact h.1 rfl
  | false => exact h.2 rfl
end
section
variable {Q : QK (List W)} {Z : EK} {s : Sto} {g : G} {e : Sl}
theorem es_nil (q : Q [] s) : (evs g .nil e s).wp Q Z := by rw [evs]; exact q
theorem es_cons {a as : E} (q : (ev g a e s).wp (fun w s1 => (evs g as e s1).wp (fun ws s2 => Q (w :: ws) s2) Z) Z) : (evs g (.cons a as) e s).wp Q Z := by
  rw [evs, wp_bind]; simp only [wp_bind]; exact q
end
section
variable {Q : QK (Option Int)} {Z : EK} {s : Sto} {g : G} {e : Sl}
theorem eo_nil (q : Q none s) : (evO g .nil e s).wp Q Z := by rw [evO]; exact q
theorem eo_one {a : E} (q : (ev g a e s).wp (fun w s1 => ∃ i, w = .int i ∧ Q (some i) s1) Z) : (evO g (.one a) e s).wp Q Z := by
  rw [evO, wp_bind]
  refine q.mono fun w s1 h => ?_
  obtain ⟨i, rfl, h⟩ := h
  exact h
end
section
variable {Q : QK Bool} {Z : EK} {s : Sto} {g : G} {e : Sl}
theorem t_and {a b : E} (q : (evT g a e s).wp (fun k s1 => (k = true → (evT g b e s1).wp Q Z) ∧ (k = false → Q false s1)) Z) : (evT g (.and a b) e s).wp Q Z := by
  rw [evT, wp_bind]
  refine q.mono fun k s1 h => ?_
  cases k with
  | true => exact h.1 rfl
  | false => exact h.2 rfl
theorem t_or {a b : E} (q : (evT g a e s).wp (fun k s1 => (k = true → Q true s1) ∧ (k = false → (evT g b e s1).wp Q Z)) Z) : (evT g (.or a b) e s).wp Q Z := by
  rw [evT, wp_bind]
  refine q.mono fun k s1 h => ?_
  cases k with
  | true => exact h.1 rfl
  | false => exact h.2 rfl
theorem t_no {a : E} (q : (evT g a e s).wp (fun k s1 => Q (!k) s1) Z) : (evT g (.no a) e s).wp Q Z := by
  rw [evT, wp_bind]; exact q
theorem t_one {a : E} (q : (evT g a e s).wp Q Z) : (evT g (.one a) e s).wp Q Z := by rw [evT]; exact q
theorem t_nil (q : Q true s) : (evT g .nil e s).wp Q Z := by rw [evT]; exact q
def bQ (Q : QK Bool) : QK W := fun z s => ∃ b, z = .bl b ∧ Q b s
theorem toB_wp {z : W} (h : bQ Q z s) : (toB z s).wp Q Z := by
  obtain ⟨b, rfl, h⟩ := h
  exact h
theorem t_cmp {op : Cop} {a b : E} (q : (ev g a e s).wp (fun w s1 => (ev g b e s1).wp (fun u s2 => (cop op w u s2).wp (bQ Q) Z) Z) Z) : (evT g (.cmp op a b) e s).wp Q Z := by
  rw [evT, wp_bind]; simp only [wp_bind]
  exact q.mono fun w s1 h => h.mono fun u s2 h => h.mono fun z s3 h => toB_wp h
theorem t_chain {op op' : Cop} {a b c : E} (q : (ev g a e s).wp (fun w s1 => (ev g b e s1).wp (fun u s2 => (cop op w u s2).wp (bQ fun k s3 => (k = true → (ev g c e s3).wp (fun v s4 => (cop op' u v s4).wp (bQ Q) Z) Z) ∧ (k = false → Q false s3)) Z) Z) Z) : (evT g (.chain op op' a b c) e s).wp Q Z := by
  rw [evT, wp_bind]; simp only [wp_bind]
  refine q.mono fun w s1 h => h.mono fun u s2 h => h.mono fun z s3 h => ?_
  obtain ⟨k, rfl, h1, h2⟩ := h
  cases k with
  | true =>
    show ((ev g c e s3).bind fun v s4 => (cop op' u v s4).bind fun z s5 => toB z s5).wp Q Z
    rw [wp_bind]
    refine (h1 rfl).mono fun v s4 h => ?_
    rw [wp_bind]
    exact h.mono fun z s5 h => toB_wp h
  | false => exact h2 rfl
theorem t_var {i : Nat} {w : W} {b : Bool} (h : e[i]? = some (some w)) (t : truW w s = some b) (q : Q b s) : (evT g (.var i) e s).wp Q Z := by
  rw [evT, rslot, h]
  show (toT w s).wp Q Z
  unfold toT
  rw [t]; exact q
def tQ (Q : QK Bool) : QK W := fun w s => ∃ b, truW w s = some b ∧ Q b s
theorem toT_wp {z : W} (h : tQ Q z s) : (toT z s).wp Q Z := by
  obtain ⟨b, h1, h⟩ := h
  unfold toT
  rw [h1]
  exact h
theorem t_call {x : Str} {as : E} (q : (evs g as e s).wp (fun ws s1 => (g.call x ws s1).wp (tQ Q) Z) Z) : (evT g (.call x as) e s).wp Q Z := by
  rw [evT, wp_bind]; simp only [wp_bind]
  exact q.mono fun w s1 h => h.mono fun z s3 h => toT_wp h
theorem t_bi {f : Bi} {as : E} (q : (evs g as e s).wp (fun ws s1 => (biW f ws s1).wp (tQ Q) Z) Z) : (evT g (.bi f as) e s).wp Q Z := by
  rw [evT, wp_bind]; simp only [wp_bind]
  exact q.mono fun w s1 h => h.mono fun z s3 h => toT_wp h
theorem t_isi {a : E} {t : Ty} (q : (ev g a e s).wp (fun w s1 => ∃ b, isiW t w = some b ∧ Q b s1) Z) : (evT g (.isi a t) e s).wp Q Z := by
  rw [evT, wp_bind]; simp only [wp_bind]
  refine q.mono fun w s1 h => ?_
  obtain ⟨b, h1, h2⟩ := h
  rw [h1]; exact h2
end
section
variable {Q : QK Fl} {Z : EK} {s : Sto} {g : G} {e : Sl}
def nxQ (g : G) (k : B) (Q : QK Fl) (Z : EK) : QK Fl := fun fl s => match fl with
  | .nx e => (exS g k e s).wp Q Z
  | f => Q f s
theorem thn_wp {r : R Fl} {k : B} (h : r.wp (nxQ g k Q Z) Z) : (thn r (exS g k)).wp Q Z := by
  unfold thn
  rw [wp_bind]
  refine h.mono fun fl s h => ?_
  cases fl <;> exact h
theorem nx_nx {k : B} (q : (exS g k e s).wp Q Z) : nxQ g k Q Z (.nx e) s := q
theorem nx_rt {k : B} {w : W} (q : Q (.rt w) s) : nxQ g k Q Z (.rt w) s := q
theorem nx_bk {k : B} (q : Q (.bk e) s) : nxQ g k Q Z (.bk e) s := q
theorem nx_ct {k : B} (q : Q (.ct e) s) : nxQ g k Q Z (.ct e) s := q
theorem x_done (q : Q (.nx e) s) : (exS g .done e s).wp Q Z := by rw [exS]; exact q
theorem x_set {i : Nat} {v : E} {k : B} (q : (ev g v e s).wp (fun w s1 => (exS g k (e.set i (some w)) s1).wp Q Z) Z) : (exS g (.asg (.name i) v k) e s).wp Q Z := by
  rw [exS, wp_bind]
  refine q.mono fun w s1 h => ?_
  rw [asg]
  exact h
theorem x_asg {t : Ta} {v : E} {k : B} (q : (ev g v e s).wp (fun w s1 => (asg g t w e s1).wp (fun e1 s2 => (exS g k e1 s2).wp Q Z) Z) Z) : (exS g (.asg t v k) e s).wp Q Z := by
  rw [exS, wp_bind]
  refine q.mono fun w s1 h => ?_
  rw [wp_bind]
  exact h
theorem x_par2 {i j : Nat} {a b : E} {k : B} (q : (ev g a e s).wp (fun w s1 => (ev g b e s1).wp (fun u s2 => (exS g k ((e.set i (some w)).set j (some u)) s2).wp Q Z) Z) Z) : (exS g (.par2 i j a b k) e s).wp Q Z := by
  rw [exS, wp_bind]; simp only [wp_bind]; exact q
theorem x_par3 {i j l : Nat} {a b c : E} {k : B} (q : (ev g a e s).wp (fun w s1 => (ev g b e s1).wp (fun u s2 => (ev g c e s2).wp (fun v s3 => (exS g k (((e.set i (some w)).set j (some u)).set l (some v)) s3).wp Q Z) Z) Z) Z) : (exS g (.par3 i j l a b c k) e s).wp Q Z := by
  rw [exS, wp_bind]; simp only [wp_bind]; exact q
theorem x_add {i : Nat} {x : Int} {v : E} {k : B} (h : e[i]? = some (some (.int x))) (q : (ev g v e s).wp (fun u s1 => ∃ y, u = .int y ∧ (exS g k (e.set i (some (.int (x + y)))) s1).wp Q Z) Z) : (exS g (.aug i .add v k) e s).wp Q Z := by
  rw [exS, rslot, h]
  show ((ev g v e s).bind _).wp Q Z
  rw [wp_bind]
  refine q.mono fun u s1 h => ?_
  obtain ⟨y, rfl, h⟩ := h
  exact h
theorem x_sub {i : Nat} {x : Int} {v : E} {k : B} (h : e[i]? = some (some (.int x))) (q : (ev g v e s).wp (fun u s1 => ∃ y, u = .int y ∧ (exS g k (e.set i (some (.int (x - y)))) s1).wp Q Z) Z) : (exS g (.aug i .sub v k) e s).wp Q Z := by
  rw [exS, rslot, h]
  show ((ev g v e s).bind _).wp Q Z
  rw [wp_bind]
  refine q.mono fun u s1 h => ?_
  obtain ⟨y, rfl, h⟩ := h
  exact h
theorem x_ite {c : E} {t f k : B} (q : (evT g c e s).wp (fun b s1 => (b = true → (exS g t e s1).wp (nxQ g k Q Z) Z) ∧ (b = false → (exS g f e s1).wp (nxQ g k Q Z) Z)) Z) : (exS g (.ite c t f k) e s).wp Q Z := by
  rw [exS, wp_bind]
  refine q.mono fun b s1 h => thn_wp ?_
  cases b with
  | true => exact h.1 rfl
  | false => exact h.2 rfl
theorem x_whl {c : E} {b k : B} (q : (whileL (evT g c) (exS g b) big e s).wp (nxQ g k Q Z) Z) : (exS g (.whl c b k) e s).wp Q Z := by
  rw [exS]; exact thn_wp q
def forF (g : G) (t : Tn) (b : B) (w : W) (e : Sl) (s : Sto) : R Fl := match tnSet t w e with
  | none => .bad
  | some e' => exS g b e' s
theorem x_for {t : Tn} {ik : Ik} {as : E} {b k : B} (q : (evs g as e s).wp (fun ws s1 => ∃ src, srcOf ik ws s1 = some src ∧ (forL (forF g t b) big src 0 e s1).wp (nxQ g k Q Z) Z) Z) : (exS g (.for_ t ik as b k) e s).wp Q Z := by
  rw [exS, wp_bind]
  refine q.mono fun ws s1 h => ?_
  obtain ⟨src, h1, h2⟩ := h
  rw [h1]
  exact thn_wp h2
theorem x_ret {v : E} {k : B} (q : (ev g v e s).wp (fun w s1 => Q (.rt w) s1) Z) : (exS g (.ret v k) e s).wp Q Z := by
  rw [exS, wp_bind]; exact q
theorem x_retn {k : B} (q : Q (.rt .non) s) : (exS g (.retn k) e s).wp Q Z := by rw [exS]; exact q
theorem x_brk {k : B} (q : Q (.bk e) s) : (exS g (.brk k) e s).wp Q Z := by rw [exS]; exact q
theorem x_ct {k : B} (q : Q (.ct e) s) : (exS g (.ct k) e s).wp Q Z := by rw [exS]; exact q
theorem x_pass {k : B} (q : (exS g k e s).wp Q Z) : (exS g (.pass k) e s).wp Q Z := by rw [exS]; exact q
theorem x_exp {v : E} {k : B} (q : (ev g v e s).wp (fun _ s1 => (exS g k e s1).wp Q Z) Z) : (exS g (.exp v k) e s).wp Q Z := by
  rw [exS, wp_bind]; exact q
theorem x_raise {c : Str} {k : B} (h : g.ex c = true) (q : Z c s) : (exS g (.raise c k) e s).wp Q Z := by
  rw [exS, if_pos h]; exact q
def lpQ (I : Sl → Sto → Prop) (Q : QK Fl) : QK Fl := fun fl s => match fl with
  | .nx e => I e s
  | .ct e => I e s
  | .bk e => Q (.nx e) s
  | .rt w => Q (.rt w) s
theorem lp_nx {I : Sl → Sto → Prop} (h : I e s) : lpQ I Q (.nx e) s := h
theorem lp_ct {I : Sl → Sto → Prop} (h : I e s) : lpQ I Q (.ct e) s := h
theorem lp_bk {I : Sl → Sto → Prop} (h : Q (.nx e) s) : lpQ I Q (.bk e) s := h
theorem lp_rt {I : Sl → Sto → Prop} {w : W} (h : Q (.rt w) s) : lpQ I Q (.rt w) s := h
theorem for_wp {f : W → Sl → Sto → R Fl} {src : Src} (n : Nat) (I : Nat → Sl → Sto → Prop)
    (step : ∀ i e s, i < n → I i e s → ∃ w, itAt src i s = some (some w) ∧ (f w e s).wp (lpQ (I (i + 1)) Q) Z)
    (fin : ∀ e s, I n e s → itAt src n s = some none ∧ Q (.nx e) s) :
    ∀ (N i : Nat) (e : Sl) (s : Sto), i ≤ n → n - i < N → I i e s → (forL f N src i e s).wp Q Z := by
  intro N
  induction N with
  | zero => intro i e s _ h; omega
  | succ N ih =>
    intro i e s hi hN h
    unfold forL
    rcases Nat.lt_or_eq_of_le hi with lt | rfl
    · obtain ⟨w, h1, h2⟩ := step i e s lt h
      rw [h1]
      show ((f w e s).bind _).wp Q Z
      rw [wp_bind]
      refine h2.mono fun fl s2 h3 => ?_
      cases fl with
      | nx e' => exact ih (i + 1) e' s2 (by omega) (by omega) h3
      | ct e' => exact ih (i + 1) e' s2 (by omega) (by omega) h3
      | bk e' => exact h3
      | rt w => exact h3
    · obtain ⟨h1, h2⟩ := fin e s h
      rw [h1]
      exact h2
theorem while_wp {c : Sl → Sto → R Bool} {b : Sl → Sto → R Fl} (I : Nat → Sl → Sto → Prop)
    (step : ∀ m e s, I m e s → (c e s).wp (fun t s1 => (t = true → (b e s1).wp (lpQ (fun e' s' => ∃ m', m' < m ∧ I m' e' s') Q) Z) ∧ (t = false → Q (.nx e) s1)) Z) :
    ∀ (N m : Nat) (e : Sl) (s : Sto), m < N → I m e s → (whileL c b N e s).wp Q Z := by
  intro N
  induction N with
  | zero => intro m e s h; omega
  | succ N ih =>
    intro m e s hN h
    unfold whileL
    rw [wp_bind]
    refine (step m e s h).mono fun t s1 h1 => ?_
    cases t with
    | false => exact h1.2 rfl
    | true =>
      show ((b e s1).bind _).wp Q Z
      rw [wp_bind]
      refine (h1.1 rfl).mono fun fl s2 h3 => ?_
      cases fl with
      | nx e' =>
        obtain ⟨m', lt, h4⟩ := h3
        exact ih m' e' s2 (by omega) h4
      | ct e' =>
        obtain ⟨m', lt, h4⟩ := h3
        exact ih m' e' s2 (by omega) h4
      | bk e' => exact h3
      | rt w => exact h3
end
theorem comp_wp {Q : QK (List W)} {Z : EK} {f : W → Sto → R (Option W)} {src : Src} (n : Nat) (I : Nat → List W → Sto → Prop)
    (step : ∀ i acc s, i < n → I i acc s → ∃ w, itAt src i s = some (some w) ∧ acc.length ≤ i ∧ (f w s).wp (fun o s' => match o with
      | some v => I (i + 1) (acc ++ [v]) s'
      | none => I (i + 1) acc s') Z)
    (fin : ∀ acc s, I n acc s → itAt src n s = some none ∧ Q acc s) (hn : n ≤ sizeLine) :
    ∀ (N i : Nat) (acc : List W) (s : Sto), i ≤ n → n - i < N → I i acc s → (compL f N src i acc s).wp Q Z := by
  intro N
  induction N with
  | zero => intro i e s _ h; omega
  | succ N ih =>
    intro i acc s hi hN h
    unfold compL
    rcases Nat.lt_or_eq_of_le hi with lt | rfl
    · obtain ⟨w, h1, hl, h2⟩ := step i acc s lt h
      rw [h1]
      show ((f w s).bind _).wp Q Z
      rw [wp_bind]
      refine h2.mono fun o s2 h3 => ?_
      cases o with
      | some v =>
        show (if acc.length < sizeLine then compL f N src (i + 1) (acc ++ [v]) s2 else .bad).wp Q Z
        rw [if_pos (by omega)]
        exact ih (i + 1) _ s2 (by omega) (by omega) h3
      | none => exact ih (i + 1) _ s2 (by omega) (by omega) h3
    · obtain ⟨h1, h2⟩ := fin acc s h
      rw [h1]
      exact h2
def fnQ (Q : QK W) : QK Fl := fun fl s => match fl with
  | .nx _ => Q .non s
  | .rt w => Q w s
  | _ => False
theorem fn_nx {Q : QK W} {e : Sl} {s : Sto} (h : Q .non s) : fnQ Q (.nx e) s := h
theorem fn_rt {Q : QK W} {w : W} {s : Sto} (h : Q w s) : fnQ Q (.rt w) s := h
theorem call_wp {T : Str → Option Fi} {C : Str → Option W} {X : Str → Bool} {k : Nat} {x : Str} {fi : Fi} {ws : List W} {s : Sto} {Q : QK W} {Z : EK} (h : T x = some fi) (hl : ws.length = fi.ps.length)
    (q : (exS (gam T C X k) fi.body (ws.map some ++ List.replicate (fi.names.length - ws.length) none) s).wp (fnQ Q) Z) : ((gam T C X (k + 1)).call x ws s).wp Q Z := by
  show (match T x with
    | some fi => evF (gam T C X k) fi ws s
    | none => .bad : R W).wp Q Z
  rw [h]
  show (evF (gam T C X k) fi ws s).wp Q Z
  unfold evF
  rw [if_pos hl, wp_bind]
  refine q.mono fun fl s1 h => ?_
  cases fl <;> exact h
end Pl
namespace Pl
open PySem Py
section
variable {Q : QK W} {Z : EK} {s : Sto}
theorem o_add {i j : Int} (q : Q (.int (i + j)) s) : (bop .add (.int i) (.int j) s).wp Q Z := q
theorem o_sub {i j : Int} (q : Q (.int (i - j)) s) : (bop .sub (.int i) (.int j) s).wp Q Z := q
theorem o_mul {i j : Int} (h : bitsOk i j = true) (q : Q (.int (i * j)) s) : (bop .mul (.int i) (.int j) s).wp Q Z := by
  show (if bitsOk i j then R.ok (.int (i * j)) s else .bad : R W).wp Q Z
  rw [if_pos h]; exact q
theorem o_div {i j : Int} (h : divOk j = true) (q : Q (.int (i.fdiv j)) s) : (bop .fdiv (.int i) (.int j) s).wp Q Z := by
  show (if divOk j then R.ok (.int (i.fdiv j)) s else .bad : R W).wp Q Z
  rw [if_pos h]; exact q
theorem o_mod {i j : Int} (h : j ≠ 0) (q : Q (.int (i.fmod j)) s) : (bop .mod (.int i) (.int j) s).wp Q Z := by
  show (if j ≠ 0 then R.ok (.int (i.fmod j)) s else .bad : R W).wp Q Z
  rw [if_pos h]; exact q
theorem o_pow {i j : Int} (h : powOk i j = true) (q : Q (.int (i ^ j.toNat)) s) : (bop .pow (.int i) (.int j) s).wp Q Z := by
  show (if powOk i j then R.ok (.int (i ^ j.toNat)) s else .bad : R W).wp Q Z
  rw [if_pos h]; exact q
theorem o_adb {i : Int} {b : Bool} (q : Q (.int (i + PyProof.Rows.b2i b)) s) : (bop .add (.int i) (.bl b) s).wp Q Z := q
theorem o_cat {a b : Nat} {xs ys : List W} (h : s[a]? = some xs) (h' : s[b]? = some ys) (l : xs.length + ys.length ≤ sizeLine) (q : Q (.loc s.length) (s ++ [xs ++ ys])) : (bop .add (.loc a) (.loc b) s).wp Q Z := by
  show (match s[a]?, s[b]? with
    | some xs, some ys => if xs.length + ys.length ≤ sizeLine then alloc (xs ++ ys) s else .bad
    | _, _ => .bad : R W).wp Q Z
  rw [h, h']
  show (if xs.length + ys.length ≤ sizeLine then alloc (xs ++ ys) s else .bad : R W).wp Q Z
  rw [if_pos l]; exact q
theorem o_rep {a : Nat} {k : Int} {xs : List W} (h : s[a]? = some xs) (h1 : -(2 ^ 63) ≤ k ∧ k < 2 ^ 63) (l : xs.length * k.toNat ≤ sizeLine) (q : Q (.loc s.length) (s ++ [(List.replicate k.toNat xs).flatten])) : (bop .mul (.loc a) (.int k) s).wp Q Z := by
  show (match s[a]? with
    | some xs => if -(2 ^ 63) ≤ k ∧ k < 2 ^ 63 ∧ xs.length * k.toNat ≤ sizeLine then alloc (List.replicate k.toNat xs).flatten s else .bad
    | none => .bad : R W).wp Q Z
  rw [h]
  show (if -(2 ^ 63) ≤ k ∧ k < 2 ^ 63 ∧ xs.length * k.toNat ≤ sizeLine then alloc (List.replicate k.toNat xs).flatten s else .bad : R W).wp Q Z
  rw [if_pos ⟨h1.1, h1.2, l⟩]; exact q
theorem o_neg {i : Int} (q : Q (.int (-i)) s) : (negW (.int i) s).wp Q Z := q
theorem o_lt {i j : Int} (q : Q (.bl (decide (i < j))) s) : (cop .lt (.int i) (.int j) s).wp Q Z := q
theorem o_le {i j : Int} (q : Q (.bl (decide (i ≤ j))) s) : (cop .le (.int i) (.int j) s).wp Q Z := q
theorem o_gt {i j : Int} (q : Q (.bl (decide (j < i))) s) : (cop .gt (.int i) (.int j) s).wp Q Z := q
theorem o_ge {i j : Int} (q : Q (.bl (decide (j ≤ i))) s) : (cop .ge (.int i) (.int j) s).wp Q Z := q
theorem o_eqi {i j : Int} (q : Q (.bl (decide (i = j))) s) : (cop .eq (.int i) (.int j) s).wp Q Z := q
theorem o_nei {i j : Int} (q : Q (.bl (!decide (i = j))) s) : (cop .ne (.int i) (.int j) s).wp Q Z := q
theorem o_eq {a b : W} {k : Bool} (h : eqW a b s = some k) (q : Q (.bl k) s) : (cop .eq a b s).wp Q Z := by
  show (ob (eqW a b s) s).wp Q Z
  rw [h]; exact q
theorem o_ne {a b : W} {k : Bool} (h : eqW a b s = some k) (q : Q (.bl (!k)) s) : (cop .ne a b s).wp Q Z := by
  show (ob ((eqW a b s).map (!·)) s).wp Q Z
  rw [h]; exact q
theorem o_isN {a : W} (q : Q (.bl (isNon a)) s) : (cop .isN a .non s).wp Q Z := by cases a <;> exact q
theorem o_notN {a : W} (q : Q (.bl (!isNon a)) s) : (cop .notN a .non s).wp Q Z := by cases a <;> exact q
theorem o_isB {a b : Bool} (q : Q (.bl (decide (a = b))) s) : (cop .isB (.bl a) (.bl b) s).wp Q Z := q
theorem o_notB {a b : Bool} (q : Q (.bl (!decide (a = b))) s) : (cop .notB (.bl a) (.bl b) s).wp Q Z := q
theorem o_ixt {ws : List W} {i : Int} {w : W} (h : atW ws i = some w) (q : Q w s) : (ixW (.tup ws) (.int i) s).wp Q Z := by
  show (match atW ws i with
    | some w => R.ok w s
    | none => .bad : R W).wp Q Z
  rw [h]; exact q
theorem o_ix {w u : W} {ws : List W} {i : Int} (hl : lsq w s = some ws) (h : atW ws i = some u) (q : Q u s) : (ixW w (.int i) s).wp Q Z := by
  have : ixW w (.int i) s = .ok u s := by
    cases w with
    | loc n =>
      show (match lsq (.loc n) s with
        | some ws => match atW ws i with
          | some w => R.ok w s
          | none => .bad
        | none => .bad : R W) = _
      rw [hl]
      show (match atW ws i with
          | some w => R.ok w s
          | none => .bad : R W) = _
      rw [h]
    | cl n =>
      show (match lsq (.cl n) s with
        | some ws => match atW ws i with
          | some w => R.ok w s
          | none => .bad
        | none => .bad : R W) = _
      rw [hl]
      show (match atW ws i with
          | some w => R.ok w s
          | none => .bad : R W) = _
      rw [h]
    | _ => cases hl
  rw [this]; exact q
theorem o_sl {w : W} {ws : List W} {lo hi : Option Int} (hl : lsq w s = some ws) (q : Q (.loc s.length) (s ++ [cutW ws lo hi])) : (slW w lo hi s).wp Q Z := by
  have : slW w lo hi s = alloc (cutW ws lo hi) s := by
    cases w with
    | loc n =>
      show (match lsq (.loc n) s with
        | some ws => alloc (cutW ws lo hi) s
        | none => .bad : R W) = _
      rw [hl]
    | cl n =>
      show (match lsq (.cl n) s with
        | some ws => alloc (cutW ws lo hi) s
        | none => .bad : R W) = _
      rw [hl]
    | _ => cases hl
  rw [this]; exact q
theorem o_abs {i : Int} (q : Q (.int i.natAbs) s) : (biW .abs [.int i] s).wp Q Z := by
  have e : (if i < 0 then -i else i) = (i.natAbs : Int) := by split <;> omega
  show Q (.int (if i < 0 then -i else i)) s
  rw [e]; exact q
theorem o_max {i j : Int} (q : Q (.int (max i j)) s) : (biW .max2 [.int i, .int j] s).wp Q Z := by
  have e : (if j > i then j else i) = max i j := by split <;> omega
  show Q (.int (if j > i then j else i)) s
  rw [e]; exact q
theorem o_min {i j : Int} (q : Q (.int (min i j)) s) : (biW .min2 [.int i, .int j] s).wp Q Z := by
  have e : (if j < i then j else i) = min i j := by split <;> omega
  show Q (.int (if j < i then j else i)) s
  rw [e]; exact q
theorem o_int {i : Int} (q : Q (.int i) s) : (biW .int [.int i] s).wp Q Z := q
theorem o_intb {b : Bool} (q : Q (.int (if b then 1 else 0)) s) : (biW .int [.bl b] s).wp Q Z := q
theorem o_lent {ws : List W} (q : Q (.int ws.length) s) : (biW .len [.tup ws] s).wp Q Z := q
theorem o_len {w : W} {ws : List W} (hl : lsq w s = some ws) (q : Q (.int ws.length) s) : (biW .len [w] s).wp Q Z := by
  have : biW .len [w] s = .ok (.int ws.length) s := by
    cases w with
    | loc n =>
      show (match lsq (.loc n) s with
        | some ws => R.ok (.int ws.length) s
        | none => .bad : R W) = _
      rw [hl]
    | cl n =>
      show (match lsq (.cl n) s with
        | some ws => R.ok (.int ws.length) s
        | none => .bad : R W) = _
      rw [hl]
    | _ => cases hl
  rw [this]; exact q
theorem o_listt {ws : List W} (q : Q (.loc s.length) (s ++ [ws])) : (biW .list [.tup ws] s).wp Q Z := q
theorem o_list {w : W} {ws : List W} (hl : lsq w s = some ws) (q : Q (.loc s.length) (s ++ [ws])) : (biW .list [w] s).wp Q Z := by
  have : biW .list [w] s = alloc ws s := by
    cases w with
    | loc n =>
      show (match lsq (.loc n) s with
        | some ws => alloc ws s
        | none => .bad : R W) = _
      rw [hl]
    | cl n =>
      show (match lsq (.cl n) s with
        | some ws => alloc ws s
        | none => .bad : R W) = _
      rw [hl]
    | _ => cases hl
  rw [this]; exact q
theorem o_tuple {w : W} {ws : List W} (hl : lsq w s = some ws) (q : Q (.tup ws) s) : (biW .tuple [w] s).wp Q Z := by
  have : biW .tuple [w] s = .ok (.tup ws) s := by
    cases w with
    | loc n =>
      show (match lsq (.loc n) s with
        | some ws => R.ok (.tup ws) s
        | none => .bad : R W) = _
      rw [hl]
    | cl n =>
      show (match lsq (.cl n) s with
        | some ws => R.ok (.tup ws) s
        | none => .bad : R W) = _
      rw [hl]
    | _ => cases hl
  rw [this]; exact q
theorem o_all {w : W} {ws : List W} {bs : List Bool} (hl : lsq w s = some ws) (hb : bools ws = some bs) (q : Q (.bl (bs.all id)) s) : (biW .all [w] s).wp Q Z := by
  show (match (lsq w s).bind bools with
    | some bs => R.ok (.bl (bs.all id)) s
    | none => .bad : R W).wp Q Z
  rw [hl, Option.bind_some, hb]; exact q
theorem o_any {w : W} {ws : List W} {bs : List Bool} (hl : lsq w s = some ws) (hb : bools ws = some bs) (q : Q (.bl (bs.any id)) s) : (biW .any [w] s).wp Q Z := by
  show (match (lsq w s).bind bools with
    | some bs => R.ok (.bl (bs.any id)) s
    | none => .bad : R W).wp Q Z
  rw [hl, Option.bind_some, hb]; exact q
theorem o_append {n : Nat} {w : W} {ws : List W} (h : s[n]? = some ws) (l : ws.length < sizeLine) (q : Q .non (s.set n (ws ++ [w]))) : (mtW .append (.loc n) [w] s).wp Q Z := by
  show (match s[n]? with
    | some ws => if ws.length < sizeLine then R.ok .non (s.set n (ws ++ [w])) else .bad
    | none => .bad : R W).wp Q Z
  rw [h]
  show (if ws.length < sizeLine then R.ok .non (s.set n (ws ++ [w])) else .bad : R W).wp Q Z
  rw [if_pos l]; exact q
theorem o_pop {n : Nat} {w : W} {ws : List W} (h : s[n]? = some (ws ++ [w])) (q : Q w (s.set n ws)) : (mtW .pop (.loc n) [] s).wp Q Z := by
  show (match s[n]? with
    | some ws => match ws[ws.length - 1]? with
      | some w => R.ok w (s.set n ws.dropLast)
      | none => .bad
    | none => .bad : R W).wp Q Z
  rw [h]
  have e : (ws ++ [w])[(ws ++ [w]).length - 1]? = some w := by simp
  show (match (ws ++ [w])[(ws ++ [w]).length - 1]? with
      | some u => R.ok u (s.set n (ws ++ [w]).dropLast)
      | none => .bad : R W).wp Q Z
  rw [e, List.dropLast_concat]; exact q
theorem o_isi {P : Bool → Prop} {t : Ty} {w : W} {b : Bool} (h : isiW t w = some b) (q : P b) : ∃ b, isiW t w = some b ∧ P b := ⟨b, h, q⟩
theorem ex_bl {P : Bool → Prop} {b : Bool} (q : P b) : ∃ k, W.bl b = .bl k ∧ P k := ⟨b, rfl, q⟩
theorem ex_int {P : Int → Prop} {b : Int} (q : P b) : ∃ k, W.int b = .int k ∧ P k := ⟨b, rfl, q⟩
theorem bq {Q : QK Bool} {b : Bool} (q : Q b s) : bQ Q (.bl b) s := ⟨b, rfl, q⟩
theorem tq {Q : QK Bool} {b : Bool} (q : Q b s) : tQ Q (.bl b) s := ⟨b, rfl, q⟩
theorem t_len {n : Nat} {P : Prop} (h : Nat.ble n sizeLine = true) (q : P) : n ≤ sizeLine ∧ P := ⟨Nat.le_of_ble_eq_true h, q⟩
end
theorem a_sub {g : G} {o i : E} {w : W} {e : Sl} {s : Sto} {Q : QK Sl} {Z : EK} (q : (ev g o e s).wp (fun ow s1 => (ev g i e s1).wp (fun iw s2 => ∃ n ws k j, ow = .loc n ∧ iw = .int k ∧ s2[n]? = some ws ∧ L2.ixN ws.length k = some j ∧ Q e (s2.set n (ws.set j w))) Z) Z) : (asg g (.sub o i) w e s).wp Q Z := by
  rw [asg, wp_bind]
  refine q.mono fun ow s1 h => ?_
  rw [wp_bind]
  refine h.mono fun iw s2 h => ?_
  obtain ⟨n, ws, k, j, rfl, rfl, h1, h2, h3⟩ := h
  have : setW (.loc n) (.int k) w s2 = .ok () (s2.set n (ws.set j w)) := by
    show (match s2[n]? with
      | some ws => match L2.ixN ws.length k with
        | some j => R.ok () (s2.set n (ws.set j w))
        | none => .bad
      | none => .bad : R Unit) = _
    rw [h1]
    show (match L2.ixN ws.length k with
        | some j => R.ok () (s2.set n (ws.set j w))
        | none => .bad : R Unit) = _
    rw [h2]
  rw [this]
  exact h3
def Has (T : Str → Option Fi) (x : Str) (n m : Nat) (b : B) : Prop := ∃ fi, T x = some fi ∧ fi.ps.length = n ∧ fi.names.length = m ∧ fi.body = b
theorem Has.wp {T : Str → Option Fi} {C : Str → Option W} {X : Str → Bool} {k : Nat} {x : Str} {n m : Nat} {b : B} {ws : List W} {s : Sto} {Q : QK W} {Z : EK} (h : Has T x n m b) (hl : ws.length = n)
    (q : (exS (gam T C X k) b (ws.map some ++ List.replicate (m - ws.length) none) s).wp (fnQ Q) Z) : ((gam T C X (k + 1)).call x ws s).wp Q Z := by
  obtain ⟨fi, h1, h2, h3, h4⟩ := h
  subst h4
  exact call_wp h1 (by rw [hl, h2]) (by rw [h3]; exact q)
theorem r_ok {α : Type} {a : α} {s : Sto} {Q : QK α} {Z : EK} (q : Q a s) : (R.ok a s).wp Q Z := q
theorem gx {T : Str → Option Fi} {C : Str → Option W} {X : Str → Bool} {k : Nat} {c : Str} : (gam T C X k).ex c = X c := by cases k <;> rfl
theorem gc {T : Str → Option Fi} {C : Str → Option W} {X : Str → Bool} {k : Nat} {c : Str} : (gam T C X k).con c = C c := by cases k <;> rfl
theorem eq_of_wp {α : Type} {r : R α} {a : α} {s : Sto} (h : r.wp (fun v s' => v = a ∧ s' = s) (fun _ _ => False)) : r = .ok a s := by
  cases r with
  | ok v s' =>
    obtain ⟨h1, h2⟩ := h
    rw [h1, h2]
  | exc c s' => exact h.elim
  | bad => exact h.elim
theorem toD_depth : ∀ (n : Nat) (s : Sto) (w : W) (d : PyData), toD n s w = some d → d.depth ≤ n
  | 0, _, _, _, h => by cases h
  | n + 1, s, w, d, h => by
    have all : ∀ (ws : List W) (ds : List PyData), ws.mapM (toD n s) = some ds → PyData.depthAll ds ≤ n := by
      intro ws
      induction ws with
      | nil =>
        intro ds h
        rw [List.mapM_nil] at h
        cases h
        exact Nat.zero_le _
      | cons w ws ih =>
        intro ds h
        rw [List.mapM_cons] at h
        obtain ⟨d, h1, h⟩ := Option.bind_eq_some_iff.mp h
        obtain ⟨es, h2, h⟩ := Option.bind_eq_some_iff.mp h
        cases h
        have a := toD_depth n s w d h1
        have b := ih es h2
        rw [PyData.depthAll]
        omega
    cases w with
    | non => cases h; exact Nat.zero_le _
    | bl b => cases h; exact Nat.zero_le _
    | int b => cases h; exact Nat.zero_le _
    | str b => cases h; exact Nat.zero_le _
    | tup ws =>
      obtain ⟨ds, h1, rfl⟩ := Option.map_eq_some_iff.mp (show (ws.mapM (toD n s)).map .tuple = some d from h)
      have := all ws ds h1
      rw [PyData.depth]
      omega
    | loc a =>
      obtain ⟨ws, h0, h⟩ := Option.bind_eq_some_iff.mp (show ((s[a]?).bind fun ws => (ws.mapM (toD n s)).map .list) = some d from h)
      obtain ⟨ds, h1, rfl⟩ := Option.map_eq_some_iff.mp h
      have := all ws ds h1
      rw [PyData.depth]
      omega
    | cl ws =>
      obtain ⟨ds, h1, rfl⟩ := Option.map_eq_some_iff.mp (show (ws.mapM (toD n s)).map .list = some d from h)
      have := all ws ds h1
      rw [PyData.depth]
      omega
    | fn x => cases h
theorem eqW_data {a b : W} {s : Sto} {d e : PyData} (ha : toD 16 s a = some d) (hb : toD 16 s b = some e) (ca : d.canLay0 = true) (cb : e.canLay0 = true) : eqW a b s = some (PyData.eqv d e) := by
  have key : (match toD 16 s a, toD 16 s b with
    | some d, some e => if SeqAt.shaped d && SeqAt.shaped e then some (PyData.eqv d e) else none
    | _, _ => none) = some (PyData.eqv d e) := by
    rw [ha, hb]
    have h1 : SeqAt.shaped d = true := by
      unfold SeqAt.shaped
      rw [ca, decide_eq_true (Nat.le_trans (toD_depth 16 s a d ha) (by decide))]
      rfl
    have h2 : SeqAt.shaped e = true := by
      unfold SeqAt.shaped
      rw [cb, decide_eq_true (Nat.le_trans (toD_depth 16 s b e hb) (by decide))]
      rfl
    show (if SeqAt.shaped d && SeqAt.shaped e then some (PyData.eqv d e) else none) = _
    rw [h1, h2]
    rfl
  unfold eqW
  split
  · cases ha
    cases hb
    rw [PyData.eqv]
    congr 1
  · cases ha
    cases hb
    rw [PyData.eqv]
    congr 1
  · exact key
theorem eqW_same {a b : W} {s : Sto} {d : PyData} (ha : toD 16 s a = some d) (hb : toD 16 s b = some d) (c : d.canLay0 = true) : eqW a b s = some true := by
  rw [eqW_data ha hb c c, SeqAt.eqv_refl d c]
abbrev nW (q : Rat) : W := .tup [.int q.num, .int q.den]
abbrev pW (p : List Rat) : List W := p.map nW
def nD (q : Rat) : PyData := .tuple [.int q.num, .int q.den]
theorem nW_D (n : Nat) (s : Sto) (q : Rat) : toD (n + 2) s (nW q) = some (nD q) := rfl
theorem mapM_D (n : Nat) (s : Sto) : ∀ p : List Rat, (pW p).mapM (toD (n + 2) s) = some (p.map nD)
  | [] => rfl
  | q :: p => by
    show ((nW q :: pW p).mapM (toD (n + 2) s)) = _
    rw [List.mapM_cons, nW_D, mapM_D n s p]
    rfl
theorem pW_D (n : Nat) (s : Sto) (w : W) (p : List Rat) (h : lsq w s = some (pW p)) : toD (n + 3) s w = some (.list (p.map nD)) := by
  cases w with
  | loc a =>
    show ((s[a]?).bind fun ws => (ws.mapM (toD (n + 2) s)).map PyData.list) = _
    have h : s[a]? = some (pW p) := h
    rw [h, Option.bind_some, mapM_D]
    rfl
  | cl ws =>
    cases h
    show ((pW p).mapM (toD (n + 2) s)).map PyData.list = _
    rw [mapM_D]
    rfl
  | _ => cases h
theorem nD_lay (q : Rat) : (nD q).canLay0 = true := rfl
theorem pD_lay : ∀ p : List Rat, PyData.canLayAll0 (p.map nD) = true
  | [] => rfl
  | q :: p => by
    rw [List.map_cons, PyData.canLayAll0, nD_lay, pD_lay p]
    rfl
theorem nD_eqv (p q : Rat) : PyData.eqv (nD p) (nD q) = decide (p = q) := by
  unfold nD
  rw [PyData.eqv, PyData.eqvAll, PyData.eqvAll, PyData.eqvAll, PyData.eqv, PyData.eqv]
  by_cases h : p = q
  · subst h
    simp
  · rw [decide_eq_false h]
    by_cases h1 : p.num = q.num
    · have h2 : ((p.den : Int) == (q.den : Int)) = false := by
        rw [beq_eq_false_iff_ne]
        intro z
        exact h (Rat.ext h1 (by omega))
      rw [h2]
      simp
    · have h2 : (p.num == q.num) = false := by rw [beq_eq_false_iff_ne]; exact h1
      rw [h2]
      rfl
theorem pD_eqv : ∀ p q : List Rat, PyData.eqvAll (p.map nD) (q.map nD) = decide (p = q)
  | [], [] => rfl
  | [], _ :: _ => rfl
  | _ :: _, [] => rfl
  | a :: p, b :: q => by
    rw [List.map_cons, List.map_cons, PyData.eqvAll, nD_eqv, pD_eqv p q]
    by_cases h : a = b
    · by_cases h' : p = q
      · simp [h, h']
      · simp [h, h']
    · simp [h]
theorem eqW_n (p q : Rat) (s : Sto) : eqW (nW p) (nW q) s = some (decide (p = q)) := by
  rw [eqW_data (nW_D 14 s p) (nW_D 14 s q) (nD_lay p) (nD_lay q), nD_eqv]
theorem eqW_p {a b : W} {s : Sto} {p q : List Rat} (ha : lsq a s = some (pW p)) (hb : lsq b s = some (pW q)) : eqW a b s = some (decide (p = q)) := by
  rw [eqW_data (pW_D 13 s a p ha) (pW_D 13 s b q hb) (by rw [PyData.canLay0]; exact pD_lay p) (by rw [PyData.canLay0]; exact pD_lay q), PyData.eqv, pD_eqv]
def Bt (n : Nat) (i : Int) : Prop := i.natAbs < 2 ^ n
structure Sz (n : Nat) (q : Rat) : Prop where
  num : q.num.natAbs < 2 ^ n
  den : q.den < 2 ^ n
theorem log2_lt {a n : Nat} (h : a < 2 ^ n) (hn : 0 < n) : a.log2 < n := by
  by_cases z : a = 0
  · subst z
    simpa using hn
  · exact (Nat.log2_lt z).mpr h
theorem Bt.bits {n m : Nat} {i j : Int} (h : Bt n i) (h' : Bt m j) (hn : 0 < n) (hm : 0 < m) (l : n + m ≤ 134217728) : bitsOk i j = true := by
  unfold bitsOk
  have a := log2_lt h hn
  have b := log2_lt h' hm
  exact decide_eq_true (by omega)
theorem Bt.mono {n m : Nat} {i : Int} (h : Bt n i) (l : n ≤ m) : Bt m i := Nat.lt_of_lt_of_le h (Nat.pow_le_pow_right (by decide) l)
theorem Bt.mul {n m : Nat} {i j : Int} (h : Bt n i) (h' : Bt m j) : Bt (n + m) (i * j) := by
  unfold Bt at *
  rw [Int.natAbs_mul, Nat.pow_add]
  exact Nat.mul_lt_mul'' h h'
theorem Bt.add {n : Nat} {i j : Int} (h : Bt n i) (h' : Bt n j) : Bt (n + 1) (i + j) := by
  unfold Bt at *
  rw [Nat.pow_succ]
  omega
theorem Bt.sub {n : Nat} {i j : Int} (h : Bt n i) (h' : Bt n j) : Bt (n + 1) (i - j) := by
  unfold Bt at *
  rw [Nat.pow_succ]
  omega
theorem Sz.mono {n m : Nat} {q : Rat} (h : Sz n q) (l : n ≤ m) : Sz m q := ⟨(show Bt n q.num from h.num).mono l, Nat.lt_of_lt_of_le h.den (Nat.pow_le_pow_right (by decide) l)⟩
theorem Sz.bn {n : Nat} {q : Rat} (h : Sz n q) : Bt n q.num := h.num
theorem Sz.bd {n : Nat} {q : Rat} (h : Sz n q) : Bt n (q.den : Int) := by
  show (q.den : Int).natAbs < 2 ^ n
  rw [Int.natAbs_natCast]
  exact h.den
theorem Sz.of {n : Nat} {t b : Int} (ht : Bt n t) (hb : Bt n b) (hn : 0 < n) : Sz n (Rat.divInt t b) := by
  constructor
  · rw [Rat.num_divInt]
    refine Nat.lt_of_le_of_lt ?_ ht
    rw [Int.natAbs_ediv_of_dvd (Int.dvd_trans (Int.gcd_dvd_right ..) (Int.dvd_mul_left ..)), Int.natAbs_mul]
    refine Nat.le_trans (Nat.div_le_self _ _) ?_
    have : b.sign.natAbs ≤ 1 := by
      rw [Int.natAbs_sign]
      split <;> omega
    calc b.sign.natAbs * t.natAbs ≤ 1 * t.natAbs := Nat.mul_le_mul_right _ this
      _ = t.natAbs := Nat.one_mul _
  · rw [Rat.den_divInt]
    split
    · exact Nat.one_lt_two_pow (by omega)
    · exact Nat.lt_of_le_of_lt (Nat.div_le_self _ _) hb
theorem Sz.zero : Sz 1 0 := ⟨by decide, by decide⟩
theorem Sz.one : Sz 1 1 := ⟨by decide, by decide⟩
theorem nW_divInt (q : Rat) : Rat.divInt q.num q.den = q := Rat.num_divInt_den q
theorem den_ne (q : Rat) : (q.den : Int) ≠ 0 := by
  have := q.den_nz
  omega
theorem add_divInt (p q : Rat) : Rat.divInt (p.num * q.den + q.num * p.den) (p.den * q.den) = p + q := by
  rw [← Rat.divInt_add_divInt _ _ (den_ne p) (den_ne q), Rat.num_divInt_den, Rat.num_divInt_den]
theorem sub_divInt (p q : Rat) : Rat.divInt (p.num * q.den - q.num * p.den) (p.den * q.den) = p - q := by
  rw [← Rat.divInt_sub_divInt _ _ (den_ne p) (den_ne q), Rat.num_divInt_den, Rat.num_divInt_den]
theorem mul_divInt (p q : Rat) : Rat.divInt (p.num * q.num) (p.den * q.den) = p * q := by
  rw [← Rat.divInt_mul_divInt, Rat.num_divInt_den, Rat.num_divInt_den]
theorem div_divInt (p q : Rat) : Rat.divInt (p.num * q.den) (p.den * q.num) = p / q := by
  rw [← Rat.divInt_mul_divInt, Rat.num_divInt_den, Rat.div_def, ← Rat.inv_divInt, Rat.num_divInt_den]
theorem Sz.add {n m : Nat} {p q : Rat} (h : Sz n p) (h' : Sz m q) (hn : 0 < n) : Sz (n + m + 1) (p + q) := by
  rw [← add_divInt]
  refine Sz.of ?_ ((h.bd.mul h'.bd).mono (by omega)) (by omega)
  refine Bt.add (h.bn.mul h'.bd) ?_
  rw [Nat.add_comm]
  exact h'.bn.mul h.bd
theorem Sz.sub {n m : Nat} {p q : Rat} (h : Sz n p) (h' : Sz m q) (hn : 0 < n) : Sz (n + m + 1) (p - q) := by
  rw [← sub_divInt]
  refine Sz.of ?_ ((h.bd.mul h'.bd).mono (by omega)) (by omega)
  refine Bt.sub (h.bn.mul h'.bd) ?_
  rw [Nat.add_comm]
  exact h'.bn.mul h.bd
theorem Sz.mul {n m : Nat} {p q : Rat} (h : Sz n p) (h' : Sz m q) (hn : 0 < n) : Sz (n + m) (p * q) := by
  rw [← mul_divInt]
  exact Sz.of (h.bn.mul h'.bn) (h.bd.mul h'.bd) (by omega)
theorem Sz.div {n m : Nat} {p q : Rat} (h : Sz n p) (h' : Sz m q) (hn : 0 < n) : Sz (n + m) (p / q) := by
  rw [← div_divInt]
  exact Sz.of (h.bn.mul h'.bd) (h.bd.mul h'.bn) (by omega)
end Pl
namespace Pl
open PySem Py
def bd_shared_divisor : B := (.par2 0 1 (.bi .abs (.cons (.var 0) .nil)) (.bi .abs (.cons (.var 1) .nil)) (.whl (.cmp .gt (.var 1) (.int 0)) (.par2 0 1 (.var 1) (.bin .mod (.var 0) (.var 1)) .done) (.ret (.var 0) .done)))
def bd_fraction : B := (.ite (.cmp .eq (.var 1) (.int 0)) (.raise "NoFraction" .done) .done (.asg (.name 2) (.call "shared_divisor" (.cons (.var 0) (.cons (.var 1) .nil))) (.ite (.cmp .lt (.var 1) (.int 0)) (.asg (.name 2) (.bin .sub (.int 0) (.var 2)) .done) .done (.ret (.tup (.cons (.bin .fdiv (.var 0) (.var 2)) (.cons (.bin .fdiv (.var 1) (.var 2)) .nil))) .done))))
def bd_times : B := (.ret (.call "fraction" (.cons (.bin .mul (.ix (.var 0) (.int 0)) (.ix (.var 1) (.int 0))) (.cons (.bin .mul (.ix (.var 0) (.int 1)) (.ix (.var 1) (.int 1))) .nil))) .done)
def bd_plus : B := (.ret (.call "fraction" (.cons (.bin .add (.bin .mul (.ix (.var 0) (.int 0)) (.ix (.var 1) (.int 1))) (.bin .mul (.ix (.var 1) (.int 0)) (.ix (.var 0) (.int 1)))) (.cons (.bin .mul (.ix (.var 0) (.int 1)) (.ix (.var 1) (.int 1))) .nil))) .done)
def bd_less : B := (.ret (.call "fraction" (.cons (.bin .sub (.bin .mul (.ix (.var 0) (.int 0)) (.ix (.var 1) (.int 1))) (.bin .mul (.ix (.var 1) (.int 0)) (.ix (.var 0) (.int 1)))) (.cons (.bin .mul (.ix (.var 0) (.int 1)) (.ix (.var 1) (.int 1))) .nil))) .done)
def bd_over : B := (.ret (.call "fraction" (.cons (.bin .mul (.ix (.var 0) (.int 0)) (.ix (.var 1) (.int 1))) (.cons (.bin .mul (.ix (.var 0) (.int 1)) (.ix (.var 1) (.int 0))) .nil))) .done)
def bd__law_low : B := (.asg (.name 2) (.bi .abs (.cons (.var 0) .nil)) (.asg (.name 3) (.bi .abs (.cons (.var 1) .nil)) (.whl (.cmp .gt (.var 3) (.int 0)) (.par2 2 3 (.var 3) (.bin .mod (.var 2) (.var 3)) .done) (.ite (.cmp .lt (.var 1) (.int 0)) (.asg (.name 2) (.bin .sub (.int 0) (.var 2)) .done) .done (.ret (.tup (.cons (.bin .fdiv (.var 0) (.var 2)) (.cons (.bin .fdiv (.var 1) (.var 2)) .nil))) .done)))))
def bd__law_times : B := (.ret (.call "_law_low" (.cons (.bin .mul (.ix (.var 0) (.int 0)) (.ix (.var 1) (.int 0))) (.cons (.bin .mul (.ix (.var 0) (.int 1)) (.ix (.var 1) (.int 1))) .nil))) .done)
def bd__law_plus : B := (.ret (.call "_law_low" (.cons (.bin .add (.bin .mul (.ix (.var 0) (.int 0)) (.ix (.var 1) (.int 1))) (.bin .mul (.ix (.var 1) (.int 0)) (.ix (.var 0) (.int 1)))) (.cons (.bin .mul (.ix (.var 0) (.int 1)) (.ix (.var 1) (.int 1))) .nil))) .done)
def bd__law_less : B := (.ret (.call "_law_low" (.cons (.bin .sub (.bin .mul (.ix (.var 0) (.int 0)) (.ix (.var 1) (.int 1))) (.bin .mul (.ix (.var 1) (.int 0)) (.ix (.var 0) (.int 1)))) (.cons (.bin .mul (.ix (.var 0) (.int 1)) (.ix (.var 1) (.int 1))) .nil))) .done)
def bd__law_over : B := (.ret (.call "_law_low" (.cons (.bin .mul (.ix (.var 0) (.int 0)) (.ix (.var 1) (.int 1))) (.cons (.bin .mul (.ix (.var 0) (.int 1)) (.ix (.var 1) (.int 0))) .nil))) .done)
def bd__law_draw : B := (.ite (.cmp .gt (.ix (.var 0) (.int 0)) (.int 0)) (.asg (.name 2) (.bin .mod (.ix (.var 0) (.int 0)) (.var 1)) (.asg (.sub (.var 0) (.int 0)) (.bin .fdiv (.ix (.var 0) (.int 0)) (.var 1)) (.ret (.var 2) .done))) .done (.asg (.sub (.var 0) (.int 1)) (.bin .mod (.bin .add (.bin .mul (.ix (.var 0) (.int 1)) (.int 60013)) (.int 12289)) (.ix (.var 0) (.int 2))) (.ret (.bin .mod (.bin .fdiv (.bin .mod (.bin .pow (.bin .fdiv (.ix (.var 0) (.int 1)) (.int 16)) (.int 3)) (.int 1999999973)) (.int 8)) (.var 1)) .done)))
def bd__law_urn : B := (.asg (.name 2) (.int 0) (.ite (.cmp .lt (.var 1) (.bi .len (.cons (.var 0) .nil))) (.asg (.name 2) (.ix (.var 0) (.var 1)) .done) .done (.asg (.name 3) (.ix (.tup (.cons (.int 1899999979) (.cons (.int 1899998977) (.cons (.int 1899997949) (.cons (.int 1899996929) (.cons (.int 1899995927) (.cons (.int 1899994903) (.cons (.int 1899993877) (.cons (.int 1899992839) .nil))))))))) (.bin .mod (.var 1) (.int 8))) (.asg (.name 4) (.int 0) (.ite (.cmp .ge (.bi .abs (.cons (.var 2) .nil)) (.bin .pow (.int 10) (.int 18))) (.asg (.name 4) (.bi .abs (.cons (.var 2) .nil)) .done) .done (.ret (.lst (.cons (.var 4) (.cons (.bin .mod (.bin .pow (.bin .add (.bin .add (.bin .mod (.var 2) (.var 3)) (.bin .mul (.int 65537) (.var 1))) (.int 101)) (.int 3)) (.var 3)) (.cons (.var 3) .nil)))) .done))))))
def bd_poly : B := (.asg (.name 1) (.bi .len (.cons (.var 0) .nil)) (.whl (.and (.cmp .gt (.var 1) (.int 0)) (.one (.cmp .eq (.ix (.var 0) (.bin .sub (.var 1) (.int 1))) (.con "NOUGHT")))) (.aug 1 .sub (.int 1) .done) (.ret (.bi .list (.cons (.sl (.var 0) .nil (.one (.var 1))) .nil)) .done)))
def bd__law_trim : B := (.asg (.name 1) (.bi .list (.cons (.var 0) .nil)) (.whl (.and (.cmp .ne (.var 1) (.lst .nil)) (.one (.cmp .eq (.ix (.ix (.var 1) (.neg (.int 1))) (.int 0)) (.int 0)))) (.exp (.mt .pop (.var 1) .nil) .done) (.ret (.var 1) .done)))
def bd_number_at : B := (.ite (.cmp .lt (.var 1) (.bi .len (.cons (.var 0) .nil))) (.ret (.ix (.var 0) (.var 1)) .done) .done (.ret (.con "NOUGHT") .done))
def bd__law_number : B := (.ite (.cmp .eq (.var 1) (.int 2)) (.asg (.name 2) (.bin .add (.bin .mul (.call "_law_draw" (.cons (.var 0) (.cons (.bin .pow (.int 10) (.int 6)) .nil))) (.bin .pow (.int 10) (.int 6))) (.call "_law_draw" (.cons (.var 0) (.cons (.bin .pow (.int 10) (.int 6)) .nil)))) (.ret (.call "_law_low" (.cons (.bin .mul (.var 2) (.ix (.lst (.cons (.int 1) (.cons (.neg (.int 1)) .nil))) (.call "_law_draw" (.cons (.var 0) (.cons (.int 2) .nil))))) (.cons (.bin .add (.int 1) (.bin .mul (.call "_law_draw" (.cons (.var 0) (.cons (.bin .pow (.int 10) (.int 6)) .nil))) (.bin .pow (.int 10) (.int 6)))) .nil))) .done)) .done (.ret (.call "_law_low" (.cons (.bin .sub (.call "_law_draw" (.cons (.var 0) (.cons (.int 19) .nil))) (.int 9)) (.cons (.bin .add (.int 1) (.bin .mul (.call "_law_draw" (.cons (.var 0) (.cons (.int 6) .nil))) (.bi .int (.cons (.cmp .eq (.var 1) (.int 0)) .nil)))) .nil))) .done))
def bd__law_other : B := (.asg (.name 2) (.call "_law_number" (.cons (.var 0) (.cons (.var 1) .nil))) (.ite (.cmp .eq (.ix (.var 2) (.int 0)) (.int 0)) (.ret (.tup (.cons (.bin .add (.int 1) (.call "_law_draw" (.cons (.var 0) (.cons (.int 3) .nil)))) (.cons (.int 1) .nil))) .done) .done (.ret (.var 2) .done)))
def bd__law_kind : B := (.ret (.ix (.lst (.cons (.int 0) (.cons (.int 1) (.cons (.int 0) (.cons (.int 1) (.cons (.int 0) (.cons (.int 1) (.cons (.int 0) (.cons (.int 2) .nil))))))))) (.call "_law_draw" (.cons (.var 0) (.cons (.int 8) .nil)))) .done)
def bd_poly_times : B := (.ite (.or (.cmp .eq (.var 0) (.lst .nil)) (.one (.cmp .eq (.var 1) (.lst .nil)))) (.ret (.lst .nil) .done) .done (.asg (.name 2) (.bin .mul (.lst (.cons (.con "NOUGHT") .nil)) (.bin .sub (.bin .add (.bi .len (.cons (.var 0) .nil)) (.bi .len (.cons (.var 1) .nil))) (.int 1))) (.for_ (.tup (.cons (.name 3) (.cons (.name 4) .nil))) .enu (.cons (.var 0) .nil) (.for_ (.tup (.cons (.name 5) (.cons (.name 6) .nil))) .enu (.cons (.var 1) .nil) (.asg (.sub (.var 2) (.bin .add (.var 3) (.var 5))) (.call "plus" (.cons (.ix (.var 2) (.bin .add (.var 3) (.var 5))) (.cons (.call "times" (.cons (.var 4) (.cons (.var 6) .nil))) .nil))) .done) .done) (.ret (.var 2) .done))))
def bd__law_poly_times : B := (.ite (.or (.cmp .eq (.var 0) (.lst .nil)) (.one (.cmp .eq (.var 1) (.lst .nil)))) (.ret (.lst .nil) .done) .done (.asg (.name 2) (.bin .mul (.lst (.cons (.tup (.cons (.int 0) (.cons (.int 1) .nil))) .nil)) (.bin .sub (.bin .add (.bi .len (.cons (.var 0) .nil)) (.bi .len (.cons (.var 1) .nil))) (.int 1))) (.for_ (.tup (.cons (.name 3) (.cons (.name 4) .nil))) .enu (.cons (.var 0) .nil) (.for_ (.tup (.cons (.name 5) (.cons (.name 6) .nil))) .enu (.cons (.var 1) .nil) (.asg (.sub (.var 2) (.bin .add (.var 3) (.var 5))) (.call "_law_plus" (.cons (.ix (.var 2) (.bin .add (.var 3) (.var 5))) (.cons (.call "_law_times" (.cons (.var 4) (.cons (.var 6) .nil))) .nil))) .done) .done) (.ret (.call "_law_trim" (.cons (.var 2) .nil)) .done))))
def bd_scaled : B := (.ret (.call "poly" (.cons (.comp [("one", 2)] (.name 2) .seq (.cons (.var 1) .nil) .nil (.call "times" (.cons (.var 0) (.cons (.var 2) .nil)))) .nil)) .done)
def bd_worth : B := (.asg (.name 2) (.con "NOUGHT") (.for_ (.name 3) .rev (.cons (.var 0) .nil) (.asg (.name 2) (.call "plus" (.cons (.call "times" (.cons (.var 2) (.cons (.var 1) .nil))) (.cons (.var 3) .nil))) .done) (.ret (.var 2) .done)))
def bd_slope : B := (.ret (.comp [("i", 1)] (.name 1) .rng2 (.cons (.int 1) (.cons (.bi .len (.cons (.var 0) .nil)) .nil)) .nil (.call "times" (.cons (.tup (.cons (.var 1) (.cons (.int 1) .nil))) (.cons (.ix (.var 0) (.var 1)) .nil)))) .done)
def bd_poly_less : B := (.ret (.call "poly" (.cons (.comp [("i", 2)] (.name 2) .rng1 (.cons (.bi .max2 (.cons (.bi .len (.cons (.var 0) .nil)) (.cons (.bi .len (.cons (.var 1) .nil)) .nil))) .nil) .nil (.call "less" (.cons (.call "number_at" (.cons (.var 0) (.cons (.var 2) .nil))) (.cons (.call "number_at" (.cons (.var 1) (.cons (.var 2) .nil))) .nil)))) .nil)) .done)
def bd_poly_sum : B := (.ret (.call "poly" (.cons (.comp [("i", 2)] (.name 2) .rng1 (.cons (.bi .max2 (.cons (.bi .len (.cons (.var 0) .nil)) (.cons (.bi .len (.cons (.var 1) .nil)) .nil))) .nil) .nil (.call "plus" (.cons (.call "number_at" (.cons (.var 0) (.cons (.var 2) .nil))) (.cons (.call "number_at" (.cons (.var 1) (.cons (.var 2) .nil))) .nil)))) .nil)) .done)
def bd__law_poly_plus : B := (.asg (.name 2) (.lst .nil) (.for_ (.name 3) .rng1 (.cons (.bi .max2 (.cons (.bi .len (.cons (.var 0) .nil)) (.cons (.bi .len (.cons (.var 1) .nil)) .nil))) .nil) (.asg (.name 4) (.ite (.cmp .lt (.var 3) (.bi .len (.cons (.var 0) .nil))) (.ix (.var 0) (.var 3)) (.tup (.cons (.int 0) (.cons (.int 1) .nil)))) (.asg (.name 5) (.ite (.cmp .lt (.var 3) (.bi .len (.cons (.var 1) .nil))) (.ix (.var 1) (.var 3)) (.tup (.cons (.int 0) (.cons (.int 1) .nil)))) (.exp (.mt .append (.var 2) (.cons (.call "_law_plus" (.cons (.var 4) (.cons (.var 5) .nil))) .nil)) .done))) (.ret (.call "_law_trim" (.cons (.var 2) .nil)) .done)))
def bd__law_whole : B := (.ret (.and (.isi (.var 0) .int) (.one (.no (.isi (.var 0) .bool)))) .done)
def bd__law_is_number : B := (.ite (.or (.no (.isi (.var 0) .tuple)) (.or (.cmp .ne (.bi .len (.cons (.var 0) .nil)) (.int 2)) (.or (.no (.call "_law_whole" (.cons (.ix (.var 0) (.int 0)) .nil))) (.one (.no (.call "_law_whole" (.cons (.ix (.var 0) (.int 1)) .nil))))))) (.ret (.bl false) .done) .done (.ret (.and (.cmp .gt (.ix (.var 0) (.int 1)) (.int 0)) (.one (.cmp .eq (.call "_law_low" (.cons (.ix (.var 0) (.int 0)) (.cons (.ix (.var 0) (.int 1)) .nil))) (.var 0)))) .done))
def bd__law_is_poly : B := (.ret (.and (.isi (.var 0) .list) (.and (.bi .all (.cons (.comp [("_law_one", 1)] (.name 1) .seq (.cons (.var 0) .nil) .nil (.call "_law_is_number" (.cons (.var 1) .nil))) .nil)) (.one (.cmp .eq (.call "_law_trim" (.cons (.var 0) .nil)) (.var 0))))) .done)
def bd__law_drawn_poly : B := (.ret (.bin .add (.comp [("_law_i", 3)] (.name 3) .rng1 (.cons (.call "_law_draw" (.cons (.var 0) (.cons (.bin .add (.var 2) (.int 1)) .nil))) .nil) .nil (.call "_law_number" (.cons (.var 0) (.cons (.var 1) .nil)))) (.lst (.cons (.call "_law_other" (.cons (.var 0) (.cons (.var 1) .nil))) .nil))) .done)
def bd__law_poly_often : B := (.ret (.call "_law_trim" (.cons (.comp [("_law_one", 2)] (.name 2) .seq (.cons (.var 1) .nil) .nil (.call "_law_times" (.cons (.var 0) (.cons (.var 2) .nil)))) .nil)) .done)
def bd_shifted : B := (.asg (.name 2) (.bi .list (.cons (.var 0) .nil)) (.for_ (.name 3) .rng1 (.cons (.bi .len (.cons (.var 0) .nil)) .nil) (.for_ (.name 4) .rng3 (.cons (.bin .sub (.bi .len (.cons (.var 0) .nil)) (.int 2)) (.cons (.bin .sub (.var 3) (.int 1)) (.cons (.neg (.int 1)) .nil))) (.asg (.sub (.var 2) (.var 4)) (.call "plus" (.cons (.ix (.var 2) (.var 4)) (.cons (.call "times" (.cons (.var 1) (.cons (.ix (.var 2) (.bin .add (.var 4) (.int 1))) .nil))) .nil))) .done) .done) (.ret (.var 2) .done)))
def bd_mirrored : B := (.ret (.comp [("i", 1), ("one", 2)] (.tup (.cons (.name 1) (.cons (.name 2) .nil))) .enu (.cons (.var 0) .nil) .nil (.call "times" (.cons (.tup (.cons (.bin .sub (.int 1) (.bin .mul (.int 2) (.bin .mod (.var 1) (.int 2)))) (.cons (.int 1) .nil))) (.cons (.var 2) .nil)))) .done)
def bd__law_worth : B := (.asg (.name 2) (.tup (.cons (.int 0) (.cons (.int 1) .nil))) (.for_ (.name 3) .rev (.cons (.var 0) .nil) (.asg (.name 2) (.call "_law_plus" (.cons (.call "_law_times" (.cons (.var 2) (.cons (.var 1) .nil))) (.cons (.var 3) .nil))) .done) (.ret (.var 2) .done)))
def bd__law_mirrored : B := (.ret (.comp [("_law_i", 1), ("_law_number_here", 2)] (.tup (.cons (.name 1) (.cons (.name 2) .nil))) .enu (.cons (.var 0) .nil) .nil (.tup (.cons (.bin .mul (.ix (.var 2) (.int 0)) (.ix (.lst (.cons (.int 1) (.cons (.neg (.int 1)) .nil))) (.bin .mod (.var 1) (.int 2)))) (.cons (.ix (.var 2) (.int 1)) .nil)))) .done)
def bd__law_sloped : B := (.ret (.sl (.comp [("_law_i", 1), ("_law_one", 2)] (.tup (.cons (.name 1) (.cons (.name 2) .nil))) .enu (.cons (.var 0) .nil) .nil (.call "_law_times" (.cons (.tup (.cons (.var 1) (.cons (.int 1) .nil))) (.cons (.var 2) .nil)))) (.one (.int 1)) .nil) .done)
def bd__law_moved : B := (.asg (.name 2) (.lst .nil) (.for_ (.name 3) .rev (.cons (.var 0) .nil) (.asg (.name 2) (.call "_law_poly_plus" (.cons (.call "_law_poly_times" (.cons (.var 2) (.cons (.lst (.cons (.var 1) (.cons (.tup (.cons (.int 1) (.cons (.int 1) .nil))) .nil))) .nil))) (.cons (.call "_law_trim" (.cons (.lst (.cons (.var 3) .nil)) .nil)) .nil))) .done) (.ret (.var 2) .done)))
end Pl
namespace Pl
open PySem Py
local macro_rules | `(tactic| decreasing_trivial_pre_omega) => `(tactic| (first | with_reducible refine x_set ?_ | with_reducible refine x_par2 ?_ | with_reducible refine x_par3 ?_ | with_reducible refine x_ite ?_ | with_reducible refine x_for ?_ | with_reducible refine x_whl ?_ | with_reducible refine x_ret ?_ | with_reducible refine x_retn ?_ | with_reducible refine x_brk ?_ | with_reducible refine x_ct ?_ | with_reducible refine x_pass ?_ | with_reducible refine x_exp ?_ | with_reducible refine x_done ?_ | with_reducible refine nx_nx ?_ | with_reducible refine nx_rt ?_ | with_reducible refine nx_bk ?_ | with_reducible refine nx_ct ?_ | with_reducible refine lp_nx ?_ | with_reducible refine lp_ct ?_ | with_reducible refine lp_bk ?_ | with_reducible refine lp_rt ?_ | with_reducible refine jn_nx ?_ | with_reducible refine jn_rt ?_ | with_reducible refine fn_nx ?_ | with_reducible refine fn_rt ?_ | with_reducible refine e_int ?_ | with_reducible refine e_bl ?_ | with_reducible refine e_non ?_ | with_reducible refine e_str ?_ | with_reducible refine e_bin ?_ | with_reducible refine e_neg ?_ | with_reducible refine e_no ?_ | with_reducible refine e_cmp ?_ | with_reducible refine e_chain ?_ | with_reducible refine e_and ?_ | with_reducible refine e_or ?_ | with_reducible refine e_one ?_ | with_reducible refine e_ite ?_ | with_reducible refine e_tup ?_ | with_reducible refine e_lst ?_ | with_reducible refine e_ix ?_ | with_reducible refine e_sl ?_ | with_reducible refine e_rv ?_ | with_reducible refine e_call ?_ | with_reducible refine e_bi ?_ | with_reducible refine e_mt ?_ | with_reducible refine e_isi ?_ | with_reducible refine e_comp ?_ | with_reducible refine es_nil ?_ | with_reducible refine es_cons ?_ | with_reducible refine eo_nil ?_ | with_reducible refine eo_one ?_ | with_reducible refine t_and ?_ | with_reducible refine t_or ?_ | with_reducible refine t_no ?_ | with_reducible refine t_one ?_ | with_reducible refine t_nil ?_ | with_reducible refine t_cmp ?_ | with_reducible refine t_chain ?_ | with_reducible refine t_call ?_ | with_reducible refine t_bi ?_ | with_reducible refine t_isi ?_ | with_reducible refine x_asg ?_ | with_reducible refine a_sub ?_ | with_reducible refine o_add ?_ | with_reducible refine o_sub ?_ | with_reducible refine o_adb ?_ | with_reducible refine o_lt ?_ | with_reducible refine o_le ?_ | with_reducible refine o_gt ?_ | with_reducible refine o_ge ?_ | with_reducible refine o_eqi ?_ | with_reducible refine o_nei ?_ | with_reducible refine o_isN ?_ | with_reducible refine o_notN ?_ | with_reducible refine o_isB ?_ | with_reducible refine o_notB ?_ | with_reducible refine o_abs ?_ | with_reducible refine o_int ?_ | with_reducible refine o_intb ?_ | with_reducible refine o_max ?_ | with_reducible refine o_min ?_ | with_reducible refine o_neg ?_ | with_reducible refine o_lent ?_ | with_reducible refine ex_bl ?_ | with_reducible refine ex_int ?_ | with_reducible refine bq ?_ | with_reducible refine tq ?_ | with_reducible refine r_ok ?_ | ((with_reducible apply e_var); exact rfl) | ((with_reducible apply x_add); exact rfl) | ((with_reducible apply x_sub); exact rfl) | ((with_reducible apply o_ixt); exact rfl) | ((with_reducible apply o_isi); exact rfl) | ((with_reducible apply t_len); exact rfl) | ((with_reducible apply o_ix); assumption; exact rfl) | ((with_reducible apply e_con); rw [gc]; assumption) | ((with_reducible apply o_len); assumption) | ((with_reducible apply o_list); assumption) | ((with_reducible apply o_tuple); assumption) | ((with_reducible apply o_sl); assumption)))
theorem set4 {α : Type} {i j : Nat} (hij : i ≠ j) (e : List α) (a b c d : α) : (((e.set i a).set j b).set i c).set j d = (e.set i c).set j d := by
  rw [List.set_comm b c (fun h => hij h.symm), List.set_set, List.set_set]
section
variable {g : G} {e : Sl} {i j : Nat}
theorem gcd_one (hij : i ≠ j) (hi : i < e.length) (hj : j < e.length) (N a b : Nat) (s : Sto) :
    whileL (evT g (.cmp .gt (.var j) (.int 0))) (exS g (.par2 i j (.var j) (.bin .mod (.var i) (.var j)) .done)) (N + 1) ((e.set i (some (.int (a : Nat)))).set j (some (.int (b : Nat)))) s =
    if b = 0 then .ok (.nx ((e.set i (some (.int (a : Nat)))).set j (some (.int (b : Nat))))) s
    else whileL (evT g (.cmp .gt (.var j) (.int 0))) (exS g (.par2 i j (.var j) (.bin .mod (.var i) (.var j)) .done)) N ((e.set i (some (.int (b : Nat)))).set j (some (.int ((a % b : Nat) : Nat)))) s := by
  have hi' : ((e.set i (some (.int (a : Nat)))).set j (some (.int (b : Nat))))[i]? = some (some (.int (a : Nat))) := by
    rw [List.getElem?_set_ne (fun h => hij h.symm), List.getElem?_set_self hi]
  have hj' : ((e.set i (some (.int (a : Nat)))).set j (some (.int (b : Nat))))[j]? = some (some (.int (b : Nat))) := by
    rw [List.getElem?_set_self (by rw [List.length_set]; exact hj)]
  rw [whileL]
  have c : evT g (.cmp .gt (.var j) (.int 0)) ((e.set i (some (.int (a : Nat)))).set j (some (.int (b : Nat)))) s = .ok (decide ((0 : Int) < (b : Nat))) s := by
    simp only [evT, ev, rslot, hj', R.bind_ok]
    rfl
  rw [c]
  by_cases hb : b = 0
  · subst hb
    rfl
  · rw [if_neg hb]
    have : decide ((0 : Int) < (b : Nat)) = true := decide_eq_true (by omega)
    rw [R.bind_ok, this]
    have x : exS g (.par2 i j (.var j) (.bin .mod (.var i) (.var j)) .done) ((e.set i (some (.int (a : Nat)))).set j (some (.int (b : Nat)))) s = .ok (.nx ((e.set i (some (.int (b : Nat)))).set j (some (.int ((a % b : Nat) : Nat))))) s := by
      have m : bop .mod (.int (a : Nat)) (.int (b : Nat)) s = .ok (.int ((a % b : Nat) : Nat)) s := by
        show (if ((b : Nat) : Int) ≠ 0 then R.ok (W.int (Int.fmod (a : Nat) (b : Nat))) s else .bad : R W) = _
        rw [if_pos (by omega), Int.ofNat_fmod]
      simp only [exS, ev, rslot, hi', hj', R.bind_ok, m, set4 hij]
    rw [x]
    rfl
theorem gcd_low (hij : i ≠ j) (hi : i < e.length) (hj : j < e.length) (s : Sto) : ∀ (n N a b : Nat), n < N → a * b < 2 ^ n → b ≤ a →
    whileL (evT g (.cmp .gt (.var j) (.int 0))) (exS g (.par2 i j (.var j) (.bin .mod (.var i) (.var j)) .done)) N ((e.set i (some (.int (a : Nat)))).set j (some (.int (b : Nat)))) s = .ok (.nx ((e.set i (some (.int (Nat.gcd a b : Nat)))).set j (some (.int (0 : Nat))))) s := by
  intro n
  induction n with
  | zero =>
    intro N a b hN hab hba
    have hb : b = 0 := by
      cases b with
      | zero => rfl
      | succ b =>
        exfalso
        have : (b + 1) * (b + 1) ≤ a * (b + 1) := Nat.mul_le_mul_right _ hba
        have h3 : 1 * 1 ≤ (b + 1) * (b + 1) := Nat.mul_le_mul (by omega) (by omega)
        omega
    subst hb
    obtain ⟨N, rfl⟩ : ∃ M, N = M + 1 := ⟨N - 1, by omega⟩
    rw [gcd_one hij hi hj, if_pos rfl, Nat.gcd_zero_right]
  | succ n ih =>
    intro N a b hN hab hba
    obtain ⟨N, rfl⟩ : ∃ M, N = M + 1 := ⟨N - 1, by omega⟩
    rw [gcd_one hij hi hj]
    by_cases hb : b = 0
    · subst hb
      rw [if_pos rfl, Nat.gcd_zero_right]
    · rw [if_neg hb]
      have hlt : a % b < b := Nat.mod_lt _ (by omega)
      rw [ih N b (a % b) (by omega) ?_ (by omega)]
      · have : Nat.gcd b (a % b) = Nat.gcd a b := by rw [Nat.gcd_comm a b, Nat.gcd_rec b a, Nat.gcd_comm]
        rw [this]
      · have h1 : 2 * (a % b) ≤ a := by
          have h2 := Nat.div_add_mod a b
          have h3 : 1 ≤ a / b := (Nat.one_le_div_iff (by omega)).mpr hba
          have h4 : b * 1 ≤ b * (a / b) := Nat.mul_le_mul_left _ h3
          omega
        have h2 : b * (2 * (a % b)) ≤ b * a := Nat.mul_le_mul_left _ h1
        rw [Nat.pow_succ] at hab
        have h3 : b * (2 * (a % b)) = 2 * (b * (a % b)) := Nat.mul_left_comm ..
        rw [Nat.mul_comm b a] at h2
        omega
theorem gcd_loop (hij : i ≠ j) (hi : i < e.length) (hj : j < e.length) (s : Sto) (n N a b : Nat) (hN : n + 1 < N) (hab : a * b < 2 ^ n) :
    whileL (evT g (.cmp .gt (.var j) (.int 0))) (exS g (.par2 i j (.var j) (.bin .mod (.var i) (.var j)) .done)) N ((e.set i (some (.int (a : Nat)))).set j (some (.int (b : Nat)))) s = .ok (.nx ((e.set i (some (.int (Nat.gcd a b : Nat)))).set j (some (.int (0 : Nat))))) s := by
  by_cases h : b ≤ a
  · exact gcd_low hij hi hj s n N a b (by omega) hab h
  · obtain ⟨N, rfl⟩ : ∃ M, N = M + 1 := ⟨N - 1, by omega⟩
    rw [gcd_one hij hi hj, if_neg (by omega), Nat.mod_eq_of_lt (by omega), gcd_low hij hi hj s n N b a (by omega) (by rw [Nat.mul_comm]; exact hab) (by omega), Nat.gcd_comm]
end
theorem sign_div {t b : Int} (hb : b ≠ 0) (d : Int) (hd : d = if b < 0 then 0 - (Int.gcd t b : Int) else (Int.gcd t b : Int)) : t.fdiv d = (Rat.divInt t b).num ∧ b.fdiv d = ((Rat.divInt t b).den : Int) ∧ d ≠ 0 := by
  have gp : 0 < Int.gcd t b := Int.gcd_pos_of_ne_zero_right _ hb
  obtain ⟨m, hm⟩ := Int.gcd_dvd_left t b
  obtain ⟨l, hl⟩ := Int.gcd_dvd_right t b
  have hg : ((Int.gcd t b : Nat) : Int) ≠ 0 := by omega
  have num : (Rat.divInt t b).num = b.sign * m := by
    rw [Rat.num_divInt, Int.gcd_comm b t]
    have e : b.sign * t = b.sign * m * (Int.gcd t b : Int) := by
      rw [Int.mul_assoc, Int.mul_comm m]
      exact congrArg (b.sign * ·) hm
    rw [e, Int.mul_ediv_cancel _ hg]
  have den : ((Rat.divInt t b).den : Int) = b.sign * l := by
    rw [Rat.den_divInt, if_neg hb, Int.gcd_comm b t]
    have e : (b.natAbs : Int) = b.sign * l * (Int.gcd t b : Int) := by
      rw [Int.mul_assoc, Int.mul_comm l, ← hl]
      rw [Int.sign_mul_self]
    have e2 : ((b.natAbs / Int.gcd t b : Nat) : Int) = (b.natAbs : Int) / (Int.gcd t b : Int) := rfl
    rw [e2, e, Int.mul_ediv_cancel _ hg]
  rw [num, den]
  by_cases neg : b < 0
  · rw [if_pos neg] at hd
    have hd0 : d ≠ 0 := by omega
    have hs : b.sign = -1 := Int.sign_eq_neg_one_of_neg neg
    rw [hs]
    refine ⟨?_, ?_, hd0⟩
    · have : t = -1 * m * d := by
        rw [hd]
        rw [show (0 : Int) - (Int.gcd t b : Int) = -(Int.gcd t b : Int) from by omega, Int.mul_neg, ← Int.neg_mul]
        rw [show -(-1 * m) = m from by omega, Int.mul_comm]
        exact hm
      calc t.fdiv d = (-1 * m * d).fdiv d := by rw [← this]
        _ = -1 * m := Int.mul_fdiv_cancel _ hd0
    · have : b = -1 * l * d := by
        rw [hd]
        rw [show (0 : Int) - (Int.gcd t b : Int) = -(Int.gcd t b : Int) from by omega, Int.mul_neg, ← Int.neg_mul]
        rw [show -(-1 * l) = l from by omega, Int.mul_comm]
        exact hl
      calc b.fdiv d = (-1 * l * d).fdiv d := by rw [← this]
        _ = -1 * l := Int.mul_fdiv_cancel _ hd0
  · rw [if_neg neg] at hd
    have hd0 : d ≠ 0 := by omega
    have hs : b.sign = 1 := Int.sign_eq_one_of_pos (by omega)
    rw [hs, Int.one_mul, Int.one_mul]
    refine ⟨?_, ?_, hd0⟩
    · have : t = m * d := by
        rw [hd, Int.mul_comm]
        exact hm
      calc t.fdiv d = (m * d).fdiv d := by rw [← this]
        _ = m := Int.mul_fdiv_cancel _ hd0
    · have : b = l * d := by
        rw [hd, Int.mul_comm]
        exact hl
      calc b.fdiv d = (l * d).fdiv d := by rw [← this]
        _ = l := Int.mul_fdiv_cancel _ hd0
theorem gcd_log {n : Nat} {t b : Int} (h : Bt n b) (hn : 0 < n) (hb : b ≠ 0) (l : n ≤ 9000) : (Int.gcd t b).log2 < 9000 := by
  have h1 : Int.gcd t b ≤ b.natAbs := Nat.le_of_dvd (by omega) (Nat.gcd_dvd_right ..)
  have := log2_lt (Nat.lt_of_le_of_lt h1 h) hn
  omega
section
variable {T : Str → Option Fi} {C : Str → Option W} {X : Str → Bool} {k n : Nat} {s : Sto} {Z : EK}
theorem divisor_eq (h : Has T "shared_divisor" 2 2 bd_shared_divisor) {a b : Int} (ha : Bt n a) (hb : Bt n b) (hn : n ≤ 1000000000) : (gam T C X (k + 1)).call "shared_divisor" [.int a, .int b] s = .ok (.int (Int.gcd a b : Nat)) s := by
  refine eq_of_wp (h.wp rfl ?_)
  unfold bd_shared_divisor
  refine x_par2 ?_
  (repeat decreasing_trivial_pre_omega)
  rw [gcd_loop (i := 0) (j := 1) (by decide) (by exact Nat.le.step Nat.le.refl) (by exact Nat.le.refl) _ (n + n) big _ _ (by unfold big; omega) (by rw [Nat.pow_add]; exact Nat.mul_lt_mul'' ha hb)]
  (repeat decreasing_trivial_pre_omega)
  exact ⟨rfl, rfl⟩
theorem Bt.dv {n : Nat} {b : Int} (h : Bt n b) {t : Int} (hb : b ≠ 0) (hn : n ≤ 9000) : divOk (if b < 0 then 0 - (Int.gcd t b : Int) else (Int.gcd t b : Int)) = true := by
  have gp : 0 < Int.gcd t b := Int.gcd_pos_of_ne_zero_right _ hb
  have h1 : Int.gcd t b ≤ b.natAbs := Nat.le_of_dvd (by omega) (Nat.gcd_dvd_right ..)
  have l : (Int.gcd t b).log2 < 9000 := log2_lt (Nat.lt_of_le_of_lt h1 (h.mono hn)) (by decide)
  unfold divOk
  refine decide_eq_true ⟨by split <;> omega, ?_⟩
  split
  · have e : (0 - (Int.gcd t b : Int)).natAbs = Int.gcd t b := by omega
    rw [e]; exact l
  · rw [Int.natAbs_natCast]; exact l
theorem fraction_eq (h : Has T "fraction" 2 3 bd_fraction) (h' : Has T "shared_divisor" 2 2 bd_shared_divisor) {a b : Int} (ha : Bt n a) (hb : Bt n b) (hn : n ≤ 9000) (h0 : b ≠ 0) :
    (gam T C X (k + 2)).call "fraction" [.int a, .int b] s = .ok (nW (Rat.divInt a b)) s := by
  refine eq_of_wp (h.wp rfl ?_)
  unfold bd_fraction
  (repeat decreasing_trivial_pre_omega)
  refine ⟨fun z => absurd (of_decide_eq_true z) h0, fun _ => ?_⟩
  (repeat decreasing_trivial_pre_omega)
  refine wp_of_eq (divisor_eq h' ha hb (by omega)) ?_
  (repeat decreasing_trivial_pre_omega)
  obtain ⟨h1, h2, h3⟩ := sign_div (t := a) h0 _ rfl
  have hd := hb.dv (t := a) h0 hn
  refine ⟨fun z => ?_, fun z => ?_⟩
  · rw [if_pos (of_decide_eq_true z)] at h1 h2 hd
    (repeat decreasing_trivial_pre_omega)
    refine o_div hd ?_
    (repeat decreasing_trivial_pre_omega)
    refine o_div hd ?_
    (repeat decreasing_trivial_pre_omega)
    rw [h1, h2]
    exact ⟨rfl, rfl⟩
  · rw [if_neg (of_decide_eq_false z)] at h1 h2 hd
    (repeat decreasing_trivial_pre_omega)
    refine o_div hd ?_
    (repeat decreasing_trivial_pre_omega)
    refine o_div hd ?_
    (repeat decreasing_trivial_pre_omega)
    rw [h1, h2]
    exact ⟨rfl, rfl⟩
theorem fraction_no (h : Has T "fraction" 2 3 bd_fraction) (hx : X "NoFraction" = true) {a : Int} {Q : QK W} (q : Z "NoFraction" s) :
    ((gam T C X (k + 1)).call "fraction" [.int a, .int 0] s).wp Q Z := by
  refine h.wp rfl ?_
  unfold bd_fraction
  (repeat decreasing_trivial_pre_omega)
  refine ⟨fun _ => x_raise (by rw [gx]; exact hx) q, fun z => ?_⟩
  cases z
theorem low_eq {m : Nat} (h : Has T "_law_low" 2 m bd__law_low) (hm : m = 4) {a b : Int} (ha : Bt n a) (hb : Bt n b) (hn : n ≤ 9000) (h0 : b ≠ 0) :
    (gam T C X (k + 1)).call "_law_low" [.int a, .int b] s = .ok (nW (Rat.divInt a b)) s := by
  subst hm
  refine eq_of_wp (h.wp rfl ?_)
  unfold bd__law_low
  (repeat decreasing_trivial_pre_omega)
  rw [gcd_loop (i := 2) (j := 3) (by decide) (by exact Nat.le.step Nat.le.refl) (by exact Nat.le.refl) _ (n + n) big _ _ (by unfold big; omega) (by rw [Nat.pow_add]; exact Nat.mul_lt_mul'' ha hb)]
  (repeat decreasing_trivial_pre_omega)
  obtain ⟨h1, h2, h3⟩ := sign_div (t := a) h0 _ rfl
  have hd := hb.dv (t := a) h0 hn
  refine ⟨fun z => ?_, fun z => ?_⟩
  · rw [if_pos (of_decide_eq_true z)] at h1 h2 hd
    (repeat decreasing_trivial_pre_omega)
    refine o_div hd ?_
    (repeat decreasing_trivial_pre_omega)
    refine o_div hd ?_
    (repeat decreasing_trivial_pre_omega)
    refine ⟨?_, rfl⟩
    show W.tup [.int (a.fdiv (0 - (Int.gcd a b : Int))), .int (b.fdiv (0 - (Int.gcd a b : Int)))] = _
    rw [h1, h2]
  · rw [if_neg (of_decide_eq_false z)] at h1 h2 hd
    (repeat decreasing_trivial_pre_omega)
    refine o_div hd ?_
    (repeat decreasing_trivial_pre_omega)
    refine o_div hd ?_
    (repeat decreasing_trivial_pre_omega)
    refine ⟨?_, rfl⟩
    show W.tup [.int (a.fdiv (Int.gcd a b : Int)), .int (b.fdiv (Int.gcd a b : Int))] = _
    rw [h1, h2]
structure Frac (T : Str → Option Fi) : Prop where
  fr : Has T "fraction" 2 3 bd_fraction
  sd : Has T "shared_divisor" 2 2 bd_shared_divisor
theorem ix0 {q : Rat} {Q : QK W} (h : Q (.int q.num) s) : (ixW (nW q) (.int 0) s).wp Q Z := o_ixt rfl h
theorem ix1 {q : Rat} {Q : QK W} (h : Q (.int q.den) s) : (ixW (nW q) (.int 1) s).wp Q Z := o_ixt rfl h
theorem times_eq (F : Frac T) (h : Has T "times" 2 2 bd_times) {p q : Rat} (hp : Sz n p) (hq : Sz n q) (h0 : 0 < n) (hn : n + n ≤ 9000) :
    (gam T C X (k + 3)).call "times" [nW p, nW q] s = .ok (nW (p * q)) s := by
  refine eq_of_wp (h.wp rfl ?_)
  unfold bd_times
  (repeat decreasing_trivial_pre_omega)
  refine o_mul (hp.bn.bits hq.bn h0 h0 (by omega)) ?_
  (repeat decreasing_trivial_pre_omega)
  refine o_mul (hp.bd.bits hq.bd h0 h0 (by omega)) ?_
  (repeat decreasing_trivial_pre_omega)
  refine wp_of_eq (fraction_eq F.fr F.sd (hp.bn.mul hq.bn) (hp.bd.mul hq.bd) hn (Int.mul_ne_zero (den_ne p) (den_ne q))) ?_
  rw [mul_divInt]
  (repeat decreasing_trivial_pre_omega)
  exact ⟨rfl, rfl⟩
theorem plus_eq (F : Frac T) (h : Has T "plus" 2 2 bd_plus) {p q : Rat} (hp : Sz n p) (hq : Sz n q) (h0 : 0 < n) (hn : n + n + 1 ≤ 9000) :
    (gam T C X (k + 3)).call "plus" [nW p, nW q] s = .ok (nW (p + q)) s := by
  refine eq_of_wp (h.wp rfl ?_)
  unfold bd_plus
  (repeat decreasing_trivial_pre_omega)
  refine o_mul (hp.bn.bits hq.bd h0 h0 (by omega)) ?_
  (repeat decreasing_trivial_pre_omega)
  refine o_mul (hq.bn.bits hp.bd h0 h0 (by omega)) ?_
  (repeat decreasing_trivial_pre_omega)
  refine o_mul (hp.bd.bits hq.bd h0 h0 (by omega)) ?_
  (repeat decreasing_trivial_pre_omega)
  refine wp_of_eq (fraction_eq F.fr F.sd ((hp.bn.mul hq.bd).add (hq.bn.mul hp.bd)) ((hp.bd.mul hq.bd).mono (Nat.le_succ _)) hn (Int.mul_ne_zero (den_ne p) (den_ne q))) ?_
  rw [add_divInt]
  (repeat decreasing_trivial_pre_omega)
  exact ⟨rfl, rfl⟩
theorem less_eq (F : Frac T) (h : Has T "less" 2 2 bd_less) {p q : Rat} (hp : Sz n p) (hq : Sz n q) (h0 : 0 < n) (hn : n + n + 1 ≤ 9000) :
    (gam T C X (k + 3)).call "less" [nW p, nW q] s = .ok (nW (p - q)) s := by
  refine eq_of_wp (h.wp rfl ?_)
  unfold bd_less
  (repeat decreasing_trivial_pre_omega)
  refine o_mul (hp.bn.bits hq.bd h0 h0 (by omega)) ?_
  (repeat decreasing_trivial_pre_omega)
  refine o_mul (hq.bn.bits hp.bd h0 h0 (by omega)) ?_
  (repeat decreasing_trivial_pre_omega)
  refine o_mul (hp.bd.bits hq.bd h0 h0 (by omega)) ?_
  (repeat decreasing_trivial_pre_omega)
  refine wp_of_eq (fraction_eq F.fr F.sd ((hp.bn.mul hq.bd).sub (hq.bn.mul hp.bd)) ((hp.bd.mul hq.bd).mono (Nat.le_succ _)) hn (Int.mul_ne_zero (den_ne p) (den_ne q))) ?_
  rw [sub_divInt]
  (repeat decreasing_trivial_pre_omega)
  exact ⟨rfl, rfl⟩
theorem num_ne {q : Rat} (h : q ≠ 0) : q.num ≠ 0 := fun z => h (Rat.num_eq_zero.mp z)
theorem over_eq (F : Frac T) (h : Has T "over" 2 2 bd_over) {p q : Rat} (hp : Sz n p) (hq : Sz n q) (h0 : 0 < n) (hn : n + n ≤ 9000) (hz : q ≠ 0) :
    (gam T C X (k + 3)).call "over" [nW p, nW q] s = .ok (nW (p / q)) s := by
  refine eq_of_wp (h.wp rfl ?_)
  unfold bd_over
  (repeat decreasing_trivial_pre_omega)
  refine o_mul (hp.bn.bits hq.bd h0 h0 (by omega)) ?_
  (repeat decreasing_trivial_pre_omega)
  refine o_mul (hp.bd.bits hq.bn h0 h0 (by omega)) ?_
  (repeat decreasing_trivial_pre_omega)
  refine wp_of_eq (fraction_eq F.fr F.sd (hp.bn.mul hq.bd) (hp.bd.mul hq.bn) hn (Int.mul_ne_zero (den_ne p) (num_ne hz))) ?_
  rw [div_divInt]
  (repeat decreasing_trivial_pre_omega)
  exact ⟨rfl, rfl⟩
theorem ltimes_eq (L : Has T "_law_low" 2 4 bd__law_low) (h : Has T "_law_times" 2 2 bd__law_times) {p q : Rat} (hp : Sz n p) (hq : Sz n q) (h0 : 0 < n) (hn : n + n ≤ 9000) :
    (gam T C X (k + 2)).call "_law_times" [nW p, nW q] s = .ok (nW (p * q)) s := by
  refine eq_of_wp (h.wp rfl ?_)
  unfold bd__law_times
  (repeat decreasing_trivial_pre_omega)
  refine o_mul (hp.bn.bits hq.bn h0 h0 (by omega)) ?_
  (repeat decreasing_trivial_pre_omega)
  refine o_mul (hp.bd.bits hq.bd h0 h0 (by omega)) ?_
  (repeat decreasing_trivial_pre_omega)
  refine wp_of_eq (low_eq L rfl (hp.bn.mul hq.bn) (hp.bd.mul hq.bd) hn (Int.mul_ne_zero (den_ne p) (den_ne q))) ?_
  rw [mul_divInt]
  (repeat decreasing_trivial_pre_omega)
  exact ⟨rfl, rfl⟩
theorem lplus_eq (L : Has T "_law_low" 2 4 bd__law_low) (h : Has T "_law_plus" 2 2 bd__law_plus) {p q : Rat} (hp : Sz n p) (hq : Sz n q) (h0 : 0 < n) (hn : n + n + 1 ≤ 9000) :
    (gam T C X (k + 2)).call "_law_plus" [nW p, nW q] s = .ok (nW (p + q)) s := by
  refine eq_of_wp (h.wp rfl ?_)
  unfold bd__law_plus
  (repeat decreasing_trivial_pre_omega)
  refine o_mul (hp.bn.bits hq.bd h0 h0 (by omega)) ?_
  (repeat decreasing_trivial_pre_omega)
  refine o_mul (hq.bn.bits hp.bd h0 h0 (by omega)) ?_
  (repeat decreasing_trivial_pre_omega)
  refine o_mul (hp.bd.bits hq.bd h0 h0 (by omega)) ?_
  (repeat decreasing_trivial_pre_omega)
  refine wp_of_eq (low_eq L rfl ((hp.bn.mul hq.bd).add (hq.bn.mul hp.bd)) ((hp.bd.mul hq.bd).mono (Nat.le_succ _)) hn (Int.mul_ne_zero (den_ne p) (den_ne q))) ?_
  rw [add_divInt]
  (repeat decreasing_trivial_pre_omega)
  exact ⟨rfl, rfl⟩
theorem lless_eq (L : Has T "_law_low" 2 4 bd__law_low) (h : Has T "_law_less" 2 2 bd__law_less) {p q : Rat} (hp : Sz n p) (hq : Sz n q) (h0 : 0 < n) (hn : n + n + 1 ≤ 9000) :
    (gam T C X (k + 2)).call "_law_less" [nW p, nW q] s = .ok (nW (p - q)) s := by
  refine eq_of_wp (h.wp rfl ?_)
  unfold bd__law_less
  (repeat decreasing_trivial_pre_omega)
  refine o_mul (hp.bn.bits hq.bd h0 h0 (by omega)) ?_
  (repeat decreasing_trivial_pre_omega)
  refine o_mul (hq.bn.bits hp.bd h0 h0 (by omega)) ?_
  (repeat decreasing_trivial_pre_omega)
  refine o_mul (hp.bd.bits hq.bd h0 h0 (by omega)) ?_
  (repeat decreasing_trivial_pre_omega)
  refine wp_of_eq (low_eq L rfl ((hp.bn.mul hq.bd).sub (hq.bn.mul hp.bd)) ((hp.bd.mul hq.bd).mono (Nat.le_succ _)) hn (Int.mul_ne_zero (den_ne p) (den_ne q))) ?_
  rw [sub_divInt]
  (repeat decreasing_trivial_pre_omega)
  exact ⟨rfl, rfl⟩
theorem lover_eq (L : Has T "_law_low" 2 4 bd__law_low) (h : Has T "_law_over" 2 2 bd__law_over) {p q : Rat} (hp : Sz n p) (hq : Sz n q) (h0 : 0 < n) (hn : n + n ≤ 9000) (hz : q ≠ 0) :
    (gam T C X (k + 2)).call "_law_over" [nW p, nW q] s = .ok (nW (p / q)) s := by
  refine eq_of_wp (h.wp rfl ?_)
  unfold bd__law_over
  (repeat decreasing_trivial_pre_omega)
  refine o_mul (hp.bn.bits hq.bd h0 h0 (by omega)) ?_
  (repeat decreasing_trivial_pre_omega)
  refine o_mul (hp.bd.bits hq.bn h0 h0 (by omega)) ?_
  (repeat decreasing_trivial_pre_omega)
  refine wp_of_eq (low_eq L rfl (hp.bn.mul hq.bd) (hp.bd.mul hq.bn) hn (Int.mul_ne_zero (den_ne p) (num_ne hz))) ?_
  rw [div_divInt]
  (repeat decreasing_trivial_pre_omega)
  exact ⟨rfl, rfl⟩
end
end Pl
namespace Pl
open PySem Py
local macro_rules | `(tactic| decreasing_trivial_pre_omega) => `(tactic| (first | with_reducible refine x_set ?_ | with_reducible refine x_par2 ?_ | with_reducible refine x_par3 ?_ | with_reducible refine x_ite ?_ | with_reducible refine x_for ?_ | with_reducible refine x_whl ?_ | with_reducible refine x_ret ?_ | with_reducible refine x_retn ?_ | with_reducible refine x_brk ?_ | with_reducible refine x_ct ?_ | with_reducible refine x_pass ?_ | with_reducible refine x_exp ?_ | with_reducible refine x_done ?_ | with_reducible refine nx_nx ?_ | with_reducible refine nx_rt ?_ | with_reducible refine nx_bk ?_ | with_reducible refine nx_ct ?_ | with_reducible refine lp_nx ?_ | with_reducible refine lp_ct ?_ | with_reducible refine lp_bk ?_ | with_reducible refine lp_rt ?_ | with_reducible refine jn_nx ?_ | with_reducible refine jn_rt ?_ | with_reducible refine fn_nx ?_ | with_reducible refine fn_rt ?_ | with_reducible refine e_int ?_ | with_reducible refine e_bl ?_ | with_reducible refine e_non ?_ | with_reducible refine e_str ?_ | with_reducible refine e_bin ?_ | with_reducible refine e_neg ?_ | with_reducible refine e_no ?_ | with_reducible refine e_cmp ?_ | with_reducible refine e_chain ?_ | with_reducible refine e_and ?_ | with_reducible refine e_or ?_ | with_reducible refine e_one ?_ | with_reducible refine e_ite ?_ | with_reducible refine e_tup ?_ | with_reducible refine e_lst ?_ | with_reducible refine e_ix ?_ | with_reducible refine e_sl ?_ | with_reducible refine e_rv ?_ | with_reducible refine e_call ?_ | with_reducible refine e_bi ?_ | with_reducible refine e_mt ?_ | with_reducible refine e_isi ?_ | with_reducible refine e_comp ?_ | with_reducible refine es_nil ?_ | with_reducible refine es_cons ?_ | with_reducible refine eo_nil ?_ | with_reducible refine eo_one ?_ | with_reducible refine t_and ?_ | with_reducible refine t_or ?_ | with_reducible refine t_no ?_ | with_reducible refine t_one ?_ | with_reducible refine t_nil ?_ | with_reducible refine t_cmp ?_ | with_reducible refine t_chain ?_ | with_reducible refine t_call ?_ | with_reducible refine t_bi ?_ | with_reducible refine t_isi ?_ | with_reducible refine x_asg ?_ | with_reducible refine a_sub ?_ | with_reducible refine o_add ?_ | with_reducible refine o_sub ?_ | with_reducible refine o_adb ?_ | with_reducible refine o_lt ?_ | with_reducible refine o_le ?_ | with_reducible refine o_gt ?_ | with_reducible refine o_ge ?_ | with_reducible refine o_eqi ?_ | with_reducible refine o_nei ?_ | with_reducible refine o_isN ?_ | with_reducible refine o_notN ?_ | with_reducible refine o_isB ?_ | with_reducible refine o_notB ?_ | with_reducible refine o_abs ?_ | with_reducible refine o_int ?_ | with_reducible refine o_intb ?_ | with_reducible refine o_max ?_ | with_reducible refine o_min ?_ | with_reducible refine o_neg ?_ | with_reducible refine o_lent ?_ | with_reducible refine ex_bl ?_ | with_reducible refine ex_int ?_ | with_reducible refine bq ?_ | with_reducible refine tq ?_ | with_reducible refine r_ok ?_ | ((with_reducible apply e_var); exact rfl) | ((with_reducible apply x_add); exact rfl) | ((with_reducible apply x_sub); exact rfl) | ((with_reducible apply o_ixt); exact rfl) | ((with_reducible apply o_isi); exact rfl) | ((with_reducible apply t_len); exact rfl) | ((with_reducible apply o_ix); assumption; exact rfl) | ((with_reducible apply e_con); rw [gc]; assumption) | ((with_reducible apply o_len); assumption) | ((with_reducible apply o_list); assumption) | ((with_reducible apply o_tuple); assumption) | ((with_reducible apply o_sl); assumption)))
structure Fr (U : Nat → Prop) (s s' : Sto) : Prop where
  len : s.length ≤ s'.length
  get : ∀ n ws, ¬ U n → s[n]? = some ws → s'[n]? = some ws
theorem Fr.refl {U : Nat → Prop} (s : Sto) : Fr U s s := ⟨Nat.le_refl _, fun _ _ _ h => h⟩
theorem Fr.trans {U : Nat → Prop} {s s' s'' : Sto} (h : Fr U s s') (h' : Fr U s' s'') : Fr U s s'' := ⟨Nat.le_trans h.len h'.len, fun n ws hu e => h'.get n ws hu (h.get n ws hu e)⟩
theorem Fr.imp {U V : Nat → Prop} {s s' : Sto} (h : Fr U s s') (i : ∀ n, U n → V n) : Fr V s s' := ⟨h.len, fun n ws hu e => h.get n ws (fun z => hu (i n z)) e⟩
theorem Fr.app {U : Nat → Prop} (s t : Sto) : Fr U s (s ++ t) := ⟨by rw [List.length_append]; omega, fun n ws _ e => by
  rw [List.getElem?_append_left ((List.getElem?_eq_some_iff.mp e).1)]
  exact e⟩
theorem Fr.set {U : Nat → Prop} {s : Sto} {n : Nat} {ws : List W} (h : U n) : Fr U s (s.set n ws) := ⟨by rw [List.length_set]; exact Nat.le_refl _, fun m us hu e => by
  rw [List.getElem?_set_ne (fun z => hu (by rw [← z]; exact h))]
  exact e⟩
abbrev No : Nat → Prop := fun _ => False
abbrev At (u : Nat) : Nat → Prop := fun n => n = u
theorem Fr.any {U : Nat → Prop} {s s' : Sto} (h : Fr No s s') : Fr U s s' := h.imp fun _ => False.elim
theorem Fr.keep {s s' : Sto} (h : Fr No s s') {n : Nat} {ws : List W} (e : s[n]? = some ws) : s'[n]? = some ws := h.get n ws (fun z => z) e
theorem get_app {s t : Sto} {n : Nat} {ws : List W} (e : s[n]? = some ws) : (s ++ t)[n]? = some ws := (Fr.app (U := No) s t).keep e
theorem get_end {s : Sto} {ws : List W} : (s ++ [ws])[s.length]? = some ws := by simp
theorem get_lt {s : Sto} {n : Nat} {ws : List W} (e : s[n]? = some ws) : n < s.length := (List.getElem?_eq_some_iff.mp e).1
def Urn (s : Sto) (u : Nat) : Prop := ∃ g a p : Int, s[u]? = some [.int g, .int a, .int p] ∧ 0 ≤ g ∧ 0 ≤ a ∧ a < p ∧ p ≤ 1899999979
theorem Urn.keep {U : Nat → Prop} {s s' : Sto} {u : Nat} (h : Urn s u) (f : Fr U s s') (hu : ¬ U u) : Urn s' u := by
  obtain ⟨g, a, p, h1, h2⟩ := h
  exact ⟨g, a, p, f.get _ _ hu h1, h2⟩
section
variable {T : Str → Option Fi} {C : Str → Option W} {X : Str → Bool} {k n : Nat} {s : Sto} {Z : EK} {Q : QK W} {u : Nat}
theorem draw_wp (h : Has T "_law_draw" 2 3 bd__law_draw) (hu : Urn s u) {m : Int} (h0 : 0 < m) (hm : m ≤ 10 ^ 18)
    (q : ∀ d s', 0 ≤ d → d < m → Urn s' u → Fr (At u) s s' → s'.length = s.length → Q (.int d) s') : ((gam T C X (k + 1)).call "_law_draw" [.loc u, .int m] s).wp Q Z := by
  obtain ⟨g, a, p, hs, hg, ha, hp, hP⟩ := hu
  have hul := get_lt hs
  refine h.wp rfl ?_
  unfold bd__law_draw
  (repeat decreasing_trivial_pre_omega)
  refine ⟨fun z => ?_, fun z => ?_⟩
  · (repeat decreasing_trivial_pre_omega)
    refine o_mod (by omega) ?_
    (repeat decreasing_trivial_pre_omega)
    have dv : divOk m = true := by
      unfold divOk
      refine decide_eq_true ⟨by omega, ?_⟩
      have : m.natAbs < 2 ^ 60 := by omega
      have := log2_lt this (by decide)
      omega
    refine o_div dv ?_
    (repeat decreasing_trivial_pre_omega)
    refine ⟨u, _, 0, 0, rfl, rfl, hs, rfl, ?_⟩
    (repeat decreasing_trivial_pre_omega)
    have g0 : 0 < g := of_decide_eq_true z
    refine q _ _ (Int.fmod_nonneg_of_pos _ h0) (Int.fmod_lt_of_pos _ h0) ⟨g.fdiv m, a, p, ?_, ?_, ha, hp, hP⟩ (Fr.set rfl) (List.length_set ..)
    · rw [List.getElem?_set_self hul]
      rfl
    · rw [Int.fdiv_eq_ediv_of_nonneg _ (by omega)]
      exact Int.ediv_nonneg hg (by omega)
  · (repeat decreasing_trivial_pre_omega)
    have bp : Bt 31 a := by
      unfold Bt
      omega
    refine o_mul (bp.bits (m := 20) (by unfold Bt; decide) (by decide) (by decide) (by decide)) ?_
    (repeat decreasing_trivial_pre_omega)
    refine o_mod (by omega) ?_
    (repeat decreasing_trivial_pre_omega)
    refine ⟨u, _, 1, 1, rfl, rfl, hs, rfl, ?_⟩
    have nn : 0 ≤ (a * 60013 + 12289).fmod p := Int.fmod_nonneg_of_pos _ (by omega)
    have nl : (a * 60013 + 12289).fmod p < p := Int.fmod_lt_of_pos _ (by omega)
    generalize (a * 60013 + 12289).fmod p = c at nn nl ⊢
    have hs' : (s.set u ([W.int g, W.int a, W.int p].set 1 (W.int c)))[u]? = some [.int g, .int c, .int p] := by
      rw [List.getElem?_set_self hul]
      rfl
    generalize hS : s.set u ([W.int g, W.int a, W.int p].set 1 (W.int c)) = S at hs' ⊢
    (repeat decreasing_trivial_pre_omega)
    refine o_div (by decide) ?_
    (repeat decreasing_trivial_pre_omega)
    have c16 : c.fdiv 16 = c / 16 := Int.fdiv_eq_ediv_of_nonneg _ (by decide)
    refine o_pow ?_ ?_
    · unfold powOk
      refine decide_eq_true ⟨by decide, by decide, ?_⟩
      rw [c16]
      omega
    (repeat decreasing_trivial_pre_omega)
    refine o_mod (by decide) ?_
    (repeat decreasing_trivial_pre_omega)
    refine o_div (by decide) ?_
    (repeat decreasing_trivial_pre_omega)
    refine o_mod (by omega) ?_
    (repeat decreasing_trivial_pre_omega)
    refine q _ _ (Int.fmod_nonneg_of_pos _ h0) (Int.fmod_lt_of_pos _ h0) ⟨g, c, p, hs', hg, nn, nl, hP⟩ ?_ ?_
    · rw [← hS]
      exact Fr.set rfl
    · rw [← hS]
      exact List.length_set ..
theorem urn_wp (h : Has T "_law_urn" 2 5 bd__law_urn) {ns : List Int} {at_ : Int} (h0 : 0 ≤ at_) (h4 : at_ < 8) (hl : ns.length ≤ 63)
    (q : ∀ s', Urn s' s.length → Fr No s s' → s'.length = s.length + 1 → Q (.loc s.length) s') : ((gam T C X (k + 1)).call "_law_urn" [.cl (ns.map W.int), .int at_] s).wp Q Z := by
  have hL : lsq (.cl (ns.map W.int)) s = some (ns.map W.int) := rfl
  have key : ∀ (cell great prime : Int), 0 ≤ great → prime > 0 → prime ≤ 1899999979 → Q (.loc s.length) (s ++ [[.int great, .int (((cell.fmod prime + 65537 * at_ + 101) ^ 3).fmod prime), .int prime]]) := fun cell great prime h1 h2 h3 => by
    refine q _ ⟨great, _, prime, get_end, h1, Int.fmod_nonneg_of_pos _ h2, Int.fmod_lt_of_pos _ h2, h3⟩ (Fr.app _ _) ?_
    rw [List.length_append]
    rfl
  have hpr : ∃ prime : Int, atW [.int 1899999979, .int 1899998977, .int 1899997949, .int 1899996929, .int 1899995927, .int 1899994903, .int 1899993877, .int 1899992839] (at_.fmod 8) = some (.int prime) ∧ prime > 0 ∧ prime ≤ 1899999979 := by
    have : at_ = 0 ∨ at_ = 1 ∨ at_ = 2 ∨ at_ = 3 ∨ at_ = 4 ∨ at_ = 5 ∨ at_ = 6 ∨ at_ = 7 := by omega
    rcases this with rfl | rfl | rfl | rfl | rfl | rfl | rfl | rfl
    · exact ⟨_, rfl, by decide, by decide⟩
    · exact ⟨_, rfl, by decide, by decide⟩
    · exact ⟨_, rfl, by decide, by decide⟩
    · exact ⟨_, rfl, by decide, by decide⟩
    · exact ⟨_, rfl, by decide, by decide⟩
    · exact ⟨_, rfl, by decide, by decide⟩
    · exact ⟨_, rfl, by decide, by decide⟩
    · exact ⟨_, rfl, by decide, by decide⟩
  obtain ⟨prime, hp1, hp2, hp3⟩ := hpr
  have rest : ∀ cell : Int, (exS (gam T C X k) (.asg (.name 3) (.ix (.tup (.cons (.int 1899999979) (.cons (.int 1899998977) (.cons (.int 1899997949) (.cons (.int 1899996929) (.cons (.int 1899995927) (.cons (.int 1899994903) (.cons (.int 1899993877) (.cons (.int 1899992839) .nil))))))))) (.bin .mod (.var 1) (.int 8))) (.asg (.name 4) (.int 0) (.ite (.cmp .ge (.bi .abs (.cons (.var 2) .nil)) (.bin .pow (.int 10) (.int 18))) (.asg (.name 4) (.bi .abs (.cons (.var 2) .nil)) .done) .done (.ret (.lst (.cons (.var 4) (.cons (.bin .mod (.bin .pow (.bin .add (.bin .add (.bin .mod (.var 2) (.var 3)) (.bin .mul (.int 65537) (.var 1))) (.int 101)) (.int 3)) (.var 3)) (.cons (.var 3) .nil)))) .done))))
      [some (.cl (ns.map W.int)), some (.int at_), some (.int cell), none, none] s).wp (fnQ Q) Z := by
    intro cell
    (repeat decreasing_trivial_pre_omega)
    refine o_mod (by decide) ?_
    refine o_ixt hp1 ?_
    (repeat decreasing_trivial_pre_omega)
    refine o_pow (by decide) ?_
    (repeat decreasing_trivial_pre_omega)
    have c1 : 0 ≤ cell.fmod prime := Int.fmod_nonneg_of_pos _ hp2
    have c2 : cell.fmod prime < prime := Int.fmod_lt_of_pos _ hp2
    have mo : bitsOk 65537 at_ = true := Bt.bits (n := 20) (m := 4) (by unfold Bt; decide) (by unfold Bt; omega) (by decide) (by decide) (by decide)
    have po : powOk (cell.fmod prime + 65537 * at_ + 101) 3 = true := by
      unfold powOk
      refine decide_eq_true ⟨by decide, by decide, ?_⟩
      omega
    refine ⟨fun _ => ?_, fun _ => ?_⟩
    · (repeat decreasing_trivial_pre_omega)
      refine o_mod (by omega) ?_
      (repeat decreasing_trivial_pre_omega)
      refine o_mul mo ?_
      (repeat decreasing_trivial_pre_omega)
      refine o_pow po ?_
      (repeat decreasing_trivial_pre_omega)
      refine o_mod (by omega) ?_
      (repeat decreasing_trivial_pre_omega)
      exact key cell _ prime (by omega) hp2 hp3
    · (repeat decreasing_trivial_pre_omega)
      refine o_mod (by omega) ?_
      (repeat decreasing_trivial_pre_omega)
      refine o_mul mo ?_
      (repeat decreasing_trivial_pre_omega)
      refine o_pow po ?_
      (repeat decreasing_trivial_pre_omega)
      refine o_mod (by omega) ?_
      (repeat decreasing_trivial_pre_omega)
      exact key cell _ prime (by omega) hp2 hp3
  refine h.wp rfl ?_
  unfold bd__law_urn
  (repeat decreasing_trivial_pre_omega)
  refine ⟨fun z => ?_, fun z => ?_⟩
  · have z := of_decide_eq_true z
    rw [List.length_map] at z
    (repeat decreasing_trivial_pre_omega)
    obtain ⟨i, rfl⟩ := Int.eq_ofNat_of_zero_le h0
    have hi : i < ns.length := by omega
    have ha : atW (ns.map W.int) (i : Int) = some (.int ns[i]) := by
      unfold atW
      have : L2.ixN (ns.map W.int).length (i : Int) = some i := by
        unfold L2.ixN
        rw [List.length_map]
        simp [hi]
        try omega
      rw [this, Option.bind_some, List.getElem?_map, List.getElem?_eq_getElem hi]
      rfl
    refine o_ix hL ha ?_
    decreasing_trivial_pre_omega
    decreasing_trivial_pre_omega
    exact rest _
  · decreasing_trivial_pre_omega
    decreasing_trivial_pre_omega
    exact rest 0
end
end Pl
namespace Pl
open PySem Py
local macro_rules | `(tactic| decreasing_trivial_pre_omega) => `(tactic| (first | with_reducible refine x_set ?_ | with_reducible refine x_par2 ?_ | with_reducible refine x_par3 ?_ | with_reducible refine x_ite ?_ | with_reducible refine x_for ?_ | with_reducible refine x_whl ?_ | with_reducible refine x_ret ?_ | with_reducible refine x_retn ?_ | with_reducible refine x_brk ?_ | with_reducible refine x_ct ?_ | with_reducible refine x_pass ?_ | with_reducible refine x_exp ?_ | with_reducible refine x_done ?_ | with_reducible refine nx_nx ?_ | with_reducible refine nx_rt ?_ | with_reducible refine nx_bk ?_ | with_reducible refine nx_ct ?_ | with_reducible refine lp_nx ?_ | with_reducible refine lp_ct ?_ | with_reducible refine lp_bk ?_ | with_reducible refine lp_rt ?_ | with_reducible refine jn_nx ?_ | with_reducible refine jn_rt ?_ | with_reducible refine fn_nx ?_ | with_reducible refine fn_rt ?_ | with_reducible refine e_int ?_ | with_reducible refine e_bl ?_ | with_reducible refine e_non ?_ | with_reducible refine e_str ?_ | with_reducible refine e_bin ?_ | with_reducible refine e_neg ?_ | with_reducible refine e_no ?_ | with_reducible refine e_cmp ?_ | with_reducible refine e_chain ?_ | with_reducible refine e_and ?_ | with_reducible refine e_or ?_ | with_reducible refine e_one ?_ | with_reducible refine e_ite ?_ | with_reducible refine e_tup ?_ | with_reducible refine e_lst ?_ | with_reducible refine e_ix ?_ | with_reducible refine e_sl ?_ | with_reducible refine e_rv ?_ | with_reducible refine e_call ?_ | with_reducible refine e_bi ?_ | with_reducible refine e_mt ?_ | with_reducible refine e_isi ?_ | with_reducible refine e_comp ?_ | with_reducible refine es_nil ?_ | with_reducible refine es_cons ?_ | with_reducible refine eo_nil ?_ | with_reducible refine eo_one ?_ | with_reducible refine t_and ?_ | with_reducible refine t_or ?_ | with_reducible refine t_no ?_ | with_reducible refine t_one ?_ | with_reducible refine t_nil ?_ | with_reducible refine t_cmp ?_ | with_reducible refine t_chain ?_ | with_reducible refine t_call ?_ | with_reducible refine t_bi ?_ | with_reducible refine t_isi ?_ | with_reducible refine x_asg ?_ | with_reducible refine a_sub ?_ | with_reducible refine o_add ?_ | with_reducible refine o_sub ?_ | with_reducible refine o_adb ?_ | with_reducible refine o_lt ?_ | with_reducible refine o_le ?_ | with_reducible refine o_gt ?_ | with_reducible refine o_ge ?_ | with_reducible refine o_eqi ?_ | with_reducible refine o_nei ?_ | with_reducible refine o_isN ?_ | with_reducible refine o_notN ?_ | with_reducible refine o_isB ?_ | with_reducible refine o_notB ?_ | with_reducible refine o_abs ?_ | with_reducible refine o_int ?_ | with_reducible refine o_intb ?_ | with_reducible refine o_max ?_ | with_reducible refine o_min ?_ | with_reducible refine o_neg ?_ | with_reducible refine o_lent ?_ | with_reducible refine ex_bl ?_ | with_reducible refine ex_int ?_ | with_reducible refine bq ?_ | with_reducible refine tq ?_ | with_reducible refine r_ok ?_ | ((with_reducible apply e_var); exact rfl) | ((with_reducible apply x_add); exact rfl) | ((with_reducible apply x_sub); exact rfl) | ((with_reducible apply o_ixt); exact rfl) | ((with_reducible apply o_isi); exact rfl) | ((with_reducible apply t_len); exact rfl) | ((with_reducible apply o_ix); assumption; exact rfl) | ((with_reducible apply e_con); rw [gc]; assumption) | ((with_reducible apply o_len); assumption) | ((with_reducible apply o_list); assumption) | ((with_reducible apply o_tuple); assumption) | ((with_reducible apply o_sl); assumption)))
section
variable {s : Sto} {w : W} {ws : List W}
theorem it_li {i : Nat} (h : lsq w s = some ws) : itAt (.li w) i s = some ws[i]? := by
  show (lsq w s).map (fun ws => ws[i]?) = _
  rw [h]
  rfl
theorem it_enu {i : Nat} (h : lsq w s = some ws) : itAt (.enu w) i s = some ((ws[i]?).map fun x => .tup [.int (i : Nat), x]) := by
  show (lsq w s).map (fun ws => (ws[i]?).map fun x => W.tup [.int (i : Nat), x]) = _
  rw [h]
  rfl
theorem isLi_of (h : lsq w s = some ws) : isLi w s = true := by
  cases w with
  | loc n =>
    show (s[n]?).isSome = true
    rw [show s[n]? = some ws from h]
    rfl
  | cl ws => rfl
  | _ => cases h
theorem src_li (h : lsq w s = some ws) : srcOf .seq [w] s = some (.li w) := by
  have e := isLi_of h
  cases w with
  | loc n =>
    show (if isLi (.loc n) s then some (Src.li (.loc n)) else none) = _
    rw [if_pos e]
  | cl ws => rfl
  | _ => cases h
theorem src_enu (h : lsq w s = some ws) : srcOf .enu [w] s = some (.enu w) := by
  show (if isLi w s then some (Src.enu w) else none) = _
  rw [if_pos (isLi_of h)]
theorem src_r1 {j : Int} (h : lim62 j = true) : srcOf .rng1 [.int j] s = some (.rng 0 1 j.toNat) := by
  show (if lim62 j then some (Src.rng 0 1 j.toNat) else none) = _
  rw [if_pos h]
theorem src_r2 {i j : Int} (h : lim62 i = true) (h' : lim62 j = true) : srcOf .rng2 [.int i, .int j] s = some (.rng i 1 (j - i).toNat) := by
  show (if lim62 i && lim62 j then some (Src.rng i 1 (j - i).toNat) else none) = _
  rw [h, h']
  rfl
theorem it_rng {lo c : Int} {n i : Nat} (h : i < n) : itAt (.rng lo c n) i s = some (some (.int (lo + (i : Nat) * c))) := by
  show some (if i < n then some (W.int (lo + (i : Nat) * c)) else none) = _
  rw [if_pos h]
theorem it_rng0 {lo c : Int} {n : Nat} : itAt (.rng lo c n) n s = some none := by
  show some (if n < n then some (W.int (lo + (n : Nat) * c)) else none) = _
  rw [if_neg (Nat.lt_irrefl n)]
theorem atW_nat {i : Nat} {u : W} (h : ws[i]? = some u) : atW ws (i : Int) = some u := by
  have hi := (List.getElem?_eq_some_iff.mp h).1
  unfold atW
  have : L2.ixN ws.length (i : Int) = some i := by
    unfold L2.ixN
    rw [if_pos (by omega), if_pos (by omega)]
    rfl
  rw [this, Option.bind_some, h]
theorem ixN_nat {n i : Nat} (h : i < n) : L2.ixN n (i : Int) = some i := by
  unfold L2.ixN
  rw [if_pos (by omega), if_pos (by omega)]
  rfl
theorem atW_last {u : W} : atW (ws ++ [u]) (-1) = some u := by
  unfold atW
  have : L2.ixN (ws ++ [u]).length (-1) = some ws.length := by
    unfold L2.ixN
    rw [if_neg (by decide), List.length_append, List.length_singleton, if_pos (by omega)]
    congr 1
    omega
  rw [this, Option.bind_some]
  simp
theorem pW_get {p : List Rat} {i : Nat} (h : i < p.length) : (pW p)[i]? = some (nW p[i]) := by
  rw [List.getElem?_map, List.getElem?_eq_getElem h]
  rfl
theorem cut_take {n : Nat} : cutW ws none (some (n : Int)) = ws.take n := by
  unfold cutW
  rw [HT.sIx_nat, HT.sIx_none, List.drop_zero, Nat.sub_zero, List.take_eq_take_iff]
  omega
theorem comp_pure {Q : QK (List W)} {Z : EK} {f : W → Sto → R (Option W)} {src : Src} {N n : Nat} {v : Nat → W} (hN : n < N) (hn : n ≤ sizeLine)
    (it : ∀ i, i < n → ∃ w, itAt src i s = some (some w) ∧ (f w s).wp (fun o s' => o = some (v i) ∧ s' = s) Z) (fin : itAt src n s = some none) (q : Q ((List.range n).map v) s) : (compL f N src 0 [] s).wp Q Z := by
  refine comp_wp n (fun i acc s' => acc = (List.range i).map v ∧ s' = s) (fun i acc s' hi h => ?_) (fun acc s' h => ?_) hn N 0 [] s (Nat.zero_le _) (by omega) ⟨rfl, rfl⟩
  · obtain ⟨rfl, rfl⟩ := h
    obtain ⟨w, h1, h2⟩ := it i hi
    refine ⟨w, h1, by simp, h2.mono fun o s'' h => ?_⟩
    obtain ⟨rfl, rfl⟩ := h
    exact ⟨by rw [List.range_succ, List.map_append]; rfl, rfl⟩
  · obtain ⟨rfl, rfl⟩ := h
    exact ⟨fin, q⟩
end
structure Nw (s s' : Sto) (m : Nat) (ws : List W) : Prop where
  fr : Fr No s s'
  at_ : s'[m]? = some ws
  ge : s.length ≤ m
theorem Nw.end {s : Sto} {ws : List W} : Nw s (s ++ [ws]) s.length ws := ⟨Fr.app _ _, get_end, Nat.le_refl _⟩
theorem Nw.pre {s s1 s2 : Sto} {m : Nat} {ws : List W} (f : Fr No s s1) (h : Nw s1 s2 m ws) : Nw s s2 m ws := ⟨f.trans h.fr, h.at_, Nat.le_trans f.len h.ge⟩
theorem Nw.post {s s1 s2 : Sto} {m : Nat} {ws : List W} (h : Nw s s1 m ws) (f : Fr No s1 s2) : Nw s s2 m ws := ⟨h.fr.trans f, f.keep h.at_, h.ge⟩
def trim : List Rat → List Rat
  | [] => []
  | a :: p => if a = 0 ∧ trim p = [] then [] else a :: trim p
theorem trim_zero : ∀ p : List Rat, trim (p ++ [0]) = trim p
  | [] => by rw [List.nil_append, trim, trim, if_pos ⟨rfl, rfl⟩]
  | a :: p => by rw [List.cons_append, trim, trim, trim_zero p]
theorem trim_last {a : Rat} (h : a ≠ 0) : ∀ p : List Rat, trim (p ++ [a]) = p ++ [a]
  | [] => by rw [List.nil_append, trim, trim, if_neg (fun z => h z.1)]
  | b :: p => by
    rw [List.cons_append, trim, trim_last h p, if_neg (fun z => by simp at z)]
theorem trim_trim : ∀ p : List Rat, trim (trim p) = trim p
  | [] => rfl
  | a :: p => by
    rw [trim]
    split
    · rfl
    · rename_i h
      rw [trim, trim_trim p, if_neg h]
theorem trim_len : ∀ p : List Rat, (trim p).length ≤ p.length
  | [] => Nat.le_refl _
  | a :: p => by
    rw [trim]
    split
    · exact Nat.zero_le _
    · have := trim_len p
      simp only [List.length_cons]
      omega
theorem trim_mem {q : Rat} : ∀ {p : List Rat}, q ∈ trim p → q ∈ p
  | [], h => h
  | a :: p, h => by
    rw [trim] at h
    split at h
    · cases h
    · rcases List.mem_cons.mp h with rfl | h
      · exact List.mem_cons_self
      · exact List.mem_cons_of_mem _ (trim_mem h)
def Sp (n : Nat) (p : List Rat) : Prop := ∀ q ∈ p, Sz n q
theorem Sp.trim {n : Nat} {p : List Rat} (h : Sp n p) : Sp n (trim p) := fun q hq => h q (trim_mem hq)
theorem Sp.mono {n m : Nat} {p : List Rat} (h : Sp n p) (l : n ≤ m) : Sp m p := fun q hq => (h q hq).mono l
section
variable {T : Str → Option Fi} {C : Str → Option W} {X : Str → Bool} {k n : Nat} {s : Sto} {Z : EK} {Q : QK W} {u : Nat}
theorem poly_wp (h : Has T "poly" 1 2 bd_poly) (hc : C "NOUGHT" = some (nW 0)) {w : W} {p : List Rat} (hw : lsq w s = some (pW p)) (hl : p.length ≤ sizeLine)
    (q : ∀ m s', Nw s s' m (pW (trim p)) → Q (.loc m) s') : ((gam T C X (k + 1)).call "poly" [w] s).wp Q Z := by
  refine h.wp rfl ?_
  unfold bd_poly
  (repeat decreasing_trivial_pre_omega)
  refine while_wp (fun m e s' => ∃ many : Nat, m = many ∧ e = [some w, some (.int many)] ∧ s' = s ∧ many ≤ p.length ∧ trim (p.take many) = trim p) (fun many e s' hI => ?_) big p.length _ _ ?_ ?_
  · obtain ⟨_, rfl, rfl, rfl, hm, ht⟩ := hI
    have fin : (many = 0 ∨ ∃ h : many - 1 < p.length, p[many - 1] ≠ 0) → p.take many = trim p := fun hh => by
      rw [← ht]
      rcases hh with rfl | ⟨h1, h2⟩
      · rw [List.take_zero]
        rfl
      · by_cases h0 : many = 0
        · subst h0
          rw [List.take_zero]
          rfl
        · have e : p.take many = p.take (many - 1) ++ [p[many - 1]] := by
            have := List.take_succ_eq_append_getElem h1
            rw [show many - 1 + 1 = many from by omega] at this
            exact this
          rw [e, trim_last h2]
    have out : p.take many = trim p → (exS (gam T C X k) (.ret (.bi .list (.cons (.sl (.var 0) .nil (.one (.var 1))) .nil)) .done) [some w, some (.int many)] s').wp (fnQ Q) Z := fun e => by
      (repeat decreasing_trivial_pre_omega)
      rw [cut_take]
      refine o_list (ws := (pW p).take many) get_end ?_
      (repeat decreasing_trivial_pre_omega)
      refine q _ _ ⟨(Fr.app s' _).trans (Fr.app _ _), ?_, ?_⟩
      · rw [← e, show pW (p.take many) = (pW p).take many from List.map_take]
        exact get_end
      · rw [List.length_append]
        omega
    (repeat decreasing_trivial_pre_omega)
    refine ⟨fun z => ?_, fun z => ?_⟩
    · have hpos : 0 < many := by
        have := of_decide_eq_true z
        omega
      have hi : many - 1 < p.length := by omega
      (repeat decreasing_trivial_pre_omega)
      have ec : ((many : Int) - 1) = ((many - 1 : Nat) : Int) := by omega
      rw [ec]
      refine o_ix hw (atW_nat (pW_get hi)) ?_
      (repeat decreasing_trivial_pre_omega)
      refine o_eq (eqW_n _ _ _) ?_
      (repeat decreasing_trivial_pre_omega)
      refine ⟨fun z => ?_, fun z => ?_⟩
      · have z0 := of_decide_eq_true z
        (repeat decreasing_trivial_pre_omega)
        refine ⟨many - 1, by omega, many - 1, rfl, ?_, rfl, by omega, ?_⟩
        · show [some w, some (W.int ((many : Int) - 1))] = _
          rw [ec]
        · rw [← ht]
          have := List.take_succ_eq_append_getElem hi
          rw [show many - 1 + 1 = many from by omega, z0] at this
          rw [this, trim_zero]
      · exact out (fin (.inr ⟨hi, of_decide_eq_false z⟩))
    · refine ⟨(fun z => by cases z), fun _ => ?_⟩
      exact out (fin (.inl (by
        have := of_decide_eq_false z
        omega)))
  · unfold big
    have : sizeLine ≤ 2 ^ 40 := by decide
    omega
  · refine ⟨p.length, rfl, ?_, rfl, Nat.le_refl _, by rw [List.take_length]⟩
    show [some w, some (W.int (pW p).length)] = _
    rw [List.length_map]
end
end Pl
namespace Pl
open PySem Py
local macro_rules | `(tactic| decreasing_trivial_pre_omega) => `(tactic| (first | with_reducible refine x_set ?_ | with_reducible refine x_par2 ?_ | with_reducible refine x_par3 ?_ | with_reducible refine x_ite ?_ | with_reducible refine x_for ?_ | with_reducible refine x_whl ?_ | with_reducible refine x_ret ?_ | with_reducible refine x_retn ?_ | with_reducible refine x_brk ?_ | with_reducible refine x_ct ?_ | with_reducible refine x_pass ?_ | with_reducible refine x_exp ?_ | with_reducible refine x_done ?_ | with_reducible refine nx_nx ?_ | with_reducible refine nx_rt ?_ | with_reducible refine nx_bk ?_ | with_reducible refine nx_ct ?_ | with_reducible refine lp_nx ?_ | with_reducible refine lp_ct ?_ | with_reducible refine lp_bk ?_ | with_reducible refine lp_rt ?_ | with_reducible refine jn_nx ?_ | with_reducible refine jn_rt ?_ | with_reducible refine fn_nx ?_ | with_reducible refine fn_rt ?_ | with_reducible refine e_int ?_ | with_reducible refine e_bl ?_ | with_reducible refine e_non ?_ | with_reducible refine e_str ?_ | with_reducible refine e_bin ?_ | with_reducible refine e_neg ?_ | with_reducible refine e_no ?_ | with_reducible refine e_cmp ?_ | with_reducible refine e_chain ?_ | with_reducible refine e_and ?_ | with_reducible refine e_or ?_ | with_reducible refine e_one ?_ | with_reducible refine e_ite ?_ | with_reducible refine e_tup ?_ | with_reducible refine e_lst ?_ | with_reducible refine e_ix ?_ | with_reducible refine e_sl ?_ | with_reducible refine e_rv ?_ | with_reducible refine e_call ?_ | with_reducible refine e_bi ?_ | with_reducible refine e_mt ?_ | with_reducible refine e_isi ?_ | with_reducible refine e_comp ?_ | with_reducible refine es_nil ?_ | with_reducible refine es_cons ?_ | with_reducible refine eo_nil ?_ | with_reducible refine eo_one ?_ | with_reducible refine t_and ?_ | with_reducible refine t_or ?_ | with_reducible refine t_no ?_ | with_reducible refine t_one ?_ | with_reducible refine t_nil ?_ | with_reducible refine t_cmp ?_ | with_reducible refine t_chain ?_ | with_reducible refine t_call ?_ | with_reducible refine t_bi ?_ | with_reducible refine t_isi ?_ | with_reducible refine x_asg ?_ | with_reducible refine a_sub ?_ | with_reducible refine o_add ?_ | with_reducible refine o_sub ?_ | with_reducible refine o_adb ?_ | with_reducible refine o_lt ?_ | with_reducible refine o_le ?_ | with_reducible refine o_gt ?_ | with_reducible refine o_ge ?_ | with_reducible refine o_eqi ?_ | with_reducible refine o_nei ?_ | with_reducible refine o_isN ?_ | with_reducible refine o_notN ?_ | with_reducible refine o_isB ?_ | with_reducible refine o_notB ?_ | with_reducible refine o_abs ?_ | with_reducible refine o_int ?_ | with_reducible refine o_intb ?_ | with_reducible refine o_max ?_ | with_reducible refine o_min ?_ | with_reducible refine o_neg ?_ | with_reducible refine o_lent ?_ | with_reducible refine ex_bl ?_ | with_reducible refine ex_int ?_ | with_reducible refine bq ?_ | with_reducible refine tq ?_ | with_reducible refine r_ok ?_ | ((with_reducible apply e_var); exact rfl) | ((with_reducible apply x_add); exact rfl) | ((with_reducible apply x_sub); exact rfl) | ((with_reducible apply o_ixt); exact rfl) | ((with_reducible apply o_isi); exact rfl) | ((with_reducible apply t_len); exact rfl) | ((with_reducible apply o_ix); assumption; exact rfl) | ((with_reducible apply e_con); rw [gc]; assumption) | ((with_reducible apply o_len); assumption) | ((with_reducible apply o_list); assumption) | ((with_reducible apply o_tuple); assumption) | ((with_reducible apply o_sl); assumption)))
theorem Fr.setge {U : Nat → Prop} {s s' : Sto} {m : Nat} {ws : List W} (h : Fr U s s') (hm : s.length ≤ m) : Fr U s (s'.set m ws) := ⟨by rw [List.length_set]; exact h.len, fun n us hu e => by
  have := get_lt e
  rw [List.getElem?_set_ne (by omega)]
  exact h.get n us hu e⟩
theorem snoc {α : Type} {p : List α} (h : p ≠ []) : ∃ r a, p = r ++ [a] := ⟨p.dropLast, p.getLast h, (List.dropLast_concat_getLast h).symm⟩
section
variable {T : Str → Option Fi} {C : Str → Option W} {X : Str → Bool} {k n : Nat} {s : Sto} {Z : EK} {Q : QK W} {u : Nat}
theorem ltrim_wp (h : Has T "_law_trim" 1 2 bd__law_trim) {w : W} {p : List Rat} (hw : lsq w s = some (pW p)) (hl : p.length ≤ sizeLine)
    (q : ∀ m s', Nw s s' m (pW (trim p)) → Q (.loc m) s') : ((gam T C X (k + 1)).call "_law_trim" [w] s).wp Q Z := by
  refine h.wp rfl ?_
  unfold bd__law_trim
  (repeat decreasing_trivial_pre_omega)
  refine while_wp (fun m e s' => ∃ r : List Rat, m = r.length ∧ e = [some w, some (.loc s.length)] ∧ Fr No s s' ∧ s'[s.length]? = some (pW r) ∧ trim r = trim p) (fun m e s' hI => ?_) big p.length _ _ ?_ ?_
  · obtain ⟨r, rfl, rfl, hf, hm, ht⟩ := hI
    have hm' : lsq (.loc s.length) (s' ++ [[]]) = some (pW r) := get_app hm
    have hn' : lsq (.loc s'.length) (s' ++ [[]]) = some (pW []) := get_end
    have hf' : Fr No s (s' ++ [[]]) := hf.trans (Fr.app _ _)
    (repeat decreasing_trivial_pre_omega)
    refine o_ne (eqW_p hm' hn') ?_
    (repeat decreasing_trivial_pre_omega)
    refine ⟨fun z => ?_, fun z => ?_⟩
    · have hr : r ≠ [] := fun e => by
        subst e
        cases z
      obtain ⟨r', a, rfl⟩ := snoc hr
      have hm2 : lsq (.loc s.length) (s' ++ [[]]) = some (pW r' ++ [nW a]) := by
        rw [hm']
        show some ((r' ++ [a]).map nW) = _
        rw [List.map_append]
        rfl
      (repeat decreasing_trivial_pre_omega)
      refine o_ix hm2 atW_last ?_
      (repeat decreasing_trivial_pre_omega)
      refine ⟨fun z => ?_, fun z => ?_⟩
      · have a0 : a = 0 := Rat.num_eq_zero.mp (of_decide_eq_true z)
        subst a0
        (repeat decreasing_trivial_pre_omega)
        refine ⟨by
          show ((s' ++ [[]])[s.length]?).isSome = true
          rw [show (s' ++ [[]])[s.length]? = _ from hm2]
          rfl, ?_⟩
        (repeat decreasing_trivial_pre_omega)
        refine o_pop hm2 ?_
        (repeat decreasing_trivial_pre_omega)
        refine ⟨r'.length, by simp, r', rfl, rfl, hf'.setge (Nat.le_refl _), ?_, by rw [← ht, trim_zero]⟩
        rw [List.getElem?_set_self (get_lt hm2)]
      · have a0 : a ≠ 0 := fun e => by
          subst e
          cases z
        (repeat decreasing_trivial_pre_omega)
        rw [trim_last a0] at ht
        rw [ht] at hm'
        exact q _ _ ⟨hf', hm', Nat.le_refl _⟩
    · have hr : r = [] := by
        cases r with
        | nil => rfl
        | cons _ _ => cases z
      subst hr
      refine ⟨(fun z => by cases z), fun _ => ?_⟩
      (repeat decreasing_trivial_pre_omega)
      refine q _ _ ⟨hf', ?_, Nat.le_refl _⟩
      rw [← ht]
      exact hm'
  · unfold big
    have : sizeLine ≤ 2 ^ 40 := by decide
    omega
  · exact ⟨p, rfl, rfl, Fr.app _ _, get_end, rfl⟩
theorem pw6 : (10 : Int) ^ (6 : Int).toNat = 1000000 := rfl
theorem kind_wp (D : Has T "_law_draw" 2 3 bd__law_draw) (h : Has T "_law_kind" 1 1 bd__law_kind) (hu : Urn s u) (q : ∀ (i : Int) s', (i = 0 ∨ i = 1 ∨ i = 2) → Urn s' u → Fr (At u) s s' → Q (.int i) s') :
    ((gam T C X (k + 2)).call "_law_kind" [.loc u] s).wp Q Z := by
  refine h.wp rfl ?_
  unfold bd__law_kind
  (repeat decreasing_trivial_pre_omega)
  have hul := (hu.elim fun _ h => h.elim fun _ h => h.elim fun _ h => get_lt h.1)
  refine draw_wp D (hu.keep (Fr.app (U := No) _ _) (fun z => z)) (by decide) (by decide) fun d s' d0 d1 hu' hf hl' => ?_
  have e : s'[s.length]? = some [.int 0, .int 1, .int 0, .int 1, .int 0, .int 1, .int 0, .int 2] := hf.get _ _ (by show ¬ (s.length = u); omega) get_end
  have fin : Fr (At u) s s' := (Fr.app _ _).trans hf
  have : d = 0 ∨ d = 1 ∨ d = 2 ∨ d = 3 ∨ d = 4 ∨ d = 5 ∨ d = 6 ∨ d = 7 := by omega
  rcases this with rfl | rfl | rfl | rfl | rfl | rfl | rfl | rfl
  · refine o_ix e rfl ?_
    (repeat decreasing_trivial_pre_omega)
    exact q _ _ (.inl rfl) hu' fin
  · refine o_ix e rfl ?_
    (repeat decreasing_trivial_pre_omega)
    exact q _ _ (.inr (.inl rfl)) hu' fin
  · refine o_ix e rfl ?_
    (repeat decreasing_trivial_pre_omega)
    exact q _ _ (.inl rfl) hu' fin
  · refine o_ix e rfl ?_
    (repeat decreasing_trivial_pre_omega)
    exact q _ _ (.inr (.inl rfl)) hu' fin
  · refine o_ix e rfl ?_
    (repeat decreasing_trivial_pre_omega)
    exact q _ _ (.inl rfl) hu' fin
  · refine o_ix e rfl ?_
    (repeat decreasing_trivial_pre_omega)
    exact q _ _ (.inr (.inl rfl)) hu' fin
  · refine o_ix e rfl ?_
    (repeat decreasing_trivial_pre_omega)
    exact q _ _ (.inl rfl) hu' fin
  · refine o_ix e rfl ?_
    (repeat decreasing_trivial_pre_omega)
    exact q _ _ (.inr (.inr rfl)) hu' fin
theorem number_wp (D : Has T "_law_draw" 2 3 bd__law_draw) (L : Has T "_law_low" 2 4 bd__law_low) (h : Has T "_law_number" 2 3 bd__law_number) (hu : Urn s u) {kd : Int}
    (q : ∀ r s', Sz 40 r → Urn s' u → Fr (At u) s s' → Q (nW r) s') : ((gam T C X (k + 2)).call "_law_number" [.loc u, .int kd] s).wp Q Z := by
  refine h.wp rfl ?_
  unfold bd__law_number
  (repeat decreasing_trivial_pre_omega)
  refine ⟨fun z => ?_, fun z => ?_⟩
  · (repeat decreasing_trivial_pre_omega)
    refine o_pow (by decide) ?_
    rw [pw6]
    (repeat decreasing_trivial_pre_omega)
    refine draw_wp D hu (by decide) (by decide) fun d1 s1 a1 b1 hu1 f1 l1 => ?_
    (repeat decreasing_trivial_pre_omega)
    refine o_pow (by decide) ?_
    rw [pw6]
    refine o_mul (Bt.bits (n := 20) (m := 20) (by unfold Bt; omega) (by unfold Bt; decide) (by decide) (by decide) (by decide)) ?_
    (repeat decreasing_trivial_pre_omega)
    refine o_pow (by decide) ?_
    rw [pw6]
    (repeat decreasing_trivial_pre_omega)
    refine draw_wp D hu1 (by decide) (by decide) fun d2 s2 a2 b2 hu2 f2 l2 => ?_
    (repeat decreasing_trivial_pre_omega)
    have hul := (hu2.elim fun _ h => h.elim fun _ h => h.elim fun _ h => get_lt h.1)
    refine draw_wp D (hu2.keep (Fr.app (U := No) _ _) (fun z => z)) (by decide) (by decide) fun d3 s3 a3 b3 hu3 f3 l3 => ?_
    have e : s3[s2.length]? = some [.int 1, .int (-1)] := f3.get _ _ (by show ¬ (s2.length = u); omega) get_end
    have F3 : Fr (At u) s s3 := (f1.trans f2).trans ((Fr.app _ _).trans f3)
    have go : ∀ i : Int, (i = 1 ∨ i = -1) → atW [.int 1, .int (-1)] d3 = some (.int i) → ((ixW (.loc s2.length) (.int d3) s3).wp (fun u_1 s2_1 => (bop .mul (.int (d1 * 1000000 + d2)) u_1 s2_1).wp (fun w s1 => (evs (gam T C X (k + 1)) (.cons (.bin .add (.int 1) (.bin .mul (.call "_law_draw" (.cons (.var 0) (.cons (.bin .pow (.int 10) (.int 6)) .nil))) (.bin .pow (.int 10) (.int 6)))) .nil) [some (.loc u), some (.int kd), some (.int (d1 * 1000000 + d2))] s1).wp (fun ws s2 => ((gam T C X (k + 1)).call "_law_low" (w :: ws) s2).wp (fun w s1 => fnQ Q (.rt w) s1) Z) Z) Z) Z) := fun i hi hat => by
      refine o_ix e hat ?_
      refine o_mul (Bt.bits (n := 40) (m := 1) (by unfold Bt; omega) (by unfold Bt; omega) (by decide) (by decide) (by decide)) ?_
      (repeat decreasing_trivial_pre_omega)
      refine o_pow (by decide) ?_
      rw [pw6]
      (repeat decreasing_trivial_pre_omega)
      refine draw_wp D hu3 (by decide) (by decide) fun d4 s4 a4 b4 hu4 f4 l4 => ?_
      (repeat decreasing_trivial_pre_omega)
      refine o_pow (by decide) ?_
      rw [pw6]
      refine o_mul (Bt.bits (n := 20) (m := 20) (by unfold Bt; omega) (by unfold Bt; decide) (by decide) (by decide) (by decide)) ?_
      (repeat decreasing_trivial_pre_omega)
      have hb : Bt 40 (1 + d4 * 1000000) := by unfold Bt; omega
      have ht : Bt 40 ((d1 * 1000000 + d2) * i) := by
        unfold Bt
        rcases hi with rfl | rfl <;> omega
      refine wp_of_eq (low_eq L rfl ht hb (by decide) (by omega)) ?_
      (repeat decreasing_trivial_pre_omega)
      exact q _ _ (Sz.of ht hb (by decide)) hu4 (F3.trans f4)
    have : d3 = 0 ∨ d3 = 1 := by omega
    rcases this with rfl | rfl
    · exact go 1 (.inl rfl) rfl
    · exact go (-1) (.inr rfl) rfl
  · (repeat decreasing_trivial_pre_omega)
    refine draw_wp D hu (by decide) (by decide) fun d1 s1 a1 b1 hu1 f1 l1 => ?_
    (repeat decreasing_trivial_pre_omega)
    refine draw_wp D hu1 (by decide) (by decide) fun d2 s2 a2 b2 hu2 f2 l2 => ?_
    (repeat decreasing_trivial_pre_omega)
    have hi : ∀ b : Bool, (if b then (1 : Int) else 0) = 1 ∨ (if b then (1 : Int) else 0) = 0 := fun b => by cases b <;> simp
    generalize hx : (if decide (kd = 0) = true then (1 : Int) else 0) = x
    have hx' : x = 1 ∨ x = 0 := by rw [← hx]; exact hi _
    refine o_mul (Bt.bits (n := 20) (m := 20) (by unfold Bt; omega) (by unfold Bt; omega) (by decide) (by decide) (by decide)) ?_
    (repeat decreasing_trivial_pre_omega)
    have ht : Bt 40 (d1 - 9) := by unfold Bt; omega
    have hb : Bt 40 (1 + d2 * x) := by
      unfold Bt
      rcases hx' with rfl | rfl <;> omega
    have hb0 : 1 + d2 * x ≠ 0 := by rcases hx' with rfl | rfl <;> omega
    refine wp_of_eq (low_eq L rfl ht hb (by decide) hb0) ?_
    (repeat decreasing_trivial_pre_omega)
    exact q _ _ (Sz.of ht hb (by decide)) hu2 (f1.trans f2)
theorem other_wp (D : Has T "_law_draw" 2 3 bd__law_draw) (L : Has T "_law_low" 2 4 bd__law_low) (h' : Has T "_law_number" 2 3 bd__law_number) (h : Has T "_law_other" 2 3 bd__law_other) (hu : Urn s u) {kd : Int}
    (q : ∀ r s', r ≠ 0 → Sz 40 r → Urn s' u → Fr (At u) s s' → Q (nW r) s') : ((gam T C X (k + 3)).call "_law_other" [.loc u, .int kd] s).wp Q Z := by
  refine h.wp rfl ?_
  unfold bd__law_other
  (repeat decreasing_trivial_pre_omega)
  refine number_wp D L h' hu fun r s1 hr hu1 f1 => ?_
  (repeat decreasing_trivial_pre_omega)
  refine ⟨fun z => ?_, fun z => ?_⟩
  · (repeat decreasing_trivial_pre_omega)
    refine draw_wp D hu1 (by decide) (by decide) fun d2 s2 a2 b2 hu2 f2 l2 => ?_
    (repeat decreasing_trivial_pre_omega)
    have e : W.tup [.int (1 + d2), .int 1] = nW ((1 + d2 : Int) : Rat) := rfl
    rw [e]
    refine q _ _ ?_ ⟨?_, ?_⟩ hu2 (f1.trans f2)
    · intro z
      have := congrArg Rat.num z
      rw [show (((1 + d2 : Int) : Rat)).num = 1 + d2 from rfl] at this
      have e0 : (0 : Rat).num = 0 := rfl
      omega
    · show (1 + d2).natAbs < 2 ^ 40
      omega
    · show 1 < 2 ^ 40
      decide
  · (repeat decreasing_trivial_pre_omega)
    refine q _ _ (fun e => ?_) hr hu1 f1
    subst e
    cases z
theorem whole_eq (h : Has T "_law_whole" 1 1 bd__law_whole) {i : Int} : (gam T C X (k + 1)).call "_law_whole" [.int i] s = .ok (.bl true) s := by
  refine eq_of_wp (h.wp rfl ?_)
  unfold bd__law_whole
  (repeat decreasing_trivial_pre_omega)
  refine ⟨fun _ => ?_, fun z => by cases z⟩
  (repeat decreasing_trivial_pre_omega)
  exact ⟨rfl, rfl⟩
theorem isnum_eq (L : Has T "_law_low" 2 4 bd__law_low) (Wh : Has T "_law_whole" 1 1 bd__law_whole) (h : Has T "_law_is_number" 1 1 bd__law_is_number) {r : Rat} (hr : Sz n r) (hn : n ≤ 9000) :
    (gam T C X (k + 2)).call "_law_is_number" [nW r] s = .ok (.bl true) s := by
  refine eq_of_wp (h.wp rfl ?_)
  unfold bd__law_is_number
  (repeat decreasing_trivial_pre_omega)
  refine ⟨(fun z => by cases z), fun _ => ?_⟩
  (repeat decreasing_trivial_pre_omega)
  refine ⟨(fun z => by cases z), fun _ => ?_⟩
  (repeat decreasing_trivial_pre_omega)
  refine wp_of_eq (whole_eq Wh) ?_
  (repeat decreasing_trivial_pre_omega)
  refine ⟨(fun z => by cases z), fun _ => ?_⟩
  (repeat decreasing_trivial_pre_omega)
  refine wp_of_eq (whole_eq Wh) ?_
  (repeat decreasing_trivial_pre_omega)
  refine ⟨(fun z => by cases z), fun _ => ?_⟩
  (repeat decreasing_trivial_pre_omega)
  refine ⟨fun _ => ?_, fun z => ?_⟩
  · (repeat decreasing_trivial_pre_omega)
    refine wp_of_eq (low_eq L rfl hr.bn hr.bd hn (den_ne r)) ?_
    (repeat decreasing_trivial_pre_omega)
    refine o_eq (eqW_n _ _ _) ?_
    (repeat decreasing_trivial_pre_omega)
    rw [nW_divInt]
    exact ⟨by rw [decide_eq_true rfl], rfl⟩
  · have := den_ne r
    have := of_decide_eq_false z
    omega
theorem bools_all : ∀ n : Nat, bools ((List.range n).map fun _ => W.bl true) = some ((List.range n).map fun _ => true) := by
  have : ∀ l : List Nat, bools (l.map fun _ => W.bl true) = some (l.map fun _ => true) := by
    intro l
    induction l with
    | nil => rfl
    | cons a l ih =>
      show (bools (l.map fun _ => W.bl true)).map (true :: ·) = _
      rw [ih]
      rfl
  exact fun n => this _
theorem all_true (n : Nat) : (((List.range n).map fun _ => true).all id) = true := by
  rw [List.all_eq_true]
  intro x hx
  obtain ⟨_, _, rfl⟩ := List.mem_map.mp hx
  rfl
theorem ispoly_wp (L : Has T "_law_low" 2 4 bd__law_low) (Wh : Has T "_law_whole" 1 1 bd__law_whole) (In : Has T "_law_is_number" 1 1 bd__law_is_number) (Tr : Has T "_law_trim" 1 2 bd__law_trim) (h : Has T "_law_is_poly" 1 2 bd__law_is_poly)
    {m : Nat} {p : List Rat} (hm : s[m]? = some (pW p)) (hs : Sp n p) (hn : n ≤ 9000) (ht : trim p = p) (hl : p.length ≤ sizeLine) (q : ∀ s', Fr No s s' → Q (.bl true) s') :
    ((gam T C X (k + 3)).call "_law_is_poly" [.loc m] s).wp Q Z := by
  refine h.wp rfl ?_
  unfold bd__law_is_poly
  have hm : lsq (.loc m) s = some (pW p) := hm
  (repeat decreasing_trivial_pre_omega)
  refine ⟨fun _ => ?_, fun z => by cases z⟩
  (repeat decreasing_trivial_pre_omega)
  refine ⟨_, src_li hm, ?_⟩
  refine comp_pure (n := p.length) (v := fun _ => .bl true) (by unfold big; have : sizeLine ≤ 2 ^ 40 := by decide
                                                                omega) hl (fun i hi => ⟨_, (it_li hm).trans (by rw [pW_get hi]), ?_⟩) (by rw [it_li hm, List.getElem?_eq_none (by rw [List.length_map]; exact Nat.le_refl _)]) ?_
  · refine compF_wp (e' := [some (.loc m), some (nW p[i])]) rfl ?_
    (repeat decreasing_trivial_pre_omega)
    refine ⟨fun _ => ?_, fun z => by cases z⟩
    (repeat decreasing_trivial_pre_omega)
    refine wp_of_eq (isnum_eq L Wh In (hs _ (List.getElem_mem hi)) hn) ?_
    exact ⟨rfl, rfl⟩
  · refine o_all (show lsq (.loc s.length) _ = _ from get_end) (bools_all _) ?_
    rw [all_true]
    (repeat decreasing_trivial_pre_omega)
    refine ⟨fun _ => ?_, fun z => by cases z⟩
    (repeat decreasing_trivial_pre_omega)
    refine ltrim_wp Tr (show lsq (.loc m) _ = _ from get_app hm) hl fun m' s' N => ?_
    (repeat decreasing_trivial_pre_omega)
    rw [ht] at N
    refine o_eq (eqW_p (show lsq (.loc m') s' = _ from N.at_) (show lsq (.loc m) s' = _ from N.fr.keep (get_app hm))) ?_
    rw [decide_eq_true rfl]
    (repeat decreasing_trivial_pre_omega)
    exact q _ ((Fr.app _ _).trans N.fr)
end
end Pl
namespace Pl
open PySem Py
local macro_rules | `(tactic| decreasing_trivial_pre_omega) => `(tactic| (first | with_reducible refine x_set ?_ | with_reducible refine x_par2 ?_ | with_reducible refine x_par3 ?_ | with_reducible refine x_ite ?_ | with_reducible refine x_for ?_ | with_reducible refine x_whl ?_ | with_reducible refine x_ret ?_ | with_reducible refine x_retn ?_ | with_reducible refine x_brk ?_ | with_reducible refine x_ct ?_ | with_reducible refine x_pass ?_ | with_reducible refine x_exp ?_ | with_reducible refine x_done ?_ | with_reducible refine nx_nx ?_ | with_reducible refine nx_rt ?_ | with_reducible refine nx_bk ?_ | with_reducible refine nx_ct ?_ | with_reducible refine lp_nx ?_ | with_reducible refine lp_ct ?_ | with_reducible refine lp_bk ?_ | with_reducible refine lp_rt ?_ | with_reducible refine jn_nx ?_ | with_reducible refine jn_rt ?_ | with_reducible refine fn_nx ?_ | with_reducible refine fn_rt ?_ | with_reducible refine e_int ?_ | with_reducible refine e_bl ?_ | with_reducible refine e_non ?_ | with_reducible refine e_str ?_ | with_reducible refine e_bin ?_ | with_reducible refine e_neg ?_ | with_reducible refine e_no ?_ | with_reducible refine e_cmp ?_ | with_reducible refine e_chain ?_ | with_reducible refine e_and ?_ | with_reducible refine e_or ?_ | with_reducible refine e_one ?_ | with_reducible refine e_ite ?_ | with_reducible refine e_tup ?_ | with_reducible refine e_lst ?_ | with_reducible refine e_ix ?_ | with_reducible refine e_sl ?_ | with_reducible refine e_rv ?_ | with_reducible refine e_call ?_ | with_reducible refine e_bi ?_ | with_reducible refine e_mt ?_ | with_reducible refine e_isi ?_ | with_reducible refine e_comp ?_ | with_reducible refine es_nil ?_ | with_reducible refine es_cons ?_ | with_reducible refine eo_nil ?_ | with_reducible refine eo_one ?_ | with_reducible refine t_and ?_ | with_reducible refine t_or ?_ | with_reducible refine t_no ?_ | with_reducible refine t_one ?_ | with_reducible refine t_nil ?_ | with_reducible refine t_cmp ?_ | with_reducible refine t_chain ?_ | with_reducible refine t_call ?_ | with_reducible refine t_bi ?_ | with_reducible refine t_isi ?_ | with_reducible refine x_asg ?_ | with_reducible refine a_sub ?_ | with_reducible refine o_add ?_ | with_reducible refine o_sub ?_ | with_reducible refine o_adb ?_ | with_reducible refine o_lt ?_ | with_reducible refine o_le ?_ | with_reducible refine o_gt ?_ | with_reducible refine o_ge ?_ | with_reducible refine o_eqi ?_ | with_reducible refine o_nei ?_ | with_reducible refine o_isN ?_ | with_reducible refine o_notN ?_ | with_reducible refine o_isB ?_ | with_reducible refine o_notB ?_ | with_reducible refine o_abs ?_ | with_reducible refine o_int ?_ | with_reducible refine o_intb ?_ | with_reducible refine o_max ?_ | with_reducible refine o_min ?_ | with_reducible refine o_neg ?_ | with_reducible refine o_lent ?_ | with_reducible refine ex_bl ?_ | with_reducible refine ex_int ?_ | with_reducible refine bq ?_ | with_reducible refine tq ?_ | with_reducible refine r_ok ?_ | ((with_reducible apply e_var); exact rfl) | ((with_reducible apply x_add); exact rfl) | ((with_reducible apply x_sub); exact rfl) | ((with_reducible apply o_ixt); exact rfl) | ((with_reducible apply o_isi); exact rfl) | ((with_reducible apply t_len); exact rfl) | ((with_reducible apply o_ix); assumption; exact rfl) | ((with_reducible apply e_con); rw [gc]; assumption) | ((with_reducible apply o_len); assumption) | ((with_reducible apply o_list); assumption) | ((with_reducible apply o_tuple); assumption) | ((with_reducible apply o_sl); assumption)))
theorem sz_big {n i : Nat} (h : n ≤ sizeLine) : n - i < big := by
  unfold big
  have : sizeLine ≤ 2 ^ 40 := by decide
  omega
theorem sl {n : Nat} (h : n ≤ 16777216) : n ≤ sizeLine := h
section
variable {T : Str → Option Fi} {C : Str → Option W} {X : Str → Bool} {k n : Nat} {s : Sto} {Z : EK} {Q : QK W} {u : Nat}
def cellE (c : Int) : E := .cons (.bi .max2 (.cons (.int 1) (.cons (.bi .min2 (.cons (.int c) (.cons (.bi .len (.cons (.var 0) .nil)) .nil))) .nil))) .nil
def cellI (ns : List Int) (m : Nat) : Sl → Sto → Prop := fun e _ => ∃ a r, e = some (.cl (ns.map W.int)) :: a :: r ∧ r.length = m
theorem law_for {c : Int} (h1 : 1 ≤ c) (h8 : c ≤ 8) {m : Nat} {body : B} {ns : List Int}
    (hb : ∀ at_ r s, 0 ≤ at_ → at_ < 8 → r.length = m → (exS (gam T C X k) body (some (.cl (ns.map W.int)) :: some (.int at_) :: r) s).wp (lpQ (cellI ns m) (nxQ (gam T C X k) (.ret (.bl true) .done) (fnQ fun v _ => v = .bl true) (fun _ _ => False))) (fun _ _ => False)) :
    (exS (gam T C X k) (.for_ (.name 1) .rng1 (cellE c) body (.ret (.bl true) .done)) (some (.cl (ns.map W.int)) :: none :: List.replicate m none) s).wp (fnQ fun v _ => v = .bl true) (fun _ _ => False) := by
  unfold cellE
  decreasing_trivial_pre_omega
  have hL : lsq (.cl (ns.map W.int)) s = some (ns.map W.int) := rfl
  (repeat decreasing_trivial_pre_omega)
  have hj : ∃ j : Nat, max 1 (min c ((ns.map W.int).length : Int)) = j ∧ j ≤ 8 := ⟨(max 1 (min c ((ns.map W.int).length : Int))).toNat, by omega, by omega⟩
  obtain ⟨j, e, hj8⟩ := hj
  rw [e]
  refine ⟨_, src_r1 (by unfold lim62; exact decide_eq_true (by omega)), ?_⟩
  refine for_wp j (fun i e s => cellI ns m e s) (fun i e s hi hI => ?_) (fun e s hI => ?_) big 0 _ s (Nat.zero_le _) (by unfold big; omega) ⟨none, _, rfl, List.length_replicate ..⟩
  · obtain ⟨a, r, rfl, hr⟩ := hI
    refine ⟨_, it_rng (by rw [Int.toNat_natCast]; exact hi), ?_⟩
    have : (0 : Int) + (i : Nat) * 1 = i := by omega
    rw [this]
    exact hb i r s (by omega) (by omega) hr
  · refine ⟨?_, ?_⟩
    · have := it_rng0 (s := s) (lo := 0) (c := 1) (n := j)
      rwa [Int.toNat_natCast]
    · (repeat decreasing_trivial_pre_omega)
      rfl
def jn (I : Sl → Sto → Prop) (Q : QK Fl) : QK Fl := fun fl s => match fl with
  | .nx e => I e s
  | f => Q f s
theorem jn_nx {I : Sl → Sto → Prop} {Q : QK Fl} {e : Sl} (h : I e s) : jn I Q (.nx e) s := h
theorem jn_rt {I : Sl → Sto → Prop} {Q : QK Fl} {w : W} (h : Q (.rt w) s) : jn I Q (.rt w) s := h
theorem ite_join {g : G} {c : E} {t f kk : B} {e : Sl} {Q : QK Fl} (I : Sl → Sto → Prop) (q : (evT g c e s).wp (fun b s1 => (b = true → (exS g t e s1).wp (jn I Q) Z) ∧ (b = false → (exS g f e s1).wp (jn I Q) Z)) Z)
    (h : ∀ e s, I e s → (exS g kk e s).wp Q Z) : (exS g (.ite c t f kk) e s).wp Q Z := by
  have one : ∀ (b : B) (s1 : Sto), (exS g b e s1).wp (jn I Q) Z → (exS g b e s1).wp (nxQ g kk Q Z) Z := fun b s1 h1 => h1.mono fun fl s2 h2 => by
    cases fl with
    | nx e' => exact h e' s2 h2
    | rt w => exact h2
    | bk e' => exact h2
    | ct e' => exact h2
  exact x_ite (q.mono fun b s1 h1 => ⟨fun z => one _ _ (h1.1 z), fun z => one _ _ (h1.2 z)⟩)
theorem it_tu {ws : List W} {i : Nat} : itAt (.tu ws) i s = some ws[i]? := rfl
theorem atW_1 {a b : W} {i : Int} (h : i = 0 ∨ i = 1) : atW [a, b] i = some (if i = 0 then a else b) := by
  rcases h with rfl | rfl <;> rfl
theorem Urn.lt {s : Sto} {u : Nat} (h : Urn s u) : u < s.length := h.elim fun _ h => h.elim fun _ h => h.elim fun _ h => get_lt h.1
theorem as_pair {g : G} {i j : Nat} {a b : W} {e : Sl} {Q : QK Sl} (q : Q ((e.set i (some a)).set j (some b)) s) : (asg g (.tup (.cons (.name i) (.cons (.name j) .nil))) (.tup [a, b]) e s).wp Q Z := q
theorem law_call {m b : _} {ns : List Int} (h : Has T "law" 1 (m + 2) b)
    (q : (exS (gam T C X k) b (some (.cl (ns.map W.int)) :: none :: List.replicate m none) []).wp (fnQ fun v _ => v = .bl true) (fun _ _ => False)) : ∃ s', (gam T C X (k + 1)).call "law" [.cl (ns.map W.int)] [] = .ok (.bl true) s' := by
  refine wp_end (Q := fun v _ => v = .bl true) (fun h => h) (h.wp rfl ?_)
  have e : ([W.cl (ns.map W.int)].map some ++ List.replicate (m + 2 - [W.cl (ns.map W.int)].length) none : Sl) = some (.cl (ns.map W.int)) :: none :: List.replicate m none := rfl
  rw [e]
  exact q
theorem pW_snoc (p : List Rat) (r : Rat) : pW p ++ [nW r] = pW (p ++ [r]) := by simp [pW]
theorem map_pW (l : List Nat) (f : Nat → Rat) : l.map (fun i => nW (f i)) = pW (l.map f) := by
  rw [pW, List.map_map]
  rfl
theorem draws_wp (D : Has T "_law_draw" 2 3 bd__law_draw) (L : Has T "_law_low" 2 4 bd__law_low) (N : Has T "_law_number" 2 3 bd__law_number) {own : List (Str × Nat)} {tg : Tn} {e : Sl} {iu ik : Nat} {kz : Int} {n : Nat} (hn : n ≤ sizeLine) (hu : Urn s u)
    (he : ∀ w, ∃ e', tnSet tg w (wipeS e (own.map Prod.snd)) = some e' ∧ e'[iu]? = some (some (.loc u)) ∧ e'[ik]? = some (some (.int kz)))
    {Q : QK (List W)} (q : ∀ (p : List Rat) s', p.length = n → Sp 40 p → Urn s' u → Fr (At u) s s' → Q (pW p) s') :
    (compL (fun w s2 => R.noex (compF (gam T C X (k + 2)) own tg .nil (.call "_law_number" (.cons (.var iu) (.cons (.var ik) .nil))) e w s2)) big (.rng 0 1 n) 0 [] s).wp Q Z := by
  refine comp_wp n (fun i acc s' => ∃ p : List Rat, acc = pW p ∧ p.length = i ∧ Sp 40 p ∧ Urn s' u ∧ Fr (At u) s s') (fun i acc s' hi hI => ?_) (fun acc s' hI => ?_) hn big 0 [] s (Nat.zero_le _) (sz_big hn) ⟨[], rfl, rfl, (fun q hq => (List.not_mem_nil hq).elim), hu, Fr.refl s⟩
  · obtain ⟨p, rfl, hp, hs, hu', hf⟩ := hI
    refine ⟨_, it_rng hi, by rw [List.length_map]; omega, ?_⟩
    obtain ⟨e', h1, h2, h3⟩ := he (.int (0 + (i : Nat) * 1))
    refine compF_wp h1 ?_
    refine t_nil ⟨fun _ => ?_, fun z => by cases z⟩
    refine e_call (es_cons (e_var h2 (es_cons (e_var h3 (es_nil ?_)))))
    refine number_wp D L N hu' fun r s2 hr hu2 f2 => ?_
    refine ⟨p ++ [r], (pW_snoc p r), by rw [List.length_append, hp]; rfl, fun q hq => ?_, hu2, hf.trans f2⟩
    rcases List.mem_append.mp hq with h | h
    · exact hs q h
    · rw [List.mem_singleton.mp h]
      exact hr
  · obtain ⟨p, rfl, hp, hs, hu', hf⟩ := hI
    exact ⟨it_rng0, q p s' hp hs hu' hf⟩
structure Dp (u : Nat) (s s' : Sto) (m l : Nat) (p : List Rat) : Prop where
  at_ : s'[m]? = some (pW p)
  ge : s.length ≤ m
  urn : Urn s' u
  fr : Fr (At u) s s'
  sz : Sp 40 p
  tr : trim p = p
  len : p.length ≤ l
theorem drawn_poly_wp (D : Has T "_law_draw" 2 3 bd__law_draw) (L : Has T "_law_low" 2 4 bd__law_low) (N : Has T "_law_number" 2 3 bd__law_number) (O : Has T "_law_other" 2 3 bd__law_other) (h : Has T "_law_drawn_poly" 3 4 bd__law_drawn_poly)
    (hu : Urn s u) {kd most : Int} (h0 : 0 ≤ most) (h1 : most ≤ 1000) (q : ∀ p m s', p ≠ [] → Dp u s s' m (most.toNat + 1) p → Q (.loc m) s') : ((gam T C X (k + 4)).call "_law_drawn_poly" [.loc u, .int kd, .int most] s).wp Q Z := by
  refine h.wp rfl ?_
  unfold bd__law_drawn_poly
  (repeat decreasing_trivial_pre_omega)
  refine draw_wp D hu (by omega) (by omega) fun d s1 d0 d1 hu1 f1 l1 => ?_
  (repeat decreasing_trivial_pre_omega)
  refine ⟨_, src_r1 (by unfold lim62; exact decide_eq_true (by omega)), ?_⟩
  refine draws_wp D L N (own := [("_law_i", 3)]) (iu := 0) (ik := 1) (kz := kd) (n := d.toNat) (sl (by omega)) hu1 (fun w => ⟨_, rfl, rfl, rfl⟩) fun p s2 hp hs hu2 f2 => ?_
  have hul := (hu2.elim fun _ h => h.elim fun _ h => h.elim fun _ h => get_lt h.1)
  (repeat decreasing_trivial_pre_omega)
  refine other_wp D L N O (hu2.keep (Fr.app (U := No) _ _) (fun z => z)) fun r s3 r0 hr hu3 f3 => ?_
  (repeat decreasing_trivial_pre_omega)
  have e1 : s3[s2.length]? = some (pW p) := f3.get _ _ (by show ¬ (s2.length = u); omega) get_end
  refine o_cat (get_app e1) get_end (by
    rw [List.length_map]
    have : sizeLine = 16777216 := rfl
    simp
    omega) ?_
  (repeat decreasing_trivial_pre_omega)
  rw [pW_snoc p r]
  have F : Fr (At u) s (s3 ++ [[nW r]] ++ [pW (p ++ [r])]) := (f1.trans f2).trans (((Fr.app _ _).trans f3).trans ((Fr.app _ _).trans (Fr.app _ _)))
  refine q (p ++ [r]) _ _ (by simp) ⟨get_end, ?_, (hu3.keep (Fr.app (U := No) _ _) (fun z => z)).keep (Fr.app (U := No) _ _) (fun z => z), F, fun q hq => ?_, trim_last r0 p, by rw [List.length_append, List.length_singleton]; omega⟩
  · have a1 := f1.len
    have a2 := f2.len
    have a3 := f3.len
    rw [List.length_append] at a3 ⊢
    omega
  · rcases List.mem_append.mp hq with h | h
    · exact hs q h
    · rw [List.mem_singleton.mp h]
      exact hr
end
end Pl
namespace Pl
open PySem Py
local macro_rules | `(tactic| decreasing_trivial_pre_omega) => `(tactic| (first | with_reducible refine x_set ?_ | with_reducible refine x_par2 ?_ | with_reducible refine x_par3 ?_ | with_reducible refine x_ite ?_ | with_reducible refine x_for ?_ | with_reducible refine x_whl ?_ | with_reducible refine x_ret ?_ | with_reducible refine x_retn ?_ | with_reducible refine x_brk ?_ | with_reducible refine x_ct ?_ | with_reducible refine x_pass ?_ | with_reducible refine x_exp ?_ | with_reducible refine x_done ?_ | with_reducible refine nx_nx ?_ | with_reducible refine nx_rt ?_ | with_reducible refine nx_bk ?_ | with_reducible refine nx_ct ?_ | with_reducible refine lp_nx ?_ | with_reducible refine lp_ct ?_ | with_reducible refine lp_bk ?_ | with_reducible refine lp_rt ?_ | with_reducible refine jn_nx ?_ | with_reducible refine jn_rt ?_ | with_reducible refine fn_nx ?_ | with_reducible refine fn_rt ?_ | with_reducible refine e_int ?_ | with_reducible refine e_bl ?_ | with_reducible refine e_non ?_ | with_reducible refine e_str ?_ | with_reducible refine e_bin ?_ | with_reducible refine e_neg ?_ | with_reducible refine e_no ?_ | with_reducible refine e_cmp ?_ | with_reducible refine e_chain ?_ | with_reducible refine e_and ?_ | with_reducible refine e_or ?_ | with_reducible refine e_one ?_ | with_reducible refine e_ite ?_ | with_reducible refine e_tup ?_ | with_reducible refine e_lst ?_ | with_reducible refine e_ix ?_ | with_reducible refine e_sl ?_ | with_reducible refine e_rv ?_ | with_reducible refine e_call ?_ | with_reducible refine e_bi ?_ | with_reducible refine e_mt ?_ | with_reducible refine e_isi ?_ | with_reducible refine e_comp ?_ | with_reducible refine es_nil ?_ | with_reducible refine es_cons ?_ | with_reducible refine eo_nil ?_ | with_reducible refine eo_one ?_ | with_reducible refine t_and ?_ | with_reducible refine t_or ?_ | with_reducible refine t_no ?_ | with_reducible refine t_one ?_ | with_reducible refine t_nil ?_ | with_reducible refine t_cmp ?_ | with_reducible refine t_chain ?_ | with_reducible refine t_call ?_ | with_reducible refine t_bi ?_ | with_reducible refine t_isi ?_ | with_reducible refine x_asg ?_ | with_reducible refine a_sub ?_ | with_reducible refine o_add ?_ | with_reducible refine o_sub ?_ | with_reducible refine o_adb ?_ | with_reducible refine o_lt ?_ | with_reducible refine o_le ?_ | with_reducible refine o_gt ?_ | with_reducible refine o_ge ?_ | with_reducible refine o_eqi ?_ | with_reducible refine o_nei ?_ | with_reducible refine o_isN ?_ | with_reducible refine o_notN ?_ | with_reducible refine o_isB ?_ | with_reducible refine o_notB ?_ | with_reducible refine o_abs ?_ | with_reducible refine o_int ?_ | with_reducible refine o_intb ?_ | with_reducible refine o_max ?_ | with_reducible refine o_min ?_ | with_reducible refine o_neg ?_ | with_reducible refine o_lent ?_ | with_reducible refine ex_bl ?_ | with_reducible refine ex_int ?_ | with_reducible refine bq ?_ | with_reducible refine tq ?_ | with_reducible refine r_ok ?_ | ((with_reducible apply e_var); exact rfl) | ((with_reducible apply x_add); exact rfl) | ((with_reducible apply x_sub); exact rfl) | ((with_reducible apply o_ixt); exact rfl) | ((with_reducible apply o_isi); exact rfl) | ((with_reducible apply t_len); exact rfl) | ((with_reducible apply o_ix); assumption; exact rfl) | ((with_reducible apply e_con); rw [gc]; assumption) | ((with_reducible apply o_len); assumption) | ((with_reducible apply o_list); assumption) | ((with_reducible apply o_tuple); assumption) | ((with_reducible apply o_sl); assumption)))
abbrev at0 (p : List Rat) (i : Nat) : Rat := p.getD i 0
theorem at0_get {p : List Rat} {i : Nat} (h : i < p.length) : p[i] = at0 p i := by
  unfold at0
  rw [List.getD_eq_getElem?_getD, List.getElem?_eq_getElem h]
  rfl
theorem at0_no {p : List Rat} {i : Nat} (h : p.length ≤ i) : at0 p i = 0 := by
  unfold at0
  rw [List.getD_eq_getElem?_getD, List.getElem?_eq_none h]
  rfl
theorem Sp.at0 {n : Nat} {p : List Rat} (h : Sp n p) (hn : 0 < n) (i : Nat) : Sz n (at0 p i) := by
  by_cases hi : i < p.length
  · rw [← at0_get hi]
    exact h _ (List.getElem_mem hi)
  · rw [at0_no (by omega)]
    exact Sz.zero.mono hn
theorem trim_at : ∀ (p : List Rat) (i : Nat), at0 (trim p) i = at0 p i
  | [], i => rfl
  | a :: p, i => by
    rw [trim]
    split
    · rename_i h
      cases i with
      | zero => exact h.1.symm
      | succ i =>
        have := trim_at p i
        rw [h.2] at this
        exact this
    · cases i with
      | zero => rfl
      | succ i => exact trim_at p i
theorem trim_nil_of : ∀ {p : List Rat}, (∀ i, at0 p i = 0) → trim p = []
  | [], _ => rfl
  | a :: p, h => by
    rw [trim, if_pos ⟨h 0, trim_nil_of fun i => h (i + 1)⟩]
theorem trim_ext : ∀ {p q : List Rat}, (∀ i, at0 p i = at0 q i) → trim p = trim q
  | [], q, h => (trim_nil_of fun i => (h i).symm).symm
  | a :: p, [], h => trim_nil_of fun i => h i
  | a :: p, b :: q, h => by
    have e : a = b := h 0
    have e2 : trim p = trim q := trim_ext fun i => h (i + 1)
    rw [trim, trim, e, e2]
theorem range_at {n : Nat} {f : Nat → Rat} (i : Nat) : at0 ((List.range n).map f) i = if i < n then f i else 0 := by
  by_cases h : i < n
  · rw [if_pos h, ← at0_get (by simpa using h)]
    simp
  · rw [if_neg h, at0_no (by simpa using h)]
def padd (p q : List Rat) : List Rat := (List.range (max p.length q.length)).map fun i => at0 p i + at0 q i
def psub (p q : List Rat) : List Rat := (List.range (max p.length q.length)).map fun i => at0 p i - at0 q i
def smul (c : Rat) (p : List Rat) : List Rat := p.map (c * ·)
theorem padd_at (p q : List Rat) (i : Nat) : at0 (padd p q) i = at0 p i + at0 q i := by
  unfold padd
  rw [range_at]
  split
  · rfl
  · rw [at0_no (by omega), at0_no (by omega)]
    exact (Rat.add_zero 0).symm
theorem psub_at (p q : List Rat) (i : Nat) : at0 (psub p q) i = at0 p i - at0 q i := by
  unfold psub
  rw [range_at]
  split
  · rfl
  · rw [at0_no (by omega), at0_no (by omega)]
    grind
theorem smul_at (c : Rat) (p : List Rat) (i : Nat) : at0 (smul c p) i = c * at0 p i := by
  unfold smul
  by_cases h : i < p.length
  · rw [← at0_get (by simpa using h), ← at0_get h]
    simp
  · rw [at0_no (by simpa using h), at0_no (by omega), Rat.mul_zero]
theorem Sp.range {n m : Nat} {f : Nat → Rat} (h : ∀ i, i < m → Sz n (f i)) : Sp n ((List.range m).map f) := fun q hq => by
  obtain ⟨i, hi, rfl⟩ := List.mem_map.mp hq
  exact h i (List.mem_range.mp hi)
theorem Sp.padd {n : Nat} {p q : List Rat} (hp : Sp n p) (hq : Sp n q) (hn : 0 < n) : Sp (n + n + 1) (padd p q) := Sp.range fun i _ => (hp.at0 hn i).add (hq.at0 hn i) hn
theorem Sp.psub {n : Nat} {p q : List Rat} (hp : Sp n p) (hq : Sp n q) (hn : 0 < n) : Sp (n + n + 1) (psub p q) := Sp.range fun i _ => (hp.at0 hn i).sub (hq.at0 hn i) hn
theorem Sp.smul {n : Nat} {c : Rat} {p : List Rat} (hc : Sz n c) (hp : Sp n p) (hn : 0 < n) : Sp (n + n) (smul c p) := fun q hq => by
  obtain ⟨r, hr, rfl⟩ := List.mem_map.mp hq
  exact hc.mul (hp r hr) hn
def cS (p q : List Rat) : Nat → Nat → Rat
  | 0, _ => 0
  | i + 1, n => cS p q i n + if i ≤ n then at0 p i * at0 q (n - i) else 0
def pmul (p q : List Rat) : List Rat := if p = [] ∨ q = [] then [] else (List.range (p.length + q.length - 1)).map (cS p q p.length)
theorem cS_hi {p q : List Rat} {n : Nat} : ∀ i, (∀ t, t < i → t + q.length ≤ n) → cS p q i n = 0
  | 0, _ => rfl
  | i + 1, h => by
    rw [cS, cS_hi i fun t ht => h t (by omega)]
    have := h i (by omega)
    rw [if_pos (by omega), at0_no (p := q) (by omega), Rat.mul_zero]
    exact Rat.add_zero 0
theorem Sz.cS {n : Nat} {p q : List Rat} (hp : Sp n p) (hq : Sp n q) (hn : 0 < n) (m : Nat) : ∀ i, Sz (1 + (n + n + 1) * i) (cS p q i m)
  | 0 => Sz.zero
  | i + 1 => by
    have ih := Sz.cS hp hq hn m i
    have h2 : Sz (n + n) (if i ≤ m then at0 p i * at0 q (m - i) else 0) := by
      split
      · exact (hp.at0 hn i).mul (hq.at0 hn _) hn
      · exact Sz.zero.mono (by omega)
    rw [Pl.cS]
    refine (ih.add h2 (by omega)).mono ?_
    rw [Nat.mul_add]
    omega
theorem pmul_last {p q : List Rat} {a b : Rat} : cS (p ++ [a]) (q ++ [b]) (p ++ [a]).length (p.length + q.length) = a * b := by
  rw [List.length_append, List.length_singleton, cS, cS_hi p.length, if_pos (by omega), Nat.add_sub_cancel_left, Rat.zero_add]
  · rw [← at0_get (by simp), ← at0_get (by simp)]
    simp
  · intro t ht
    rw [List.length_append, List.length_singleton]
    omega
theorem ne_trim {p : List Rat} (h : trim p = p) (hp : p ≠ []) : ∃ r a, p = r ++ [a] ∧ a ≠ 0 := by
  obtain ⟨r, a, rfl⟩ := snoc hp
  refine ⟨r, a, rfl, fun e => ?_⟩
  subst e
  rw [trim_zero] at h
  have h2 := trim_len r
  rw [h, List.length_append, List.length_singleton] at h2
  omega
theorem mul_ne {a b : Rat} (ha : a ≠ 0) (hb : b ≠ 0) : a * b ≠ 0 := fun h => by
  rcases Rat.mul_eq_zero.mp h with h | h
  · exact ha h
  · exact hb h
theorem pmul_trim {p q : List Rat} (hp : trim p = p) (hq : trim q = q) : trim (pmul p q) = pmul p q := by
  unfold pmul
  split
  · rfl
  · rename_i h
    obtain ⟨r, a, rfl, ha⟩ := ne_trim hp (fun z => h (.inl z))
    obtain ⟨t, b, rfl, hb⟩ := ne_trim hq (fun z => h (.inr z))
    have e : (r ++ [a]).length + (t ++ [b]).length - 1 = (r.length + t.length) + 1 := by simp; omega
    rw [e, List.range_succ, List.map_append, List.map_cons, List.map_nil, pmul_last]
    exact trim_last (mul_ne ha hb) _
theorem pmul_len (p q : List Rat) : (pmul p q).length ≤ p.length + q.length - 1 := by
  unfold pmul
  split
  · exact Nat.zero_le _
  · simp
theorem Sp.pmul {n : Nat} {p q : List Rat} (hp : Sp n p) (hq : Sp n q) (hn : 0 < n) : Sp (1 + (n + n + 1) * p.length) (pmul p q) := by
  unfold Pl.pmul
  split
  · exact fun q hq => (List.not_mem_nil hq).elim
  · exact Sp.range fun i _ => Sz.cS hp hq hn i _
section
variable {T : Str → Option Fi} {C : Str → Option W} {X : Str → Bool} {k n : Nat} {s : Sto} {Z : EK} {Q : QK W} {u : Nat}
theorem number_at_eq (h : Has T "number_at" 2 2 bd_number_at) (hc : C "NOUGHT" = some (nW 0)) {w : W} {p : List Rat} (hw : lsq w s = some (pW p)) (i : Nat) :
    (gam T C X (k + 1)).call "number_at" [w, .int (i : Nat)] s = .ok (nW (at0 p i)) s := by
  refine eq_of_wp (h.wp rfl ?_)
  unfold bd_number_at
  (repeat decreasing_trivial_pre_omega)
  refine ⟨fun z => ?_, fun z => ?_⟩
  · have z := of_decide_eq_true z
    rw [List.length_map] at z
    have hi : i < p.length := by omega
    (repeat decreasing_trivial_pre_omega)
    refine o_ix hw (atW_nat (pW_get hi)) ?_
    (repeat decreasing_trivial_pre_omega)
    rw [at0_get hi]
    exact ⟨rfl, rfl⟩
  · have z := of_decide_eq_false z
    rw [List.length_map] at z
    (repeat decreasing_trivial_pre_omega)
    rw [at0_no (by omega)]
    exact ⟨rfl, rfl⟩
structure Pols (T : Str → Option Fi) (C : Str → Option W) : Prop where
  F : Frac T
  poly : Has T "poly" 1 2 bd_poly
  c : C "NOUGHT" = some (nW 0)
theorem lim_of {j : Nat} (h : j ≤ 16777216 + 16777216) : lim62 (j : Int) = true := by
  unfold lim62
  exact decide_eq_true (by omega)
theorem max_len (p q : List Rat) : max ((pW p).length : Int) ((pW q).length : Int) = ((max p.length q.length : Nat) : Int) := by
  rw [List.length_map, List.length_map]
  omega
theorem poly_sum_wp (P : Pols T C) (hp : Has T "plus" 2 2 bd_plus) (hn : Has T "number_at" 2 2 bd_number_at) (h : Has T "poly_sum" 2 3 bd_poly_sum) {a b : W} {p q : List Rat} (ha : lsq a s = some (pW p)) (hb : lsq b s = some (pW q))
    (sp : Sp n p) (sq : Sp n q) (h0 : 0 < n) (h9 : n + n + 1 ≤ 9000) (lp : p.length ≤ sizeLine) (lq : q.length ≤ sizeLine) (qq : ∀ m s', Nw s s' m (pW (trim (padd p q))) → Q (.loc m) s') : ((gam T C X (k + 4)).call "poly_sum" [a, b] s).wp Q Z := by
  refine h.wp rfl ?_
  unfold bd_poly_sum
  have hm : max p.length q.length ≤ sizeLine := Nat.max_le.mpr ⟨lp, lq⟩
  (repeat decreasing_trivial_pre_omega)
  rw [max_len]
  refine ⟨_, src_r1 (lim_of (Nat.le_trans hm (by decide))), ?_⟩
  rw [Int.toNat_natCast]
  refine comp_pure (n := max p.length q.length) (v := fun i => nW (at0 p i + at0 q i)) (sz_big (i := 0) hm) hm (fun j hj => ⟨_, it_rng hj, ?_⟩) it_rng0 ?_
  · refine compF_wp rfl ?_
    have e : (0 : Int) + (j : Nat) * 1 = (j : Nat) := by omega
    rw [e]
    (repeat decreasing_trivial_pre_omega)
    refine ⟨fun _ => ?_, fun z => by cases z⟩
    (repeat decreasing_trivial_pre_omega)
    refine wp_of_eq (number_at_eq hn P.c ha j) ?_
    (repeat decreasing_trivial_pre_omega)
    refine wp_of_eq (number_at_eq hn P.c hb j) ?_
    (repeat decreasing_trivial_pre_omega)
    refine wp_of_eq (plus_eq P.F hp (sp.at0 h0 j) (sq.at0 h0 j) h0 h9) ?_
    exact ⟨rfl, rfl⟩
  · rw [map_pW]
    (repeat decreasing_trivial_pre_omega)
    refine poly_wp P.poly P.c (show lsq (.loc s.length) _ = _ from get_end) (by simp; omega) fun m s' N => ?_
    (repeat decreasing_trivial_pre_omega)
    exact qq m s' (N.pre (Fr.app _ _))
theorem poly_less_wp (P : Pols T C) (hp : Has T "less" 2 2 bd_less) (hn : Has T "number_at" 2 2 bd_number_at) (h : Has T "poly_less" 2 3 bd_poly_less) {a b : W} {p q : List Rat} (ha : lsq a s = some (pW p)) (hb : lsq b s = some (pW q))
    (sp : Sp n p) (sq : Sp n q) (h0 : 0 < n) (h9 : n + n + 1 ≤ 9000) (lp : p.length ≤ sizeLine) (lq : q.length ≤ sizeLine) (qq : ∀ m s', Nw s s' m (pW (trim (psub p q))) → Q (.loc m) s') : ((gam T C X (k + 4)).call "poly_less" [a, b] s).wp Q Z := by
  refine h.wp rfl ?_
  unfold bd_poly_less
  have hm : max p.length q.length ≤ sizeLine := Nat.max_le.mpr ⟨lp, lq⟩
  (repeat decreasing_trivial_pre_omega)
  rw [max_len]
  refine ⟨_, src_r1 (lim_of (Nat.le_trans hm (by decide))), ?_⟩
  rw [Int.toNat_natCast]
  refine comp_pure (n := max p.length q.length) (v := fun i => nW (at0 p i - at0 q i)) (sz_big (i := 0) hm) hm (fun j hj => ⟨_, it_rng hj, ?_⟩) it_rng0 ?_
  · refine compF_wp rfl ?_
    have e : (0 : Int) + (j : Nat) * 1 = (j : Nat) := by omega
    rw [e]
    (repeat decreasing_trivial_pre_omega)
    refine ⟨fun _ => ?_, fun z => by cases z⟩
    (repeat decreasing_trivial_pre_omega)
    refine wp_of_eq (number_at_eq hn P.c ha j) ?_
    (repeat decreasing_trivial_pre_omega)
    refine wp_of_eq (number_at_eq hn P.c hb j) ?_
    (repeat decreasing_trivial_pre_omega)
    refine wp_of_eq (less_eq P.F hp (sp.at0 h0 j) (sq.at0 h0 j) h0 h9) ?_
    exact ⟨rfl, rfl⟩
  · rw [map_pW]
    (repeat decreasing_trivial_pre_omega)
    refine poly_wp P.poly P.c (show lsq (.loc s.length) _ = _ from get_end) (by simp; omega) fun m s' N => ?_
    (repeat decreasing_trivial_pre_omega)
    exact qq m s' (N.pre (Fr.app _ _))
theorem smul_map {c : Rat} {p : List Rat} : (List.range p.length).map (fun i => nW (c * at0 p i)) = pW (smul c p) := by
  rw [map_pW]
  congr 1
  unfold smul
  apply List.ext_getElem
  · simp
  · intro i h1 h2
    simp at h1 h2 ⊢
    rw [List.getElem?_eq_getElem h1]
    rfl
theorem scaled_wp (P : Pols T C) (ht : Has T "times" 2 2 bd_times) (h : Has T "scaled" 2 3 bd_scaled) {b : W} {c : Rat} {p : List Rat} (hb : lsq b s = some (pW p))
    (sc : Sz n c) (sp : Sp n p) (h0 : 0 < n) (h9 : n + n ≤ 9000) (lp : p.length ≤ sizeLine) (qq : ∀ m s', Nw s s' m (pW (trim (smul c p))) → Q (.loc m) s') : ((gam T C X (k + 4)).call "scaled" [nW c, b] s).wp Q Z := by
  refine h.wp rfl ?_
  unfold bd_scaled
  (repeat decreasing_trivial_pre_omega)
  refine ⟨_, src_li hb, ?_⟩
  refine comp_pure (n := p.length) (v := fun i => nW (c * at0 p i)) (sz_big (i := 0) lp) lp (fun j hj => ⟨_, (it_li hb).trans (by rw [pW_get hj]), ?_⟩) (by rw [it_li hb, List.getElem?_eq_none (by rw [List.length_map]; exact Nat.le_refl _)]) ?_
  · refine compF_wp rfl ?_
    (repeat decreasing_trivial_pre_omega)
    refine ⟨fun _ => ?_, fun z => by cases z⟩
    (repeat decreasing_trivial_pre_omega)
    refine wp_of_eq (times_eq P.F ht sc (sp _ (List.getElem_mem hj)) h0 h9) ?_
    rw [at0_get hj]
    exact ⟨rfl, rfl⟩
  · rw [smul_map]
    (repeat decreasing_trivial_pre_omega)
    refine poly_wp P.poly P.c (show lsq (.loc s.length) _ = _ from get_end) (by unfold smul; rw [List.length_map]; exact lp) fun m s' N => ?_
    (repeat decreasing_trivial_pre_omega)
    exact qq m s' (N.pre (Fr.app _ _))
theorem loften_wp (L : Has T "_law_low" 2 4 bd__law_low) (Tr : Has T "_law_trim" 1 2 bd__law_trim) (ht : Has T "_law_times" 2 2 bd__law_times) (h : Has T "_law_poly_often" 2 3 bd__law_poly_often) {b : W} {c : Rat} {p : List Rat} (hb : lsq b s = some (pW p))
    (sc : Sz n c) (sp : Sp n p) (h0 : 0 < n) (h9 : n + n ≤ 9000) (lp : p.length ≤ sizeLine) (qq : ∀ m s', Nw s s' m (pW (trim (smul c p))) → Q (.loc m) s') : ((gam T C X (k + 3)).call "_law_poly_often" [nW c, b] s).wp Q Z := by
  refine h.wp rfl ?_
  unfold bd__law_poly_often
  (repeat decreasing_trivial_pre_omega)
  refine ⟨_, src_li hb, ?_⟩
  refine comp_pure (n := p.length) (v := fun i => nW (c * at0 p i)) (sz_big (i := 0) lp) lp (fun j hj => ⟨_, (it_li hb).trans (by rw [pW_get hj]), ?_⟩) (by rw [it_li hb, List.getElem?_eq_none (by rw [List.length_map]; exact Nat.le_refl _)]) ?_
  · refine compF_wp rfl ?_
    (repeat decreasing_trivial_pre_omega)
    refine ⟨fun _ => ?_, fun z => by cases z⟩
    (repeat decreasing_trivial_pre_omega)
    refine wp_of_eq (ltimes_eq L ht sc (sp _ (List.getElem_mem hj)) h0 h9) ?_
    rw [at0_get hj]
    exact ⟨rfl, rfl⟩
  · rw [smul_map]
    (repeat decreasing_trivial_pre_omega)
    refine ltrim_wp Tr (show lsq (.loc s.length) _ = _ from get_end) (by unfold smul; rw [List.length_map]; exact lp) fun m s' N => ?_
    (repeat decreasing_trivial_pre_omega)
    exact qq m s' (N.pre (Fr.app _ _))
end
end Pl
namespace Pl
open PySem Py
local macro_rules | `(tactic| decreasing_trivial_pre_omega) => `(tactic| (first | with_reducible refine x_set ?_ | with_reducible refine x_par2 ?_ | with_reducible refine x_par3 ?_ | with_reducible refine x_ite ?_ | with_reducible refine x_for ?_ | with_reducible refine x_whl ?_ | with_reducible refine x_ret ?_ | with_reducible refine x_retn ?_ | with_reducible refine x_brk ?_ | with_reducible refine x_ct ?_ | with_reducible refine x_pass ?_ | with_reducible refine x_exp ?_ | with_reducible refine x_done ?_ | with_reducible refine nx_nx ?_ | with_reducible refine nx_rt ?_ | with_reducible refine nx_bk ?_ | with_reducible refine nx_ct ?_ | with_reducible refine lp_nx ?_ | with_reducible refine lp_ct ?_ | with_reducible refine lp_bk ?_ | with_reducible refine lp_rt ?_ | with_reducible refine jn_nx ?_ | with_reducible refine jn_rt ?_ | with_reducible refine fn_nx ?_ | with_reducible refine fn_rt ?_ | with_reducible refine e_int ?_ | with_reducible refine e_bl ?_ | with_reducible refine e_non ?_ | with_reducible refine e_str ?_ | with_reducible refine e_bin ?_ | with_reducible refine e_neg ?_ | with_reducible refine e_no ?_ | with_reducible refine e_cmp ?_ | with_reducible refine e_chain ?_ | with_reducible refine e_and ?_ | with_reducible refine e_or ?_ | with_reducible refine e_one ?_ | with_reducible refine e_ite ?_ | with_reducible refine e_tup ?_ | with_reducible refine e_lst ?_ | with_reducible refine e_ix ?_ | with_reducible refine e_sl ?_ | with_reducible refine e_rv ?_ | with_reducible refine e_call ?_ | with_reducible refine e_bi ?_ | with_reducible refine e_mt ?_ | with_reducible refine e_isi ?_ | with_reducible refine e_comp ?_ | with_reducible refine es_nil ?_ | with_reducible refine es_cons ?_ | with_reducible refine eo_nil ?_ | with_reducible refine eo_one ?_ | with_reducible refine t_and ?_ | with_reducible refine t_or ?_ | with_reducible refine t_no ?_ | with_reducible refine t_one ?_ | with_reducible refine t_nil ?_ | with_reducible refine t_cmp ?_ | with_reducible refine t_chain ?_ | with_reducible refine t_call ?_ | with_reducible refine t_bi ?_ | with_reducible refine t_isi ?_ | with_reducible refine x_asg ?_ | with_reducible refine a_sub ?_ | with_reducible refine o_add ?_ | with_reducible refine o_sub ?_ | with_reducible refine o_adb ?_ | with_reducible refine o_lt ?_ | with_reducible refine o_le ?_ | with_reducible refine o_gt ?_ | with_reducible refine o_ge ?_ | with_reducible refine o_eqi ?_ | with_reducible refine o_nei ?_ | with_reducible refine o_isN ?_ | with_reducible refine o_notN ?_ | with_reducible refine o_isB ?_ | with_reducible refine o_notB ?_ | with_reducible refine o_abs ?_ | with_reducible refine o_int ?_ | with_reducible refine o_intb ?_ | with_reducible refine o_max ?_ | with_reducible refine o_min ?_ | with_reducible refine o_neg ?_ | with_reducible refine o_lent ?_ | with_reducible refine ex_bl ?_ | with_reducible refine ex_int ?_ | with_reducible refine bq ?_ | with_reducible refine tq ?_ | with_reducible refine r_ok ?_ | ((with_reducible apply e_var); exact rfl) | ((with_reducible apply x_add); exact rfl) | ((with_reducible apply x_sub); exact rfl) | ((with_reducible apply o_ixt); exact rfl) | ((with_reducible apply o_isi); exact rfl) | ((with_reducible apply t_len); exact rfl) | ((with_reducible apply o_ix); assumption; exact rfl) | ((with_reducible apply e_con); rw [gc]; assumption) | ((with_reducible apply o_len); assumption) | ((with_reducible apply o_list); assumption) | ((with_reducible apply o_tuple); assumption) | ((with_reducible apply o_sl); assumption)))
theorem pW_range_set {L m : Nat} {f f' : Nat → Rat} {v : Rat} (h : ∀ n, n < L → f' n = if n = m then v else f n) : (pW ((List.range L).map f)).set m (nW v) = pW ((List.range L).map f') := by
  apply List.ext_getElem
  · simp
  · intro i h1 h2
    simp at h1 h2
    rw [List.getElem_set]
    simp only [pW, List.getElem_map, List.getElem_range]
    rw [h i h1]
    by_cases e : i = m
    · rw [if_pos e.symm, if_pos e]
    · rw [if_neg (fun z => e z.symm), if_neg e]
theorem pW_range_get {L m : Nat} {f : Nat → Rat} (h : m < L) : (pW ((List.range L).map f))[m]? = some (nW (f m)) := by
  rw [List.getElem?_map, List.getElem?_map, List.getElem?_range h]
  rfl
theorem pW_range_congr {L : Nat} {f f' : Nat → Rat} (h : ∀ n, n < L → f n = f' n) : pW ((List.range L).map f) = pW ((List.range L).map f') := by
  congr 1
  apply List.map_congr_left
  intro n hn
  exact h n (List.mem_range.mp hn)
def cM (p q : List Rat) (i j n : Nat) : Rat := if i ≤ n ∧ n < i + j then cS p q (i + 1) n else cS p q i n
theorem cM_zero (p q : List Rat) (i n : Nat) : cM p q i 0 n = cS p q i n := by
  unfold cM
  rw [if_neg (by omega)]
theorem cM_all (p q : List Rat) (i n : Nat) : cM p q i q.length n = cS p q (i + 1) n := by
  unfold cM
  split
  · rfl
  · rename_i h
    rw [cS]
    split
    · rw [at0_no (p := q) (by omega), Rat.mul_zero, Rat.add_zero]
    · rw [Rat.add_zero]
theorem cM_succ (p q : List Rat) (i j n : Nat) : cM p q i (j + 1) n = if n = i + j then cM p q i j n + at0 p i * at0 q j else cM p q i j n := by
  by_cases h : n = i + j
  · rw [if_pos h]
    unfold cM
    rw [if_pos (by omega), if_neg (by omega), cS, if_pos (by omega), show n - i = j from by omega]
  · rw [if_neg h]
    unfold cM
    by_cases h2 : i ≤ n ∧ n < i + j
    · rw [if_pos h2, if_pos (by omega)]
    · rw [if_neg h2, if_neg (by omega)]
theorem Sz.cM {n N : Nat} {p q : List Rat} (hp : Sp n p) (hq : Sp n q) (hn : 0 < n) (i j m : Nat) (hN : 1 + (n + n + 1) * (i + 1) ≤ N) : Sz N (cM p q i j m) := by
  unfold Pl.cM
  split
  · exact (Sz.cS hp hq hn m (i + 1)).mono hN
  · refine (Sz.cS hp hq hn m i).mono (Nat.le_trans ?_ hN)
    exact Nat.add_le_add_left (Nat.mul_le_mul_left _ (Nat.le_succ i)) 1
def mulB (PL TI : Str) : B := .asg (.sub (.var 2) (.bin .add (.var 3) (.var 5))) (.call PL (.cons (.ix (.var 2) (.bin .add (.var 3) (.var 5))) (.cons (.call TI (.cons (.var 4) (.cons (.var 6) .nil))) .nil))) .done
def mulI (PL TI : Str) : B := .for_ (.tup (.cons (.name 5) (.cons (.name 6) .nil))) .enu (.cons (.var 1) .nil) (mulB PL TI) .done
section
variable {g : G} {s : Sto} {Z : EK} {Q : QK Fl} {a b F : Nat} {p q : List Rat}
structure Mu (p q : List Rat) (a b F : Nat) (s0 s : Sto) (f : Nat → Rat) : Prop where
  pa : s[a]? = some (pW p)
  pb : s[b]? = some (pW q)
  pF : s[F]? = some (pW ((List.range (p.length + q.length - 1)).map f))
  fr : Fr No s0 s
theorem Mu.set {s0 s : Sto} {f f' : Nat → Rat} {m : Nat} {v : Rat} (M : Mu p q a b F s0 s f) (ha : a ≠ F) (hb : b ≠ F) (hF : s0.length ≤ F) (h : ∀ n, n < p.length + q.length - 1 → f' n = if n = m then v else f n) :
    Mu p q a b F s0 (s.set F ((pW ((List.range (p.length + q.length - 1)).map f)).set m (nW v))) f' :=
  ⟨by rw [List.getElem?_set_ne (fun z => ha z.symm)]; exact M.pa, by rw [List.getElem?_set_ne (fun z => hb z.symm)]; exact M.pb, by
    rw [List.getElem?_set_self (get_lt M.pF), pW_range_set h], M.fr.setge hF⟩
theorem Mu.imp {s0 s : Sto} {f f' : Nat → Rat} (M : Mu p q a b F s0 s f) (h : ∀ n, n < p.length + q.length - 1 → f n = f' n) : Mu p q a b F s0 s f' := ⟨M.pa, M.pb, by rw [← pW_range_congr h]; exact M.pF, M.fr⟩
def muI (p q : List Rat) (a b F : Nat) (s0 : Sto) (i : Nat) : Sl → Sto → Prop := fun e s => ∃ x3 x4 x5 x6, e = [some (.loc a), some (.loc b), some (.loc F), x3, x4, x5, x6] ∧ Mu p q a b F s0 s (cS p q i)
theorem mul_inner {PL TI : Str} {n N : Nat} {s0 : Sto} (hT : ∀ x y s, Sz n x → Sz n y → g.call TI [nW x, nW y] s = .ok (nW (x * y)) s) (hP : ∀ x y s, Sz N x → Sz N y → g.call PL [nW x, nW y] s = .ok (nW (x + y)) s)
    (sp : Sp n p) (sq : Sp n q) (hX : ∀ x y, x ∈ p → y ∈ q → Sz N (x * y)) (hM : ∀ i j m, i < p.length → Sz N (cM p q i j m)) (ha : a ≠ F) (hb : b ≠ F) (hF : s0.length ≤ F) (lq : q.length ≤ sizeLine) {i : Nat} (hi : i < p.length) {x5 x6 : Option W} (M : Mu p q a b F s0 s (cS p q i)) :
    (exS g (mulI PL TI) [some (.loc a), some (.loc b), some (.loc F), some (.int (i : Nat)), some (nW p[i]), x5, x6] s).wp (lpQ (muI p q a b F s0 (i + 1)) Q) Z := by
  unfold mulI
  (repeat decreasing_trivial_pre_omega)
  refine ⟨_, src_enu (show lsq (.loc b) s = some (pW q) from M.pb), ?_⟩
  refine for_wp q.length (fun j e s' => ∃ x5 x6, e = [some (.loc a), some (.loc b), some (.loc F), some (.int (i : Nat)), some (nW p[i]), x5, x6] ∧ Mu p q a b F s0 s' (cM p q i j)) (fun j e s' hj hI => ?_) (fun e s' hI => ?_) big 0 _ s (Nat.zero_le _) (sz_big lq)
    ⟨x5, x6, rfl, M.imp fun n _ => (cM_zero p q i n).symm⟩
  · obtain ⟨x5, x6, rfl, M⟩ := hI
    refine ⟨_, (it_enu (show lsq (.loc b) s' = some (pW q) from M.pb)).trans (by rw [pW_get hj]; rfl), ?_⟩
    show (exS g (mulB PL TI) [some (.loc a), some (.loc b), some (.loc F), some (.int (i : Nat)), some (nW p[i]), some (.int (j : Nat)), some (nW q[j])] s').wp _ _
    unfold mulB
    (repeat decreasing_trivial_pre_omega)
    have hij : i + j < p.length + q.length - 1 := by omega
    have e : (i : Int) + (j : Int) = ((i + j : Nat) : Int) := by omega
    rw [e]
    refine o_ix (show lsq (.loc F) s' = _ from M.pF) (atW_nat (pW_range_get hij)) ?_
    (repeat decreasing_trivial_pre_omega)
    refine wp_of_eq (hT _ _ _ (sp _ (List.getElem_mem hi)) (sq _ (List.getElem_mem hj))) ?_
    (repeat decreasing_trivial_pre_omega)
    refine wp_of_eq (hP _ _ _ (hM i j _ hi) (hX _ _ (List.getElem_mem hi) (List.getElem_mem hj))) ?_
    (repeat decreasing_trivial_pre_omega)
    refine ⟨F, _, _, i + j, rfl, by rw [← e], M.pF, ixN_nat (by simpa using hij), ?_⟩
    (repeat decreasing_trivial_pre_omega)
    refine ⟨_, _, rfl, M.set ha hb hF fun m hm => ?_⟩
    rw [cM_succ]
    by_cases h : m = i + j
    · rw [if_pos h, if_pos h, h, at0_get hi, at0_get hj]
    · rw [if_neg h, if_neg h]
  · obtain ⟨x5, x6, rfl, M⟩ := hI
    refine ⟨(it_enu (show lsq (.loc b) s' = some (pW q) from M.pb)).trans (by rw [List.getElem?_eq_none (by rw [List.length_map]; exact Nat.le_refl _)]; rfl), ?_⟩
    (repeat decreasing_trivial_pre_omega)
    exact ⟨_, _, _, _, rfl, M.imp fun n _ => cM_all p q i n⟩
theorem mul_outer {PL TI : Str} {n N : Nat} {s0 : Sto} (hT : ∀ x y s, Sz n x → Sz n y → g.call TI [nW x, nW y] s = .ok (nW (x * y)) s) (hP : ∀ x y s, Sz N x → Sz N y → g.call PL [nW x, nW y] s = .ok (nW (x + y)) s)
    (sp : Sp n p) (sq : Sp n q) (hX : ∀ x y, x ∈ p → y ∈ q → Sz N (x * y)) (hM : ∀ i j m, i < p.length → Sz N (cM p q i j m)) (ha : a ≠ F) (hb : b ≠ F) (hF : s0.length ≤ F) (lp : p.length ≤ sizeLine) (lq : q.length ≤ sizeLine) (M : Mu p q a b F s0 s (cS p q 0))
    (qq : ∀ x3 x4 x5 x6 s', Mu p q a b F s0 s' (cS p q p.length) → Q (.nx [some (.loc a), some (.loc b), some (.loc F), x3, x4, x5, x6]) s') :
    (forL (forF g (.tup (.cons (.name 3) (.cons (.name 4) .nil))) (mulI PL TI)) big (.enu (.loc a)) 0 [some (.loc a), some (.loc b), some (.loc F), none, none, none, none] s).wp Q Z := by
  refine for_wp p.length (fun i e s' => muI p q a b F s0 i e s') (fun i e s' hi hI => ?_) (fun e s' hI => ?_) big 0 _ s (Nat.zero_le _) (sz_big lp) ⟨_, _, _, _, rfl, M⟩
  · obtain ⟨x3, x4, x5, x6, rfl, M⟩ := hI
    refine ⟨_, (it_enu (show lsq (.loc a) s' = some (pW p) from M.pa)).trans (by rw [pW_get hi]; rfl), ?_⟩
    show (exS g (mulI PL TI) [some (.loc a), some (.loc b), some (.loc F), some (.int (i : Nat)), some (nW p[i]), x5, x6] s').wp _ _
    exact mul_inner hT hP sp sq hX hM ha hb hF lq hi M
  · obtain ⟨x3, x4, x5, x6, rfl, M⟩ := hI
    exact ⟨(it_enu (show lsq (.loc a) s' = some (pW p) from M.pa)).trans (by rw [List.getElem?_eq_none (by rw [List.length_map]; exact Nat.le_refl _)]; rfl), qq _ _ _ _ _ M⟩
theorem rep_zero (L : Nat) (p q : List Rat) : (List.replicate L [nW 0]).flatten = pW ((List.range L).map (cS p q 0)) := by
  induction L with
  | zero => rfl
  | succ L ih =>
    rw [List.replicate_succ', List.flatten_append, ih, List.range_succ, List.map_append, pW, pW, List.map_append]
    rfl
end
section
variable {T : Str → Option Fi} {C : Str → Option W} {X : Str → Bool} {k n : Nat} {s : Sto} {Z : EK} {Q : QK W} {u : Nat}
theorem poly_times_wp (F : Frac T) (hc : C "NOUGHT" = some (nW 0)) (hpl : Has T "plus" 2 2 bd_plus) (hti : Has T "times" 2 2 bd_times) (h : Has T "poly_times" 2 7 bd_poly_times) {a b : Nat} {p q : List Rat} (ha : s[a]? = some (pW p)) (hb : s[b]? = some (pW q))
    {N : Nat} (sp : Sp n p) (sq : Sp n q) (h0 : 0 < n) (hN : 1 + (n + n + 1) * p.length ≤ N) (hN2 : n + n ≤ N) (h9 : N + N + 1 ≤ 9000) (lp : p.length ≤ 8000000) (lq : q.length ≤ 8000000) (qq : ∀ m s', Nw s s' m (pW (pmul p q)) → Q (.loc m) s') :
    ((gam T C X (k + 4)).call "poly_times" [.loc a, .loc b] s).wp Q Z := by
  refine h.wp rfl ?_
  unfold bd_poly_times
  have nil : ∀ (s' : Sto) (Qf : QK Fl), (∀ w s', Q w s' → Qf (.rt w) s') → Fr No s s' → (p = [] ∨ q = []) → (exS (gam T C X (k + 3)) (.ret (.lst .nil) .done) [some (.loc a), some (.loc b), none, none, none, none, none] s').wp Qf Z := fun s' Qf hq f hh => by
    (repeat decreasing_trivial_pre_omega)
    refine hq _ _ (qq _ _ ⟨f.trans (Fr.app _ _), ?_, f.len⟩)
    unfold pmul
    rw [if_pos hh]
    exact get_end
  (repeat decreasing_trivial_pre_omega)
  refine o_eq (eqW_p (p := p) (q := []) (show lsq (.loc a) _ = _ from get_app ha) (show lsq (.loc s.length) _ = _ from get_end)) ?_
  (repeat decreasing_trivial_pre_omega)
  refine ⟨fun z => ⟨fun _ => ?_, fun z => by cases z⟩, fun z => ?_⟩
  · exact nil _ _ (fun _ _ h => h) (Fr.app _ _) (.inl (of_decide_eq_true z))
  have pn : p ≠ [] := of_decide_eq_false z
  (repeat decreasing_trivial_pre_omega)
  refine o_eq (eqW_p (p := q) (q := []) (show lsq (.loc b) _ = _ from get_app (get_app hb)) (show lsq (.loc (s ++ [[]]).length) _ = _ from get_end)) ?_
  (repeat decreasing_trivial_pre_omega)
  refine ⟨fun z => ?_, fun z => ?_⟩
  · exact nil _ _ (fun _ _ h => h) ((Fr.app _ _).trans (Fr.app _ _)) (.inr (of_decide_eq_true z))
  have qn : q ≠ [] := of_decide_eq_false z
  have p1 : 0 < p.length := List.length_pos_iff.mpr pn
  have q1 : 0 < q.length := List.length_pos_iff.mpr qn
  generalize hS : s ++ [[]] ++ [[]] = s1
  have f1 : Fr No s s1 := by rw [← hS]; exact (Fr.app _ _).trans (Fr.app _ _)
  (repeat decreasing_trivial_pre_omega)
  have ha2 : lsq (.loc a) (s1 ++ [[W.tup [.int 0, .int 1]]]) = some (pW p) := get_app (f1.keep ha)
  have hb2 : lsq (.loc b) (s1 ++ [[W.tup [.int 0, .int 1]]]) = some (pW q) := get_app (f1.keep hb)
  (repeat decreasing_trivial_pre_omega)
  have el : ((pW p).length : Int) + ((pW q).length : Int) - 1 = ((p.length + q.length - 1 : Nat) : Int) := by
    rw [List.length_map, List.length_map]
    omega
  rw [el]
  refine o_rep (xs := [nW 0]) get_end (by omega) (by rw [Int.toNat_natCast, List.length_singleton, Nat.one_mul]; exact sl (by omega)) ?_
  rw [Int.toNat_natCast, rep_zero (p.length + q.length - 1) p q]
  (repeat decreasing_trivial_pre_omega)
  have ha3 : lsq (.loc a) ((s1 ++ [[nW 0]]) ++ [pW ((List.range (p.length + q.length - 1)).map (cS p q 0))]) = some (pW p) := get_app ha2
  have hla := get_lt ha
  have hlb := get_lt hb
  have hl1 := f1.len
  refine ⟨_, src_enu ha3, ?_⟩
  refine mul_outer (PL := "plus") (TI := "times") (N := N) (s0 := s) (fun x y s hx hy => times_eq F hti hx hy h0 (by omega)) (fun x y s hx hy => plus_eq F hpl hx hy (by omega) h9) sp sq (fun x y hx hy => ((sp x hx).mul (sq y hy) h0).mono hN2) (fun i j m hi => Sz.cM sp sq h0 i j m (Nat.le_trans (Nat.add_le_add_left (Nat.mul_le_mul_left _ hi) 1) hN)) (by rw [List.length_append]; omega) (by rw [List.length_append]; omega) (by rw [List.length_append]; omega) (sl (by omega)) (sl (by omega))
    ⟨ha3, get_app hb2, get_end, f1.trans ((Fr.app _ _).trans (Fr.app _ _))⟩ fun x3 x4 x5 x6 s' M => ?_
  (repeat decreasing_trivial_pre_omega)
  refine qq _ _ ⟨M.fr, ?_, by rw [List.length_append]; omega⟩
  unfold pmul
  rw [if_neg (by simp [pn, qn])]
  exact M.pF
theorem lpoly_times_gen (L : Has T "_law_low" 2 4 bd__law_low) (Tr : Has T "_law_trim" 1 2 bd__law_trim) (hpl : Has T "_law_plus" 2 2 bd__law_plus) (hti : Has T "_law_times" 2 2 bd__law_times) (h : Has T "_law_poly_times" 2 7 bd__law_poly_times) {a b : Nat} {p q : List Rat} (ha : s[a]? = some (pW p)) (hb : s[b]? = some (pW q))
    {N : Nat} (sp : Sp n p) (sq : Sp n q) (h0 : 0 < n) (hN0 : 0 < N) (h9n : n + n ≤ 9000) (hX : ∀ x y, x ∈ p → y ∈ q → Sz N (x * y)) (hM : ∀ i j m, i < p.length → Sz N (cM p q i j m)) (h9 : N + N + 1 ≤ 9000) (lp : p.length ≤ 8000000) (lq : q.length ≤ 8000000) (qq : ∀ m s', Nw s s' m (pW (trim (pmul p q))) → Q (.loc m) s') :
    ((gam T C X (k + 3)).call "_law_poly_times" [.loc a, .loc b] s).wp Q Z := by
  refine h.wp rfl ?_
  unfold bd__law_poly_times
  have nil : ∀ (s' : Sto) (Qf : QK Fl), (∀ w s', Q w s' → Qf (.rt w) s') → Fr No s s' → (p = [] ∨ q = []) → (exS (gam T C X (k + 2)) (.ret (.lst .nil) .done) [some (.loc a), some (.loc b), none, none, none, none, none] s').wp Qf Z := fun s' Qf hq f hh => by
    (repeat decreasing_trivial_pre_omega)
    refine hq _ _ (qq _ _ ⟨f.trans (Fr.app _ _), ?_, f.len⟩)
    unfold pmul
    rw [if_pos hh]
    exact get_end
  (repeat decreasing_trivial_pre_omega)
  refine o_eq (eqW_p (p := p) (q := []) (show lsq (.loc a) _ = _ from get_app ha) (show lsq (.loc s.length) _ = _ from get_end)) ?_
  (repeat decreasing_trivial_pre_omega)
  refine ⟨fun z => ⟨fun _ => ?_, fun z => by cases z⟩, fun z => ?_⟩
  · exact nil _ _ (fun _ _ h => h) (Fr.app _ _) (.inl (of_decide_eq_true z))
  have pn : p ≠ [] := of_decide_eq_false z
  (repeat decreasing_trivial_pre_omega)
  refine o_eq (eqW_p (p := q) (q := []) (show lsq (.loc b) _ = _ from get_app (get_app hb)) (show lsq (.loc (s ++ [[]]).length) _ = _ from get_end)) ?_
  (repeat decreasing_trivial_pre_omega)
  refine ⟨fun z => ?_, fun z => ?_⟩
  · exact nil _ _ (fun _ _ h => h) ((Fr.app _ _).trans (Fr.app _ _)) (.inr (of_decide_eq_true z))
  have qn : q ≠ [] := of_decide_eq_false z
  have p1 : 0 < p.length := List.length_pos_iff.mpr pn
  have q1 : 0 < q.length := List.length_pos_iff.mpr qn
  generalize hS : s ++ [[]] ++ [[]] = s1
  have f1 : Fr No s s1 := by rw [← hS]; exact (Fr.app _ _).trans (Fr.app _ _)
  (repeat decreasing_trivial_pre_omega)
  have ha2 : lsq (.loc a) (s1 ++ [[W.tup [.int 0, .int 1]]]) = some (pW p) := get_app (f1.keep ha)
  have hb2 : lsq (.loc b) (s1 ++ [[W.tup [.int 0, .int 1]]]) = some (pW q) := get_app (f1.keep hb)
  (repeat decreasing_trivial_pre_omega)
  have el : ((pW p).length : Int) + ((pW q).length : Int) - 1 = ((p.length + q.length - 1 : Nat) : Int) := by
    rw [List.length_map, List.length_map]
    omega
  rw [el]
  refine o_rep (xs := [nW 0]) get_end (by omega) (by rw [Int.toNat_natCast, List.length_singleton, Nat.one_mul]; exact sl (by omega)) ?_
  rw [Int.toNat_natCast, rep_zero (p.length + q.length - 1) p q]
  (repeat decreasing_trivial_pre_omega)
  have ha3 : lsq (.loc a) ((s1 ++ [[nW 0]]) ++ [pW ((List.range (p.length + q.length - 1)).map (cS p q 0))]) = some (pW p) := get_app ha2
  have hla := get_lt ha
  have hlb := get_lt hb
  have hl1 := f1.len
  refine ⟨_, src_enu ha3, ?_⟩
  refine mul_outer (PL := "_law_plus") (TI := "_law_times") (N := N) (s0 := s) (fun x y s hx hy => ltimes_eq L hti hx hy h0 h9n) (fun x y s hx hy => lplus_eq L hpl hx hy hN0 h9) sp sq hX hM (by rw [List.length_append]; omega) (by rw [List.length_append]; omega) (by rw [List.length_append]; omega) (sl (by omega)) (sl (by omega))
    ⟨ha3, get_app hb2, get_end, f1.trans ((Fr.app _ _).trans (Fr.app _ _))⟩ fun x3 x4 x5 x6 s' M => ?_
  (repeat decreasing_trivial_pre_omega)
  have e : (List.range (p.length + q.length - 1)).map (cS p q p.length) = pmul p q := by
    unfold pmul
    rw [if_neg (by simp [pn, qn])]
  have hM := M.pF
  rw [e] at hM
  refine ltrim_wp Tr (show lsq (.loc (s1 ++ [[nW 0]]).length) s' = _ from hM) (Nat.le_trans (pmul_len p q) (sl (by omega))) fun m s2 N2 => ?_
  (repeat decreasing_trivial_pre_omega)
  exact qq _ _ (N2.pre M.fr)
theorem lpoly_times_wp (L : Has T "_law_low" 2 4 bd__law_low) (Tr : Has T "_law_trim" 1 2 bd__law_trim) (hpl : Has T "_law_plus" 2 2 bd__law_plus) (hti : Has T "_law_times" 2 2 bd__law_times) (h : Has T "_law_poly_times" 2 7 bd__law_poly_times) {a b : Nat} {p q : List Rat} (ha : s[a]? = some (pW p)) (hb : s[b]? = some (pW q))
    {N : Nat} (sp : Sp n p) (sq : Sp n q) (h0 : 0 < n) (hN : 1 + (n + n + 1) * p.length ≤ N) (hN2 : n + n ≤ N) (h9 : N + N + 1 ≤ 9000) (lp : p.length ≤ 8000000) (lq : q.length ≤ 8000000) (qq : ∀ m s', Nw s s' m (pW (trim (pmul p q))) → Q (.loc m) s') :
    ((gam T C X (k + 3)).call "_law_poly_times" [.loc a, .loc b] s).wp Q Z :=
  lpoly_times_gen L Tr hpl hti h ha hb sp sq h0 (by omega) (by omega) (fun x y hx hy => ((sp x hx).mul (sq y hy) h0).mono hN2) (fun i j m hi => Sz.cM sp sq h0 i j m (Nat.le_trans (Nat.add_le_add_left (Nat.mul_le_mul_left _ hi) 1) hN)) h9 lp lq qq
theorem lpoly_plus_wp (L : Has T "_law_low" 2 4 bd__law_low) (Tr : Has T "_law_trim" 1 2 bd__law_trim) (hpl : Has T "_law_plus" 2 2 bd__law_plus) (h : Has T "_law_poly_plus" 2 6 bd__law_poly_plus) {a b : Nat} {p q : List Rat} (ha : s[a]? = some (pW p)) (hb : s[b]? = some (pW q))
    (sp : Sp n p) (sq : Sp n q) (h0 : 0 < n) (h9 : n + n + 1 ≤ 9000) (lp : p.length ≤ 8000000) (lq : q.length ≤ 8000000) (qq : ∀ m s', Nw s s' m (pW (trim (padd p q))) → Q (.loc m) s') :
    ((gam T C X (k + 3)).call "_law_poly_plus" [.loc a, .loc b] s).wp Q Z := by
  refine h.wp rfl ?_
  unfold bd__law_poly_plus
  have hm : max p.length q.length ≤ sizeLine := sl (by omega)
  have ha1 : lsq (.loc a) (s ++ [[]]) = some (pW p) := get_app ha
  have hb1 : lsq (.loc b) (s ++ [[]]) = some (pW q) := get_app hb
  (repeat decreasing_trivial_pre_omega)
  rw [max_len]
  refine ⟨_, src_r1 (lim_of (Nat.le_trans hm (by decide))), ?_⟩
  rw [Int.toNat_natCast]
  refine for_wp (max p.length q.length) (fun i e s' => ∃ x3 x4 x5, e = [some (.loc a), some (.loc b), some (.loc s.length), x3, x4, x5] ∧ Fr No s s' ∧ s'[s.length]? = some (pW ((List.range i).map fun i => at0 p i + at0 q i))) (fun i e s' hi hI => ?_) (fun e s' hI => ?_) big 0 _ _ (Nat.zero_le _) (sz_big hm)
    ⟨none, none, none, rfl, Fr.app _ _, get_end⟩
  · obtain ⟨x3, x4, x5, rfl, f, hf⟩ := hI
    refine ⟨_, it_rng hi, ?_⟩
    have e : (0 : Int) + (i : Nat) * 1 = (i : Nat) := by omega
    rw [e]
    show (exS (gam T C X (k + 2)) _ [some (.loc a), some (.loc b), some (.loc s.length), some (.int (i : Nat)), x4, x5] s').wp _ _
    have ha2 : lsq (.loc a) s' = some (pW p) := f.keep ha
    have hb2 : lsq (.loc b) s' = some (pW q) := f.keep hb
    have fin : ∀ (x4 x5 : Option W), (exS (gam T C X (k + 2)) (.exp (.mt .append (.var 2) (.cons (.call "_law_plus" (.cons (.var 4) (.cons (.var 5) .nil))) .nil)) .done) [some (.loc a), some (.loc b), some (.loc s.length), some (.int (i : Nat)), some (nW (at0 p i)), some (nW (at0 q i))] s').wp (lpQ (fun e s' => ∃ x3 x4 x5, e = [some (.loc a), some (.loc b), some (.loc s.length), x3, x4, x5] ∧ Fr No s s' ∧ s'[s.length]? = some (pW ((List.range (i + 1)).map fun i => at0 p i + at0 q i))) (nxQ (gam T C X (k + 2)) (.ret (.call "_law_trim" (.cons (.var 2) .nil)) .done) (fnQ Q) Z)) Z := fun _ _ => by
      (repeat decreasing_trivial_pre_omega)
      refine ⟨by
        show (s'[s.length]?).isSome = true
        rw [hf]
        rfl, ?_⟩
      (repeat decreasing_trivial_pre_omega)
      refine wp_of_eq (lplus_eq L hpl (sp.at0 h0 i) (sq.at0 h0 i) h0 h9) ?_
      (repeat decreasing_trivial_pre_omega)
      refine o_append hf (by simp; show i < 16777216; omega) ?_
      (repeat decreasing_trivial_pre_omega)
      refine ⟨_, _, _, rfl, f.setge (Nat.le_refl _), ?_⟩
      rw [List.getElem?_set_self (get_lt hf), pW_snoc, List.range_succ, List.map_append]
      rfl
    have sec : ∀ (x4 : Option W), (exS (gam T C X (k + 2)) (.asg (.name 5) (.ite (.cmp .lt (.var 3) (.bi .len (.cons (.var 1) .nil))) (.ix (.var 1) (.var 3)) (.tup (.cons (.int 0) (.cons (.int 1) .nil)))) (.exp (.mt .append (.var 2) (.cons (.call "_law_plus" (.cons (.var 4) (.cons (.var 5) .nil))) .nil)) .done)) [some (.loc a), some (.loc b), some (.loc s.length), some (.int (i : Nat)), some (nW (at0 p i)), x5] s').wp (lpQ (fun e s' => ∃ x3 x4 x5, e = [some (.loc a), some (.loc b), some (.loc s.length), x3, x4, x5] ∧ Fr No s s' ∧ s'[s.length]? = some (pW ((List.range (i + 1)).map fun i => at0 p i + at0 q i))) (nxQ (gam T C X (k + 2)) (.ret (.call "_law_trim" (.cons (.var 2) .nil)) .done) (fnQ Q) Z)) Z := fun _ => by
      (repeat decreasing_trivial_pre_omega)
      refine ⟨fun z => ?_, fun z => ?_⟩
      · have z := of_decide_eq_true z
        rw [List.length_map] at z
        have hq : i < q.length := by omega
        (repeat decreasing_trivial_pre_omega)
        refine o_ix hb2 (atW_nat (pW_get hq)) ?_
        rw [at0_get hq]
        exact fin none none
      · have z := of_decide_eq_false z
        rw [List.length_map] at z
        refine e_tup (es_cons (e_int (es_cons (e_int (es_nil ⟨by decide, ?_⟩)))))
        have e0 : W.tup [.int 0, .int 1] = nW (at0 q i) := by rw [at0_no (by omega)]; rfl
        rw [e0]
        exact fin none none
    (repeat decreasing_trivial_pre_omega)
    refine ⟨fun z => ?_, fun z => ?_⟩
    · have z := of_decide_eq_true z
      rw [List.length_map] at z
      have hp : i < p.length := by omega
      (repeat decreasing_trivial_pre_omega)
      refine o_ix ha2 (atW_nat (pW_get hp)) ?_
      rw [at0_get hp]
      exact sec none
    · have z := of_decide_eq_false z
      rw [List.length_map] at z
      refine e_tup (es_cons (e_int (es_cons (e_int (es_nil ⟨by decide, ?_⟩)))))
      have e0 : W.tup [.int 0, .int 1] = nW (at0 p i) := by rw [at0_no (by omega)]; rfl
      rw [e0]
      exact sec none
  · obtain ⟨x3, x4, x5, rfl, f, hf⟩ := hI
    refine ⟨it_rng0, ?_⟩
    (repeat decreasing_trivial_pre_omega)
    refine ltrim_wp Tr (show lsq (.loc s.length) s' = _ from hf) (by simpa using hm) fun m s2 N2 => ?_
    (repeat decreasing_trivial_pre_omega)
    exact qq _ _ (N2.pre f)
end
end Pl
namespace Pl
open PySem Py
local macro_rules | `(tactic| decreasing_trivial_pre_omega) => `(tactic| (first | with_reducible refine x_set ?_ | with_reducible refine x_par2 ?_ | with_reducible refine x_par3 ?_ | with_reducible refine x_ite ?_ | with_reducible refine x_for ?_ | with_reducible refine x_whl ?_ | with_reducible refine x_ret ?_ | with_reducible refine x_retn ?_ | with_reducible refine x_brk ?_ | with_reducible refine x_ct ?_ | with_reducible refine x_pass ?_ | with_reducible refine x_exp ?_ | with_reducible refine x_done ?_ | with_reducible refine nx_nx ?_ | with_reducible refine nx_rt ?_ | with_reducible refine nx_bk ?_ | with_reducible refine nx_ct ?_ | with_reducible refine lp_nx ?_ | with_reducible refine lp_ct ?_ | with_reducible refine lp_bk ?_ | with_reducible refine lp_rt ?_ | with_reducible refine jn_nx ?_ | with_reducible refine jn_rt ?_ | with_reducible refine fn_nx ?_ | with_reducible refine fn_rt ?_ | with_reducible refine e_int ?_ | with_reducible refine e_bl ?_ | with_reducible refine e_non ?_ | with_reducible refine e_str ?_ | with_reducible refine e_bin ?_ | with_reducible refine e_neg ?_ | with_reducible refine e_no ?_ | with_reducible refine e_cmp ?_ | with_reducible refine e_chain ?_ | with_reducible refine e_and ?_ | with_reducible refine e_or ?_ | with_reducible refine e_one ?_ | with_reducible refine e_ite ?_ | with_reducible refine e_tup ?_ | with_reducible refine e_lst ?_ | with_reducible refine e_ix ?_ | with_reducible refine e_sl ?_ | with_reducible refine e_rv ?_ | with_reducible refine e_call ?_ | with_reducible refine e_bi ?_ | with_reducible refine e_mt ?_ | with_reducible refine e_isi ?_ | with_reducible refine e_comp ?_ | with_reducible refine es_nil ?_ | with_reducible refine es_cons ?_ | with_reducible refine eo_nil ?_ | with_reducible refine eo_one ?_ | with_reducible refine t_and ?_ | with_reducible refine t_or ?_ | with_reducible refine t_no ?_ | with_reducible refine t_one ?_ | with_reducible refine t_nil ?_ | with_reducible refine t_cmp ?_ | with_reducible refine t_chain ?_ | with_reducible refine t_call ?_ | with_reducible refine t_bi ?_ | with_reducible refine t_isi ?_ | with_reducible refine x_asg ?_ | with_reducible refine a_sub ?_ | with_reducible refine o_add ?_ | with_reducible refine o_sub ?_ | with_reducible refine o_adb ?_ | with_reducible refine o_lt ?_ | with_reducible refine o_le ?_ | with_reducible refine o_gt ?_ | with_reducible refine o_ge ?_ | with_reducible refine o_eqi ?_ | with_reducible refine o_nei ?_ | with_reducible refine o_isN ?_ | with_reducible refine o_notN ?_ | with_reducible refine o_isB ?_ | with_reducible refine o_notB ?_ | with_reducible refine o_abs ?_ | with_reducible refine o_int ?_ | with_reducible refine o_intb ?_ | with_reducible refine o_max ?_ | with_reducible refine o_min ?_ | with_reducible refine o_neg ?_ | with_reducible refine o_lent ?_ | with_reducible refine ex_bl ?_ | with_reducible refine ex_int ?_ | with_reducible refine bq ?_ | with_reducible refine tq ?_ | with_reducible refine r_ok ?_ | ((with_reducible apply e_var); exact rfl) | ((with_reducible apply x_add); exact rfl) | ((with_reducible apply x_sub); exact rfl) | ((with_reducible apply o_ixt); exact rfl) | ((with_reducible apply o_isi); exact rfl) | ((with_reducible apply t_len); exact rfl) | ((with_reducible apply o_ix); assumption; exact rfl) | ((with_reducible apply e_con); rw [gc]; assumption) | ((with_reducible apply o_len); assumption) | ((with_reducible apply o_list); assumption) | ((with_reducible apply o_tuple); assumption) | ((with_reducible apply o_sl); assumption)))
def sumTo (f : Nat → Rat) : Nat → Rat
  | 0 => 0
  | m + 1 => sumTo f m + f m
theorem sumTo_left (f : Nat → Rat) : ∀ m, sumTo f (m + 1) = f 0 + sumTo (fun t => f (t + 1)) m
  | 0 => by rw [sumTo, sumTo, sumTo, Rat.zero_add, Rat.add_zero]
  | m + 1 => by
    rw [sumTo, sumTo_left f m, sumTo, Rat.add_assoc]
theorem sumTo_congr {f g : Nat → Rat} : ∀ {m : Nat}, (∀ t, t < m → f t = g t) → sumTo f m = sumTo g m
  | 0, _ => rfl
  | m + 1, h => by rw [sumTo, sumTo, sumTo_congr fun t ht => h t (by omega), h m (by omega)]
theorem sumTo_rev (f : Nat → Rat) : ∀ m, sumTo (fun t => f (m - t)) (m + 1) = sumTo f (m + 1)
  | 0 => rfl
  | m + 1 => by
    have e : sumTo f (m + 1 + 1) = sumTo f (m + 1) + f (m + 1) := rfl
    rw [sumTo_left, e, ← sumTo_rev f m, Nat.sub_zero, Rat.add_comm]
    congr 1
    exact sumTo_congr fun t _ => by rw [Nat.add_sub_add_right]
theorem cS_sum (p q : List Rat) (n : Nat) : ∀ i, cS p q i n = sumTo (fun t => if t ≤ n then at0 p t * at0 q (n - t) else 0) i
  | 0 => rfl
  | i + 1 => by rw [cS, sumTo, cS_sum p q n i]
theorem sumTo_cut {f : Nat → Rat} {a : Nat} : ∀ b, a ≤ b → (∀ t, a ≤ t → f t = 0) → sumTo f b = sumTo f a
  | 0, h, _ => by rw [Nat.le_zero.mp h]
  | b + 1, h, hf => by
    rcases Nat.lt_or_eq_of_le h with lt | e
    · rw [sumTo, sumTo_cut b (by omega) hf, hf b (by omega), Rat.add_zero]
    · rw [e]
theorem cS_all (p q : List Rat) (n : Nat) : cS p q p.length n = sumTo (fun t => at0 p t * at0 q (n - t)) (n + 1) := by
  have h1 := sumTo_cut (f := fun t => if t ≤ n then at0 p t * at0 q (n - t) else 0) (a := p.length) (max p.length (n + 1)) (by omega) fun t ht => by
    rw [at0_no (p := p) ht, Rat.zero_mul]
    split <;> rfl
  have h2 := sumTo_cut (f := fun t => if t ≤ n then at0 p t * at0 q (n - t) else 0) (a := n + 1) (max p.length (n + 1)) (by omega) fun t ht => by
    rw [if_neg (by omega)]
  rw [cS_sum, ← h1, h2]
  exact sumTo_congr fun t ht => by rw [if_pos (by omega)]
theorem cS_comm (p q : List Rat) (n : Nat) : cS p q p.length n = cS q p q.length n := by
  rw [cS_all, cS_all, ← sumTo_rev (fun t => at0 q t * at0 p (n - t))]
  exact sumTo_congr fun t ht => by
    rw [Rat.mul_comm, show n - (n - t) = t from by omega]
theorem pmul_comm (p q : List Rat) : pmul p q = pmul q p := by
  unfold pmul
  by_cases h : p = [] ∨ q = []
  · rw [if_pos h, if_pos (Or.comm.mp h)]
  · rw [if_neg h, if_neg (fun z => h (Or.comm.mp z)), Nat.add_comm]
    apply List.map_congr_left
    intro n _
    exact cS_comm p q n
def LL (s : Sto) : List Nat → List (List Rat) → Prop
  | [], [] => True
  | m :: ms, p :: ps => s[m]? = some (pW p) ∧ LL s ms ps
  | _, _ => False
theorem LL.len {s : Sto} : ∀ {ms : List Nat} {ps : List (List Rat)}, LL s ms ps → ms.length = ps.length
  | [], [], _ => rfl
  | _ :: _, _ :: _, h => congrArg (· + 1) (LL.len h.2)
  | [], _ :: _, h => h.elim
  | _ :: _, [], h => h.elim
theorem LL.get {s : Sto} : ∀ {ms : List Nat} {ps : List (List Rat)}, LL s ms ps → ∀ {j : Nat} (h : j < ms.length), ∃ p, p ∈ ps ∧ s[ms[j]]? = some (pW p)
  | [], [], _, j, h => absurd h (Nat.not_lt_zero _)
  | m :: ms, p :: ps, hh, 0, h => ⟨p, List.mem_cons_self, hh.1⟩
  | m :: ms, p :: ps, hh, j + 1, h => by
    obtain ⟨q, h1, h2⟩ := LL.get hh.2 (j := j) (Nat.lt_of_succ_lt_succ h)
    exact ⟨q, List.mem_cons_of_mem _ h1, h2⟩
  | [], _ :: _, hh, _, _ => hh.elim
  | _ :: _, [], hh, _, _ => hh.elim
theorem LL.keep {U : Nat → Prop} {s s' : Sto} (f : Fr U s s') : ∀ {ms : List Nat} {ps : List (List Rat)}, LL s ms ps → (∀ m ∈ ms, ¬ U m) → LL s' ms ps
  | [], [], _, _ => trivial
  | m :: ms, p :: ps, h, hu => ⟨f.get _ _ (hu m List.mem_cons_self) h.1, LL.keep f h.2 fun x hx => hu x (List.mem_cons_of_mem _ hx)⟩
  | [], _ :: _, h, _ => h.elim
  | _ :: _, [], h, _ => h.elim
theorem LL.D {s : Sto} (n : Nat) : ∀ {ms : List Nat} {ps : List (List Rat)}, LL s ms ps → (ms.map W.loc).mapM (toD (n + 3) s) = some (ps.map fun p => PyData.list (p.map nD))
  | [], [], _ => rfl
  | m :: ms, p :: ps, h => by
    show ((W.loc m :: ms.map W.loc).mapM (toD (n + 3) s)) = _
    rw [List.mapM_cons, pW_D n s (.loc m) p h.1, LL.D n h.2]
    rfl
  | [], _ :: _, h => h.elim
  | _ :: _, [], h => h.elim
theorem LL.lay : ∀ ps : List (List Rat), PyData.canLayAll0 (ps.map fun p => PyData.list (p.map nD)) = true
  | [] => rfl
  | p :: ps => by
    rw [List.map_cons, PyData.canLayAll0, PyData.canLay0, pD_lay, LL.lay ps]
    rfl
theorem LL.eqW {s : Sto} {t d : Nat} {ms ds : List Nat} {ps : List (List Rat)} (ht : s[t]? = some (ms.map W.loc)) (hd : s[d]? = some (ds.map W.loc)) (h : LL s ms ps) (h' : LL s ds ps) : Py.eqW (.loc t) (.loc d) s = some true := by
  refine eqW_same (d := .list (ps.map fun p => PyData.list (p.map nD))) ?_ ?_ (by rw [PyData.canLay0]; exact LL.lay ps)
  · show ((s[t]?).bind fun ws => (ws.mapM (toD 15 s)).map PyData.list) = _
    rw [ht, Option.bind_some, h.D 12]
    rfl
  · show ((s[d]?).bind fun ws => (ws.mapM (toD 15 s)).map PyData.list) = _
    rw [hd, Option.bind_some, h'.D 12]
    rfl
theorem Fr.memge {U : Nat → Prop} {ms : List Nat} {s0 s s' : Sto} (h : Fr U s0 s) (f : Fr (· ∈ ms) s s') (hm : ∀ m ∈ ms, s0.length ≤ m) : Fr U s0 s' := ⟨Nat.le_trans h.len f.len, fun n ws hu e => f.get n ws (fun z => by
  have := hm n z
  have := get_lt e
  omega) (h.get n ws hu e)⟩
section
variable {T : Str → Option Fi} {C : Str → Option W} {X : Str → Bool} {k n : Nat} {s : Sto} {Z : EK} {Q : QK W} {u : Nat}
theorem allpoly_wp (L : Has T "_law_low" 2 4 bd__law_low) (Wh : Has T "_law_whole" 1 1 bd__law_whole) (In : Has T "_law_is_number" 1 1 bd__law_is_number) (Tr : Has T "_law_trim" 1 2 bd__law_trim) (Ip : Has T "_law_is_poly" 1 2 bd__law_is_poly)
    {own : List (Str × Nat)} {tg : Tn} {e : Sl} {i : Nat} {t : Nat} {ms : List Nat} {ps : List (List Rat)} (he : ∀ w, ∃ e', tnSet tg w (wipeS e (own.map Prod.snd)) = some e' ∧ e'[i]? = some (some w))
    (ht : s[t]? = some (ms.map W.loc)) (h : LL s ms ps) (hp : ∀ p ∈ ps, Sp n p ∧ trim p = p ∧ p.length ≤ 8000000) (hn : n ≤ 9000) (hl : ms.length ≤ 8000000) {Q : QK (List W)} (q : ∀ s', Fr No s s' → Q ((List.range ms.length).map fun _ => W.bl true) s') :
    (compL (fun w s2 => R.noex (compF (gam T C X (k + 3)) own tg .nil (.call "_law_is_poly" (.cons (.var i) .nil)) e w s2)) big (.li (.loc t)) 0 [] s).wp Q Z := by
  refine comp_wp ms.length (fun j acc s' => acc = (List.range j).map (fun _ => W.bl true) ∧ Fr No s s') (fun j acc s' hj hI => ?_) (fun acc s' hI => ?_) (sl (by omega)) big 0 [] s (Nat.zero_le _) (sz_big (sl (by omega))) ⟨rfl, Fr.refl _⟩
  · obtain ⟨rfl, f⟩ := hI
    refine ⟨.loc ms[j], (it_li (show lsq (.loc t) s' = _ from f.keep ht)).trans (by rw [List.getElem?_map, List.getElem?_eq_getElem hj]; rfl), by simp, ?_⟩
    obtain ⟨e', h1, h2⟩ := he (.loc ms[j])
    obtain ⟨p, h3, h4⟩ := h.get hj
    obtain ⟨a1, a2, a3⟩ := hp p h3
    refine compF_wp h1 (t_nil ⟨fun _ => ?_, fun z => by cases z⟩)
    refine e_call (es_cons (e_var h2 (es_nil ?_)))
    refine ispoly_wp L Wh In Tr Ip (f.keep h4) a1 hn a2 (sl (by omega)) fun s3 f4 => ?_
    exact ⟨by rw [List.range_succ, List.map_append]; rfl, f.trans f4⟩
  · obtain ⟨rfl, f⟩ := hI
    exact ⟨(it_li (show lsq (.loc t) s' = _ from f.keep ht)).trans (by rw [List.getElem?_eq_none (by simp)]), q s' f⟩
theorem appends_wp {g : G} {ms : List Nat} {t c : Nat} {tg : Tn} {body : B} {x : W} (J : Sl → Prop) (c1 : c + ms.length < sizeLine)
    (step : ∀ e w s' (Q : QK Fl), J e → (∃ m, w = .loc m ∧ ∃ ws, s'[m]? = some ws ∧ ws.length < sizeLine) → (∀ e' m ws, J e' → w = .loc m → s'[m]? = some ws → Q (.nx e') (s'.set m (ws ++ [x]))) → (forF g tg body w e s').wp Q Z)
    (ht : s[t]? = some (ms.map W.loc)) (htm : t ∉ ms) (hs : ∀ m ∈ ms, ∃ ws, s[m]? = some ws ∧ ws.length ≤ c) {e : Sl} (hJ : J e) {Q : QK Fl} (q : ∀ e' s', J e' → Fr (· ∈ ms) s s' → Q (.nx e') s') : (forL (forF g tg body) big (.li (.loc t)) 0 e s).wp Q Z := by
  refine for_wp ms.length (fun j e s' => J e ∧ Fr (· ∈ ms) s s' ∧ ∀ m ∈ ms, ∃ ws, s'[m]? = some ws ∧ ws.length ≤ c + j) (fun j e s' hj hI => ?_) (fun e s' hI => ?_) big 0 e s (Nat.zero_le _) (sz_big (by omega)) ⟨hJ, Fr.refl _, hs⟩
  · obtain ⟨h1, f, h2⟩ := hI
    have ht' := f.get _ _ htm ht
    refine ⟨.loc ms[j], (it_li (show lsq (.loc t) s' = _ from ht')).trans (by rw [List.getElem?_map, List.getElem?_eq_getElem hj]; rfl), ?_⟩
    obtain ⟨ws, h3, h4⟩ := h2 _ (List.getElem_mem hj)
    refine step e _ s' _ h1 ⟨_, rfl, ws, h3, by omega⟩ fun e' m ws' h5 h6 h7 => ?_
    cases h6
    refine ⟨h5, f.trans (Fr.set (List.getElem_mem hj)), fun m' hm' => ?_⟩
    by_cases e : m' = ms[j]
    · subst e
      rw [h3] at h7
      cases h7
      exact ⟨_, List.getElem?_set_self (get_lt h3), by rw [List.length_append, List.length_singleton]; omega⟩
    · obtain ⟨us, h8, h9⟩ := h2 m' hm'
      exact ⟨us, by rw [List.getElem?_set_ne (fun z => e z.symm)]; exact h8, by omega⟩
  · obtain ⟨h1, f, h2⟩ := hI
    have ht' := f.get _ _ htm ht
    exact ⟨(it_li (show lsq (.loc t) s' = _ from ht')).trans (by rw [List.getElem?_eq_none (by simp)]), q e s' h1 f⟩
end
end Pl
namespace Pl
open PySem Py
local macro_rules | `(tactic| decreasing_trivial_pre_omega) => `(tactic| (first | with_reducible refine x_set ?_ | with_reducible refine x_par2 ?_ | with_reducible refine x_par3 ?_ | with_reducible refine x_ite ?_ | with_reducible refine x_for ?_ | with_reducible refine x_whl ?_ | with_reducible refine x_ret ?_ | with_reducible refine x_retn ?_ | with_reducible refine x_brk ?_ | with_reducible refine x_ct ?_ | with_reducible refine x_pass ?_ | with_reducible refine x_exp ?_ | with_reducible refine x_done ?_ | with_reducible refine nx_nx ?_ | with_reducible refine nx_rt ?_ | with_reducible refine nx_bk ?_ | with_reducible refine nx_ct ?_ | with_reducible refine lp_nx ?_ | with_reducible refine lp_ct ?_ | with_reducible refine lp_bk ?_ | with_reducible refine lp_rt ?_ | with_reducible refine jn_nx ?_ | with_reducible refine jn_rt ?_ | with_reducible refine fn_nx ?_ | with_reducible refine fn_rt ?_ | with_reducible refine e_int ?_ | with_reducible refine e_bl ?_ | with_reducible refine e_non ?_ | with_reducible refine e_str ?_ | with_reducible refine e_bin ?_ | with_reducible refine e_neg ?_ | with_reducible refine e_no ?_ | with_reducible refine e_cmp ?_ | with_reducible refine e_chain ?_ | with_reducible refine e_and ?_ | with_reducible refine e_or ?_ | with_reducible refine e_one ?_ | with_reducible refine e_ite ?_ | with_reducible refine e_tup ?_ | with_reducible refine e_lst ?_ | with_reducible refine e_ix ?_ | with_reducible refine e_sl ?_ | with_reducible refine e_rv ?_ | with_reducible refine e_call ?_ | with_reducible refine e_bi ?_ | with_reducible refine e_mt ?_ | with_reducible refine e_isi ?_ | with_reducible refine e_comp ?_ | with_reducible refine es_nil ?_ | with_reducible refine es_cons ?_ | with_reducible refine eo_nil ?_ | with_reducible refine eo_one ?_ | with_reducible refine t_and ?_ | with_reducible refine t_or ?_ | with_reducible refine t_no ?_ | with_reducible refine t_one ?_ | with_reducible refine t_nil ?_ | with_reducible refine t_cmp ?_ | with_reducible refine t_chain ?_ | with_reducible refine t_call ?_ | with_reducible refine t_bi ?_ | with_reducible refine t_isi ?_ | with_reducible refine x_asg ?_ | with_reducible refine a_sub ?_ | with_reducible refine o_add ?_ | with_reducible refine o_sub ?_ | with_reducible refine o_adb ?_ | with_reducible refine o_lt ?_ | with_reducible refine o_le ?_ | with_reducible refine o_gt ?_ | with_reducible refine o_ge ?_ | with_reducible refine o_eqi ?_ | with_reducible refine o_nei ?_ | with_reducible refine o_isN ?_ | with_reducible refine o_notN ?_ | with_reducible refine o_isB ?_ | with_reducible refine o_notB ?_ | with_reducible refine o_abs ?_ | with_reducible refine o_int ?_ | with_reducible refine o_intb ?_ | with_reducible refine o_max ?_ | with_reducible refine o_min ?_ | with_reducible refine o_neg ?_ | with_reducible refine o_lent ?_ | with_reducible refine ex_bl ?_ | with_reducible refine ex_int ?_ | with_reducible refine bq ?_ | with_reducible refine tq ?_ | with_reducible refine r_ok ?_ | ((with_reducible apply e_var); exact rfl) | ((with_reducible apply x_add); exact rfl) | ((with_reducible apply x_sub); exact rfl) | ((with_reducible apply o_ixt); exact rfl) | ((with_reducible apply o_isi); exact rfl) | ((with_reducible apply t_len); exact rfl) | ((with_reducible apply o_ix); assumption; exact rfl) | ((with_reducible apply e_con); rw [gc]; assumption) | ((with_reducible apply o_len); assumption) | ((with_reducible apply o_list); assumption) | ((with_reducible apply o_tuple); assumption) | ((with_reducible apply o_sl); assumption)))
def SH (c : Rat) : List Rat → List Rat
  | [] => []
  | a :: p => (List.range (p.length + 1)).map fun i => (if i = 0 then a else at0 (SH c p) (i - 1)) + c * at0 (SH c p) i
theorem SH_len (c : Rat) : ∀ p, (SH c p).length = p.length
  | [] => rfl
  | a :: p => by rw [SH]; simp
theorem SH_at (c a : Rat) (p : List Rat) (i : Nat) : at0 (SH c (a :: p)) i = (if i = 0 then a else at0 (SH c p) (i - 1)) + c * at0 (SH c p) i := by
  rw [SH, range_at]
  split
  · rfl
  · rename_i h
    rw [if_neg (by omega), at0_no (p := SH c p) (by rw [SH_len]; omega), at0_no (p := SH c p) (by rw [SH_len]; omega), Rat.mul_zero, Rat.add_zero]
def hor (c : Rat) : List Rat → List Rat
  | [] => []
  | a :: p => (a + c * at0 (hor c p) 0) :: hor c p
theorem hor_len (c : Rat) : ∀ p, (hor c p).length = p.length
  | [] => rfl
  | a :: p => by rw [hor, List.length_cons, List.length_cons, hor_len c p]
theorem SH_zero (c : Rat) : ∀ p, at0 (SH c p) 0 = at0 (hor c p) 0
  | [] => rfl
  | a :: p => by
    rw [SH_at, if_pos rfl, SH_zero c p, hor]
    rfl
theorem SH_hor (c : Rat) : ∀ (p : List Rat) (i : Nat), at0 (SH c (hor c p)) i = at0 (SH c p) i + c * at0 (SH c p) (i + 1)
  | [], i => by
    show (0 : Rat) = 0 + c * 0
    rw [Rat.mul_zero, Rat.add_zero]
  | b :: p, i => by
    rw [hor, SH_at, SH_at, SH_at, if_neg (Nat.succ_ne_zero i), Nat.add_sub_cancel, SH_hor c p i]
    cases i with
    | zero =>
      rw [if_pos rfl, if_pos rfl, ← SH_zero c p]
    | succ i =>
      rw [if_neg (Nat.succ_ne_zero i), if_neg (Nat.succ_ne_zero i), Nat.add_sub_cancel, SH_hor c p i]
theorem at0_ext {p q : List Rat} (hl : p.length = q.length) (h : ∀ i, at0 p i = at0 q i) : p = q := by
  apply List.ext_getElem hl
  intro i h1 h2
  rw [at0_get h1, at0_get h2, h i]
theorem SH_step (c a : Rat) (p : List Rat) : SH c (a :: p) = (a + c * at0 (hor c p) 0) :: SH c (hor c p) := by
  refine at0_ext (by rw [SH_len, List.length_cons, List.length_cons, SH_len, hor_len]) fun i => ?_
  cases i with
  | zero =>
    rw [SH_at, if_pos rfl, SH_zero]
    rfl
  | succ i =>
    rw [SH_at, if_neg (Nat.succ_ne_zero i), Nat.add_sub_cancel]
    show _ = at0 (SH c (hor c p)) i
    rw [SH_hor]
theorem SH_back0 (d : Rat) : ∀ (T : List Rat) (a : Rat) (i : Nat), at0 (SH d ((List.range (T.length + 1)).map fun i => (if i = 0 then a else at0 T (i - 1)) - d * at0 T i)) i = at0 (a :: SH d T) i
  | [], a, i => by
    show at0 (SH d [a - d * 0]) i = at0 [a] i
    rw [Rat.mul_zero, show a - 0 = a from by grind]
    have : SH d [a] = [a] := by
      rw [SH]
      show [a + d * 0] = [a]
      rw [Rat.mul_zero, Rat.add_zero]
    rw [this]
  | t :: T, a, i => by
    have e : (List.range ((t :: T).length + 1)).map (fun i => (if i = 0 then a else at0 (t :: T) (i - 1)) - d * at0 (t :: T) i) = (a - d * t) :: (List.range (T.length + 1)).map (fun i => (if i = 0 then t else at0 T (i - 1)) - d * at0 T i) := by
      rw [List.length_cons, List.range_succ_eq_map, List.map_cons, List.map_map]
      congr 1
      apply List.map_congr_left
      intro j _
      show (if j + 1 = 0 then a else at0 (t :: T) (j + 1 - 1)) - d * at0 (t :: T) (j + 1) = _
      rw [if_neg (Nat.succ_ne_zero j), Nat.add_sub_cancel]
      cases j with
      | zero => rfl
      | succ j => rfl
    have ih := SH_back0 d T t
    rw [e, SH_at]
    cases i with
    | zero =>
      rw [if_pos rfl, ih 0]
      show a - d * t + d * t = a
      grind
    | succ i =>
      rw [if_neg (Nat.succ_ne_zero i), Nat.add_sub_cancel, ih i, ih (i + 1)]
      show at0 (t :: SH d T) i + d * at0 (SH d T) i = at0 (SH d (t :: T)) i
      rw [SH_at]
      cases i with
      | zero => rfl
      | succ i => rfl
theorem SH_back (c : Rat) : ∀ p, SH (-c) (SH c p) = p
  | [] => rfl
  | a :: p => by
    refine at0_ext (by rw [SH_len, SH_len]) fun i => ?_
    have h := SH_back0 (-c) (SH c p) a i
    rw [SH_back c p] at h
    rw [← h, SH, SH_len]
    congr 3
    funext j
    grind
theorem SH_last (c : Rat) : ∀ p, at0 (SH c p) (p.length - 1) = at0 p (p.length - 1)
  | [] => rfl
  | [a] => by
    show at0 (SH c [a]) 0 = a
    rw [SH_at, if_pos rfl]
    show a + c * 0 = a
    rw [Rat.mul_zero, Rat.add_zero]
  | a :: b :: p => by
    have ih := SH_last c (b :: p)
    rw [SH_at, if_neg (by simp)]
    show at0 (SH c (b :: p)) (p.length + 1 - 1) + c * at0 (SH c (b :: p)) (p.length + 1) = at0 (b :: p) p.length
    have e : (b :: p).length - 1 = p.length := rfl
    rw [e] at ih
    rw [Nat.add_sub_cancel, ih, at0_no (p := SH c (b :: p)) (by rw [SH_len]; exact Nat.le_refl _), Rat.mul_zero, Rat.add_zero]
theorem trim_of_last {p : List Rat} (h : p ≠ [] → at0 p (p.length - 1) ≠ 0) : trim p = p := by
  by_cases hp : p = []
  · subst hp
    rfl
  · obtain ⟨r, a, rfl⟩ := snoc hp
    have := h hp
    rw [List.length_append, List.length_singleton, Nat.add_sub_cancel, ← at0_get (by simp)] at this
    simp at this
    exact trim_last this r
theorem last_of_trim {p : List Rat} (h : trim p = p) (hp : p ≠ []) : at0 p (p.length - 1) ≠ 0 := by
  obtain ⟨r, a, rfl, ha⟩ := ne_trim h hp
  rw [List.length_append, List.length_singleton, Nat.add_sub_cancel, ← at0_get (by simp)]
  simpa using ha
theorem SH_trim (c : Rat) {p : List Rat} (h : trim p = p) : trim (SH c p) = SH c p := trim_of_last fun hp => by
  rw [SH_len, SH_last]
  exact last_of_trim h fun e => hp (by rw [e]; rfl)
end Pl
namespace Pl
open PySem Py
local macro_rules | `(tactic| decreasing_trivial_pre_omega) => `(tactic| (first | with_reducible refine x_set ?_ | with_reducible refine x_par2 ?_ | with_reducible refine x_par3 ?_ | with_reducible refine x_ite ?_ | with_reducible refine x_for ?_ | with_reducible refine x_whl ?_ | with_reducible refine x_ret ?_ | with_reducible refine x_retn ?_ | with_reducible refine x_brk ?_ | with_reducible refine x_ct ?_ | with_reducible refine x_pass ?_ | with_reducible refine x_exp ?_ | with_reducible refine x_done ?_ | with_reducible refine nx_nx ?_ | with_reducible refine nx_rt ?_ | with_reducible refine nx_bk ?_ | with_reducible refine nx_ct ?_ | with_reducible refine lp_nx ?_ | with_reducible refine lp_ct ?_ | with_reducible refine lp_bk ?_ | with_reducible refine lp_rt ?_ | with_reducible refine jn_nx ?_ | with_reducible refine jn_rt ?_ | with_reducible refine fn_nx ?_ | with_reducible refine fn_rt ?_ | with_reducible refine e_int ?_ | with_reducible refine e_bl ?_ | with_reducible refine e_non ?_ | with_reducible refine e_str ?_ | with_reducible refine e_bin ?_ | with_reducible refine e_neg ?_ | with_reducible refine e_no ?_ | with_reducible refine e_cmp ?_ | with_reducible refine e_chain ?_ | with_reducible refine e_and ?_ | with_reducible refine e_or ?_ | with_reducible refine e_one ?_ | with_reducible refine e_ite ?_ | with_reducible refine e_tup ?_ | with_reducible refine e_lst ?_ | with_reducible refine e_ix ?_ | with_reducible refine e_sl ?_ | with_reducible refine e_rv ?_ | with_reducible refine e_call ?_ | with_reducible refine e_bi ?_ | with_reducible refine e_mt ?_ | with_reducible refine e_isi ?_ | with_reducible refine e_comp ?_ | with_reducible refine es_nil ?_ | with_reducible refine es_cons ?_ | with_reducible refine eo_nil ?_ | with_reducible refine eo_one ?_ | with_reducible refine t_and ?_ | with_reducible refine t_or ?_ | with_reducible refine t_no ?_ | with_reducible refine t_one ?_ | with_reducible refine t_nil ?_ | with_reducible refine t_cmp ?_ | with_reducible refine t_chain ?_ | with_reducible refine t_call ?_ | with_reducible refine t_bi ?_ | with_reducible refine t_isi ?_ | with_reducible refine x_asg ?_ | with_reducible refine a_sub ?_ | with_reducible refine o_add ?_ | with_reducible refine o_sub ?_ | with_reducible refine o_adb ?_ | with_reducible refine o_lt ?_ | with_reducible refine o_le ?_ | with_reducible refine o_gt ?_ | with_reducible refine o_ge ?_ | with_reducible refine o_eqi ?_ | with_reducible refine o_nei ?_ | with_reducible refine o_isN ?_ | with_reducible refine o_notN ?_ | with_reducible refine o_isB ?_ | with_reducible refine o_notB ?_ | with_reducible refine o_abs ?_ | with_reducible refine o_int ?_ | with_reducible refine o_intb ?_ | with_reducible refine o_max ?_ | with_reducible refine o_min ?_ | with_reducible refine o_neg ?_ | with_reducible refine o_lent ?_ | with_reducible refine ex_bl ?_ | with_reducible refine ex_int ?_ | with_reducible refine bq ?_ | with_reducible refine tq ?_ | with_reducible refine r_ok ?_ | ((with_reducible apply e_var); exact rfl) | ((with_reducible apply x_add); exact rfl) | ((with_reducible apply x_sub); exact rfl) | ((with_reducible apply o_ixt); exact rfl) | ((with_reducible apply o_isi); exact rfl) | ((with_reducible apply t_len); exact rfl) | ((with_reducible apply o_ix); assumption; exact rfl) | ((with_reducible apply e_con); rw [gc]; assumption) | ((with_reducible apply o_len); assumption) | ((with_reducible apply o_list); assumption) | ((with_reducible apply o_tuple); assumption) | ((with_reducible apply o_sl); assumption)))
def Px (D E Y K n t i : Nat) (v : Rat) : Prop := ∃ z : Int, v = Rat.divInt z ((D * E ^ (n - i) : Nat) : Int) ∧ z.natAbs ≤ 2 ^ t * K * Y ^ (n - i)
theorem divInt_add_same (a b : Int) {g : Int} (hg : g ≠ 0) : Rat.divInt a g + Rat.divInt b g = Rat.divInt (a + b) g := by
  rw [Rat.divInt_eq_div, Rat.divInt_eq_div, Rat.divInt_eq_div]
  have h1 : ((a + b : Int) : Rat) = (a : Rat) + (b : Rat) := Rat.intCast_add a b
  rw [h1, Rat.div_def, Rat.div_def, Rat.div_def, Rat.add_mul]
theorem Px.up {D E Y K n t t' i : Nat} {v : Rat} (h : Px D E Y K n t i v) (l : t ≤ t') : Px D E Y K n t' i v := by
  obtain ⟨z, h1, h2⟩ := h
  exact ⟨z, h1, Nat.le_trans h2 (Nat.mul_le_mul_right _ (Nat.mul_le_mul_right _ (Nat.pow_le_pow_right (by decide) l)))⟩
theorem Px.mul {D E Y K n t i : Nat} {w : Rat} {y : Int} (hi : i < n) (hy : y.natAbs ≤ Y) (h : Px D E Y K n t (i + 1) w) : Px D E Y K n t i (Rat.divInt y (E : Int) * w) := by
  obtain ⟨z, h1, h2⟩ := h
  have e : n - i = (n - (i + 1)) + 1 := by omega
  refine ⟨y * z, ?_, ?_⟩
  · rw [h1, Rat.divInt_mul_divInt, e, Nat.pow_succ]
    congr 1
    push_cast
    rw [Int.mul_left_comm, Int.mul_comm (E : Int)]
  · rw [Int.natAbs_mul, e, Nat.pow_succ, ← Nat.mul_assoc, Nat.mul_comm]
    exact Nat.mul_le_mul h2 hy
theorem Px.add {D E Y K n t i : Nat} {v w : Rat} (hD : 0 < D) (hE : 0 < E) (h : Px D E Y K n t i v) (h' : Px D E Y K n t i w) : Px D E Y K n (t + 1) i (v + w) := by
  obtain ⟨z, h1, h2⟩ := h
  obtain ⟨z', h3, h4⟩ := h'
  have hg : ((D * E ^ (n - i) : Nat) : Int) ≠ 0 := by
    have : 0 < D * E ^ (n - i) := Nat.mul_pos hD (Nat.pow_pos hE)
    omega
  refine ⟨z + z', by rw [h1, h3, divInt_add_same _ _ hg], ?_⟩
  have e : 2 ^ (t + 1) * K * Y ^ (n - i) = 2 ^ t * K * Y ^ (n - i) + 2 ^ t * K * Y ^ (n - i) := by
    rw [Nat.pow_succ, Nat.mul_comm (2 ^ t) 2, Nat.mul_assoc, Nat.mul_assoc, Nat.two_mul, ← Nat.mul_assoc]
  rw [e]
  exact Nat.le_trans (Int.natAbs_add_le z z') (Nat.add_le_add h2 h4)
theorem Px.zero {D E Y K n t i : Nat} : Px D E Y K n t i 0 := ⟨0, by rw [Rat.zero_divInt], Nat.zero_le _⟩
def prodDen : List Rat → Nat
  | [] => 1
  | q :: p => q.den * prodDen p
theorem prodDen_pos : ∀ p, 0 < prodDen p
  | [] => by decide
  | q :: p => Nat.mul_pos (Nat.pos_of_ne_zero q.den_nz) (prodDen_pos p)
theorem prodDen_dvd : ∀ {p : List Rat} {q : Rat}, q ∈ p → q.den ∣ prodDen p
  | a :: p, q, h => by
    rcases List.mem_cons.mp h with rfl | h
    · exact Nat.dvd_mul_right ..
    · exact Nat.dvd_trans (prodDen_dvd h) (Nat.dvd_mul_left ..)
theorem prodDen_le {n : Nat} : ∀ {p : List Rat}, Sp n p → prodDen p ≤ 2 ^ (n * p.length)
  | [], _ => by simp [prodDen]
  | a :: p, h => by
    rw [prodDen, List.length_cons, Nat.mul_succ, Nat.pow_add, Nat.mul_comm]
    exact Nat.mul_le_mul (prodDen_le fun q hq => h q (List.mem_cons_of_mem _ hq)) (Nat.le_of_lt (h a List.mem_cons_self).den)
theorem Px.of_mem {n a E Y i : Nat} {p : List Rat} {q : Rat} (hp : Sp a p) (hq : q ∈ p) (hE : 0 < E) (hEY : E ≤ Y) : Px (prodDen p) E Y (2 ^ a * prodDen p) n 0 i q := by
  obtain ⟨r, hr⟩ := prodDen_dvd hq
  have rp : 0 < r := by
    rcases Nat.eq_zero_or_pos r with z | z
    · subst z
      have := prodDen_pos p
      rw [hr] at this
      simp at this
    · exact z
  refine ⟨q.num * ((r * E ^ (n - i) : Nat) : Int), ?_, ?_⟩
  · have hg : ((r * E ^ (n - i) : Nat) : Int) ≠ 0 := by
      have : 0 < r * E ^ (n - i) := Nat.mul_pos rp (Nat.pow_pos hE)
      omega
    have e : ((prodDen p * E ^ (n - i) : Nat) : Int) = (q.den : Int) * ((r * E ^ (n - i) : Nat) : Int) := by
      rw [hr, Nat.mul_assoc]
      rfl
    rw [e, Rat.divInt_mul_right hg, Rat.num_divInt_den]
  · rw [Int.natAbs_mul, Int.natAbs_natCast, Nat.pow_zero, Nat.one_mul, Nat.mul_assoc]
    refine Nat.mul_le_mul (Nat.le_of_lt (hp q hq).num) ?_
    refine Nat.mul_le_mul ?_ (Nat.pow_le_pow_left hEY _)
    rw [hr]
    exact Nat.le_mul_of_pos_left _ (Nat.pos_of_ne_zero q.den_nz)
theorem Px.sz {a m E Y n t i : Nat} {p : List Rat} {v : Rat} (hp : Sp a p) (hY : Y ≤ 2 ^ m) (hEY : E ≤ Y) (h : Px (prodDen p) E Y (2 ^ a * prodDen p) n t i v) : Sz (t + (a + a * p.length) + m * n + 1) v := by
  obtain ⟨z, h1, h2⟩ := h
  have b1 : Y ^ (n - i) ≤ 2 ^ (m * n) := by
    refine Nat.le_trans (Nat.pow_le_pow_left hY _) ?_
    rw [← Nat.pow_mul]
    exact Nat.pow_le_pow_right (by decide) (Nat.mul_le_mul_left _ (Nat.sub_le _ _))
  have b2 : E ^ (n - i) ≤ 2 ^ (m * n) := Nat.le_trans (Nat.pow_le_pow_left hEY _) b1
  have b3 := prodDen_le hp
  rw [h1]
  refine Sz.of ?_ ?_ (by omega)
  · unfold Bt
    refine Nat.lt_of_le_of_lt h2 ?_
    rw [Nat.pow_succ, Nat.pow_add, Nat.pow_add, Nat.pow_add]
    have : 2 ^ t * (2 ^ a * prodDen p) * Y ^ (n - i) ≤ 2 ^ t * (2 ^ a * 2 ^ (a * p.length)) * 2 ^ (m * n) := Nat.mul_le_mul (Nat.mul_le_mul_left _ (Nat.mul_le_mul_left _ b3)) b1
    have pos : 0 < 2 ^ t * (2 ^ a * 2 ^ (a * p.length)) * 2 ^ (m * n) := Nat.mul_pos (Nat.mul_pos (Nat.pow_pos (by decide)) (Nat.mul_pos (Nat.pow_pos (by decide)) (Nat.pow_pos (by decide)))) (Nat.pow_pos (by decide))
    omega
  · unfold Bt
    rw [Int.natAbs_natCast]
    have : prodDen p * E ^ (n - i) ≤ 2 ^ (a * p.length) * 2 ^ (m * n) := Nat.mul_le_mul b3 b2
    rw [← Nat.pow_add] at this
    exact Nat.lt_of_le_of_lt this (Nat.pow_lt_pow_right (by decide) (by omega))
theorem Px.szg {m D E Y K n t i kb : Nat} {v : Rat} (dB : D ≤ 2 ^ kb) (kB : K ≤ 2 ^ kb) (hY : Y ≤ 2 ^ m) (hEY : E ≤ Y) (h : Px D E Y K n t i v) : Sz (t + kb + m * n + 1) v := by
  obtain ⟨z, h1, h2⟩ := h
  have b1 : Y ^ (n - i) ≤ 2 ^ (m * n) := by
    refine Nat.le_trans (Nat.pow_le_pow_left hY _) ?_
    rw [← Nat.pow_mul]
    exact Nat.pow_le_pow_right (by decide) (Nat.mul_le_mul_left _ (Nat.sub_le _ _))
  have b2 : E ^ (n - i) ≤ 2 ^ (m * n) := Nat.le_trans (Nat.pow_le_pow_left hEY _) b1
  rw [h1]
  refine Sz.of ?_ ?_ (by omega)
  · unfold Bt
    refine Nat.lt_of_le_of_lt h2 ?_
    rw [Nat.pow_succ, Nat.pow_add, Nat.pow_add]
    have : 2 ^ t * K * Y ^ (n - i) ≤ 2 ^ t * 2 ^ kb * 2 ^ (m * n) := Nat.mul_le_mul (Nat.mul_le_mul_left _ kB) b1
    have pos : 0 < 2 ^ t * 2 ^ kb * 2 ^ (m * n) := Nat.mul_pos (Nat.mul_pos (Nat.pow_pos (by decide)) (Nat.pow_pos (by decide))) (Nat.pow_pos (by decide))
    omega
  · unfold Bt
    rw [Int.natAbs_natCast]
    have : D * E ^ (n - i) ≤ 2 ^ kb * 2 ^ (m * n) := Nat.mul_le_mul dB b2
    rw [← Nat.pow_add] at this
    exact Nat.lt_of_le_of_lt this (Nat.pow_lt_pow_right (by decide) (by omega))
theorem Px.flat {D E Y K n t i : Nat} {v : Rat} (hE : 0 < E) (hEY : E ≤ Y) (hi : i ≤ n) (h : Px D E Y K n t i v) (j : Nat) : Px (D * E ^ n) E Y (2 ^ t * K * Y ^ n) n 0 j v := by
  obtain ⟨z, h1, h2⟩ := h
  have pE : ∀ m, 0 < E ^ m := fun m => Nat.pow_pos hE
  refine ⟨z * ((E ^ i * E ^ (n - j) : Nat) : Int), ?_, ?_⟩
  · have hg : ((E ^ i * E ^ (n - j) : Nat) : Int) ≠ 0 := by
      have : 0 < E ^ i * E ^ (n - j) := Nat.mul_pos (pE _) (pE _)
      omega
    have e : ((D * E ^ n * E ^ (n - j) : Nat) : Int) = ((D * E ^ (n - i) : Nat) : Int) * ((E ^ i * E ^ (n - j) : Nat) : Int) := by
      rw [← Int.natCast_mul]
      congr 1
      have : E ^ n = E ^ (n - i) * E ^ i := by rw [← Nat.pow_add]; congr 1; omega
      rw [this]
      simp only [Nat.mul_assoc]
    rw [e, Rat.divInt_mul_right hg, h1]
  · rw [Int.natAbs_mul, Int.natAbs_natCast, Nat.pow_zero, Nat.one_mul]
    have a1 : E ^ i ≤ Y ^ i := Nat.pow_le_pow_left hEY _
    have a2 : E ^ (n - j) ≤ Y ^ (n - j) := Nat.pow_le_pow_left hEY _
    have e : Y ^ n = Y ^ (n - i) * Y ^ i := by rw [← Nat.pow_add]; congr 1; omega
    rw [e, ← Nat.mul_assoc, ← Nat.mul_assoc]
    exact Nat.mul_le_mul (Nat.mul_le_mul h2 a1) a2
end Pl
namespace Pl
open PySem Py
local macro_rules | `(tactic| decreasing_trivial_pre_omega) => `(tactic| (first | with_reducible refine x_set ?_ | with_reducible refine x_par2 ?_ | with_reducible refine x_par3 ?_ | with_reducible refine x_ite ?_ | with_reducible refine x_for ?_ | with_reducible refine x_whl ?_ | with_reducible refine x_ret ?_ | with_reducible refine x_retn ?_ | with_reducible refine x_brk ?_ | with_reducible refine x_ct ?_ | with_reducible refine x_pass ?_ | with_reducible refine x_exp ?_ | with_reducible refine x_done ?_ | with_reducible refine nx_nx ?_ | with_reducible refine nx_rt ?_ | with_reducible refine nx_bk ?_ | with_reducible refine nx_ct ?_ | with_reducible refine lp_nx ?_ | with_reducible refine lp_ct ?_ | with_reducible refine lp_bk ?_ | with_reducible refine lp_rt ?_ | with_reducible refine jn_nx ?_ | with_reducible refine jn_rt ?_ | with_reducible refine fn_nx ?_ | with_reducible refine fn_rt ?_ | with_reducible refine e_int ?_ | with_reducible refine e_bl ?_ | with_reducible refine e_non ?_ | with_reducible refine e_str ?_ | with_reducible refine e_bin ?_ | with_reducible refine e_neg ?_ | with_reducible refine e_no ?_ | with_reducible refine e_cmp ?_ | with_reducible refine e_chain ?_ | with_reducible refine e_and ?_ | with_reducible refine e_or ?_ | with_reducible refine e_one ?_ | with_reducible refine e_ite ?_ | with_reducible refine e_tup ?_ | with_reducible refine e_lst ?_ | with_reducible refine e_ix ?_ | with_reducible refine e_sl ?_ | with_reducible refine e_rv ?_ | with_reducible refine e_call ?_ | with_reducible refine e_bi ?_ | with_reducible refine e_mt ?_ | with_reducible refine e_isi ?_ | with_reducible refine e_comp ?_ | with_reducible refine es_nil ?_ | with_reducible refine es_cons ?_ | with_reducible refine eo_nil ?_ | with_reducible refine eo_one ?_ | with_reducible refine t_and ?_ | with_reducible refine t_or ?_ | with_reducible refine t_no ?_ | with_reducible refine t_one ?_ | with_reducible refine t_nil ?_ | with_reducible refine t_cmp ?_ | with_reducible refine t_chain ?_ | with_reducible refine t_call ?_ | with_reducible refine t_bi ?_ | with_reducible refine t_isi ?_ | with_reducible refine x_asg ?_ | with_reducible refine a_sub ?_ | with_reducible refine o_add ?_ | with_reducible refine o_sub ?_ | with_reducible refine o_adb ?_ | with_reducible refine o_lt ?_ | with_reducible refine o_le ?_ | with_reducible refine o_gt ?_ | with_reducible refine o_ge ?_ | with_reducible refine o_eqi ?_ | with_reducible refine o_nei ?_ | with_reducible refine o_isN ?_ | with_reducible refine o_notN ?_ | with_reducible refine o_isB ?_ | with_reducible refine o_notB ?_ | with_reducible refine o_abs ?_ | with_reducible refine o_int ?_ | with_reducible refine o_intb ?_ | with_reducible refine o_max ?_ | with_reducible refine o_min ?_ | with_reducible refine o_neg ?_ | with_reducible refine o_lent ?_ | with_reducible refine ex_bl ?_ | with_reducible refine ex_int ?_ | with_reducible refine bq ?_ | with_reducible refine tq ?_ | with_reducible refine r_ok ?_ | ((with_reducible apply e_var); exact rfl) | ((with_reducible apply x_add); exact rfl) | ((with_reducible apply x_sub); exact rfl) | ((with_reducible apply o_ixt); exact rfl) | ((with_reducible apply o_isi); exact rfl) | ((with_reducible apply t_len); exact rfl) | ((with_reducible apply o_ix); assumption; exact rfl) | ((with_reducible apply e_con); rw [gc]; assumption) | ((with_reducible apply o_len); assumption) | ((with_reducible apply o_list); assumption) | ((with_reducible apply o_tuple); assumption) | ((with_reducible apply o_sl); assumption)))
def wor (x : Rat) : List Rat → Rat
  | [] => 0
  | a :: p => wor x p * x + a
theorem Sz.wor {n m : Nat} {x : Rat} (hx : Sz m x) : ∀ {p : List Rat}, Sp n p → Sz (1 + (n + m + 1) * p.length) (wor x p)
  | [], _ => Sz.zero
  | a :: p, h => by
    have ih := Sz.wor hx (p := p) fun q hq => h q (List.mem_cons_of_mem _ hq)
    rw [Pl.wor]
    refine ((ih.mul hx (by omega)).add (h a List.mem_cons_self) (by omega)).mono ?_
    rw [List.length_cons, Nat.mul_succ]
    omega
theorem it_rv {s : Sto} {w : W} {ws : List W} {i n : Nat} {u : W} (h : lsq w s = some ws) (hi : i < n) (hu : ws[n - 1 - i]? = some u) : itAt (.rv w n) i s = some (some u) := by
  show (if i < n then (lsq w s).bind (fun ws => (ws[n - 1 - i]?).map some) else some none) = _
  rw [if_pos hi, h, Option.bind_some, hu]
  rfl
theorem it_rv0 {s : Sto} {w : W} {n : Nat} : itAt (.rv w n) n s = some none := by
  show (if n < n then (lsq w s).bind (fun ws => (ws[n - 1 - n]?).map some) else some none) = _
  rw [if_neg (Nat.lt_irrefl n)]
theorem src_rev {s : Sto} {w : W} {ws : List W} (h : lsq w s = some ws) : srcOf .rev [w] s = some (.rv w ws.length) := by
  cases w with
  | loc n =>
    show (lsq (.loc n) s).map (fun ws => Src.rv (.loc n) ws.length) = _
    rw [h]
    rfl
  | cl us =>
    show (lsq (.cl us) s).map (fun ws => Src.rv (.cl us) ws.length) = _
    rw [h]
    rfl
  | _ => cases h
def horB (PL TI : Str) : B := .asg (.name 2) (.call PL (.cons (.call TI (.cons (.var 2) (.cons (.var 1) .nil))) (.cons (.var 3) .nil))) .done
theorem drop_at {p : List Rat} {i : Nat} (hi : i < p.length) : p.drop (p.length - (i + 1)) = p[p.length - 1 - i]'(by omega) :: p.drop (p.length - i) := by
  have h : p.length - 1 - i < p.length := by omega
  rw [show p.length - (i + 1) = p.length - 1 - i from by omega, List.drop_eq_getElem_cons h, show p.length - 1 - i + 1 = p.length - i from by omega]
theorem horner_loop {g : G} {PL TI : Str} {s : Sto} {Q : QK Fl} {Z : EK} {N : Nat} {w : W} {x : Rat} {p : List Rat} (hT : ∀ x y s, Sz N x → Sz N y → g.call TI [nW x, nW y] s = .ok (nW (x * y)) s) (hP : ∀ x y s, Sz N x → Sz N y → g.call PL [nW x, nW y] s = .ok (nW (x + y)) s)
    (hw : lsq w s = some (pW p)) (hl : p.length ≤ sizeLine) {n m : Nat} (sp : Sp n p) (sx : Sz m x) (hN : 1 + (n + m + 1) * p.length + m ≤ N) (hn : n ≤ N) (qq : ∀ o, Q (.nx [some w, some (nW x), some (nW (wor x p)), o]) s) :
    (forL (forF g (.name 3) (horB PL TI)) big (.rv w p.length) 0 [some w, some (nW x), some (nW 0), none] s).wp Q Z := by
  have mul_le : ∀ i, i ≤ p.length → 1 + (n + m + 1) * i + m ≤ N := fun i hi => Nat.le_trans (Nat.add_le_add_right (Nat.add_le_add_left (Nat.mul_le_mul_left _ hi) 1) m) hN
  refine for_wp p.length (fun i e s' => ∃ o, e = [some w, some (nW x), some (nW (wor x (p.drop (p.length - i)))), o] ∧ s' = s) (fun i e s' hi hI => ?_) (fun e s' hI => ?_) big 0 _ s (Nat.zero_le _) (sz_big hl) ⟨none, by rw [Nat.sub_zero, List.drop_length]; rfl, rfl⟩
  · obtain ⟨o, rfl, rfl⟩ := hI
    have h : p.length - 1 - i < p.length := by omega
    refine ⟨_, it_rv hw hi (pW_get h), ?_⟩
    show (exS g (horB PL TI) [some w, some (nW x), some (nW (wor x (p.drop (p.length - i)))), some (nW p[p.length - 1 - i])] s').wp _ _
    unfold horB
    have sd : Sp n (p.drop (p.length - i)) := fun q hq => sp q (List.mem_of_mem_drop hq)
    have ld : (p.drop (p.length - i)).length = i := by rw [List.length_drop]; omega
    have z1 := Sz.wor sx sd
    rw [ld] at z1
    have m1 := mul_le i (by omega)
    (repeat decreasing_trivial_pre_omega)
    refine wp_of_eq (hT _ _ _ (z1.mono (by omega)) (sx.mono (by omega))) ?_
    (repeat decreasing_trivial_pre_omega)
    refine wp_of_eq (hP _ _ _ ((z1.mul sx (by omega)).mono m1) ((sp _ (List.getElem_mem h)).mono hn)) ?_
    (repeat decreasing_trivial_pre_omega)
    refine ⟨some (nW p[p.length - 1 - i]), ?_, rfl⟩
    show [some w, some (nW x), some (nW (wor x (p.drop (p.length - i)) * x + p[p.length - 1 - i])), some (nW p[p.length - 1 - i])] = _
    rw [drop_at hi]
    rfl
  · obtain ⟨o, rfl, rfl⟩ := hI
    refine ⟨it_rv0, ?_⟩
    rw [Nat.sub_self, List.drop_zero]
    exact qq o
section
variable {T : Str → Option Fi} {C : Str → Option W} {X : Str → Bool} {k n m : Nat} {s : Sto} {Z : EK} {Q : QK W} {u : Nat}
theorem worth_eq (F : Frac T) (hc : C "NOUGHT" = some (nW 0)) (hpl : Has T "plus" 2 2 bd_plus) (hti : Has T "times" 2 2 bd_times) (h : Has T "worth" 2 4 bd_worth) {w : W} {x : Rat} {p : List Rat} (hw : lsq w s = some (pW p)) (hl : p.length ≤ sizeLine)
    {N : Nat} (sp : Sp n p) (sx : Sz m x) (hN : 1 + (n + m + 1) * p.length + m ≤ N) (hn : n ≤ N) (h9 : N + N + 1 ≤ 9000) : (gam T C X (k + 4)).call "worth" [w, nW x] s = .ok (nW (wor x p)) s := by
  refine eq_of_wp (h.wp rfl ?_)
  unfold bd_worth
  (repeat decreasing_trivial_pre_omega)
  refine ⟨_, src_rev hw, ?_⟩
  rw [List.length_map]
  refine horner_loop (PL := "plus") (TI := "times") (N := N) (fun x y s hx hy => times_eq F hti hx hy (by omega) (by omega)) (fun x y s hx hy => plus_eq F hpl hx hy (by omega) h9) hw hl sp sx hN hn fun o => ?_
  (repeat decreasing_trivial_pre_omega)
  exact ⟨rfl, rfl⟩
theorem lworth_eq (L : Has T "_law_low" 2 4 bd__law_low) (hpl : Has T "_law_plus" 2 2 bd__law_plus) (hti : Has T "_law_times" 2 2 bd__law_times) (h : Has T "_law_worth" 2 4 bd__law_worth) {w : W} {x : Rat} {p : List Rat} (hw : lsq w s = some (pW p)) (hl : p.length ≤ sizeLine)
    {N : Nat} (sp : Sp n p) (sx : Sz m x) (hN : 1 + (n + m + 1) * p.length + m ≤ N) (hn : n ≤ N) (h9 : N + N + 1 ≤ 9000) : (gam T C X (k + 3)).call "_law_worth" [w, nW x] s = .ok (nW (wor x p)) s := by
  refine eq_of_wp (h.wp rfl ?_)
  unfold bd__law_worth
  (repeat decreasing_trivial_pre_omega)
  refine ⟨_, src_rev hw, ?_⟩
  rw [List.length_map]
  refine horner_loop (PL := "_law_plus") (TI := "_law_times") (N := N) (fun x y s hx hy => ltimes_eq L hti hx hy (by omega) (by omega)) (fun x y s hx hy => lplus_eq L hpl hx hy (by omega) h9) hw hl sp sx hN hn fun o => ?_
  (repeat decreasing_trivial_pre_omega)
  exact ⟨rfl, rfl⟩
def slp (p : List Rat) : List Rat := (List.range (p.length - 1)).map fun i => ((i + 1 : Nat) : Rat) * at0 p (i + 1)
theorem nW_nat (i : Nat) : W.tup [.int (i : Nat), .int 1] = nW ((i : Nat) : Rat) := rfl
theorem Sz.nat {i m : Nat} (h : i < 2 ^ m) (hm : 0 < m) : Sz m ((i : Nat) : Rat) := ⟨by
  show ((i : Nat) : Int).natAbs < 2 ^ m
  rw [Int.natAbs_natCast]
  exact h, by
  show 1 < 2 ^ m
  exact Nat.one_lt_two_pow (by omega)⟩
theorem slope_wp (F : Frac T) (hti : Has T "times" 2 2 bd_times) (h : Has T "slope" 1 2 bd_slope) {w : W} {p : List Rat} (hw : lsq w s = some (pW p)) (hl : p.length ≤ 8000000) (sp : Sp n p) (hn : 25 ≤ n) (h9 : n + n ≤ 9000)
    (q : ∀ m s', Nw s s' m (pW (slp p)) → Q (.loc m) s') : ((gam T C X (k + 4)).call "slope" [w] s).wp Q Z := by
  refine h.wp rfl ?_
  unfold bd_slope
  (repeat decreasing_trivial_pre_omega)
  rw [List.length_map]
  refine ⟨_, src_r2 (by decide) (lim_of (by omega)), ?_⟩
  have e : ((p.length : Int) - 1).toNat = p.length - 1 := by omega
  rw [e]
  have hle : p.length - 1 ≤ sizeLine := Nat.le_trans (show p.length - 1 ≤ 16777216 by omega) (Nat.le_refl _)
  refine comp_pure (n := p.length - 1) (v := fun i => nW (((i + 1 : Nat) : Rat) * at0 p (i + 1))) (sz_big (i := 0) hle) hle (fun j hj => ⟨_, it_rng hj, ?_⟩) it_rng0 ?_
  · have e2 : (1 : Int) + (j : Nat) * 1 = ((j + 1 : Nat) : Int) := by omega
    rw [e2]
    have hj2 : j + 1 < p.length := by omega
    refine compF_wp rfl ?_
    (repeat decreasing_trivial_pre_omega)
    refine ⟨fun _ => ?_, fun z => by cases z⟩
    (repeat decreasing_trivial_pre_omega)
    refine o_ix hw (atW_nat (pW_get hj2)) ?_
    (repeat decreasing_trivial_pre_omega)
    rw [nW_nat]
    refine wp_of_eq (times_eq F hti ((Sz.nat (m := 25) (by omega) (by decide)).mono hn) (sp _ (List.getElem_mem hj2)) (by omega) h9) ?_
    rw [at0_get hj2]
    exact ⟨rfl, rfl⟩
  · rw [map_pW]
    (repeat decreasing_trivial_pre_omega)
    exact q _ _ Nw.end
def sg (i : Nat) : Rat := if i % 2 = 0 then 1 else -1
def mir (p : List Rat) : List Rat := (List.range p.length).map fun i => sg i * at0 p i
theorem sg_sz (i : Nat) : Sz 1 (sg i) := by
  unfold sg
  split
  · exact Sz.one
  · exact ⟨by decide, by decide⟩
theorem sg_W (i : Nat) : W.tup [.int (1 - 2 * ((i : Nat) : Int).fmod 2), .int 1] = nW (sg i) := by
  have e : ((i : Nat) : Int).fmod 2 = ((i % 2 : Nat) : Int) := (Int.ofNat_fmod i 2).symm
  rw [e]
  unfold sg
  have : i % 2 = 0 ∨ i % 2 = 1 := by omega
  rcases this with h | h <;> rw [h] <;> rfl
theorem mir_mir (p : List Rat) : mir (mir p) = p := at0_ext (by simp [mir]) fun i => by
  unfold mir
  rw [range_at]
  simp only [List.length_map, List.length_range]
  split
  · rename_i h
    rw [range_at, if_pos h, ← Rat.mul_assoc]
    have : sg i * sg i = 1 := by
      unfold sg
      split <;> grind
    rw [this, Rat.one_mul]
  · rename_i h
    rw [at0_no (by omega)]
theorem mir_trim {p : List Rat} (h : trim p = p) : trim (mir p) = mir p := trim_of_last fun hp => by
  have pn : p ≠ [] := fun e => hp (by rw [e]; rfl)
  have l : (mir p).length = p.length := by simp [mir]
  have p1 : 0 < p.length := List.length_pos_iff.mpr pn
  rw [l]
  unfold mir
  rw [range_at, if_pos (by omega)]
  refine mul_ne ?_ (last_of_trim h pn)
  unfold sg
  split <;> decide
theorem slp_trim {p : List Rat} (h : trim p = p) : trim (slp p) = slp p := trim_of_last fun hp => by
  have l : (slp p).length = p.length - 1 := by simp [slp]
  have p1 : 0 < p.length - 1 := by rw [← l]; exact List.length_pos_iff.mpr hp
  have pn : p ≠ [] := fun e => by
    subst e
    simp at p1
  rw [l]
  unfold slp
  rw [range_at, if_pos (by omega)]
  refine mul_ne ?_ ?_
  · intro z
    have := congrArg Rat.num z
    rw [show (((p.length - 1 - 1 + 1 : Nat) : Rat)).num = ((p.length - 1 - 1 + 1 : Nat) : Int) from rfl] at this
    have e0 : (0 : Rat).num = 0 := rfl
    omega
  · rw [show p.length - 1 - 1 + 1 = p.length - 1 from by omega]
    exact last_of_trim h pn
theorem mirrored_wp (F : Frac T) (hti : Has T "times" 2 2 bd_times) (h : Has T "mirrored" 1 3 bd_mirrored) {w : W} {p : List Rat} (hw : lsq w s = some (pW p)) (hl : p.length ≤ 8000000) (sp : Sp n p) (hn : 1 ≤ n) (h9 : n + n ≤ 9000)
    (q : ∀ m s', Nw s s' m (pW (mir p)) → Q (.loc m) s') : ((gam T C X (k + 4)).call "mirrored" [w] s).wp Q Z := by
  refine h.wp rfl ?_
  unfold bd_mirrored
  (repeat decreasing_trivial_pre_omega)
  refine ⟨_, src_enu hw, ?_⟩
  refine comp_pure (n := p.length) (v := fun i => nW (sg i * at0 p i)) (sz_big (i := 0) (sl (by omega))) (sl (by omega)) (fun j hj => ⟨_, (it_enu hw).trans (by rw [pW_get hj]; rfl), ?_⟩) ((it_enu hw).trans (by rw [List.getElem?_eq_none (by rw [List.length_map]; exact Nat.le_refl _)]; rfl)) ?_
  · refine compF_wp rfl ?_
    (repeat decreasing_trivial_pre_omega)
    refine ⟨fun _ => ?_, fun z => by cases z⟩
    (repeat decreasing_trivial_pre_omega)
    refine o_mod (by decide) ?_
    refine o_mul (Bt.bits (n := 20) (m := 20) (by unfold Bt; decide) (by
      unfold Bt
      have h1 : 0 ≤ ((j : Nat) : Int).fmod 2 := Int.fmod_nonneg_of_pos _ (by decide)
      have h2 : ((j : Nat) : Int).fmod 2 < 2 := Int.fmod_lt_of_pos _ (by decide)
      omega) (by decide) (by decide) (by decide)) ?_
    (repeat decreasing_trivial_pre_omega)
    rw [sg_W]
    refine wp_of_eq (times_eq F hti ((sg_sz j).mono hn) (sp _ (List.getElem_mem hj)) (by omega) h9) ?_
    rw [at0_get hj]
    exact ⟨rfl, rfl⟩
  · rw [map_pW]
    (repeat decreasing_trivial_pre_omega)
    exact q _ _ Nw.end
theorem sg_mul (i : Nat) (q : Rat) : W.tup [.int (q.num * (if i % 2 = 0 then 1 else -1)), .int q.den] = nW (sg i * q) := by
  unfold sg
  split
  · rw [Rat.one_mul, Int.mul_one]
  · have e : (-1 : Rat) * q = -q := by grind
    rw [e, Int.mul_neg, Int.mul_one]
    rfl
theorem lmirrored_wp (h : Has T "_law_mirrored" 1 3 bd__law_mirrored) {w : W} {p : List Rat} (hw : ∀ s', Fr No s s' → lsq w s' = some (pW p)) (hl : p.length ≤ 8000000) (sp : Sp n p) (h0 : 0 < n) (h9 : n + n ≤ 9000)
    (q : ∀ m s', Nw s s' m (pW (mir p)) → Q (.loc m) s') : ((gam T C X (k + 1)).call "_law_mirrored" [w] s).wp Q Z := by
  refine h.wp rfl ?_
  unfold bd__law_mirrored
  (repeat decreasing_trivial_pre_omega)
  refine ⟨_, src_enu (hw s (Fr.refl s)), ?_⟩
  refine comp_wp p.length (fun i acc s' => acc = (List.range i).map (fun i => nW (sg i * at0 p i)) ∧ Fr No s s') (fun j acc s' hj hI => ?_) (fun acc s' hI => ?_) (sl (by omega)) big 0 [] s (Nat.zero_le _) (sz_big (sl (by omega))) ⟨rfl, Fr.refl s⟩
  · obtain ⟨rfl, f⟩ := hI
    refine ⟨_, (it_enu (hw s' f)).trans (by rw [pW_get hj]; rfl), by simp, ?_⟩
    refine compF_wp rfl ?_
    (repeat decreasing_trivial_pre_omega)
    refine ⟨fun _ => ?_, fun z => by cases z⟩
    (repeat decreasing_trivial_pre_omega)
    refine o_mod (by decide) ?_
    have e : ((j : Nat) : Int).fmod 2 = ((j % 2 : Nat) : Int) := (Int.ofNat_fmod j 2).symm
    rw [e]
    have at_ : atW [W.int 1, .int (-1)] ((j % 2 : Nat) : Int) = some (.int (if j % 2 = 0 then 1 else -1)) := by
      have : j % 2 = 0 ∨ j % 2 = 1 := by omega
      rcases this with h | h <;> rw [h] <;> rfl
    refine o_ix (show lsq (.loc s'.length) _ = some [W.int 1, .int (-1)] from get_end) at_ ?_
    refine o_mul (Bt.bits (n := n) (m := 1) (sp _ (List.getElem_mem hj)).num (by unfold Bt; split <;> decide) h0 (by decide) (by omega)) ?_
    (repeat decreasing_trivial_pre_omega)
    rw [sg_mul, at0_get hj]
    exact ⟨by rw [List.range_succ, List.map_append]; rfl, f.trans (Fr.app _ _)⟩
  · obtain ⟨rfl, f⟩ := hI
    refine ⟨(it_enu (hw s' f)).trans (by rw [List.getElem?_eq_none (by rw [List.length_map]; exact Nat.le_refl _)]; rfl), ?_⟩
    rw [map_pW]
    (repeat decreasing_trivial_pre_omega)
    exact q _ _ (Nw.end.pre f)
theorem lsloped_wp (L : Has T "_law_low" 2 4 bd__law_low) (hti : Has T "_law_times" 2 2 bd__law_times) (h : Has T "_law_sloped" 1 3 bd__law_sloped) {w : W} {p : List Rat} (hw : lsq w s = some (pW p)) (hl : p.length ≤ 8000000) (sp : Sp n p) (hn : 25 ≤ n) (h9 : n + n ≤ 9000)
    (q : ∀ m s', Nw s s' m (pW (slp p)) → Q (.loc m) s') : ((gam T C X (k + 3)).call "_law_sloped" [w] s).wp Q Z := by
  refine h.wp rfl ?_
  unfold bd__law_sloped
  (repeat decreasing_trivial_pre_omega)
  refine ⟨_, src_enu hw, ?_⟩
  refine comp_pure (n := p.length) (v := fun i => nW (((i : Nat) : Rat) * at0 p i)) (sz_big (i := 0) (sl (by omega))) (sl (by omega)) (fun j hj => ⟨_, (it_enu hw).trans (by rw [pW_get hj]; rfl), ?_⟩) ((it_enu hw).trans (by rw [List.getElem?_eq_none (by rw [List.length_map]; exact Nat.le_refl _)]; rfl)) ?_
  · refine compF_wp rfl ?_
    (repeat decreasing_trivial_pre_omega)
    refine ⟨fun _ => ?_, fun z => by cases z⟩
    (repeat decreasing_trivial_pre_omega)
    rw [nW_nat]
    refine wp_of_eq (ltimes_eq L hti ((Sz.nat (m := 25) (by omega) (by decide)).mono hn) (sp _ (List.getElem_mem hj)) (by omega) h9) ?_
    rw [at0_get hj]
    exact ⟨rfl, rfl⟩
  · have hL : lsq (.loc s.length) (s ++ [(List.range p.length).map fun i => nW (((i : Nat) : Rat) * at0 p i)]) = some ((List.range p.length).map fun i => nW (((i : Nat) : Rat) * at0 p i)) := get_end
    (repeat decreasing_trivial_pre_omega)
    have e : cutW ((List.range p.length).map fun i => nW (((i : Nat) : Rat) * at0 p i)) (some 1) none = pW (slp p) := by
      unfold cutW slp
      have e1 : ∀ m, HT.sIx m 0 (some 1) = min 1 m := fun m => HT.sIx_nat m 0 1
      rw [e1, HT.sIx_none, List.take_of_length_le (by simp)]
      apply List.ext_getElem?
      intro i
      rw [List.getElem?_drop]
      simp only [List.length_map, List.length_range]
      by_cases h : i + 1 < p.length
      · rw [show min 1 p.length + i = i + 1 from by omega]
        simp [h, show i < p.length - 1 from by omega]
      · rw [List.getElem?_eq_none (by simp; omega), List.getElem?_eq_none (by simp; omega)]
    rw [e]
    exact q _ _ (Nw.end.pre (Fr.app _ _))
end
end Pl
namespace Pl
open PySem Py
local macro_rules | `(tactic| decreasing_trivial_pre_omega) => `(tactic| (first | with_reducible refine x_set ?_ | with_reducible refine x_par2 ?_ | with_reducible refine x_par3 ?_ | with_reducible refine x_ite ?_ | with_reducible refine x_for ?_ | with_reducible refine x_whl ?_ | with_reducible refine x_ret ?_ | with_reducible refine x_retn ?_ | with_reducible refine x_brk ?_ | with_reducible refine x_ct ?_ | with_reducible refine x_pass ?_ | with_reducible refine x_exp ?_ | with_reducible refine x_done ?_ | with_reducible refine nx_nx ?_ | with_reducible refine nx_rt ?_ | with_reducible refine nx_bk ?_ | with_reducible refine nx_ct ?_ | with_reducible refine lp_nx ?_ | with_reducible refine lp_ct ?_ | with_reducible refine lp_bk ?_ | with_reducible refine lp_rt ?_ | with_reducible refine jn_nx ?_ | with_reducible refine jn_rt ?_ | with_reducible refine fn_nx ?_ | with_reducible refine fn_rt ?_ | with_reducible refine e_int ?_ | with_reducible refine e_bl ?_ | with_reducible refine e_non ?_ | with_reducible refine e_str ?_ | with_reducible refine e_bin ?_ | with_reducible refine e_neg ?_ | with_reducible refine e_no ?_ | with_reducible refine e_cmp ?_ | with_reducible refine e_chain ?_ | with_reducible refine e_and ?_ | with_reducible refine e_or ?_ | with_reducible refine e_one ?_ | with_reducible refine e_ite ?_ | with_reducible refine e_tup ?_ | with_reducible refine e_lst ?_ | with_reducible refine e_ix ?_ | with_reducible refine e_sl ?_ | with_reducible refine e_rv ?_ | with_reducible refine e_call ?_ | with_reducible refine e_bi ?_ | with_reducible refine e_mt ?_ | with_reducible refine e_isi ?_ | with_reducible refine e_comp ?_ | with_reducible refine es_nil ?_ | with_reducible refine es_cons ?_ | with_reducible refine eo_nil ?_ | with_reducible refine eo_one ?_ | with_reducible refine t_and ?_ | with_reducible refine t_or ?_ | with_reducible refine t_no ?_ | with_reducible refine t_one ?_ | with_reducible refine t_nil ?_ | with_reducible refine t_cmp ?_ | with_reducible refine t_chain ?_ | with_reducible refine t_call ?_ | with_reducible refine t_bi ?_ | with_reducible refine t_isi ?_ | with_reducible refine x_asg ?_ | with_reducible refine a_sub ?_ | with_reducible refine o_add ?_ | with_reducible refine o_sub ?_ | with_reducible refine o_adb ?_ | with_reducible refine o_lt ?_ | with_reducible refine o_le ?_ | with_reducible refine o_gt ?_ | with_reducible refine o_ge ?_ | with_reducible refine o_eqi ?_ | with_reducible refine o_nei ?_ | with_reducible refine o_isN ?_ | with_reducible refine o_notN ?_ | with_reducible refine o_isB ?_ | with_reducible refine o_notB ?_ | with_reducible refine o_abs ?_ | with_reducible refine o_int ?_ | with_reducible refine o_intb ?_ | with_reducible refine o_max ?_ | with_reducible refine o_min ?_ | with_reducible refine o_neg ?_ | with_reducible refine o_lent ?_ | with_reducible refine ex_bl ?_ | with_reducible refine ex_int ?_ | with_reducible refine bq ?_ | with_reducible refine tq ?_ | with_reducible refine r_ok ?_ | ((with_reducible apply e_var); exact rfl) | ((with_reducible apply x_add); exact rfl) | ((with_reducible apply x_sub); exact rfl) | ((with_reducible apply o_ixt); exact rfl) | ((with_reducible apply o_isi); exact rfl) | ((with_reducible apply t_len); exact rfl) | ((with_reducible apply o_ix); assumption; exact rfl) | ((with_reducible apply e_con); rw [gc]; assumption) | ((with_reducible apply o_len); assumption) | ((with_reducible apply o_list); assumption) | ((with_reducible apply o_tuple); assumption) | ((with_reducible apply o_sl); assumption)))
def pass (c : Rat) (f : Nat) (L : List Rat) : List Rat := L.take f ++ hor c (L.drop f)
theorem pass_len (c : Rat) (f : Nat) (L : List Rat) : (pass c f L).length = L.length := by
  unfold pass
  rw [List.length_append, hor_len, List.length_take, List.length_drop]
  omega
theorem split_at {L : List Rat} {i : Nat} (h : i < L.length) : ∃ A a B, L = A ++ a :: B ∧ A.length = i := ⟨L.take i, L[i], L.drop (i + 1), by rw [← List.drop_eq_getElem_cons h, List.take_append_drop], by rw [List.length_take]; omega⟩
theorem at0_mid {A B : List Rat} {a : Rat} : at0 (A ++ a :: B) A.length = a := by
  rw [← at0_get (by simp)]
  simp
theorem at0_mid1 {A B : List Rat} {a : Rat} : at0 (A ++ a :: B) (A.length + 1) = at0 B 0 := by
  cases B with
  | nil => rw [at0_no (by simp), at0_no (by simp)]
  | cons b B =>
    rw [← at0_get (by simp), ← at0_get (by simp)]
    simp
theorem pass_last {c : Rat} {L : List Rat} (h : 0 < L.length) : pass c (L.length - 1) L = L := by
  obtain ⟨A, a, B, rfl, hA⟩ := split_at (L := L) (i := L.length - 1) (by omega)
  have hB : B = [] := by
    rw [List.length_append, List.length_cons] at hA
    exact List.length_eq_zero_iff.mp (by omega)
  subst hB
  unfold pass
  rw [← hA, List.take_left, List.drop_left, hor]
  show A ++ [a + c * 0] = _
  rw [Rat.mul_zero, Rat.add_zero]
theorem pass_set {c : Rat} {L : List Rat} {i : Nat} (h : i < L.length) : (pass c (i + 1) L).set i (at0 (pass c (i + 1) L) i + c * at0 (pass c (i + 1) L) (i + 1)) = pass c i L := by
  obtain ⟨A, a, B, rfl, rfl⟩ := split_at h
  have e1 : pass c (A.length + 1) (A ++ a :: B) = A ++ a :: hor c B := by
    unfold pass
    rw [show A ++ a :: B = (A ++ [a]) ++ B from by simp, List.take_left' (by simp), List.drop_left' (by simp)]
    simp
  have e2 : pass c A.length (A ++ a :: B) = A ++ (a + c * at0 (hor c B) 0) :: hor c B := by
    unfold pass
    rw [List.take_left, List.drop_left, hor]
  rw [e1, e2, at0_mid, at0_mid1, List.set_append_right _ _ (Nat.le_refl _), Nat.sub_self, List.set_cons_zero]
def psh (c : Rat) (p : List Rat) : Nat → List Rat
  | 0 => p
  | f + 1 => pass c f (psh c p f)
theorem psh_len (c : Rat) (p : List Rat) : ∀ f, (psh c p f).length = p.length
  | 0 => rfl
  | f + 1 => by rw [psh, pass_len, psh_len c p f]
theorem psh_spec (c : Rat) (p : List Rat) : ∀ f, f ≤ p.length → (psh c p f).take f ++ SH c ((psh c p f).drop f) = SH c p
  | 0, _ => by rw [psh, List.take_zero, List.drop_zero, List.nil_append]
  | f + 1, h => by
    have ih := psh_spec c p f (by omega)
    rw [psh]
    obtain ⟨A, a, B, e, hA⟩ := split_at (L := psh c p f) (i := f) (by rw [psh_len]; omega)
    rw [e] at ih ⊢
    subst hA
    have e2 : pass c A.length (A ++ a :: B) = A ++ (a + c * at0 (hor c B) 0) :: hor c B := by
      unfold pass
      rw [List.take_left, List.drop_left, hor]
    rw [List.take_left, List.drop_left, SH_step] at ih
    rw [e2, show A ++ (a + c * at0 (hor c B) 0) :: hor c B = (A ++ [a + c * at0 (hor c B) 0]) ++ hor c B from by simp, List.take_left' (by simp), List.drop_left' (by simp), ← ih]
    simp
theorem psh_all (c : Rat) (p : List Rat) : psh c p p.length = SH c p := by
  have h := psh_spec c p p.length (Nat.le_refl _)
  rw [List.take_of_length_le (by rw [psh_len]; exact Nat.le_refl _), List.drop_eq_nil_of_le (by rw [psh_len]; exact Nat.le_refl _)] at h
  rw [← h]
  show _ = _ ++ []
  rw [List.append_nil]
theorem pW_set {L : List Rat} {i : Nat} {v : Rat} : (pW L).set i (nW v) = pW (L.set i v) := by
  rw [pW, pW, List.map_set]
def AP (D E Y K n t : Nat) (L : List Rat) : Prop := ∀ i, i < n → Px D E Y K n t i (at0 L i)
theorem AP.up {D E Y K n t t' : Nat} {L : List Rat} (h : AP D E Y K n t L) (l : t ≤ t') : AP D E Y K n t' L := fun i hi => (h i hi).up l
theorem AP.set {D E Y K n t : Nat} {L : List Rat} {i : Nat} {y : Int} (hD : 0 < D) (hE : 0 < E) (hy : y.natAbs ≤ Y) (h : AP D E Y K n t L) (hi : i + 1 < n) (hl : L.length = n) :
    AP D E Y K n (t + 1) (L.set i (at0 L i + Rat.divInt y (E : Int) * at0 L (i + 1))) := fun j hj => by
  by_cases e : j = i
  · subst e
    have : at0 (L.set j (at0 L j + Rat.divInt y (E : Int) * at0 L (j + 1))) j = at0 L j + Rat.divInt y (E : Int) * at0 L (j + 1) := by
      rw [← at0_get (by rw [List.length_set]; omega)]
      simp
    rw [this]
    exact (h j hj).add hD hE ((h (j + 1) hi).mul hj hy)
  · have : at0 (L.set i (at0 L i + Rat.divInt y (E : Int) * at0 L (i + 1))) j = at0 L j := by
      rw [← at0_get (by rw [List.length_set]; omega), ← at0_get (p := L) (by omega)]
      rw [List.getElem_set_ne (fun z => e z.symm)]
      exact at0_get (by omega)
    rw [this]
    exact (h j hj).up (Nat.le_succ t)
section
variable {T : Str → Option Fi} {C : Str → Option W} {X : Str → Bool} {k n m : Nat} {s : Sto} {Z : EK} {Q : QK W} {u : Nat}
theorem src_down {i j : Int} (h1 : -(2 ^ 62) ≤ i) (h2 : i < 2 ^ 62) (h3 : -(2 ^ 62) ≤ j) (h4 : j < 2 ^ 62) : srcOf .rng3 [.int i, .int j, .int (-1)] s = some (.rng i (-1) (i - j).toNat) := by
  show (if decide ((-1 : Int) ≠ 0 ∧ (-1 : Int).natAbs < 1073741824) && Builtin.Range.small i j (-1) then some (Src.rng i (-1) (Builtin.Range.rangeSize i j (-1)).toNat) else none) = _
  rw [PySem.W.small_down h1 h2 h3 h4, PySem.W.rangeSize_downNat, Int.toNat_natCast]
  rfl
theorem shifted_gen (F : Frac T) (hpl : Has T "plus" 2 2 bd_plus) (hti : Has T "times" 2 2 bd_times) (h : Has T "shifted" 2 5 bd_shifted) {a : Nat} {c : Rat} {p : List Rat} (ha : s[a]? = some (pW p)) {D K kb b N : Nat} (hD : 0 < D) (dB : D ≤ 2 ^ kb) (kB : K ≤ 2 ^ kb) (sc : Sz b c) (b0 : 0 < b) (ap0 : AP D c.den (2 ^ b) K p.length 0 p)
    (hN : p.length * p.length + p.length + kb + b * p.length + 1 + b ≤ N) (h9 : N + N + 1 ≤ 9000) (hl : p.length ≤ 4000) (q : ∀ m s', Nw s s' m (pW (SH c p)) → Q (.loc m) s') : ((gam T C X (k + 4)).call "shifted" [.loc a, nW c] s).wp Q Z := by
  refine h.wp rfl ?_
  unfold bd_shifted
  have hL : lsq (.loc a) s = some (pW p) := ha
  have hL1 : lsq (.loc a) (s ++ [pW p]) = some (pW p) := get_app ha
  have hla := get_lt ha
  let E := c.den
  let Y := 2 ^ b
  have hE : 0 < E := Nat.pos_of_ne_zero c.den_nz
  have hEY : E ≤ Y := Nat.le_of_lt sc.den
  have hy : c.num.natAbs ≤ Y := Nat.le_of_lt sc.num
  have ec : Rat.divInt c.num (E : Int) = c := Rat.num_divInt_den c
  have sz : ∀ t i v, t ≤ p.length * p.length + p.length → Px D E Y K p.length t i v → Sz (N - b) v := fun t i v ht hv => (hv.szg (m := b) dB kB (Nat.le_refl _) hEY).mono (by omega)
  (repeat decreasing_trivial_pre_omega)
  rw [List.length_map]
  refine ⟨_, src_r1 (lim_of (by omega)), ?_⟩
  rw [Int.toNat_natCast]
  refine for_wp p.length (fun f e s' => ∃ x3 x4, e = [some (.loc a), some (nW c), some (.loc s.length), x3, x4] ∧ s'[s.length]? = some (pW (psh c p f)) ∧ AP D E Y K p.length (f * p.length) (psh c p f) ∧ Fr No s s') (fun f e s' hf hI => ?_) (fun e s' hI => ?_) big 0 _ _ (Nat.zero_le _) (sz_big (sl (by omega)))
    ⟨none, none, rfl, get_end, by rw [Nat.zero_mul]; exact ap0, Fr.app _ _⟩
  · obtain ⟨x3, x4, rfl, hF, hA, G⟩ := hI
    refine ⟨_, it_rng hf, ?_⟩
    have e0 : (0 : Int) + (f : Nat) * 1 = (f : Nat) := by omega
    rw [e0]
    show (exS (gam T C X (k + 3)) _ [some (.loc a), some (nW c), some (.loc s.length), some (.int (f : Nat)), x4] s').wp _ _
    have hL2 : lsq (.loc a) s' = some (pW p) := G.keep ha
    (repeat decreasing_trivial_pre_omega)
    rw [List.length_map]
    refine ⟨_, src_down (by omega) (by omega) (by omega) (by omega), ?_⟩
    have en : ((p.length : Int) - 2 - ((f : Int) - 1)).toNat = p.length - 1 - f := by omega
    rw [en]
    have lf : (psh c p f).length = p.length := psh_len c p f
    refine for_wp (p.length - 1 - f) (fun j e s' => ∃ x4, e = [some (.loc a), some (nW c), some (.loc s.length), some (.int (f : Nat)), x4] ∧ s'[s.length]? = some (pW (pass c (p.length - 1 - j) (psh c p f))) ∧ AP D E Y K p.length (f * p.length + j) (pass c (p.length - 1 - j) (psh c p f)) ∧ Fr No s s') (fun j e s2 hj hI => ?_) (fun e s2 hI => ?_) big 0 _ _ (Nat.zero_le _) (sz_big (Nat.le_trans (show p.length - 1 - f ≤ 16777216 by omega) (Nat.le_refl _)))
      ⟨x4, rfl, by rw [Nat.sub_zero, ← lf, pass_last (by omega)]; exact hF, by rw [Nat.sub_zero, ← lf, pass_last (by omega), lf]; exact hA, G⟩
    · obtain ⟨x4, rfl, hF, hA, G⟩ := hI
      refine ⟨_, it_rng hj, ?_⟩
      have hi : p.length - 2 - j + 1 < p.length := by omega
      have e1 : ((p.length : Int) - 2) + (j : Nat) * (-1) = ((p.length - 2 - j : Nat) : Int) := by omega
      rw [e1]
      have e2 : p.length - 1 - j = p.length - 2 - j + 1 := by omega
      rw [e2] at hF hA
      show (exS (gam T C X (k + 3)) _ [some (.loc a), some (nW c), some (.loc s.length), some (.int (f : Nat)), some (.int ((p.length - 2 - j : Nat) : Int))] s2).wp _ _
      have lM : (pass c (p.length - 2 - j + 1) (psh c p f)).length = p.length := by rw [pass_len, lf]
      have st := pass_set (c := c) (L := psh c p f) (i := p.length - 2 - j) (by rw [lf]; omega)
      have sA := AP.set (y := c.num) (i := p.length - 2 - j) hD hE hy hA hi lM
      rw [ec, st] at sA
      generalize hM : pass c (p.length - 2 - j + 1) (psh c p f) = M at hF hA lM st
      have hFL : lsq (.loc s.length) s2 = some (pW M) := hF
      have tb : f * p.length + j ≤ p.length * p.length + p.length := by
        have := Nat.mul_le_mul_right p.length (Nat.le_of_lt hf)
        omega
      (repeat decreasing_trivial_pre_omega)
      refine o_ix hFL (atW_nat (pW_get (by omega))) ?_
      (repeat decreasing_trivial_pre_omega)
      have e3 : ((p.length - 2 - j : Nat) : Int) + 1 = ((p.length - 2 - j + 1 : Nat) : Int) := by omega
      rw [e3]
      refine o_ix hFL (atW_nat (pW_get (by omega))) ?_
      (repeat decreasing_trivial_pre_omega)
      rw [at0_get (p := M) (by omega), at0_get (p := M) (by omega)]
      have z1 := sz _ _ _ tb (hA (p.length - 2 - j) (by omega))
      have z2 := sz _ _ _ tb (hA (p.length - 2 - j + 1) hi)
      refine wp_of_eq (times_eq F hti (n := N) (sc.mono (by omega)) (z2.mono (by omega)) (by omega) (by omega)) ?_
      (repeat decreasing_trivial_pre_omega)
      refine wp_of_eq (plus_eq F hpl (n := N) (z1.mono (by omega)) ((sc.mul z2 b0).mono (by omega)) (by omega) h9) ?_
      (repeat decreasing_trivial_pre_omega)
      refine ⟨s.length, _, _, p.length - 2 - j, rfl, rfl, hF, ixN_nat (by rw [List.length_map]; omega), ?_⟩
      (repeat decreasing_trivial_pre_omega)
      rw [pW_set, st]
      have e4 : p.length - 1 - (j + 1) = p.length - 2 - j := by omega
      rw [e4]
      exact ⟨_, rfl, by rw [List.getElem?_set_self (get_lt hF)], sA, G.setge (Nat.le_refl _)⟩
    · obtain ⟨x4, rfl, hF, hA, G⟩ := hI
      refine ⟨it_rng0, ?_⟩
      have e5 : p.length - 1 - (p.length - 1 - f) = f := by omega
      rw [e5] at hF hA
      (repeat decreasing_trivial_pre_omega)
      refine ⟨_, _, rfl, hF, hA.up ?_, G⟩
      rw [Nat.succ_mul]
      omega
  · obtain ⟨x3, x4, rfl, hF, hA, G⟩ := hI
    refine ⟨it_rng0, ?_⟩
    rw [psh_all] at hF
    (repeat decreasing_trivial_pre_omega)
    exact q _ _ ⟨G, hF, Nat.le_refl _⟩
theorem shifted_wp (F : Frac T) (hpl : Has T "plus" 2 2 bd_plus) (hti : Has T "times" 2 2 bd_times) (h : Has T "shifted" 2 5 bd_shifted) {a : Nat} {c : Rat} {p : List Rat} (ha : s[a]? = some (pW p)) {z b N : Nat} (sp : Sp z p) (sc : Sz b c) (b0 : 0 < b)
    (hN : p.length * p.length + p.length + (z + z * p.length) + b * p.length + 1 + b ≤ N) (h9 : N + N + 1 ≤ 9000) (hl : p.length ≤ 4000) (q : ∀ m s', Nw s s' m (pW (SH c p)) → Q (.loc m) s') : ((gam T C X (k + 4)).call "shifted" [.loc a, nW c] s).wp Q Z := by
  refine shifted_gen F hpl hti h ha (prodDen_pos p) (Nat.le_trans (prodDen_le sp) (Nat.pow_le_pow_right (by decide) (Nat.le_add_left _ z))) (K := 2 ^ z * prodDen p) ?_ sc b0 (fun i hi => ?_) hN h9 hl q
  · rw [Nat.pow_add]
    exact Nat.mul_le_mul_left _ (prodDen_le sp)
  · rw [← at0_get hi]
    exact Px.of_mem sp (List.getElem_mem hi) (Nat.pos_of_ne_zero c.den_nz) (Nat.le_of_lt sc.den)
end
end Pl
namespace Pl
open PySem Py
local macro_rules | `(tactic| decreasing_trivial_pre_omega) => `(tactic| (first | with_reducible refine x_set ?_ | with_reducible refine x_par2 ?_ | with_reducible refine x_par3 ?_ | with_reducible refine x_ite ?_ | with_reducible refine x_for ?_ | with_reducible refine x_whl ?_ | with_reducible refine x_ret ?_ | with_reducible refine x_retn ?_ | with_reducible refine x_brk ?_ | with_reducible refine x_ct ?_ | with_reducible refine x_pass ?_ | with_reducible refine x_exp ?_ | with_reducible refine x_done ?_ | with_reducible refine nx_nx ?_ | with_reducible refine nx_rt ?_ | with_reducible refine nx_bk ?_ | with_reducible refine nx_ct ?_ | with_reducible refine lp_nx ?_ | with_reducible refine lp_ct ?_ | with_reducible refine lp_bk ?_ | with_reducible refine lp_rt ?_ | with_reducible refine jn_nx ?_ | with_reducible refine jn_rt ?_ | with_reducible refine fn_nx ?_ | with_reducible refine fn_rt ?_ | with_reducible refine e_int ?_ | with_reducible refine e_bl ?_ | with_reducible refine e_non ?_ | with_reducible refine e_str ?_ | with_reducible refine e_bin ?_ | with_reducible refine e_neg ?_ | with_reducible refine e_no ?_ | with_reducible refine e_cmp ?_ | with_reducible refine e_chain ?_ | with_reducible refine e_and ?_ | with_reducible refine e_or ?_ | with_reducible refine e_one ?_ | with_reducible refine e_ite ?_ | with_reducible refine e_tup ?_ | with_reducible refine e_lst ?_ | with_reducible refine e_ix ?_ | with_reducible refine e_sl ?_ | with_reducible refine e_rv ?_ | with_reducible refine e_call ?_ | with_reducible refine e_bi ?_ | with_reducible refine e_mt ?_ | with_reducible refine e_isi ?_ | with_reducible refine e_comp ?_ | with_reducible refine es_nil ?_ | with_reducible refine es_cons ?_ | with_reducible refine eo_nil ?_ | with_reducible refine eo_one ?_ | with_reducible refine t_and ?_ | with_reducible refine t_or ?_ | with_reducible refine t_no ?_ | with_reducible refine t_one ?_ | with_reducible refine t_nil ?_ | with_reducible refine t_cmp ?_ | with_reducible refine t_chain ?_ | with_reducible refine t_call ?_ | with_reducible refine t_bi ?_ | with_reducible refine t_isi ?_ | with_reducible refine x_asg ?_ | with_reducible refine a_sub ?_ | with_reducible refine o_add ?_ | with_reducible refine o_sub ?_ | with_reducible refine o_adb ?_ | with_reducible refine o_lt ?_ | with_reducible refine o_le ?_ | with_reducible refine o_gt ?_ | with_reducible refine o_ge ?_ | with_reducible refine o_eqi ?_ | with_reducible refine o_nei ?_ | with_reducible refine o_isN ?_ | with_reducible refine o_notN ?_ | with_reducible refine o_isB ?_ | with_reducible refine o_notB ?_ | with_reducible refine o_abs ?_ | with_reducible refine o_int ?_ | with_reducible refine o_intb ?_ | with_reducible refine o_max ?_ | with_reducible refine o_min ?_ | with_reducible refine o_neg ?_ | with_reducible refine o_lent ?_ | with_reducible refine ex_bl ?_ | with_reducible refine ex_int ?_ | with_reducible refine bq ?_ | with_reducible refine tq ?_ | with_reducible refine r_ok ?_ | ((with_reducible apply e_var); exact rfl) | ((with_reducible apply x_add); exact rfl) | ((with_reducible apply x_sub); exact rfl) | ((with_reducible apply o_ixt); exact rfl) | ((with_reducible apply o_isi); exact rfl) | ((with_reducible apply t_len); exact rfl) | ((with_reducible apply o_ix); assumption; exact rfl) | ((with_reducible apply e_con); rw [gc]; assumption) | ((with_reducible apply o_len); assumption) | ((with_reducible apply o_list); assumption) | ((with_reducible apply o_tuple); assumption) | ((with_reducible apply o_sl); assumption)))
theorem mem_at0 {L : List Rat} {x : Rat} (h : x ∈ L) : ∃ i, i < L.length ∧ x = at0 L i := by
  obtain ⟨i, hi, e⟩ := List.mem_iff_getElem.mp h
  exact ⟨i, hi, by rw [← at0_get hi, e]⟩
theorem cS2 (F : List Rat) (c : Rat) (m : Nat) : ∀ i, cS F [c, 1] i m = (if 1 ≤ m ∧ m - 1 < i then at0 F (m - 1) else 0) + (if m < i then at0 F m * c else 0)
  | 0 => by
    rw [cS, if_neg (by omega), if_neg (by omega), Rat.add_zero]
  | i + 1 => by
    rw [cS, cS2 F c m i]
    rcases Nat.lt_trichotomy m i with h | h | h
    · rw [if_neg (show ¬ i ≤ m by omega), Rat.add_zero, if_pos h, if_pos (show m < i + 1 by omega)]
      by_cases h1 : 1 ≤ m
      · rw [if_pos ⟨h1, by omega⟩, if_pos ⟨h1, by omega⟩]
      · rw [if_neg (by omega), if_neg (by omega)]
    · subst h
      rw [if_pos (Nat.le_refl m), Nat.sub_self, if_neg (Nat.lt_irrefl m), if_pos (Nat.lt_succ_self m), Rat.add_zero]
      show _ + at0 F m * c = _
      congr 1
      by_cases h1 : 1 ≤ m
      · rw [if_pos ⟨h1, by omega⟩, if_pos ⟨h1, by omega⟩]
      · rw [if_neg (by omega), if_neg (by omega)]
    · rw [if_pos (show i ≤ m by omega), if_neg (show ¬ m < i by omega), if_neg (show ¬ (1 ≤ m ∧ m - 1 < i) by omega)]
      by_cases h1 : m = i + 1
      · subst h1
        rw [if_pos (by omega), if_neg (by omega), show i + 1 - i = 1 from by omega, Nat.add_sub_cancel]
        show 0 + 0 + at0 F i * 1 = _
        rw [Rat.mul_one, Rat.add_zero, Rat.zero_add, Rat.add_zero]
      · rw [if_neg (by omega), if_neg (by omega), at0_no (p := [c, 1]) (by simp; omega), Rat.mul_zero, Rat.add_zero]
theorem pmul2_at (F : List Rat) (c : Rat) (i : Nat) : at0 (pmul F [c, 1]) i = (if i = 0 then 0 else at0 F (i - 1)) + c * at0 F i := by
  by_cases h : F = []
  · subst h
    have e : pmul [] [c, 1] = [] := by unfold pmul; rw [if_pos (.inl rfl)]
    rw [e]
    show (0 : Rat) = (if i = 0 then 0 else 0) + c * 0
    rw [Rat.mul_zero]
    split <;> rw [Rat.add_zero]
  · unfold pmul
    rw [if_neg (by simp [h]), range_at, cS2]
    have l : F.length + [c, 1].length - 1 = F.length + 1 := rfl
    rw [l]
    have p1 : 0 < F.length := List.length_pos_iff.mpr h
    by_cases h1 : i < F.length + 1
    · rw [if_pos h1]
      by_cases h0 : i = 0
      · subst h0
        rw [if_neg (by omega), if_pos rfl, if_pos p1, Rat.mul_comm]
      · rw [if_pos (by omega), if_neg h0]
        by_cases h2 : i < F.length
        · rw [if_pos h2, Rat.mul_comm]
        · rw [if_neg h2, at0_no (p := F) (i := i) (by omega), Rat.mul_zero]
    · rw [if_neg h1, if_neg (by omega), at0_no (p := F) (by omega), at0_no (p := F) (by omega), Rat.mul_zero, Rat.add_zero]
theorem moved_step (c a : Rat) (q : List Rat) : trim (padd (trim (pmul (trim (SH c q)) [c, 1])) (trim [a])) = trim (SH c (a :: q)) := trim_ext fun i => by
  rw [padd_at, trim_at, trim_at, pmul2_at, trim_at, trim_at, SH_at]
  cases i with
  | zero =>
    rw [if_pos rfl, if_pos rfl]
    show 0 + c * at0 (SH c q) 0 + a = a + c * at0 (SH c q) 0
    grind
  | succ i =>
    rw [if_neg (Nat.succ_ne_zero i), if_neg (Nat.succ_ne_zero i)]
    show _ + at0 [a] (i + 1) = _
    rw [at0_no (p := [a]) (by simp), Rat.add_zero]
theorem suf_AP {D E Y K n : Nat} {c : Rat} {y : Int} (hD : 0 < D) (hE : 0 < E) (hy : y.natAbs ≤ Y) (ec : Rat.divInt y (E : Int) = c) : ∀ q : List Rat, q.length ≤ n → (∀ x ∈ q, ∀ i, Px D E Y K n 0 i x) → ∀ i, i < q.length → Px D E Y K n q.length (n - q.length + i) (at0 (SH c q) i)
  | [], _, _, i, hi => absurd hi (Nat.not_lt_zero _)
  | a :: q, hl, h, i, hi => by
    rw [List.length_cons] at hl hi
    have ih := suf_AP hD hE hy ec q (by omega) fun x hx => h x (List.mem_cons_of_mem _ hx)
    rw [SH_at, List.length_cons]
    refine Px.add hD hE ?_ ?_
    · split
      · exact (h a List.mem_cons_self _).up (Nat.zero_le _)
      · rename_i h0
        have := ih (i - 1) (by omega)
        rw [show n - q.length + (i - 1) = n - (q.length + 1) + i from by omega] at this
        exact this
    · by_cases hq : i < q.length
      · have := ih i hq
        rw [show n - q.length + i = n - (q.length + 1) + i + 1 from by omega] at this
        have t := this.mul (i := n - (q.length + 1) + i) (by omega) hy
        rw [ec] at t
        exact t
      · rw [at0_no (p := SH c q) (by rw [SH_len]; omega), Rat.mul_zero]
        exact Px.zero
section
variable {T : Str → Option Fi} {C : Str → Option W} {X : Str → Bool} {k n m : Nat} {s : Sto} {Z : EK} {Q : QK W} {u : Nat}
theorem lmoved_wp (L : Has T "_law_low" 2 4 bd__law_low) (Tr : Has T "_law_trim" 1 2 bd__law_trim) (hpl : Has T "_law_plus" 2 2 bd__law_plus) (hti : Has T "_law_times" 2 2 bd__law_times) (hpp : Has T "_law_poly_plus" 2 6 bd__law_poly_plus) (hpt : Has T "_law_poly_times" 2 7 bd__law_poly_times)
    (h : Has T "_law_moved" 2 4 bd__law_moved) {a : Nat} {c : Rat} {p : List Rat} (ha : s[a]? = some (pW p)) {z b N : Nat} (sp : Sp z p) (sc : Sz b c) (b0 : 0 < b)
    (hN : p.length + 1 + (z + z * p.length) + b * p.length + 1 + b + z ≤ N) (h9 : N + N + 1 ≤ 9000) (hl : p.length ≤ 4000) (qq : ∀ m s', Nw s s' m (pW (trim (SH c p))) → Q (.loc m) s') : ((gam T C X (k + 4)).call "_law_moved" [.loc a, nW c] s).wp Q Z := by
  refine h.wp rfl ?_
  unfold bd__law_moved
  have hla := get_lt ha
  let D := prodDen p
  let E := c.den
  let Y := 2 ^ b
  have hD : 0 < D := prodDen_pos p
  have hE : 0 < E := Nat.pos_of_ne_zero c.den_nz
  have hEY : E ≤ Y := Nat.le_of_lt sc.den
  have hy : c.num.natAbs ≤ Y := Nat.le_of_lt sc.num
  have ec : Rat.divInt c.num (E : Int) = c := Rat.num_divInt_den c
  have sz : ∀ t i v, t ≤ p.length + 1 → Px D E Y (2 ^ z * D) p.length t i v → Sz N v := fun t i v ht hv => (hv.sz (m := b) sp (Nat.le_refl _) hEY).mono (by omega)
  have hL1 : lsq (.loc a) (s ++ [[]]) = some (pW p) := get_app ha
  (repeat decreasing_trivial_pre_omega)
  refine ⟨_, src_rev hL1, ?_⟩
  rw [List.length_map]
  refine for_wp p.length (fun i e s' => ∃ F x3, e = [some (.loc a), some (nW c), some (.loc F), x3] ∧ s'[F]? = some (pW (trim (SH c (p.drop (p.length - i))))) ∧ s.length ≤ F ∧ Fr No s s') (fun i e s' hi hI => ?_) (fun e s' hI => ?_) big 0 _ _ (Nat.zero_le _) (sz_big (sl (by omega)))
    ⟨_, none, rfl, by rw [Nat.sub_zero, List.drop_length]; exact get_end, Nat.le_refl _, Fr.app _ _⟩
  · obtain ⟨F, x3, rfl, hF, gF, G⟩ := hI
    have hi' : p.length - 1 - i < p.length := by omega
    refine ⟨_, it_rv (show lsq (.loc a) s' = _ from G.keep ha) hi (pW_get hi'), ?_⟩
    show (exS (gam T C X (k + 3)) _ [some (.loc a), some (nW c), some (.loc F), some (nW p[p.length - 1 - i])] s').wp _ _
    have lq : (p.drop (p.length - i)).length = i := by rw [List.length_drop]; omega
    have hmem : ∀ x ∈ p.drop (p.length - i), ∀ j, Px D E Y (2 ^ z * D) p.length 0 j x := fun x hx j => Px.of_mem sp (List.mem_of_mem_drop hx) hE hEY
    have A := suf_AP (n := p.length) hD hE hy ec (p.drop (p.length - i)) (by omega) hmem
    rw [lq] at A
    have hstep := moved_step c p[p.length - 1 - i] (p.drop (p.length - i))
    rw [← drop_at hi] at hstep
    have lS : (SH c (p.drop (p.length - i))).length = i := by rw [SH_len, lq]
    have lF := trim_len (SH c (p.drop (p.length - i)))
    rw [lS] at lF
    have B : ∀ j, Px D E Y (2 ^ z * D) p.length i (p.length - i + j) (at0 (trim (SH c (p.drop (p.length - i)))) j) := fun j => by
      rw [trim_at]
      by_cases hj : j < i
      · exact A j hj
      · rw [at0_no (by omega)]
        exact Px.zero
    generalize trim (SH c (p.drop (p.length - i))) = S at hF hstep lF B
    have sS : Sp N S := fun x hx => by
      obtain ⟨j, hj, rfl⟩ := mem_at0 hx
      exact sz _ _ _ (by omega) (B j)
    have mulc : ∀ j, Px D E Y (2 ^ z * D) p.length i (p.length - i - 1 + j) (at0 S j * c) := fun j => by
      by_cases hj : j < i
      · have := B j
        rw [show p.length - i + j = p.length - i - 1 + j + 1 from by omega] at this
        have t := this.mul (i := p.length - i - 1 + j) (by omega) hy
        rw [ec] at t
        rw [Rat.mul_comm]
        exact t
      · rw [at0_no (by omega), Rat.zero_mul]
        exact Px.zero
    have cs : ∀ j m, Sz N (cS S [c, 1] j m) := fun j m => by
      rw [cS2]
      refine sz (i + 1) (p.length - i - 1 + m) _ (by omega) (Px.add hD hE ?_ ?_)
      · split
        · rename_i h1
          have := B (m - 1)
          rw [show p.length - i + (m - 1) = p.length - i - 1 + m from by omega] at this
          exact this
        · exact Px.zero
      · split
        · exact mulc m
        · exact Px.zero
    have hM : ∀ j t m, j < S.length → Sz N (cM S [c, 1] j t m) := fun j t m _ => by
      unfold cM
      split
      · exact cs _ _
      · exact cs _ _
    have hX : ∀ x y, x ∈ S → y ∈ [c, 1] → Sz N (x * y) := fun x y hx hy' => by
      obtain ⟨j, hj, rfl⟩ := mem_at0 hx
      simp only [List.mem_cons, List.not_mem_nil, or_false] at hy'
      rcases hy' with rfl | rfl
      · exact sz _ _ _ (by omega) (mulc j)
      · rw [Rat.mul_one]
        exact sS _ hx
    have s2 : Sp N [c, 1] := fun x hx => by
      simp only [List.mem_cons, List.not_mem_nil, or_false] at hx
      rcases hx with rfl | rfl
      · exact sc.mono (by omega)
      · exact Sz.one.mono (by omega)
    have l2 : s'[F]? = some (pW S) := hF
    (repeat decreasing_trivial_pre_omega)
    refine lpoly_times_gen (k := k) (n := N) (N := N) (p := S) (q := [c, 1]) L Tr hpl hti hpt (get_app hF) get_end sS s2 (by omega) (by omega) (by omega) hX hM h9 (by omega) (by simp) fun t s1 N1 => ?_
    (repeat decreasing_trivial_pre_omega)
    refine ltrim_wp (p := [p[p.length - 1 - i]]) Tr (show lsq (.loc s1.length) _ = _ from get_end) (by simp; exact sl (by omega)) fun r s3 N3 => ?_
    (repeat decreasing_trivial_pre_omega)
    have F3 : Fr No s1 s3 := (Fr.app _ _).trans N3.fr
    refine lpoly_plus_wp (k := k) (n := N) L Tr hpl hpp (F3.keep N1.at_) N3.at_ (Sp.trim fun x hx => ?_) (Sp.trim fun x hx => ?_) (by omega) h9 (Nat.le_trans (trim_len _) (Nat.le_trans (pmul_len _ _) (by simp; omega))) (Nat.le_trans (trim_len _) (by simp)) fun d s4 N4 => ?_
    · obtain ⟨j, hj, rfl⟩ := mem_at0 hx
      unfold pmul at hj ⊢
      split
      · exact Sz.zero.mono (by omega)
      · rw [range_at]
        split
        · exact cs _ _
        · exact Sz.zero.mono (by omega)
    · rw [List.mem_singleton.mp hx]
      exact (sp _ (List.getElem_mem hi')).mono (by omega)
    · (repeat decreasing_trivial_pre_omega)
      rw [hstep] at N4
      have FF : Fr No s' s4 := (Fr.app _ _).trans (N1.fr.trans (F3.trans N4.fr))
      have g1 := N4.ge
      have g2 := N1.fr.len
      have g3 := F3.len
      have g4 := G.len
      rw [List.length_append] at g2
      exact ⟨d, _, rfl, N4.at_, by omega, G.trans FF⟩
  · obtain ⟨F, x3, rfl, hF, gF, G⟩ := hI
    refine ⟨it_rv0, ?_⟩
    rw [Nat.sub_self, List.drop_zero] at hF
    (repeat decreasing_trivial_pre_omega)
    exact qq _ _ ⟨G, hF, gF⟩
end
end Pl
namespace Lw
open PySem PySem.Spec PyProof.Rows L2 Py
def fi_shared_divisor : Fi := ⟨["one", "other"], ["one", "other"], (.par2 0 1 (.bi .abs (.cons (.var 0) .nil)) (.bi .abs (.cons (.var 1) .nil)) (.whl (.cmp .gt (.var 1) (.int 0)) (.par2 0 1 (.var 1) (.bin .mod (.var 0) (.var 1)) .done) (.ret (.var 0) .done)))⟩
def fi_fraction : Fi := ⟨["top", "bottom"], ["top", "bottom", "divisor"], (.ite (.cmp .eq (.var 1) (.int 0)) (.raise "NoFraction" .done) .done (.asg (.name 2) (.call "shared_divisor" (.cons (.var 0) (.cons (.var 1) .nil))) (.ite (.cmp .lt (.var 1) (.int 0)) (.asg (.name 2) (.bin .sub (.int 0) (.var 2)) .done) .done (.ret (.tup (.cons (.bin .fdiv (.var 0) (.var 2)) (.cons (.bin .fdiv (.var 1) (.var 2)) .nil))) .done))))⟩
def fi_plus : Fi := ⟨["one", "other"], ["one", "other"], (.ret (.call "fraction" (.cons (.bin .add (.bin .mul (.ix (.var 0) (.int 0)) (.ix (.var 1) (.int 1))) (.bin .mul (.ix (.var 1) (.int 0)) (.ix (.var 0) (.int 1)))) (.cons (.bin .mul (.ix (.var 0) (.int 1)) (.ix (.var 1) (.int 1))) .nil))) .done)⟩
def fi_times : Fi := ⟨["one", "other"], ["one", "other"], (.ret (.call "fraction" (.cons (.bin .mul (.ix (.var 0) (.int 0)) (.ix (.var 1) (.int 0))) (.cons (.bin .mul (.ix (.var 0) (.int 1)) (.ix (.var 1) (.int 1))) .nil))) .done)⟩
def fi_worth : Fi := ⟨["p", "number"], ["p", "number", "found", "one"], (.asg (.name 2) (.con "NOUGHT") (.for_ (.name 3) .rev (.cons (.var 0) .nil) (.asg (.name 2) (.call "plus" (.cons (.call "times" (.cons (.var 2) (.cons (.var 1) .nil))) (.cons (.var 3) .nil))) .done) (.ret (.var 2) .done)))⟩
def fi_slope : Fi := ⟨["p"], ["p", "i"], (.ret (.comp [("i", 1)] (.name 1) .rng2 (.cons (.int 1) (.cons (.bi .len (.cons (.var 0) .nil)) .nil)) .nil (.call "times" (.cons (.tup (.cons (.var 1) (.cons (.int 1) .nil))) (.cons (.ix (.var 0) (.var 1)) .nil)))) .done)⟩
def fi_shifted : Fi := ⟨["p", "number"], ["p", "number", "found", "first", "i"], (.asg (.name 2) (.bi .list (.cons (.var 0) .nil)) (.for_ (.name 3) .rng1 (.cons (.bi .len (.cons (.var 0) .nil)) .nil) (.for_ (.name 4) .rng3 (.cons (.bin .sub (.bi .len (.cons (.var 0) .nil)) (.int 2)) (.cons (.bin .sub (.var 3) (.int 1)) (.cons (.neg (.int 1)) .nil))) (.asg (.sub (.var 2) (.var 4)) (.call "plus" (.cons (.ix (.var 2) (.var 4)) (.cons (.call "times" (.cons (.var 1) (.cons (.ix (.var 2) (.bin .add (.var 4) (.int 1))) .nil))) .nil))) .done) .done) (.ret (.var 2) .done)))⟩
def fi_mirrored : Fi := ⟨["p"], ["p", "i", "one"], (.ret (.comp [("i", 1), ("one", 2)] (.tup (.cons (.name 1) (.cons (.name 2) .nil))) .enu (.cons (.var 0) .nil) .nil (.call "times" (.cons (.tup (.cons (.bin .sub (.int 1) (.bin .mul (.int 2) (.bin .mod (.var 1) (.int 2)))) (.cons (.int 1) .nil))) (.cons (.var 2) .nil)))) .done)⟩
def fi__law_urn : Fi := ⟨["_law_script", "_law_at"], ["_law_script", "_law_at", "_law_cell", "_law_prime", "_law_great"], (.asg (.name 2) (.int 0) (.ite (.cmp .lt (.var 1) (.bi .len (.cons (.var 0) .nil))) (.asg (.name 2) (.ix (.var 0) (.var 1)) .done) .done (.asg (.name 3) (.ix (.tup (.cons (.int 1899999979) (.cons (.int 1899998977) (.cons (.int 1899997949) (.cons (.int 1899996929) (.cons (.int 1899995927) (.cons (.int 1899994903) (.cons (.int 1899993877) (.cons (.int 1899992839) .nil))))))))) (.bin .mod (.var 1) (.int 8))) (.asg (.name 4) (.int 0) (.ite (.cmp .ge (.bi .abs (.cons (.var 2) .nil)) (.bin .pow (.int 10) (.int 18))) (.asg (.name 4) (.bi .abs (.cons (.var 2) .nil)) .done) .done (.ret (.lst (.cons (.var 4) (.cons (.bin .mod (.bin .pow (.bin .add (.bin .add (.bin .mod (.var 2) (.var 3)) (.bin .mul (.int 65537) (.var 1))) (.int 101)) (.int 3)) (.var 3)) (.cons (.var 3) .nil)))) .done))))))⟩
def fi__law_draw : Fi := ⟨["_law_urn_here", "_law_many"], ["_law_urn_here", "_law_many", "_law_drawn"], (.ite (.cmp .gt (.ix (.var 0) (.int 0)) (.int 0)) (.asg (.name 2) (.bin .mod (.ix (.var 0) (.int 0)) (.var 1)) (.asg (.sub (.var 0) (.int 0)) (.bin .fdiv (.ix (.var 0) (.int 0)) (.var 1)) (.ret (.var 2) .done))) .done (.asg (.sub (.var 0) (.int 1)) (.bin .mod (.bin .add (.bin .mul (.ix (.var 0) (.int 1)) (.int 60013)) (.int 12289)) (.ix (.var 0) (.int 2))) (.ret (.bin .mod (.bin .fdiv (.bin .mod (.bin .pow (.bin .fdiv (.ix (.var 0) (.int 1)) (.int 16)) (.int 3)) (.int 1999999973)) (.int 8)) (.var 1)) .done)))⟩
def fi__law_low : Fi := ⟨["_law_top", "_law_bottom"], ["_law_top", "_law_bottom", "_law_one", "_law_other_here"], (.asg (.name 2) (.bi .abs (.cons (.var 0) .nil)) (.asg (.name 3) (.bi .abs (.cons (.var 1) .nil)) (.whl (.cmp .gt (.var 3) (.int 0)) (.par2 2 3 (.var 3) (.bin .mod (.var 2) (.var 3)) .done) (.ite (.cmp .lt (.var 1) (.int 0)) (.asg (.name 2) (.bin .sub (.int 0) (.var 2)) .done) .done (.ret (.tup (.cons (.bin .fdiv (.var 0) (.var 2)) (.cons (.bin .fdiv (.var 1) (.var 2)) .nil))) .done)))))⟩
def fi__law_plus : Fi := ⟨["_law_one", "_law_other_here"], ["_law_one", "_law_other_here"], (.ret (.call "_law_low" (.cons (.bin .add (.bin .mul (.ix (.var 0) (.int 0)) (.ix (.var 1) (.int 1))) (.bin .mul (.ix (.var 1) (.int 0)) (.ix (.var 0) (.int 1)))) (.cons (.bin .mul (.ix (.var 0) (.int 1)) (.ix (.var 1) (.int 1))) .nil))) .done)⟩
def fi__law_times : Fi := ⟨["_law_one", "_law_other_here"], ["_law_one", "_law_other_here"], (.ret (.call "_law_low" (.cons (.bin .mul (.ix (.var 0) (.int 0)) (.ix (.var 1) (.int 0))) (.cons (.bin .mul (.ix (.var 0) (.int 1)) (.ix (.var 1) (.int 1))) .nil))) .done)⟩
def fi__law_kind : Fi := ⟨["_law_urn_here"], ["_law_urn_here"], (.ret (.ix (.lst (.cons (.int 0) (.cons (.int 1) (.cons (.int 0) (.cons (.int 1) (.cons (.int 0) (.cons (.int 1) (.cons (.int 0) (.cons (.int 2) .nil))))))))) (.call "_law_draw" (.cons (.var 0) (.cons (.int 8) .nil)))) .done)⟩
def fi__law_number : Fi := ⟨["_law_urn_here", "_law_kind_here"], ["_law_urn_here", "_law_kind_here", "_law_top"], (.ite (.cmp .eq (.var 1) (.int 2)) (.asg (.name 2) (.bin .add (.bin .mul (.call "_law_draw" (.cons (.var 0) (.cons (.bin .pow (.int 10) (.int 6)) .nil))) (.bin .pow (.int 10) (.int 6))) (.call "_law_draw" (.cons (.var 0) (.cons (.bin .pow (.int 10) (.int 6)) .nil)))) (.ret (.call "_law_low" (.cons (.bin .mul (.var 2) (.ix (.lst (.cons (.int 1) (.cons (.neg (.int 1)) .nil))) (.call "_law_draw" (.cons (.var 0) (.cons (.int 2) .nil))))) (.cons (.bin .add (.int 1) (.bin .mul (.call "_law_draw" (.cons (.var 0) (.cons (.bin .pow (.int 10) (.int 6)) .nil))) (.bin .pow (.int 10) (.int 6)))) .nil))) .done)) .done (.ret (.call "_law_low" (.cons (.bin .sub (.call "_law_draw" (.cons (.var 0) (.cons (.int 19) .nil))) (.int 9)) (.cons (.bin .add (.int 1) (.bin .mul (.call "_law_draw" (.cons (.var 0) (.cons (.int 6) .nil))) (.bi .int (.cons (.cmp .eq (.var 1) (.int 0)) .nil)))) .nil))) .done))⟩
def fi__law_other : Fi := ⟨["_law_urn_here", "_law_kind_here"], ["_law_urn_here", "_law_kind_here", "_law_found"], (.asg (.name 2) (.call "_law_number" (.cons (.var 0) (.cons (.var 1) .nil))) (.ite (.cmp .eq (.ix (.var 2) (.int 0)) (.int 0)) (.ret (.tup (.cons (.bin .add (.int 1) (.call "_law_draw" (.cons (.var 0) (.cons (.int 3) .nil)))) (.cons (.int 1) .nil))) .done) .done (.ret (.var 2) .done)))⟩
def fi__law_trim : Fi := ⟨["_law_numbers"], ["_law_numbers", "_law_found"], (.asg (.name 1) (.bi .list (.cons (.var 0) .nil)) (.whl (.and (.cmp .ne (.var 1) (.lst .nil)) (.one (.cmp .eq (.ix (.ix (.var 1) (.neg (.int 1))) (.int 0)) (.int 0)))) (.exp (.mt .pop (.var 1) .nil) .done) (.ret (.var 1) .done)))⟩
def fi__law_poly_plus : Fi := ⟨["_law_p", "_law_q"], ["_law_p", "_law_q", "_law_found", "_law_i", "_law_one", "_law_other_here"], (.asg (.name 2) (.lst .nil) (.for_ (.name 3) .rng1 (.cons (.bi .max2 (.cons (.bi .len (.cons (.var 0) .nil)) (.cons (.bi .len (.cons (.var 1) .nil)) .nil))) .nil) (.asg (.name 4) (.ite (.cmp .lt (.var 3) (.bi .len (.cons (.var 0) .nil))) (.ix (.var 0) (.var 3)) (.tup (.cons (.int 0) (.cons (.int 1) .nil)))) (.asg (.name 5) (.ite (.cmp .lt (.var 3) (.bi .len (.cons (.var 1) .nil))) (.ix (.var 1) (.var 3)) (.tup (.cons (.int 0) (.cons (.int 1) .nil)))) (.exp (.mt .append (.var 2) (.cons (.call "_law_plus" (.cons (.var 4) (.cons (.var 5) .nil))) .nil)) .done))) (.ret (.call "_law_trim" (.cons (.var 2) .nil)) .done)))⟩
def fi__law_poly_times : Fi := ⟨["_law_p", "_law_q"], ["_law_p", "_law_q", "_law_found", "_law_i", "_law_one", "_law_j", "_law_other_here"], (.ite (.or (.cmp .eq (.var 0) (.lst .nil)) (.one (.cmp .eq (.var 1) (.lst .nil)))) (.ret (.lst .nil) .done) .done (.asg (.name 2) (.bin .mul (.lst (.cons (.tup (.cons (.int 0) (.cons (.int 1) .nil))) .nil)) (.bin .sub (.bin .add (.bi .len (.cons (.var 0) .nil)) (.bi .len (.cons (.var 1) .nil))) (.int 1))) (.for_ (.tup (.cons (.name 3) (.cons (.name 4) .nil))) .enu (.cons (.var 0) .nil) (.for_ (.tup (.cons (.name 5) (.cons (.name 6) .nil))) .enu (.cons (.var 1) .nil) (.asg (.sub (.var 2) (.bin .add (.var 3) (.var 5))) (.call "_law_plus" (.cons (.ix (.var 2) (.bin .add (.var 3) (.var 5))) (.cons (.call "_law_times" (.cons (.var 4) (.cons (.var 6) .nil))) .nil))) .done) .done) (.ret (.call "_law_trim" (.cons (.var 2) .nil)) .done))))⟩
def fi__law_worth : Fi := ⟨["_law_p", "_law_x"], ["_law_p", "_law_x", "_law_found", "_law_number_here"], (.asg (.name 2) (.tup (.cons (.int 0) (.cons (.int 1) .nil))) (.for_ (.name 3) .rev (.cons (.var 0) .nil) (.asg (.name 2) (.call "_law_plus" (.cons (.call "_law_times" (.cons (.var 2) (.cons (.var 1) .nil))) (.cons (.var 3) .nil))) .done) (.ret (.var 2) .done)))⟩
def fi__law_mirrored : Fi := ⟨["_law_p"], ["_law_p", "_law_i", "_law_number_here"], (.ret (.comp [("_law_i", 1), ("_law_number_here", 2)] (.tup (.cons (.name 1) (.cons (.name 2) .nil))) .enu (.cons (.var 0) .nil) .nil (.tup (.cons (.bin .mul (.ix (.var 2) (.int 0)) (.ix (.lst (.cons (.int 1) (.cons (.neg (.int 1)) .nil))) (.bin .mod (.var 1) (.int 2)))) (.cons (.ix (.var 2) (.int 1)) .nil)))) .done)⟩
def fi__law_drawn_poly : Fi := ⟨["_law_urn_here", "_law_kind_here", "_law_most"], ["_law_urn_here", "_law_kind_here", "_law_most", "_law_i"], (.ret (.bin .add (.comp [("_law_i", 3)] (.name 3) .rng1 (.cons (.call "_law_draw" (.cons (.var 0) (.cons (.bin .add (.var 2) (.int 1)) .nil))) .nil) .nil (.call "_law_number" (.cons (.var 0) (.cons (.var 1) .nil)))) (.lst (.cons (.call "_law_other" (.cons (.var 0) (.cons (.var 1) .nil))) .nil))) .done)⟩
def fi__law_whole : Fi := ⟨["_law_thing"], ["_law_thing"], (.ret (.and (.isi (.var 0) .int) (.one (.no (.isi (.var 0) .bool)))) .done)⟩
def fi__law_is_number : Fi := ⟨["_law_thing"], ["_law_thing"], (.ite (.or (.no (.isi (.var 0) .tuple)) (.or (.cmp .ne (.bi .len (.cons (.var 0) .nil)) (.int 2)) (.or (.no (.call "_law_whole" (.cons (.ix (.var 0) (.int 0)) .nil))) (.one (.no (.call "_law_whole" (.cons (.ix (.var 0) (.int 1)) .nil))))))) (.ret (.bl false) .done) .done (.ret (.and (.cmp .gt (.ix (.var 0) (.int 1)) (.int 0)) (.one (.cmp .eq (.call "_law_low" (.cons (.ix (.var 0) (.int 0)) (.cons (.ix (.var 0) (.int 1)) .nil))) (.var 0)))) .done))⟩
def fi__law_is_poly : Fi := ⟨["_law_thing"], ["_law_thing", "_law_one"], (.ret (.and (.isi (.var 0) .list) (.and (.bi .all (.cons (.comp [("_law_one", 1)] (.name 1) .seq (.cons (.var 0) .nil) .nil (.call "_law_is_number" (.cons (.var 1) .nil))) .nil)) (.one (.cmp .eq (.call "_law_trim" (.cons (.var 0) .nil)) (.var 0))))) .done)⟩
def fi__law_drawn_some : Fi := ⟨["_law_urn_here", "_law_kind_here"], ["_law_urn_here", "_law_kind_here", "_law_way", "_law_p", "_law_i", "_law_number_here"], (.asg (.name 2) (.call "_law_draw" (.cons (.var 0) (.cons (.int 7) .nil))) (.asg (.name 3) (.call "_law_drawn_poly" (.cons (.var 0) (.cons (.var 1) (.cons (.int 14) .nil)))) (.ite (.cmp .eq (.var 2) (.int 0)) (.ret (.lst .nil) .done) .done (.ite (.cmp .eq (.var 2) (.int 1)) (.ret (.bin .add (.bin .mul (.lst (.cons (.tup (.cons (.int 0) (.cons (.int 1) .nil))) .nil)) (.bin .sub (.bi .len (.cons (.var 3) .nil)) (.int 1))) (.lst (.cons (.ix (.var 3) (.neg (.int 1))) .nil))) .done) .done (.ite (.cmp .eq (.var 2) (.int 2)) (.ret (.comp [("_law_i", 4), ("_law_number_here", 5)] (.tup (.cons (.name 4) (.cons (.name 5) .nil))) .enu (.cons (.var 3) .nil) .nil (.ite (.cmp .eq (.bin .mod (.bin .sub (.bin .sub (.bi .len (.cons (.var 3) .nil)) (.int 1)) (.var 4)) (.int 2)) (.int 0)) (.var 5) (.tup (.cons (.int 0) (.cons (.int 1) .nil))))) .done) .done (.ret (.var 3) .done))))))⟩
def fi__law_moved : Fi := ⟨["_law_p", "_law_number_here"], ["_law_p", "_law_number_here", "_law_found", "_law_one"], (.asg (.name 2) (.lst .nil) (.for_ (.name 3) .rev (.cons (.var 0) .nil) (.asg (.name 2) (.call "_law_poly_plus" (.cons (.call "_law_poly_times" (.cons (.var 2) (.cons (.lst (.cons (.var 1) (.cons (.tup (.cons (.int 1) (.cons (.int 1) .nil))) .nil))) .nil))) (.cons (.call "_law_trim" (.cons (.lst (.cons (.var 3) .nil)) .nil)) .nil))) .done) (.ret (.var 2) .done)))⟩
def fi__law_sloped : Fi := ⟨["_law_p"], ["_law_p", "_law_i", "_law_one"], (.ret (.sl (.comp [("_law_i", 1), ("_law_one", 2)] (.tup (.cons (.name 1) (.cons (.name 2) .nil))) .enu (.cons (.var 0) .nil) .nil (.call "_law_times" (.cons (.tup (.cons (.var 1) (.cons (.int 1) .nil))) (.cons (.var 2) .nil)))) (.one (.int 1)) .nil) .done)⟩
def fi__law_lists_right : Fi := ⟨["_law_handed", "_law_number_here", "_law_due"], ["_law_handed", "_law_number_here", "_law_due", "_law_told", "_law_back", "_law_one"], (.asg (.name 3) (.lst (.cons (.call "slope" (.cons (.var 0) .nil)) (.cons (.call "shifted" (.cons (.var 0) (.cons (.var 1) .nil))) (.cons (.call "mirrored" (.cons (.var 0) .nil)) .nil)))) (.ite (.or (.no (.bi .all (.cons (.comp [("_law_one", 5)] (.name 5) .seq (.cons (.var 3) .nil) .nil (.call "_law_is_poly" (.cons (.var 5) .nil))) .nil))) (.one (.cmp .ne (.var 3) (.var 2)))) (.ret (.bl false) .done) .done (.asg (.name 4) (.lst (.cons (.call "shifted" (.cons (.bi .list (.cons (.ix (.var 2) (.int 1)) .nil)) (.cons (.tup (.cons (.bin .sub (.int 0) (.ix (.var 1) (.int 0))) (.cons (.ix (.var 1) (.int 1)) .nil))) .nil))) (.cons (.call "mirrored" (.cons (.bi .list (.cons (.ix (.var 2) (.int 2)) .nil)) .nil)) .nil))) (.for_ (.name 5) .seq (.cons (.var 3) .nil) (.exp (.mt .append (.var 5) (.cons (.tup (.cons (.int 3) (.cons (.int 1) .nil))) .nil)) .done) (.ret (.cmp .eq (.var 4) (.lst (.cons (.var 0) (.cons (.var 0) .nil)))) .done)))))⟩
def fi_law : Fi := ⟨["_law_script"], ["_law_script", "_law_at", "_law_urn_here", "_law_kind_here", "_law_way", "_law_p", "_law_number_here", "_law_handed", "_law_due", "_law_turn", "_law_x", "_law_found"], (.for_ (.name 1) .rng1 (.cons (.bi .max2 (.cons (.int 1) (.cons (.bi .min2 (.cons (.int 4) (.cons (.bi .len (.cons (.var 0) .nil)) .nil))) .nil))) .nil) (.asg (.name 2) (.call "_law_urn" (.cons (.var 0) (.cons (.var 1) .nil))) (.asg (.name 3) (.call "_law_kind" (.cons (.var 2) .nil)) (.asg (.name 4) (.call "_law_draw" (.cons (.var 2) (.cons (.int 6) .nil))) (.asg (.name 5) (.call "_law_drawn_some" (.cons (.var 2) (.cons (.var 3) .nil))) (.asg (.name 6) (.call "_law_number" (.cons (.var 2) (.cons (.var 3) .nil))) (.ite (.cmp .lt (.var 4) (.int 3)) (.asg (.name 6) (.ix (.lst (.cons (.tup (.cons (.int 0) (.cons (.int 1) .nil))) (.cons (.tup (.cons (.int 1) (.cons (.int 1) .nil))) (.cons (.tup (.cons (.neg (.int 1)) (.cons (.int 1) .nil))) .nil)))) (.var 4)) .done) .done (.ite (.and (.cmp .eq (.var 4) (.int 3)) (.one (.cmp .lt (.bi .len (.cons (.var 5) .nil)) (.int 15)))) (.asg (.name 5) (.call "_law_poly_times" (.cons (.var 5) (.cons (.lst (.cons (.tup (.cons (.bin .sub (.int 0) (.ix (.var 6) (.int 0))) (.cons (.ix (.var 6) (.int 1)) .nil))) (.cons (.tup (.cons (.int 1) (.cons (.int 1) .nil))) .nil))) .nil))) .done) .done (.asg (.name 7) (.bi .list (.cons (.var 5) .nil)) (.asg (.name 8) (.lst (.cons (.call "_law_sloped" (.cons (.var 5) .nil)) (.cons (.call "_law_moved" (.cons (.var 5) (.cons (.var 6) .nil))) (.cons (.call "_law_mirrored" (.cons (.var 5) .nil)) .nil)))) (.for_ (.name 9) .rng1 (.cons (.int 2) .nil) (.for_ (.name 10) .seq (.cons (.lst (.cons (.var 6) (.cons (.tup (.cons (.int 0) (.cons (.int 1) .nil))) (.cons (.tup (.cons (.int 7) (.cons (.int 2) .nil))) .nil)))) .nil) (.asg (.name 11) (.call "worth" (.cons (.var 7) (.cons (.var 10) .nil))) (.ite (.or (.no (.call "_law_is_number" (.cons (.var 11) .nil))) (.one (.cmp .ne (.var 11) (.call "_law_worth" (.cons (.var 5) (.cons (.var 10) .nil)))))) (.ret (.bl false) .done) .done .done)) (.ite (.or (.no (.call "_law_lists_right" (.cons (.var 7) (.cons (.var 6) (.cons (.var 8) .nil))))) (.one (.cmp .ne (.var 7) (.var 5)))) (.ret (.bl false) .done) .done .done)) .done)))))))))) (.ret (.bl true) .done))⟩
def rows : List Py.Row := [⟨"shared_divisor", 5, fi_shared_divisor⟩, ⟨"fraction", 6, fi_fraction⟩, ⟨"plus", 7, fi_plus⟩, ⟨"times", 8, fi_times⟩, ⟨"worth", 10, fi_worth⟩, ⟨"slope", 11, fi_slope⟩, ⟨"shifted", 12, fi_shifted⟩, ⟨"mirrored", 13, fi_mirrored⟩, ⟨"_law_urn", 15, fi__law_urn⟩, ⟨"_law_draw", 16, fi__law_draw⟩, ⟨"_law_low", 17, fi__law_low⟩, ⟨"_law_plus", 18, fi__law_plus⟩, ⟨"_law_times", 19, fi__law_times⟩, ⟨"_law_kind", 20, fi__law_kind⟩, ⟨"_law_number", 21, fi__law_number⟩, ⟨"_law_other", 22, fi__law_other⟩, ⟨"_law_trim", 23, fi__law_trim⟩, ⟨"_law_poly_plus", 24, fi__law_poly_plus⟩, ⟨"_law_poly_times", 25, fi__law_poly_times⟩, ⟨"_law_worth", 26, fi__law_worth⟩, ⟨"_law_mirrored", 27, fi__law_mirrored⟩, ⟨"_law_drawn_poly", 28, fi__law_drawn_poly⟩, ⟨"_law_whole", 29, fi__law_whole⟩, ⟨"_law_is_number", 30, fi__law_is_number⟩, ⟨"_law_is_poly", 31, fi__law_is_poly⟩, ⟨"_law_drawn_some", 32, fi__law_drawn_some⟩, ⟨"_law_moved", 33, fi__law_moved⟩, ⟨"_law_sloped", 34, fi__law_sloped⟩, ⟨"_law_lists_right", 35, fi__law_lists_right⟩, ⟨"law", 36, fi_law⟩]
def cons : List (Str × W) := [("NOUGHT", .tup [.int 0, .int 1])]
def excl : List Str := ["RestError", "NoFraction"]
end Lw
namespace Lw
open PySem PyProof.Rows Py Pl
theorem h_shared_divisor : Has (tabR rows) "shared_divisor" 2 2 bd_shared_divisor := ⟨fi_shared_divisor, by kernel_rfl, rfl, rfl, rfl⟩
theorem h_fraction : Has (tabR rows) "fraction" 2 3 bd_fraction := ⟨fi_fraction, by kernel_rfl, rfl, rfl, rfl⟩
theorem h_plus : Has (tabR rows) "plus" 2 2 bd_plus := ⟨fi_plus, by kernel_rfl, rfl, rfl, rfl⟩
theorem h_times : Has (tabR rows) "times" 2 2 bd_times := ⟨fi_times, by kernel_rfl, rfl, rfl, rfl⟩
theorem h_worth : Has (tabR rows) "worth" 2 4 bd_worth := ⟨fi_worth, by kernel_rfl, rfl, rfl, rfl⟩
theorem h_slope : Has (tabR rows) "slope" 1 2 bd_slope := ⟨fi_slope, by kernel_rfl, rfl, rfl, rfl⟩
theorem h_shifted : Has (tabR rows) "shifted" 2 5 bd_shifted := ⟨fi_shifted, by kernel_rfl, rfl, rfl, rfl⟩
theorem h_mirrored : Has (tabR rows) "mirrored" 1 3 bd_mirrored := ⟨fi_mirrored, by kernel_rfl, rfl, rfl, rfl⟩
theorem h__law_urn : Has (tabR rows) "_law_urn" 2 5 bd__law_urn := ⟨fi__law_urn, by kernel_rfl, rfl, rfl, rfl⟩
theorem h__law_draw : Has (tabR rows) "_law_draw" 2 3 bd__law_draw := ⟨fi__law_draw, by kernel_rfl, rfl, rfl, rfl⟩
theorem h__law_low : Has (tabR rows) "_law_low" 2 4 bd__law_low := ⟨fi__law_low, by kernel_rfl, rfl, rfl, rfl⟩
theorem h__law_plus : Has (tabR rows) "_law_plus" 2 2 bd__law_plus := ⟨fi__law_plus, by kernel_rfl, rfl, rfl, rfl⟩
theorem h__law_times : Has (tabR rows) "_law_times" 2 2 bd__law_times := ⟨fi__law_times, by kernel_rfl, rfl, rfl, rfl⟩
theorem h__law_kind : Has (tabR rows) "_law_kind" 1 1 bd__law_kind := ⟨fi__law_kind, by kernel_rfl, rfl, rfl, rfl⟩
theorem h__law_number : Has (tabR rows) "_law_number" 2 3 bd__law_number := ⟨fi__law_number, by kernel_rfl, rfl, rfl, rfl⟩
theorem h__law_other : Has (tabR rows) "_law_other" 2 3 bd__law_other := ⟨fi__law_other, by kernel_rfl, rfl, rfl, rfl⟩
theorem h__law_trim : Has (tabR rows) "_law_trim" 1 2 bd__law_trim := ⟨fi__law_trim, by kernel_rfl, rfl, rfl, rfl⟩
theorem h__law_poly_plus : Has (tabR rows) "_law_poly_plus" 2 6 bd__law_poly_plus := ⟨fi__law_poly_plus, by kernel_rfl, rfl, rfl, rfl⟩
theorem h__law_poly_times : Has (tabR rows) "_law_poly_times" 2 7 bd__law_poly_times := ⟨fi__law_poly_times, by kernel_rfl, rfl, rfl, rfl⟩
theorem h__law_worth : Has (tabR rows) "_law_worth" 2 4 bd__law_worth := ⟨fi__law_worth, by kernel_rfl, rfl, rfl, rfl⟩
theorem h__law_mirrored : Has (tabR rows) "_law_mirrored" 1 3 bd__law_mirrored := ⟨fi__law_mirrored, by kernel_rfl, rfl, rfl, rfl⟩
theorem h__law_drawn_poly : Has (tabR rows) "_law_drawn_poly" 3 4 bd__law_drawn_poly := ⟨fi__law_drawn_poly, by kernel_rfl, rfl, rfl, rfl⟩
theorem h__law_whole : Has (tabR rows) "_law_whole" 1 1 bd__law_whole := ⟨fi__law_whole, by kernel_rfl, rfl, rfl, rfl⟩
theorem h__law_is_number : Has (tabR rows) "_law_is_number" 1 1 bd__law_is_number := ⟨fi__law_is_number, by kernel_rfl, rfl, rfl, rfl⟩
theorem h__law_is_poly : Has (tabR rows) "_law_is_poly" 1 2 bd__law_is_poly := ⟨fi__law_is_poly, by kernel_rfl, rfl, rfl, rfl⟩
theorem h__law_drawn_some : Has (tabR rows) "_law_drawn_some" 2 6 fi__law_drawn_some.body := ⟨fi__law_drawn_some, by kernel_rfl, rfl, rfl, rfl⟩
theorem h__law_moved : Has (tabR rows) "_law_moved" 2 4 bd__law_moved := ⟨fi__law_moved, by kernel_rfl, rfl, rfl, rfl⟩
theorem h__law_sloped : Has (tabR rows) "_law_sloped" 1 3 bd__law_sloped := ⟨fi__law_sloped, by kernel_rfl, rfl, rfl, rfl⟩
theorem h__law_lists_right : Has (tabR rows) "_law_lists_right" 3 6 fi__law_lists_right.body := ⟨fi__law_lists_right, by kernel_rfl, rfl, rfl, rfl⟩
theorem h_law : Has (tabR rows) "law" 1 12 fi_law.body := ⟨fi_law, by kernel_rfl, rfl, rfl, rfl⟩
theorem c_NOUGHT : findC cons "NOUGHT" = some (.tup [.int 0, .int 1]) := by kernel_rfl
theorem x_RestError : exR excl "RestError" = true := by kernel_rfl
theorem x_NoFraction : exR excl "NoFraction" = true := by kernel_rfl
end Lw
namespace Lw
open PySem PySem.Spec PyProof.Rows L2 Py
def top (i : Nat) : Stmt := PySem.Challenge.pw_restward_k03_worths_slopes_shifts.main.body.getD i (.Pass ⟨0, 0, 0, 0⟩)
theorem looks : ∀ r ∈ rows, lookB top (rows.map (·.x)) r = true := List.all_eq_true.mp (by decide +kernel : (rows.all fun r => lookB top (rows.map (·.x)) r) = true)
theorem bcons {top : Nat → Stmt} {r : Py.Row} {rs : List Py.Row} (h : BindR top r) (hs : ∀ r ∈ rs, BindR top r) : ∀ q ∈ r :: rs, BindR top q := fun q hq => by
  cases hq with
  | head => exact h
  | tail _ z => exact hs q z
theorem binds : ∀ r ∈ rows, BindR top r := (bcons (fun _ _ _ _ _ _ us hl => match us, hl with | [_, _], _ => rfl) (bcons (fun _ _ _ _ _ _ us hl => match us, hl with | [_, _], _ => rfl) (bcons (fun _ _ _ _ _ _ us hl => match us, hl with | [_, _], _ => rfl) (bcons (fun _ _ _ _ _ _ us hl => match us, hl with | [_, _], _ => rfl) (bcons (fun _ _ _ _ _ _ us hl => match us, hl with | [_, _], _ => rfl) (bcons (fun _ _ _ _ _ _ us hl => match us, hl with | [_], _ => rfl) (bcons (fun _ _ _ _ _ _ us hl => match us, hl with | [_, _], _ => rfl) (bcons (fun _ _ _ _ _ _ us hl => match us, hl with | [_], _ => rfl) (bcons (fun _ _ _ _ _ _ us hl => match us, hl with | [_, _], _ => rfl) (bcons (fun _ _ _ _ _ _ us hl => match us, hl with | [_, _], _ => rfl) (bcons (fun _ _ _ _ _ _ us hl => match us, hl with | [_, _], _ => rfl) (bcons (fun _ _ _ _ _ _ us hl => match us, hl with | [_, _], _ => rfl) (bcons (fun _ _ _ _ _ _ us hl => match us, hl with | [_, _], _ => rfl) (bcons (fun _ _ _ _ _ _ us hl => match us, hl with | [_], _ => rfl) (bcons (fun _ _ _ _ _ _ us hl => match us, hl with | [_, _], _ => rfl) (bcons (fun _ _ _ _ _ _ us hl => match us, hl with | [_, _], _ => rfl) (bcons (fun _ _ _ _ _ _ us hl => match us, hl with | [_], _ => rfl) (bcons (fun _ _ _ _ _ _ us hl => match us, hl with | [_, _], _ => rfl) (bcons (fun _ _ _ _ _ _ us hl => match us, hl with | [_, _], _ => rfl) (bcons (fun _ _ _ _ _ _ us hl => match us, hl with | [_, _], _ => rfl) (bcons (fun _ _ _ _ _ _ us hl => match us, hl with | [_], _ => rfl) (bcons (fun _ _ _ _ _ _ us hl => match us, hl with | [_, _, _], _ => rfl) (bcons (fun _ _ _ _ _ _ us hl => match us, hl with | [_], _ => rfl) (bcons (fun _ _ _ _ _ _ us hl => match us, hl with | [_], _ => rfl) (bcons (fun _ _ _ _ _ _ us hl => match us, hl with | [_], _ => rfl) (bcons (fun _ _ _ _ _ _ us hl => match us, hl with | [_, _], _ => rfl) (bcons (fun _ _ _ _ _ _ us hl => match us, hl with | [_, _], _ => rfl) (bcons (fun _ _ _ _ _ _ us hl => match us, hl with | [_], _ => rfl) (bcons (fun _ _ _ _ _ _ us hl => match us, hl with | [_, _, _], _ => rfl) (bcons (fun _ _ _ _ _ _ us hl => match us, hl with | [_], _ => rfl) (fun _ h => by cases h)))))))))))))))))))))))))))))))
end Lw
namespace Pl
open PySem Py
local macro_rules | `(tactic| decreasing_trivial_pre_omega) => `(tactic| (first | with_reducible refine x_set ?_ | with_reducible refine x_par2 ?_ | with_reducible refine x_par3 ?_ | with_reducible refine x_ite ?_ | with_reducible refine x_for ?_ | with_reducible refine x_whl ?_ | with_reducible refine x_ret ?_ | with_reducible refine x_retn ?_ | with_reducible refine x_brk ?_ | with_reducible refine x_ct ?_ | with_reducible refine x_pass ?_ | with_reducible refine x_exp ?_ | with_reducible refine x_done ?_ | with_reducible refine nx_nx ?_ | with_reducible refine nx_rt ?_ | with_reducible refine nx_bk ?_ | with_reducible refine nx_ct ?_ | with_reducible refine lp_nx ?_ | with_reducible refine lp_ct ?_ | with_reducible refine lp_bk ?_ | with_reducible refine lp_rt ?_ | with_reducible refine jn_nx ?_ | with_reducible refine jn_rt ?_ | with_reducible refine fn_nx ?_ | with_reducible refine fn_rt ?_ | with_reducible refine e_int ?_ | with_reducible refine e_bl ?_ | with_reducible refine e_non ?_ | with_reducible refine e_str ?_ | with_reducible refine e_bin ?_ | with_reducible refine e_neg ?_ | with_reducible refine e_no ?_ | with_reducible refine e_cmp ?_ | with_reducible refine e_chain ?_ | with_reducible refine e_and ?_ | with_reducible refine e_or ?_ | with_reducible refine e_one ?_ | with_reducible refine e_ite ?_ | with_reducible refine e_tup ?_ | with_reducible refine e_lst ?_ | with_reducible refine e_ix ?_ | with_reducible refine e_sl ?_ | with_reducible refine e_rv ?_ | with_reducible refine e_call ?_ | with_reducible refine e_bi ?_ | with_reducible refine e_mt ?_ | with_reducible refine e_isi ?_ | with_reducible refine e_comp ?_ | with_reducible refine es_nil ?_ | with_reducible refine es_cons ?_ | with_reducible refine eo_nil ?_ | with_reducible refine eo_one ?_ | with_reducible refine t_and ?_ | with_reducible refine t_or ?_ | with_reducible refine t_no ?_ | with_reducible refine t_one ?_ | with_reducible refine t_nil ?_ | with_reducible refine t_cmp ?_ | with_reducible refine t_chain ?_ | with_reducible refine t_call ?_ | with_reducible refine t_bi ?_ | with_reducible refine t_isi ?_ | with_reducible refine x_asg ?_ | with_reducible refine a_sub ?_ | with_reducible refine o_add ?_ | with_reducible refine o_sub ?_ | with_reducible refine o_adb ?_ | with_reducible refine o_lt ?_ | with_reducible refine o_le ?_ | with_reducible refine o_gt ?_ | with_reducible refine o_ge ?_ | with_reducible refine o_eqi ?_ | with_reducible refine o_nei ?_ | with_reducible refine o_isN ?_ | with_reducible refine o_notN ?_ | with_reducible refine o_isB ?_ | with_reducible refine o_notB ?_ | with_reducible refine o_abs ?_ | with_reducible refine o_int ?_ | with_reducible refine o_intb ?_ | with_reducible refine o_max ?_ | with_reducible refine o_min ?_ | with_reducible refine o_neg ?_ | with_reducible refine o_lent ?_ | with_reducible refine ex_bl ?_ | with_reducible refine ex_int ?_ | with_reducible refine bq ?_ | with_reducible refine tq ?_ | with_reducible refine r_ok ?_ | ((with_reducible apply e_var); exact rfl) | ((with_reducible apply x_add); exact rfl) | ((with_reducible apply x_sub); exact rfl) | ((with_reducible apply o_ixt); exact rfl) | ((with_reducible apply o_isi); exact rfl) | ((with_reducible apply t_len); exact rfl) | ((with_reducible apply o_ix); assumption; exact rfl) | ((with_reducible apply e_con); rw [gc]; assumption) | ((with_reducible apply o_len); assumption) | ((with_reducible apply o_list); assumption) | ((with_reducible apply o_tuple); assumption) | ((with_reducible apply o_sl); assumption)))
section
variable {k n : Nat} {s : Sto} {Z : EK} {Q : QK W} {u : Nat}
abbrev g03 (k : Nat) : G := gam (tabR Lw.rows) (findC Lw.cons) (exR Lw.excl) k
theorem frac : Frac (tabR Lw.rows) := ⟨Lw.h_fraction, Lw.h_shared_divisor⟩
structure D3 (u : Nat) (s s' : Sto) (m l z : Nat) (p : List Rat) : Prop where
  at_ : s'[m]? = some (pW p)
  ne : m ≠ u
  urn : Urn s' u
  fr : Fr (At u) s s'
  sz : Sp z p
  tr : trim p = p
  len : p.length ≤ l
theorem drawn_some_wp (hu : Urn s u) {kd : Int} (q : ∀ p m s', D3 u s s' m 15 40 p → Q (.loc m) s') : ((g03 (k + 5)).call "_law_drawn_some" [.loc u, .int kd] s).wp Q Z := by
  refine Lw.h__law_drawn_some.wp rfl ?_
  unfold Lw.fi__law_drawn_some
  (repeat decreasing_trivial_pre_omega)
  refine draw_wp Lw.h__law_draw hu (by decide) (by decide) fun way s1 d0 d1 hu1 f1 l1 => ?_
  (repeat decreasing_trivial_pre_omega)
  refine drawn_poly_wp Lw.h__law_draw Lw.h__law_low Lw.h__law_number Lw.h__law_other Lw.h__law_drawn_poly hu1 (by decide) (by decide) fun p a s2 pn dp => ?_
  have na : a ≠ u := by
    have := dp.ge
    have := hu1.lt
    omega
  have hul := dp.urn.lt
  have lp : p.length ≤ 15 := dp.len
  have F2 := f1.trans dp.fr
  have hL : lsq (.loc a) s2 = some (pW p) := dp.at_
  (repeat decreasing_trivial_pre_omega)
  refine ⟨fun _ => ?_, fun _ => ?_⟩
  · (repeat decreasing_trivial_pre_omega)
    exact q [] _ _ ⟨get_end, by omega, dp.urn.keep (Fr.app (U := No) _ _) (fun z => z), F2.trans (Fr.app _ _), (fun r hr => (List.not_mem_nil hr).elim), rfl, Nat.zero_le _⟩
  (repeat decreasing_trivial_pre_omega)
  refine ⟨fun _ => ?_, fun _ => ?_⟩
  · obtain ⟨r, x, rfl, hx⟩ := ne_trim dp.tr pn
    rw [List.length_append, List.length_singleton] at lp
    have hL1 : lsq (.loc a) (s2 ++ [[nW 0]]) = some (pW (r ++ [x])) := get_app hL
    (repeat decreasing_trivial_pre_omega)
    have el : ((pW (r ++ [x])).length : Int) - 1 = (r.length : Int) := by rw [List.length_map, List.length_append, List.length_singleton]; omega
    rw [el]
    refine o_rep (xs := [nW 0]) get_end (by omega) (by rw [Int.toNat_natCast, List.length_singleton, Nat.one_mul]; exact sl (by omega)) ?_
    rw [Int.toNat_natCast]
    have er : (List.replicate r.length [nW 0]).flatten = pW (List.replicate r.length 0) := by
      generalize r.length = m
      induction m with
      | zero => rfl
      | succ m ih =>
        rw [List.replicate_succ, List.flatten_cons, ih]
        rfl
    rw [er]
    have hL2 : lsq (.loc a) ((s2 ++ [[nW 0]]) ++ [pW (List.replicate r.length 0)]) = some (pW r ++ [nW x]) := by
      rw [pW_snoc]
      exact get_app hL1
    (repeat decreasing_trivial_pre_omega)
    refine o_ix hL2 atW_last ?_
    (repeat decreasing_trivial_pre_omega)
    refine o_cat (get_app get_end) get_end (by simp; exact sl (by omega)) ?_
    (repeat decreasing_trivial_pre_omega)
    rw [pW_snoc]
    refine q (List.replicate r.length 0 ++ [x]) _ _ ⟨get_end, ?_, ?_, F2.trans ((Fr.app _ _).trans ((Fr.app _ _).trans ((Fr.app _ _).trans (Fr.app _ _)))), fun y hy => ?_, trim_last hx _, by simp; omega⟩
    · simp
      omega
    · exact dp.urn.keep ((Fr.app (U := No) _ _).trans ((Fr.app _ _).trans ((Fr.app _ _).trans (Fr.app _ _)))) (fun z => z)
    · rcases List.mem_append.mp hy with h | h
      · rw [List.eq_of_mem_replicate h]
        exact Sz.zero.mono (by decide)
      · rw [List.mem_singleton.mp h]
        exact dp.sz _ (List.mem_append_right _ List.mem_cons_self)
  (repeat decreasing_trivial_pre_omega)
  refine ⟨fun _ => ?_, fun _ => ?_⟩
  · (repeat decreasing_trivial_pre_omega)
    refine ⟨_, src_enu hL, ?_⟩
    refine comp_pure (n := p.length) (v := fun i => nW (if (p.length - 1 - i) % 2 = 0 then at0 p i else 0)) (sz_big (i := 0) (sl (by omega))) (sl (by omega)) (fun j hj => ⟨_, (it_enu hL).trans (by rw [pW_get hj]; rfl), ?_⟩) ((it_enu hL).trans (by rw [List.getElem?_eq_none (by rw [List.length_map]; exact Nat.le_refl _)]; rfl)) ?_
    · refine compF_wp rfl ?_
      (repeat decreasing_trivial_pre_omega)
      refine ⟨fun _ => ?_, fun z => by cases z⟩
      (repeat decreasing_trivial_pre_omega)
      refine o_mod (by decide) ?_
      (repeat decreasing_trivial_pre_omega)
      have e : ((pW p).length : Int) - 1 - (j : Int) = ((p.length - 1 - j : Nat) : Int) := by rw [List.length_map]; omega
      have e2 : ((p.length - 1 - j : Nat) : Int).fmod 2 = (((p.length - 1 - j) % 2 : Nat) : Int) := (Int.ofNat_fmod _ 2).symm
      rw [e, e2]
      refine ⟨fun z => ?_, fun z => ?_⟩
      · have z := of_decide_eq_true z
        (repeat decreasing_trivial_pre_omega)
        rw [if_pos (by omega), at0_get hj]
        exact ⟨rfl, rfl⟩
      · have z := of_decide_eq_false z
        (repeat decreasing_trivial_pre_omega)
        rw [if_neg (by omega)]
        exact ⟨rfl, rfl⟩
    · rw [map_pW]
      (repeat decreasing_trivial_pre_omega)
      refine q _ _ _ ⟨get_end, by omega, dp.urn.keep (Fr.app (U := No) _ _) (fun z => z), F2.trans (Fr.app _ _), Sp.range fun i hi => ?_, trim_of_last fun hp => ?_, by simp; omega⟩
      · split
        · exact dp.sz.at0 (by decide) i
        · exact Sz.zero.mono (by decide)
      · have p1 : 0 < p.length := List.length_pos_iff.mpr pn
        rw [List.length_map, List.length_range, range_at, if_pos (by omega), if_pos (by rw [Nat.sub_self])]
        exact last_of_trim dp.tr pn
  · (repeat decreasing_trivial_pre_omega)
    exact q p a s2 ⟨dp.at_, na, dp.urn, F2, dp.sz, dp.tr, lp⟩
theorem neg_W (c : Rat) : W.tup [.int (0 - c.num), .int c.den] = nW (-c) := by
  rw [Int.zero_sub]
  rfl
theorem Sz.neg {n : Nat} {c : Rat} (h : Sz n c) : Sz n (-c) := ⟨by
  show (-c.num).natAbs < 2 ^ n
  rw [Int.natAbs_neg]
  exact h.num, h.den⟩
theorem SH_sp {z b : Nat} {p : List Rat} {c : Rat} (sp : Sp z p) (sc : Sz b c) : Sp (p.length + (z + z * p.length) + b * p.length + 1) (SH c p) := fun x hx => by
  obtain ⟨i, hi, rfl⟩ := mem_at0 hx
  rw [SH_len] at hi
  have hE : 0 < c.den := Nat.pos_of_ne_zero c.den_nz
  have := suf_AP (n := p.length) (Y := 2 ^ b) (c := c) (K := 2 ^ z * prodDen p) (prodDen_pos p) hE (Nat.le_of_lt sc.num) (Rat.num_divInt_den c) p (Nat.le_refl _) (fun x hx i => Px.of_mem sp hx hE (Nat.le_of_lt sc.den)) i hi
  exact this.sz sp (Nat.le_refl _) (Nat.le_of_lt sc.den)
theorem back_wp {a : Nat} {c : Rat} {p : List Rat} (ha : s[a]? = some (pW (SH c p))) (sp : Sp 163 p) (sc : Sz 40 c) (hl : p.length ≤ 15) (q : ∀ m s', Nw s s' m (pW p) → Q (.loc m) s') : ((g03 (k + 4)).call "shifted" [.loc a, nW (-c)] s).wp Q Z := by
  have hE : 0 < c.den := Nat.pos_of_ne_zero c.den_nz
  have hEY : c.den ≤ 2 ^ 40 := Nat.le_of_lt sc.den
  have dl := prodDen_le sp
  have hd : prodDen p ≤ 2 ^ 2445 := Nat.le_trans dl (Nat.pow_le_pow_right (by decide) (by omega))
  have yn : (2 ^ 40) ^ p.length ≤ 2 ^ 600 := by
    rw [← Nat.pow_mul]
    exact Nat.pow_le_pow_right (by decide) (by omega)
  have en : c.den ^ p.length ≤ 2 ^ 600 := Nat.le_trans (Nat.pow_le_pow_left hEY _) yn
  have A := suf_AP (n := p.length) (Y := 2 ^ 40) (c := c) (K := 2 ^ 163 * prodDen p) (prodDen_pos p) hE (Nat.le_of_lt sc.num) (Rat.num_divInt_den c) p (Nat.le_refl _) (fun x hx i => Px.of_mem sp hx hE hEY)
  have lS := SH_len c p
  refine shifted_gen (kb := 3223) (b := 40) (N := 4200) (D := prodDen p * c.den ^ p.length) (K := 2 ^ p.length * (2 ^ 163 * prodDen p) * (2 ^ 40) ^ p.length) frac Lw.h_plus Lw.h_times Lw.h_shifted ha (Nat.mul_pos (prodDen_pos p) (Nat.pow_pos hE)) ?_ ?_ sc.neg (by decide) (fun i hi => ?_) ?_ (by decide) (by omega) fun m s' N => ?_
  · refine Nat.le_trans (Nat.mul_le_mul hd en) ?_
    rw [← Nat.pow_add]
    exact Nat.pow_le_pow_right (by decide) (by decide)
  · refine Nat.le_trans (Nat.mul_le_mul (Nat.mul_le_mul (Nat.pow_le_pow_right (by decide) hl) (Nat.mul_le_mul_left _ hd)) yn) ?_
    rw [← Nat.pow_add, ← Nat.pow_add, ← Nat.pow_add]
    exact Nat.pow_le_pow_right (by decide) (by decide)
  · rw [lS] at hi ⊢
    have := A i hi
    rw [Nat.sub_self, Nat.zero_add] at this
    exact this.flat hE hEY (by omega) i
  · rw [lS]
    have : p.length * p.length ≤ 15 * 15 := Nat.mul_le_mul hl hl
    omega
  · rw [SH_back] at N
    exact q m s' N
theorem lists_right_wp {h d d1 d2 d3 : Nat} {c : Rat} {p : List Rat} (hh : s[h]? = some (pW p)) (hd : s[d]? = some ([d1, d2, d3].map W.loc)) (LD : LL s [d1, d2, d3] [slp p, SH c p, mir p]) (sp : Sp 163 p) (sc : Sz 40 c) (tp : trim p = p) (hl : p.length ≤ 15) (q : ∀ s', Fr No s s' → Q (.bl true) s') :
    ((g03 (k + 5)).call "_law_lists_right" [.loc h, nW c, .loc d] s).wp Q Z := by
  refine Lw.h__law_lists_right.wp rfl ?_
  unfold Lw.fi__law_lists_right
  have hL : lsq (.loc h) s = some (pW p) := hh
  have sl2 : Sp 326 (slp p) := Sp.range fun i hi => ((Sz.nat (m := 25) (by omega) (by decide)).mul (sp.at0 (by decide) (i + 1)) (by decide)).mono (by decide)
  have sm : Sp 164 (mir p) := Sp.range fun i hi => ((sg_sz i).mul (sp.at0 (by decide) i) (by decide))
  have ss : Sp 3300 (SH c p) := (SH_sp sp sc).mono (by omega)
  have hP : ∀ r ∈ [slp p, SH c p, mir p], Sp 3300 r ∧ trim r = r ∧ r.length ≤ 8000000 := fun r hr => by
    simp only [List.mem_cons, List.not_mem_nil, or_false] at hr
    rcases hr with rfl | rfl | rfl
    · exact ⟨sl2.mono (by decide), slp_trim tp, by simp [slp]; omega⟩
    · exact ⟨ss, SH_trim c tp, by rw [SH_len]; omega⟩
    · exact ⟨sm.mono (by decide), mir_trim tp, by simp [mir]; omega⟩
  (repeat decreasing_trivial_pre_omega)
  refine slope_wp (n := 163) frac Lw.h_times Lw.h_slope hL (by omega) sp (by decide) (by decide) fun m1 s1 N1 => ?_
  (repeat decreasing_trivial_pre_omega)
  refine shifted_wp (z := 163) (b := 40) (N := 3600) frac Lw.h_plus Lw.h_times Lw.h_shifted (N1.fr.keep hh) sp sc (by decide) (by
    have : p.length * p.length ≤ 15 * 15 := Nat.mul_le_mul hl hl
    omega) (by decide) (by omega) fun m2 s2 N2 => ?_
  (repeat decreasing_trivial_pre_omega)
  have F2 := N1.fr.trans N2.fr
  refine mirrored_wp (n := 163) frac Lw.h_times Lw.h_mirrored (show lsq (.loc h) s2 = _ from F2.keep hh) (by omega) sp (by decide) (by decide) fun m3 s3 N3 => ?_
  have F3 := F2.trans N3.fr
  have LT : LL s3 [m1, m2, m3] [slp p, SH c p, mir p] := ⟨(N2.fr.trans N3.fr).keep N1.at_, N3.fr.keep N2.at_, N3.at_, trivial⟩
  have ge1 := N1.ge
  have ge2 := N2.ge
  have ge3 := N3.ge
  have l1 := N1.fr.len
  have l2 := N2.fr.len
  have lt1 := get_lt LT.1
  have lt2 := get_lt LT.2.1
  have lt3 := get_lt LT.2.2.1
  (repeat decreasing_trivial_pre_omega)
  have fT : (s3 ++ [[W.loc m1, .loc m2, .loc m3]])[s3.length]? = some ([m1, m2, m3].map W.loc) := get_end
  have F4 := F3.trans (Fr.app (U := No) s3 [[W.loc m1, .loc m2, .loc m3]])
  have LT4 := LT.keep (Fr.app (U := No) s3 [[W.loc m1, .loc m2, .loc m3]]) (fun _ _ z => z)
  have hT : s3.length ∉ [m1, m2, m3] := by simp; omega
  have hTs : s.length ≤ s3.length := F3.len
  generalize s3.length = T at fT hT hTs ⊢
  generalize s3 ++ [[W.loc m1, .loc m2, .loc m3]] = s4 at fT F4 LT4 ⊢
  refine ⟨_, src_li (show lsq (.loc T) s4 = _ from fT), ?_⟩
  refine allpoly_wp (n := 3300) Lw.h__law_low Lw.h__law_whole Lw.h__law_is_number Lw.h__law_trim Lw.h__law_is_poly (fun w => ⟨_, rfl, rfl⟩) fT LT4 hP (by decide) (by simp) fun s5 f5 => ?_
  refine o_all (show lsq (.loc s5.length) _ = _ from get_end) (bools_all _) ?_
  rw [all_true]
  (repeat decreasing_trivial_pre_omega)
  refine ⟨(fun z => by cases z), fun _ => ?_⟩
  have f6 := f5.trans (Fr.app (U := No) s5 [(List.range [m1, m2, m3].length).map fun _ => W.bl true])
  generalize s5 ++ [(List.range [m1, m2, m3].length).map fun _ => W.bl true] = s6 at f6
  have F6 := F4.trans f6
  have LT6 := LT4.keep f6 (fun _ _ z => z)
  have LD6 := LD.keep F6 (fun _ _ z => z)
  (repeat decreasing_trivial_pre_omega)
  refine o_ne (LL.eqW (ms := [m1, m2, m3]) (ds := [d1, d2, d3]) (f6.keep fT) (F6.keep hd) LT6 LD6) ?_
  (repeat decreasing_trivial_pre_omega)
  refine ⟨(fun z => by cases z), fun _ => ?_⟩
  have hd6 : lsq (.loc d) s6 = some [W.loc d1, .loc d2, .loc d3] := F6.keep hd
  have e1 : lsq (.loc d2) s6 = some (pW (SH c p)) := LD6.2.1
  (repeat decreasing_trivial_pre_omega)
  rw [neg_W]
  refine back_wp (k := k) get_end sp sc hl fun b1 s7 N7 => ?_
  have f7 : Fr No s6 s7 := (Fr.app _ _).trans N7.fr
  have F7 := F6.trans f7
  have hd7 : lsq (.loc d) s7 = some [W.loc d1, .loc d2, .loc d3] := F7.keep hd
  have e2 : lsq (.loc d3) s7 = some (pW (mir p)) := f7.keep LD6.2.2.1
  (repeat decreasing_trivial_pre_omega)
  refine mirrored_wp (n := 164) frac Lw.h_times Lw.h_mirrored (show lsq (.loc s7.length) _ = _ from get_end) (by simp [mir]; omega) sm (by decide) (by decide) fun b2 s8 N8 => ?_
  rw [mir_mir] at N8
  have f8 : Fr No s7 s8 := (Fr.app _ _).trans N8.fr
  (repeat decreasing_trivial_pre_omega)
  have fB : (s8 ++ [[W.loc b1, .loc b2]])[s8.length]? = some ([b1, b2].map W.loc) := get_end
  have f9 : Fr No s6 (s8 ++ [[W.loc b1, .loc b2]]) := f7.trans (f8.trans (Fr.app _ _))
  have LB : LL (s8 ++ [[W.loc b1, .loc b2]]) [b1, b2] [p, p] := ⟨get_app (f8.keep N7.at_), get_app N8.at_, trivial⟩
  have g7 := N7.ge
  have g8 := N8.ge
  have hs6 : m1 < s6.length ∧ m2 < s6.length ∧ m3 < s6.length := ⟨get_lt LT6.1, get_lt LT6.2.1, get_lt LT6.2.2.1⟩
  have ls6 := (Fr.app (U := No) s6 [pW (SH c p)]).len
  have ls7 := f7.len
  have ls8 := f8.len
  rw [List.length_append] at g8 g7
  have nb1 : b1 ∉ [m1, m2, m3] := by simp at g7 ⊢; omega
  have nb2 : b2 ∉ [m1, m2, m3] := by simp at g8 ⊢; omega
  have nB : s8.length ∉ [m1, m2, m3] := by simp; omega
  have F9 := F6.trans f9
  have LT9 := LT6.keep f9 (fun _ _ z => z)
  generalize s8.length = B at fB nB ⊢
  generalize s8 ++ [[W.loc b1, .loc b2]] = s9 at fB f9 LB F9 LT9 ⊢
  have fT9 : s9[T]? = some ([m1, m2, m3].map W.loc) := f9.keep (f6.keep fT)
  refine ⟨_, src_li (show lsq (.loc T) s9 = _ from fT9), ?_⟩
  refine appends_wp (ms := [m1, m2, m3]) (c := 8000000) (x := .tup [.int 3, .int 1]) (fun e => ∃ x, e = [some (.loc h), some (nW c), some (.loc d), some (.loc T), some (.loc B), x]) (by show 8000000 + 3 < 16777216; omega) (fun e w s' Q' hJ hw hq => ?_) fT9 hT (fun m hm => ?_) ⟨_, rfl⟩ fun e' s' hJ f => ?_
  · obtain ⟨x, rfl⟩ := hJ
    obtain ⟨m, rfl, ws, h1, h2⟩ := hw
    show (exS (g03 (k + 4)) _ [some (.loc h), some (nW c), some (.loc d), some (.loc T), some (.loc B), some (.loc m)] s').wp _ _
    (repeat decreasing_trivial_pre_omega)
    refine ⟨by
      show (s'[m]?).isSome = true
      rw [h1]
      rfl, ?_⟩
    (repeat decreasing_trivial_pre_omega)
    refine o_append h1 h2 ?_
    (repeat decreasing_trivial_pre_omega)
    exact hq _ _ _ ⟨_, rfl⟩ rfl h1
  · obtain ⟨j, hj, e⟩ := List.mem_iff_getElem.mp hm
    obtain ⟨r, h1, h2⟩ := LT9.get hj
    rw [e] at h2
    exact ⟨_, h2, by rw [List.length_map]; exact (hP r h1).2.2⟩
  · obtain ⟨x, rfl⟩ := hJ
    have G : Fr No s s' := F9.memge f (fun m hm => by
      simp only [List.mem_cons, List.not_mem_nil, or_false] at hm
      omega)
    have LB' := LB.keep f (fun m hm => by
      simp only [List.mem_cons, List.not_mem_nil, or_false] at hm
      rcases hm with rfl | rfl
      · exact nb1
      · exact nb2)
    (repeat decreasing_trivial_pre_omega)
    have f10 := Fr.app (U := No) s' [[W.loc h, .loc h]]
    refine o_eq (LL.eqW (ms := [b1, b2]) (ds := [h, h]) (ps := [p, p]) (f10.keep (f.get _ _ nB fB)) get_end (LB'.keep f10 (fun _ _ z => z)) ⟨f10.keep (G.keep hh), f10.keep (G.keep hh), trivial⟩) ?_
    (repeat decreasing_trivial_pre_omega)
    exact q _ (G.trans f10)
def q72 : Rat := ⟨7, 2, by decide, by decide⟩
def J3 (ns : List Int) (u : Nat) (s : Sto) (at_ kd way : Int) (z : Nat) (r8 r9 r10 r11 r12 : Option W) : Sl → Sto → Prop := fun e s' => ∃ m p c, e = [some (.cl (ns.map W.int)), some (.int at_), some (.loc u), some (.int kd), some (.int way), some (.loc m), some (nW c), r8, r9, r10, r11, r12] ∧ D3 u s s' m 15 z p ∧ Sz 40 c
theorem law_ok (ns : List Int) (hl : ns.length ≤ 63) : ∃ s', (g03 (39 + 1)).call "law" [.cl (ns.map W.int)] [] = .ok (.bl true) s' := by
  refine law_call (m := 10) Lw.h_law ?_
  unfold Lw.fi_law
  refine law_for (c := 4) (by decide) (by decide) (m := 10) fun at_ r s h0 h8 hr => ?_
  obtain ⟨r1, r2, r3, r4, r5, r6, r7, r8, r9, r10, rfl⟩ : ∃ r1 r2 r3 r4 r5 r6 r7 r8 r9 r10, r = [r1, r2, r3, r4, r5, r6, r7, r8, r9, r10] := by
    match r, hr with
    | [r1, r2, r3, r4, r5, r6, r7, r8, r9, r10], _ => exact ⟨r1, r2, r3, r4, r5, r6, r7, r8, r9, r10, rfl⟩
  (repeat decreasing_trivial_pre_omega)
  refine urn_wp Lw.h__law_urn h0 h8 hl fun s1 hu1 f1 l1 => ?_
  generalize s.length = u at hu1 ⊢
  (repeat decreasing_trivial_pre_omega)
  refine kind_wp Lw.h__law_draw Lw.h__law_kind hu1 fun kd s2 _ hu2 f2 => ?_
  (repeat decreasing_trivial_pre_omega)
  refine draw_wp Lw.h__law_draw hu2 (by decide) (by decide) fun way s3 w0 w6 hu3 f3 l3 => ?_
  (repeat decreasing_trivial_pre_omega)
  refine drawn_some_wp (k := 34) hu3 fun p m s4 D => ?_
  (repeat decreasing_trivial_pre_omega)
  refine number_wp Lw.h__law_draw Lw.h__law_low Lw.h__law_number D.urn fun c s5 hc hu5 f5 => ?_
  have D5 : D3 u s3 s5 m 15 40 p := ⟨f5.get _ _ D.ne D.at_, D.ne, hu5, D.fr.trans f5, D.sz, D.tr, D.len⟩
  refine ite_join (J3 ns u s3 at_ kd way 40 r6 r7 r8 r9 r10) ?_ fun e s6 hI => ?_
  · (repeat decreasing_trivial_pre_omega)
    refine ⟨fun z => ?_, fun _ => ?_⟩
    · have z := of_decide_eq_true z
      have D6 : ∀ t, D3 u s3 (s5 ++ [t]) m 15 40 p := fun t => ⟨get_app D5.at_, D5.ne, hu5.keep (Fr.app (U := No) _ _) (fun z => z), D5.fr.trans (Fr.app _ _), D5.sz, D5.tr, D5.len⟩
      (repeat decreasing_trivial_pre_omega)
      have : way = 0 ∨ way = 1 ∨ way = 2 := by omega
      rcases this with rfl | rfl | rfl
      · refine o_ix (show lsq (.loc s5.length) _ = _ from get_end) rfl ?_
        (repeat decreasing_trivial_pre_omega)
        exact ⟨m, p, 0, rfl, D6 _, Sz.zero.mono (by decide)⟩
      · refine o_ix (show lsq (.loc s5.length) _ = _ from get_end) rfl ?_
        (repeat decreasing_trivial_pre_omega)
        exact ⟨m, p, 1, rfl, D6 _, Sz.one.mono (by decide)⟩
      · refine o_ix (show lsq (.loc s5.length) _ = _ from get_end) rfl ?_
        (repeat decreasing_trivial_pre_omega)
        exact ⟨m, p, -1, rfl, D6 _, (Sz.neg Sz.one).mono (by decide)⟩
    · (repeat decreasing_trivial_pre_omega)
      exact ⟨m, p, c, rfl, D5, hc⟩
  clear D5 hc D
  obtain ⟨m, p, c, rfl, D, hc⟩ := hI
  refine ite_join (J3 ns u s3 at_ kd way 163 r6 r7 r8 r9 r10) ?_ fun e s7 hI => ?_
  · have hL : lsq (.loc m) s6 = some (pW p) := D.at_
    have no : D3 u s3 s6 m 15 163 p := ⟨D.at_, D.ne, D.urn, D.fr, D.sz.mono (by decide), D.tr, D.len⟩
    (repeat decreasing_trivial_pre_omega)
    refine ⟨fun z => ?_, fun _ => ⟨(fun z => by cases z), fun _ => ?_⟩⟩
    · (repeat decreasing_trivial_pre_omega)
      rw [List.length_map]
      refine ⟨fun z => ?_, fun _ => ?_⟩
      · have z := of_decide_eq_true z
        (repeat decreasing_trivial_pre_omega)
        rw [neg_W]
        have s2 : Sp 40 [-c, 1] := fun x hx => by
          simp only [List.mem_cons, List.not_mem_nil, or_false] at hx
          rcases hx with rfl | rfl
          · exact hc.neg
          · exact Sz.one.mono (by decide)
        have t2 : trim [-c, 1] = [-c, 1] := trim_last (show (1 : Rat) ≠ 0 by decide) [-c]
        refine lpoly_times_wp (k := 36) (n := 40) (N := 1300) (p := p) (q := [-c, 1]) Lw.h__law_low Lw.h__law_trim Lw.h__law_plus Lw.h__law_times Lw.h__law_poly_times (get_app D.at_) get_end D.sz s2 (by decide) (by omega) (by decide) (by decide) (by omega) (by simp) fun t s8 N8 => ?_
        rw [pmul_trim D.tr t2] at N8
        have f8 : Fr No s6 s8 := (Fr.app _ _).trans N8.fr
        have g8 := N8.ge
        have lu := D.urn.lt
        rw [List.length_append] at g8
        (repeat decreasing_trivial_pre_omega)
        refine ⟨t, _, c, rfl, ⟨N8.at_, by omega, D.urn.keep f8 (fun z => z), D.fr.trans f8.any, ?_, pmul_trim D.tr t2, ?_⟩, hc⟩
        · rw [pmul_comm]
          exact s2.pmul D.sz (by decide)
        · have := pmul_len p [-c, 1]
          simp at this
          omega
      · (repeat decreasing_trivial_pre_omega)
        exact ⟨m, p, c, rfl, no, hc⟩
    · (repeat decreasing_trivial_pre_omega)
      exact ⟨m, p, c, rfl, no, hc⟩
  clear D hc
  obtain ⟨m, p, c, rfl, D, hc⟩ := hI
  have hl15 := D.len
  have hL : lsq (.loc m) s7 = some (pW p) := D.at_
  (repeat decreasing_trivial_pre_omega)
  have fh : (s7 ++ [pW p])[s7.length]? = some (pW p) := get_end
  have fm : (s7 ++ [pW p])[m]? = some (pW p) := get_app D.at_
  generalize s7.length = h at fh ⊢
  generalize s7 ++ [pW p] = s8 at fh fm ⊢
  refine lsloped_wp (n := 163) Lw.h__law_low Lw.h__law_times Lw.h__law_sloped (show lsq (.loc m) s8 = _ from fm) (by omega) D.sz (by decide) (by decide) fun d1 s9 N1 => ?_
  (repeat decreasing_trivial_pre_omega)
  refine lmoved_wp (k := 35) (z := 163) (b := 40) (N := 3600) Lw.h__law_low Lw.h__law_trim Lw.h__law_plus Lw.h__law_times Lw.h__law_poly_plus Lw.h__law_poly_times Lw.h__law_moved (N1.fr.keep fm) D.sz hc (by decide) (by omega) (by decide) (by omega) fun d2 s10 N2 => ?_
  rw [SH_trim c D.tr] at N2
  (repeat decreasing_trivial_pre_omega)
  have F2 := N1.fr.trans N2.fr
  refine lmirrored_wp (n := 163) Lw.h__law_mirrored (p := p) (fun s' f => show lsq (.loc m) s' = _ from f.keep (F2.keep fm)) (by omega) D.sz (by decide) (by decide) fun d3 s11 N3 => ?_
  have F3 := F2.trans N3.fr
  have LD : LL s11 [d1, d2, d3] [slp p, SH c p, mir p] := ⟨(N2.fr.trans N3.fr).keep N1.at_, N3.fr.keep N2.at_, N3.at_, trivial⟩
  (repeat decreasing_trivial_pre_omega)
  have f12 := Fr.app (U := No) s11 [[W.loc d1, .loc d2, .loc d3]]
  have fd : (s11 ++ [[W.loc d1, .loc d2, .loc d3]])[s11.length]? = some ([d1, d2, d3].map W.loc) := get_end
  have LD' := LD.keep f12 (fun _ _ z => z)
  have fh' := (F3.trans f12).keep fh
  have fm' := (F3.trans f12).keep fm
  generalize s11.length = d at fd ⊢
  generalize s11 ++ [[W.loc d1, .loc d2, .loc d3]] = s12 at fd LD' fh' fm' ⊢
  refine ⟨_, src_r1 (by decide), ?_⟩
  refine for_wp 2 (fun i e s' => ∃ x y z, e = [some (.cl (ns.map W.int)), some (.int at_), some (.loc u), some (.int kd), some (.int way), some (.loc m), some (nW c), some (.loc h), some (.loc d), x, y, z] ∧ Fr No s12 s') (fun i e s' hi hI => ?_) (fun e s' hI => ?_) big 0 _ s12 (by decide) (by decide) ⟨_, _, _, rfl, Fr.refl _⟩
  · obtain ⟨x, y, z, rfl, G⟩ := hI
    refine ⟨_, it_rng hi, ?_⟩
    show (exS (g03 39) _ [some (.cl (ns.map W.int)), some (.int at_), some (.loc u), some (.int kd), some (.int way), some (.loc m), some (nW c), some (.loc h), some (.loc d), some (.int (0 + (i : Nat) * 1)), y, z] s').wp _ _
    (repeat decreasing_trivial_pre_omega)
    have fx : (s' ++ [[nW c, .tup [.int 0, .int 1], .tup [.int 7, .int 2]]])[s'.length]? = some (pW [c, 0, q72]) := get_end
    have G1 := G.trans (Fr.app (U := No) s' [[nW c, .tup [.int 0, .int 1], .tup [.int 7, .int 2]]])
    generalize s'.length = X at fx ⊢
    generalize s' ++ [[nW c, .tup [.int 0, .int 1], .tup [.int 7, .int 2]]] = s13 at fx G1 ⊢
    have hX : lsq (.loc X) s13 = some (pW [c, 0, q72]) := fx
    have sX : Sp 40 [c, 0, q72] := fun x hx => by
      simp only [List.mem_cons, List.not_mem_nil, or_false] at hx
      rcases hx with rfl | rfl | rfl
      · exact hc
      · exact Sz.zero.mono (by decide)
      · exact ⟨by decide, by decide⟩
    refine ⟨_, src_li hX, ?_⟩
    refine for_wp 3 (fun j e s'' => ∃ y z, e = [some (.cl (ns.map W.int)), some (.int at_), some (.loc u), some (.int kd), some (.int way), some (.loc m), some (nW c), some (.loc h), some (.loc d), some (.int (0 + (i : Nat) * 1)), y, z] ∧ s'' = s13) (fun j e s'' hj hJ => ?_) (fun e s'' hJ => ?_) big 0 _ s13 (by decide) (by decide) ⟨_, _, rfl, rfl⟩
    · obtain ⟨y, z, rfl, rfl⟩ := hJ
      have hj3 : j < [c, 0, q72].length := hj
      refine ⟨_, (it_li hX).trans (by rw [pW_get hj3]), ?_⟩
      have sx := sX _ (List.getElem_mem hj3)
      generalize [c, 0, q72][j] = x at sx ⊢
      show (exS (g03 39) _ [some (.cl (ns.map W.int)), some (.int at_), some (.loc u), some (.int kd), some (.int way), some (.loc m), some (nW c), some (.loc h), some (.loc d), some (.int (0 + (i : Nat) * 1)), some (nW x), z] s'').wp _ _
      (repeat decreasing_trivial_pre_omega)
      refine wp_of_eq (worth_eq (n := 163) (m := 40) (N := 3200) frac Lw.c_NOUGHT Lw.h_plus Lw.h_times Lw.h_worth (show lsq (.loc h) s'' = _ from G1.keep fh') (sl (by omega)) D.sz sx (by omega) (by decide) (by decide)) ?_
      (repeat decreasing_trivial_pre_omega)
      refine wp_of_eq (isnum_eq Lw.h__law_low Lw.h__law_whole Lw.h__law_is_number ((Sz.wor sx D.sz).mono (m := 3200) (by omega)) (by decide)) ?_
      (repeat decreasing_trivial_pre_omega)
      refine ⟨(fun z => by cases z), fun _ => ?_⟩
      (repeat decreasing_trivial_pre_omega)
      refine wp_of_eq (lworth_eq (n := 163) (m := 40) (N := 3200) Lw.h__law_low Lw.h__law_plus Lw.h__law_times Lw.h__law_worth (show lsq (.loc m) s'' = _ from G1.keep fm') (sl (by omega)) D.sz sx (by omega) (by decide) (by decide)) ?_
      refine o_ne (eqW_n _ _ _) ?_
      rw [decide_eq_true rfl]
      (repeat decreasing_trivial_pre_omega)
      refine ⟨(fun z => by cases z), fun _ => ?_⟩
      (repeat decreasing_trivial_pre_omega)
      exact ⟨_, _, rfl, rfl⟩
    · obtain ⟨y, z, rfl, rfl⟩ := hJ
      refine ⟨(it_li hX).trans rfl, ?_⟩
      (repeat decreasing_trivial_pre_omega)
      refine lists_right_wp (k := 34) (G1.keep fh') (G1.keep fd) (LD'.keep G1 (fun _ _ z => z)) D.sz hc D.tr hl15 fun s14 f14 => ?_
      have G2 := G1.trans f14
      (repeat decreasing_trivial_pre_omega)
      refine ⟨(fun z => by cases z), fun _ => ?_⟩
      (repeat decreasing_trivial_pre_omega)
      refine o_ne (eqW_p (p := p) (q := p) (show lsq (.loc h) s14 = _ from G2.keep fh') (show lsq (.loc m) s14 = _ from G2.keep fm')) ?_
      rw [decide_eq_true rfl]
      (repeat decreasing_trivial_pre_omega)
      refine ⟨(fun z => by cases z), fun _ => ?_⟩
      (repeat decreasing_trivial_pre_omega)
      exact ⟨_, _, _, rfl, G2⟩
  · obtain ⟨x, y, z, rfl, G⟩ := hI
    refine ⟨it_rng0, ?_⟩
    (repeat decreasing_trivial_pre_omega)
    exact ⟨_, _, rfl, rfl⟩
end
end Pl
namespace Lw
open PySem PySem.Spec PyProof.Rows L2 Py
def nm0 : List PySem.Str := ["__name__", "RestError", "NoFraction", "NOUGHT", "shared_divisor", "fraction", "plus", "times", "worth", "slope", "shifted", "mirrored", "_law_urn", "_law_draw", "_law_low", "_law_plus", "_law_times", "_law_kind", "_law_number", "_law_other", "_law_trim", "_law_poly_plus", "_law_poly_times", "_law_worth", "_law_mirrored", "_law_drawn_poly", "_law_whole", "_law_is_number", "_law_is_poly", "_law_drawn_some"]
def nm1 : List PySem.Str := ["_law_moved", "_law_sloped", "_law_lists_right"]
def names : List PySem.Str := nm0 ++ (nm1)
abbrev R : PySem.W.OpenRow := PySem.W.OpenLaw.row PySem.Challenge.rw_restward_k03_worths_slopes_shifts
abbrev qv : Program := PySem.W.view R.prog [36]
abbrev ff : List He.Fa := factsR rows excl []
abbrev fd : List He.DefD := rows.map (rowD top)
abbrev xb : PySem.W.Frag → Bool := fun K => consB cons K && true
abbrev hk : PySem.W.Hook := He.hookX 7 ff fd [] [] xb
def ob (s : PySem.W.SharedT) : He.AlX := He.obsX 7 ff fd [] [] xb (HandSHeadRun.getT s)
theorem ob_eq (s : PySem.W.SharedT) : ob s = hk.obs s.abs := He.obsX_eq (HandSHeadRun.getT_eq s)
theorem run (w : World) : HandSHeadRun.RunEq R qv hk ob 2620 names w := by
  intro os
  kernel_rfl
end Lw
namespace Lw
open PySem PySem.Spec PyProof.Rows L2 Py
theorem law_in : (⟨"law", 36, fi_law⟩ : Py.Row) ∈ rows := by
  unfold rows
  simp only [List.mem_cons, true_or, or_true]
end Lw
open PySem PySem.W PySem.Calls PyProof.Rows
theorem PySem.Challenge.cw_restward_k03_worths_slopes_shifts_holds : PySem.Challenge.rw_restward_k03_worths_slopes_shifts.Holds := by
  w_on; o_law
  refine HandSHeadRun.head_any (r := OpenLaw.row PySem.Challenge.rw_restward_k03_worths_slopes_shifts) (q := Lw.qv) (H := Lw.hk) (ob := Lw.ob) (M := 2620) (loose := Lw.names) (d := HandSHeadRun.topDef (OpenLaw.row PySem.Challenge.rw_restward_k03_worths_slopes_shifts).prog 36) (kwd := []) Lw.ob_eq
    (by kernel_rfl) (fun s => by kernel_rfl) Lw.run (by kernel_rfl) (by kernel_rfl) (by kernel_rfl) (by rfl) (by first | assumption | decide +kernel) (by decide +kernel) ⟨rfl, rfl, rfl, rfl, rfl, by decide +kernel⟩ ?hw ?hc
  case hw => w_witness2
  case hc => exact Py.walk_row (rl := ⟨"law", 36, Lw.fi_law⟩) (x := "_law_script") (k := 39) rfl (by kernel_rfl) ⟨rfl, by decide, by decide⟩ (by kernel_rfl) Lw.law_in (by rfl) Lw.looks Lw.binds (by kernel_rfl) Pl.law_ok
