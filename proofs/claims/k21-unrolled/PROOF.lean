import PyProof.Rows.All
import Wide.All
import OpenK.AllK
import Wide.FinOn
import HandS.ForMost
import HandS.SortInts
import HandS.Deep
import HandS.IsInst
import HandS.Flow
import HandS.Text
import HandS.Comp
import HandS.Iter
import HandS.Rev
import HandS.ExcValue
import HandS.Words
import HandS.Conv
import HandS.Style
import PyProof.StrOps2
import HandS.TupAny
import HandS.More
import HandS.Star
import PySem.Challenge.RW_lassoproof_k21_unrolled_and_same_run
set_option Elab.async false
set_option linter.all false
set_option autoImplicit false
set_option maxRecDepth 100000
set_option maxHeartbeats 2000000
section
/-! VS: a small language over plain data, its evaluator (own text). -/
namespace VS
open PySem L2

/-- frozen data -/
inductive D where
  | non | bl (b : Bool) | int (i : Int) | str (x : Str)
  | tup (xs : List D) | lst (xs : List D)
  | ins (c : Nat) (fs : List D)
  | scr (ns : List Int)
  deriving Inhabited

def D.flat : D → Bool
  | .non | .bl _ | .int _ | .str _ => true
  | _ => false
mutual
/-- no list, no instance within -/
def D.lf : D → Bool
  | .non | .bl _ | .int _ | .str _ => true
  | .tup xs => D.lfs xs
  | _ => false
def D.lfs : List D → Bool
  | [] => true
  | x :: xs => D.lf x && D.lfs xs
end
mutual
def D.py : D → PyData
  | .non => .none | .bl b => .bool b | .int i => .int i | .str x => .str x
  | .tup xs => .tuple (D.pys xs) | .lst xs => .list (D.pys xs)
  | .ins _ _ => .dict [] | .scr _ => .dict []
def D.pys : List D → List PyData
  | [] => []
  | x :: xs => D.py x :: D.pys xs
end
def D.shp (d : D) : Bool := SeqAt.shaped d.py
def D.eqv (d e : D) : Bool := PyData.eqv d.py e.py

/-- a value that may be owned by the place where it stands -/
inductive M where
  | fz (d : D)
  | tup (xs : List M) | lst (xs : List M)
  | ins (c : Nat) (fs : List M)
  deriving Inhabited
mutual
def M.toD : M → D
  | .fz d => d
  | .tup xs => .tup (M.toDs xs)
  | .lst xs => .lst (M.toDs xs)
  | .ins c fs => .ins c (M.toDs fs)
def M.toDs : List M → List D
  | [] => []
  | x :: xs => M.toD x :: M.toDs xs
end
def M.isD : M → Bool
  | .fz _ => true
  | _ => false
mutual
/-- the frozen parts hold no list -/
def M.lf : M → Bool
  | .fz d => d.lf
  | .tup xs | .lst xs | .ins _ xs => M.lfs xs
def M.lfs : List M → Bool
  | [] => true
  | x :: xs => M.lf x && M.lfs xs
end
def mkTup (ms : List M) : M := if ms.all M.isD then .fz (.tup (M.toDs ms)) else .tup ms
mutual
/-- the parts of a list are frozen -/
def M.shal : M → M
  | .fz d => .fz d
  | .tup xs => .tup (M.shals xs)
  | .lst xs => .lst ((M.toDs xs).map .fz)
  | .ins c xs => .ins c (M.shals xs)
def M.shals : List M → List M
  | [] => []
  | x :: xs => M.shal x :: M.shals xs
end

inductive Bop | add | sub | mul | fdiv | mod | pow deriving DecidableEq
inductive Cop | eq | ne | lt | le | gt | ge | is_ | isnot | in_ | notin deriving DecidableEq
inductive Ty | int | bool | str | lst | tup | cls (c : Nat) deriving DecidableEq
inductive Bi | len | int | list | tuple | sorted | abs | min2 | max2 | min1 | max1 | any | all | sum | str deriving DecidableEq
inductive T | var (i : Nat) | tup2 (i j : Nat) | tup3 (i j k : Nat) deriving DecidableEq

mutual
inductive E where
  | var (i : Nat)
  | lit (d : D)
  | con (k : Nat)
  | tup (es : Es) | lst (es : Es)
  | bin (o : Bop) (a b : E)
  | neg (a : E)
  | cmp (o : Cop) (a b : E)
  | chain (o p : Cop) (a b c : E)
  | bool (isAnd : Bool) (es : Es)
  | not_ (a : E)
  | ite (c : Tst) (a b : E)
  | sub (a i : E)
  | isin (t : Ty) (a : E) | rev (a : E)
  | lrange (es : Es)
  | index (a e : E)
  | revs (a : E)
  | slc (bl bh : Bool) (a lo hi : E)
  | call (brw : Bool) (k : Nat) (as : Es)
  | bi (f : Bi) (as : Es)
  | comp (elt : E) (own : List Nat) (t : T) (it : It)
  | compIf (elt : E) (own : List Nat) (t : T) (it : It) (c : Tst)
  | tupS (a b : E)
  | cget (k : Nat) (a : E)
  | cin (neg : Bool) (k : Nat) (a : E)
  | cio (k : Nat) (as : Es)
inductive Es where
  | nil | cons (e : E) (es : Es)
inductive Tst where
  | v (e : E)
  | cmp (o : Cop) (a b : E)
  | chain (o p : Cop) (a b c : E)
  | not_ (t : Tst)
  | bool (isAnd : Bool) (ts : Ts)
  | cin (neg : Bool) (k : Nat) (a : E)
inductive Ts where
  | nil | cons (t : Tst) (ts : Ts)
inductive It where
  | seq (e : E) | range (es : Es) | enum (e : E) | zip (a b : E)
end

mutual
inductive S where
  | expr (e : E)
  | asg (deep : Bool) (t : T) (e : E)
  | setI (deep : Bool) (a i e : E)
  | aug (i : Nat) (o : Bop) (e : E)
  | app (deep : Bool) (a e : E)
  | ext (a e : E)
  | pop (a : E)
  | clr (a : E)
  | asgPop (t : T) (a : E)
  | ifs (c : Tst) (a b : Ss)
  | for_ (t : T) (it : It) (b : Ss)
  | while_ (c : Tst) (b : Ss)
  | ret (e : E)
  | brk | cont | pass
inductive Ss where
  | nil | cons (s : S) (ss : Ss)
end

abbrev Sl := List (Option M)
/-- a place: a slot, then selections -/
structure Pl where
  i : Nat
  path : List D
inductive Res where
  | pl (p : Pl)
  | m (m : M)

def bd {α β γ : Type} (x : Option (α × β)) (f : α → β → Option γ) : Option γ := match x with
  | some (a, b) => f a b
  | none => none
@[simp] theorem bd_some {α β γ : Type} (a : α) (b : β) (f : α → β → Option γ) : bd (some (a, b)) f = f a b := rfl
@[simp] theorem bd_none {α β γ : Type} (f : α → β → Option γ) : bd none f = none := rfl

/-! ### operations on data -/
def D.idx : D → D → Option D
  | .lst xs, .int i => atI xs i
  | .tup xs, .int i => atI xs i
  | .str x, .int i => if x.length ≤ sizeLine then (atI x.cps.toList i).map fun c => .str ⟨#[c]⟩ else none
  | .scr ns, .int i => (atI ns i).map .int
  | _, _ => none
def M.sel : M → D → Option M
  | .lst xs, .int i => atI xs i
  | .tup xs, .int i => atI xs i
  | _, _ => none
def M.sels : M → List D → Option M
  | m, [] => some m
  | m, k :: ks => (m.sel k).bind fun m' => M.sels m' ks
def getP (s : Sl) (p : Pl) : Option M := match s[p.i]? with
  | some (some m) => m.sels p.path
  | _ => none
/-- what stands at a place: frozen data, or the place -/
def look (s : Sl) (p : Pl) : Option Res := match getP s p with
  | some (.fz d) => some (.m (.fz d))
  | some _ => some (.pl p)
  | none => none
/-- the part at a path turned -/
def M.upd (f : M → Option M) : List D → M → Option M
  | [], m => f m
  | k :: ks, m => match m, k with
    | .lst xs, .int i => (ixN xs.length i).bind fun j => (xs[j]?).bind fun x => (M.upd f ks x).map fun x' => .lst (xs.set j x')
    | .tup xs, .int i => (ixN xs.length i).bind fun j => (xs[j]?).bind fun x => (M.upd f ks x).map fun x' => .tup (xs.set j x')
    | _, _ => none
def updP (s : Sl) (p : Pl) (f : M → Option M) : Option Sl := match s[p.i]? with
  | some (some m) => (M.upd f p.path m).map fun m' => s.set p.i (some m')
  | _ => none
/-- the part at a place frozen -/
def frzP (s : Sl) (p : Pl) : Option (D × Sl) := match getP s p with
  | some (.fz d) => some (d, s)
  | some m => (updP s p fun m => some (.fz m.toD)).map fun s' => (m.toD, s')
  | none => none
/-- as a value that is looked at -/
def toV (s : Sl) : Res → Option D
  | .pl p => (getP s p).map M.toD
  | .m m => some m.toD
/-- as a value that is stored -/
def toS (s : Sl) : Res → Option (M × Sl)
  | .pl p => (frzP s p).map fun x => (.fz x.1, x.2)
  | .m m => some (m, s)
def toF (s : Sl) (r : Res) : Option (D × Sl) := (toS s r).map fun x => (x.1.toD, x.2)
def D.items : D → Option (List D)
  | .lst xs => some xs
  | .tup xs => some xs
  | _ => none
/-- as a list or tuple whose items are shared -/
def toC (s : Sl) : Res → Option (List D × Sl)
  | .pl p => match getP s p with
    | some (.lst ms) => if ms.all M.isD then some (M.toDs ms, s) else (frzP s p).bind fun x => x.1.items.map fun ds => (ds, x.2)
    | some _ => (frzP s p).bind fun x => x.1.items.map fun ds => (ds, x.2)
    | none => none
  | .m m => m.toD.items.map fun ds => (ds, s)

def small (i : Int) : Bool := decide (-(2 ^ 64) < i) && decide (i < 2 ^ 64)
def repS (x : Str) (n : Int) : Str := if n < 1 then Str.empty else if (n == 1 || x.length == 0) = true then x else ⟨(List.replicate n.toNat x.cps).foldl (· ++ ·) #[]⟩
def binF : Bop → D → D → Option D
  | .add, .int a, .int b => some (.int (a + b))
  | .add, .str a, .str b => if a.length + b.length ≤ sizeLine then some (.str (a ++ b)) else none
  | .sub, .int a, .int b => some (.int (a - b))
  | .mul, .int a, .int b => if small a || small b then some (.int (a * b)) else none
  | .mul, .str a, .int n => if n < 1000 ∧ -1000 < n ∧ a.length ≤ 1000 then some (.str (repS a n)) else none
  | .fdiv, .int a, .int b => if 0 < b ∧ b < 1073741824 then some (.int (a / b)) else none
  | .mod, .int a, .int b => if 0 < b then some (.int (a % b)) else none
  | .pow, .int a, .int b => if 0 ≤ b ∧ b ≤ 1000000 ∧ a.natAbs < 2 ^ 64 then some (.int (a ^ b.toNat)) else none
  | _, _, _ => none
def truthD : D → Option Bool
  | .bl b => some b
  | .int i => some (i != 0)
  | .non => some false
  | .str x => if x.length ≤ sizeLine then some (x.length != 0) else none
  | .lst xs => some (!xs.isEmpty)
  | .tup xs => some (!xs.isEmpty)
  | _ => none
def inD (x : D) (ys : List D) : Bool := ys.any fun y => D.eqv y x
def cmpD : Cop → D → D → Option Bool
  | .eq, a, b => if a.shp && b.shp then some (D.eqv a b) else none
  | .ne, a, b => if a.shp && b.shp then some (!D.eqv a b) else none
  | .lt, .int a, .int b => some (decide (a < b))
  | .le, .int a, .int b => some (decide (a ≤ b))
  | .gt, .int a, .int b => some (decide (b < a))
  | .ge, .int a, .int b => some (decide (b ≤ a))
  | .is_, a, .non => some (match a with | .non => true | _ => false)
  | .isnot, a, .non => some (match a with | .non => false | _ => true)
  | .in_, a, .lst ys => if a.shp && (D.lst ys).shp then some (inD a ys) else none
  | .in_, a, .tup ys => if a.flat && ys.all D.flat && a.shp && (D.tup ys).shp then some (inD a ys) else none
  | .notin, a, .lst ys => if a.shp && (D.lst ys).shp then some (!inD a ys) else none
  | .notin, a, .tup ys => if a.flat && ys.all D.flat && a.shp && (D.tup ys).shp then some (!inD a ys) else none
  | _, _, _ => none
def optI : Bool → D → Option (Option Int)
  | false, .non => some none
  | true, .int i => some (some i)
  | _, _ => none
def isTy : Ty → D → Option Bool
  | .int, .int _ => some true
  | .int, .bl _ => some true
  | .bool, .bl _ => some true
  | .str, .str _ => some true
  | .lst, .lst _ => some true
  | .tup, .tup _ => some true
  | .cls c, .ins c' _ => some (c == c')
  | _, .scr _ => none
  | _, _ => some false
def cut {α : Type} (xs : List α) (lo hi : Option Int) : List α := (xs.drop (HT.sIx xs.length 0 lo)).take (HT.sIx xs.length xs.length hi - HT.sIx xs.length 0 lo)
def intsD : List D → Option (List Int)
  | [] => some []
  | .int i :: r => (intsD r).map fun t => i :: t
  | _ => none
def boolsD : List D → Option (List Bool)
  | [] => some []
  | .bl i :: r => (boolsD r).map fun t => i :: t
  | _ => none
def rangeL (lo hi : Int) : List D := (List.range (hi - lo).toNat).map fun k => .int (lo + (k : Nat))
def small62 (i : Int) : Bool := decide (-(2 ^ 62) ≤ i) && decide (i < 2 ^ 62)
def enumL (ds : List D) : List D := ds.zipIdx.map fun x => .tup [.int (x.2 : Nat), x.1]
def zipL (as bs : List D) : List D := (as.zip bs).map fun x => .tup [x.1, x.2]
/-- rising intsD -/
def insI (x : Int) : List Int → List Int
  | [] => [x]
  | y :: ys => if x ≤ y then x :: y :: ys else y :: insI x ys
def sortI : List Int → List Int
  | [] => []
  | x :: xs => insI x (sortI xs)

def rangeL3 (a c : Int) (n : Nat) : List D := (List.range n).map fun k => .int (a + (k : Nat) * c)
def minI : List Int → Option Int
  | [] => none
  | x :: l => some (l.foldl (fun a b => if b < a then b else a) x)
def maxI : List Int → Option Int
  | [] => none
  | x :: l => some (l.foldl (fun a b => if a < b then b else a) x)
structure Env where
  con : Nat → D
  cd : Nat → List M → Option (M × List M)
  io : Nat → List Bool
  al : Nat → Option Nat

def setT (s : Sl) : T → M → Option Sl
  | .var i, m => if i < s.length then some (s.set i (some m)) else none
  | .tup2 i j, .fz (.tup [a, b]) => if i < s.length ∧ j < s.length then some ((s.set i (some (.fz a))).set j (some (.fz b))) else none
  | .tup2 i j, .tup [a, b] => if i < s.length ∧ j < s.length then some ((s.set i (some a)).set j (some b)) else none
  | .tup3 i j k, .fz (.tup [a, b, c]) => if i < s.length ∧ j < s.length ∧ k < s.length then some (((s.set i (some (.fz a))).set j (some (.fz b))).set k (some (.fz c))) else none
  | .tup3 i j k, .tup [a, b, c] => if i < s.length ∧ j < s.length ∧ k < s.length then some (((s.set i (some a)).set j (some b)).set k (some c)) else none
  | _, _ => none
def wipeS (s : Sl) : List Nat → Sl
  | [] => s
  | i :: r => (wipeS s r).set i none
/-- the slots at own as they were in s₀ -/
def backS (s₀ s : Sl) : List Nat → Sl
  | [] => s
  | i :: r => backS s₀ (s.set i ((s₀[i]?).getD none)) r

/-- the comprehension's turns -/
def compL (own : List Nat) (t : T) (f : Sl → Option (Bool × Sl)) (g : Sl → Option (M × Sl)) : List D → Sl → Option (List M × Sl)
  | [], s => some ([], s)
  | d :: ds, s => (setT s t (.fz d)).bind fun s1 => bd (f s1) fun b s2 =>
      if b then bd (g s2) fun m s3 => bd (compL own t f g ds (wipeS s3 own)) fun ms s4 => some (m :: ms, s4)
      else compL own t f g ds (wipeS s2 own)
def allM (as : List M) : Bool := as.all M.isD

def biF : Bi → List D → Option D
  | .len, [.lst xs] => some (.int xs.length)
  | .len, [.tup xs] => some (.int xs.length)
  | .len, [.str x] => if x.length ≤ sizeLine then some (.int x.length) else none
  | .len, [.scr ns] => some (.int ns.length)
  | .int, [.int i] => some (.int i)
  | .int, [.bl b] => some (.int (if b then 1 else 0))
  | .abs, [.int i] => some (.int (if i < 0 then -i else i))
  | .min2, [.int a, .int b] => some (.int (if b < a then b else a))
  | .max2, [.int a, .int b] => some (.int (if b > a then b else a))
  | .min1, [.lst xs] => (intsD xs).bind fun ns => (minI ns).map .int
  | .max1, [.lst xs] => (intsD xs).bind fun ns => (maxI ns).map .int
  | .any, [.lst xs] => (boolsD xs).map fun bs => .bl (bs.any id)
  | .all, [.lst xs] => (boolsD xs).map fun bs => .bl (bs.all id)
  | .sum, [.lst xs] => (intsD xs).map fun ns => .int ns.sum
  | .str, [.int i] => if i.natAbs.log2 < 1920 then some (.str (Str.ofString (toString i))) else none
  | _, _ => none
/-- built-ins that make a container of the items -/
def biC : Bi → List D → Option M
  | .list, ds => some (.lst (ds.map .fz))
  | .tuple, ds => some (.fz (.tup ds))
  | .sorted, ds => (intsD ds).map fun ns => .lst ((sortI ns).map fun i => .fz (.int i))
  | _, _ => none
def Bi.isC : Bi → Bool
  | .list | .tuple | .sorted => true
  | _ => false
def Bi.okC : Bi → D → Bool
  | .list, .tup _ => true
  | _, .lst _ => true
  | _, _ => false
def isLd : D → Bool
  | .lst _ => true
  | _ => false
def evBin (o : Bop) (s : Sl) (ra rb : Res) : Option (Res × Sl) :=
  (toV s ra).bind fun da => (toV s rb).bind fun db => match o, da, db with
    | .add, .lst _, .lst _ => bd (toC s ra) fun xs s1 => (toV s1 rb).bind fun dc => if isLd dc then bd (toC s1 rb) fun ys s2 => if xs.length + ys.length ≤ sizeLine then some (.m (.lst ((xs ++ ys).map .fz)), s2) else none else none
    | .mul, .lst _, .int k => bd (toC s ra) fun xs s1 => if -(2 ^ 63) ≤ k ∧ k < 2 ^ 63 ∧ xs.length * k.toNat ≤ sizeLine then some (.m (.lst (((List.replicate k.toNat xs).flatten).map .fz)), s1) else none
    | o, da, db => (binF o da db).map fun d => (.m (.fz d), s)
def rM (d : D) (s : Sl) : Option (Res × Sl) := some (.m (.fz d), s)
def toVs (s : Sl) : List Res → Option (List D)
  | [] => some []
  | r :: rs => (toV s r).bind fun d => (toVs s rs).map fun ds => d :: ds
def toSs (s : Sl) : List Res → Option (List M × Sl)
  | [] => some ([], s)
  | r :: rs => bd (toS s r) fun m s1 => bd (toSs s1 rs) fun ms s2 => some (m :: ms, s2)

def negR : Option D → Sl → Option (Res × Sl)
  | some (.int i), s => rM (.int (-i)) s
  | _, _ => none
def evCmp (o : Cop) (s : Sl) (ra rb : Res) : Option Bool := (toV s ra).bind fun da => (toV s rb).bind fun db => cmpD o da db
def boolR (s : Sl) (r : Res) : Option Bool := match toV s r with
  | some (.bl b) => some b
  | _ => none
def tst (s : Sl) (r : Res) : Option Bool := (toV s r).bind truthD
def rangeD : List D → Option (List D)
  | [.int n] => if small62 n then some (rangeL 0 n) else none
  | [.int a, .int b] => if small62 a && small62 b then some (rangeL a b) else none
  | [.int a, .int b, .int c] => if c ≠ 0 ∧ c.natAbs < 1073741824 ∧ Builtin.Range.small a b c = true then some (rangeL3 a c (Builtin.Range.rangeSize a b c).toNat) else none
  | _ => none
/-- list(range(..)) -/
def lrangeD : List D → Option (List D)
  | [.int n] => if small62 n && decide (n.toNat ≤ 2 ^ 24) then some (rangeL 0 n) else none
  | [.int a, .int b] => if small62 a && small62 b && decide ((b - a).toNat ≤ 2 ^ 24) then some (rangeL a b) else none
  | _ => none
def indexD (d : D) : D → Option D
  | .lst xs => if (D.lst xs).shp && d.shp then (xs.findIdx? fun y => D.eqv y d).map fun j => .int (j : Nat) else none
  | _ => none
/-- a slice of a frozen tuple -/
def slcT (l h : Option Int) (s : Sl) : M → Option (Res × Sl)
  | .fz (.tup xs) => rM (.tup (cut xs l h)) s
  | _ => none
def evSlc (s : Sl) (ra : Res) (l h : Option Int) : Option (Res × Sl) := (toV s ra).bind fun da => match da with
  | .str x => if x.length ≤ sizeLine then rM (.str (cutS x l h)) s else none
  | .lst _ => bd (toC s ra) fun xs s' => some (.m (.lst ((cut xs l h).map .fz)), s')
  | .tup _ => bd (toS s ra) fun m s' => slcT l h s' m
  | _ => none
def evSub (s : Sl) (ra ri : Res) : Option (Res × Sl) := (toV s ri).bind fun di => match ra with
  | .pl p => (look s ⟨p.i, p.path ++ [di]⟩).map fun r => (r, s)
  | .m m => (m.toD.idx di).bind fun d => rM d s
def evBi (f : Bi) (s : Sl) (rs : List Res) : Option (Res × Sl) :=
  if f.isC then match rs with
    | [r] => (toV s r).bind fun d => if f.okC d then bd (toC s r) fun ds s2 => (biC f ds).bind fun m => some (.m m, s2) else none
    | _ => none
  else (toVs s rs).bind fun ds => (biF f ds).bind fun d => rM d s
def evCall (G : Env) (brw : Bool) (k : Nat) (s : Sl) (rs : List Res) : Option (Res × Sl) :=
  if brw then (toVs s rs).bind fun ds => (G.cd k (ds.map .fz)).bind fun r => if r.1.lf then some (.m r.1, s) else none
  else bd (toSs s rs) fun ms s' => (G.cd k ((M.toDs ms).map .fz)).bind fun r => some (.m r.1, s')
/-- the module's dicts of texts -/
def pairGet (x : Str) : List D → Option D
  | .tup [.str k, v] :: r => if k = x then some v else pairGet x r
  | _ => none
def pairsOf : D → List D
  | .tup ps => ps
  | _ => []
def cgetD (t : D) : D → Option D
  | .str x => pairGet x (pairsOf t)
  | _ => none
def cinD (neg : Bool) (t : D) : D → Option Bool
  | .str x => some ((pairGet x (pairsOf t)).isSome != neg)
  | _ => none
def evTupS (s : Sl) (ra rb : Res) : Option (Res × Sl) := (toV s ra).bind fun da => if da.flat then (toV s rb).bind fun db => if isLd db then bd (toC s rb) fun ds s' => if ds.length < sizeLine then some (.m (.fz (.tup (da :: ds))), s') else none else none else none
/-- the arguments of a call that changes some of them: those are taken out of their slots -/
def ioArgs : List Bool → List Res → Sl → Option ((List M × List (Option Nat)) × Sl)
  | [], [], s => some (([], []), s)
  | false :: bs, r :: rs, s => bd (toS s r) fun m s1 => bd (ioArgs bs rs s1) fun x s2 => some ((.fz m.toD :: x.1, none :: x.2), s2)
  | true :: bs, .m m :: rs, s => bd (ioArgs bs rs s) fun x s2 => some ((m :: x.1, none :: x.2), s2)
  | true :: bs, .pl ⟨i, []⟩ :: rs, s => match s[i]? with
    | some (some m) => bd (ioArgs bs rs (s.set i none)) fun x s2 => some ((m :: x.1, some i :: x.2), s2)
    | _ => none
  | _, _, _ => none
/-- .. and are put back -/
def giveBack : List (Option Nat) → List M → Sl → Sl
  | some i :: os, m :: ms, s => giveBack os ms (s.set i (some m))
  | none :: os, _ :: ms, s => giveBack os ms s
  | _, _, s => s
def evCio (G : Env) (k : Nat) (s : Sl) (rs : List Res) : Option (Res × Sl) :=
  bd (ioArgs (G.io k) rs s) fun x s1 => (G.cd k x.1).bind fun r => match G.al k with
    | none => some (.m r.1, giveBack x.2 r.2 s1)
    | some j => match x.2[j]?, r.2[j]? with
      | some (some i), _ => some (.pl ⟨i, []⟩, giveBack x.2 r.2 s1)
      | some none, some m => if (G.io k)[j]? = some true then some (.m m, giveBack x.2 r.2 s1) else none
      | _, _ => none
mutual
def ev (G : Env) : E → Sl → Option (Res × Sl)
  | .var i, s => (look s ⟨i, []⟩).map fun r => (r, s)
  | .lit d, s => if d.flat then rM d s else none
  | .con k, s => rM (G.con k) s
  | .tup es, s => bd (evs G es s) fun rs s1 => bd (toSs s1 rs) fun ms s2 => if ms.length ≤ sizeLine then some (.m (mkTup ms), s2) else none
  | .lst es, s => bd (evs G es s) fun rs s1 => bd (toSs s1 rs) fun ms s2 => if ms.length ≤ sizeLine then some (.m (.lst ms), s2) else none
  | .bin o a b, s => bd (ev G a s) fun ra s1 => bd (ev G b s1) fun rb s2 => evBin o s2 ra rb
  | .neg a, s => bd (ev G a s) fun ra s1 => negR (toV s1 ra) s1
  | .cmp o a b, s => bd (ev G a s) fun ra s1 => bd (ev G b s1) fun rb s2 => (evCmp o s2 ra rb).bind fun c => rM (.bl c) s2
  | .chain o p a b c, s => bd (ev G a s) fun ra s1 => bd (ev G b s1) fun rb s2 => (evCmp o s2 ra rb).bind fun k =>
      if k then bd (ev G c s2) fun rc s3 => (evCmp p s3 rb rc).bind fun k => rM (.bl k) s3
      else rM (.bl false) s2
  | .bool isAnd es, s => bd (evB G isAnd es s) fun b s1 => rM (.bl b) s1
  | .not_ a, s => bd (ev G a s) fun r s1 => (tst s1 r).bind fun b => rM (.bl (!b)) s1
  | .ite c a b, s => bd (evT G c s) fun k s1 => if k then bd (ev G a s1) fun r s2 => bd (toS s2 r) fun m s3 => some (.m m, s3) else bd (ev G b s1) fun r s2 => bd (toS s2 r) fun m s3 => some (.m m, s3)
  | .isin t a, s => bd (ev G a s) fun r s1 => ((toV s1 r).bind (isTy t)).bind fun b => rM (.bl b) s1
  | .rev a, s => bd (ev G a s) fun r s1 => (toV s1 r).bind fun d => if isLd d then bd (toC s1 r) fun ds s2 => some (.m (.lst (ds.reverse.map .fz)), s2) else none
  | .lrange es, s => bd (evs G es s) fun rs s1 => (toVs s1 rs).bind fun ds => (lrangeD ds).map fun x => (.m (.lst (x.map .fz)), s1)
  | .index a e, s => bd (ev G a s) fun ra s1 => (toV s1 ra).bind fun d0 => if isLd d0 then bd (ev G e s1) fun r s2 => (toV s2 ra).bind fun da => (toV s2 r).bind fun d => (indexD d da).bind fun j => rM j s2 else none
  | .revs a, s => bd (ev G a s) fun r s1 => (toV s1 r).bind fun d => if isLd d then bd (toC s1 r) fun ds s2 => some (.m (.lst (ds.reverse.map .fz)), s2) else none
  | .sub a i, s => bd (ev G a s) fun ra s1 => bd (ev G i s1) fun ri s2 => evSub s2 ra ri
  | .slc bl bh a lo hi, s => bd (ev G a s) fun ra s1 => bd (ev G lo s1) fun rl s2 => ((toV s2 rl).bind (optI bl)).bind fun l =>
      bd (ev G hi s2) fun rh s3 => ((toV s3 rh).bind (optI bh)).bind fun h => evSlc s3 ra l h
  | .call brw k as, s => bd (evs G as s) fun rs s1 => evCall G brw k s1 rs
  | .bi f as, s => bd (evs G as s) fun rs s1 => evBi f s1 rs
  | .comp elt own t it, s => bd (evIt G it s) fun ds s1 =>
      bd (compL own t (fun s => some (true, s)) (fun s => bd (ev G elt s) fun r s' => toS s' r) ds (wipeS s1 own)) fun ms s2 =>
        if ms.length ≤ sizeLine then some (.m (.lst ms), backS s1 s2 own) else none
  | .compIf elt own t it c, s => bd (evIt G it s) fun ds s1 =>
      bd (compL own t (fun s => evT G c s) (fun s => bd (ev G elt s) fun r s' => toS s' r) ds (wipeS s1 own)) fun ms s2 =>
        if ms.length ≤ sizeLine then some (.m (.lst ms), backS s1 s2 own) else none
  | .tupS a b, s => bd (ev G a s) fun ra s1 => bd (ev G b s1) fun rb s2 => evTupS s2 ra rb
  | .cget k a, s => bd (ev G a s) fun r s1 => (toV s1 r).bind fun d => (cgetD (G.con (500 + k)) d).bind fun x => rM x s1
  | .cin neg k a, s => bd (ev G a s) fun r s1 => (toV s1 r).bind fun d => (cinD neg (G.con (500 + k)) d).bind fun b => rM (.bl b) s1
  | .cio k as, s => bd (evs G as s) fun rs s1 => evCio G k s1 rs
def evB (G : Env) (isAnd : Bool) : Es → Sl → Option (Bool × Sl)
  | .nil, _ => none
  | .cons e es, s => bd (ev G e s) fun r s1 => (boolR s1 r).bind fun b => match es with
    | .nil => some (b, s1)
    | es => if b == isAnd then evB G isAnd es s1 else some (b, s1)
def evs (G : Env) : Es → Sl → Option (List Res × Sl)
  | .nil, s => some ([], s)
  | .cons e es, s => bd (ev G e s) fun r s1 => bd (evs G es s1) fun rs s2 => some (r :: rs, s2)
/-- a test -/
def evT (G : Env) : Tst → Sl → Option (Bool × Sl)
  | .v e, s => bd (ev G e s) fun r s1 => (tst s1 r).map fun b => (b, s1)
  | .cmp o a b, s => bd (ev G a s) fun ra s1 => bd (ev G b s1) fun rb s2 => (evCmp o s2 ra rb).map fun c => (c, s2)
  | .chain o p a b c, s => bd (ev G a s) fun ra s1 => bd (ev G b s1) fun rb s2 => (evCmp o s2 ra rb).bind fun k =>
      if k then bd (ev G c s2) fun rc s3 => (evCmp p s3 rb rc).map fun k => (k, s3)
      else some (false, s2)
  | .not_ t, s => bd (evT G t s) fun b s1 => some (!b, s1)
  | .bool isAnd ts, s => evBT G isAnd ts s
  | .cin neg k a, s => bd (ev G a s) fun r s1 => (toV s1 r).bind fun d => (cinD neg (G.con (500 + k)) d).bind fun b => some (b, s1)
def evBT (G : Env) (isAnd : Bool) : Ts → Sl → Option (Bool × Sl)
  | .nil, _ => none
  | .cons t ts, s => bd (evT G t s) fun b s1 => match ts with
    | .nil => some (b, s1)
    | ts => if b == isAnd then evBT G isAnd ts s1 else some (b, s1)
def evIt (G : Env) : It → Sl → Option (List D × Sl)
  | .seq e, s => bd (ev G e s) fun r s1 => toC s1 r
  | .range es, s => bd (evs G es s) fun rs s1 => (toVs s1 rs).bind fun ds => (rangeD ds).map fun x => (x, s1)
  | .enum e, s => bd (ev G e s) fun r s1 => (toV s1 r).bind fun d => if isLd d then bd (toC s1 r) fun ds s2 => some (enumL ds, s2) else none
  | .zip a b, s => bd (ev G a s) fun ra s1 => bd (ev G b s1) fun rb s2 => (toV s2 ra).bind fun d => if isLd d then bd (toC s2 ra) fun xs s3 => (toV s3 rb).bind fun d' => if isLd d' then bd (toC s3 rb) fun ys s4 => some (zipL xs ys, s4) else none else none
end
end VS
end

section
/-! VS: statements, defs. -/
namespace VS
open PySem L2

def augF : Bop → D → D → Option D
  | .add, .int a, .int b => some (.int (a + b))
  | .sub, .int a, .int b => some (.int (a - b))
  | _, _, _ => none
inductive O where
  | nx (s : Sl) | bk (s : Sl) | ct (s : Sl) | rt (j : Option Nat) (m : M) (s : Sl)
def O.map (f : Sl → Sl) : O → O
  | .nx s => .nx (f s) | .bk s => .bk (f s) | .ct s => .ct (f s) | .rt j m s => .rt j m (f s)

def T.ment (x : Nat) : T → Bool
  | .var i => i == x
  | .tup2 i j => i == x || j == x
  | .tup3 i j k => i == x || j == x || k == x
mutual
def E.ment (x : Nat) : E → Bool
  | .var i => i == x
  | .lit _ | .con _ => false
  | .tup es | .lst es | .bool _ es | .call _ _ es | .bi _ es | .cio _ es => Es.ment x es
  | .bin _ a b | .cmp _ a b | .sub a b => E.ment x a || E.ment x b
  | .neg a | .not_ a | .isin _ a | .rev a | .revs a => E.ment x a
  | .lrange es => Es.ment x es
  | .index a b => E.ment x a || E.ment x b
  | .ite c a b => Tst.ment x c || E.ment x a || E.ment x b
  | .chain _ _ a b c | .slc _ _ a b c => E.ment x a || E.ment x b || E.ment x c
  | .comp e own t it => E.ment x e || own.contains x || t.ment x || It.ment x it
  | .compIf e own t it c => E.ment x e || own.contains x || t.ment x || It.ment x it || Tst.ment x c
  | .tupS a b => E.ment x a || E.ment x b
  | .cget _ a | .cin _ _ a => E.ment x a
def Es.ment (x : Nat) : Es → Bool
  | .nil => false
  | .cons e es => E.ment x e || Es.ment x es
def Tst.ment (x : Nat) : Tst → Bool
  | .v e => E.ment x e
  | .cmp _ a b => E.ment x a || E.ment x b
  | .chain _ _ a b c => E.ment x a || E.ment x b || E.ment x c
  | .not_ t => Tst.ment x t
  | .bool _ ts => Ts.ment x ts
  | .cin _ _ a => E.ment x a
def Ts.ment (x : Nat) : Ts → Bool
  | .nil => false
  | .cons t ts => Tst.ment x t || Ts.ment x ts
def It.ment (x : Nat) : It → Bool
  | .seq e | .enum e => E.ment x e
  | .range es => Es.ment x es
  | .zip a b => E.ment x a || E.ment x b
end
mutual
def S.ment (x : Nat) : S → Bool
  | .expr e | .ret e => E.ment x e
  | .asg _ t e | .asgPop t e => t.ment x || E.ment x e
  | .setI _ a i e => E.ment x a || E.ment x i || E.ment x e
  | .aug i _ e => i == x || E.ment x e
  | .app _ a e | .ext a e => E.ment x a || E.ment x e
  | .pop a | .clr a => E.ment x a
  | .ifs c a b => Tst.ment x c || Ss.ment x a || Ss.ment x b
  | .for_ t it b => t.ment x || It.ment x it || Ss.ment x b
  | .while_ c b => Tst.ment x c || Ss.ment x b
  | .brk | .cont | .pass => false
def Ss.ment (x : Nat) : Ss → Bool
  | .nil => false
  | .cons s ss => S.ment x s || Ss.ment x ss
end

def M.put (c : M) (k : D) (v : M) : Option M := match c, k with
  | .lst xs, .int i => (ixN xs.length i).map fun j => .lst (xs.set j v)
  | _, _ => none
def M.push (v : M) : M → Option M
  | .lst xs => if xs.length < sizeLine then some (.lst (xs ++ [v])) else none
  | _ => none
def M.pushAll (vs : List M) : M → Option M
  | .lst xs => if xs.length + vs.length ≤ sizeLine then some (.lst (xs ++ vs)) else none
  | _ => none
def M.last : M → Option M
  | .lst xs => xs[xs.length - 1]?
  | _ => none
def M.drop : M → Option M
  | .lst xs => if xs.isEmpty then none else some (.lst xs.dropLast)
  | _ => none
def M.clr : M → Option M
  | .lst _ => some (.lst [])
  | _ => none
def pl? : Res → Option Pl
  | .pl p => some p
  | _ => none
/-- a place where a list stands -/
def plL (s : Sl) : Res → Option Pl
  | .pl p => match getP s p with
    | some (.lst _) => some p
    | _ => none
  | _ => none
def fin (deep : Bool) (m : M) : M := if deep then m else m.shal
def finE (deep : Bool) (m : M) : M := if deep then m else .fz m.toD

def gv (s : Sl) (i : Nat) : Option M := match s[i]? with
  | some (some m) => some m
  | _ => none
/-- the items of a place; a list of frozen items that the body leaves alone is hidden -/
def itPl (hid : Nat → Bool) (s1 : Sl) (p : Pl) : M → Option ((List D × Option (Nat × M)) × Sl)
  | .lst ms => if ms.all M.isD && hid p.i then (gv s1 p.i).bind fun m => some ((M.toDs ms, some (p.i, m)), s1.set p.i none)
      else (frzP s1 p).bind fun x => x.1.items.map fun ds => ((ds, none), x.2)
  | _ => (frzP s1 p).bind fun x => x.1.items.map fun ds => ((ds, none), x.2)
def itR (hid : Nat → Bool) (s1 : Sl) : Res → Option ((List D × Option (Nat × M)) × Sl)
  | .pl p => (getP s1 p).bind (itPl hid s1 p)
  | .m m => m.toD.items.map fun ds => ((ds, none), s1)
def seqO (g : Sl → Option O) : O → Option O
  | .nx s1 => g s1
  | o => some o
def stepO (g : Sl → Option O) : O → Option O
  | .nx s2 => g s2
  | .ct s2 => g s2
  | .bk s2 => some (.nx s2)
  | .rt j m s2 => some (.rt j m s2)
mutual
def evRet (G : Env) : E → Sl → Option (M × Sl)
  | .var i, s => (gv s i).bind fun m => some (m, s.set i none)
  | .tup es, s => bd (evRets G es s) fun ms s1 => if ms.length ≤ sizeLine then some (mkTup ms, s1) else none
  | .lst es, s => bd (evRets G es s) fun ms s1 => if ms.length ≤ sizeLine then some (.lst ms, s1) else none
  | e, s => bd (ev G e s) fun r s1 => toS s1 r
def evRets (G : Env) : Es → Sl → Option (List M × Sl)
  | .nil, s => some ([], s)
  | .cons e es, s => bd (evRet G e s) fun m s1 => bd (evRets G es s1) fun ms s2 => some (m :: ms, s2)
end

/-- what a for walks: the items, a slot that is hidden meanwhile -/
def evItL (G : Env) (hid : Nat → Bool) : It → Sl → Option ((List D × Option (Nat × M)) × Sl)
  | .seq e, s => bd (ev G e s) fun r s1 => itR hid s1 r
  | .enum e, s => bd (ev G e s) fun r s1 => bd (toF s1 r) fun d s2 => if isLd d then d.items.map fun ds => ((enumL ds, none), s2) else none
  | .zip a b, s => bd (ev G a s) fun ra s1 => bd (ev G b s1) fun rb s2 => bd (toF s2 ra) fun x s3 => bd (toF s3 rb) fun y s4 => if isLd x && isLd y then x.items.bind fun xs => y.items.map fun ys => ((zipL xs ys, none), s4) else none
  | .range es, s => bd (evs G es s) fun rs s1 => (toVs s1 rs).bind fun ds => (rangeD ds).map fun x => ((x, none), s1)

def loopF (t : T) (f : Sl → Option O) : List D → Sl → Option O
  | [], s => some (.nx s)
  | d :: ds, s => (setT s t (.fz d)).bind fun s1 => (f s1).bind (stepO (loopF t f ds))
abbrev WL := (Sl → Option (Bool × Sl)) → (Sl → Option O) → Sl → Option O
def loopN : Nat → WL
  | 0, _, _, _ => none
  | n + 1, c, f, s => bd (c s) fun b s1 => if b then (f s1).bind (stepO (loopN n c f)) else some (.nx s1)
def unhide (h : Option (Nat × M)) (s : Sl) : Sl := match h with
  | some (i, m) => s.set i (some m)
  | none => s

mutual
/-- what is stored to -/
def S.sto (x : Nat) : S → Bool
  | .expr _ | .ret _ | .setI _ _ _ _ | .app _ _ _ | .ext _ _ | .pop _ | .clr _ | .brk | .cont | .pass => false
  | .asg _ t _ | .asgPop t _ => t.ment x
  | .aug i _ _ => i == x
  | .ifs _ a b => Ss.sto x a || Ss.sto x b
  | .for_ t _ b => t.ment x || Ss.sto x b
  | .while_ _ b => Ss.sto x b
def Ss.sto (x : Nat) : Ss → Bool
  | .nil => false
  | .cons s ss => S.sto x s || Ss.sto x ss
end
/-- the name that is returned -/
def retv : E → Option Nat
  | .var i => some i
  | _ => none
mutual
def exec (G : Env) (W : WL) : S → Sl → Option O
  | .expr e, s => bd (ev G e s) fun _ s1 => some (.nx s1)
  | .asg deep t e, s => bd (ev G e s) fun r s1 => bd (toS s1 r) fun m s2 => (setT s2 t (fin deep m)).map .nx
  | .setI deep a i e, s => bd (ev G e s) fun r s1 => bd (toS s1 r) fun m s2 => bd (ev G a s2) fun ra s3 => bd (ev G i s3) fun ri s4 =>
      (pl? ra).bind fun p => (toV s4 ri).bind fun di => (updP s4 p fun c => c.put di (finE deep m)).map .nx
  | .aug i o e, s => (gv s i).bind fun m => bd (ev G e s) fun r s1 => (toV s1 r).bind fun d => (augF o m.toD d).bind fun z => some (.nx (s1.set i (some (.fz z))))
  | .app deep a e, s => bd (ev G a s) fun ra s1 => (plL s1 ra).bind fun p => bd (ev G e s1) fun r s2 => bd (toS s2 r) fun m s3 => (updP s3 p (M.push (finE deep m))).map .nx
  | .ext a e, s => bd (ev G a s) fun ra s1 => (plL s1 ra).bind fun p => bd (ev G e s1) fun r s2 => (toV s2 r).bind fun d => if isLd d then bd (toC s2 r) fun ds s3 => (updP s3 p (M.pushAll (ds.map .fz))).map .nx else none
  | .pop a, s => bd (ev G a s) fun ra s1 => (plL s1 ra).bind fun p => (updP s1 p M.drop).map .nx
  | .clr a, s => bd (ev G a s) fun ra s1 => (plL s1 ra).bind fun p => (updP s1 p M.clr).map .nx
  | .asgPop t a, s => bd (ev G a s) fun ra s1 => (plL s1 ra).bind fun p => ((getP s1 p).bind M.last).bind fun m => (updP s1 p M.drop).bind fun s2 => (setT s2 t m).map .nx
  | .ifs c a b, s => bd (evT G c s) fun k s1 => if k then execs G W a s1 else execs G W b s1
  | .for_ t it b, s => bd (evItL G (fun i => !(t.ment i || b.ment i)) it s) fun x s1 => (loopF t (fun s => execs G W b s) x.1 s1).map (O.map (unhide x.2))
  | .while_ c b, s => W (fun s => evT G c s) (fun s => execs G W b s) s
  | .ret e, s => bd (evRet G e s) fun m s1 => some (.rt (retv e) m s1)
  | .brk, s => some (.bk s)
  | .cont, s => some (.ct s)
  | .pass, s => some (.nx s)
def execs (G : Env) (W : WL) : Ss → Sl → Option O
  | .nil, s => some (.nx s)
  | .cons c cs, s => (exec G W c s).bind (seqO fun s1 => execs G W cs s1)
end

structure Def where
  np : Nat
  n : Nat
  io : List Bool
  al : Option Nat
  body : Ss
/-- what stands at the parameters that are changed -/
def outsIO : List Bool → Sl → Option (List M)
  | [], _ => some []
  | false :: bs, _ :: s => (outsIO bs s).map fun l => .fz .non :: l
  | true :: bs, some m :: s => (outsIO bs s).map fun l => m :: l
  | _, _ => none
/-- a body's end: the answer, the changed parameters -/
def endOf (d : Def) : O → Option (M × List M)
  | .nx s => match d.al with
    | none => (outsIO d.io s).map fun l => (.fz .non, l)
    | some _ => none
  | .rt j m s => match d.al with
    | none => (outsIO d.io s).map fun l => (m, l)
    | some a => if j = some a ∧ a < s.length ∧ m.isD = false then (outsIO d.io (s.set a (some m))).map fun l => (.fz .non, l) else none
  | _ => none
def run (G : Env) (W : WL) (d : Def) (ms : List M) : Option (M × List M) :=
  (execs G W d.body (ms.map some ++ List.replicate (d.n - d.np) none)).bind (endOf d)
def ioOf (P : List Def) (k : Nat) : List Bool := ((P[k]?).map Def.io).getD []
def alOf (P : List Def) (k : Nat) : Option Nat := ((P[k]?).map Def.al).getD none
def callN (W : WL) (con : Nat → D) (P : List Def) : Nat → Nat → List M → Option (M × List M)
  | 0, _, _ => none
  | n + 1, k, ms => (P[k]?).bind fun d => if ms.length = d.np then run ⟨con, callN W con P n, ioOf P, alOf P⟩ W d ms else none
end VS
end

section
/-! VS: how data lie in the abstract heap. -/
namespace VS
open PySem L2

mutual
inductive Rep (K : PySem.W.Frag) (F : Hp) : D → V → Prop
  | non : Rep K F .non .non
  | bl (b : Bool) : Rep K F (.bl b) (.bl b)
  | int (i : Int) : Rep K F (.int i) (.int i)
  | str (x : Str) : Rep K F (.str x) (.str x)
  | tup {a : Addr} {xs : List V} {ds : List D} : SqT K F a xs → Reps K F ds xs → Rep K F (.tup ds) (.ref a)
  | lst {a : Addr} {xs : List V} {ds : List D} : F a = some (.lst xs) → Reps K F ds xs → Rep K F (.lst ds) (.ref a)
  | scr {a : Addr} {ns : List Int} : SqL K F a (ns.map V.int) → Rep K F (.scr ns) (.ref a)
inductive Reps (K : PySem.W.Frag) (F : Hp) : List D → List V → Prop
  | nil : Reps K F [] []
  | cons {d : D} {v : V} {ds : List D} {vs : List V} : Rep K F d v → Reps K F ds vs → Reps K F (d :: ds) (v :: vs)
end
mutual
inductive Own (K : PySem.W.Frag) (F H : Hp) : M → V → List Addr → Prop
  | fz {d : D} {v : V} : Rep K F d v → Own K F H (.fz d) v []
  | tup {a : Addr} {ms : List M} {vs : List V} {fp : List Addr} : F a = some (.tup vs) → Owns K F H ms vs fp → Own K F H (.tup ms) (.ref a) fp
  | lst {a : Addr} {ms : List M} {vs : List V} {fp : List Addr} : H a = some (.lst vs) → Owns K F H ms vs fp → Own K F H (.lst ms) (.ref a) (a :: fp)
inductive Owns (K : PySem.W.Frag) (F H : Hp) : List M → List V → List Addr → Prop
  | nil : Owns K F H [] [] []
  | cons {m : M} {v : V} {ms : List M} {vs : List V} {f g : List Addr} : Own K F H m v f → Owns K F H ms vs g → Owns K F H (m :: ms) (v :: vs) (f ++ g)
end
inductive SlR (K : PySem.W.Frag) (F H : Hp) : Sl → St → List Addr → Prop
  | nil : SlR K F H [] [] []
  | no {s : Sl} {σ : St} {o : Option V} {g : List Addr} : SlR K F H s σ g → SlR K F H (none :: s) (o :: σ) g
  | so {m : M} {v : V} {s : Sl} {σ : St} {f g : List Addr} : Own K F H m v f → SlR K F H s σ g → SlR K F H (some m :: s) (some v :: σ) (f ++ g)

variable {K : PySem.W.Frag} {F F' G H H' : Hp}
theorem sqT_mono {a : Addr} {xs : List V} (h : SqT K F a xs) (s : Same F F') : SqT K F' a xs := by
  rcases h with (h | ⟨o, h⟩) | h
  · exact .inl (.inl (s _ _ h))
  · exact .inl (.inr ⟨o, s _ _ h⟩)
  · exact .inr h
theorem sqL_mono {a : Addr} {xs : List V} (h : SqL K F a xs) (s : Same F F') : SqL K F' a xs := by
  rcases h with (h | ⟨o, h⟩) | h
  · exact .inl (.inl (s _ _ h))
  · exact .inl (.inr ⟨o, s _ _ h⟩)
  · exact .inr h
mutual
theorem Rep.mono (s : Same F F') : ∀ {d : D} {v : V}, Rep K F d v → Rep K F' d v
  | _, _, .non => .non
  | _, _, .bl b => .bl b
  | _, _, .int i => .int i
  | _, _, .str x => .str x
  | _, _, .tup h r => .tup (sqT_mono h s) (r.mono s)
  | _, _, .lst h r => .lst (s _ _ h) (r.mono s)
  | _, _, .scr h => .scr (sqL_mono h s)
theorem Reps.mono (s : Same F F') : ∀ {ds : List D} {vs : List V}, Reps K F ds vs → Reps K F' ds vs
  | _, _, .nil => .nil
  | _, _, .cons r rs => .cons (r.mono s) (rs.mono s)
end
theorem Reps.length : ∀ {ds : List D} {vs : List V}, Reps K F ds vs → ds.length = vs.length
  | _, _, .nil => rfl
  | _, _, .cons _ rs => by rw [List.length_cons, List.length_cons, rs.length]
theorem Reps.get : ∀ {ds : List D} {vs : List V} {i : Nat} {d : D}, Reps K F ds vs → ds[i]? = some d → ∃ v, vs[i]? = some v ∧ Rep K F d v
  | _, _, _, _, .nil, e => by simp at e
  | _, _, 0, _, .cons r _, e => by simp at e; subst e; exact ⟨_, rfl, r⟩
  | _, _, i + 1, d, .cons _ t, e => by
    obtain ⟨u, h1, h2⟩ := Reps.get (i := i) (d := d) t (by simpa using e)
    exact ⟨u, by simpa using h1, h2⟩
theorem Reps.append : ∀ {ds es : List D} {vs us : List V}, Reps K F ds vs → Reps K F es us → Reps K F (ds ++ es) (vs ++ us)
  | _, _, _, _, .nil, s => s
  | _, _, _, _, .cons r t, s => .cons r (t.append s)
theorem Reps.take : ∀ {ds : List D} {vs : List V} (n : Nat), Reps K F ds vs → Reps K F (ds.take n) (vs.take n)
  | _, _, 0, _ => .nil
  | _, _, _ + 1, .nil => .nil
  | _, _, n + 1, .cons r t => .cons r (t.take n)
theorem Reps.drop : ∀ {ds : List D} {vs : List V} (n : Nat), Reps K F ds vs → Reps K F (ds.drop n) (vs.drop n)
  | _, _, 0, r => r
  | _, _, _ + 1, .nil => .nil
  | _, _, n + 1, .cons _ t => t.drop n
theorem Reps.reverse : ∀ {ds : List D} {vs : List V}, Reps K F ds vs → Reps K F ds.reverse vs.reverse
  | _, _, .nil => .nil
  | _, _, .cons r t => by rw [List.reverse_cons, List.reverse_cons]; exact t.reverse.append (.cons r .nil)
theorem Reps.atI {ds : List D} {vs : List V} {i : Int} {d : D} (r : Reps K F ds vs) (h : atI ds i = some d) : ∃ v, L2.atI vs i = some v ∧ Rep K F d v := by
  unfold L2.atI at h ⊢
  rw [r.length] at h
  cases e : ixN vs.length i with
  | none => rw [e] at h; cases h
  | some j =>
    rw [e] at h
    exact r.get h
mutual
theorem Own.mono (s : Same F F') : ∀ {m : M} {v : V} {f : List Addr}, Own K F H m v f → (∀ p ∈ f, H' p = H p) → Own K F' H' m v f
  | _, _, _, .fz r, _ => .fz (r.mono s)
  | _, _, _, .tup h r, k => .tup (s _ _ h) (r.mono s k)
  | _, _, _, .lst h r, k => .lst ((k _ List.mem_cons_self).trans h) (r.mono s fun p hp => k p (List.mem_cons_of_mem _ hp))
theorem Owns.mono (s : Same F F') : ∀ {ms : List M} {vs : List V} {f : List Addr}, Owns K F H ms vs f → (∀ p ∈ f, H' p = H p) → Owns K F' H' ms vs f
  | _, _, _, .nil, _ => .nil
  | _, _, _, .cons r rs, k => .cons (r.mono s fun p hp => k p (List.mem_append_left _ hp)) (rs.mono s fun p hp => k p (List.mem_append_right _ hp))
end
theorem SlR.mono (s : Same F F') : ∀ {l : Sl} {σ : St} {f : List Addr}, SlR K F H l σ f → (∀ p ∈ f, H' p = H p) → SlR K F' H' l σ f
  | _, _, _, .nil, _ => .nil
  | _, _, _, .no r, k => .no (r.mono s k)
  | _, _, _, .so r rs, k => .so (r.mono s fun p hp => k p (List.mem_append_left _ hp)) (rs.mono s fun p hp => k p (List.mem_append_right _ hp))
mutual
/-- what is owned is tracked -/
theorem Own.there : ∀ {m : M} {v : V} {f : List Addr}, Own K F H m v f → ∀ p ∈ f, ∃ xs, H p = some (.lst xs)
  | _, _, _, .fz _, p, hp => by cases hp
  | _, _, _, .tup _ r, p, hp => r.there p hp
  | _, _, _, .lst h r, p, hp => by
    rcases List.mem_cons.mp hp with e | hp
    · subst e; exact ⟨_, h⟩
    · exact r.there p hp
theorem Owns.there : ∀ {ms : List M} {vs : List V} {f : List Addr}, Owns K F H ms vs f → ∀ p ∈ f, ∃ xs, H p = some (.lst xs)
  | _, _, _, .nil, p, hp => by cases hp
  | _, _, _, .cons r rs, p, hp => (List.mem_append.mp hp).elim (r.there p) (rs.there p)
end
theorem SlR.there : ∀ {l : Sl} {σ : St} {f : List Addr}, SlR K F H l σ f → ∀ p ∈ f, ∃ xs, H p = some (.lst xs)
  | _, _, _, .nil, p, hp => by cases hp
  | _, _, _, .no r, p, hp => r.there p hp
  | _, _, _, .so r rs, p, hp => (List.mem_append.mp hp).elim (r.there p) (rs.there p)
theorem Owns.length : ∀ {ms : List M} {vs : List V} {f : List Addr}, Owns K F H ms vs f → ms.length = vs.length
  | _, _, _, .nil => rfl
  | _, _, _, .cons _ rs => by rw [List.length_cons, List.length_cons, rs.length]
theorem SlR.length : ∀ {s : Sl} {σ : St} {f : List Addr}, SlR K F H s σ f → s.length = σ.length
  | _, _, _, .nil => rfl
  | _, _, _, .no rs => by rw [List.length_cons, List.length_cons, rs.length]
  | _, _, _, .so _ rs => by rw [List.length_cons, List.length_cons, rs.length]

/-! ### freezing -/
/-- F with what H has at f -/
def frz (F H : Hp) (f : List Addr) : Hp := fun p => if p ∈ f then H p else F p
theorem frz_nil : frz F H [] = F := by funext p; simp [frz]
theorem frz_same {f : List Addr} (s : Same F H) : Same F (frz F H f) := fun p o e => by
  unfold frz; split
  · exact s _ _ e
  · exact e
theorem frz_in {f : List Addr} (s : Same F H) : Same (frz F H f) H := fun p o e => by
  unfold frz at e; split at e
  · exact e
  · exact s _ _ e
theorem frz_mono {f g : List Addr} (s : Same F H) (h : ∀ p ∈ f, p ∈ g) : Same (frz F H f) (frz F H g) := fun p o e => by
  unfold frz at e ⊢
  by_cases hp : p ∈ f
  · rw [if_pos hp] at e; rw [if_pos (h p hp)]; exact e
  · rw [if_neg hp] at e
    split
    · exact s _ _ e
    · exact e
theorem frz_ne {f : List Addr} {p : Addr} (h : p ∉ f) : frz F H f p = F p := by unfold frz; rw [if_neg h]
theorem frz_eq {f : List Addr} {p : Addr} (h : p ∈ f) : frz F H f p = H p := by unfold frz; rw [if_pos h]
mutual
theorem Own.frz (s : Same F H) : ∀ {m : M} {v : V} {f : List Addr}, Own K F H m v f → Rep K (VS.frz F H f) m.toD v
  | _, _, _, .fz r => by rw [M.toD]; exact r.mono (frz_same s)
  | _, _, _, .tup h r => by rw [M.toD]; exact .tup (.inl (.inl (frz_same s _ _ h))) (r.frz s)
  | _, _, _, .lst (a := a) (fp := fp) h r => by
    rw [M.toD]
    exact .lst ((frz_eq List.mem_cons_self).trans h) ((r.frz s).mono (frz_mono s fun p hp => List.mem_cons_of_mem _ hp))
theorem Owns.frz (s : Same F H) : ∀ {ms : List M} {vs : List V} {f : List Addr}, Owns K F H ms vs f → Reps K (VS.frz F H f) (M.toDs ms) vs
  | _, _, _, .nil => by rw [M.toDs]; exact .nil
  | _, _, _, .cons r rs => by
    rw [M.toDs]
    exact .cons ((r.frz s).mono (frz_mono s fun p hp => List.mem_append_left _ hp)) ((rs.frz s).mono (frz_mono s fun p hp => List.mem_append_right _ hp))
end
theorem Own.rep (s : Same F H) {m : M} {v : V} {f : List Addr} (h : Own K F H m v f) : Rep K H m.toD v := (h.frz s).mono (frz_in s)

/-! ### a part in focus -/
theorem Owns.focus : ∀ {ms : List M} {vs : List V} {fp : List Addr} {j : Nat} {m : M}, Owns K F H ms vs fp → ms[j]? = some m →
    ∃ v f f1 f2, vs[j]? = some v ∧ Own K F H m v f ∧ fp = f1 ++ f ++ f2 ∧
      ∀ (F2 H2 : Hp) (m2 : M) (fn : List Addr), Same F F2 → (∀ p ∈ f1 ++ f2, H2 p = H p) → Own K F2 H2 m2 v fn → Owns K F2 H2 (ms.set j m2) vs (f1 ++ fn ++ f2)
  | _, _, _, _, _, .nil, e => by simp at e
  | _, _, _, 0, _, .cons (g := g) r rs, e => by
    simp at e; subst e
    refine ⟨_, _, [], _, rfl, r, by simp; rfl, fun F2 H2 m2 fn s k o => ?_⟩
    simp only [List.set_cons_zero, List.nil_append]
    exact .cons o (rs.mono s fun p hp => k p (by simpa using hp))
  | _, _, _, j + 1, m, .cons (f := f0) r rs, e => by
    obtain ⟨v, f, f1, f2, h1, h2, h3, h4⟩ := Owns.focus (j := j) (m := m) rs (by simpa using e)
    refine ⟨v, f, f0 ++ f1, f2, by simpa using h1, h2, by rw [h3]; simp, fun F2 H2 m2 fn s k o => ?_⟩
    have q := h4 F2 H2 m2 fn s (fun p hp => k p (by
      rcases List.mem_append.mp hp with h | h
      · exact List.mem_append_left _ (List.mem_append_right _ h)
      · exact List.mem_append_right _ h)) o
    simp only [List.set_cons_succ]
    have e2 : f0 ++ f1 ++ fn ++ f2 = f0 ++ (f1 ++ fn ++ f2) := by simp
    rw [e2]
    exact .cons (r.mono s fun p hp => k p (List.mem_append_left _ (List.mem_append_left _ hp))) q
/-- one selection, in the heap -/
def Rd1 (H : Hp) (v : V) (k : D) (v' : V) : Prop := ∃ a xs i, v = .ref a ∧ k = .int i ∧ (H a = some (.lst xs) ∨ H a = some (.tup xs)) ∧ L2.atI xs i = some v'
def RdP (H : Hp) : V → List D → V → Prop
  | v, [], w => v = w
  | v, k :: ks, w => ∃ u, Rd1 H v k u ∧ RdP H u ks w
theorem Rd1.det {v w u : V} {k : D} (h : Rd1 H v k w) (h' : Rd1 H v k u) : w = u := by
  obtain ⟨a, xs, i, e1, e2, h1, h2⟩ := h
  obtain ⟨b, ys, j, e3, e4, h3, h4⟩ := h'
  rw [e1] at e3; rw [e2] at e4
  cases e3; cases e4
  have e : xs = ys := by
    rcases h1 with h1 | h1 <;> rcases h3 with h3 | h3 <;> rw [h1] at h3 <;> cases h3 <;> rfl
  subst e
  rw [h2] at h4
  exact Option.some.inj h4
theorem Rd1.mono {v w : V} {k : D} (s : Same H H') (h : Rd1 H v k w) : Rd1 H' v k w := by
  obtain ⟨a, xs, i, e1, e2, h1, h2⟩ := h
  exact ⟨a, xs, i, e1, e2, h1.imp (s _ _) (s _ _), h2⟩
theorem RdP.det : ∀ {ks : List D} {v w u : V}, RdP H v ks w → RdP H v ks u → w = u
  | [], _, _, _, h, h' => by
    have h : _ = _ := h
    have h' : _ = _ := h'
    rw [← h, ← h']
  | k :: ks, v, w, u, ⟨a, h1, h2⟩, ⟨b, h3, h4⟩ => by
    have := h1.det h3
    subst this
    exact RdP.det h2 h4
theorem RdP.mono (s : Same H H') : ∀ {ks : List D} {v w : V}, RdP H v ks w → RdP H' v ks w
  | [], _, _, h => h
  | k :: ks, v, w, ⟨a, h1, h2⟩ => ⟨a, h1.mono s, h2.mono s⟩
theorem RdP.snoc : ∀ {ks : List D} {v w u : V} {k : D}, RdP H v ks w → Rd1 H w k u → RdP H v (ks ++ [k]) u
  | [], _, _, _, _, h, h' => by
    have h : _ = _ := h
    subst h
    exact ⟨_, h', rfl⟩
  | _ :: ks, v, w, u, k, ⟨a, h1, h2⟩, h' => ⟨a, h1, h2.snoc h'⟩
theorem atI_get {α : Type} {xs : List α} {i : Int} {x : α} (h : L2.atI xs i = some x) : ∃ j, ixN xs.length i = some j ∧ xs[j]? = some x := by
  unfold L2.atI at h
  cases e : ixN xs.length i with
  | none => rw [e] at h; cases h
  | some j => rw [e] at h; exact ⟨j, rfl, h⟩
theorem atI_of {α : Type} {xs : List α} {i : Int} {x : α} {j : Nat} (h : ixN xs.length i = some j) (h2 : xs[j]? = some x) : L2.atI xs i = some x := by
  unfold L2.atI; rw [h]; exact h2
/-- the part at a path -/
theorem Own.focus (sm : Same F H) : ∀ {ks : List D} {m m' : M} {v : V} {f : List Addr}, Own K F H m v f → m.sels ks = some m' →
    ∃ v' f' f1 f2, RdP H v ks v' ∧ Own K F H m' v' f' ∧ f = f1 ++ f' ++ f2 ∧
      ∀ (g : M → Option M) (F2 H2 : Hp) (m2 : M) (fn : List Addr), Same F F2 → (∀ p ∈ f1 ++ f2, H2 p = H p) → g m' = some m2 → Own K F2 H2 m2 v' fn → ∃ M2, M.upd g ks m = some M2 ∧ Own K F2 H2 M2 v (f1 ++ fn ++ f2)
  | [], m, m', v, f, o, e => by
    have e : some m = some m' := e
    cases e
    refine ⟨v, f, [], [], rfl, o, by simp, fun g F2 H2 m2 fn s k h o2 => ⟨m2, h, by simpa using o2⟩⟩
  | k :: ks, m, m', v, f, o, e => by
    rw [M.sels] at e
    cases em : m.sel k with
    | none => rw [em] at e; cases e
    | some m1 =>
      rw [em] at e
      have e : m1.sels ks = some m' := e
      cases o with
      | fz r => rw [M.sel] at em; cases em; all_goals (intros; simp_all)
      | @tup a ms vs fp ha r =>
        cases k with
        | int i =>
          have em : L2.atI ms i = some m1 := em
          obtain ⟨j, h1, h2⟩ := atI_get em
          obtain ⟨u, f0, g1, g2, q1, q2, q3, q4⟩ := r.focus h2
          obtain ⟨v', f', f1, f2, p1, p2, p3, p4⟩ := Own.focus sm q2 e
          refine ⟨v', f', g1 ++ f1, f2 ++ g2, ⟨u, ⟨a, vs, i, rfl, rfl, .inr (sm _ _ ha), atI_of (by rw [← r.length]; exact h1) q1⟩, p1⟩, p2, by rw [q3, p3]; simp, fun g F2 H2 m2 fn s k h o2 => ?_⟩
          obtain ⟨M1, w1, w2⟩ := p4 g F2 H2 m2 fn s (fun p hp => k p (by
            rcases List.mem_append.mp hp with h | h
            · exact List.mem_append_left _ (List.mem_append_right _ h)
            · exact List.mem_append_right _ (List.mem_append_left _ h))) h o2
          have w3 := q4 F2 H2 M1 _ s (fun p hp => k p (by
            rcases List.mem_append.mp hp with h | h
            · exact List.mem_append_left _ (List.mem_append_left _ h)
            · exact List.mem_append_right _ (List.mem_append_right _ h))) w2
          refine ⟨.tup (ms.set j M1), ?_, ?_⟩
          · rw [M.upd]
            show (ixN ms.length i).bind _ = _
            rw [h1]
            show (ms[j]?).bind _ = _
            rw [h2]
            show (M.upd g ks m1).map _ = _
            rw [w1]
            rfl
          · have e2 : g1 ++ f1 ++ fn ++ (f2 ++ g2) = g1 ++ (f1 ++ fn ++ f2) ++ g2 := by simp
            rw [e2]
            exact .tup (s _ _ ha) w3
        | _ => cases em
      | @lst a ms vs fp ha r =>
        cases k with
        | int i =>
          have em : L2.atI ms i = some m1 := em
          obtain ⟨j, h1, h2⟩ := atI_get em
          obtain ⟨u, f0, g1, g2, q1, q2, q3, q4⟩ := r.focus h2
          obtain ⟨v', f', f1, f2, p1, p2, p3, p4⟩ := Own.focus sm q2 e
          refine ⟨v', f', a :: (g1 ++ f1), f2 ++ g2, ⟨u, ⟨a, vs, i, rfl, rfl, .inl ha, atI_of (by rw [← r.length]; exact h1) q1⟩, p1⟩, p2, by rw [q3, p3]; simp, fun g F2 H2 m2 fn s k h o2 => ?_⟩
          obtain ⟨M1, w1, w2⟩ := p4 g F2 H2 m2 fn s (fun p hp => k p (by
            rcases List.mem_append.mp hp with h | h
            · exact List.mem_append_left _ (List.mem_cons_of_mem _ (List.mem_append_right _ h))
            · exact List.mem_append_right _ (List.mem_append_left _ h))) h o2
          have w3 := q4 F2 H2 M1 _ s (fun p hp => k p (by
            rcases List.mem_append.mp hp with h | h
            · exact List.mem_append_left _ (List.mem_cons_of_mem _ (List.mem_append_left _ h))
            · exact List.mem_append_right _ (List.mem_append_right _ h))) w2
          refine ⟨.lst (ms.set j M1), ?_, ?_⟩
          · rw [M.upd]
            show (ixN ms.length i).bind _ = _
            rw [h1]
            show (ms[j]?).bind _ = _
            rw [h2]
            show (M.upd g ks m1).map _ = _
            rw [w1]
            rfl
          · have e2 : a :: (g1 ++ f1) ++ fn ++ (f2 ++ g2) = a :: (g1 ++ (f1 ++ fn ++ f2) ++ g2) := by simp
            rw [e2]
            exact .lst ((k a (List.mem_append_left _ List.mem_cons_self)).trans ha) w3
        | _ => cases em
/-- the slot in focus -/
theorem SlR.focus : ∀ {s : Sl} {σ : St} {fp : List Addr} {i : Nat} {m : M}, SlR K F H s σ fp → s[i]? = some (some m) →
    ∃ v f f1 f2, σ[i]? = some (some v) ∧ Own K F H m v f ∧ fp = f1 ++ f ++ f2 ∧
      (∀ (F2 H2 : Hp) (m2 : M) (v2 : V) (fn : List Addr), Same F F2 → (∀ p ∈ f1 ++ f2, H2 p = H p) → Own K F2 H2 m2 v2 fn → SlR K F2 H2 (s.set i (some m2)) (σ.set i (some v2)) (f1 ++ fn ++ f2)) ∧
      (∀ (F2 H2 : Hp) (o : Option V), Same F F2 → (∀ p ∈ f1 ++ f2, H2 p = H p) → SlR K F2 H2 (s.set i none) (σ.set i o) (f1 ++ f2))
  | _, _, _, _, _, .nil, e => by simp at e
  | _, _, _, 0, _, .no _, e => by simp at e
  | _, _, _, 0, _, .so (g := g) r rs, e => by
    simp at e; subst e
    refine ⟨_, _, [], _, rfl, r, by simp; rfl, fun F2 H2 m2 v2 fn s k o => ?_, fun F2 H2 o s k => ?_⟩
    · simp only [List.set_cons_zero, List.nil_append]
      exact .so o (rs.mono s fun p hp => k p (by simpa using hp))
    · simp only [List.set_cons_zero, List.nil_append]
      exact .no (rs.mono s fun p hp => k p (by simpa using hp))
  | _, _, _, i + 1, m, .no rs, e => by
    obtain ⟨v, f, f1, f2, h1, h2, h3, h4, h5⟩ := SlR.focus (i := i) (m := m) rs (by simpa using e)
    refine ⟨v, f, f1, f2, by simpa using h1, h2, h3, fun F2 H2 m2 v2 fn s k o => ?_, fun F2 H2 o s k => ?_⟩
    · simp only [List.set_cons_succ]; exact .no (h4 F2 H2 m2 v2 fn s k o)
    · simp only [List.set_cons_succ]; exact .no (h5 F2 H2 o s k)
  | _, _, _, i + 1, m, .so (f := f0) r rs, e => by
    obtain ⟨v, f, f1, f2, h1, h2, h3, h4, h5⟩ := SlR.focus (i := i) (m := m) rs (by simpa using e)
    have kk : ∀ {H2 : Hp}, (∀ p ∈ f0 ++ f1 ++ f2, H2 p = H p) → ∀ p ∈ f1 ++ f2, H2 p = H p := fun k p hp => k p (by
      rcases List.mem_append.mp hp with h | h
      · exact List.mem_append_left _ (List.mem_append_right _ h)
      · exact List.mem_append_right _ h)
    refine ⟨v, f, f0 ++ f1, f2, by simpa using h1, h2, by rw [h3]; simp, fun F2 H2 m2 v2 fn s k o => ?_, fun F2 H2 o s k => ?_⟩
    · have q := h4 F2 H2 m2 v2 fn s (kk k) o
      simp only [List.set_cons_succ]
      have e2 : f0 ++ f1 ++ fn ++ f2 = f0 ++ (f1 ++ fn ++ f2) := by simp
      rw [e2]
      exact .so (r.mono s fun p hp => k p (List.mem_append_left _ (List.mem_append_left _ hp))) q
    · have q := h5 F2 H2 o s (kk k)
      simp only [List.set_cons_succ]
      have e2 : f0 ++ f1 ++ f2 = f0 ++ (f1 ++ f2) := by simp
      rw [e2]
      exact .so (r.mono s fun p hp => k p (List.mem_append_left _ (List.mem_append_left _ hp))) q
/-- a slot is stored to -/
theorem SlR.set : ∀ {s : Sl} {σ : St} {fp : List Addr} {i : Nat} {m : M} {v : V} {fn : List Addr}, SlR K F H s σ fp → i < s.length → Own K F H m v fn →
    ∃ fd fp', SlR K F H (s.set i (some m)) (σ.set i (some v)) fp' ∧ (fd ++ fp').Perm (fn ++ fp)
  | _, _, _, _, _, _, _, .nil, h, _ => by simp at h
  | _, _, _, 0, _, _, fn, .no (g := g) r, h, o => by
    refine ⟨[], fn ++ g, ?_, by simp⟩
    simp only [List.set_cons_zero]
    exact .so o r
  | _, _, _, 0, _, _, fn, .so (f := f) (g := g) r rs, h, o => by
    refine ⟨f, fn ++ g, ?_, ?_⟩
    · simp only [List.set_cons_zero]
      exact .so o rs
    · rw [← List.append_assoc, ← List.append_assoc]
      exact List.perm_append_comm.append_right _
  | _, _, _, i + 1, _, _, fn, .no rs, h, o => by
    obtain ⟨fd, fp', q, pm⟩ := SlR.set (i := i) rs (by simpa using h) o
    refine ⟨fd, fp', ?_, pm⟩
    simp only [List.set_cons_succ]
    exact .no q
  | _, _, _, i + 1, _, _, fn, .so (f := f) (g := g) r rs, h, o => by
    obtain ⟨fd, fp', q, pm⟩ := SlR.set (i := i) rs (by simpa using h) o
    refine ⟨fd, f ++ fp', ?_, ?_⟩
    · simp only [List.set_cons_succ]
      exact .so r q
    · rw [← List.append_assoc, ← List.append_assoc]
      refine (List.perm_append_comm.append_right _).trans ?_
      rw [List.append_assoc]
      refine (List.Perm.append_left f pm).trans ?_
      rw [← List.append_assoc]
      exact List.perm_append_comm.append_right _
/-- a slot is emptied -/
theorem SlR.clear : ∀ {s : Sl} {σ : St} {fp : List Addr} {i : Nat} {o : Option V}, SlR K F H s σ fp →
    ∃ fd fp', SlR K F H (s.set i none) (σ.set i o) fp' ∧ (fd ++ fp').Perm fp
  | _, _, _, _, _, .nil => ⟨[], [], .nil, .refl _⟩
  | _, _, _, 0, _, .no (g := g) r => ⟨[], g, .no r, by simp⟩
  | _, _, _, 0, _, .so (f := f) (g := g) r rs => ⟨f, g, .no rs, .refl _⟩
  | _, _, _, i + 1, o, .no rs => by
    obtain ⟨fd, fp', q, pm⟩ := SlR.clear (i := i) (o := o) rs
    exact ⟨fd, fp', .no q, pm⟩
  | _, _, _, i + 1, o, .so (f := f) (g := g) r rs => by
    obtain ⟨fd, fp', q, pm⟩ := SlR.clear (i := i) (o := o) rs
    refine ⟨fd, f ++ fp', .so r q, ?_⟩
    rw [← List.append_assoc]
    refine (List.perm_append_comm.append_right _).trans ?_
    rw [List.append_assoc]
    exact List.Perm.append_left f pm
end VS
end

section
/-! VS: states and steps. -/
namespace VS
open PySem L2
variable {K : PySem.W.Frag}

structure Ok (K : PySem.W.Frag) (F H : Hp) (s : Sl) (σ : St) (fp : List Addr) : Prop where
  same : Same F H
  rep : SlR K F H s σ fp
  nd : fp.Nodup
  dis : ∀ p ∈ fp, F p = none
/-- an expression's step: the heap grows -/
structure Good (K : PySem.W.Frag) (F H : Hp) (fp : List Addr) (F' H' : Hp) (s' : Sl) (σ : St) (fm fp' : List Addr) : Prop where
  mono : Same F F'
  heap : Same H H'
  org : ∀ p ∈ fm ++ fp', p ∈ fp ∨ H p = none
  new : ∀ p o, F' p = some o → F p = some o ∨ p ∈ fp ∨ H p = none
  ok : Ok K F' H' s' σ fp'
  nd : (fm ++ fp').Nodup
  dis : ∀ p ∈ fm, F' p = none
  dom : ∀ p ∈ fm, H' p ≠ none

theorem same_none {H H' : Hp} (s : Same H H') {p : Addr} (h : H' p = none) : H p = none := by
  cases e : H p with
  | none => rfl
  | some o => rw [s _ _ e] at h; cases h
theorem none_of_ne {H : Hp} {p : Addr} (h : ∀ o, H p ≠ some o) : H p = none := by
  cases e : H p with
  | none => rfl
  | some o => exact absurd e (h o)
theorem same_refl (H : Hp) : Same H H := fun _ _ e => e
theorem same_trans {A B C : Hp} (h : Same A B) (g : Same B C) : Same A C := fun p o e => g p o (h p o e)
theorem same_fresh {H : Hp} {p : Addr} {o : HO} (h : H p = none) : Same H (upd H p o) := fun b x e => by
  rw [upd_ne (ne_of_none e h)]; exact e
theorem same_upd2 {F H : Hp} {p : Addr} {o : HO} (s : Same F H) : Same (upd F p o) (upd H p o) := fun b x e => by
  by_cases hb : b = p
  · subst hb; rw [upd_same] at e ⊢; exact e
  · rw [upd_ne hb] at e ⊢; exact s b x e

section
variable {F H F' H' F1 H1 F2 H2 : Hp} {fp fp' fm fm' ft fp1 fp2 fm1 fm2 : List Addr} {s s' s1 s2 : Sl} {σ : St}
theorem Ok.dom (o : Ok K F H s σ fp) : ∀ p ∈ fp, H p ≠ none := fun p hp e => by
  obtain ⟨xs, h⟩ := o.rep.there p hp
  rw [e] at h; cases h
theorem Ok.good (o : Ok K F H s σ fp) : Good K F H fp F H s σ [] fp :=
  ⟨same_refl _, same_refl _, fun p hp => .inl (by simpa using hp), fun p x e => .inl e, o, by simpa using o.nd, fun p hp => (by cases hp), fun p hp => (by cases hp)⟩
theorem Good.domA (g : Good K F H fp F' H' s' σ fm fp') : ∀ p ∈ fm ++ fp', H' p ≠ none := fun p hp => (List.mem_append.mp hp).elim (g.dom p) (g.ok.dom p)
theorem Good.disA (g : Good K F H fp F' H' s' σ fm fp') : ∀ p ∈ fm ++ fp', F' p = none := fun p hp => (List.mem_append.mp hp).elim (g.dis p) (g.ok.dis p)
theorem Good.frame (g : Good K F H fp F' H' s' σ fm fp') (nd : (ft ++ fp).Nodup) (dis : ∀ p ∈ ft, F p = none) (dom : ∀ p ∈ ft, H p ≠ none) : Good K F H (ft ++ fp) F' H' s' σ (ft ++ fm) fp' := by
  have dj : ∀ p ∈ ft, p ∉ fp := fun p h1 h2 => (List.nodup_append.mp nd).2.2 p h1 p h2 rfl
  refine ⟨g.mono, g.heap, fun p hp => ?_, fun p o e => ?_, g.ok, ?_, fun p hp => ?_, fun p hp => ?_⟩
  · rw [List.append_assoc] at hp
    rcases List.mem_append.mp hp with hp | hp
    · exact .inl (List.mem_append_left _ hp)
    · exact (g.org p hp).imp (List.mem_append_right _) id
  · exact (g.new p o e).imp id (Or.imp (List.mem_append_right _) id)
  · rw [List.append_assoc]
    refine List.nodup_append.mpr ⟨(List.nodup_append.mp nd).1, g.nd, fun a ha b hb e => ?_⟩
    subst e
    rcases g.org a hb with h | h
    · exact dj a ha h
    · exact dom a ha h
  · rcases List.mem_append.mp hp with hp | hp
    · refine none_of_ne fun o e => ?_
      rcases g.new p o e with h | h | h
      · rw [dis p hp] at h; cases h
      · exact dj p hp h
      · exact dom p hp h
    · exact g.dis p hp
  · rcases List.mem_append.mp hp with hp | hp
    · exact fun e => dom p hp (same_none g.heap e)
    · exact g.dom p hp
theorem Good.trans {σ0 : St} (g : Good K F H fp F1 H1 s1 σ0 fm1 fp1) (g2 : Good K F1 H1 (fm1 ++ fp1) F2 H2 s2 σ fm2 fp2) : Good K F H fp F2 H2 s2 σ fm2 fp2 := by
  refine ⟨same_trans g.mono g2.mono, same_trans g.heap g2.heap, fun p hp => ?_, fun p o e => ?_, g2.ok, g2.nd, g2.dis, g2.dom⟩
  · rcases g2.org p hp with h | h
    · exact g.org p h
    · exact .inr (same_none g.heap h)
  · rcases g2.new p o e with h | h | h
    · exact g.new p o h
    · exact .inr (g.org p h)
    · exact .inr (.inr (same_none g.heap h))
/-- one more expression, what is held meanwhile stays -/
theorem Good.then {σ0 : St} (g : Good K F H fp F1 H1 s1 σ0 fm1 fp1) (g2 : Good K F1 H1 fp1 F2 H2 s2 σ fm2 fp2) : Good K F H fp F2 H2 s2 σ (fm1 ++ fm2) fp2 :=
  g.trans (g2.frame g.nd g.dis g.dom)
/-- another view of the slots -/
theorem Good.restate {σ2 : St} {fd : List Addr} (g : Good K F H fp F' H' s' σ fm fp') (r : SlR K F' H' s2 σ2 fp2) (p : (fd ++ fp2).Perm fp') : Good K F H fp F' H' s2 σ2 fm fp2 := by
  have sub : ∀ q ∈ fp2, q ∈ fp' := fun q hq => p.subset (List.mem_append_right _ hq)
  have nd2 : fp2.Nodup := (List.nodup_append.mp (p.nodup_iff.mpr g.ok.nd)).2.1
  refine ⟨g.mono, g.heap, fun q hq => ?_, g.new, ⟨g.ok.same, r, nd2, fun q hq => g.ok.dis q (sub q hq)⟩, ?_, g.dis, g.dom⟩
  · rcases List.mem_append.mp hq with h | h
    · exact g.org q (List.mem_append_left _ h)
    · exact g.org q (List.mem_append_right _ (sub q h))
  · have n := List.nodup_append.mp g.nd
    exact List.nodup_append.mpr ⟨n.1, nd2, fun a ha b hb e => n.2.2 a ha b (sub b hb) e⟩
/-- .. and some of it held -/
theorem Good.hold {σ2 : St} {fh : List Addr} (g : Good K F H fp F' H' s' σ fm fp') (r : SlR K F' H' s2 σ2 fp2) (p : (fh ++ fp2).Perm fp') : Good K F H fp F' H' s2 σ2 (fm ++ fh) fp2 := by
  have sub : ∀ q ∈ fh ++ fp2, q ∈ fp' := fun q hq => p.subset hq
  have nd2 := p.nodup_iff.mpr g.ok.nd
  refine ⟨g.mono, g.heap, fun q hq => ?_, g.new, ⟨g.ok.same, r, (List.nodup_append.mp nd2).2.1, fun q hq => g.ok.dis q (sub q (List.mem_append_right _ hq))⟩, ?_, fun q hq => ?_, fun q hq => ?_⟩
  · rw [List.append_assoc] at hq
    rcases List.mem_append.mp hq with h | h
    · exact g.org q (List.mem_append_left _ h)
    · exact g.org q (List.mem_append_right _ (sub q h))
  · rw [List.append_assoc]
    have n := List.nodup_append.mp g.nd
    exact List.nodup_append.mpr ⟨n.1, nd2, fun a ha b hb e => n.2.2 a ha b (sub b hb) e⟩
  · rcases List.mem_append.mp hq with h | h
    · exact g.dis q h
    · exact g.ok.dis q (sub q (List.mem_append_left _ h))
  · rcases List.mem_append.mp hq with h | h
    · exact g.dom q h
    · exact g.ok.dom q (sub q (List.mem_append_left _ h))
/-- what is held comes back into slots -/
theorem Good.give {σ2 : St} {fh fd fp3 : List Addr} (g : Good K F H fp F' H' s' σ (fm ++ fh) fp') (r : SlR K F' H' s2 σ2 fp3) (p : (fd ++ fp3).Perm (fh ++ fp')) : Good K F H fp F' H' s2 σ2 fm fp3 := by
  have sub : ∀ q ∈ fp3, q ∈ fh ++ fp' := fun q hq => p.subset (List.mem_append_right _ hq)
  have nd := g.nd
  rw [List.append_assoc] at nd
  have n := List.nodup_append.mp nd
  have nd3 : fp3.Nodup := (List.nodup_append.mp (p.nodup_iff.mpr n.2.1)).2.1
  refine ⟨g.mono, g.heap, fun q hq => ?_, g.new, ⟨g.ok.same, r, nd3, fun q hq => ?_⟩, List.nodup_append.mpr ⟨n.1, nd3, fun a ha b hb e => n.2.2 a ha b (sub b hb) e⟩, fun q hq => g.dis q (List.mem_append_left _ hq), fun q hq => g.dom q (List.mem_append_left _ hq)⟩
  · refine g.org q ?_
    rw [List.append_assoc]
    rcases List.mem_append.mp hq with h | h
    · exact List.mem_append_left _ h
    · exact List.mem_append_right _ (sub q h)
  · rcases List.mem_append.mp (sub q hq) with h | h
    · exact g.dis q (List.mem_append_right _ h)
    · exact g.ok.dis q h
/-- what is held is let go -/
theorem Good.drop (g : Good K F H fp F' H' s' σ fm fp') (h : fm'.Sublist fm) : Good K F H fp F' H' s' σ fm' fp' :=
  ⟨g.mono, g.heap, fun p hp => g.org p ((List.Sublist.append_right h fp').subset hp), g.new, g.ok, g.nd.sublist (List.Sublist.append_right h fp'), fun p hp => g.dis p (h.subset hp), fun p hp => g.dom p (h.subset hp)⟩
theorem Good.none (g : Good K F H fp F' H' s' σ fm fp') : Good K F H fp F' H' s' σ [] fp' := g.drop (List.nil_sublist _)
theorem Good.perm (g : Good K F H fp F' H' s' σ fm fp') (h : fm'.Perm fm) : Good K F H fp F' H' s' σ fm' fp' :=
  ⟨g.mono, g.heap, fun p hp => g.org p ((h.append_right fp').subset hp), g.new, g.ok, (h.append_right fp').nodup_iff.mpr g.nd, fun p hp => g.dis p (h.subset hp), fun p hp => g.dom p (h.subset hp)⟩
/-- a new mutable object is held -/
theorem Good.freshL (g : Good K F H fp F' H' s' σ fm fp') {p : Addr} {o : HO} (hp : H' p = Option.none) : Good K F H fp F' (upd H' p o) s' σ (p :: fm) fp' := by
  have fr : Same H' (upd H' p o) := same_fresh hp
  have npm : p ∉ fm ++ fp' := fun hm => g.domA p hm hp
  refine ⟨g.mono, same_trans g.heap fr, fun q hq => ?_, g.new, ⟨same_trans g.ok.same fr, g.ok.rep.mono (same_refl _) fun q hq => upd_ne fun e => npm (by rw [← e]; exact List.mem_append_right _ hq), g.ok.nd, g.ok.dis⟩, ?_, fun q hq => ?_, fun q hq => ?_⟩
  · rcases List.mem_cons.mp hq with e | hq
    · subst e; exact .inr (same_none g.heap hp)
    · exact g.org q hq
  · exact List.nodup_cons.mpr ⟨npm, g.nd⟩
  · rcases List.mem_cons.mp hq with e | hq
    · subst e; exact same_none g.ok.same hp
    · exact g.dis q hq
  · rcases List.mem_cons.mp hq with e | hq
    · subst e; rw [upd_same]; exact fun e => by cases e
    · rw [upd_ne fun e => npm (by rw [← e]; exact List.mem_append_left _ hq)]; exact g.dom q hq
/-- a new object is frozen -/
theorem Good.freshF (g : Good K F H fp F' H' s' σ fm fp') {p : Addr} {o : HO} (hp : H' p = Option.none) : Good K F H fp (upd F' p o) (upd H' p o) s' σ fm fp' := by
  have fr : Same H' (upd H' p o) := same_fresh hp
  have frF : Same F' (upd F' p o) := same_fresh (same_none g.ok.same hp)
  have npm : p ∉ fm ++ fp' := fun hm => g.domA p hm hp
  have ne : ∀ q ∈ fm ++ fp', q ≠ p := fun q hq e => npm (by rw [← e]; exact hq)
  refine ⟨same_trans g.mono frF, same_trans g.heap fr, g.org, fun q x e => ?_, ⟨same_upd2 g.ok.same, g.ok.rep.mono frF fun q hq => upd_ne (ne q (List.mem_append_right _ hq)), g.ok.nd, fun q hq => by rw [upd_ne (ne q (List.mem_append_right _ hq))]; exact g.ok.dis q hq⟩, g.nd, fun q hq => ?_, fun q hq => ?_⟩
  · by_cases hq : q = p
    · subst hq; exact .inr (.inr (same_none g.heap hp))
    · rw [upd_ne hq] at e; exact g.new q x e
  · rw [upd_ne (ne q (List.mem_append_left _ hq))]; exact g.dis q hq
  · rw [upd_ne (ne q (List.mem_append_left _ hq))]; exact g.dom q hq
/-- what is held is frozen: a part f of it -/
theorem Good.frz (g : Good K F H fp F' H' s' σ (fm1 ++ fm ++ fm2) fp') : Good K F H fp (VS.frz F' H' fm) H' s' σ (fm1 ++ fm2) fp' := by
  have sm := frz_same (f := fm) g.ok.same
  have nd := g.nd
  have dj : ∀ q ∈ fm, q ∉ fp' ∧ q ∉ fm1 ++ fm2 := fun q hq => by
    refine ⟨fun h => ?_, fun h => ?_⟩
    · exact (List.nodup_append.mp nd).2.2 q (List.mem_append_left _ (List.mem_append_right _ hq)) q h rfl
    · have n2 := (List.nodup_append.mp nd).1
      rcases List.mem_append.mp h with h | h
      · exact (List.nodup_append.mp (List.nodup_append.mp n2).1).2.2 q h q hq rfl
      · exact (List.nodup_append.mp n2).2.2 q (List.mem_append_right _ hq) q h rfl
  have sub : (fm1 ++ fm2).Sublist (fm1 ++ fm ++ fm2) := by
    rw [List.append_assoc]
    exact List.Sublist.append_left (List.sublist_append_right _ _) _
  refine ⟨same_trans g.mono sm, g.heap, fun q hq => g.org q ((List.Sublist.append_right sub fp').subset hq), fun q x e => ?_,
    ⟨frz_in g.ok.same, g.ok.rep.mono sm fun _ _ => rfl, g.ok.nd, fun q hq => ?_⟩, nd.sublist (List.Sublist.append_right sub fp'), fun q hq => ?_, fun q hq => g.dom q (sub.subset hq)⟩
  · by_cases hq : q ∈ fm
    · exact .inr (g.org q (List.mem_append_left _ (List.mem_append_left _ (List.mem_append_right _ hq))))
    · rw [frz_ne hq] at e; exact g.new q x e
  · rw [frz_ne fun h => (dj q h).1 hq]; exact g.ok.dis q hq
  · rw [frz_ne fun h => (dj q h).2 hq]; exact g.dis q (sub.subset hq)
theorem Good.frzA (g : Good K F H fp F' H' s' σ fm fp') : Good K F H fp (VS.frz F' H' fm) H' s' σ [] fp' := by
  have := Good.frz (fm1 := []) (fm := fm) (fm2 := []) (g.perm (by simp))
  simpa using this

/-! ### results -/
def RelR (K : PySem.W.Frag) (F H : Hp) (σ : St) (r : Res) (v : V) (fm : List Addr) : Prop := match r with
  | .pl p => fm = [] ∧ ∃ v0, σ[p.i]? = some (some v0) ∧ RdP H v0 p.path v
  | .m m => Own K F H m v fm
theorem Own.same (sF : Same F F') (sH : Same H H') : ∀ {m : M} {v : V} {f : List Addr}, Own K F H m v f → Own K F' H' m v f := fun o =>
  o.mono sF fun p hp => by
    obtain ⟨xs, h⟩ := o.there p hp
    rw [h]; exact sH _ _ h
theorem RelR.same {r : Res} {v : V} {fm : List Addr} (sF : Same F F') (sH : Same H H') (h : RelR K F H σ r v fm) : RelR K F' H' σ r v fm := by
  cases r with
  | pl p => obtain ⟨e, v0, h1, h2⟩ := h; exact ⟨e, v0, h1, h2.mono sH⟩
  | m m => exact Own.same sF sH h
/-- the part at a place in focus -/
theorem Ok.focus (o : Ok K F H s σ fp) {p : Pl} {m : M} {v0 v : V} (h : getP s p = some m) (h0 : σ[p.i]? = some (some v0)) (hr : RdP H v0 p.path v) :
    ∃ f f1 f2, Own K F H m v f ∧ fp = f1 ++ f ++ f2 ∧
      ∀ (g : M → Option M) (F2 H2 : Hp) (m2 : M) (fn : List Addr), Same F F2 → (∀ q ∈ f1 ++ f2, H2 q = H q) → g m = some m2 → Own K F2 H2 m2 v fn → ∃ s2, updP s p g = some s2 ∧ SlR K F2 H2 s2 σ (f1 ++ fn ++ f2) := by
  unfold getP at h
  split at h
  · rename_i mr hm
    obtain ⟨w, f0, g1, g2, q1, q2, q3, q4, _⟩ := o.rep.focus hm
    rw [h0] at q1
    cases q1
    obtain ⟨v', f, f1, f2, p1, p2, p3, p4⟩ := q2.focus o.same h
    have e := p1.det hr
    subst e
    refine ⟨f, g1 ++ f1, f2 ++ g2, p2, by rw [q3, p3]; simp, fun g F2 H2 m2 fn sm k hg ow => ?_⟩
    obtain ⟨M2, w1, w2⟩ := p4 g F2 H2 m2 fn sm (fun q hq => k q (by
      rcases List.mem_append.mp hq with h | h
      · exact List.mem_append_left _ (List.mem_append_right _ h)
      · exact List.mem_append_right _ (List.mem_append_left _ h))) hg ow
    have w3 := q4 F2 H2 M2 v0 _ sm (fun q hq => k q (by
      rcases List.mem_append.mp hq with h | h
      · exact List.mem_append_left _ (List.mem_append_left _ h)
      · exact List.mem_append_right _ (List.mem_append_right _ h))) w2
    refine ⟨s.set p.i (some M2), ?_, ?_⟩
    · unfold updP
      rw [hm]
      show (M.upd g p.path mr).map _ = _
      rw [w1]; rfl
    · have e2 : g1 ++ f1 ++ fn ++ (f2 ++ g2) = g1 ++ (f1 ++ fn ++ f2) ++ g2 := by simp
      rw [e2]
      have e3 : σ.set p.i (some v0) = σ := by
        apply List.ext_getElem?
        intro j
        by_cases hj : p.i = j
        · subst hj
          rw [List.getElem?_set_self (by exact (List.getElem?_eq_some_iff.mp h0).1), h0]
        · rw [List.getElem?_set_ne hj]
      rw [e3] at w3
      exact w3
  · cases h
theorem toV_ok (o : Ok K F H s σ fp) {r : Res} {v : V} {fm : List Addr} {d : D} (h : RelR K F H σ r v fm) (e : toV s r = some d) : Rep K H d v := by
  cases r with
  | pl p =>
    obtain ⟨_, v0, h1, h2⟩ := h
    have e : (getP s p).map M.toD = some d := e
    cases eg : getP s p with
    | none => rw [eg] at e; cases e
    | some m =>
      rw [eg] at e
      cases e
      obtain ⟨f, _, _, ow, _⟩ := o.focus eg h1 h2
      exact ow.rep o.same
  | m m =>
    cases e
    exact Own.rep o.same h
theorem frzP_ok (o : Ok K F H s σ fp) {p : Pl} {v0 v : V} (h0 : σ[p.i]? = some (some v0)) (hr : RdP H v0 p.path v) {d : D} {s2 : Sl} (e : frzP s p = some (d, s2)) :
    ∃ F2 fp2, Good K F H fp F2 H s2 σ [] fp2 ∧ Rep K F2 d v := by
  unfold frzP at e
  cases eg : getP s p with
  | none => rw [eg] at e; cases e
  | some m =>
    obtain ⟨f, f1, f2, ow, ef, back⟩ := o.focus eg h0 hr
    have gen : ∀ d s2, ((updP s p fun m => some (.fz m.toD)).map fun s' => (m.toD, s')) = some (d, s2) → ∃ F2 fp2, Good K F H fp F2 H s2 σ [] fp2 ∧ Rep K F2 d v := fun d s2 e => by
      have sm := frz_same (f := f) o.same
      have rp := ow.frz o.same
      obtain ⟨s3, w1, w2⟩ := back (fun m => some (.fz m.toD)) (frz F H f) H (.fz m.toD) [] sm (fun _ _ => rfl) rfl (.fz rp)
      rw [w1] at e
      cases e
      have nd := o.nd
      rw [ef] at nd
      have sub : (f1 ++ [] ++ f2).Sublist (f1 ++ f ++ f2) := by
        simp only [List.append_nil]
        rw [List.append_assoc]
        exact List.Sublist.append_left (List.sublist_append_right _ _) _
      have sub' : ∀ q ∈ f1 ++ [] ++ f2, q ∈ fp := fun q hq => by rw [ef]; exact sub.subset hq
      have nf : ∀ q ∈ f1 ++ [] ++ f2, q ∉ f := fun q hq hf => by
        have n2 := List.nodup_append.mp nd
        rcases List.mem_append.mp hq with h | h
        · exact (List.nodup_append.mp n2.1).2.2 q (by simpa using h) q hf rfl
        · exact n2.2.2 q (List.mem_append_right _ hf) q h rfl
      refine ⟨frz F H f, f1 ++ [] ++ f2, ⟨sm, same_refl _, fun q hq => .inl (sub' q (by simpa using hq)), fun q x e => ?_, ⟨frz_in o.same, w2, nd.sublist sub, fun q hq => ?_⟩, by simpa using nd.sublist sub, fun q hq => (by cases hq), fun q hq => (by cases hq)⟩, rp⟩
      · by_cases hq : q ∈ f
        · exact .inr (.inl (by rw [ef]; exact List.mem_append_left _ (List.mem_append_right _ hq)))
        · rw [frz_ne hq] at e; exact .inl e
      · rw [frz_ne (nf q hq)]; exact o.dis q (sub' q hq)
    rw [eg] at e
    cases m with
    | fz d0 =>
      cases e
      cases ow with
      | fz r => exact ⟨F, fp, o.good, r⟩
    | tup ms => exact gen _ _ e
    | lst ms => exact gen _ _ e
    | ins c ms => exact gen _ _ e
/-- a result as a value that is stored -/
theorem toS_ok (g : Good K F H fp F' H' s' σ fm fp') {r : Res} {v : V} (h : RelR K F' H' σ r v fm) {m : M} {s2 : Sl} (e : toS s' r = some (m, s2)) :
    ∃ F2 fm2 fp2, Good K F H fp F2 H' s2 σ fm2 fp2 ∧ Own K F2 H' m v fm2 := by
  cases r with
  | pl p =>
    obtain ⟨hf, v0, h1, h2⟩ := h
    subst hf
    have e : ((frzP s' p).map fun x => (M.fz x.1, x.2)) = some (m, s2) := e
    cases eg : frzP s' p with
    | none => rw [eg] at e; cases e
    | some x =>
      rw [eg] at e
      cases e
      obtain ⟨F2, fp2, g2, rp⟩ := frzP_ok g.ok h1 h2 (d := x.1) (s2 := x.2) eg
      exact ⟨F2, [], fp2, g.trans (by simpa using g2), .fz rp⟩
  | m m' =>
    cases e
    exact ⟨F', fm, fp', g, h⟩
theorem toF_ok (g : Good K F H fp F' H' s' σ fm fp') {r : Res} {v : V} (h : RelR K F' H' σ r v fm) {d : D} {s2 : Sl} (e : toF s' r = some (d, s2)) :
    ∃ F2 fp2, Good K F H fp F2 H' s2 σ [] fp2 ∧ Rep K F2 d v := by
  unfold toF at e
  cases eg : toS s' r with
  | none => rw [eg] at e; cases e
  | some x =>
    rw [eg] at e
    cases e
    obtain ⟨F2, fm2, fp2, g2, ow⟩ := toS_ok g h (m := x.1) (s2 := x.2) eg
    exact ⟨_, fp2, g2.frzA, ow.frz g2.ok.same⟩
def isL : Option D → Bool
  | some (.lst _) => true
  | _ => false
/-- the items of a list (b) or tuple, to be shared: what is read, what the items are -/
def SqAt (K : PySem.W.Frag) (H : Hp) (b : Bool) (v : V) (vs : List V) : Prop := ∃ a, v = .ref a ∧ (if b = true then H a = some (.lst vs) else SqT K H a vs)
theorem SqAt.same {b : Bool} {v : V} {vs : List V} (sH : Same H H') (h : SqAt K H b v vs) : SqAt K H' b v vs := by
  obtain ⟨a, e, h⟩ := h
  refine ⟨a, e, ?_⟩
  split
  · rename_i hb; rw [if_pos hb] at h; exact sH _ _ h
  · rename_i hb; rw [if_neg hb] at h; exact sqT_mono h sH
theorem SqAt.any {b : Bool} {v : V} {vs : List V} (h : SqAt K H b v vs) : ∃ a, v = .ref a ∧ (SqL K H a vs ∨ SqT K H a vs) := by
  obtain ⟨a, e, h⟩ := h
  refine ⟨a, e, ?_⟩
  split at h
  · exact .inl (SqL.of h)
  · exact .inr h
theorem items_ok {d : D} {v : V} {ds : List D} (r : Rep K F d v) (e : d.items = some ds) : ∃ vs, SqAt K F (isL (some d)) v vs ∧ Reps K F ds vs := by
  cases r with
  | tup h rs => cases e; exact ⟨_, ⟨_, rfl, h⟩, rs⟩
  | lst h rs => cases e; exact ⟨_, ⟨_, rfl, h⟩, rs⟩
  | non => cases e
  | bl _ => cases e
  | int _ => cases e
  | str _ => cases e
  | scr _ => cases e
theorem Owns.allD : ∀ {ms : List M} {vs : List V} {f : List Addr}, Owns K F H ms vs f → ms.all M.isD = true → Reps K F (M.toDs ms) vs
  | _, _, _, .nil, _ => by rw [M.toDs]; exact .nil
  | _, _, _, .cons o os, ha => by
    rw [List.all_cons, Bool.and_eq_true] at ha
    rw [M.toDs]
    refine .cons ?_ (os.allD ha.2)
    cases o with
    | fz r => rw [M.toD]; exact r
    | tup _ _ => exact absurd ha.1 (by simp [M.isD])
    | lst _ _ => exact absurd ha.1 (by simp [M.isD])
theorem frzP_toV {s : Sl} {p : Pl} {x : D × Sl} (e : frzP s p = some x) : toV s (.pl p) = some x.1 := by
  unfold frzP at e
  show (getP s p).map M.toD = _
  cases eg : getP s p with
  | none => rw [eg] at e; cases e
  | some m =>
    rw [eg] at e
    cases m with
    | fz d => cases e; rfl
    | tup ms =>
      have e : ((updP s p fun m => some (.fz m.toD)).map fun s' => (M.toD (.tup ms), s')) = some x := e
      cases eu : (updP s p fun m => some (.fz m.toD)) with
      | none => rw [eu] at e; cases e
      | some s2 => rw [eu] at e; cases e; rfl
    | lst ms =>
      have e : ((updP s p fun m => some (.fz m.toD)).map fun s' => (M.toD (.lst ms), s')) = some x := e
      cases eu : (updP s p fun m => some (.fz m.toD)) with
      | none => rw [eu] at e; cases e
      | some s2 => rw [eu] at e; cases e; rfl
    | ins c ms =>
      have e : ((updP s p fun m => some (.fz m.toD)).map fun s' => (M.toD (.ins c ms), s')) = some x := e
      cases eu : (updP s p fun m => some (.fz m.toD)) with
      | none => rw [eu] at e; cases e
      | some s2 => rw [eu] at e; cases e; rfl
theorem toC_ok (g : Good K F H fp F' H' s' σ fm fp') {r : Res} {v : V} (h : RelR K F' H' σ r v fm) {ds : List D} {s2 : Sl} (e : toC s' r = some (ds, s2)) :
    ∃ F2 fp2 vs, Good K F H fp F2 H' s2 σ [] fp2 ∧ SqAt K H' (isL (toV s' r)) v vs ∧ Reps K F2 ds vs := by
  cases r with
  | pl p =>
    obtain ⟨hf, v0, h1, h2⟩ := h
    subst hf
    have gen : ((frzP s' p).bind fun x => x.1.items.map fun ds => (ds, x.2)) = some (ds, s2) → ∃ F2 fp2 vs, Good K F H fp F2 H' s2 σ [] fp2 ∧ SqAt K H' (isL (toV s' (.pl p))) v vs ∧ Reps K F2 ds vs := fun e => by
      cases eg : frzP s' p with
      | none => rw [eg] at e; cases e
      | some x =>
        rw [eg] at e
        obtain ⟨F2, fp2, g2, rp⟩ := frzP_ok g.ok h1 h2 (d := x.1) (s2 := x.2) eg
        have e : (x.1.items.map fun ds => (ds, x.2)) = some (ds, s2) := e
        cases ei : x.1.items with
        | none => rw [ei] at e; cases e
        | some es =>
          rw [ei] at e
          cases e
          obtain ⟨vs, q1, q2⟩ := items_ok rp ei
          have ed : toV s' (.pl p) = some x.1 := frzP_toV eg
          rw [ed]
          exact ⟨F2, fp2, vs, g.trans (by simpa using g2), q1.same g2.ok.same, q2⟩
    have e : (match getP s' p with
      | some (.lst ms) => if ms.all M.isD then some (M.toDs ms, s') else (frzP s' p).bind fun x => x.1.items.map fun ds => (ds, x.2)
      | some _ => (frzP s' p).bind fun x => x.1.items.map fun ds => (ds, x.2)
      | none => none) = some (ds, s2) := e
    cases eg : getP s' p with
    | none => rw [eg] at e; cases e
    | some m =>
      rw [eg] at e
      cases m with
      | lst ms =>
        by_cases ha : ms.all M.isD = true
        · have e : (if ms.all M.isD then some (M.toDs ms, s') else (frzP s' p).bind fun x => x.1.items.map fun ds => (ds, x.2)) = some (ds, s2) := e
          rw [if_pos ha] at e
          cases e
          obtain ⟨f, f1, f2, ow, ef, _⟩ := g.ok.focus eg h1 h2
          cases ow with
          | @lst a _ vs fq hl rs =>
            have ed : toV s' (.pl p) = some (M.toD (.lst ms)) := by
              show (getP s' p).map M.toD = _
              rw [eg]; rfl
            rw [ed]
            refine ⟨F', fp', vs, g, ⟨a, rfl, hl⟩, ?_⟩
            exact rs.allD ha
        · have e : (if ms.all M.isD then some (M.toDs ms, s') else (frzP s' p).bind fun x => x.1.items.map fun ds => (ds, x.2)) = some (ds, s2) := e
          rw [if_neg ha] at e
          exact gen e
      | fz d => exact gen e
      | tup ms => exact gen e
      | ins c ms => exact gen e
  | m m =>
    have e : (m.toD.items.map fun ds => (ds, s')) = some (ds, s2) := e
    cases ei : m.toD.items with
    | none => rw [ei] at e; cases e
    | some es =>
      rw [ei] at e
      cases e
      have rp := Own.frz g.ok.same (show Own K F' H' m v fm from h)
      obtain ⟨vs, q1, q2⟩ := items_ok rp ei
      exact ⟨_, fp', vs, g.frzA, q1.same g.frzA.ok.same, q2⟩
end
end VS
end

section
/-! VS: the rules by values. -/
namespace VS
open PySem L2
variable {K : PySem.W.Frag} {X : Cx}

theorem Rep.flat {F G : Hp} {d : D} {v : V} (r : Rep K F d v) (h : d.flat = true) : Rep K G d v := by
  cases r with
  | non => exact .non
  | bl b => exact .bl b
  | int i => exact .int i
  | str x => exact .str x
  | tup _ _ => cases h
  | lst _ _ => cases h
  | scr _ => cases h
mutual
theorem Rep.dp {H : Hp} : ∀ {d : D} {v : V}, Rep K H d v → d.py.canLay0 = true → Dp K H v d.py
  | _, _, .non, _ => .non
  | _, _, .bl b, _ => .bl b
  | _, _, .int i, _ => .int i
  | _, _, .str x, _ => .str x
  | _, _, .tup h r, e => by
    rw [D.py] at e ⊢
    exact .tup h (r.dp (by simpa [PyData.canLay0] using e))
  | _, _, .lst h r, e => by
    rw [D.py] at e ⊢
    exact .lst (SqL.of h) (r.dp (by simpa [PyData.canLay0] using e))
  | _, _, .scr _, e => by rw [D.py] at e; simp [PyData.canLay0] at e
theorem Reps.dp {H : Hp} : ∀ {ds : List D} {vs : List V}, Reps K H ds vs → PyData.canLayAll0 (D.pys ds) = true → DpAll K H vs (D.pys ds)
  | _, _, .nil, _ => by rw [D.pys]; exact .nil
  | _, _, .cons r rs, e => by
    rw [D.pys] at e ⊢
    rw [PyData.canLayAll0, Bool.and_eq_true] at e
    exact .cons (r.dp e.1) (rs.dp e.2)
end
theorem Rep.dpS {H : Hp} {d : D} {v : V} (r : Rep K H d v) (h : d.shp = true) : Dp K H v d.py := r.dp (SeqAt.canLay_of_shaped h)

theorem opr_imp {f : Value → Value → Sem Value} {r r' : R2} (h : OpR X f r) (i : ∀ x y H Q, r' x y H Q → r x y H Q) : OpR X f r' :=
  fun pins s σ H x y v u Q I rx ry q => h pins s σ H x y v u Q I rx ry (i _ _ _ _ q)
theorem callr_imp {f : Value} {r r' : List V → Hp → VK → Prop} (h : CallR X f r) (i : ∀ xs H Q, r' xs H Q → r xs H Q) : CallR X f r' :=
  fun pins s σ H xs us Q I rx q => h pins s σ H xs us Q I rx (i _ _ _ q)

theorem of_ite {α : Type} {c : Prop} [Decidable c] {x y : α} (h : (if c then some x else none) = some y) : c ∧ x = y := by
  split at h
  · rename_i hc; exact ⟨hc, Option.some.inj h⟩
  · cases h
/-! ### comparisons -/
def copOf : Cop → CmpOp
  | .eq => .Eq | .ne => .NotEq | .lt => .Lt | .le => .LtE | .gt => .Gt | .ge => .GtE | .is_ => .Is | .isnot => .IsNot | .in_ => .In | .notin => .NotIn
def rCmp (K : PySem.W.Frag) (o : Cop) : R2 := fun x y H Q => ∃ da db c, Rep K H da x ∧ Rep K H db y ∧ cmpD o da db = some c ∧ Q (.bl c) H
theorem flatV_of {H : Hp} {d : D} {v : V} (r : Rep K H d v) (h : d.flat = true) : flatV v = true := by
  cases r with
  | non => rfl
  | bl b => rfl
  | int i => rfl
  | str x => rfl
  | tup _ _ => cases h
  | lst _ _ => cases h
  | scr _ => cases h
theorem flatVs_of {H : Hp} : ∀ {ds : List D} {vs : List V}, Reps K H ds vs → ds.all D.flat = true → vs.all flatV = true
  | _, _, .nil, _ => rfl
  | _, _, .cons r rs, h => by
    rw [List.all_cons, Bool.and_eq_true] at h ⊢
    exact ⟨flatV_of r h.1, flatVs_of rs h.2⟩
theorem anyEqv (y : D) : ∀ ds : List D, (D.pys ds).any (fun z => PyData.eqv z y.py) = ds.any fun z => D.eqv z y
  | [] => by rw [D.pys]; rfl
  | z :: zs => by
    rw [D.pys, List.any_cons, List.any_cons, anyEqv y zs]; rfl
theorem eqV_eqv {H : Hp} {d e : D} {v u : V} (r : Rep K H d v) (q : Rep K H e u) (hd : d.flat = true) (he : e.flat = true) : eqV v u = D.eqv d e := by
  cases r with
  | tup _ _ => cases hd
  | lst _ _ => cases hd
  | scr _ => cases hd
  | _ =>
    cases q with
    | tup _ _ => cases he
    | lst _ _ => cases he
    | scr _ => cases he
    | _ => simp only [eqV, D.eqv, D.py, PyData.eqv] <;> first | rfl | exact Bool.beq_eq_decide_eq _ _ | exact (Bool.beq_eq_decide_eq _ _).symm
theorem inV_eqv {H : Hp} {y : D} {v : V} (r : Rep K H y v) (hy : y.flat = true) : ∀ {ds : List D} {vs : List V}, Reps K H ds vs → ds.all D.flat = true → inV v vs = inD y ds
  | _, _, .nil, _ => rfl
  | _, _, .cons q qs, h => by
    rw [List.all_cons, Bool.and_eq_true] at h
    unfold inV inD
    rw [List.any_cons, List.any_cons, eqV_eqv q r h.1 hy]
    have := inV_eqv r hy qs h.2
    unfold inV inD at this
    rw [this]
theorem cmp_rule (hu : X.A.units + 65 < cLine) (o : Cop) : OpR X (compareOp (copOf o)) (rCmp X.K o) := by
  have hu' : X.A.units + 64 < cLine := by omega
  cases o with
  | eq =>
    refine opr_imp (op_eqD hu') fun x y H Q ⟨da, db, c, ra, rb, e, q⟩ => ?_
    obtain ⟨h, e⟩ := of_ite e
    rw [Bool.and_eq_true] at h
    cases e
    exact ⟨da.py, db.py, ra.dpS h.1, rb.dpS h.2, h.1, h.2, q⟩
  | ne =>
    refine opr_imp (op_neD hu') fun x y H Q ⟨da, db, c, ra, rb, e, q⟩ => ?_
    obtain ⟨h, e⟩ := of_ite e
    rw [Bool.and_eq_true] at h
    cases e
    exact ⟨da.py, db.py, ra.dpS h.1, rb.dpS h.2, h.1, h.2, q⟩
  | lt =>
    refine opr_imp op_lt fun x y H Q ⟨da, db, c, ra, rb, e, q⟩ => ?_
    cases ra <;> cases rb <;> cases e
    exact ⟨_, _, rfl, rfl, q⟩
  | le =>
    refine opr_imp op_le fun x y H Q ⟨da, db, c, ra, rb, e, q⟩ => ?_
    cases ra <;> cases rb <;> cases e
    exact ⟨_, _, rfl, rfl, q⟩
  | gt =>
    refine opr_imp op_gt fun x y H Q ⟨da, db, c, ra, rb, e, q⟩ => ?_
    cases ra <;> cases rb <;> cases e
    exact ⟨_, _, rfl, rfl, q⟩
  | ge =>
    refine opr_imp op_ge fun x y H Q ⟨da, db, c, ra, rb, e, q⟩ => ?_
    cases ra <;> cases rb <;> cases e
    exact ⟨_, _, rfl, rfl, q⟩
  | is_ =>
    refine opr_imp op_isN fun x y H Q ⟨da, db, c, ra, rb, e, q⟩ => ?_
    cases rb with
    | non =>
      refine ⟨rfl, ?_⟩
      cases ra <;> cases e <;> exact q
    | _ => cases ra <;> cases e
  | isnot =>
    refine opr_imp op_notN fun x y H Q ⟨da, db, c, ra, rb, e, q⟩ => ?_
    cases rb with
    | non =>
      refine ⟨rfl, ?_⟩
      cases ra <;> cases e <;> exact q
    | _ => cases ra <;> cases e
  | in_ =>
    intro pins s σ H x y v u Q I rx ry ⟨da, db, c, ra, rb, e, q⟩
    cases rb with
    | @lst a xs ds h rs =>
      obtain ⟨hs, e⟩ := of_ite e
      rw [Bool.and_eq_true] at hs
      cases e
      refine op_inD hu pins s σ H _ _ _ _ Q I rx ry ⟨da.py, D.pys ds, ra.dpS hs.1, ?_, hs.1, ?_, ?_⟩
      · have := (Rep.lst h rs).dpS hs.2
        rw [D.py] at this
        exact this
      · have h2 := hs.2
        unfold D.shp at h2
        rw [D.py] at h2
        exact h2
      · rw [anyEqv]; exact q
    | tup h rs =>
      obtain ⟨hs, e⟩ := of_ite e
      rw [Bool.and_eq_true, Bool.and_eq_true, Bool.and_eq_true] at hs
      cases e
      refine op_in_seq pins s σ H _ _ _ _ Q I rx ry ⟨_, _, rfl, .inr h, flatV_of ra hs.1.1.1, flatVs_of rs hs.1.1.2, ?_⟩
      rw [inV_eqv ra hs.1.1.1 rs hs.1.1.2]
      exact q
    | _ => cases ra <;> cases e
  | notin =>
    intro pins s σ H x y v u Q I rx ry ⟨da, db, c, ra, rb, e, q⟩
    cases rb with
    | @lst a xs ds h rs =>
      obtain ⟨hs, e⟩ := of_ite e
      rw [Bool.and_eq_true] at hs
      cases e
      refine op_notInD hu pins s σ H _ _ _ _ Q I rx ry ⟨da.py, D.pys ds, ra.dpS hs.1, ?_, hs.1, ?_, ?_⟩
      · have := (Rep.lst h rs).dpS hs.2
        rw [D.py] at this
        exact this
      · have h2 := hs.2
        unfold D.shp at h2
        rw [D.py] at h2
        exact h2
      · rw [anyEqv]; exact q
    | tup h rs =>
      obtain ⟨hs, e⟩ := of_ite e
      rw [Bool.and_eq_true, Bool.and_eq_true, Bool.and_eq_true] at hs
      cases e
      refine op_notIn_seq pins s σ H _ _ _ _ Q I rx ry ⟨_, _, rfl, .inr h, flatV_of ra hs.1.1.1, flatVs_of rs hs.1.1.2, ?_⟩
      rw [inV_eqv ra hs.1.1.1 rs hs.1.1.2]
      exact q
    | _ => cases ra <;> cases e

/-! ### str * int -/
section
variable {X : Cx}
theorem fold_size {α : Type} (x : Array α) : ∀ (m : Nat) (acc : Array α), ((List.replicate m x).foldl (· ++ ·) acc).size = acc.size + m * x.size
  | 0, acc => by simp
  | m + 1, acc => by
    rw [List.replicate_succ, List.foldl_cons, fold_size x m, Array.size_append, Nat.add_mul]
    omega
theorem op_mul_str : OpR X (binaryOp .Mult) (fun x y H Q => ∃ a n, x = .str a ∧ y = .int n ∧ (n < 1000 ∧ -1000 < n ∧ a.length ≤ 1000) ∧ Q (.str (repS a n)) H) := by
  intro pins s σ H x y v u Q I rx ry h
  obtain ⟨a, n, rfl, rfl, ⟨h1, h2, h3⟩, q⟩ := h
  obtain ⟨t, rfl⟩ := rx
  obtain ⟨t', rfl⟩ := ry
  refine PySem.P.mul_str ?_ ?_ ?_ ?_
  · rw [decide_eq_false (by omega), decide_eq_false (by omega)]; rfl
  · intro hn _ h
    have hm : (a.length : Int) * n ≤ 1000 * 1000 := Int.mul_le_mul (by omega) (by omega) (by omega) (by decide)
    have := Int.le_ediv_of_mul_le (show (0 : Int) < n by omega) (show (a.length : Int) * n ≤ 2 ^ 63 - 1 by omega)
    omega
  · intro hn _
    have hm : a.length * n.toNat ≤ 1000 * 1000 := Nat.mul_le_mul h3 (by omega)
    unfold Builtin.Str.tooLong
    rw [sizeLine_eq]
    exact decide_eq_false (by omega)
  · by_cases c1 : n < 1
    · rw [if_pos c1]
      have e : repS a n = Str.empty := by unfold repS; rw [if_pos c1]
      rw [e] at q
      exact ⟨by decide, .str _, H, I.tok _, ⟨_, rfl⟩, q⟩
    · rw [if_neg c1]
      by_cases c2 : (n == 1 || a.length == 0) = true
      · rw [if_pos c2]
        have e : repS a n = a := by unfold repS; rw [if_neg c1, if_pos c2]
        rw [e] at q
        exact ⟨.str a, H, I, ⟨t, rfl⟩, q⟩
      · rw [if_neg c2]
        have e : repS a n = ⟨(List.replicate n.toNat a.cps).foldl (· ++ ·) #[]⟩ := by unfold repS; rw [if_neg c1, if_neg c2]
        rw [e] at q
        refine ⟨?_, .str _, H, I.tok _, ⟨_, rfl⟩, q⟩
        have hm : n.toNat * a.length ≤ 1000 * 1000 := Nat.mul_le_mul (by omega) h3
        show ((List.replicate n.toNat a.cps).foldl (· ++ ·) #[]).size ≤ sizeLine
        rw [fold_size, sizeLine_eq]
        show 0 + n.toNat * a.length ≤ _
        omega
end
/-! ### arithmetic on flat data -/
def bopOf : Bop → Operator
  | .add => .Add | .sub => .Sub | .mul => .Mult | .fdiv => .FloorDiv | .mod => .Mod | .pow => .Pow
def rFlat (K : PySem.W.Frag) (o : Bop) : R2 := fun x y H Q => ∃ da db d, Rep K H da x ∧ Rep K H db y ∧ binF o da db = some d ∧ ∀ v, Rep K H d v → Q v H
theorem flat_rule (o : Bop) : OpR X (binaryOp (bopOf o)) (rFlat X.K o) := by
  intro pins s σ H x y v u Q I rx ry ⟨da, db, d, ra, rb, e, q⟩
  cases o with
  | add =>
    cases ra with
    | int a =>
      cases rb with
      | int b => cases e; exact op_add pins s σ H _ _ _ _ Q I rx ry ⟨_, _, rfl, rfl, q _ (.int _)⟩
      | _ => cases e
    | str a =>
      cases rb with
      | str b =>
        obtain ⟨h, e⟩ := of_ite e
        cases e; exact op_add_str pins s σ H _ _ _ _ Q I rx ry ⟨_, _, rfl, rfl, h, q _ (.str _)⟩
      | _ => cases e
    | _ => cases rb <;> cases e
  | sub =>
    cases ra <;> cases rb <;> cases e
    exact op_sub pins s σ H _ _ _ _ Q I rx ry ⟨_, _, rfl, rfl, q _ (.int _)⟩
  | mul =>
    cases ra with
    | int a =>
      cases rb with
      | int b =>
        obtain ⟨h, e⟩ := of_ite e
        cases e
        refine op_mul pins s σ H _ _ _ _ Q I rx ry ⟨_, _, rfl, rfl, ?_, q _ (.int _)⟩
        rw [Bool.or_eq_true] at h
        simp only [small, Bool.and_eq_true, decide_eq_true_eq] at h
        exact h
      | _ => cases e
    | str a =>
      cases rb with
      | int n =>
        obtain ⟨h, e⟩ := of_ite e
        cases e
        exact op_mul_str pins s σ H _ _ _ _ Q I rx ry ⟨_, _, rfl, rfl, h, q _ (.str _)⟩
      | _ => cases e
    | _ => cases rb <;> cases e
  | fdiv =>
    cases ra with
    | int a =>
      cases rb with
      | int b =>
        obtain ⟨h, e⟩ := of_ite e
        cases e
        exact op_fdiv pins s σ H _ _ _ _ Q I rx ry ⟨_, _, rfl, rfl, h, q _ (.int _)⟩
      | _ => cases e
    | _ => cases rb <;> cases e
  | mod =>
    cases ra with
    | int a =>
      cases rb with
      | int b =>
        obtain ⟨h, e⟩ := of_ite e
        cases e
        exact op_mod pins s σ H _ _ _ _ Q I rx ry ⟨_, _, rfl, rfl, h, q _ (.int _)⟩
      | _ => cases e
    | _ => cases rb <;> cases e
  | pow =>
    cases ra with
    | int a =>
      cases rb with
      | int b =>
        obtain ⟨h, e⟩ := of_ite e
        cases e
        exact op_pow pins s σ H _ _ _ _ Q I rx ry ⟨_, _, rfl, rfl, h, q _ (.int _)⟩
      | _ => cases e
    | _ => cases rb <;> cases e
def rAug (K : PySem.W.Frag) (o : Bop) : R2 := fun x y H Q => ∃ da db d, Rep K H da x ∧ Rep K H db y ∧ augF o da db = some d ∧ ∀ v, Rep K H d v → Q v H
theorem aug_rule (o : Bop) : OpR X (inplaceOp (bopOf o)) (rAug X.K o) := by
  intro pins s σ H x y v u Q I rx ry ⟨da, db, d, ra, rb, e, q⟩
  cases o with
  | add =>
    cases ra <;> cases rb <;> cases e
    exact ip_add pins s σ H _ _ _ _ Q I rx ry ⟨_, _, rfl, rfl, q _ (.int _)⟩
  | sub =>
    cases ra <;> cases rb <;> cases e
    exact ip_sub pins s σ H _ _ _ _ Q I rx ry ⟨_, _, rfl, rfl, q _ (.int _)⟩
  | _ => cases e
/-- truth by values -/
theorem tru_of {H : Hp} {d : D} {v : V} {k : Bool} (r : Rep K H d v) (e : truthD d = some k) : TruV K v H k := by
  cases r with
  | non => cases e; rfl
  | bl b => cases e; rfl
  | int i => cases e; rfl
  | str x =>
    obtain ⟨h, e⟩ := of_ite e
    cases e
    refine ⟨h, ?_⟩
    have q : (((x.length : Nat) : Int) == 0) = (x.length == 0) := by rw [Bool.eq_iff_iff]; simp
    show (!(x.length == 0)) = !(((x.length : Nat) : Int) == 0)
    rw [q]
  | tup h rs =>
    cases e
    refine .inr (.inl ⟨_, h, ?_⟩)
    cases rs <;> rfl
  | lst h rs =>
    cases e
    refine .inl ⟨_, SqL.of h, ?_⟩
    cases rs <;> rfl
  | scr h => cases e
end VS
end

section
/-! VS: each expression by its parts. -/
namespace VS
open PySem L2
variable {K : PySem.W.Frag} {X : Cx}

theorem bd_inv {α β γ : Type} {x : Option (α × β)} {f : α → β → Option γ} {c : γ} (h : bd x f = some c) : ∃ a b, x = some (a, b) ∧ f a b = some c := by
  cases x with
  | none => cases h
  | some p => exact ⟨p.1, p.2, rfl, h⟩
theorem bind_inv {α β : Type} {x : Option α} {f : α → Option β} {c : β} (h : x.bind f = some c) : ∃ a, x = some a ∧ f a = some c := by
  cases x with
  | none => cases h
  | some a => exact ⟨a, rfl, h⟩
theorem map_inv {α β : Type} {x : Option α} {f : α → β} {c : β} (h : x.map f = some c) : ∃ a, x = some a ∧ f a = c := by
  cases x with
  | none => cases h
  | some a => exact ⟨a, rfl, Option.some.inj h⟩

theorem pe_imp {e : Expr} {t t' : TE} (h : PE X e t) (w : ∀ σ H Q, t' σ H Q → t σ H Q) : PE X e t' := ⟨fun pins s σ H Q I q => h.run pins s σ H Q I (w σ H Q q)⟩
theorem pt_imp {e : Expr} {t t' : TT} (h : PT X e t) (w : ∀ σ H Q, t' σ H Q → t σ H Q) : PT X e t' := ⟨fun pins s σ H Q I q => h.run pins s σ H Q I (w σ H Q q)⟩
theorem pw_imp {e : Expr} {t t' : TT} (h : PW X e t) (w : ∀ σ H Q, t' σ H Q → t σ H Q) : PW X e t' := ⟨fun wh pins s σ H Q I q => h.run wh pins s σ H Q I (w σ H Q q)⟩
theorem pa_imp {e : List Expr} {t t' : TA} (h : PA X e t) (w : ∀ σ H Q, t' σ H Q → t σ H Q) : PA X e t' := ⟨fun p pins s σ H Q I q => h.run p pins s σ H Q I (w σ H Q q)⟩

/-- an expression's reading by the evaluator -/
def tE (K : PySem.W.Frag) (f : Sl → Option (Res × Sl)) : TE := fun σ H Q => ∃ F s fp r s', Ok K F H s σ fp ∧ f s = some (r, s') ∧
  ∀ F' H' v fm fp', Good K F H fp F' H' s' σ fm fp' → RelR K F' H' σ r v fm → Q v H'
inductive RelRs (K : PySem.W.Frag) (F H : Hp) (σ : St) : List Res → List V → List Addr → Prop
  | nil : RelRs K F H σ [] [] []
  | cons {r : Res} {v : V} {rs : List Res} {vs : List V} {f g : List Addr} : RelR K F H σ r v f → RelRs K F H σ rs vs g → RelRs K F H σ (r :: rs) (v :: vs) (f ++ g)
def tAs (K : PySem.W.Frag) (f : Sl → Option (List Res × Sl)) : TA := fun σ H Q => ∃ F s fp rs s', Ok K F H s σ fp ∧ f s = some (rs, s') ∧
  ∀ F' H' vs fm fp', Good K F H fp F' H' s' σ fm fp' → RelRs K F' H' σ rs vs fm → Q vs H'
def tTs (K : PySem.W.Frag) (f : Sl → Option (Bool × Sl)) : TT := fun σ H Q => ∃ F s fp b s', Ok K F H s σ fp ∧ f s = some (b, s') ∧
  ∀ F' H' fp', Good K F H fp F' H' s' σ [] fp' → Q b H'

section
variable {F H F' H' : Hp} {fp fp' fm : List Addr} {s s' s1 s2 s3 : Sl} {σ : St}
theorem RelRs.same {rs : List Res} {vs : List V} {f : List Addr} (sF : Same F F') (sH : Same H H') (h : RelRs K F H σ rs vs f) : RelRs K F' H' σ rs vs f := by
  induction h with
  | nil => exact .nil
  | cons r _ ih => exact .cons (r.same sF sH) ih
theorem two {fa fb : Sl → Option (Res × Sl)} {ra rb : Res} {R : V → V → Hp → Prop} (ok : Ok K F H s σ fp) (ha : fa s = some (ra, s1)) (hb : fb s1 = some (rb, s2))
    (k : ∀ F2 H2 va vb fa' fb' fp2, Good K F H fp F2 H2 s2 σ (fa' ++ fb') fp2 → RelR K F2 H2 σ ra va fa' → RelR K F2 H2 σ rb vb fb' → R va vb H2) :
    tE K fa σ H fun x H1 => tE K fb σ H1 fun y H2 => R x y H2 :=
  ⟨F, s, fp, ra, s1, ok, ha, fun F1 H1 v1 fm1 fp1 g1 r1 => ⟨F1, s1, fp1, rb, s2, g1.ok, hb, fun F2 H2 v2 fm2 fp2 g2 r2 => k F2 H2 v1 v2 fm1 fm2 fp2 (g1.then g2) (r1.same g2.mono g2.heap) r2⟩⟩
/-- what is held, as a start -/
theorem Good.held {fa fb : List Addr} (g : Good K F H fp F' H' s' σ (fa ++ fb) fp') : Good K F' H' (fa ++ fp') F' H' s' σ fa fp' :=
  ⟨same_refl _, same_refl _, fun p hp => .inl hp, fun p o e => .inl e, g.ok, g.nd.sublist (List.Sublist.append_right (List.sublist_append_left _ _) _), fun p hp => g.dis p (List.mem_append_left _ hp), fun p hp => g.dom p (List.mem_append_left _ hp)⟩
theorem Good.back {fa fb fp2 : List Addr} {F2 H2 : Hp} (g : Good K F H fp F' H' s' σ (fa ++ fb) fp') (g2 : Good K F' H' (fa ++ fp') F2 H2 s2 σ fm fp2) : Good K F H fp F2 H2 s2 σ (fb ++ fm) fp2 := by
  have gp := g.perm (fm' := fb ++ fa) List.perm_append_comm
  have nd := gp.nd
  rw [List.append_assoc] at nd
  have q := g2.frame (ft := fb) nd (fun p hp => g.dis p (List.mem_append_right _ hp)) (fun p hp => g.dom p (List.mem_append_right _ hp))
  rw [← List.append_assoc] at q
  exact gp.trans q
theorem Reps.owns {F H : Hp} : ∀ {ds : List D} {vs : List V}, Reps K F ds vs → Owns K F H (ds.map .fz) vs []
  | _, _, .nil => .nil
  | _, _, .cons r rs => by
    have := Owns.cons (f := []) (g := []) (.fz r) (rs.owns (H := H))
    simpa using this
/-- a flat result -/
theorem fin_flat {Q : VK} {d : D} {v : V} (g : Good K F H fp F' H' s' σ fm fp') (r : Rep K H' d v) (hd : d.flat = true)
    (k : ∀ F' H' v fm fp', Good K F H fp F' H' s' σ fm fp' → RelR K F' H' σ (.m (.fz d)) v fm → Q v H') : Q v H' :=
  k F' H' v [] fp' g.none (Own.fz (r.flat hd))
/-- a new list of frozen items -/
theorem fin_list {Q : VK} {ds : List D} {vs : List V} {p : Addr} (g : Good K F H fp F' H' s' σ [] fp') (hp : H' p = none) (r : Reps K F' ds vs)
    (k : ∀ F' H' v fm fp', Good K F H fp F' H' s' σ fm fp' → RelR K F' H' σ (.m (.lst (ds.map .fz))) v fm → Q v H') : Q (.ref p) (upd H' p (.lst vs)) :=
  k F' _ (.ref p) [p] fp' (g.freshL hp) (Own.lst upd_same r.owns)

theorem se_var {i : Nat} {x : Str} {pos : Pos} (hN : X.N[i]? = some x) (hv : Vis X.env.scope x) (hd : (x == ("__debug__" : Str)) = false) (hcd : (x == ("__classdict__" : Str)) = false) :
    PE X (.Name x pos) (tE X.K fun s => (look s ⟨i, []⟩).map fun r => (r, s)) := by
  refine pe_imp (pe_var hN hv hd hcd) fun σ H Q ⟨F, s, fp, r, s', ok, e, k⟩ => ?_
  obtain ⟨r', e1, e2⟩ := map_inv e
  cases e2
  unfold look at e1
  cases eg : getP s ⟨i, []⟩ with
  | none => rw [eg] at e1; cases e1
  | some m =>
    have hm : s[i]? = some (some m) := by
      unfold getP at eg
      split at eg
      · rename_i m' h'
        have : m' = m := Option.some.inj eg
        rw [← this]; exact h'
      · cases eg
    obtain ⟨v, f, f1, f2, q1, q2, q3, _⟩ := ok.rep.focus hm
    refine ⟨v, q1, ?_⟩
    rw [eg] at e1
    cases m with
    | fz d =>
      cases e1
      cases q2 with
      | fz rp => exact k F H v [] fp ok.good (Own.fz rp)
    | tup ms => cases e1; exact k F H v [] fp ok.good ⟨rfl, v, q1, rfl⟩
    | lst ms => cases e1; exact k F H v [] fp ok.good ⟨rfl, v, q1, rfl⟩
    | ins c ms => cases e1; exact k F H v [] fp ok.good ⟨rfl, v, q1, rfl⟩
theorem lit_imp {v : V} {d : D} (h : ∀ F : Hp, Rep K F d v) : ∀ σ H Q, tE K (fun s => rM d s) σ H Q → tC v σ H Q := fun σ H Q ⟨F, s, fp, r, s', ok, e, k⟩ => by
  cases e
  exact k F H v [] fp ok.good (Own.fz (h F))
theorem se_int {i : Int} {j : Nat} {pos : Pos} : PE X (.Constant (.int i) j pos) (tE X.K fun s => rM (.int i) s) := pe_imp pe_int (lit_imp fun _ => .int i)
theorem se_bl {b : Bool} {j : Nat} {pos : Pos} : PE X (.Constant (.bool b) j pos) (tE X.K fun s => rM (.bl b) s) := pe_imp pe_bl (lit_imp fun _ => .bl b)
theorem se_non {j : Nat} {pos : Pos} : PE X (.Constant .none j pos) (tE X.K fun s => rM .non s) := pe_imp pe_non (lit_imp fun _ => .non)
theorem se_str {x : Str} {j : Nat} {pos : Pos} : PE X (.Constant (.str x) j pos) (tE X.K fun s => rM (.str x) s) := pe_imp pe_str (lit_imp fun _ => .str x)
theorem se_con {x : Str} {v : V} {u : Value} {d : D} {pos : Pos} (hg : Gl X x) (hm : X.mg x = some u) (r : RelV v u) (h : ∀ F, Rep X.K F d v) (hd : (x == ("__debug__" : Str)) = false) :
    PE X (.Name x pos) (tE X.K fun s => rM d s) := pe_imp (pe_glob hg hm r hd) (lit_imp h)

/-! ### arguments -/
theorem sa_nil : PA X [] (tAs X.K fun s => some ([], s)) := pa_imp pa_nil fun σ H Q ⟨F, s, fp, rs, s', ok, e, k⟩ => by
  cases e
  exact k F H [] [] fp ok.good .nil
theorem sa_cons {e : Expr} {es : List Expr} {f : Sl → Option (Res × Sl)} {g : Sl → Option (List Res × Sl)} (ha : PE X e (tE X.K f)) (hr : PA X es (tAs X.K g)) (hs : starEach (e :: es) X.env = (false, eval e X.env) :: starEach es X.env) :
    PA X (e :: es) (tAs X.K fun s => bd (f s) fun r s1 => bd (g s1) fun rs s2 => some (r :: rs, s2)) :=
  pa_imp (pa_cons ha hr hs) fun σ H Q ⟨F, s, fp, rs, s', ok, e, k⟩ => by
    obtain ⟨r, s1, e1, e⟩ := bd_inv e
    obtain ⟨rs', s2, e2, e⟩ := bd_inv e
    cases e
    exact ⟨F, s, fp, r, s1, ok, e1, fun F1 H1 v fm fp1 g1 r1 => ⟨F1, s1, fp1, rs', _, g1.ok, e2, fun F2 H2 vs fm2 fp2 g2 r2 => k F2 H2 (v :: vs) (fm ++ fm2) fp2 (g1.then g2) (.cons (r1.same g2.mono g2.heap) r2)⟩⟩
theorem toVs_ok (o : Ok K F H s σ fp) : ∀ {rs : List Res} {vs : List V} {f : List Addr} {ds : List D}, RelRs K F H σ rs vs f → toVs s rs = some ds → Reps K H ds vs
  | _, _, _, _, .nil, e => by cases e; exact .nil
  | _, _, _, _, .cons r rs, e => by
    unfold toVs at e
    obtain ⟨d, e1, e⟩ := bind_inv e
    obtain ⟨ds, e2, e⟩ := map_inv e
    cases e
    exact .cons (toV_ok o r e1) (toVs_ok o rs e2)
theorem toSs_ok : ∀ {rs : List Res} {vs : List V} {fd fm : List Addr} {F' H' : Hp} {fp' : List Addr} {s' : Sl} {ms : List M} {s2 : Sl}, Good K F H fp F' H' s' σ (fd ++ fm) fp' → RelRs K F' H' σ rs vs fm → toSs s' rs = some (ms, s2) →
    ∃ F2 fm2 fp2, Good K F H fp F2 H' s2 σ (fd ++ fm2) fp2 ∧ Owns K F2 H' ms vs fm2 ∧ Same F' F2 := by
  intro rs
  induction rs with
  | nil =>
    intro vs fd fm F' H' fp' s' ms s2 g h e
    cases h
    cases e
    exact ⟨F', [], fp', g, .nil, same_refl _⟩
  | cons r rs ih =>
    intro vs fd fm F' H' fp' s' ms s2 g h e
    cases h with
    | @cons _ v _ vs f gm hr rr =>
      unfold toSs at e
      obtain ⟨m, s3, e1, e⟩ := bd_inv e
      obtain ⟨ms', s4, e2, e3⟩ := bd_inv e
      cases e3
      cases r with
      | pl p =>
        obtain ⟨hf, v0, h1, h2⟩ := hr
        subst hf
        have e1 : ((frzP s' p).map fun x => (M.fz x.1, x.2)) = some (m, s3) := e1
        obtain ⟨x, e3, e4⟩ := map_inv e1
        cases e4
        obtain ⟨F2, fp2, g2, rp⟩ := frzP_ok g.ok h1 h2 (d := x.1) (s2 := x.2) e3
        have g3 := g.then g2
        simp only [List.nil_append, List.append_nil] at g3
        obtain ⟨F3, fm3, fp3, g4, ow, sm⟩ := ih g3 (rr.same g2.mono (same_refl _)) e2
        refine ⟨F3, fm3, fp3, g4, ?_, same_trans g2.mono sm⟩
        have := Owns.cons (f := []) (g := fm3) (.fz (rp.mono sm)) ow
        simpa using this
      | m m0 =>
        cases e1
        rw [← List.append_assoc] at g
        obtain ⟨F3, fm3, fp3, g4, ow, sm⟩ := ih (fd := fd ++ f) g rr e2
        rw [List.append_assoc] at g4
        exact ⟨F3, f ++ fm3, fp3, g4, .cons (Own.same sm (same_refl _) hr) ow, sm⟩
theorem Owns.allD_nil : ∀ {ms : List M} {vs : List V} {f : List Addr}, Owns K F H ms vs f → ms.all M.isD = true → f = []
  | _, _, _, .nil, _ => rfl
  | _, _, _, .cons o os, ha => by
    rw [List.all_cons, Bool.and_eq_true] at ha
    rw [os.allD_nil ha.2]
    cases o with
    | fz r => rfl
    | tup _ _ => exact absurd ha.1 (by simp [M.isD])
    | lst _ _ => exact absurd ha.1 (by simp [M.isD])
/-- a new tuple -/
theorem fin_tup {Q : VK} {ms : List M} {vs : List V} {p : Addr} (g : Good K F H fp F' H' s' σ fm fp') (hp : H' p = none) (r : Owns K F' H' ms vs fm)
    (k : ∀ F' H' v fm fp', Good K F H fp F' H' s' σ fm fp' → RelR K F' H' σ (.m (mkTup ms)) v fm → Q v H') : Q (.ref p) (upd H' p (.tup vs)) := by
  have g2 := g.freshF (o := .tup vs) hp
  have frF : Same F' (upd F' p (.tup vs)) := same_fresh (same_none g.ok.same hp)
  have frH : Same H' (upd H' p (.tup vs)) := same_fresh hp
  refine k _ _ (.ref p) fm fp' g2 ?_
  show Own K _ _ (mkTup ms) _ fm
  unfold mkTup
  by_cases ha : ms.all M.isD = true
  · rw [if_pos ha]
    have := r.allD_nil ha
    subst this
    exact .fz (.tup (.inl (.inl upd_same)) ((r.allD ha).mono frF))
  · rw [if_neg ha]
    exact .tup upd_same (r.mono frF fun q hq => upd_ne fun e => g.dom q hq (by rw [e]; exact hp))
theorem se_tup {es : List Expr} {k : Nat} {pos : Pos} {g : Sl → Option (List Res × Sl)} (h : PA X es (tAs X.K g)) :
    PE X (.Tuple es k pos) (tE X.K fun s => bd (g s) fun rs s1 => bd (toSs s1 rs) fun ms s2 => if ms.length ≤ sizeLine then some (.m (mkTup ms), s2) else none) :=
  pe_imp (pe_tup h) fun σ H Q ⟨F, s, fp, r, s', ok, e, k⟩ => by
    obtain ⟨rs, s1, e1, e⟩ := bd_inv e
    obtain ⟨ms, s2, e2, e⟩ := bd_inv e
    obtain ⟨hl, e⟩ := of_ite e
    cases e
    refine ⟨F, s, fp, rs, s1, ok, e1, fun F1 H1 vs fm fp1 g1 r1 => ?_⟩
    obtain ⟨F2, fm2, fp2, g2, ow, sm⟩ := toSs_ok (fd := []) g1 r1 e2
    refine ⟨by rw [← ow.length]; exact hl, fun p hp => ?_⟩
    exact fin_tup g2 hp ow k
theorem se_lst {es : List Expr} {pos : Pos} {g : Sl → Option (List Res × Sl)} (h : PA X es (tAs X.K g)) :
    PE X (.List es pos) (tE X.K fun s => bd (g s) fun rs s1 => bd (toSs s1 rs) fun ms s2 => if ms.length ≤ sizeLine then some (.m (.lst ms), s2) else none) :=
  pe_imp (pe_lst h) fun σ H Q ⟨F, s, fp, r, s', ok, e, k⟩ => by
    obtain ⟨rs, s1, e1, e⟩ := bd_inv e
    obtain ⟨ms, s2, e2, e⟩ := bd_inv e
    obtain ⟨hl, e⟩ := of_ite e
    cases e
    refine ⟨F, s, fp, rs, s1, ok, e1, fun F1 H1 vs fm fp1 g1 r1 => ?_⟩
    obtain ⟨F2, fm2, fp2, g2, ow, sm⟩ := toSs_ok (fd := []) g1 r1 e2
    refine ⟨by rw [← ow.length]; exact hl, fun p hp => ?_⟩
    have g2 : Good X.K F H fp F2 H1 _ σ fm2 fp2 := g2
    exact k F2 _ (.ref p) (p :: fm2) fp2 (g2.freshL hp) (Own.lst upd_same (ow.mono (same_refl _) fun q hq => upd_ne fun e => g2.dom q hq (by rw [e]; exact hp)))

/-! ### operators -/
theorem binF_flat {o : Bop} {a b d : D} (h : binF o a b = some d) : d.flat = true := by
  unfold binF at h
  split at h
  all_goals first
    | (cases h; rfl)
    | (obtain ⟨_, h⟩ := of_ite h; cases h; rfl)
    | cases h
def rBin (K : PySem.W.Frag) (o : Bop) : R2 := fun x y H Q => rFlat K o x y H Q ∨ (o = .add ∧ rCat x y H Q) ∨ (o = .mul ∧ rRep x y H Q)
theorem bin_rule (o : Bop) : OpR X (binaryOp (bopOf o)) (rBin X.K o) := by
  intro pins s σ H x y v u Q I rx ry h
  rcases h with h | ⟨rfl, h⟩ | ⟨rfl, h⟩
  · exact flat_rule o pins s σ H x y v u Q I rx ry h
  · exact op_cat pins s σ H x y v u Q I rx ry h
  · exact op_rep pins s σ H x y v u Q I rx ry h
theorem Reps.flat_rep {ds : List D} {vs : List V} (r : Reps K F ds vs) : ∀ n : Nat, Reps K F (List.replicate n ds).flatten (List.replicate n vs).flatten
  | 0 => .nil
  | n + 1 => by
    rw [List.replicate_succ, List.replicate_succ, List.flatten_cons, List.flatten_cons]
    exact r.append (Reps.flat_rep r n)
theorem toC_L (g : Good K F H fp F' H' s' σ fm fp') {r : Res} {v : V} (h : RelR K F' H' σ r v fm) {x : List D} (hx : toV s' r = some (.lst x)) {ds : List D} {s2 : Sl} (e : toC s' r = some (ds, s2)) :
    ∃ F2 fp2 vs a, Good K F H fp F2 H' s2 σ [] fp2 ∧ v = .ref a ∧ H' a = some (.lst vs) ∧ Reps K F2 ds vs := by
  obtain ⟨F2, fp2, vs, g2, ⟨a, ea, sq⟩, rs⟩ := toC_ok g h e
  rw [hx] at sq
  exact ⟨F2, fp2, vs, a, g2, ea, sq, rs⟩
theorem se_bin {a b : Expr} {o : Bop} {pos : Pos} {fa fb : Sl → Option (Res × Sl)} (ha : PE X a (tE X.K fa)) (hb : PE X b (tE X.K fb)) :
    PE X (.BinOp a (bopOf o) b pos) (tE X.K fun s => bd (fa s) fun ra s1 => bd (fb s1) fun rb s2 => evBin o s2 ra rb) :=
  pe_imp (pe_op (bin_rule o) ha hb) fun σ H Q ⟨F, s, fp, r, s', ok, e, k⟩ => by
    obtain ⟨ra, s1, e1, e⟩ := bd_inv e
    obtain ⟨rb, s2, e2, e⟩ := bd_inv e
    refine two ok e1 e2 fun F2 H2 va vb fa' fb' fp2 g ra' rb' => ?_
    unfold evBin at e
    obtain ⟨da, e3, e⟩ := bind_inv e
    obtain ⟨db, e4, e⟩ := bind_inv e
    have pa := toV_ok g.ok ra' e3
    have pb := toV_ok g.ok rb' e4
    split at e
    · -- two lists
      obtain ⟨xs, s3, e5, e⟩ := bd_inv e
      obtain ⟨dc, e7, e⟩ := bind_inv e
      cases dc with
      | lst y =>
        have e : (bd (toC s3 rb) fun ys s2 => if xs.length + ys.length ≤ sizeLine then some (Res.m (.lst ((xs ++ ys).map .fz)), s2) else none) = some (r, s') := e
        obtain ⟨ys, s4, e6, e⟩ := bd_inv e
        obtain ⟨hl, e⟩ := of_ite e
        cases e
        refine .inr (.inl ⟨rfl, ?_⟩)
        obtain ⟨F3, fp3, vs, a, g3, ea, ha, ra2⟩ := toC_L g.held ra' e3 e5
        have g4 := g.back g3
        have rb2 := rb'.same g3.mono (same_refl _)
        obtain ⟨F4, fp4, ws, b, g5, eb, hb2, rb3⟩ := toC_L (g4.held (fa := fb') (fb := [])) rb2 e7 e6
        have g6 := g4.back g5
        refine ⟨a, b, vs, ws, ea, eb, ha, hb2, by rw [← ra2.length, ← rb3.length]; exact hl, fun p hp => ?_⟩
        exact fin_list g6 hp ((ra2.mono g5.mono).append rb3) k
      | _ => cases e
    · obtain ⟨xs, s3, e5, e⟩ := bd_inv e
      obtain ⟨hl, e⟩ := of_ite e
      cases e
      refine .inr (.inr ⟨rfl, ?_⟩)
      have gA : Good X.K F H fp F2 H2 _ σ fa' fp2 := g.drop (List.sublist_append_left _ _)
      obtain ⟨F3, fp3, vs, a, g3, ea, ha, ra2⟩ := toC_L gA ra' e3 e5
      cases pb
      refine ⟨a, _, vs, ea, rfl, ha, hl.1, hl.2.1, by rw [← ra2.length]; exact hl.2.2, fun p hp => ?_⟩
      exact fin_list g3 hp (ra2.flat_rep _) k
    · obtain ⟨d, e5, e⟩ := map_inv e
      cases e
      exact .inl ⟨da, db, d, pa, pb, e5, fun v rv => fin_flat g rv (binF_flat e5) k⟩
end
end VS
end

section
/-! VS: expressions, further. -/
namespace VS
open PySem L2
variable {K : PySem.W.Frag} {X : Cx}
section
variable {F H F' H' : Hp} {fp fp' fm : List Addr} {s s' s1 s2 s3 : Sl} {σ : St} {a b c : Expr} {fa fb fc : Sl → Option (Res × Sl)} {pos : Pos}

theorem se_neg (ha : PE X a (tE X.K fa)) : PE X (.UnaryOp .USub a pos) (tE X.K fun s => bd (fa s) fun ra s1 => negR (toV s1 ra) s1) := pe_imp (pe_un un_neg ha) fun σ H Q ⟨F, s, fp, r, s', ok, e, k⟩ => by
  obtain ⟨ra, s1, e1, e⟩ := bd_inv e
  refine ⟨F, s, fp, ra, s1, ok, e1, fun F1 H1 v fm fp1 g r1 => ?_⟩
  cases ev : toV s1 ra with
  | none => rw [ev] at e; cases e
  | some d =>
    rw [ev] at e
    have rv := toV_ok g.ok r1 ev
    cases rv with
    | int i => cases e; exact ⟨i, rfl, fin_flat g (.int _) rfl k⟩
    | _ => cases e
theorem se_cmp {o : Cop} (hu : X.A.units + 65 < cLine) (ha : PE X a (tE X.K fa)) (hb : PE X b (tE X.K fb)) (hm : behindInMarks (copOf o) b = false) :
    PE X (.Compare a [copOf o] [b] pos) (tE X.K fun s => bd (fa s) fun ra s1 => bd (fb s1) fun rb s2 => (evCmp o s2 ra rb).bind fun c => rM (.bl c) s2) :=
  pe_imp (pe_cmpR (cmp_rule hu o) ha hb hm) fun σ H Q ⟨F, s, fp, r, s', ok, e, k⟩ => by
    obtain ⟨ra, s1, e1, e⟩ := bd_inv e
    obtain ⟨rb, s2, e2, e⟩ := bd_inv e
    obtain ⟨c, e3, e⟩ := bind_inv e
    cases e
    refine two ok e1 e2 fun F2 H2 va vb fa' fb' fp2 g ra' rb' => ?_
    unfold evCmp at e3
    obtain ⟨da, e4, e3⟩ := bind_inv e3
    obtain ⟨db, e5, e3⟩ := bind_inv e3
    exact ⟨da, db, c, toV_ok g.ok ra' e4, toV_ok g.ok rb' e5, e3, fin_flat g (.bl _) rfl k⟩
theorem st_cmp {o : Cop} (hu : X.A.units + 65 < cLine) (ha : PE X a (tE X.K fa)) (hb : PE X b (tE X.K fb)) (hm : behindInMarks (copOf o) b = false) :
    PT X (.Compare a [copOf o] [b] pos) (tTs X.K fun s => bd (fa s) fun ra s1 => bd (fb s1) fun rb s2 => (evCmp o s2 ra rb).map fun c => (c, s2)) :=
  pt_imp (pt_cmpR (cmp_rule hu o) ha hb hm) fun σ H Q ⟨F, s, fp, r, s', ok, e, k⟩ => by
    obtain ⟨ra, s1, e1, e⟩ := bd_inv e
    obtain ⟨rb, s2, e2, e⟩ := bd_inv e
    obtain ⟨c, e3, e⟩ := map_inv e
    cases e
    refine two ok e1 e2 fun F2 H2 va vb fa' fb' fp2 g ra' rb' => ?_
    unfold evCmp at e3
    obtain ⟨da, e4, e3⟩ := bind_inv e3
    obtain ⟨db, e5, e3⟩ := bind_inv e3
    exact ⟨da, db, _, toV_ok g.ok ra' e4, toV_ok g.ok rb' e5, e3, _, rfl, k _ _ _ g.none⟩
theorem se_chain {o p : Cop} (hu : X.A.units + 65 < cLine) (ha : PE X a (tE X.K fa)) (hb : PE X b (tE X.K fb)) (hc : PE X c (tE X.K fc)) (hm : lastMarks [copOf o, copOf p] [b, c] = false) :
    PE X (.Compare a [copOf o, copOf p] [b, c] pos) (tE X.K fun s => bd (fa s) fun ra s1 => bd (fb s1) fun rb s2 => (evCmp o s2 ra rb).bind fun k =>
      if k then bd (fc s2) fun rc s3 => (evCmp p s3 rb rc).bind fun k => rM (.bl k) s3 else rM (.bl false) s2) :=
  pe_imp (pe_chain (cmp_rule hu o) (cmp_rule hu p) ha hb hc hm) fun σ H Q ⟨F, s, fp, r, s', ok, e, k⟩ => by
    obtain ⟨ra, s1, e1, e⟩ := bd_inv e
    obtain ⟨rb, s2, e2, e⟩ := bd_inv e
    obtain ⟨c1, e3, e⟩ := bind_inv e
    refine two ok e1 e2 fun F2 H2 va vb fa' fb' fp2 g ra' rb' => ?_
    unfold evCmp at e3
    obtain ⟨da, e4, e3⟩ := bind_inv e3
    obtain ⟨db, e5, e3⟩ := bind_inv e3
    refine ⟨da, db, c1, toV_ok g.ok ra' e4, toV_ok g.ok rb' e5, e3, c1, rfl, ?_⟩
    cases c1 with
    | true =>
      rw [if_pos rfl] at e ⊢
      obtain ⟨rc, s3, e6, e⟩ := bd_inv e
      obtain ⟨c2, e7, e⟩ := bind_inv e
      cases e
      refine ⟨F2, s2, fp2, rc, _, g.ok, e6, fun F3 H3 vc fc' fp3 g3 rc' => ?_⟩
      unfold evCmp at e7
      obtain ⟨db', e8, e7⟩ := bind_inv e7
      obtain ⟨dc, e9, e7⟩ := bind_inv e7
      exact ⟨db', dc, _, toV_ok g3.ok (rb'.same g3.mono g3.heap) e8, toV_ok g3.ok rc' e9, e7, fin_flat (g.then g3) (.bl _) rfl k⟩
    | false =>
      rw [if_neg Bool.false_ne_true] at e ⊢
      cases e
      exact fin_flat g (.bl _) rfl k
theorem st_chain {o p : Cop} (hu : X.A.units + 65 < cLine) (ha : PE X a (tE X.K fa)) (hb : PE X b (tE X.K fb)) (hc : PE X c (tE X.K fc)) (hm : lastMarks [copOf o, copOf p] [b, c] = false) :
    PT X (.Compare a [copOf o, copOf p] [b, c] pos) (tTs X.K fun s => bd (fa s) fun ra s1 => bd (fb s1) fun rb s2 => (evCmp o s2 ra rb).bind fun k =>
      if k then bd (fc s2) fun rc s3 => (evCmp p s3 rb rc).map fun k => (k, s3) else some (false, s2)) :=
  pt_imp (pt_chain (cmp_rule hu o) (cmp_rule hu p) ha hb hc hm) fun σ H Q ⟨F, s, fp, r, s', ok, e, k⟩ => by
    obtain ⟨ra, s1, e1, e⟩ := bd_inv e
    obtain ⟨rb, s2, e2, e⟩ := bd_inv e
    obtain ⟨c1, e3, e⟩ := bind_inv e
    refine two ok e1 e2 fun F2 H2 va vb fa' fb' fp2 g ra' rb' => ?_
    unfold evCmp at e3
    obtain ⟨da, e4, e3⟩ := bind_inv e3
    obtain ⟨db, e5, e3⟩ := bind_inv e3
    refine ⟨da, db, c1, toV_ok g.ok ra' e4, toV_ok g.ok rb' e5, e3, c1, rfl, ?_⟩
    cases c1 with
    | true =>
      rw [if_pos rfl] at e ⊢
      obtain ⟨rc, s3, e6, e⟩ := bd_inv e
      obtain ⟨c2, e7, e⟩ := map_inv e
      cases e
      refine ⟨F2, s2, fp2, rc, _, g.ok, e6, fun F3 H3 vc fc' fp3 g3 rc' => ?_⟩
      unfold evCmp at e7
      obtain ⟨db', e8, e7⟩ := bind_inv e7
      obtain ⟨dc, e9, e7⟩ := bind_inv e7
      exact ⟨db', dc, _, toV_ok g3.ok (rb'.same g3.mono g3.heap) e8, toV_ok g3.ok rc' e9, e7, _, rfl, k _ _ _ (g.then g3).none⟩
    | false =>
      rw [if_neg Bool.false_ne_true] at e ⊢
      cases e
      exact ⟨false, rfl, k _ _ _ g.none⟩
theorem se_not (ha : PE X a (tE X.K fa)) : PE X (.UnaryOp .Not a pos) (tE X.K fun s => bd (fa s) fun r s1 => (tst s1 r).bind fun b => rM (.bl (!b)) s1) :=
  pe_imp (pe_notT ha) fun σ H Q ⟨F, s, fp, r, s', ok, e, k⟩ => by
    obtain ⟨ra, s1, e1, e⟩ := bd_inv e
    obtain ⟨b, e2, e⟩ := bind_inv e
    cases e
    refine ⟨F, s, fp, ra, _, ok, e1, fun F1 H1 v fm fp1 g r1 => ?_⟩
    unfold tst at e2
    obtain ⟨d, e3, e2⟩ := bind_inv e2
    exact ⟨_, tru_of (toV_ok g.ok r1 e3) e2, fin_flat g (.bl _) rfl k⟩
theorem st_v (ha : PE X a (tE X.K fa)) (he : ∀ whole, isTrue a X.env whole = (do let v ← whole; standAt a.pos; holding [v] (truthy v))) :
    PT X a (tTs X.K fun s => bd (fa s) fun r s1 => (tst s1 r).map fun b => (b, s1)) :=
  pt_imp (pt_truth ha he) fun σ H Q ⟨F, s, fp, r, s', ok, e, k⟩ => by
    obtain ⟨ra, s1, e1, e⟩ := bd_inv e
    obtain ⟨b, e2, e⟩ := map_inv e
    cases e
    refine ⟨F, s, fp, ra, _, ok, e1, fun F1 H1 v fm fp1 g r1 => ?_⟩
    unfold tst at e2
    obtain ⟨d, e3, e2⟩ := bind_inv e2
    exact ⟨_, tru_of (toV_ok g.ok r1 e3) e2, k _ _ _ g.none⟩
theorem st_not {f : Sl → Option (Bool × Sl)} (ha : PT X a (tTs X.K f)) : PT X (.UnaryOp .Not a pos) (tTs X.K fun s => bd (f s) fun b s1 => some (!b, s1)) :=
  pt_imp (pt_not ha) fun σ H Q ⟨F, s, fp, r, s', ok, e, k⟩ => by
    obtain ⟨b, s1, e1, e⟩ := bd_inv e
    cases e
    exact ⟨F, s, fp, _, _, ok, e1, fun F1 H1 fp1 g => k F1 H1 fp1 g⟩
def bopB (isAnd : Bool) : BoolOp := if isAnd then .And else .Or
theorem st_bool1 {isAnd : Bool} {f : Sl → Option (Bool × Sl)} (ha : PT X a (tTs X.K f)) : PW X (.BoolOp (bopB isAnd) [a] pos) (tTs X.K fun s => bd (f s) fun b s1 => some (b, s1)) := by
  have w : ∀ σ H Q, tTs X.K (fun s => bd (f s) fun b s1 => some (b, s1)) σ H Q → tTs X.K f σ H Q := fun σ H Q ⟨F, s, fp, r, s', ok, e, k⟩ => by
    obtain ⟨b, s1, e1, e⟩ := bd_inv e
    cases e
    exact ⟨F, s, fp, _, _, ok, e1, k⟩
  cases isAnd with
  | true => exact pw_imp (pw_and1 ha) w
  | false => exact pw_imp (pw_or1 ha) w
theorem st_bool {isAnd : Bool} {f g : Sl → Option (Bool × Sl)} {rest : List Expr} (ha : PT X a (tTs X.K f)) (hb : PW X (.BoolOp (bopB isAnd) (b :: rest) pos) (tTs X.K g)) :
    PW X (.BoolOp (bopB isAnd) (a :: b :: rest) pos) (tTs X.K fun s => bd (f s) fun b s1 => if b == isAnd then g s1 else some (b, s1)) := by
  cases isAnd with
  | true =>
    refine pw_imp (pw_and ha hb) fun σ H Q ⟨F, s, fp, r, s', ok, e, k⟩ => ?_
    obtain ⟨b, s1, e1, e⟩ := bd_inv e
    refine ⟨F, s, fp, b, s1, ok, e1, fun F1 H1 fp1 g1 => ?_⟩
    cases b with
    | true => exact ⟨F1, s1, fp1, r, s', g1.ok, e, fun F2 H2 fp2 g2 => k F2 H2 fp2 (g1.then g2)⟩
    | false => cases e; exact k _ _ _ g1
  | false =>
    refine pw_imp (pw_or ha hb) fun σ H Q ⟨F, s, fp, r, s', ok, e, k⟩ => ?_
    obtain ⟨b, s1, e1, e⟩ := bd_inv e
    refine ⟨F, s, fp, b, s1, ok, e1, fun F1 H1 fp1 g1 => ?_⟩
    cases b with
    | false => exact ⟨F1, s1, fp1, r, s', g1.ok, e, fun F2 H2 fp2 g2 => k F2 H2 fp2 (g1.then g2)⟩
    | true => cases e; exact k _ _ _ g1
/-- and, or of bools, as values -/
def tBv (K : PySem.W.Frag) (f : Sl → Option (Bool × Sl)) : TE := tE K fun s => bd (f s) fun b s1 => rM (.bl b) s1
theorem boolR_ok (o : Ok K F H s σ fp) {r : Res} {v : V} {k : Bool} (h : RelR K F H σ r v fm) (e : boolR s r = some k) : v = .bl k := by
  unfold boolR at e
  cases ev : toV s r with
  | none => rw [ev] at e; cases e
  | some d =>
    rw [ev] at e
    have rv := toV_ok o h ev
    cases rv with
    | bl b => cases e; rfl
    | _ => cases e
theorem se_bool1 {op : BoolOp} (ha : PE X a (tE X.K fa)) : PE X (.BoolOp op [a] pos) (tBv X.K fun s => bd (fa s) fun r s1 => (boolR s1 r).bind fun b => some (b, s1)) :=
  pe_imp (pe_one ha) fun σ H Q ⟨F, s, fp, r, s', ok, e, k⟩ => by
    obtain ⟨b, s1, e1, e⟩ := bd_inv e
    cases e
    obtain ⟨ra, s2, e2, e1⟩ := bd_inv e1
    obtain ⟨b', e3, e1⟩ := bind_inv e1
    cases e1
    refine ⟨F, s, fp, ra, _, ok, e2, fun F1 H1 v fm fp1 g r1 => ?_⟩
    have := boolR_ok g.ok r1 e3
    subst this
    exact fin_flat g (.bl _) rfl k
theorem se_bool {isAnd : Bool} {g : Sl → Option (Bool × Sl)} {rest : List Expr} (ha : PE X a (tE X.K fa)) (hb : PE X (.BoolOp (bopB isAnd) (b :: rest) pos) (tBv X.K g)) :
    PE X (.BoolOp (bopB isAnd) (a :: b :: rest) pos) (tBv X.K fun s => bd (fa s) fun r s1 => (boolR s1 r).bind fun b => if b == isAnd then g s1 else some (b, s1)) := by
  cases isAnd with
  | true =>
    refine pe_imp (pe_and ha hb) fun σ H Q ⟨F, s, fp, r, s', ok, e, k⟩ => ?_
    obtain ⟨b, s1, e1, e⟩ := bd_inv e
    cases e
    obtain ⟨ra, s2, e2, e1⟩ := bd_inv e1
    obtain ⟨b', e3, e1⟩ := bind_inv e1
    refine ⟨F, s, fp, ra, s2, ok, e2, fun F1 H1 v fm fp1 g1 r1 => ⟨b', boolR_ok g1.ok r1 e3, ?_⟩⟩
    cases b' with
    | true =>
      have e1 : g s2 = some (b, _) := e1
      refine ⟨F1, s2, fp1, .m (.fz (.bl b)), _, g1.ok, by (show bd (g s2) _ = _); rw [e1]; rfl, fun F2 H2 v2 fm2 fp2 g2 r2 => ?_⟩
      refine k F2 H2 v2 fm2 fp2 ?_ r2
      exact g1.none.then g2
    | false => cases e1; exact fin_flat g1 (.bl _) rfl k
  | false =>
    refine pe_imp (pe_or ha hb) fun σ H Q ⟨F, s, fp, r, s', ok, e, k⟩ => ?_
    obtain ⟨b, s1, e1, e⟩ := bd_inv e
    cases e
    obtain ⟨ra, s2, e2, e1⟩ := bd_inv e1
    obtain ⟨b', e3, e1⟩ := bind_inv e1
    refine ⟨F, s, fp, ra, s2, ok, e2, fun F1 H1 v fm fp1 g1 r1 => ⟨b', boolR_ok g1.ok r1 e3, ?_⟩⟩
    cases b' with
    | false =>
      have e1 : g s2 = some (b, _) := e1
      refine ⟨F1, s2, fp1, .m (.fz (.bl b)), _, g1.ok, by (show bd (g s2) _ = _); rw [e1]; rfl, fun F2 H2 v2 fm2 fp2 g2 r2 => ?_⟩
      refine k F2 H2 v2 fm2 fp2 ?_ r2
      exact g1.none.then g2
    | true => cases e1; exact fin_flat g1 (.bl _) rfl k
/-- a if t else b -/
theorem se_ite {t : Expr} {ft : Sl → Option (Bool × Sl)} (ht : PT X t (tTs X.K ft)) (ha : PE X a (tE X.K fa)) (hb : PE X b (tE X.K fb)) :
    PE X (.IfExp t a b pos) (tE X.K fun s => bd (ft s) fun k s1 => if k then bd (fa s1) fun r s2 => bd (toS s2 r) fun m s3 => some (.m m, s3) else bd (fb s1) fun r s2 => bd (toS s2 r) fun m s3 => some (.m m, s3)) :=
  pe_imp (pe_ifExp ht ha hb) fun σ H Q ⟨F, s, fp, r, s', ok, e, k⟩ => by
    obtain ⟨b, s1, e1, e⟩ := bd_inv e
    refine ⟨F, s, fp, b, s1, ok, e1, fun F1 H1 fp1 g1 => ?_⟩
    have arm : ∀ {f : Sl → Option (Res × Sl)}, (bd (f s1) fun r s2 => bd (toS s2 r) fun m s3 => some (Res.m m, s3)) = some (r, s') → tE X.K f σ H1 Q := fun {f} e => by
      obtain ⟨ra, s2, e2, e⟩ := bd_inv e
      obtain ⟨m, s3, e3, e⟩ := bd_inv e
      cases e
      refine ⟨F1, s1, fp1, ra, s2, g1.ok, e2, fun F2 H2 v fm fp2 g2 r2 => ?_⟩
      obtain ⟨F3, fm3, fp3, g3, ow⟩ := toS_ok (g1.then g2) r2 e3
      exact k F3 H2 v fm3 fp3 g3 ow
    cases b with
    | true => rw [if_pos rfl] at e; exact arm e
    | false => rw [if_neg Bool.false_ne_true] at e; exact arm e
end
end VS
end

section
/-! VS: subscripts, slices, built-ins. -/
namespace VS
open PySem L2
variable {K : PySem.W.Frag} {X : Cx}
section
variable {F H F' H' : Hp} {fp fp' fm : List Addr} {s s' s1 s2 s3 : Sl} {σ : St} {a b c : Expr} {fa fb fc : Sl → Option (Res × Sl)} {pos p : Pos}

theorem RdP.snoc_inv {k : D} : ∀ {ks : List D} {v w : V}, RdP H v (ks ++ [k]) w → ∃ u, RdP H v ks u ∧ Rd1 H u k w
  | [], v, w, ⟨u, h1, h2⟩ => by
    have h2 : u = w := h2
    subst h2
    exact ⟨v, rfl, h1⟩
  | k' :: ks, v, w, ⟨u, h1, h2⟩ => by
    obtain ⟨u', h3, h4⟩ := RdP.snoc_inv h2
    exact ⟨u', ⟨u, h1, h3⟩, h4⟩
theorem idx_ok {d di e : D} {v vi : V} (sm : Same F H) (r : Rep K F d v) (ri : Rep K H di vi) (h : d.idx di = some e) : ∃ w, Rep K F e w ∧ ∀ Q : VK, Q w H → rIx K v vi H Q := by
  cases r with
  | non => cases h
  | bl _ => cases h
  | int _ => cases h
  | @tup a xs ds hs rs =>
    cases ri with
    | int i =>
      have h : atI ds i = some e := h
      obtain ⟨w, h1, h2⟩ := rs.atI h
      exact ⟨w, h2, fun Q q => .inr (.inl ⟨a, xs, i, w, rfl, rfl, sqT_mono hs sm, h1, q⟩)⟩
    | _ => cases h
  | @lst a xs ds hs rs =>
    cases ri with
    | int i =>
      have h : atI ds i = some e := h
      obtain ⟨w, h1, h2⟩ := rs.atI h
      exact ⟨w, h2, fun Q q => .inl ⟨a, xs, i, w, rfl, rfl, SqL.of (sm _ _ hs), h1, q⟩⟩
    | _ => cases h
  | @scr a ns hs =>
    cases ri with
    | int i =>
      have h : (atI ns i).map D.int = some e := h
      obtain ⟨n, h1, h2⟩ := map_inv h
      subst h2
      refine ⟨.int n, .int n, fun Q q => .inl ⟨a, _, i, .int n, rfl, rfl, sqL_mono hs sm, ?_, q⟩⟩
      obtain ⟨j, h3, h4⟩ := atI_get h1
      exact atI_of (j := j) (by rw [List.length_map]; exact h3) (by rw [List.getElem?_map, h4]; rfl)
    | _ => cases h
  | str x =>
    cases ri with
    | int i =>
      have h : (if x.length ≤ sizeLine then (atI x.cps.toList i).map fun c => D.str ⟨#[c]⟩ else none) = some e := h
      split at h
      · rename_i hl
        obtain ⟨c, h1, h2⟩ := map_inv h
        subst h2
        exact ⟨_, .str _, fun Q q => .inr (.inr ⟨x, i, c, rfl, rfl, hl, h1, q⟩)⟩
      · cases h
    | _ => cases h
theorem se_sub (ha : PE X a (tE X.K fa)) (hb : PE X b (tE X.K fb)) (hs : PlainIx b) :
    PE X (.Subscript a b pos) (tE X.K fun s => bd (fa s) fun ra s1 => bd (fb s1) fun ri s2 => evSub s2 ra ri) :=
  pe_imp (pe_ix ix_seq ha hb hs) fun σ H Q ⟨F, s, fp, r, s', ok, e, k⟩ => by
    obtain ⟨ra, s1, e1, e⟩ := bd_inv e
    obtain ⟨rb, s2, e2, e⟩ := bd_inv e
    refine two ok e1 e2 fun F2 H2 va vb fa' fb' fp2 g ra' rb' => ?_
    unfold evSub at e
    obtain ⟨di, e3, e⟩ := bind_inv e
    have pb := toV_ok g.ok rb' e3
    cases ra with
    | pl p =>
      have e : ((look s2 ⟨p.i, p.path ++ [di]⟩).map fun r => (r, s2)) = some (r, s') := e
      obtain ⟨r', e4, e5⟩ := map_inv e
      cases e5
      obtain ⟨hf, v0, h1, h2⟩ := ra'
      subst hf
      have g1 := g.none
      unfold look at e4
      cases eg : getP s' { i := p.i, path := p.path ++ [di] } with
      | none => rw [eg] at e4; cases e4
      | some m =>
        rw [eg] at e4
        -- where the path leads
        have eg0 := eg
        unfold getP at eg0
        split at eg0
        · rename_i mr hm
          obtain ⟨w, f0, g1', g2', q1, q2, q3, _⟩ := g.ok.rep.focus hm
          have q1 : σ[p.i]? = some (some w) := q1
          rw [h1] at q1
          cases q1
          obtain ⟨v', f', f1, f2, p1, p2, p3, _⟩ := q2.focus g.ok.same eg0
          obtain ⟨u, p4, p5⟩ := RdP.snoc_inv p1
          have := p4.det h2
          subst this
          have rd : ∀ Q : VK, Q v' H2 → rIx X.K u vb H2 Q := fun Q q => by
            obtain ⟨ad, xs, i, x1, x2, x3, x4⟩ := p5
            subst x1 x2
            cases pb
            rcases x3 with x3 | x3
            · exact .inl ⟨ad, xs, i, v', rfl, rfl, SqL.of x3, x4, q⟩
            · exact .inr (.inl ⟨ad, xs, i, v', rfl, rfl, SqT.of x3, x4, q⟩)
          refine rd Q ?_
          cases m with
          | fz d =>
            cases e4
            cases p2 with
            | fz rp => exact k F2 H2 v' [] fp2 g1 (Own.fz rp)
          | tup ms => cases e4; exact k F2 H2 v' [] fp2 g1 ⟨rfl, v0, h1, p1⟩
          | lst ms => cases e4; exact k F2 H2 v' [] fp2 g1 ⟨rfl, v0, h1, p1⟩
          | ins c ms => cases e4; exact k F2 H2 v' [] fp2 g1 ⟨rfl, v0, h1, p1⟩
        · cases eg0
    | m m =>
      have e : ((m.toD.idx di).bind fun d => rM d s2) = some (r, s') := e
      obtain ⟨d, e4, e5⟩ := bind_inv e
      cases e5
      have ow : Own X.K F2 H2 m va fa' := ra'
      have g2 := (g.back g.held.frzA).none
      have rp := ow.frz g.ok.same
      obtain ⟨w, h1, h2⟩ := idx_ok (frz_in g.ok.same) rp pb e4
      exact h2 Q (k _ _ w [] fp2 g2 (Own.fz h1))

/-! ### slices -/
def tOs (K : PySem.W.Frag) (b : Bool) (f : Sl → Option (Res × Sl)) : TO := fun σ H Q => ∃ F s fp r s' o, Ok K F H s σ fp ∧ f s = some (r, s') ∧ (toV s' r).bind (optI b) = some o ∧
  ∀ F' H' fp', Good K F H fp F' H' s' σ [] fp' → Q o H'
theorem po_imp {e : Option Expr} {t t' : TO} (h : PO X e t) (w : ∀ σ H Q, t' σ H Q → t σ H Q) : PO X e t' := ⟨fun pins s σ H Q I q => h.run pins s σ H Q I (w σ H Q q)⟩
theorem so_none : PO X none (tOs X.K false fun s => rM .non s) := po_imp po_none fun σ H Q ⟨F, s, fp, r, s', o, ok, e, e2, k⟩ => by
  cases e; cases e2
  exact k F H fp ok.good
theorem so_some (ha : PE X a (tE X.K fa)) : PO X (some a) (tOs X.K true fa) := po_imp (po_some ha) fun σ H Q ⟨F, s, fp, r, s', o, ok, e, e2, k⟩ => by
  obtain ⟨d, e3, e2⟩ := bind_inv e2
  refine ⟨F, s, fp, r, s', ok, e, fun F1 H1 v fm fp1 g r1 => ?_⟩
  have rv := toV_ok g.ok r1 e3
  cases rv with
  | int i => cases e2; exact ⟨i, rfl, k _ _ _ g.none⟩
  | _ => cases e2
theorem Reps.cut {ds : List D} {vs : List V} {l h : Option Int} (r : Reps K F ds vs) : Reps K F (cut ds l h) (cutV vs l h) := by
  unfold VS.cut cutV
  rw [r.length]
  exact (r.drop _).take _
theorem se_slc {bl bh : Bool} {fl fh : Sl → Option (Res × Sl)} {lo hi : Option Expr} {p2 : Pos} (ha : PE X a (tE X.K fa)) (hl : PO X lo (tOs X.K bl fl)) (hh : PO X hi (tOs X.K bh fh)) :
    PE X (.Subscript a (.Slice lo hi none p2) pos) (tE X.K fun s => bd (fa s) fun ra s1 => bd (fl s1) fun rl s2 => ((toV s2 rl).bind (optI bl)).bind fun l =>
      bd (fh s2) fun rh s3 => ((toV s3 rh).bind (optI bh)).bind fun h => evSlc s3 ra l h) :=
  pe_imp (pe_slice ((sl_list.or sl_str).or sl_tupA) ha hl hh) fun σ H Q ⟨F, s, fp, r, s', ok, e, k⟩ => by
    obtain ⟨ra, s1, e1, e⟩ := bd_inv e
    obtain ⟨rl, s2, e2, e⟩ := bd_inv e
    obtain ⟨l, e3, e⟩ := bind_inv e
    obtain ⟨rh, s3, e4, e⟩ := bd_inv e
    obtain ⟨h, e5, e⟩ := bind_inv e
    refine ⟨F, s, fp, ra, s1, ok, e1, fun F1 H1 v fm fp1 g1 r1 => ⟨F1, s1, fp1, rl, s2, l, g1.ok, e2, e3, fun F2 H2 fp2 g2 => ⟨F2, s2, fp2, rh, s3, h, g2.ok, e4, e5, fun F3 H3 fp3 g3 => ?_⟩⟩⟩
    have g := (g1.then g2).then g3
    simp only [List.append_nil] at g
    have r3 := (r1.same g2.mono g2.heap).same g3.mono g3.heap
    unfold evSlc at e
    obtain ⟨d, e6, e⟩ := bind_inv e
    have rv := toV_ok g.ok r3 e6
    cases rv with
    | str x =>
      have e : (if x.length ≤ sizeLine then rM (.str (cutS x l h)) s3 else none) = some (r, s') := e
      obtain ⟨hx, e⟩ := of_ite e
      cases e
      exact .inl (.inr ⟨x, rfl, hx, fin_flat g (.str _) rfl k⟩)
    | @lst a xs ds hs rs =>
      have e : (bd (toC s3 ra) fun xs s' => some (Res.m (.lst ((cut xs l h).map .fz)), s')) = some (r, s') := e
      obtain ⟨ds', s4, e7, e⟩ := bd_inv e
      cases e
      obtain ⟨F4, fp4, vs, a', g4, ea, ha', rs'⟩ := toC_L g r3 e6 e7
      exact .inl (.inl ⟨a', vs, ea, SqL.of ha', fun q hq => fin_list g4 hq rs'.cut k⟩)
    | @tup _ _ _ _ _ =>
      have e : (bd (toS s3 ra) fun m s' => slcT l h s' m) = some (r, s') := e
      obtain ⟨m, s4, e7, e⟩ := bd_inv e
      obtain ⟨F4, fm4, fp4, g4, ow⟩ := toS_ok g r3 e7
      have hfz : ∀ ds : List D, M.toDs (ds.map .fz) = ds ∧ (ds.map M.fz).all M.isD = true := fun ds => by
        induction ds with
        | nil => exact ⟨rfl, rfl⟩
        | cons d ds ih => exact ⟨by rw [List.map_cons]; show d :: M.toDs _ = _; rw [ih.1], by rw [List.map_cons, List.all_cons, ih.2]; rfl⟩
      unfold slcT at e
      split at e
      · rename_i ds
        cases e
        cases ow with
        | fz rr =>
          cases rr with
          | @tup a xs _ hs rs =>
            refine .inr ⟨_, _, rfl, sqT_mono hs g4.ok.same, fun hw => ?_, fun hw q hq => ?_⟩
            · refine k _ _ _ [] _ g4.none (.fz ?_)
              have : cut ds l h = ds := by
                unfold VS.cut
                rw [← rs.length] at hw
                rw [hw.1, hw.2, List.drop_zero]
                exact List.take_length
              rw [this]
              exact .tup hs rs
            · refine fin_tup (ms := (cut ds l h).map .fz) g4.none hq (Reps.owns rs.cut) fun F' H' v fm fp' gg rr => k F' H' v fm fp' gg ?_
              unfold mkTup at rr
              rw [if_pos (hfz _).2, (hfz _).1] at rr
              exact rr
      · cases e
    | _ => cases e

/-! ### built-ins -/
def rBi (K : PySem.W.Frag) (f : Bi) : List V → Hp → VK → Prop := fun xs H Q => ∃ ds d, Reps K H ds xs ∧ biF f ds = some d ∧ ∀ v, Rep K H d v → Q v H
theorem biF_flat {f : Bi} {ds : List D} {d : D} (h : biF f ds = some d) : d.flat = true := by
  unfold biF at h
  split at h
  all_goals first
    | (cases h; rfl)
    | (obtain ⟨_, h⟩ := of_ite h; cases h; rfl)
    | (obtain ⟨_, _, h⟩ := map_inv h; subst h; rfl)
    | (obtain ⟨_, _, h⟩ := bind_inv h; obtain ⟨_, _, h⟩ := map_inv h; subst h; rfl)
    | cases h
def Bi.val : Bi → Value
  | .len => .builtin "len" | .int => .type "int" | .abs => .builtin "abs" | .min2 | .min1 => .builtin "min" | .max2 | .max1 => .builtin "max"
  | .any => .builtin "any" | .all => .builtin "all" | .sum => .builtin "sum" | .str => .type "str"
  | .list => .type "list" | .tuple => .type "tuple" | .sorted => .builtin "sorted"
def Bi.name : Bi → Str
  | .len => "len" | .int => "int" | .abs => "abs" | .min2 | .min1 => "min" | .max2 | .max1 => "max" | .any => "any" | .all => "all" | .sum => "sum" | .str => "str"
  | .list => "list" | .tuple => "tuple" | .sorted => "sorted"
theorem intsD_reps : ∀ {ds : List D} {vs : List V} {ns : List Int}, Reps K F ds vs → intsD ds = some ns → vs = ns.map V.int
  | _, _, _, .nil, h => by cases h; rfl
  | _, _, _, .cons r rs, h => by
    cases r with
    | int i =>
      have h : (intsD _).map (fun t => i :: t) = _ := h
      obtain ⟨t, h1, h2⟩ := map_inv h
      subst h2
      rw [List.map_cons, intsD_reps rs h1]
    | _ => cases h
theorem boolsD_reps : ∀ {ds : List D} {vs : List V} {ns : List Bool}, Reps K F ds vs → boolsD ds = some ns → vs = ns.map V.bl
  | _, _, _, .nil, h => by cases h; rfl
  | _, _, _, .cons r rs, h => by
    cases r with
    | bl i =>
      have h : (boolsD _).map (fun t => i :: t) = _ := h
      obtain ⟨t, h1, h2⟩ := map_inv h
      subst h2
      rw [List.map_cons, boolsD_reps rs h1]
    | _ => cases h
theorem minI_ok : ∀ {l : List Int} {x m : Int}, m = l.foldl (fun a b => if b < a then b else a) x → (m = x ∨ m ∈ l) ∧ m ≤ x ∧ ∀ y ∈ l, m ≤ y
  | [], x, m, h => ⟨.inl h, by rw [h]; exact Int.le_refl _, by simp⟩
  | y :: l, x, m, h => by
    have ih := minI_ok (l := l) (x := if y < x then y else x) (m := m) h
    obtain ⟨h1, h2, h3⟩ := ih
    have hx : (if y < x then y else x) ≤ x ∧ (if y < x then y else x) ≤ y := by split <;> omega
    refine ⟨?_, by omega, fun z hz => ?_⟩
    · rcases h1 with h1 | h1
      · by_cases hy : y < x
        · rw [if_pos hy] at h1; exact .inr (by rw [h1]; exact List.mem_cons_self)
        · rw [if_neg hy] at h1; exact .inl h1
      · exact .inr (List.mem_cons_of_mem _ h1)
    · rcases List.mem_cons.mp hz with rfl | hz
      · omega
      · exact h3 z hz
theorem maxI_ok : ∀ {l : List Int} {x m : Int}, m = l.foldl (fun a b => if a < b then b else a) x → (m = x ∨ m ∈ l) ∧ x ≤ m ∧ ∀ y ∈ l, y ≤ m
  | [], x, m, h => ⟨.inl h, by rw [h]; exact Int.le_refl _, by simp⟩
  | y :: l, x, m, h => by
    have ih := maxI_ok (l := l) (x := if x < y then y else x) (m := m) h
    obtain ⟨h1, h2, h3⟩ := ih
    have hx : x ≤ (if x < y then y else x) ∧ y ≤ (if x < y then y else x) := by split <;> omega
    refine ⟨?_, by omega, fun z hz => ?_⟩
    · rcases h1 with h1 | h1
      · by_cases hy : x < y
        · rw [if_pos hy] at h1; exact .inr (by rw [h1]; exact List.mem_cons_self)
        · rw [if_neg hy] at h1; exact .inl h1
      · exact .inr (List.mem_cons_of_mem _ h1)
    · rcases List.mem_cons.mp hz with rfl | hz
      · omega
      · exact h3 z hz
theorem bi_rule (hc : X.calm = true) (f : Bi) (hf : f.isC = false) : CallR X f.val (rBi X.K f) := by
  intro pins s σ H xs us Q I rx ⟨ds, d, rs, e, q⟩
  cases f with
  | list => cases hf
  | tuple => cases hf
  | sorted => cases hf
  | len =>
    cases rs with
    | nil => cases e
    | cons r rs =>
      cases rs with
      | cons _ _ => cases r <;> cases e
      | nil =>
        cases r with
        | tup h r =>
          cases e
          refine call_len_seq pins s σ H _ _ Q I rx ⟨_, _, rfl, .inr h, ?_⟩
          rw [← r.length]; exact q _ (.int _)
        | lst h r =>
          cases e
          refine call_len_seq pins s σ H _ _ Q I rx ⟨_, _, rfl, .inl (SqL.of h), ?_⟩
          rw [← r.length]; exact q _ (.int _)
        | @scr a ns h =>
          cases e
          refine call_len_seq pins s σ H _ _ Q I rx ⟨_, _, rfl, .inl h, ?_⟩
          rw [List.length_map]; exact q _ (.int _)
        | str x =>
          obtain ⟨h, e⟩ := of_ite e
          cases e
          exact call_len_str pins s σ H _ _ Q I rx ⟨_, rfl, h, q _ (.int _)⟩
        | _ => cases e
  | int =>
    cases rs with
    | nil => cases e
    | cons r rs =>
      cases rs with
      | cons _ _ => cases r <;> cases e
      | nil =>
        cases r with
        | int i => cases e; exact call_int1 pins s σ H _ _ Q I rx (.inl ⟨_, rfl, q _ (.int _)⟩)
        | bl b => cases e; exact call_int1 pins s σ H _ _ Q I rx (.inr ⟨_, rfl, q _ (.int _)⟩)
        | _ => cases e
  | abs =>
    cases rs with
    | nil => cases e
    | cons r rs =>
      cases rs with
      | cons _ _ => cases r <;> cases e
      | nil =>
        cases r with
        | int i => cases e; exact call_abs pins s σ H _ _ Q I rx ⟨_, rfl, q _ (.int _)⟩
        | _ => cases e
  | str =>
    cases rs with
    | nil => cases e
    | cons r rs =>
      cases rs with
      | cons _ _ => cases r <;> cases e
      | nil =>
        cases r with
        | int i => obtain ⟨h, e⟩ := of_ite e; cases e; exact call_str_int pins s σ H _ _ Q I rx ⟨_, rfl, h, q _ (.str _)⟩
        | _ => cases e
  | min1 =>
    cases rs with
    | nil => cases e
    | cons r rs =>
      cases rs with
      | cons _ _ => cases r <;> cases e
      | nil =>
        cases r with
        | lst h r =>
          obtain ⟨ns, e1, e⟩ := bind_inv (show ((intsD _).bind fun ns => (minI ns).map D.int) = some d from e)
          obtain ⟨m, e2, e⟩ := map_inv e
          subst e
          have hv := intsD_reps r e1
          subst hv
          cases ns with
          | nil => cases e2
          | cons x l =>
            cases e2
            refine (cr_min hc) pins s σ H _ _ Q I rx ⟨_, _, rfl, SqL.of h, by simp, fun m hm hle => ?_⟩
            obtain ⟨k1, k2, k3⟩ := minI_ok (l := l) (x := x) rfl
            have e3 : m = l.foldl (fun a b => if b < a then b else a) x := by
              have a1 : m ≤ l.foldl (fun a b => if b < a then b else a) x := hle _ (k1.elim (fun k1 => by rw [k1]; exact List.mem_cons_self) (fun k1 => List.mem_cons_of_mem _ k1))
              rcases List.mem_cons.mp hm with rfl | hm
              · omega
              · have := k3 m hm; omega
            rw [e3]
            exact q _ (.int _)
        | _ => cases e
  | max1 =>
    cases rs with
    | nil => cases e
    | cons r rs =>
      cases rs with
      | cons _ _ => cases r <;> cases e
      | nil =>
        cases r with
        | lst h r =>
          obtain ⟨ns, e1, e⟩ := bind_inv (show ((intsD _).bind fun ns => (maxI ns).map D.int) = some d from e)
          obtain ⟨m, e2, e⟩ := map_inv e
          subst e
          have hv := intsD_reps r e1
          subst hv
          cases ns with
          | nil => cases e2
          | cons x l =>
            cases e2
            refine (cr_max hc) pins s σ H _ _ Q I rx ⟨_, _, rfl, SqL.of h, by simp, fun m hm hle => ?_⟩
            obtain ⟨k1, k2, k3⟩ := maxI_ok (l := l) (x := x) rfl
            have e3 : m = l.foldl (fun a b => if a < b then b else a) x := by
              have a1 : l.foldl (fun a b => if a < b then b else a) x ≤ m := hle _ (k1.elim (fun k1 => by rw [k1]; exact List.mem_cons_self) (fun k1 => List.mem_cons_of_mem _ k1))
              rcases List.mem_cons.mp hm with rfl | hm
              · omega
              · have := k3 m hm; omega
            rw [e3]
            exact q _ (.int _)
        | _ => cases e
  | min2 =>
    cases rs with
    | nil => cases e
    | cons r rs =>
      cases rs with
      | nil => cases r <;> cases e
      | cons r2 rs =>
        cases rs with
        | cons _ _ => cases r <;> cases r2 <;> cases e
        | nil =>
          cases r <;> cases r2 <;> cases e
          exact call_min2 hc pins s σ H _ _ Q I rx ⟨_, _, rfl, q _ (.int _)⟩
  | max2 =>
    cases rs with
    | nil => cases e
    | cons r rs =>
      cases rs with
      | nil => cases r <;> cases e
      | cons r2 rs =>
        cases rs with
        | cons _ _ => cases r <;> cases r2 <;> cases e
        | nil =>
          cases r <;> cases r2 <;> cases e
          exact call_max2 hc pins s σ H _ _ Q I rx ⟨_, _, rfl, q _ (.int _)⟩
  | any =>
    cases rs with
    | nil => cases e
    | cons r rs =>
      cases rs with
      | cons _ _ => cases r <;> cases e
      | nil =>
        cases r with
        | lst h r =>
          obtain ⟨bs, e1, e2⟩ := map_inv e
          subst e2
          have := boolsD_reps r e1
          subst this
          exact cr_any hc pins s σ H _ _ Q I rx ⟨_, _, rfl, SqL.of h, q _ (.bl _)⟩
        | _ => cases e
  | all =>
    cases rs with
    | nil => cases e
    | cons r rs =>
      cases rs with
      | cons _ _ => cases r <;> cases e
      | nil =>
        cases r with
        | lst h r =>
          obtain ⟨bs, e1, e2⟩ := map_inv e
          subst e2
          have := boolsD_reps r e1
          subst this
          exact cr_all hc pins s σ H _ _ Q I rx ⟨_, _, rfl, SqL.of h, q _ (.bl _)⟩
        | _ => cases e
  | sum =>
    cases rs with
    | nil => cases e
    | cons r rs =>
      cases rs with
      | cons _ _ => cases r <;> cases e
      | nil =>
        cases r with
        | lst h r =>
          obtain ⟨bs, e1, e2⟩ := map_inv e
          subst e2
          have := intsD_reps r e1
          subst this
          exact cr_sum hc pins s σ H _ _ Q I rx ⟨_, _, rfl, SqL.of h, q _ (.int _)⟩
        | _ => cases e
/-- containers out of containers -/
def rBiC (K : PySem.W.Frag) (f : Bi) : List V → Hp → VK → Prop := fun xs H Q => ∃ v b vs, xs = [v] ∧ SqAt K H b v vs ∧ match f with
  | .list => ∀ p, H p = none → Q (.ref p) (upd H p (.lst vs))
  | .tuple => if b = true then ∀ p, H p = none → Q (.ref p) (upd H p (.tup vs)) else Q v H
  | .sorted => b = true ∧ ∃ ns : List Int, vs = ns.map V.int ∧ ∀ p, H p = none → Q (.ref p) (upd H p (.lst ((sortI ns).map V.int)))
  | _ => False
theorem insI_perm (x : Int) : ∀ l : List Int, (insI x l).Perm (x :: l)
  | [] => .refl _
  | y :: ys => by
    unfold insI
    split
    · exact .refl _
    · exact ((insI_perm x ys).cons y).trans (.swap x y ys)
theorem sortI_perm : ∀ l : List Int, (sortI l).Perm l
  | [] => .refl _
  | x :: xs => (insI_perm x _).trans ((sortI_perm xs).cons x)
theorem insI_sorted (x : Int) : ∀ {l : List Int}, l.Pairwise (· ≤ ·) → (insI x l).Pairwise (· ≤ ·)
  | [], _ => by unfold insI; exact List.pairwise_singleton _ _
  | y :: ys, h => by
    unfold insI
    split
    · rename_i hx
      refine List.pairwise_cons.mpr ⟨fun z hz => ?_, h⟩
      rcases List.mem_cons.mp hz with e | hz
      · subst e; exact hx
      · exact Int.le_trans hx ((List.pairwise_cons.mp h).1 z hz)
    · rename_i hx
      refine List.pairwise_cons.mpr ⟨fun z hz => ?_, insI_sorted x (List.pairwise_cons.mp h).2⟩
      rcases List.mem_cons.mp ((insI_perm x ys).subset hz) with e | hz
      · subst e; omega
      · exact (List.pairwise_cons.mp h).1 z hz
theorem sortI_sorted : ∀ l : List Int, (sortI l).Pairwise (· ≤ ·)
  | [] => .nil
  | x :: xs => insI_sorted x (sortI_sorted xs)
theorem sorted_uniq : ∀ {l m : List Int}, l.Perm m → l.Pairwise (· ≤ ·) → m.Pairwise (· ≤ ·) → l = m := fun p h1 h2 =>
  List.Perm.eq_of_pairwise (le := (· ≤ ·)) (fun a b _ _ h h' => Int.le_antisymm h h') h1 h2 p
theorem biC_rule (f : Bi) (hf : f.isC = true) : CallR X f.val (rBiC X.K f) := by
  intro pins s σ H xs us Q I rx ⟨v, b, vs, ex, sq, q⟩
  subst ex
  cases f with
  | list =>
    obtain ⟨a, ea, h⟩ := sq.any
    subst ea
    exact call_list_of pins s σ H _ _ Q I rx ⟨a, vs, rfl, h, q⟩
  | tuple =>
    obtain ⟨a, ea, h⟩ := sq
    subst ea
    refine call_tuple_of pins s σ H _ _ Q I rx ⟨a, vs, rfl, ?_⟩
    cases b with
    | true => exact .inl ⟨SqL.of h, q⟩
    | false => exact .inr ⟨h, q⟩
  | sorted =>
    obtain ⟨hb, ns, ev, q⟩ := q
    subst hb
    obtain ⟨a, ea, h⟩ := sq
    subst ea ev
    refine cr_sortedI pins s σ H _ _ Q I rx ⟨a, ns, rfl, SqL.of h, fun ns' p pm ps hp => ?_⟩
    have e : ns' = sortI ns := sorted_uniq (pm.trans (sortI_perm ns).symm) ps (sortI_sorted ns)
    subst e
    exact q p hp
  | _ => cases hf
end
end VS
end

section
/-! VS: (a, *b); dicts of the module. -/
namespace VS
open PySem L2
variable {K : PySem.W.Frag} {X : Cx}
section
variable {F H F' H' : Hp} {fp fp' fm : List Addr} {s s' s1 s2 s3 : Sl} {σ : St} {a b c : Expr} {fa fb fc : Sl → Option (Res × Sl)} {pos p : Pos}
theorem se_tupS {k : Nat} (ha : PE X a (tE X.K fa)) (hb : PE X b (tE X.K fb)) (hs : starEach [a, .Starred b p] X.env = (false, eval a X.env) :: starEach [.Starred b p] X.env) :
    PE X (.Tuple [a, .Starred b p] k pos) (tE X.K fun s => bd (fa s) fun ra s1 => bd (fb s1) fun rb s2 => evTupS s2 ra rb) :=
  pe_imp (pe_tup (pa_cons ha (StX.pa_star hb pa_nil) hs)) fun σ H Q ⟨F, s, fp, r, s', ok, e, k⟩ => by
    obtain ⟨ra, s1, e1, e⟩ := bd_inv e
    obtain ⟨rb, s2, e2, e⟩ := bd_inv e
    unfold evTupS at e
    obtain ⟨da, e3, e⟩ := bind_inv e
    cases hf : da.flat with
    | false => rw [hf, if_neg Bool.false_ne_true] at e; cases e
    | true =>
    rw [hf, if_pos rfl] at e
    obtain ⟨db, e4, e⟩ := bind_inv e
    cases hd : isLd db with
    | false => rw [hd, if_neg Bool.false_ne_true] at e; cases e
    | true =>
    rw [hd, if_pos rfl] at e
    obtain ⟨ds, s4, e5, e⟩ := bd_inv e
    obtain ⟨hl, e⟩ := of_ite e
    cases e
    obtain ⟨xs, rfl⟩ : ∃ xs, db = .lst xs := by cases db <;> first | exact ⟨_, rfl⟩ | cases hd
    refine two ok e1 e2 fun F2 H2 va vb fa' fb' fp2 g ra' rb' => ?_
    have va' := toV_ok g.ok ra' e3
    obtain ⟨F4, fp4, vs, ad, g4, ea, hv, rs⟩ := toC_L (g.drop (List.sublist_append_right fa' fb')) rb' e4 e5
    refine ⟨ad, vs, ea, .inr (SqL.of hv), ?_⟩
    show (va :: (vs ++ [])).length ≤ sizeLine ∧ _
    rw [List.append_nil]
    refine ⟨by rw [List.length_cons, ← rs.length]; omega, fun q hq => ?_⟩
    have frF : Same F4 (upd F4 q (.tup (va :: vs))) := same_fresh (same_none g4.ok.same hq)
    exact k _ _ (.ref q) [] fp4 (g4.freshF hq) (Own.fz (.tup (.inl (.inl upd_same)) (.cons (va'.flat hf) (rs.mono frF))))
/-- what is known of the module's dict k -/
def DcOk (X : Cx) (t : D) (x : Str) : Prop := ∃ a es n, X.mg x = some (.ref a) ∧ KDict X.K X.w a es n ∧ ∀ z : Str, ∃ r, PySem.W.nsIn X.K a z = some r ∧ match pairGet z (pairsOf t) with
  | none => r = none
  | some d => ∃ u v, r = some u ∧ RelV v u ∧ ∀ F, Rep X.K F d v
theorem se_cget {t : D} {x : Str} (h : DcOk X t x) (hg : Gl X x) (hn : (x == ("__debug__" : Str)) = false) (ha : PE X a (tE X.K fa)) (hs : PlainIx a) :
    PE X (.Subscript (.Name x p) a pos) (tE X.K fun s => bd (fa s) fun r s1 => (toV s1 r).bind fun d => (cgetD t d).bind fun y => rM y s1) := by
  obtain ⟨ad, es, n, hm, hk, hz⟩ := h
  refine pe_imp (pe_ix ix_kdict (pe_glob (v := .ref ad) hg hm rfl hn) ha hs) fun σ H Q ⟨F, s, fp, r, s', ok, e, k⟩ => ?_
  obtain ⟨r1, s1, e1, e⟩ := bd_inv e
  obtain ⟨d, e2, e⟩ := bind_inv e
  obtain ⟨y, e3, e⟩ := bind_inv e
  cases e
  refine ⟨F, s, fp, r1, s', ok, e1, fun F1 H1 v fm fp1 g rr => ?_⟩
  have rv := toV_ok g.ok rr e2
  cases rv with
  | str z =>
    have e3 : pairGet z (pairsOf t) = some y := e3
    obtain ⟨r, h1, h2⟩ := hz z
    rw [e3] at h2
    obtain ⟨u, v, rfl, ru, rp⟩ := h2
    exact ⟨ad, z, v, rfl, rfl, ⟨es, n, u, hk.at_, hk.lit, h1, ru⟩, k F1 H1 v [] fp1 g.none (Own.fz (rp F1))⟩
  | _ => cases e3
theorem cin_at {neg : Bool} {t : D} {ad : Addr} (hz : ∀ z : Str, ∃ r, PySem.W.nsIn X.K ad z = some r ∧ match pairGet z (pairsOf t) with
  | none => r = none
  | some d => ∃ u v, r = some u ∧ RelV v u ∧ ∀ F, Rep X.K F d v) (z : Str) : ∃ r, PySem.W.nsIn X.K ad z = some r ∧ (pairGet z (pairsOf t)).isSome = r.isSome := by
  obtain ⟨r, h1, h2⟩ := hz z
  refine ⟨r, h1, ?_⟩
  cases e : pairGet z (pairsOf t) with
  | none => rw [e] at h2; subst h2; rfl
  | some d => rw [e] at h2; obtain ⟨u, v, rfl, _⟩ := h2; rfl
theorem se_cin {neg : Bool} {t : D} {x : Str} (h : DcOk X t x) (hg : Gl X x) (hn : (x == ("__debug__" : Str)) = false) (ha : PE X a (tE X.K fa)) :
    PE X (.Compare a [if neg then .NotIn else .In] [.Name x p] pos) (tE X.K fun s => bd (fa s) fun r s1 => (toV s1 r).bind fun d => (cinD neg t d).bind fun y => rM (.bl y) s1) := by
  obtain ⟨ad, es, n, hm, hk, hz⟩ := h
  have key : ∀ {op : CmpOp} {f : Bool → Bool}, (∀ b, f b = (b != neg)) → OpR X (compareOp op) (fun x y H Q => ∃ (z : Str) (r : Option Value), x = .str z ∧ y = .ref ad ∧ PySem.W.nsIn X.K ad z = some r ∧ Q (.bl (f r.isSome)) H) → behindInMarks op (.Name x p) = false →
      PE X (.Compare a [op] [.Name x p] pos) (tE X.K fun s => bd (fa s) fun r s1 => (toV s1 r).bind fun d => (cinD neg t d).bind fun y => rM (.bl y) s1) := fun {op f} hf ho hmk =>
    pe_imp (pe_cmpR ho ha (pe_glob (v := .ref ad) hg hm rfl hn) hmk) fun σ H Q ⟨F, s, fp, r, s', ok, e, k⟩ => by
      obtain ⟨r1, s1, e1, e⟩ := bd_inv e
      obtain ⟨d, e2, e⟩ := bind_inv e
      obtain ⟨y, e3, e⟩ := bind_inv e
      cases e
      refine ⟨F, s, fp, r1, s', ok, e1, fun F1 H1 v fm fp1 g rr => ?_⟩
      have rv := toV_ok g.ok rr e2
      cases rv with
      | str z =>
        cases e3
        obtain ⟨r, h1, h2⟩ := cin_at (neg := neg) hz z
        refine ⟨z, r, rfl, rfl, h1, ?_⟩
        rw [hf, ← h2]
        exact fin_flat g (.bl _) rfl k
      | _ => cases e3
  cases neg with
  | false => exact key (f := fun b => b) (fun b => by cases b <;> rfl) (op_in_kd hk) rfl
  | true => exact key (f := fun b => !b) (fun b => by cases b <;> rfl) (op_notIn_kd hk) rfl
theorem st_cin {neg : Bool} {t : D} {x : Str} (h : DcOk X t x) (hg : Gl X x) (hn : (x == ("__debug__" : Str)) = false) (ha : PE X a (tE X.K fa)) :
    PT X (.Compare a [if neg then .NotIn else .In] [.Name x p] pos) (tTs X.K fun s => bd (fa s) fun r s1 => (toV s1 r).bind fun d => (cinD neg t d).bind fun y => some (y, s1)) := by
  obtain ⟨ad, es, n, hm, hk, hz⟩ := h
  have key : ∀ {op : CmpOp} {f : Bool → Bool}, (∀ b, f b = (b != neg)) → OpR X (compareOp op) (fun x y H Q => ∃ (z : Str) (r : Option Value), x = .str z ∧ y = .ref ad ∧ PySem.W.nsIn X.K ad z = some r ∧ Q (.bl (f r.isSome)) H) → behindInMarks op (.Name x p) = false →
      PT X (.Compare a [op] [.Name x p] pos) (tTs X.K fun s => bd (fa s) fun r s1 => (toV s1 r).bind fun d => (cinD neg t d).bind fun y => some (y, s1)) := fun {op f} hf ho hmk =>
    pt_imp (pt_cmpR ho ha (pe_glob (v := .ref ad) hg hm rfl hn) hmk) fun σ H Q ⟨F, s, fp, r, s', ok, e, k⟩ => by
      obtain ⟨r1, s1, e1, e⟩ := bd_inv e
      obtain ⟨d, e2, e⟩ := bind_inv e
      obtain ⟨y, e3, e⟩ := bind_inv e
      cases e
      refine ⟨F, s, fp, r1, s', ok, e1, fun F1 H1 v fm fp1 g rr => ?_⟩
      have rv := toV_ok g.ok rr e2
      cases rv with
      | str z =>
        cases e3
        obtain ⟨r, h1, h2⟩ := cin_at (neg := neg) hz z
        refine ⟨z, r, rfl, rfl, h1, ?_⟩
        rw [hf, ← h2]
        exact ⟨_, rfl, k _ _ _ g.none⟩
      | _ => cases e3
  cases neg with
  | false => exact key (f := fun b => b) (fun b => by cases b <;> rfl) (op_in_kd hk) rfl
  | true => exact key (f := fun b => !b) (fun b => by cases b <;> rfl) (op_notIn_kd hk) rfl
end
/-- a written dict's entries and the pairs that tell it -/
inductive Ents (K : PySem.W.Frag) (P : Params) : List DictEntry → List D → Prop
  | nil : Ents K P [] []
  | cons {x : Str} {t : Tok} {u : Value} {v : V} {d : D} {es : List DictEntry} {ps : List D} : RelV v u → (∀ F, Rep K F d v) → Ents K P es ps → Ents K P (⟨PyData.keyHash P x, .str x t, u⟩ :: es) (.tup [.str x, d] :: ps)
theorem Ents.lit {P : Params} : ∀ {es : List DictEntry} {ps : List D}, Ents K P es ps → PySem.W.KeysLit P es
  | _, _, .nil => trivial
  | _, _, .cons _ _ h => ⟨⟨_, _, rfl, rfl⟩, h.lit⟩
theorem Ents.any {P : Params} : ∀ {es : List DictEntry} {ps : List D}, Ents K P es ps → es.any (·.refKey) = false
  | _, _, .nil => rfl
  | _, _, .cons _ _ h => by rw [List.any_cons, h.any]; rfl
theorem Ents.find {P : Params} (z : Str) : ∀ {es : List DictEntry} {ps : List D}, Ents K P es ps → (match pairGet z ps with
  | none => es.find? (·.key.isStr z) = none
  | some d => ∃ e v, es.find? (·.key.isStr z) = some e ∧ RelV v e.val ∧ ∀ F, Rep K F d v)
  | _, _, .nil => rfl
  | _, _, .cons (x := x) (t := t) (u := u) (v := v) (d := d) (es := es) (ps := ps) h1 h2 h => by
    have e1 : (Value.str x t).isStr z = (x == z) := by first | rfl | simp [Value.isStr]
    rw [pairGet, List.find?_cons]
    simp only [e1]
    by_cases hx : x = z
    · rw [if_pos hx, show (x == z) = true by simp [hx]]
      exact ⟨_, v, rfl, h1, h2⟩
    · rw [if_neg hx, show (x == z) = false by simp [hx]]
      exact h.find z
theorem Ents.dc {w : World} {a : Addr} {es : Array DictEntry} {n : Nat} {ps : List D} (hl : K.lookup a = some ⟨.type "dict", none, .dict es n, #[]⟩) (lo : (a == sysModules) = false) (h : Ents K w.params es.toList ps) :
    KDict K w a es n ∧ ∀ z : Str, ∃ r, PySem.W.nsIn K a z = some r ∧ match pairGet z ps with
      | none => r = none
      | some d => ∃ u v, r = some u ∧ RelV v u ∧ ∀ F, Rep K F d v := by
  refine ⟨⟨hl, h.lit, lo⟩, fun z => ?_⟩
  have hf := h.find z
  unfold PySem.W.nsIn
  rw [hl]
  simp only
  cases e : pairGet z ps with
  | none =>
    rw [e] at hf
    simp only at hf
    rw [hf]
    simp only
    rw [h.any]
    exact ⟨none, rfl, rfl⟩
  | some d =>
    rw [e] at hf
    obtain ⟨en, v, h1, h2, h3⟩ := hf
    rw [h1]
    exact ⟨_, rfl, en.val, v, rfl, h2, h3⟩
end VS
end

section
/-! VS: calls. -/
namespace VS
open PySem L2
variable {K : PySem.W.Frag} {X : Cx}

/-! ### no star -/
def nst : Expr → Bool
  | .Starred .. => false
  | _ => true
theorem star_cons {e : Expr} {es : List Expr} {env : PySem.Env} (h : nst e = true) : starEach (e :: es) env = (false, eval e env) :: starEach es env := by
  cases e <;> first | rfl | cases h
theorem star_any {pos : Pos} {env : PySem.Env} : ∀ {es : List Expr}, es.all nst = true → (backTo pos (starEach es env)).any (·.1) = false
  | [], _ => rfl
  | e :: es, h => by
    rw [List.all_cons, Bool.and_eq_true] at h
    rw [star_cons h.1]
    show (false || (backTo pos (starEach es env)).any (·.1)) = false
    rw [star_any h.2]; rfl

/-! ### what a def promises -/
/-- what a call leaves -/
structure Left (K : PySem.W.Frag) (F H F' H' : Hp) (m : M) (v : V) (fm : List Addr) : Prop where
  mono : Same F F'
  same : Same F' H'
  heap : Same H H'
  own : Own K F' H' m v fm
  nd : fm.Nodup
  dis : ∀ p ∈ fm, F' p = none
  org : ∀ p ∈ fm, H p = none
  new : ∀ p o, F' p = some o → F p = some o ∨ H p = none
def spD (K : PySem.W.Frag) (np : Nat) (f : List M → Option (M × List M)) : Sp := fun vs H Q E => ∃ F ds m outs, Same F H ∧ Reps K F ds vs ∧ ds.length = np ∧ f (ds.map .fz) = some (m, outs) ∧
  ∀ F' H' v fm, Left K F H F' H' m v fm → Q v H'

/-- F without the addresses fp -/
def cutF (F : Hp) (fp : List Addr) : Hp := fun p => if p ∈ fp then none else F p
theorem cutF_in {F : Hp} {fp : List Addr} : Same (cutF F fp) F := fun p o e => by
  unfold cutF at e; split at e
  · cases e
  · exact e
theorem cut_nil {H : Hp} : cutF H [] = H := by
  funext p; unfold cutF; simp
/-- what stands at the parameters that were changed -/
inductive Outs (K : PySem.W.Frag) (F H : Hp) : List Bool → List M → List V → List Addr → Prop
  | nil {vs : List V} : Outs K F H [] [] vs []
  | no {bs : List Bool} {m : M} {ms : List M} {vs : List V} {g : List Addr} : Outs K F H bs ms vs.tail g → Outs K F H (false :: bs) (m :: ms) vs g
  | so {bs : List Bool} {m : M} {v : V} {ms : List M} {vs : List V} {f g : List Addr} : Own K F H m v f → Outs K F H bs ms vs g → Outs K F H (true :: bs) (m :: ms) (v :: vs) (f ++ g)
/-- what a call that changes some of its arguments (fa) leaves -/
structure LeftIO (K : PySem.W.Frag) (F H : Hp) (fa : List Addr) (F' H' : Hp) (io : List Bool) (al : Option Nat) (outs : List M) (vs : List V) (m : M) (v : V) (fm fo : List Addr) : Prop where
  mono : Same F F'
  same : Same F' H'
  heap : Same (cutF H fa) H'
  res : match al with
    | none => Own K F' H' m v fm
    | some j => fm = [] ∧ vs[j]? = some v
  outs : Outs K F' H' io outs vs fo
  nd : (fm ++ fo).Nodup
  dis : ∀ p ∈ fm ++ fo, F' p = none
  org : ∀ p ∈ fm ++ fo, p ∈ fa ∨ H p = none
  new : ∀ p o, F' p = some o → F p = some o ∨ p ∈ fa ∨ H p = none
def spI (K : PySem.W.Frag) (np : Nat) (io : List Bool) (al : Option Nat) (f : List M → Option (M × List M)) : Sp := fun vs H Q E => ∃ F fa ms m outs, Same F H ∧ Owns K F H ms vs fa ∧ fa.Nodup ∧ (∀ p ∈ fa, F p = none) ∧ ms.length = np ∧ f ms = some (m, outs) ∧
  ∀ F' H' v fm fo, LeftIO K F H fa F' H' io al outs vs m v fm fo → Q v H'
theorem spD_I {np : Nat} {io : List Bool} {al : Option Nat} {f : List M → Option (M × List M)} (hal : al = none) {vs : List V} {H : Hp} {Q : VK} {E : XK} (h : spD K np f vs H Q E) : spI K np io al f vs H Q E := by
  obtain ⟨F, ds, m, outs, sm, rs, hl, e, k⟩ := h
  subst hal
  refine ⟨F, [], ds.map .fz, m, outs, sm, rs.owns, by simp, fun p hp => (by cases hp), by rw [List.length_map]; exact hl, e, fun F' H' v fm fo L => k F' H' v fm ⟨L.mono, L.same, ?_, L.res, (List.nodup_append.mp L.nd).1, fun p hp => L.dis p (List.mem_append_left _ hp), fun p hp => ?_, fun p o e => ?_⟩⟩
  · have := L.heap
    rw [cut_nil] at this
    exact this
  · rcases L.org p (List.mem_append_left _ hp) with h | h
    · cases h
    · exact h
  · rcases L.new p o e with h | h | h
    · exact .inl h
    · cases h
    · exact .inr h

section
variable {F H F' H' F2 H2 : Hp} {fp fp' fm fp2 : List Addr} {s s' s1 s2 s3 : Sl} {σ : St}
theorem toVs_frz (o : Ok K F2 H2 s2 σ fp2) : ∀ {rs : List Res} {vs : List V} {f : List Addr} {ds : List D}, RelRs K F2 H2 σ rs vs f → (∀ p ∈ f, p ∈ fm) → toVs s2 rs = some ds → Reps K (frz F2 H2 (fm ++ fp2)) ds vs
  | _, _, _, _, .nil, _, e => by cases e; exact .nil
  | _, _, _, _, .cons (r := r) (rs := rs) (f := f) (g := g) hr hrs, sub, e => by
    unfold toVs at e
    obtain ⟨d, e1, e⟩ := bind_inv e
    obtain ⟨ds, e2, e⟩ := map_inv e
    subst e
    refine .cons ?_ (toVs_frz o hrs (fun q hq => sub q (List.mem_append_right _ hq)) e2)
    cases r with
    | pl p =>
      have e1 : (getP s2 p).map M.toD = some d := e1
      obtain ⟨m, e3, e4⟩ := map_inv e1
      subst e4
      obtain ⟨_, v0, h1, h2⟩ := hr
      obtain ⟨f0, f1, f2, ow, ef, _⟩ := o.focus e3 h1 h2
      exact (ow.frz o.same).mono (frz_mono o.same fun q hq => List.mem_append_right _ (by rw [ef]; exact List.mem_append_left _ (List.mem_append_right _ hq)))
    | m m =>
      cases e1
      have ow : Own K F2 H2 m _ f := hr
      exact (ow.frz o.same).mono (frz_mono o.same fun q hq => List.mem_append_left _ (sub q (List.mem_append_left _ hq)))
theorem toVs_len : ∀ {rs : List Res} {ds : List D}, toVs s2 rs = some ds → ds.length = rs.length
  | [], _, e => by cases e; rfl
  | r :: rs, _, e => by
    unfold toVs at e
    obtain ⟨d, e1, e⟩ := bind_inv e
    obtain ⟨ds, e2, e⟩ := map_inv e
    subst e
    rw [List.length_cons, List.length_cons, toVs_len e2]

mutual
theorem Rep.cutL (hl : ∀ p ∈ fp, ∃ xs, F p = none ∨ F p = some (.lst xs)) : ∀ {d : D} {v : V}, Rep K F d v → d.lf = true → Rep K (cutF F fp) d v
  | _, _, .non, _ => .non
  | _, _, .bl b, _ => .bl b
  | _, _, .int i, _ => .int i
  | _, _, .str x, _ => .str x
  | _, _, .lst _ _, h => by cases h
  | _, _, .scr _, h => by cases h
  | _, _, .tup (a := a) hs rs, h => by
    refine .tup ?_ (rs.cutL hl (by rw [D.lf] at h; exact h))
    rcases hs with (hs | ⟨o, hs⟩) | hs
    · refine .inl (.inl ?_)
      unfold cutF
      by_cases hp : a ∈ fp
      · obtain ⟨xs, q | q⟩ := hl a hp <;> rw [hs] at q <;> cases q
      · rw [if_neg hp]; exact hs
    · refine .inl (.inr ⟨o, ?_⟩)
      unfold cutF
      by_cases hp : a ∈ fp
      · obtain ⟨xs, q | q⟩ := hl a hp <;> rw [hs] at q <;> cases q
      · rw [if_neg hp]; exact hs
    · exact .inr hs
theorem Reps.cutL (hl : ∀ p ∈ fp, ∃ xs, F p = none ∨ F p = some (.lst xs)) : ∀ {ds : List D} {vs : List V}, Reps K F ds vs → D.lfs ds = true → Reps K (cutF F fp) ds vs
  | _, _, .nil, _ => .nil
  | _, _, .cons r rs, h => by
    rw [D.lfs, Bool.and_eq_true] at h
    exact .cons (r.cutL hl h.1) (rs.cutL hl h.2)
end
mutual
theorem Own.cutL (hl : ∀ p ∈ fp, ∃ xs, F p = none ∨ F p = some (.lst xs)) : ∀ {m : M} {v : V} {f : List Addr}, Own K F H m v f → m.lf = true → Own K (cutF F fp) H m v f
  | _, _, _, .fz r, h => .fz (r.cutL hl (by rw [M.lf] at h; exact h))
  | _, _, _, .lst e rs, h => .lst e (rs.cutL hl (by rw [M.lf] at h; exact h))
  | _, _, _, .tup (a := a) e rs, h => by
    refine .tup ?_ (rs.cutL hl (by rw [M.lf] at h; exact h))
    unfold cutF
    by_cases hp : a ∈ fp
    · obtain ⟨xs, q | q⟩ := hl a hp <;> rw [e] at q <;> cases q
    · rw [if_neg hp]; exact e
theorem Owns.cutL (hl : ∀ p ∈ fp, ∃ xs, F p = none ∨ F p = some (.lst xs)) : ∀ {ms : List M} {vs : List V} {f : List Addr}, Owns K F H ms vs f → M.lfs ms = true → Owns K (cutF F fp) H ms vs f
  | _, _, _, .nil, _ => .nil
  | _, _, _, .cons o os, h => by
    rw [M.lfs, Bool.and_eq_true] at h
    exact .cons (o.cutL hl h.1) (os.cutL hl h.2)
end
/-- behind a call whose answer holds no list in its frozen parts: the caller's own things stay its own -/
theorem call_lf {m : M} {v : V} {fr : List Addr} (g : Good K F H fp F2 H2 s2 σ fm fp2) (lf : m.lf = true) (L : Left K (frz F2 H2 (fm ++ fp2)) H2 F' H' m v fr) :
    Good K F H fp (cutF F' fp2) H' s2 σ fr fp2 := by
  have dj : ∀ p ∈ fr, p ∉ fp2 := fun p h1 h2 => g.ok.dom p h2 (L.org p h1)
  have sF : Same F2 (cutF F' fp2) := fun p o e => by
    unfold cutF
    by_cases hp : p ∈ fp2
    · rw [g.ok.dis p hp] at e; cases e
    · rw [if_neg hp]; exact L.mono p o (frz_same g.ok.same p o e)
  refine ⟨same_trans g.mono sF, same_trans g.heap L.heap, fun p hp => ?_, fun p o e => ?_, ⟨same_trans cutF_in L.same, g.ok.rep.mono sF fun p hp => ?_, g.ok.nd, fun p hp => ?_⟩, ?_, fun p hp => ?_, fun p hp => ?_⟩
  · rcases List.mem_append.mp hp with hp | hp
    · exact .inr (same_none g.heap (L.org p hp))
    · exact g.org p (List.mem_append_right _ hp)
  · have e' := cutF_in p o e
    rcases L.new p o e' with h | h
    · by_cases hp : p ∈ fm ++ fp2
      · exact .inr (g.org p hp)
      · rw [frz_ne hp] at h; exact g.new p o h
    · exact .inr (.inr (same_none g.heap h))
  · obtain ⟨xs, h⟩ := g.ok.rep.there p hp
    rw [h]; exact L.heap _ _ h
  · unfold cutF; rw [if_pos hp]
  · refine List.nodup_append.mpr ⟨L.nd, g.ok.nd, fun a ha b hb e => dj a ha (by rw [e]; exact hb)⟩
  · unfold cutF; rw [if_neg (dj p hp)]; exact L.dis p hp
  · intro e
    obtain ⟨xs, h⟩ := L.own.there p hp
    rw [e] at h; cases h
theorem call_lf_own {m : M} {v : V} {fr : List Addr} (g : Good K F H fp F2 H2 s2 σ fm fp2) (lf : m.lf = true) (L : Left K (frz F2 H2 (fm ++ fp2)) H2 F' H' m v fr) :
    Own K (cutF F' fp2) H' m v fr := L.own.cutL (fun p hp => by
      obtain ⟨xs, h⟩ := g.ok.rep.there p hp
      cases e : F' p with
      | none => exact ⟨xs, .inl rfl⟩
      | some o =>
        have h1 := L.same p o e
        rw [L.heap p _ h] at h1
        cases h1
        exact ⟨xs, .inr rfl⟩) lf
/-- behind a call in which all arguments are frozen -/
theorem call_fz {m : M} {v : V} {fr : List Addr} (g : Good K F H fp F2 H2 s2 σ [] fp2) (L : Left K F2 H2 F' H' m v fr) : Good K F H fp F' H' s2 σ fr fp2 := by
  have dj : ∀ p ∈ fr, p ∉ fp2 := fun p h1 h2 => g.ok.dom p h2 (L.org p h1)
  refine ⟨same_trans g.mono L.mono, same_trans g.heap L.heap, fun p hp => ?_, fun p o e => ?_, ⟨L.same, g.ok.rep.mono L.mono fun p hp => ?_, g.ok.nd, fun p hp => ?_⟩, ?_, L.dis, fun p hp => ?_⟩
  · rcases List.mem_append.mp hp with hp | hp
    · exact .inr (same_none g.heap (L.org p hp))
    · exact g.org p (List.mem_append_right _ hp)
  · rcases L.new p o e with h | h
    · exact g.new p o h
    · exact .inr (.inr (same_none g.heap h))
  · obtain ⟨xs, h⟩ := g.ok.rep.there p hp
    rw [h]; exact L.heap _ _ h
  · refine none_of_ne fun o e => ?_
    rcases L.new p o e with h | h
    · rw [g.ok.dis p hp] at h; cases h
    · exact g.ok.dom p hp h
  · exact List.nodup_append.mpr ⟨L.nd, g.ok.nd, fun a ha b hb e => dj a ha (by rw [e]; exact hb)⟩
  · intro e
    obtain ⟨xs, h⟩ := L.own.there p hp
    rw [e] at h; cases h
theorem Owns.frzs (sm : Same F H) {ms : List M} {vs : List V} {f : List Addr} (o : Owns K F H ms vs f) : Reps K (VS.frz F H f) (M.toDs ms) vs := o.frz sm
/-- f(..) of a def -/
theorem call_imp {G : Env} {k np : Nat} {brw : Bool} {E : XK} {f : Sl → Option (List Res × Sl)} (hal : G.al k = none) : ∀ σ H Q, tE K (fun s => bd (f s) fun rs s1 => evCall G brw k s1 rs) σ H Q →
    (∀ rs s s', f s = some (rs, s') → rs.length = np) → tCall (spI K np (G.io k) (G.al k) (G.cd k)) [] E (tAs K f) σ H Q := fun σ H Q ⟨F, s, fp, r, s', ok, e, kk⟩ hn => by
  obtain ⟨rs, s1, e1, e⟩ := bd_inv e
  refine ⟨F, s, fp, rs, s1, ok, e1, fun F1 H1 vs fm fp1 g rr => ?_⟩
  show spI K np (G.io k) (G.al k) (G.cd k) (vs ++ []) H1 Q E
  refine spD_I hal ?_
  rw [List.append_nil]
  unfold evCall at e
  have hl := hn _ _ _ e1
  split at e
  · obtain ⟨ds, e2, e⟩ := bind_inv e
    obtain ⟨m, e3, e⟩ := bind_inv e
    obtain ⟨lf, e⟩ := of_ite e
    cases e
    refine ⟨frz F1 H1 (fm ++ fp1), ds, m.1, m.2, frz_in g.ok.same, toVs_frz g.ok rr (fun _ h => h) e2, by rw [toVs_len e2]; exact hl, e3, fun F' H' v fr L => ?_⟩
    exact kk _ _ v fr fp1 (call_lf g lf L) (call_lf_own g lf L)
  · obtain ⟨ms, s2, e2, e⟩ := bd_inv e
    obtain ⟨m, e3, e⟩ := bind_inv e
    cases e
    obtain ⟨F2, fm2, fp2, g2, ow, sm⟩ := toSs_ok (fd := []) g rr e2
    have g2 : Good K F H fp F2 H1 _ σ fm2 fp2 := g2
    have g3 := g2.frzA
    have rp := ow.frzs g2.ok.same
    refine ⟨_, M.toDs ms, m.1, m.2, g3.ok.same, rp, ?_, e3, fun F' H' v fr L => ?_⟩
    · rw [rp.length, ← ow.length]
      have : ∀ {rs : List Res} {s s2 : Sl} {ms : List M}, toSs s rs = some (ms, s2) → ms.length = rs.length := by
        intro rs
        induction rs with
        | nil => intro s s2 ms e; cases e; rfl
        | cons r rs ih =>
          intro s s2 ms e
          unfold toSs at e
          obtain ⟨m, s3, e1, e⟩ := bd_inv e
          obtain ⟨ms', s4, e2, e⟩ := bd_inv e
          cases e
          rw [List.length_cons, List.length_cons, ih e2]
      rw [this e2]
      exact hl
    · exact kk _ _ v fr fp2 (call_fz g3 L) L.own
end
end VS
end

section
/-! VS: what is walked, targets, comprehensions. -/
namespace VS
open PySem L2
variable {K : PySem.W.Frag} {X : Cx}

/-- J walks the items ds, while the heap keeps B -/
structure Walks (K : PySem.W.Frag) (J : L2.It) (F B : Hp) (ds : List D) : Prop where
  stop : ∀ H', Same B H' → J.stop ds.length H'
  go : ∀ i H', Same B H' → i < ds.length → J.go i H'
  yld : ∀ i F' H' x H'', Same F F' → Same B H' → Same F' H' → i < ds.length → J.yld i H' x H'' → ∃ d, ds[i]? = some d ∧
    ((H'' = H' ∧ Rep K F' d x) ∨ ∃ T ys es, H' T = none ∧ x = .ref T ∧ H'' = upd H' T (.tup ys) ∧ d = .tup es ∧ Reps K F' es ys)

section
variable {F H F' H' F1 H1 F2 H2 B : Hp} {fp fp' fm fp1 fp2 : List Addr} {s s' s1 s2 s3 : Sl} {σ : St}
theorem Reps.get' {ds : List D} {vs : List V} {i : Nat} (r : Reps K F ds vs) (h : i < ds.length) : ∃ d v, ds[i]? = some d ∧ vs[i]? = some v ∧ Rep K F d v := by
  obtain ⟨v, h1, h2⟩ := r.get (List.getElem?_eq_getElem h)
  exact ⟨_, v, List.getElem?_eq_getElem h, h1, h2⟩
theorem walks_list {a : Addr} {vs : List V} {ds : List D} (hb : B a = some (.lst vs)) (r : Reps K F ds vs) : Walks K (Itl K a) F B ds where
  stop := fun H' s => ⟨vs, SqL.of (s _ _ hb), by rw [r.length]; exact Nat.le_refl _⟩
  go := fun i H' s hi => by
    obtain ⟨d, v, h1, h2, h3⟩ := r.get' hi
    exact ⟨vs, v, SqL.of (s _ _ hb), h2⟩
  yld := fun i F' H' x H'' sF sB _ hi hy => by
    obtain ⟨d, v, h1, h2, h3⟩ := r.get' hi
    obtain ⟨e, hx⟩ := hy
    have := hx vs (SqL.of (sB _ _ hb))
    rw [h2] at this
    cases this
    exact ⟨d, h1, .inl ⟨e, h3.mono sF⟩⟩
theorem walks_tup {a : Addr} {vs : List V} {ds : List D} (hb : SqT K B a vs) (r : Reps K F ds vs) : Walks K (Itt K a) F B ds where
  stop := fun H' s => ⟨vs, sqT_mono hb s, by rw [r.length]; exact Nat.le_refl _⟩
  go := fun i H' s hi => by
    obtain ⟨d, v, h1, h2, h3⟩ := r.get' hi
    exact ⟨vs, v, sqT_mono hb s, h2⟩
  yld := fun i F' H' x H'' sF sB _ hi hy => by
    obtain ⟨d, v, h1, h2, h3⟩ := r.get' hi
    obtain ⟨e, hx⟩ := hy
    have := hx vs (sqT_mono hb sB)
    rw [h2] at this
    cases this
    exact ⟨d, h1, .inl ⟨e, h3.mono sF⟩⟩
theorem rangeL_len (lo hi : Int) : (rangeL lo hi).length = (hi - lo).toNat := by unfold rangeL; rw [List.length_map, List.length_range]
theorem walks_range (lo hi : Int) : Walks K (Itr lo (hi - lo).toNat) F B (rangeL lo hi) where
  stop := fun H' s => by rw [rangeL_len]; exact Nat.le_refl _
  go := fun i H' s h => by rw [rangeL_len] at h; exact h
  yld := fun i F' H' x H'' sF sB _ h hy => by
    rw [rangeL_len] at h
    obtain ⟨e, hx⟩ := hy
    subst hx
    refine ⟨.int (lo + (i : Nat)), ?_, .inl ⟨e, .int _⟩⟩
    unfold rangeL
    rw [List.getElem?_map, List.getElem?_range h]
    rfl
theorem rangeL3_len (a c : Int) (n : Nat) : (rangeL3 a c n).length = n := by unfold rangeL3; rw [List.length_map, List.length_range]
theorem walks_range3 (lo c : Int) (n : Nat) : Walks K (Itc lo c n) F B (rangeL3 lo c n) where
  stop := fun H' s => by rw [rangeL3_len]; exact Nat.le_refl _
  go := fun i H' s h => by rw [rangeL3_len] at h; exact h
  yld := fun i F' H' x H'' sF sB _ h hy => by
    rw [rangeL3_len] at h
    obtain ⟨e, hx⟩ := hy
    subst hx
    refine ⟨.int (lo + (i : Nat) * c), ?_, .inl ⟨e, .int _⟩⟩
    unfold rangeL3
    rw [List.getElem?_map, List.getElem?_range h]
    rfl
theorem enumL_len (ds : List D) : (enumL ds).length = ds.length := by unfold enumL; rw [List.length_map, List.length_zipIdx]
theorem enumL_get {ds : List D} {i : Nat} {d : D} (h : ds[i]? = some d) : (enumL ds)[i]? = some (.tup [.int (i : Nat), d]) := by
  unfold enumL
  rw [List.getElem?_map, List.getElem?_zipIdx, h]
  simp
theorem walks_enum {a : Addr} {vs : List V} {ds : List D} (hb : B a = some (.lst vs)) (r : Reps K F ds vs) : Walks K (Ite K a) F B (enumL ds) where
  stop := fun H' s => ⟨vs, SqL.of (s _ _ hb), by rw [enumL_len, r.length]; exact Nat.le_refl _⟩
  go := fun i H' s hi => by
    rw [enumL_len] at hi
    obtain ⟨d, v, h1, h2, h3⟩ := r.get' hi
    exact ⟨vs, v, SqL.of (s _ _ hb), h2⟩
  yld := fun i F' H' x H'' sF sB _ hi hy => by
    rw [enumL_len] at hi
    obtain ⟨d, v, h1, h2, h3⟩ := r.get' hi
    obtain ⟨T, y, e1, e2, e3, hx⟩ := hy
    have := hx vs (SqL.of (sB _ _ hb))
    rw [h2] at this
    cases this
    exact ⟨_, enumL_get h1, .inr ⟨T, _, _, e2, e1, e3, rfl, .cons (.int _) (.cons (h3.mono sF) .nil)⟩⟩
theorem zipL_len (as bs : List D) : (zipL as bs).length = min as.length bs.length := by unfold zipL; rw [List.length_map, List.length_zip]
theorem zipL_get {as bs : List D} {i : Nat} {d e : D} (h : as[i]? = some d) (h2 : bs[i]? = some e) : (zipL as bs)[i]? = some (.tup [d, e]) := by
  unfold zipL
  rw [List.getElem?_map, (List.getElem?_zip_eq_some (z := (d, e))).mpr ⟨h, h2⟩]
  rfl
theorem walks_zip {a b : Addr} {vs ws : List V} {ds es : List D} (hb : B a = some (.lst vs)) (hb2 : B b = some (.lst ws)) (r : Reps K F ds vs) (r2 : Reps K F es ws) : Walks K (Itz K a b) F B (zipL ds es) where
  stop := fun H' s => ⟨vs, ws, SqL.of (s _ _ hb), SqL.of (s _ _ hb2), by rw [zipL_len, ← r.length, ← r2.length]; omega⟩
  go := fun i H' s hi => by
    rw [zipL_len] at hi
    obtain ⟨d, v, h1, h2, h3⟩ := r.get' (i := i) (by omega)
    obtain ⟨d', v', h1', h2', h3'⟩ := r2.get' (i := i) (by omega)
    exact ⟨vs, ws, v, v', SqL.of (s _ _ hb), SqL.of (s _ _ hb2), h2, h2'⟩
  yld := fun i F' H' x H'' sF sB _ hi hy => by
    rw [zipL_len] at hi
    obtain ⟨d, v, h1, h2, h3⟩ := r.get' (i := i) (by omega)
    obtain ⟨d', v', h1', h2', h3'⟩ := r2.get' (i := i) (by omega)
    obtain ⟨T, y, y', e1, e2, e3, hx, hx'⟩ := hy
    have q := hx vs (SqL.of (sB _ _ hb))
    rw [h2] at q
    cases q
    have q := hx' ws (SqL.of (sB _ _ hb2))
    rw [h2'] at q
    cases q
    exact ⟨_, zipL_get h1 h1', .inr ⟨T, _, _, e2, e1, e3, rfl, .cons (h3.mono sF) (.cons (h3'.mono sF) .nil)⟩⟩

/-! ### targets -/
def gT (K : PySem.W.Frag) : T → TG
  | .var i => gName i
  | .tup2 i j => gTup K 2 (gCons (gName i) (gCons (gName j) gNil))
  | .tup3 i j k => gTup K 3 (gCons (gName i) (gCons (gName j) (gCons (gName k) gNil)))
def T.vars : T → List Nat
  | .var i => [i]
  | .tup2 i j => [i, j]
  | .tup3 i j k => [i, j, k]
theorem wipe_set {i : Nat} {v : Option V} : ∀ {own : List Nat} {σ : St}, i ∈ own → wipe (σ.set i v) own = wipe σ own
  | [], _, h => by cases h
  | j :: r, σ, h => by
    unfold wipe
    by_cases hr : i ∈ r
    · rw [wipe_set hr]
    · rcases List.mem_cons.mp h with e | h
      · subst e
        have : ∀ {r : List Nat} {σ : St}, i ∉ r → wipe (σ.set i v) r = (wipe σ r).set i v := by
          intro r
          induction r with
          | nil => intro σ _; rfl
          | cons k r ih =>
            intro σ h
            simp only [List.mem_cons, not_or] at h
            unfold wipe
            rw [ih h.2, List.set_comm _ _ h.1]
        rw [this hr, List.set_set]
      · exact absurd h hr
theorem wipe_wipe (σ : St) : ∀ own : List Nat, wipe (wipe σ own) own = wipe σ own := by
  intro own
  have key : ∀ l : List Nat, (∀ i ∈ l, i ∈ own) → wipe (wipe σ l) own = wipe σ own := by
    intro l
    induction l with
    | nil => intro _; rfl
    | cons i r ih =>
      intro h
      show wipe ((wipe σ r).set i none) own = _
      rw [wipe_set (h i List.mem_cons_self)]
      exact ih fun j hj => h j (List.mem_cons_of_mem _ hj)
  exact key own fun _ h => h
theorem setT_ok {t : T} {m : M} {v : V} (sm : Same F H) (r : SlR K F H s σ fp) (o : Own K F H m v fm) (e : setT s t m = some s1) :
    ∃ σ1 fd fp1, SlR K F H s1 σ1 fp1 ∧ (fd ++ fp1).Perm (fm ++ fp) ∧ (∀ Q : St → Hp → Prop, Q σ1 H → gT K t v σ H Q) ∧ ∀ own, (∀ i ∈ t.vars, i ∈ own) → wipe σ1 own = wipe σ own := by
  cases t with
  | var i =>
    have e : (if i < s.length then some (s.set i (some m)) else none) = some s1 := e
    obtain ⟨hi, e⟩ := of_ite e
    subst e
    obtain ⟨fd, fp1, h1, h2⟩ := r.set hi o
    exact ⟨_, fd, fp1, h1, h2, fun Q q => q, fun own h => wipe_set (h i (by simp [T.vars]))⟩
  | tup2 i j =>
    -- the two parts
    have key : ∀ {a b : M} {xs : List V} {ad : Addr}, v = .ref ad → SqT K H ad xs → Owns K F H [a, b] xs fm → i < s.length ∧ j < s.length → s1 = (s.set i (some a)).set j (some b) →
        ∃ σ1 fd fp1, SlR K F H s1 σ1 fp1 ∧ (fd ++ fp1).Perm (fm ++ fp) ∧ (∀ Q : St → Hp → Prop, Q σ1 H → gT K (.tup2 i j) v σ H Q) ∧ ∀ own, (∀ k ∈ (T.tup2 i j).vars, k ∈ own) → wipe σ1 own = wipe σ own := by
      intro a b xs ad ev hs ow hl e
      subst e
      cases ow with
      | @cons _ x1 _ _ f1 g1 o1 ow =>
        cases ow with
        | @cons _ x2 _ _ f2 g2 o2 ow =>
          cases ow
          obtain ⟨fd1, fp1, h1, h2⟩ := r.set hl.1 o1
          obtain ⟨fd2, fp2, h3, h4⟩ := h1.set (by rw [List.length_set]; exact hl.2) o2
          refine ⟨_, fd1 ++ fd2, fp2, h3, ?_, fun Q q => ⟨ad, _, ev, hs, rfl, x1, _, rfl, x2, _, rfl, rfl, q⟩, fun own h => ?_⟩
          · rw [List.append_assoc]
            refine (List.Perm.append_left fd1 h4).trans ?_
            rw [← List.append_assoc]
            refine (List.perm_append_comm.append_right _).trans ?_
            rw [List.append_assoc]
            refine (List.Perm.append_left f2 h2).trans ?_
            rw [← List.append_assoc, ← List.append_assoc]
            simp only [List.append_nil]
            exact List.perm_append_comm.append_right _
          · rw [wipe_set (h j (by simp [T.vars])), wipe_set (h i (by simp [T.vars]))]
    cases m with
    | fz d =>
      cases o with
      | fz rp =>
        cases rp with
        | @tup ad xs ds hs rs =>
          cases rs with
          | nil => cases e
          | cons r1 rs =>
            cases rs with
            | nil => cases e
            | cons r2 rs =>
              cases rs with
              | cons _ _ => cases e
              | nil =>
                obtain ⟨hl, e⟩ := of_ite (show (if i < s.length ∧ j < s.length then some ((s.set i (some (.fz _))).set j (some (.fz _))) else none) = some s1 from e)
                exact key rfl (sqT_mono hs sm) (by simpa using Owns.cons (f := []) (g := []) (.fz r1) (by simpa using Owns.cons (f := []) (g := []) (Own.fz (H := H) r2) .nil)) hl e.symm
        | _ => cases e
    | tup ms =>
      cases o with
      | @tup ad _ xs _ hs rs =>
        cases rs with
        | nil => cases e
        | cons r1 rs =>
          cases rs with
          | nil => cases e
          | cons r2 rs =>
            cases rs with
            | cons _ _ => cases e
            | nil =>
              obtain ⟨hl, e⟩ := of_ite (show (if i < s.length ∧ j < s.length then some ((s.set i (some _)).set j (some _)) else none) = some s1 from e)
              exact key rfl (.inl (.inl (sm _ _ hs))) (.cons r1 (.cons r2 .nil)) hl e.symm
    | _ => cases e
  | tup3 i j k =>
    have key : ∀ {a b c : M} {xs : List V} {ad : Addr}, v = .ref ad → SqT K H ad xs → Owns K F H [a, b, c] xs fm → i < s.length ∧ j < s.length ∧ k < s.length → s1 = ((s.set i (some a)).set j (some b)).set k (some c) →
        ∃ σ1 fd fp1, SlR K F H s1 σ1 fp1 ∧ (fd ++ fp1).Perm (fm ++ fp) ∧ (∀ Q : St → Hp → Prop, Q σ1 H → gT K (.tup3 i j k) v σ H Q) ∧ ∀ own, (∀ l ∈ (T.tup3 i j k).vars, l ∈ own) → wipe σ1 own = wipe σ own := by
      intro a b c xs ad ev hs ow hl e
      subst e
      cases ow with
      | @cons _ x1 _ _ f1 g1 o1 ow =>
        cases ow with
        | @cons _ x2 _ _ f2 g2 o2 ow =>
          cases ow with
          | @cons _ x3 _ _ f3 g3 o3 ow =>
            cases ow
            obtain ⟨fd1, fp1, h1, h2⟩ := r.set hl.1 o1
            obtain ⟨fd2, fp2, h3, h4⟩ := h1.set (by rw [List.length_set]; exact hl.2.1) o2
            obtain ⟨fd3, fp3, h5, h6⟩ := h3.set (by rw [List.length_set, List.length_set]; exact hl.2.2) o3
            refine ⟨_, fd1 ++ (fd2 ++ fd3), fp3, h5, ?_, fun Q q => ⟨ad, _, ev, hs, rfl, x1, _, rfl, x2, _, rfl, x3, _, rfl, rfl, q⟩, fun own h => ?_⟩
            · have p1 : (fd2 ++ fd3 ++ fp3).Perm (f3 ++ (f2 ++ fp1)) := by
                rw [List.append_assoc]
                refine (List.Perm.append_left fd2 h6).trans ?_
                rw [← List.append_assoc]
                refine (List.perm_append_comm.append_right _).trans ?_
                rw [List.append_assoc]
                exact List.Perm.append_left f3 h4
              rw [List.append_assoc]
              refine (List.Perm.append_left fd1 p1).trans ?_
              have p2 : (fd1 ++ (f3 ++ (f2 ++ fp1))).Perm (f3 ++ (f2 ++ (fd1 ++ fp1))) := by
                rw [← List.append_assoc]
                refine (List.perm_append_comm.append_right _).trans ?_
                rw [List.append_assoc]
                refine List.Perm.append_left f3 ?_
                rw [← List.append_assoc]
                refine (List.perm_append_comm.append_right _).trans ?_
                rw [List.append_assoc]
              refine p2.trans ((List.Perm.append_left f3 (List.Perm.append_left f2 h2)).trans ?_)
              simp only [List.append_nil]
              rw [← List.append_assoc, ← List.append_assoc, List.append_assoc f3 f2 f1]
              refine List.Perm.append_right fp ?_
              refine List.perm_append_comm.trans ?_
              rw [List.append_assoc f1 f2 f3 |>.symm]
              exact List.Perm.append_right f3 List.perm_append_comm
            · rw [wipe_set (h k (by simp [T.vars])), wipe_set (h j (by simp [T.vars])), wipe_set (h i (by simp [T.vars]))]
    cases m with
    | fz d =>
      cases o with
      | fz rp =>
        cases rp with
        | @tup ad xs ds hs rs =>
          cases rs with
          | nil => cases e
          | cons r1 rs =>
            cases rs with
            | nil => cases e
            | cons r2 rs =>
              cases rs with
              | nil => cases e
              | cons r3 rs =>
                cases rs with
                | cons _ _ => cases e
                | nil =>
                  obtain ⟨hl, e⟩ := of_ite (show (if i < s.length ∧ j < s.length ∧ k < s.length then some (((s.set i (some (.fz _))).set j (some (.fz _))).set k (some (.fz _))) else none) = some s1 from e)
                  have ow : Owns K F H [.fz _, .fz _, .fz _] _ [] := Reps.owns (.cons r1 (.cons r2 (.cons r3 .nil)))
                  exact key rfl (sqT_mono hs sm) ow hl e.symm
        | _ => cases e
    | tup ms =>
      cases o with
      | @tup ad _ xs _ hs rs =>
        cases rs with
        | nil => cases e
        | cons r1 rs =>
          cases rs with
          | nil => cases e
          | cons r2 rs =>
            cases rs with
            | nil => cases e
            | cons r3 rs =>
              cases rs with
              | cons _ _ => cases e
              | nil =>
                obtain ⟨hl, e⟩ := of_ite (show (if i < s.length ∧ j < s.length ∧ k < s.length then some (((s.set i (some _)).set j (some _)).set k (some _)) else none) = some s1 from e)
                exact key rfl (.inl (.inl (sm _ _ hs))) (.cons r1 (.cons r2 (.cons r3 .nil))) hl e.symm
    | _ => cases e
end
end VS
end

section
/-! VS: list comprehensions. -/
namespace VS
open PySem L2
variable {K : PySem.W.Frag} {X : Cx}
def tIt (K : PySem.W.Frag) (f : Sl → Option (List D × Sl)) : TI := fun σ H R => ∃ F s fp ds s', Ok K F H s σ fp ∧ f s = some (ds, s') ∧
  ∀ F' H' J fp', Good K F H fp F' H' s' σ [] fp' → Walks K J F' H' ds → R J H'
section
variable {F H F' H' F1 H1 F2 H2 B : Hp} {fp fp' fm fp1 fp2 : List Addr} {s s' s1 s2 s3 : Sl} {σ : St}

theorem SlR.clr {i : Nat} (r : SlR K F H s σ fp) (hi : i < s.length) : ∃ fh fpw, (fh ++ fpw).Perm fp ∧ (∀ o, SlR K F H (s.set i none) (σ.set i o) fpw) ∧
    ∀ F2 H2 s2 σ2 fp2, Same F F2 → (∀ p ∈ fh, H2 p = H p) → SlR K F2 H2 s2 σ2 fp2 → s2.length = s.length → ∃ fd fp3, SlR K F2 H2 (s2.set i ((s[i]?).getD none)) (σ2.set i ((σ[i]?).getD none)) fp3 ∧ (fd ++ fp3).Perm (fh ++ fp2) := by
  cases e : s[i]? with
  | none => exact absurd hi (by have := List.getElem?_eq_none_iff.mp e; omega)
  | some o =>
    cases o with
    | none =>
      have key : ∀ {s : Sl} {σ : St} {fp : List Addr} {i : Nat} {o : Option V}, SlR K F H s σ fp → s[i]? = some none → SlR K F H (s.set i none) (σ.set i o) fp := by
        intro s σ fp i o r
        induction r generalizing i with
        | nil => intro e; simp at e
        | no r ih =>
          intro e
          cases i with
          | zero => exact .no r
          | succ i => exact .no (ih (by simpa using e))
        | so ow r ih =>
          intro e
          cases i with
          | zero => simp at e
          | succ i => exact .so ow (ih (by simpa using e))
      refine ⟨[], fp, by simp, fun o => key r e, fun F2 H2 s2 σ2 fp2 sm k r2 hl => ?_⟩
      obtain ⟨fd, fp3, h1, h2⟩ := r2.clear (i := i) (o := (σ[i]?).getD none)
      exact ⟨fd, fp3, h1, by simpa using h2⟩
    | some m =>
      obtain ⟨v, f, f1, f2, q1, q2, q3, _, q5⟩ := r.focus e
      refine ⟨f, f1 ++ f2, ?_, fun o => q5 F H o (same_refl _) fun _ _ => rfl, fun F2 H2 s2 σ2 fp2 sm k r2 hl => ?_⟩
      · rw [q3, ← List.append_assoc]
        exact List.perm_append_comm.append_right _
      · rw [q1]
        exact r2.set (by rw [hl]; exact hi) (q2.mono sm k)
/-- the slots at own hidden, and brought back -/
theorem SlR.wiped : ∀ {own : List Nat}, own.Nodup → (∀ i ∈ own, i < s.length) → SlR K F H s σ fp → ∃ fh fpw, (fh ++ fpw).Perm fp ∧ SlR K F H (wipeS s own) (wipe σ own) fpw ∧
    ∀ F2 H2 s2 fp2, Same F F2 → (∀ p ∈ fh, H2 p = H p) → SlR K F2 H2 s2 (wipe σ own) fp2 → ∃ fd fp3, SlR K F2 H2 (backS s s2 own) σ fp3 ∧ (fd ++ fp3).Perm (fh ++ fp2)
  | [], _, _, r => ⟨[], fp, by simp, r, fun F2 H2 s2 fp2 sm k r2 => ⟨[], fp2, r2, by simp⟩⟩
  | i :: own, nd, hl, r => by
    obtain ⟨fh, fpw, h1, h2, h3⟩ := SlR.wiped (own := own) (List.nodup_cons.mp nd).2 (fun j hj => hl j (List.mem_cons_of_mem _ hj)) r
    have wl : ∀ l : List Nat, (wipeS s l).length = s.length := by
      intro l
      induction l with
      | nil => rfl
      | cons a l ih => unfold wipeS; rw [List.length_set, ih]
    have wg : ∀ l : List Nat, i ∉ l → (wipeS s l)[i]? = s[i]? ∧ (wipe σ l)[i]? = σ[i]? := by
      intro l
      induction l with
      | nil => intro _; exact ⟨rfl, rfl⟩
      | cons a l ih =>
        intro h
        simp only [List.mem_cons, not_or] at h
        unfold wipeS wipe
        rw [List.getElem?_set_ne (Ne.symm h.1), List.getElem?_set_ne (Ne.symm h.1)]
        exact ih h.2
    obtain ⟨g1, g2⟩ := wg own (List.nodup_cons.mp nd).1
    obtain ⟨fh2, fpw2, h4, h5, h6⟩ := h2.clr (i := i) (by rw [wl]; exact hl i List.mem_cons_self)
    refine ⟨fh ++ fh2, fpw2, ?_, h5 none, fun F2 H2 s2 fp2 sm k r2 => ?_⟩
    · rw [List.append_assoc]
      exact (List.Perm.append_left fh h4).trans h1
    · have l2 : s2.length = (wipeS s own).length := by
        rw [r2.length, wl]
        show (wipe σ (i :: own)).length = _
        rw [wipe_length, ← r.length]
      obtain ⟨fd, fp3, q1, q2⟩ := h6 F2 H2 s2 _ fp2 sm (fun p hp => k p (List.mem_append_right _ hp)) r2 l2
      rw [g1, g2] at q1
      have e1 : (wipe σ (i :: own)).set i ((σ[i]?).getD none) = wipe σ own := by
        show ((wipe σ own).set i none).set i _ = _
        rw [List.set_set]
        apply List.ext_getElem?
        intro j
        by_cases hj : i = j
        · subst hj
          have hi : i < (wipe σ own).length := by rw [wipe_length, ← r.length]; exact hl i List.mem_cons_self
          rw [List.getElem?_set_self hi, g2]
          have : i < σ.length := by rw [← r.length]; exact hl i List.mem_cons_self
          rw [List.getElem?_eq_getElem this]; rfl
        · rw [List.getElem?_set_ne hj]
      rw [e1] at q1
      obtain ⟨fd2, fp4, q3, q4⟩ := h3 F2 H2 _ fp3 sm (fun p hp => k p (List.mem_append_left _ hp)) q1
      refine ⟨fd2 ++ fd, fp4, q3, ?_⟩
      -- (fd2 ++ fd) ++ fp4 ~ fd ++ (fd2 ++ fp4) ~ fd ++ (fh ++ fp3) ~ fh ++ (fd ++ fp3) ~ fh ++ (fh2 ++ fp2)
      refine (List.perm_append_comm.append_right _).trans ?_
      rw [List.append_assoc]
      refine (List.Perm.append_left fd q4).trans ?_
      rw [← List.append_assoc]
      refine (List.perm_append_comm.append_right _).trans ?_
      rw [List.append_assoc, List.append_assoc]
      exact List.Perm.append_left fh q2

/-! ### the list that is being made stands apart -/
theorem upd_cut {H : Hp} {D : Addr} {o : HO} (h : H D = some o) : H = upd (cutF H [D]) D o := by
  funext p
  by_cases hp : p = D
  · subst hp; rw [upd_same, h]
  · rw [upd_ne hp]; unfold cutF; rw [if_neg (by simpa using hp)]
theorem cut_none {H : Hp} {D : Addr} : cutF H [D] D = none := by unfold cutF; rw [if_pos (by simp)]
theorem cut_ne {H : Hp} {D p : Addr} (h : p ≠ D) : cutF H [D] p = H p := by unfold cutF; rw [if_neg (by simpa using h)]
theorem good_cutD {Hd : Hp} {D : Addr} {o : HO} (hn : Hd D = none) (hF : Same F Hd) (hfp : ∀ p ∈ fp, Hd p ≠ none) (g : Good K F (upd Hd D o) fp F' H' s' σ fm fp') :
    Good K F Hd fp F' (cutF H' [D]) s' σ fm fp' ∧ H' D = some o := by
  have hD : H' D = some o := g.heap _ _ upd_same
  have dfp : D ∉ fp := fun h => hfp D h hn
  have nin : ∀ p ∈ fm ++ fp', p ≠ D := fun p hp e => by
    subst e
    rcases g.org p hp with h | h
    · exact dfp h
    · rw [upd_same] at h; cases h
  have fD : F' D = none := none_of_ne fun x e => by
    rcases g.new D x e with h | h | h
    · rw [hF _ _ h] at hn; cases hn
    · exact dfp h
    · rw [upd_same] at h; cases h
  have sF : Same F' (cutF H' [D]) := fun p x e => by
    have : p ≠ D := fun q => by rw [q, fD] at e; cases e
    rw [cut_ne this]; exact g.ok.same p x e
  refine ⟨⟨g.mono, fun p x e => ?_, fun p hp => ?_, fun p x e => ?_, ⟨sF, g.ok.rep.mono (same_refl _) fun p hp => cut_ne (nin p (List.mem_append_right _ hp)), g.ok.nd, g.ok.dis⟩, g.nd, g.dis, fun p hp => ?_⟩, hD⟩
  · have : p ≠ D := fun q => by rw [q, hn] at e; cases e
    rw [cut_ne this]
    exact g.heap p x (by rw [upd_ne this]; exact e)
  · rcases g.org p hp with h | h
    · exact .inl h
    · rw [upd_ne (nin p hp)] at h; exact .inr h
  · rcases g.new p x e with h | h | h
    · exact .inl h
    · exact .inr (.inl h)
    · by_cases hp : p = D
      · subst hp; rw [upd_same] at h; cases h
      · rw [upd_ne hp] at h; exact .inr (.inr h)
  · rw [cut_ne (nin p (List.mem_append_left _ hp))]; exact g.dom p hp
/-- with the list D beside -/
theorem Ok.withD {Hd : Hp} {D : Addr} {o : HO} (k : Ok K F Hd s σ fp) (hn : Hd D = none) : Ok K F (upd Hd D o) s σ fp :=
  ⟨same_trans k.same (same_fresh hn), k.rep.mono (same_refl _) fun p hp => upd_ne fun e => k.dom p hp (by rw [e]; exact hn), k.nd, k.dis⟩

theorem comp_imp {own : List Nat} {t : T} {fi : Sl → Option (List D × Sl)} {ft : Sl → Option (Bool × Sl)} {fe : Sl → Option (Res × Sl)} (nd : own.Nodup) (hv : ∀ i ∈ t.vars, i ∈ own)
    (σ : St) (H : Hp) (Q : VK) (hw : ∀ i ∈ own, i < σ.length)
    (h : tE K (fun s => bd (fi s) fun ds s1 => bd (compL own t ft (fun s => bd (fe s) fun r s' => toS s' r) ds (wipeS s1 own)) fun ms s2 => if ms.length ≤ sizeLine then some (.m (.lst ms), backS s1 s2 own) else none) σ H Q) :
    tLc (tIt K fi) (gT K t) (tTs K ft) (tE K fe) own σ H Q := by
  obtain ⟨F, s, fp, r, s', ok, e, k⟩ := h
  obtain ⟨ds, s1, e1, e⟩ := bd_inv e
  obtain ⟨ms, s2, e2, e⟩ := bd_inv e
  obtain ⟨hsz, e⟩ := of_ite e
  cases e
  refine ⟨F, s, fp, ds, s1, ok, e1, fun F1 H1 J fp1 g1 wk D hD => ?_⟩
  have hl1 : s1.length = σ.length := g1.ok.rep.length
  obtain ⟨fh, fpw, pm, rw_, back⟩ := g1.ok.rep.wiped (own := own) nd fun i hi => by rw [hl1]; exact hw i hi
  have g1w : Good K F H fp F1 H1 (wipeS s1 own) (wipe σ own) fh fpw := by
    have := g1.hold rw_ pm
    simpa using this
  refine ⟨fun i m Hc => m = ds.length - i ∧ i ≤ ds.length ∧ ∃ (F2 Hd : Hp) (si : Sl) (acc : List M) (accV : List V) (fm fp2 : List Addr) (rest : List M),
    Hc = upd Hd D (.lst accV) ∧ Hd D = none ∧ Good K F H fp F2 Hd si (wipe σ own) (fh ++ fm) fp2 ∧ Same F1 F2 ∧ Same H1 Hd ∧ Owns K F2 Hd acc accV fm ∧
    compL own t ft (fun s => bd (fe s) fun r s' => toS s' r) (ds.drop i) si = some (rest, s2) ∧ acc ++ rest = ms,
    ⟨ds.length, by simp, Nat.zero_le _, F1, H1, wipeS s1 own, [], [], [], fpw, ms, rfl, hD, by simpa using g1w, same_refl _, same_refl _, .nil, by simpa using e2, rfl⟩, ?_⟩
  rintro i m Hc ⟨rfl, hi, F2, Hd, si, acc, accV, fm, fp2, rest, rfl, hn, g, sF, sH, ow, ec, ea⟩
  have sB : Same H1 (upd Hd D (.lst accV)) := same_trans sH (same_fresh hn)
  by_cases hlt : i < ds.length
  · refine .inr ⟨wk.go i _ sB hlt, fun Hn => ∃ (F2 Hd : Hp) (si : Sl) (acc : List M) (accV : List V) (fm fp2 : List Addr) (rest : List M),
      Hn = upd Hd D (.lst accV) ∧ Hd D = none ∧ Good K F H fp F2 Hd si (wipe σ own) (fh ++ fm) fp2 ∧ Same F1 F2 ∧ Same H1 Hd ∧ Owns K F2 Hd acc accV fm ∧
      compL own t ft (fun s => bd (fe s) fun r s' => toS s' r) (ds.drop (i + 1)) si = some (rest, s2) ∧ acc ++ rest = ms, fun Hn w => ⟨ds.length - (i + 1), by omega, rfl, hlt, w⟩, fun x H'' hy => ?_⟩
    obtain ⟨d, hd, hy⟩ := wk.yld i F2 _ x H'' sF sB (same_trans g.ok.same (same_fresh hn)) hlt hy
    -- the item has come
    obtain ⟨F3, Hd3, rfl, hn3, g3, sF3, sH3, rx⟩ : ∃ F3 Hd3, H'' = upd Hd3 D (.lst accV) ∧ Hd3 D = none ∧ Good K F H fp F3 Hd3 si (wipe σ own) (fh ++ fm) fp2 ∧ Same F2 F3 ∧ Same Hd Hd3 ∧ Rep K F3 d x := by
      rcases hy with ⟨rfl, rx⟩ | ⟨T, ys, es, hT, rfl, rfl, rfl, rs⟩
      · exact ⟨F2, Hd, rfl, hn, g, same_refl _, same_refl _, rx⟩
      · have neT : T ≠ D := fun q => by rw [q, upd_same] at hT; cases hT
        rw [upd_ne neT] at hT
        refine ⟨upd F2 T (.tup ys), upd Hd T (.tup ys), ?_, by rw [upd_ne (Ne.symm neT)]; exact hn, g.freshF hT, same_fresh (same_none g.ok.same hT), same_fresh hT, .tup (.inl (.inl upd_same)) (rs.mono (same_fresh (same_none g.ok.same hT)))⟩
        funext p
        by_cases h1 : p = D
        · subst h1; rw [upd_ne (Ne.symm neT), upd_same, upd_same]
        · by_cases h2 : p = T
          · subst h2; rw [upd_same, upd_ne h1, upd_same]
          · rw [upd_ne h2, upd_ne h1, upd_ne h1, upd_ne h2]
    -- the target
    have ed : ds.drop i = d :: ds.drop (i + 1) := by
      rw [List.drop_eq_getElem_cons hlt]
      rw [List.getElem?_eq_getElem hlt] at hd
      rw [Option.some.inj hd]
    rw [ed] at ec
    unfold compL at ec
    obtain ⟨sA, e3, ec⟩ := bind_inv ec
    obtain ⟨b, sB', e4, ec⟩ := bd_inv ec
    have okD := g3.ok.withD (o := .lst accV) hn3
    obtain ⟨σ2, fd, fp3, q1, q2, q3, q4⟩ := setT_ok okD.same okD.rep (Own.fz rx) e3
    have hw2 : wipe σ2 own = wipe σ own := by rw [q4 own hv, wipe_wipe]
    refine q3 (fun σ2 H2 => wipe σ2 own = wipe σ own ∧ tTs K ft σ2 H2 _) ⟨hw2, ?_⟩
    have q1' : SlR K F3 Hd3 sA σ2 fp3 := q1.mono (same_refl _) fun p hp => (upd_ne fun q => by
      have : p ∈ fp2 := by simpa using q2.subset (List.mem_append_right fd hp)
      exact g3.ok.dom p this (by rw [q]; exact hn3)).symm
    have g4 : Good K F H fp F3 Hd3 sA σ2 (fh ++ fm) fp3 := g3.restate q1' (by simpa using q2)
    refine ⟨F3, sA, fp3, b, sB', g4.ok.withD hn3, e4, fun F4 H4 fp4 g5 => ?_⟩
    obtain ⟨g5d, hD4⟩ := good_cutD hn3 g4.ok.same g4.ok.dom g5
    have g6 := g4.then g5d
    rw [List.append_nil] at g6
    have sF4 : Same F1 F4 := same_trans sF (same_trans sF3 g5.mono)
    have sH4 : Same H1 (cutF H4 [D]) := same_trans sH (same_trans sH3 g5d.heap)
    have ow4 : Owns K F4 (cutF H4 [D]) acc accV fm := ow.mono (same_trans sF3 g5.mono) fun p hp => by
      obtain ⟨xs, hx⟩ := ow.there p hp
      rw [hx]; exact g5d.heap _ _ (sH3 _ _ hx)
    have wS : ∀ {sX : Sl} {F5 H5 : Hp} {fpx fmx : List Addr}, Good K F H fp F5 H5 sX σ2 (fh ++ fmx) fpx → ∃ fpy, Good K F H fp F5 H5 (wipeS sX own) (wipe σ own) (fh ++ fmx) fpy := fun {sX F5 H5 fpx fmx} gx => by
      have hl : sX.length = σ.length := by rw [gx.ok.rep.length, ← wipe_length σ2 own, hw2, wipe_length]
      obtain ⟨fh', fpw', p1, p2, _⟩ := gx.ok.rep.wiped (own := own) nd fun i hi => by rw [hl]; exact hw i hi
      rw [hw2] at p2
      exact ⟨fpw', gx.restate p2 p1⟩
    cases b with
    | false =>
      rw [if_neg Bool.false_ne_true] at ec ⊢
      obtain ⟨fpy, g7⟩ := wS g6
      exact ⟨F4, cutF H4 [D], _, acc, accV, fm, fpy, rest, upd_cut hD4, cut_none, g7, sF4, sH4, ow4, ec, ea⟩
    | true =>
      rw [if_pos rfl] at ec ⊢
      obtain ⟨mm, sC, e5, ec⟩ := bd_inv ec
      obtain ⟨rest', sD, e6, ec⟩ := bd_inv ec
      cases ec
      obtain ⟨r, sC', e7, e8⟩ := bd_inv e5
      have okE : Ok K F4 H4 sB' σ2 fp4 := g5.ok
      refine ⟨F4, sB', fp4, r, sC', okE, e7, fun F5 H5 y fm5 fp5 g8 r8 => ?_⟩
      have eH4 := upd_cut hD4
      rw [eH4] at g8
      obtain ⟨g8d, hD5⟩ := good_cutD cut_none g6.ok.same g6.ok.dom g8
      obtain ⟨F6, fm6, fp6, g9, ow6⟩ := toS_ok (K := K) (F := F4) (H := cutF H4 [D]) g8d (r := r) (v := y) (by
        cases r with
        | pl p =>
          obtain ⟨hf, v0, h1, h2⟩ := r8
          refine ⟨hf, v0, h1, ?_⟩
          have e8 : ((frzP sC' p).map fun x => (M.fz x.1, x.2)) = some (mm, sC) := e8
          obtain ⟨z, e9, _⟩ := map_inv e8
          unfold frzP at e9
          cases eg : getP sC' p with
          | none => rw [eg] at e9; cases e9
          | some m =>
            unfold getP at eg
            split at eg
            · rename_i mr hm
              obtain ⟨w, f0, _, _, x1, x2, _⟩ := g8d.ok.rep.focus hm
              have x1 : σ2[p.i]? = some (some w) := x1
              rw [h1] at x1
              cases x1
              obtain ⟨v', _, _, _, x3, _⟩ := x2.focus g8d.ok.same eg
              have hin : Same (cutF H5 [D]) H5 := cutF_in
              have := (x3.mono hin).det h2
              subst this
              exact x3
            · cases eg
        | m m0 =>
          have o8 : Own K F5 H5 m0 y fm5 := r8
          refine o8.mono (same_refl _) fun p hp => cut_ne fun q => ?_
          subst q
          rcases g8.org p (List.mem_append_left _ hp) with h | h
          · exact g6.ok.dom p h cut_none
          · rw [upd_same] at h; cases h) e8
      have g10 := g6.then g9
      rw [List.append_assoc] at g10
      obtain ⟨fpy, g11⟩ := wS g10
      refine ⟨accV, hD5, ?_, F6, cutF H5 [D], _, acc ++ [mm], accV ++ [y], fm ++ fm6, fpy, _, ?_, cut_none, g11, same_trans sF4 g9.mono, same_trans sH4 g9.heap, ?_, e6, by rw [List.append_assoc]; exact ea⟩
      · have l1 := ow.length
        have l2 : acc.length < ms.length := by rw [← ea, List.length_append, List.length_cons]; omega
        omega
      · rw [upd_cut hD5, upd_upd]
        congr 1
        funext p
        by_cases hp : p = D
        · subst hp; rw [cut_none, cut_none]
        · rw [cut_ne hp, cut_ne hp, upd_ne hp, cut_ne hp]
      · have o1 : Owns K F6 (cutF H5 [D]) acc accV fm := ow4.mono g9.mono fun p hp => by
          obtain ⟨xs, hx⟩ := ow4.there p hp
          rw [hx]; exact g9.heap _ _ hx
        have app : ∀ {ms : List M} {vs : List V} {f : List Addr}, Owns K F6 (cutF H5 [D]) ms vs f → Owns K F6 (cutF H5 [D]) (ms ++ [mm]) (vs ++ [y]) (f ++ fm6) := by
          intro ms vs f o
          induction ms generalizing vs f with
          | nil => cases o; simpa using Owns.cons ow6 .nil
          | cons m ms ih =>
            cases o with
            | cons o os => rw [List.append_assoc]; exact .cons o (ih os)
        exact app o1
  · have ei : i = ds.length := by omega
    subst ei
    refine .inl ⟨wk.stop _ sB, ?_⟩
    rw [List.drop_length] at ec
    cases ec
    rw [List.append_nil] at ea
    subst ea
    obtain ⟨fd, fp3, q1, q2⟩ := back F2 Hd s2 fp2 sF (fun p hp => by
      obtain ⟨xs, hx⟩ := g1.ok.rep.there p (pm.subset (List.mem_append_left _ hp))
      rw [hx]; exact sH _ _ hx) g.ok.rep
    have g2 := g.perm (fm' := fm ++ fh) List.perm_append_comm
    have g3 := g2.give q1 q2
    refine k F2 _ (.ref D) (D :: fm) fp3 (g3.freshL hn) (Own.lst upd_same (ow.mono (same_refl _) fun p hp => upd_ne fun q => ?_))
    exact g3.dom p hp (by rw [q]; exact hn)
end
end VS
end

section
/-! VS: list(reversed(a list)). -/
namespace VS
open PySem PySem.Spec PyProof.Rows RT
section
variable {prog : Program} {w : World} {A : Around} {E : Value → Shared → Prop} {s : Shared}
theorem ext_rev {R : Result → Shared → Prop} {it l S : Addr} {items : Array Value} {c₀ : Nat} {res : Value} (hh : A.handled = none) (hit : s.heap.IsRevIter it l ((items.size : Int) - 1)) (hl : s.heap.IsList l items) (hne : l ≠ it) (hn : items.size ≤ sizeLine)
    (hSi : S ≠ it) (hSl : S ≠ l) (hS : s.heap.get? S = some { cls := .type "list", data := .seq #[] c₀ })
    (hR : ∀ h' tk acc c', (∀ b o, b ≠ S → b ≠ it → s.heap.get? b = some o → h'.get? b = some o) → h'.get? S = some { cls := .type "list", dict := none, data := .seq acc c', slots := #[] } →
      ItemsOf (fun i v => items[items.size - 1 - i]? = some v) acc items.size → R (.ok (.ret res)) { s with heap := h', toks := tk }) :
    wpAny (model prog w) A.in1 (Builtin.List.listExtendWith (.ref S) (.ref it) res)
      (fun fin s' => match fin with | .done f => R (.ok f) s' | .again c' => c'.quiet = true ∧ codeAny (model prog w) A c' R s') (fun e s' => R (.error e) s') s := by
  have W := (PySem.Walks.listRev (prog := prog) (w := w) (A := A.in1) hh it l hne items).toS
  have hSf : S ∉ [it, l] := by simp only [List.mem_cons, List.not_mem_nil, or_false, not_or]; exact ⟨hSi, hSl⟩
  have hT : s.TypeIs (.ref it) "list_reverseiterator" := Heap.IsRevIter.typeIs hit
  have h1 : Builtin.List.listSameRef (.ref S) (.ref it) = false := by simp [Builtin.List.listSameRef, hSi]
  unfold Builtin.List.listExtendWith
  refine wpAny_bind (wpAny_typeOf hT ?_)
  rw [if_neg (by rw [h1]; decide)]
  refine wpAny_bind (wpAny_pyIter_revIter hit ?_)
  refine wpAny_bind (wpAny_holding ?_)
  unfold Builtin.List.listLengthHint
  refine wpAny_bind (wpAny_specialOf hT nolen_lri ?_)
  show wpAny _ A.in1 (specialOf (Value.ref it) (Str.ofString "__length_hint__") >>= _) _ _ _
  refine wpAny_bind (wpAny_specialOf hT hint_lri ?_)
  generalize hid : ("list_reverseiterator.__length_hint__" : String) = id0
  wp_delta
  rw [show splitId id0 = some ("list_reverseiterator", "__length_hint__") from by subst hid; decide +kernel]
  subst hid
  refine wpAny_bind (wpAny_isInstance (b := true) hT (by rw [isSubtype_type]; kernel_rfl) ?_)
  refine wpAny_pure ?_
  rw [if_neg (by decide)]
  have e0 : ((items.size : Nat) : Int) - 1 - ((0 : Nat) : Int) = (items.size : Int) - 1 := by omega
  refine wpAny_pure ⟨plainId_quiet F.plain_extend_loop _, codeAny_extend_loopS W hn _ hSf _ items.size 0 _ _ _ rfl (Nat.zero_le _) ⟨Nat.zero_le _, by rw [e0]; exact hit, hl⟩ hS (ItemsOf.nil _) fun s' acc' c' hm hS' hacc => ?_⟩
  rw [Moved.eq_with hm]
  refine hR s'.heap s'.toks acc' c' (fun b o hb hb2 e => hm.heap b o (fun hmem => ?_) e) hS' hacc
  rcases List.mem_cons.mp hmem with e' | hmem
  · exact hb e'
  · exact hb2 (List.mem_singleton.mp hmem)
theorem init_rev {R : Result → Shared → Prop} {it l : Addr} {items : Array Value} (hh : A.handled = none) (hit : s.heap.IsRevIter it l ((items.size : Int) - 1)) (hl : s.heap.IsList l items) (hne : l ≠ it) (hn : items.size ≤ sizeLine)
    (S : Addr) (hSi : S ≠ it) (hSl : S ≠ l) (hS : s.heap.get? S = some { cls := .type "list", data := .seq #[] })
    (hR : ∀ h' tk acc c', (∀ b o, b ≠ S → b ≠ it → s.heap.get? b = some o → h'.get? b = some o) → h'.get? S = some { cls := .type "list", dict := none, data := .seq acc c', slots := #[] } →
      ItemsOf (fun i v => items[items.size - 1 - i]? = some v) acc items.size → R (.ok (.ret .none)) { s with heap := h', toks := tk }) :
    wpAny (model prog w) A.in1 (Builtin.«list.__init__» ⟨[.ref S, .ref it], []⟩)
      (fun fin s' => match fin with | .done f => R (.ok f) s' | .again c' => c'.quiet = true ∧ codeAny (model prog w) A c' R s') (fun e s' => R (.error e) s') s := by
  show wpAny _ _ (do let old ← Builtin.List.listItems (.ref S); Builtin.List.listUpdate (.ref S) (fun _ => #[]); letGo old.toList.reverse; Builtin.List.listExtendWith (.ref S) (.ref it) .none) _ _ s
  refine wpAny_bind ?_
  unfold Builtin.List.listItems
  refine wpAny_bind (wpAny_seqItems hS rfl (wpAny_pure ?_))
  show wpAny _ _ (updateSeq S (fun _ => #[]) >>= fun _ => letGo (#[] : Array Value).toList.reverse >>= fun _ => Builtin.List.listExtendWith (.ref S) (.ref it) .none) _ _ s
  refine wpAny_bind (wpAny_updateSeq hS rfl ?_)
  have hS₂ := Heap.get?_update_self (Obj.mapSeq (fun _ => (#[] : Array Value))) hS rfl
  have oth : ∀ b o, b ≠ S → s.heap.get? b = some o → (s.heap.update S (Obj.mapSeq (fun _ => (#[] : Array Value)))).get? b = some o :=
    fun b o hb e => (Heap.get?_update_other _ _ (Ne.symm hb)).trans e
  refine wpAny_bind (wpAny_letGo ?_)
  obtain ⟨oi, hoi, hoi2⟩ := id hit
  obtain ⟨ol, hol, hol2⟩ := id hl
  refine ext_rev hh ⟨oi, oth it _ (Ne.symm hSi) hoi, hoi2⟩ ⟨ol, oth l _ (Ne.symm hSl) hol, hol2⟩ hne hn hSi hSl hS₂ fun h' tk acc' c' hk hS' hacc => ?_
  exact hR h' tk acc' c' (fun b o hb hb2 e => hk b o hb hb2 (oth b o hb e)) hS' hacc
theorem call_list_rev {it l : Addr} {items : Array Value} {Q : Value → Shared → Prop} (hh : A.handled = none) (hit : s.heap.IsRevIter it l ((items.size : Int) - 1)) (hl : s.heap.IsList l items) (hne : l ≠ it) (hn : items.size ≤ sizeLine)
    (hQ : ∀ h' tk acc c', (∀ b o, b ≠ it → s.heap.get? b = some o → h'.get? b = some o) →
      h'.get? s.heap.objs.size = some { cls := .type "list", dict := none, data := .seq acc c', slots := #[] } → ItemsOf (fun i v => items[items.size - 1 - i]? = some v) acc items.size → Q (.ref s.heap.objs.size) { s with heap := h', toks := tk }) :
    wpAny (model prog w) A (call (.type "list") [.ref it]) Q E s := by
  refine callType_codes (Q₁ := fun obj s₁ => obj = .ref s.heap.objs.size ∧ s₁ = { s with heap := s.heap.push { cls := .type "list", data := .seq #[] } }) F.called_list (F.typeCall_list_1 _) F.entry_list_init
    (code_list_new _ ⟨rfl, rfl⟩) fun obj s₁ h₁ => ?_
  obtain ⟨rfl, rfl⟩ := h₁
  have hS : (s.heap.push { cls := .type "list", data := .seq #[] }).get? s.heap.objs.size = some { cls := .type "list", data := .seq #[] } := Heap.get?_push_size _ rfl
  obtain ⟨oi, hoi, _⟩ := id hit
  obtain ⟨ol, hol, _⟩ := id hl
  refine ⟨⟨_, hS, rfl⟩, F.args_list_init_2 _ _, init_rev (A := A.in1) hh (hit.at fun o e => Heap.get?_push_of_some _ e) (hl.push _) hne hn _ (Nat.ne_of_gt (Heap.lt_size hoi)) (Nat.ne_of_gt (Heap.lt_size hol)) hS fun h' tk acc' c' hk hS' hacc => ?_⟩
  exact ⟨rfl, hQ h' tk acc' c' (fun b o hb e => hk b o (Nat.ne_of_lt (Heap.lt_size e)) hb (Heap.get?_push_of_some _ e)) hS' hacc⟩
end
section
open L2
variable {X : Cx}
/-- list(reversed(x)), x a list: a new list -/
def tLstRev (K : PySem.W.Frag) (te : TE) : TE := fun σ H Q => te σ H fun v H1 => ∃ (a : Addr) (xs : List V), v = .ref a ∧ SqL K H1 a xs ∧ ∀ q, H1 q = none → Q (.ref q) (upd H1 q (.lst xs.reverse))
theorem pe_lstRev {e : Expr} {te : TE} {p p2 pos pos2 : Pos} (hc : X.calm = true) (hg : Gl X "list") (hm : X.mg "list" = none) (hg2 : Gl X "reversed") (hm2 : X.mg "reversed" = none) (he : PE X e te)
    (hs : starEach [e] X.env = (false, eval e X.env) :: starEach [] X.env)
    (hs2 : starEach [.Call (.Name "reversed" p2) [e] [] pos2] X.env = (false, eval (.Call (.Name "reversed" p2) [e] [] pos2) X.env) :: starEach [] X.env := by rfl) :
    PE X (.Call (.Name "list" p) [.Call (.Name "reversed" p2) [e] [] pos2] [] pos) (tLstRev X.K te) := by
  refine ⟨fun pins s σ H Q I h => ?_⟩
  refine Call_ (ld_blt I hg hm boot_list (PyProof.Rows.callWith_type1 (args_cons (Call_ (ld_blt I hg2 hm2 PyProof.Rows.boot_reversed (PyProof.Rows.callWith_type1 (args_cons (thn (he.run pins s σ H _ I h) fun u s1 ⟨v, H1, I1, r1, q1⟩ => args_nil ?_) hs) hs rfl))) hs2) hs2 rfl))
  obtain ⟨a, xs, ev, hq, q⟩ := q1
  subst ev
  obtain rfl : u = Value.ref a := r1
  obtain ⟨its, rv, p', hz⟩ := I1.list hq
  refine call_reversed_list p'.isList (args_nil ?_)
  have k0 : ∀ b o, s1.heap.get? b = some o → (s1.heap.push (revObj a ((its.toArray.size : Int) - 1))).get? b = some o := fun b o e => Heap.get?_push_of_some _ e
  have I2 : Inv X pins σ H1 { s1 with heap := s1.heap.push (revObj a ((its.toArray.size : Int) - 1)) } := I1.kept (t' := s1.toks) k0
  obtain ⟨f0, f1, f2, f3, f4, f5⟩ := I1.fpOk (H' := H1) (b := s1.heap.objs.size) (Nat.le_refl _) (I1.hok.fresh (Nat.le_refl _))
  have hl := p'.isList
  obtain ⟨ol, hol, _⟩ := id hl
  have hne : a ≠ s1.heap.objs.size := Nat.ne_of_lt (Heap.lt_size hol)
  have hn : its.toArray.size ≤ sizeLine := by rw [List.size_toArray, ← rv.length]; exact hz
  refine call_list_rev (s := { s1 with heap := s1.heap.push (revObj a ((its.toArray.size : Int) - 1)) }) (I1.ok.hd hc) ⟨_, Heap.get?_push_size _ rfl, rfl, rfl⟩ (hl.push _) hne hn fun h' tk acc c' hk hS hi => ?_
  have hnew : H1 (s1.heap.push (revObj a ((its.toArray.size : Int) - 1))).objs.size = none := I2.hok.fresh (Nat.le_refl _)
  generalize hSz : (s1.heap.push (revObj a ((its.toArray.size : Int) - 1))).objs.size = S at hS hnew
  obtain ⟨G, g1, g2⟩ := restrict h' fun b => decide (b ≠ S)
  have I3 : Inv X pins σ H1 { s1 with heap := G, toks := tk } := I2.turned (t' := tk) (fun b o hb e => by
    rw [g1 b (decide_eq_true (by rw [← hSz]; exact Nat.ne_of_lt (Heap.lt_size e)))]
    exact hk b o hb e) f0 f1 f3 f4 f5
  have I4 := I3.laidN (h' := h') (a := S) (o := .lst xs.reverse) (t' := tk) (fun b u e => by
    by_cases hb : b = S
    · subst hb
      rw [g2 _ (by simp)] at e
      cases e
    · rw [g1 b (decide_eq_true hb)] at e
      exact e) (g2 _ (by simp)) hnew ⟨by rw [List.length_reverse]; exact hz, acc.toList, c', vals_rev rv hi, by rw [hS]⟩
  exact ⟨.ref S, _, I4, rfl, q S hnew⟩
end
end VS
end

section
/-! VS: the check that a text is as told, and what follows. -/
namespace VS
open PySem L2
variable {X : Cx}

structure CC where
  sc : Scope
  N : List Str
  fn : Str → Bool
  defs : List (Str × Nat × List Str)
  cons : List Str
  dcs : List Str
  al : Nat → Option Nat
/-- a positional values, b keywords' values -/
def gK {α : Type} (a b : Nat) (us ws : List α) : List α := if us.length = a ∧ ws.length = b then us ++ ws else []
/-- how a def binds: by position, or its last parameters by name -/
def BindK (K : PySem.W.Frag) (fd : FuncData) (ps : List Str) (np : Nat) (ks : List Str) : Prop :=
  if ks = [] then Binds K fd ps [] else KBinds K fd ps ks (gK (np - ks.length) ks.length) (gK (np - ks.length) ks.length)
def kwNs (kws : List Keyword) : List Str := kws.filterMap (·.arg)
def kwAll (kws : List Keyword) : Bool := kws.all (·.arg.isSome)
def bltNames : List Str := ["len", "int", "list", "tuple", "sorted", "abs", "min", "max", "any", "all", "sum", "str", "isinstance", "reversed", "range", "enumerate", "zip", "bool"]
structure CtxOk (X : Cx) (c : CC) (G : Env) : Prop where
  N : X.N = c.N
  nd : X.N.Nodup
  sc : X.env.scope = c.sc
  fn : X.fn = c.fn
  calm : X.calm = true
  un : X.A.units + 65 < cLine
  con : ∀ k x, c.cons[k]? = some x → ∃ u v, X.mg x = some u ∧ RelV v u ∧ ∀ F, Rep X.K F (G.con k) v
  blt : ∀ x ∈ bltNames, X.mg x = none
  dcs : ∀ k x, c.dcs[k]? = some x → DcOk X (G.con (500 + k)) x
  al : ∀ k, G.al k = c.al k
  defs : ∀ k p, c.defs[k]? = some p → ∃ n f fd ps, FnOk X.prog X.w X.K X.mg X.base CX0 n f fd ps (spI X.K p.2.1 (G.io k) (G.al k) (G.cd k)) ∧ Room n X.A ∧ X.mg p.1 = some (.ref f) ∧ PySem.W.keepIn X.K (.ref f) = true ∧ BindK X.K fd ps p.2.1 p.2.2

def vis (c : CC) (x : Str) : Bool := match c.sc.names.lookup x with
  | some .local | some .cell | some .free => true
  | _ => false
def gl (c : CC) (x : Str) : Bool := decide (c.sc.names.lookup x = some .globalImplicit)
def nmo (x : Str) : Bool := !(x == ("__debug__" : Str)) && !(x == ("__classdict__" : Str)) && !decide (x = ("__name__" : Str))
def litOk : D → Const → Bool
  | .non, .none => true
  | .bl b, .bool c => b == c
  | .int i, .int j => i == j
  | .str x, .str y => decide (x = y)
  | _, _ => false
def plIx : Expr → Bool
  | .Slice .. => false
  | _ => true
def plT : Expr → Bool
  | .Compare .. | .BoolOp .. | .IfExp .. => false
  | .UnaryOp .Not _ _ => false
  | _ => true
def nSet : Expr → Bool
  | .Set .. => false
  | _ => true
def chName (c : CC) (i : Nat) : Expr → Bool
  | .Name x _ => decide (c.N[i]? = some x) && (decide (c.sc.names.lookup x = some .local) || decide (c.sc.names.lookup x = some .cell)) && (c.fn x || decide (c.sc.names.lookup x = some .local))
  | _ => false
def chT (c : CC) : T → Expr → Bool
  | .var i, e => chName c i e
  | .tup2 i j, .Tuple [a, b] _ _ => chName c i a && chName c j b
  | .tup3 i j k, .Tuple [a, b, d] _ _ => chName c i a && chName c j b && chName c k d
  | _, _ => false
def Es.len : Es → Nat
  | .nil => 0
  | .cons _ es => es.len + 1
def tyName : Ty → Option (Str × String)
  | .int => some ("int", "int") | .bool => some ("bool", "bool") | .str => some ("str", "str") | .lst => some ("list", "list") | .tup => some ("tuple", "tuple") | .cls _ => none
/-- the scope of a comprehension's block -/
def CC.blk (c : CC) (scope : Scope) : CC := { c with sc := relS scope c.sc, fn := fun x => scope.names.lookup x == some .cell }
def ownOf (c : CC) (own : List Nat) : List (Str × Nat) := own.map fun i => ((c.N[i]?).getD ⟨#[]⟩, i)
def chBlk (c : CC) (scope : Scope) (own : List Nat) (t : T) (tg iter : Expr) : Bool :=
  blkC c.N c.sc scope (ownOf c own) && decide own.Nodup && (t.vars.all fun i => decide (i ∈ own)) && (own.all fun i => decide (i < c.N.length)) && chT (c.blk scope) t tg && nSet iter
def nmLr : Expr → List Expr → Option (Str × Str × List Expr)
  | .Name x _, [.Call (.Name y _) qes [] _] => some (x, y, qes)
  | _, _ => none
theorem nmLr_inv {g : Expr} {pes : List Expr} {r} (h : nmLr g pes = some r) : ∃ p q q2, g = .Name r.1 p ∧ pes = [.Call (.Name r.2.1 q) r.2.2 [] q2] := by
  unfold nmLr at h
  split at h
  · cases h; exact ⟨_, _, _, rfl, rfl⟩
  · cases h
def nCall1 : Expr → Bool
  | .Call .. => false
  | _ => true
/-- a.n(x) -/
def meth1 : Expr → Option (Expr × Str × Expr)
  | .Call (.Attribute a n apos) [x] [] cpos => if (apos.endLine == cpos.line && nCall1 a) = true then some (a, n, x) else none
  | _ => none
theorem meth1_inv {e : Expr} {r} (h : meth1 e = some r) : ∃ apos cpos, e = .Call (.Attribute r.1 r.2.1 apos) [r.2.2] [] cpos ∧ (apos.endLine == cpos.line) = true ∧ nCall1 r.1 = true := by
  unfold meth1 at h
  split at h
  · split at h
    · rename_i hh
      rw [Bool.and_eq_true] at hh
      cases h
      exact ⟨_, _, rfl, hh.1, hh.2⟩
    · cases h
  · cases h
theorem ab_nc1 {a : Expr} (h : nCall1 a = true) (n : Str) (env : PySem.Env) (w : Sem Value) : attributeBase a n env w = w := by
  cases a <;> first | rfl | cases h
/-- a[::-1] -/
def revOf : Expr → Option Expr
  | .Subscript a (.Slice none none (some (.UnaryOp .USub (.Constant (.int 1) _ _) _)) _) _ => some a
  | _ => none
theorem revOf_inv {e a : Expr} (h : revOf e = some a) : ∃ k p1 p2 p3 pos, e = .Subscript a (.Slice none none (some (.UnaryOp .USub (.Constant (.int 1) k p1) p2)) p3) pos := by
  unfold revOf at h
  split at h
  · cases h; exact ⟨_, _, _, _, _, rfl⟩
  · cases h
/-- (a, *b) -/
def starOf : Expr → Option (Expr × Expr)
  | .Tuple [a, .Starred b _] _ _ => some (a, b)
  | _ => none
theorem starOf_inv {e : Expr} {r} (h : starOf e = some r) : ∃ p k pos, e = .Tuple [r.1, .Starred r.2 p] k pos := by
  unfold starOf at h
  split at h
  · cases h; exact ⟨_, _, _, rfl⟩
  · cases h
/-- x[a] of a name -/
def nmSub : Expr → Option (Str × Expr)
  | .Subscript (.Name x _) a _ => some (x, a)
  | _ => none
theorem nmSub_inv {e : Expr} {r} (h : nmSub e = some r) : ∃ p pos, e = .Subscript (.Name r.1 p) r.2 pos := by
  unfold nmSub at h
  split at h
  · cases h; exact ⟨_, _, rfl⟩
  · cases h
/-- a in x of a name -/
def nmIn : Expr → Option (Expr × CmpOp × Str)
  | .Compare a [o] [.Name x _] _ => some (a, o, x)
  | _ => none
theorem nmIn_inv {e : Expr} {r} (h : nmIn e = some r) : ∃ p pos, e = .Compare r.1 [r.2.1] [.Name r.2.2 p] pos := by
  unfold nmIn at h
  split at h
  · cases h; exact ⟨_, _, rfl⟩
  · cases h
def nmNm : Expr → List Expr → Option (Str × Expr × Str)
  | .Name x _, [pa, .Name y _] => some (x, pa, y)
  | _, _ => none
def nmRv : Expr → List Expr → Option (Str × Str × Expr)
  | .Name x _, [.Call (.Name y _) [pa] [] _] => some (x, y, pa)
  | _, _ => none
theorem nmRv_inv {g : Expr} {pes : List Expr} {r} (h : nmRv g pes = some r) : ∃ p q q2, g = .Name r.1 p ∧ pes = [.Call (.Name r.2.1 q) [r.2.2] [] q2] := by
  unfold nmRv at h
  split at h
  · cases h; exact ⟨_, _, _, rfl, rfl⟩
  · cases h
def nmT1 : Expr → List Expr → Expr → Option (Str × Expr)
  | .Name x _, [pa], .Tuple _ _ _ => some (x, pa)
  | _, _, _ => none
def nmT2 : Expr → List Expr → Expr → Option (Str × Expr × Expr)
  | .Name x _, [pa, pb], .Tuple _ _ _ => some (x, pa, pb)
  | _, _, _ => none
theorem nmNm_inv {g : Expr} {pes : List Expr} {r} (h : nmNm g pes = some r) : ∃ p q, g = .Name r.1 p ∧ pes = [r.2.1, .Name r.2.2 q] := by
  unfold nmNm at h
  split at h
  · cases h; exact ⟨_, _, rfl, rfl⟩
  · cases h
theorem nmT1_inv {g tg : Expr} {pes : List Expr} {r} (h : nmT1 g pes tg = some r) : ∃ p e k q, g = .Name r.1 p ∧ pes = [r.2] ∧ tg = .Tuple e k q := by
  unfold nmT1 at h
  split at h
  · cases h; exact ⟨_, _, _, _, rfl, rfl, rfl⟩
  · cases h
theorem nmT2_inv {g tg : Expr} {pes : List Expr} {r} (h : nmT2 g pes tg = some r) : ∃ p e k q, g = .Name r.1 p ∧ pes = [r.2.1, r.2.2] ∧ tg = .Tuple e k q := by
  unfold nmT2 at h
  split at h
  · cases h; exact ⟨_, _, _, _, rfl, rfl, rfl⟩
  · cases h
mutual
def chE (c : CC) : E → Expr → Bool
  | .var i, .Name x _ => decide (c.N[i]? = some x) && vis c x && nmo x
  | .lit d, .Constant k _ _ => litOk d k
  | .con k, .Name x _ => decide (c.cons[k]? = some x) && gl c x && nmo x
  | .tup es, .Tuple pes _ _ => chEs c es pes
  | .lst es, .List pes _ => chEs c es pes
  | .bin o a b, .BinOp pa po pb _ => decide (po = bopOf o) && chE c a pa && chE c b pb
  | .neg a, .UnaryOp po pa _ => decide (po = .USub) && chE c a pa
  | .cmp o a b, .Compare pa [po] [pb] _ => decide (po = copOf o) && chE c a pa && chE c b pb && !(behindInMarks (copOf o) pb)
  | .chain o p a b d, .Compare pa [po, pp] [pb, pd] _ => decide (po = copOf o) && decide (pp = copOf p) && chE c a pa && chE c b pb && chE c d pd && !(lastMarks [copOf o, copOf p] [pb, pd])
  | .bool isAnd es, .BoolOp po pes _ => decide (po = bopB isAnd) && chEs c es pes && !pes.isEmpty
  | .not_ a, .UnaryOp po pa _ => decide (po = .Not) && chE c a pa
  | .ite t a b, .IfExp pt pa pb _ => chTst c t pt && chE c a pa && chE c b pb
  | .sub a i, .Subscript pa pi _ => plIx pi && chE c a pa && chE c i pi
  | .slc bl bh a lo hi, .Subscript pa ps _ => match ps with
    | .Slice plo phi none _ => chE c a pa && (match bl, plo with
      | false, none => (match lo with | .lit .non => true | _ => false)
      | true, some pl => chE c lo pl
      | _, _ => false) && (match bh, phi with
      | false, none => (match hi with | .lit .non => true | _ => false)
      | true, some ph => chE c hi ph
      | _, _ => false)
    | _ => false
  | .call _ k es, .Call f pes kws _ => match f with
    | .Name x _ => decide (c.defs[k]? = some (x, es.len, kwNs kws)) && decide (c.al k = none) && kwAll kws && (kws.isEmpty || !pes.isEmpty) && gl c x && nmo x && chEs c es (pes ++ kws.map Keyword.value)
    | _ => false
  | .bi f es, .Call g pes kws _ => match g with
    | .Name x _ => kws.isEmpty && decide (x = f.name) && gl c x && chEs c es pes && !pes.isEmpty
    | _ => false
  | .isin t a, .Call g pes kws _ => match nmNm g pes with
    | some (x, pa, y) => kws.isEmpty && decide (x = ("isinstance" : Str)) && gl c x && chE c a pa && (match tyName t with | some p => decide (y = p.1) && gl c y | none => false)
    | none => false
  | .rev a, .Call g pes kws _ => match nmRv g pes with
    | some (x, y, pa) => kws.isEmpty && decide (x = ("list" : Str)) && gl c x && decide (y = ("reversed" : Str)) && gl c y && nst pa && chE c a pa
    | none => false
  | .lrange es, .Call g pes kws _ => match nmLr g pes with
    | some (x, y, qes) => kws.isEmpty && decide (x = ("list" : Str)) && gl c x && decide (y = ("range" : Str)) && gl c y && chEs c es qes && (decide (qes.length = 1) || decide (qes.length = 2))
    | none => false
  | .index a e, pe => match meth1 pe with
    | some (pa, n, x) => decide (n = ("index" : Str)) && chE c a pa && nst x && chE c e x
    | none => false
  | .revs a, pe => match revOf pe with
    | some pa => chE c a pa
    | none => false
  | .tupS a b, pe => match starOf pe with
    | some (pa, pb) => nst pa && chE c a pa && chE c b pb
    | none => false
  | .cget k a, pe => match nmSub pe with
    | some (x, pa) => decide (c.dcs[k]? = some x) && gl c x && nmo x && plIx pa && chE c a pa
    | none => false
  | .cin neg k a, pe => match nmIn pe with
    | some (pa, o, x) => decide (o = if neg then .NotIn else .In) && decide (c.dcs[k]? = some x) && gl c x && nmo x && chE c a pa
    | none => false
  | .comp e own t it, .ListComp pe gs scope _ => match gs with
    | [⟨tg, iter, [], asy⟩] => decide (asy = 0) && chBlk c scope own t tg iter && chIt c it tg iter && chE (c.blk scope) e pe
    | _ => false
  | .compIf e own t it d, .ListComp pe gs scope _ => match gs with
    | [⟨tg, iter, [pd], asy⟩] => decide (asy = 0) && chBlk c scope own t tg iter && chIt c it tg iter && chE (c.blk scope) e pe && chTst (c.blk scope) d pd
    | _ => false
  | _, _ => false
def chEs (c : CC) : Es → List Expr → Bool
  | .nil, [] => true
  | .cons e es, pe :: pes => nst pe && chE c e pe && chEs c es pes
  | _, _ => false
def chTst (c : CC) : Tst → Expr → Bool
  | .v e, pe => plT pe && chE c e pe
  | .cmp o a b, .Compare pa [po] [pb] _ => decide (po = copOf o) && chE c a pa && chE c b pb && !(behindInMarks (copOf o) pb)
  | .chain o p a b d, .Compare pa [po, pp] [pb, pd] _ => decide (po = copOf o) && decide (pp = copOf p) && chE c a pa && chE c b pb && chE c d pd && !(lastMarks [copOf o, copOf p] [pb, pd])
  | .not_ t, .UnaryOp po pa _ => decide (po = .Not) && chTst c t pa
  | .bool isAnd ts, .BoolOp po pes _ => decide (po = bopB isAnd) && chTs c ts pes && !pes.isEmpty
  | .cin neg k a, pe => match nmIn pe with
    | some (pa, o, x) => decide (o = if neg then .NotIn else .In) && decide (c.dcs[k]? = some x) && gl c x && nmo x && chE c a pa
    | none => false
  | _, _ => false
def chTs (c : CC) : Ts → List Expr → Bool
  | .nil, [] => true
  | .cons t ts, pe :: pes => chTst c t pe && chTs c ts pes
  | _, _ => false
def chIt (c : CC) : It → Expr → Expr → Bool
  | .seq e, _, iter => chE c e iter
  | .range es, _, .Call g pes kws _ => match g with
    | .Name x _ => kws.isEmpty && decide (x = ("range" : Str)) && gl c x && chEs c es pes && (decide (pes.length = 1) || decide (pes.length = 2) || decide (pes.length = 3))
    | _ => false
  | .enum e, tg, .Call g pes kws _ => match nmT1 g pes tg with
    | some (x, pe) => kws.isEmpty && decide (x = ("enumerate" : Str)) && gl c x && nst pe && chE c e pe
    | none => false
  | .zip a b, tg, .Call g pes kws _ => match nmT2 g pes tg with
    | some (x, pa, pb) => kws.isEmpty && decide (x = ("zip" : Str)) && gl c x && nst pa && nst pb && chE c a pa && chE c b pb
    | none => false
  | _, _, _ => false
end

/-! ### what is walked -/
section
variable {K : PySem.W.Frag} {F H F' H' : Hp} {fp fp' fm : List Addr} {s s' s1 s2 s3 : Sl} {σ : St} {a b : Expr} {fa fb : Sl → Option (Res × Sl)} {pos p : Pos} {tg : Expr}
theorem si_seq (ha : PE X a (tE X.K fa)) : PI X tg a (tIt X.K fun s => bd (fa s) fun r s1 => toC s1 r) := by
  refine ⟨fun pins s0 σ H R I ⟨F, s, fp, ds, s', ok, e, k⟩ => ?_⟩
  obtain ⟨r, s1, e1, e⟩ := bd_inv e
  cases eb : isL (toV s1 r) with
  | true =>
    refine (pi_list ha).run pins s0 σ H R I ⟨F, s, fp, r, s1, ok, e1, fun F1 H1 v fm fp1 g r1 => ?_⟩
    obtain ⟨F2, fp2, vs, g2, sq, rs⟩ := toC_ok g r1 e
    rw [eb] at sq
    obtain ⟨ad, ea, h⟩ := sq
    exact ⟨ad, ea, ⟨vs, SqL.of h⟩, k F2 H1 _ fp2 g2 (walks_list h rs)⟩
  | false =>
    refine (pi_tup ha).run pins s0 σ H R I ⟨F, s, fp, r, s1, ok, e1, fun F1 H1 v fm fp1 g r1 => ?_⟩
    obtain ⟨F2, fp2, vs, g2, sq, rs⟩ := toC_ok g r1 e
    rw [eb] at sq
    obtain ⟨ad, ea, h⟩ := sq
    exact ⟨ad, ea, ⟨vs, h⟩, k F2 H1 _ fp2 g2 (walks_tup h rs)⟩
theorem s62 {i : Int} (h : small62 i = true) : -(2 ^ 62) ≤ i ∧ i < 2 ^ 62 := by
  unfold small62 at h
  simpa using h
theorem rangeSize_nn (a b c : Int) : 0 ≤ Builtin.Range.rangeSize a b c := by
  unfold Builtin.Range.rangeSize
  split
  · rename_i h
    split
    · have : 0 ≤ (b - a - 1) / c := Int.ediv_nonneg (by omega) (by omega)
      omega
    · omega
  · split
    · by_cases hc : c = 0
      · subst hc; simp
      · have : 0 ≤ (a - b - 1) / (-c) := Int.ediv_nonneg (by omega) (by omega)
        omega
    · omega
theorem range3_inv {K : PySem.W.Frag} {H : Hp} {ds : List D} {vs : List V} {x : List D} (rv : Reps K H ds vs) (hl : ds.length = 3) (e : rangeD ds = some x) : ∃ i j c n, vs = [.int i, .int j, .int c] ∧ RgC i j c n ∧ x = rangeL3 i c n := by
  match ds, rv, hl with
  | [a, b, d], .cons ra (.cons rb (.cons rd .nil)), _ =>
    cases a with
    | int i =>
      cases b with
      | int j =>
        cases d with
        | int c =>
          obtain ⟨h, e⟩ := of_ite (show (if c ≠ 0 ∧ c.natAbs < 1073741824 ∧ Builtin.Range.small i j c = true then some (rangeL3 i c (Builtin.Range.rangeSize i j c).toNat) else none) = some x from e)
          subst e
          cases ra; cases rb; cases rd
          exact ⟨i, j, c, _, rfl, ⟨h.1, h.2.1, h.2.2, by have := rangeSize_nn i j c; omega⟩, rfl⟩
        | _ => cases e
      | _ => cases d <;> cases e
    | _ => cases b <;> cases d <;> cases e
theorem si_range1 {f : Sl → Option (List Res × Sl)} (hg : Gl X "range") (hm : X.mg "range" = none) (hs : nst a = true) (hn : ∀ s rs s', f s = some (rs, s') → rs.length = 1) (ha : PA X [a] (tAs X.K f)) :
    PI X tg (.Call (.Name "range" p) [a] [] pos) (tIt X.K fun s => bd (f s) fun rs s1 => (toVs s1 rs).bind fun ds => (rangeD ds).map fun x => (x, s1)) := by
  refine ⟨fun pins s0 σ H R I ⟨F, s, fp, ds, s', ok, e, k⟩ => ?_⟩
  obtain ⟨rs, s1, e1, e⟩ := bd_inv e
  obtain ⟨ds', e2, e⟩ := bind_inv e
  obtain ⟨x, e3, e⟩ := map_inv e
  cases e
  refine (pi_range1 hg hm ha (by rw [star_cons hs]; rfl)).run pins s0 σ H R I ⟨F, s, fp, rs, _, ok, e1, fun F1 H1 vs fm fp1 g r1 => ?_⟩
  have rv := toVs_ok g.ok r1 e2
  have hl := toVs_len e2
  rw [hn _ _ _ e1] at hl
  cases rv with
  | nil => cases hl
  | cons r rr =>
    cases rr with
    | cons _ _ => simp at hl
    | nil =>
      cases r with
      | int n =>
        obtain ⟨h, e3⟩ := of_ite (show (if small62 n = true then some (rangeL 0 n) else none) = some _ from e3)
        subst e3
        have := s62 h
        refine ⟨n, rfl, this.1, this.2, ?_⟩
        have w := walks_range (K := X.K) (F := F1) (B := H1) 0 n
        rw [Int.sub_zero] at w
        exact k F1 H1 _ fp1 g.none w
      | _ => cases e3
theorem si_range2 {f : Sl → Option (List Res × Sl)} (hg : Gl X "range") (hm : X.mg "range" = none) (hs : nst a = true) (hs2 : nst b = true) (hn : ∀ s rs s', f s = some (rs, s') → rs.length = 2) (ha : PA X [a, b] (tAs X.K f)) :
    PI X tg (.Call (.Name "range" p) [a, b] [] pos) (tIt X.K fun s => bd (f s) fun rs s1 => (toVs s1 rs).bind fun ds => (rangeD ds).map fun x => (x, s1)) := by
  refine ⟨fun pins s0 σ H R I ⟨F, s, fp, ds, s', ok, e, k⟩ => ?_⟩
  obtain ⟨rs, s1, e1, e⟩ := bd_inv e
  obtain ⟨ds', e2, e⟩ := bind_inv e
  obtain ⟨x, e3, e⟩ := map_inv e
  cases e
  refine (pi_range2 hg hm ha (by rw [star_cons hs, star_cons hs2]; rfl) (by rw [star_cons hs2]; rfl)).run pins s0 σ H R I ⟨F, s, fp, rs, _, ok, e1, fun F1 H1 vs fm fp1 g r1 => ?_⟩
  have rv := toVs_ok g.ok r1 e2
  have hl := toVs_len e2
  rw [hn _ _ _ e1] at hl
  cases rv with
  | nil => cases hl
  | cons r rr =>
    cases rr with
    | nil => simp at hl
    | cons r2 rr =>
      cases rr with
      | cons _ _ => simp at hl
      | nil =>
        cases r with
        | int n =>
          cases r2 with
          | int n2 =>
            obtain ⟨h, e3⟩ := of_ite (show (if (small62 n && small62 n2) = true then some (rangeL n n2) else none) = some _ from e3)
            subst e3
            rw [Bool.and_eq_true] at h
            have h1 := s62 h.1
            have h2 := s62 h.2
            exact ⟨n, n2, rfl, ⟨h1.1, h1.2, h2.1, h2.2⟩, k F1 H1 _ fp1 g.none (walks_range n n2)⟩
          | _ => cases e3
        | _ => cases r2 <;> cases e3
theorem si_range3 {a b d : Expr} {f : Sl → Option (List Res × Sl)} (hg : Gl X "range") (hm : X.mg "range" = none) (hs : nst a = true) (hs2 : nst b = true) (hs3 : nst d = true) (hn : ∀ s rs s', f s = some (rs, s') → rs.length = 3) (ha : PA X [a, b, d] (tAs X.K f)) :
    PI X tg (.Call (.Name "range" p) [a, b, d] [] pos) (tIt X.K fun s => bd (f s) fun rs s1 => (toVs s1 rs).bind fun ds => (rangeD ds).map fun x => (x, s1)) := by
  refine ⟨fun pins s0 σ H R I ⟨F, s, fp, ds, s', ok, e, k⟩ => ?_⟩
  obtain ⟨rs, s1, e1, e⟩ := bd_inv e
  obtain ⟨ds', e2, e⟩ := bind_inv e
  obtain ⟨x, e3, e⟩ := map_inv e
  cases e
  refine (pi_range3 hg hm ha (by rw [star_cons hs, star_cons hs2, star_cons hs3]) (by rw [star_cons hs2, star_cons hs3]; rfl)).run pins s0 σ H R I ⟨F, s, fp, rs, _, ok, e1, fun F1 H1 vs fm fp1 g r1 => ?_⟩
  have rv := toVs_ok g.ok r1 e2
  have hl := toVs_len e2
  rw [hn _ _ _ e1] at hl
  obtain ⟨i, j, c, n, ev, hr, ex⟩ := range3_inv rv hl e3
  subst ex
  exact ⟨i, j, c, n, ev, hr, k F1 H1 _ fp1 g.none (walks_range3 i c n)⟩
theorem isLd_of {d : D} (h : isLd d = true) : ∃ xs, d = .lst xs := by
  cases d <;> first | exact ⟨_, rfl⟩ | cases h
theorem si_enum {elts : List Expr} {kk : Nat} {tpos : Pos} (hg : Gl X "enumerate") (hm : X.mg "enumerate" = none) (hs : nst a = true) (ha : PE X a (tE X.K fa)) :
    PI X (.Tuple elts kk tpos) (.Call (.Name "enumerate" p) [a] [] pos) (tIt X.K fun s => bd (fa s) fun r s1 => (toV s1 r).bind fun d => if isLd d then bd (toC s1 r) fun ds s2 => some (enumL ds, s2) else none) := by
  refine ⟨fun pins s0 σ H R I ⟨F, s, fp, ds, s', ok, e, k⟩ => ?_⟩
  obtain ⟨r, s1, e1, e⟩ := bd_inv e
  obtain ⟨d, e2, e⟩ := bind_inv e
  split at e
  · rename_i hd
    obtain ⟨ds', s2, e3, e⟩ := bd_inv e
    cases e
    obtain ⟨xs, rfl⟩ := isLd_of hd
    refine (pi_enum hg hm (pa_cons ha pa_nil (star_cons hs)) (by rw [star_cons hs]; rfl)).run pins s0 σ H R I ⟨F, s, fp, r, s1, ok, e1, fun F1 H1 v fm fp1 g r1 => ?_⟩
    obtain ⟨F2, fp2, vs, ad, g2, ea, h, rs⟩ := toC_L g r1 e2 e3
    exact ⟨ad, vs, by rw [ea], SqL.of h, k F2 H1 _ fp2 g2 (walks_enum h rs)⟩
  · cases e
theorem si_zip {elts : List Expr} {kk : Nat} {tpos : Pos} (hg : Gl X "zip") (hm : X.mg "zip" = none) (hs : nst a = true) (hs2 : nst b = true) (ha : PE X a (tE X.K fa)) (hb : PE X b (tE X.K fb)) :
    PI X (.Tuple elts kk tpos) (.Call (.Name "zip" p) [a, b] [] pos) (tIt X.K fun s => bd (fa s) fun ra s1 => bd (fb s1) fun rb s2 => (toV s2 ra).bind fun d => if isLd d then bd (toC s2 ra) fun xs s3 => (toV s3 rb).bind fun d' => if isLd d' then bd (toC s3 rb) fun ys s4 => some (zipL xs ys, s4) else none else none) := by
  refine ⟨fun pins s0 σ H R I ⟨F, s, fp, ds, s', ok, e, k⟩ => ?_⟩
  obtain ⟨ra, s1, e1, e⟩ := bd_inv e
  obtain ⟨rb, s2, e2, e⟩ := bd_inv e
  obtain ⟨d, e3, e⟩ := bind_inv e
  split at e
  · rename_i hd
    obtain ⟨xs, s3, e4, e⟩ := bd_inv e
    obtain ⟨d', e5, e⟩ := bind_inv e
    split at e
    · rename_i hd'
      obtain ⟨ys, s4, e6, e⟩ := bd_inv e
      cases e
      obtain ⟨x, rfl⟩ := isLd_of hd
      obtain ⟨y, rfl⟩ := isLd_of hd'
      refine (pi_zip hg hm (pa_cons ha (pa_cons hb pa_nil (star_cons hs2)) (star_cons hs)) (star_cons hs) (by rw [star_cons hs2]; rfl)).run pins s0 σ H R I ?_
      show tE X.K fa σ H fun x H1 => tE X.K fb σ H1 fun y H2 => _
      refine two ok e1 e2 fun F2 H2 va vb fa' fb' fp2 g ra' rb' => ?_
      obtain ⟨F3, fp3, vs, a', g3, ea, ha', ra2⟩ := toC_L g.held ra' e3 e4
      have g4 := g.back g3
      have rb2 := rb'.same g3.mono (same_refl _)
      obtain ⟨F4, fp4, ws, b', g5, eb, hb2, rb3⟩ := toC_L (g4.held (fa := fb') (fb := [])) rb2 e5 e6
      have g6 := g4.back g5
      exact ⟨a', b', vs, ws, by rw [ea, eb], SqL.of ha', SqL.of hb2, k F4 H2 _ fp4 g6 (walks_zip ha' hb2 (ra2.mono g5.mono) rb3)⟩
    · cases e
  · cases e
end
end VS
end

section
/-! VS: the check is sound, expressions. -/
namespace VS
open PySem L2
variable {X : Cx} {c : CC} {G : Env}

theorem boot_bi : ∀ f : Bi, bootBuiltins f.name = some f.val := by intro f; cases f <;> decide +kernel
theorem bi_nm : ∀ f : Bi, f.name ≠ "__name__" ∧ (f.name == ("__debug__" : Str)) = false := by intro f; cases f <;> decide +kernel
theorem pe_bi {f : Bi} {r : List V → Hp → VK → Prop} {t : TA} {e : Expr} {es : List Expr} {p pos : Pos} (hc : CallR X f.val r) (hg : Gl X f.name) (hm : X.mg f.name = none) (ha : PA X (e :: es) t) (hs : (e :: es).all nst = true) :
    PE X (.Call (.Name f.name p) (e :: es) [] pos) (tCB r t) := by
  rw [List.all_cons, Bool.and_eq_true] at hs
  have h1 := star_cons (es := es) (env := X.env) hs.1
  have h2 := star_any (pos := pos) (env := X.env) hs.2
  have b := boot_bi f
  have n := bi_nm f
  have key : (∃ id, f.val = .builtin id) ∨ ∃ T, f.val = .type T := by
    cases f <;> first | exact .inl ⟨_, rfl⟩ | exact .inr ⟨_, rfl⟩
  rcases key with ⟨id, e1⟩ | ⟨T, e1⟩
  · rw [e1] at b hc
    exact pe_callB hc hg hm b ha n.1 n.2 h1 h2
  · rw [e1] at b hc
    exact pe_callTy hc hg hm b ha n.1 n.2 h1 h2
theorem bi_mem (f : Bi) : f.name ∈ bltNames := by cases f <;> decide +kernel
section
variable {F H F' H' : Hp} {fp fp' fm : List Addr} {s s' s1 s2 s3 : Sl} {σ : St} {a b : Expr} {fa fb : Sl → Option (Res × Sl)} {pos p : Pos}
theorem se_bi {f : Bi} {e : Expr} {es : List Expr} {g : Sl → Option (List Res × Sl)} (hc : X.calm = true) (hg : Gl X f.name) (hm : X.mg f.name = none) (hs : (e :: es).all nst = true) (ha : PA X (e :: es) (tAs X.K g)) :
    PE X (.Call (.Name f.name p) (e :: es) [] pos) (tE X.K fun s => bd (g s) fun rs s1 => evBi f s1 rs) := by
  cases hf : f.isC with
  | false =>
    refine pe_imp (pe_bi (bi_rule hc f hf) hg hm ha hs) fun σ H Q ⟨F, s, fp, r, s', ok, e, k⟩ => ?_
    obtain ⟨rs, s1, e1, e⟩ := bd_inv e
    refine ⟨F, s, fp, rs, s1, ok, e1, fun F1 H1 vs fm fp1 g r1 => ?_⟩
    unfold evBi at e
    rw [hf, if_neg Bool.false_ne_true] at e
    obtain ⟨ds, e2, e⟩ := bind_inv e
    obtain ⟨d, e3, e⟩ := bind_inv e
    cases e
    exact ⟨ds, d, toVs_ok g.ok r1 e2, e3, fun v rv => fin_flat g rv (biF_flat e3) k⟩
  | true =>
    refine pe_imp (pe_bi (biC_rule f hf) hg hm ha hs) fun σ H Q ⟨F, s, fp, r, s', ok, e, k⟩ => ?_
    obtain ⟨rs, s1, e1, e⟩ := bd_inv e
    refine ⟨F, s, fp, rs, s1, ok, e1, fun F1 H1 vs fm fp1 g r1 => ?_⟩
    unfold evBi at e
    rw [hf, if_pos rfl] at e
    cases r1 with
    | nil => cases e
    | @cons r0 v _ vs f0 g0 hr rr =>
      cases rr with
      | cons _ _ => cases e
      | nil =>
        have e : ((toV s1 r0).bind fun d => if f.okC d then bd (toC s1 r0) fun ds s2 => (biC f ds).bind fun m => some (Res.m m, s2) else none) = some (r, s') := e
        obtain ⟨d, e2, e⟩ := bind_inv e
        split at e
        · rename_i hok
          obtain ⟨ds, s2, e3, e⟩ := bd_inv e
          obtain ⟨m, e4, e⟩ := bind_inv e
          cases e
          rw [List.append_nil] at g
          obtain ⟨F2, fp2, vs, g2, sq, rs⟩ := toC_ok g hr e3
          rw [e2] at sq
          refine ⟨v, _, vs, rfl, sq, ?_⟩
          cases f with
          | list => cases e4; exact fun p hp => fin_list g2 hp rs k
          | tuple =>
            cases e4
            cases d with
            | lst x =>
              exact fun p hp => k _ _ (.ref p) [] fp2 (g2.freshF hp) (Own.fz (.tup (.inl (.inl upd_same)) (rs.mono (same_fresh (same_none g2.ok.same hp)))))
            | _ => cases hok
          | sorted =>
            obtain ⟨ns, e5, e6⟩ := map_inv e4
            subst e6
            cases d with
            | lst x =>
              refine ⟨rfl, ns, intsD_reps rs e5, fun p hp => ?_⟩
              have := fin_list (Q := Q) (ds := (sortI ns).map D.int) g2 hp (vs := (sortI ns).map V.int) (by
                generalize sortI ns = l
                induction l with
                | nil => exact .nil
                | cons a l ih => exact .cons (.int a) ih) (by simpa [List.map_map, Function.comp_def] using k)
              exact this
            | _ => cases hok
          | _ => cases hf
        · cases e
def tyV : Ty → V
  | .int => .ty "int" | .bool => .ty "bool" | .str => .ty "str" | .lst => .ty "list" | .tup => .ty "tuple" | .cls _ => .non
theorem isin_ok {K : PySem.W.Frag} {t : Ty} {d : D} {v : V} {k : Bool} {q : Str × String} (ht : tyName t = some q) (r : Rep K H d v) (e : isTy t d = some k) : ∃ y, TyX K H v y ∧ PySem.W.kitOne K y (.type q.2) = some k := by
  have one : ∀ {n m : String}, kitB n m = some k → PySem.W.kitOne K (.type n) (.type m) = some k := fun h => kit_ty h
  cases r with
  | non => refine ⟨_, .base .non, ?_⟩; cases t <;> cases ht <;> cases e <;> exact one (by decide +kernel)
  | bl b => refine ⟨_, .base (.bl b), ?_⟩; cases t <;> cases ht <;> cases e <;> exact one (by decide +kernel)
  | int i => refine ⟨_, .base (.int i), ?_⟩; cases t <;> cases ht <;> cases e <;> exact one (by decide +kernel)
  | str x => refine ⟨_, .base (.str x), ?_⟩; cases t <;> cases ht <;> cases e <;> exact one (by decide +kernel)
  | scr h => cases t <;> cases ht <;> cases e
  | lst h rs => refine ⟨_, .base (.lst h), ?_⟩; cases t <;> cases ht <;> cases e <;> exact one (by decide +kernel)
  | tup h rs =>
    have key : PySem.W.kitOne K (.type "tuple") (.type q.2) = some k := by cases t <;> cases ht <;> cases e <;> exact one (by decide +kernel)
    rcases h with (h | ⟨o, h⟩) | ⟨o, its, n, h1, h2, _⟩
    · exact ⟨_, .base (.tup h), key⟩
    · exact ⟨_, .fTuple h, key⟩
    · exact ⟨_, .kTuple h1 h2, key⟩
theorem boot_ty {t : Ty} {q : Str × String} (h : tyName t = some q) : bootBuiltins q.1 = some (.type q.2) := by
  cases t <;> cases h <;> decide +kernel
theorem ty_mem {t : Ty} {q : Str × String} (h : tyName t = some q) : q.1 ∈ bltNames ∧ q.1 ≠ "__name__" ∧ (q.1 == ("__debug__" : Str)) = false := by
  cases t <;> cases h <;> decide +kernel
theorem se_isin {t : Ty} {q : Str × String} {p2 : Pos} (ht : tyName t = some q) (hg : Gl X "isinstance") (hm : X.mg "isinstance" = none) (hg2 : Gl X q.1) (hm2 : X.mg q.1 = none) (hs : nst a = true) (ha : PE X a (tE X.K fa)) :
    PE X (.Call (.Name "isinstance" p) [a, .Name q.1 p2] [] pos) (tE X.K fun s => bd (fa s) fun r s1 => ((toV s1 r).bind (isTy t)).bind fun b => rM (.bl b) s1) := by
  have hb : PE X (.Name q.1 p2) (tC (.ty q.2)) := pe_bltn hg2 hm2 (boot_ty ht) rfl (ty_mem ht).2.1 (ty_mem ht).2.2
  refine pe_imp (pe_callB call_isi hg hm PyProof.Rows.boot_isinstance (pa_cons ha (pa_cons hb pa_nil) (star_cons hs)) (by decide) (by decide) (star_cons hs) rfl) fun σ H Q ⟨F, s, fp, r, s', ok, e, k⟩ => ?_
  obtain ⟨r0, s1, e1, e⟩ := bd_inv e
  obtain ⟨b, e2, e⟩ := bind_inv e
  cases e
  obtain ⟨d, e3, e2⟩ := bind_inv e2
  refine ⟨F, s, fp, r0, _, ok, e1, fun F1 H1 v fm fp1 g r1 => ?_⟩
  obtain ⟨y, h1, h2⟩ := isin_ok ht (toV_ok g.ok r1 e3) e2
  exact ⟨v, .ty q.2, y, .type q.2, b, rfl, .ty _, h1, h2, fin_flat g (.bl _) rfl k⟩
end
theorem se_rev {X : Cx} {a : Expr} {fa : Sl → Option (Res × Sl)} {p p2 pos pos2 : Pos} (hc : X.calm = true) (hg : Gl X "list") (hm : X.mg "list" = none) (hg2 : Gl X "reversed") (hm2 : X.mg "reversed" = none) (hs : nst a = true) (ha : PE X a (tE X.K fa)) :
    PE X (.Call (.Name "list" p) [.Call (.Name "reversed" p2) [a] [] pos2] [] pos) (tE X.K fun s => bd (fa s) fun r s1 => (toV s1 r).bind fun d => if isLd d then bd (toC s1 r) fun ds s2 => some (.m (.lst (ds.reverse.map .fz)), s2) else none) :=
  pe_imp (pe_lstRev hc hg hm hg2 hm2 ha (star_cons hs)) fun σ H Q ⟨F, s, fp, r, s', ok, e, k⟩ => by
    obtain ⟨r1, s1, e1, e⟩ := bd_inv e
    obtain ⟨d, e2, e⟩ := bind_inv e
    cases hd : isLd d with
    | false => rw [hd, if_neg Bool.false_ne_true] at e; cases e
    | true =>
      rw [hd, if_pos rfl] at e
      obtain ⟨ds, s2, e3, e⟩ := bd_inv e
      cases e
      obtain ⟨x, rfl⟩ := isLd_of hd
      refine ⟨F, s, fp, r1, s1, ok, e1, fun F1 H1 v fm fp1 g rr => ?_⟩
      obtain ⟨F2, fp2, vs, ad, g2, ea, h, rs⟩ := toC_L g rr e2 e3
      refine ⟨ad, vs, ea, SqL.of h, fun q hq => ?_⟩
      exact k F2 _ (.ref q) [q] fp2 (g2.freshL hq) (Own.lst upd_same (Reps.owns rs.reverse))
theorem se_lrange1 {X : Cx} {a : Expr} {f : Sl → Option (List Res × Sl)} {p p2 pos pos2 : Pos} (hc : X.calm = true) (hg : Gl X "list") (hm : X.mg "list" = none) (hg2 : Gl X "range") (hm2 : X.mg "range" = none) (hs : nst a = true) (fa : Sl → Option (Res × Sl)) (hf : ∀ s, f s = bd (fa s) fun r s1 => some ([r], s1)) (ha : PE X a (tE X.K fa)) :
    PE X (.Call (.Name "list" p) [.Call (.Name "range" p2) [a] [] pos2] [] pos) (tE X.K fun s => bd (f s) fun rs s1 => (toVs s1 rs).bind fun ds => (lrangeD ds).map fun x => (.m (.lst (x.map .fz)), s1)) :=
  pe_imp (pe_listRg hc hg hm (prg_1 hg2 hm2 ha (star_cons hs)) (star_cons rfl)) fun σ H Q ⟨F, s, fp, r, s', ok, e, k⟩ => by
    obtain ⟨rs, s1, e1, e⟩ := bd_inv e
    obtain ⟨ds, e2, e⟩ := bind_inv e
    obtain ⟨x, e3, e⟩ := map_inv e
    cases e
    rw [hf] at e1
    obtain ⟨r0, sa, a1, e1⟩ := bd_inv e1
    cases e1
    · refine ⟨F, s, fp, r0, _, ok, a1, fun F1 H1 v fm fp1 g rr => ?_⟩
      obtain ⟨d, q1, q2⟩ := bind_inv (show ((toV _ r0).bind fun d => (some ([] : List D)).map fun ds => d :: ds) = some ds from e2)
      cases q2
      have rv := toV_ok g.ok rr q1
      cases d with
      | int n =>
        have e3 : (if (small62 n && decide (n.toNat ≤ 2 ^ 24)) = true then some (rangeL 0 n) else none) = some x := e3
        obtain ⟨h, e3⟩ := of_ite e3
        subst e3
        rw [Bool.and_eq_true] at h
        have h1 := s62 h.1
        have h2 := of_decide_eq_true h.2
        cases rv
        refine ⟨n, rfl, ⟨by decide, by decide, h1.1, h1.2, by rw [Int.sub_zero]; exact h2⟩, fun q hq => ?_⟩
        have := fin_list (Q := Q) (ds := rangeL 0 n) (g.none) hq (vs := rgV 0 n) (by
          unfold rangeL rgV
          generalize (n - 0).toNat = m
          have key : ∀ l : List Nat, Reps X.K F1 (l.map fun k => D.int (0 + (k : Nat))) (l.map fun i => V.int (0 + (i : Nat))) := by
            intro l
            induction l with
            | nil => exact .nil
            | cons y l ih => exact .cons (.int _) ih
          exact key _) k
        exact this
      | _ => cases e3
theorem se_lrange2 {X : Cx} {a b : Expr} {f : Sl → Option (List Res × Sl)} {fa fb : Sl → Option (Res × Sl)} {p p2 pos pos2 : Pos} (hc : X.calm = true) (hg : Gl X "list") (hm : X.mg "list" = none) (hg2 : Gl X "range") (hm2 : X.mg "range" = none) (hs : nst a = true) (hs2 : nst b = true) (hf : ∀ s, f s = bd (fa s) fun r s1 => bd (fb s1) fun r2 s2 => some ([r, r2], s2)) (ha : PE X a (tE X.K fa)) (hb : PE X b (tE X.K fb)) :
    PE X (.Call (.Name "list" p) [.Call (.Name "range" p2) [a, b] [] pos2] [] pos) (tE X.K fun s => bd (f s) fun rs s1 => (toVs s1 rs).bind fun ds => (lrangeD ds).map fun x => (.m (.lst (x.map .fz)), s1)) :=
  pe_imp (pe_listRg hc hg hm (prg_2 hg2 hm2 ha hb (by rw [star_cons hs]) (by rw [star_cons hs2]) (by rw [star_cons hs2]; rfl)) (star_cons rfl)) fun σ H Q ⟨F, s, fp, r, s', ok, e, k⟩ => by
    obtain ⟨rs, s1, e1, e⟩ := bd_inv e
    obtain ⟨ds, e2, e⟩ := bind_inv e
    obtain ⟨x, e3, e⟩ := map_inv e
    cases e
    rw [hf] at e1
    obtain ⟨ra, sa, a1, e1⟩ := bd_inv e1
    obtain ⟨rb, sb, a2, e1⟩ := bd_inv e1
    cases e1
    refine ⟨F, s, fp, ra, sa, ok, a1, fun F1 H1 v fm fp1 g rr => ⟨F1, sa, fp1, rb, _, g.ok, a2, fun F2 H2 v2 fm2 fp2 g2 rr2 => ?_⟩⟩
    have gg := g.then g2
    have rr' := rr.same g2.mono g2.heap
    obtain ⟨d, q1, q2⟩ := bind_inv (show ((toV _ ra).bind fun d => ((toV _ rb).bind fun d => (some ([] : List D)).map fun ds => d :: ds).map fun ds => d :: ds) = some ds from e2)
    obtain ⟨ds', q2, q3⟩ := map_inv q2
    obtain ⟨d', q4, q5⟩ := bind_inv q2
    cases q5
    subst q3
    have rv := toV_ok gg.ok rr' q1
    have rv2 := toV_ok gg.ok rr2 q4
    cases d with
    | int n =>
      cases d' with
      | int m =>
        have e3 : (if (small62 n && small62 m && decide ((m - n).toNat ≤ 2 ^ 24)) = true then some (rangeL n m) else none) = some x := e3
        obtain ⟨h, e3⟩ := of_ite e3
        subst e3
        rw [Bool.and_eq_true, Bool.and_eq_true] at h
        have h1 := s62 h.1.1
        have h2 := s62 h.1.2
        have h3 := of_decide_eq_true h.2
        cases rv
        cases rv2
        refine ⟨n, m, rfl, rfl, ⟨h1.1, h1.2, h2.1, h2.2, h3⟩, fun q hq => ?_⟩
        have := fin_list (Q := Q) (ds := rangeL n m) (gg.none) hq (vs := rgV n m) (by
          unfold rangeL rgV
          generalize (m - n).toNat = z
          have key : ∀ l : List Nat, Reps X.K F2 (l.map fun k => D.int (n + (k : Nat))) (l.map fun i => V.int (n + (i : Nat))) := by
            intro l
            induction l with
            | nil => exact .nil
            | cons y l ih => exact .cons (.int _) ih
          exact key _) k
        exact this
      | _ => cases e3
    | _ => cases d' <;> cases e3
theorem pys_map : ∀ ds : List D, D.pys ds = ds.map D.py
  | [] => rfl
  | d :: ds => by show d.py :: D.pys ds = _; rw [pys_map ds]; rfl
theorem se_index {X : Cx} {a b : Expr} {fa fb : Sl → Option (Res × Sl)} {apos cpos : Pos} (hu : X.A.units + 65 < cLine) (ha : PE X a (tE X.K fa)) (hb : PE X b (tE X.K fb)) (hs : nst b = true) (hbase : attributeBase a "index" X.env (eval a X.env) = eval a X.env) (hline : (apos.endLine == cpos.line) = true) :
    PE X (.Call (.Attribute a "index" apos) [b] [] cpos) (tE X.K fun s => bd (fa s) fun ra s1 => (toV s1 ra).bind fun d0 => if isLd d0 then bd (fb s1) fun r s2 => (toV s2 ra).bind fun da => (toV s2 r).bind fun d => (indexD d da).bind fun j => rM j s2 else none) :=
  pe_imp (pe_bm PySem.F.plainAttrs_list PySem.F.slot_list_index PySem.F.type_list_index (mt_indexD hu) ha (pa_cons hb pa_nil (star_cons hs)) hbase (by rw [star_cons hs]; rfl) hline (star_cons hs) rfl) fun σ H Q ⟨F, s, fp, r, s', ok, e, k⟩ => by
    obtain ⟨ra, s1, e1, e⟩ := bd_inv e
    obtain ⟨d0, e2, e⟩ := bind_inv e
    cases hd : isLd d0 with
    | false => rw [hd, if_neg Bool.false_ne_true] at e; cases e
    | true =>
      rw [hd, if_pos rfl] at e
      obtain ⟨rb, s2, e3, e⟩ := bd_inv e
      obtain ⟨da, e4, e⟩ := bind_inv e
      obtain ⟨d, e5, e⟩ := bind_inv e
      obtain ⟨dj, e6, e⟩ := bind_inv e
      cases e
      obtain ⟨x0, rfl⟩ := isLd_of hd
      refine ⟨F, s, fp, ra, s1, ok, e1, fun F1 H1 v fm fp1 g1 r1 => ?_⟩
      have rv := toV_ok g1.ok r1 e2
      cases rv with
      | @lst ad xs _ h rr =>
        refine ⟨.inl ⟨rfl, _, SqL.of h⟩, F1, s1, fp1, rb, _, g1.ok, e3, fun F2 H2 v2 fm2 fp2 g2 r2 => ?_⟩
        have gg := g1.then g2
        have r1' := r1.same g2.mono g2.heap
        have ra2 := toV_ok gg.ok r1' e4
        have rb2 := toV_ok gg.ok r2 e5
        cases da with
        | lst ys =>
          have e6 : (if ((D.lst ys).shp && d.shp) = true then (ys.findIdx? fun y => D.eqv y d).map fun j => D.int (j : Nat) else none) = some dj := e6
          by_cases hsh : ((D.lst ys).shp && d.shp) = true
          · rw [if_pos hsh] at e6
            obtain ⟨j, q1, q2⟩ := map_inv e6
            subst q2
            rw [Bool.and_eq_true] at hsh
            obtain ⟨hj, hj2, hj3⟩ := List.findIdx?_eq_some_iff_getElem.mp q1
            refine ⟨ad, v2, d.py, D.pys ys, j, (ys[j]).py, rfl, rfl, ra2.dpS hsh.1, rb2.dpS hsh.2, hsh.1, hsh.2, ?_, hj2, fun m z hm hz => ?_, fin_flat gg (.int _) rfl k⟩
            · rw [pys_map, List.getElem?_map, List.getElem?_eq_getElem hj]; rfl
            · rw [pys_map, List.getElem?_map] at hz
              obtain ⟨y, hy, hy2⟩ := Option.map_eq_some_iff.mp hz
              obtain ⟨hml, hy⟩ := List.getElem?_eq_some_iff.mp hy
              have := hj3 m hm
              subst hy2
              rw [← hy]
              simpa [D.eqv] using this
          · rw [if_neg hsh] at e6; cases e6
        | _ => cases e6
theorem se_revs {X : Cx} {a : Expr} {fa : Sl → Option (Res × Sl)} {k0 : Nat} {p1 p2 p3 pos : Pos} (ha : PE X a (tE X.K fa)) :
    PE X (.Subscript a (.Slice none none (some (.UnaryOp .USub (.Constant (.int 1) k0 p1) p2)) p3) pos) (tE X.K fun s => bd (fa s) fun r s1 => (toV s1 r).bind fun d => if isLd d then bd (toC s1 r) fun ds s2 => some (.m (.lst (ds.reverse.map .fz)), s2) else none) :=
  pe_imp (pe_revL ha) fun σ H Q ⟨F, s, fp, r, s', ok, e, k⟩ => by
    obtain ⟨r1, s1, e1, e⟩ := bd_inv e
    obtain ⟨d, e2, e⟩ := bind_inv e
    cases hd : isLd d with
    | false => rw [hd, if_neg Bool.false_ne_true] at e; cases e
    | true =>
      rw [hd, if_pos rfl] at e
      obtain ⟨ds, s2, e3, e⟩ := bd_inv e
      cases e
      obtain ⟨x, rfl⟩ := isLd_of hd
      refine ⟨F, s, fp, r1, s1, ok, e1, fun F1 H1 v fm fp1 g rr => ?_⟩
      obtain ⟨F2, fp2, vs, ad, g2, ea, h, rs⟩ := toC_L g rr e2 e3
      refine ⟨ad, vs, ea, SqL.of h, fun q hq => ?_⟩
      exact k F2 _ (.ref q) [q] fp2 (g2.freshL hq) (Own.lst upd_same (Reps.owns rs.reverse))
end VS
end

section
set_option maxHeartbeats 2000000
/-! VS: the check is sound. -/
namespace VS
open PySem L2
variable {G : Env}

theorem vis_of {X : Cx} {c : CC} (ctx : CtxOk X c G) {x : Str} (h : vis c x = true) : Vis X.env.scope x := by
  unfold vis at h
  unfold Vis
  rw [ctx.sc]
  split at h
  · rename_i e; exact .inl e
  · rename_i e; exact .inr (.inl e)
  · rename_i e; exact .inr (.inr e)
  · cases h
theorem gl_of {X : Cx} {c : CC} (ctx : CtxOk X c G) {x : Str} (h : gl c x = true) : Gl X x := by
  unfold gl at h
  have h := of_decide_eq_true h
  rw [← ctx.sc] at h
  exact h
theorem nmo_of {x : Str} (h : nmo x = true) : (x == ("__debug__" : Str)) = false ∧ (x == ("__classdict__" : Str)) = false ∧ x ≠ "__name__" := by
  unfold nmo at h
  rw [Bool.and_eq_true, Bool.and_eq_true] at h
  refine ⟨by simpa using h.1.1, by simpa using h.1.2, by simpa using h.2⟩
theorem evs_len : ∀ (es : Es) {s s' : Sl} {rs : List Res}, evs G es s = some (rs, s') → rs.length = es.len
  | .nil, s, s', rs, e => by unfold evs at e; cases e; rfl
  | .cons a es, s, s', rs, e => by
    unfold evs at e
    obtain ⟨r, s1, e1, e⟩ := bd_inv e
    obtain ⟨rs', s2, e2, e⟩ := bd_inv e
    cases e
    rw [List.length_cons, evs_len es e2]; rfl
theorem chEs_nst {c : CC} : ∀ {es : Es} {pes : List Expr}, chEs c es pes = true → pes.all nst = true ∧ pes.length = es.len
  | .nil, [], _ => ⟨rfl, rfl⟩
  | .nil, _ :: _, h => by unfold chEs at h; cases h
  | .cons _ _, [], h => by unfold chEs at h; cases h
  | .cons e es, pe :: pes, h => by
    unfold chEs at h
    rw [Bool.and_eq_true, Bool.and_eq_true] at h
    have := chEs_nst h.2
    exact ⟨by rw [List.all_cons, h.1.1, this.1]; rfl, by rw [List.length_cons, this.2]; rfl⟩
theorem pl_ix {b : Expr} (h : plIx b = true) : PlainIx b := by
  intro o i
  cases b <;> first | rfl | cases h
theorem pl_t {e : Expr} (h : plT e = true) (env : PySem.Env) (whole : Sem Value) : isTrue e env whole = (do let v ← whole; standAt e.pos; holding [v] (truthy v)) := by
  cases e with
  | UnaryOp op x p => cases op <;> first | rfl | cases h
  | _ => first | rfl | cases h
theorem n_set {e : Expr} (h : nSet e = true) (env : PySem.Env) (x : Value) : foldedSetIterable e env x = pure x := by
  cases e <;> first | rfl | cases h
theorem pg_ok {X : Cx} {c : CC} (ctx : CtxOk X c G) {i : Nat} {e : Expr} (h : chName c i e = true) : PG X e (gName i) := by
  unfold chName at h
  split at h
  · rename_i x p
    rw [Bool.and_eq_true, Bool.and_eq_true] at h
    obtain ⟨⟨h1, h2⟩, h3⟩ := h
    have h1 := of_decide_eq_true h1
    rw [← ctx.N] at h1
    refine pg_name ctx.nd h1 ?_ ?_
    · unfold L2.Loc
      rw [ctx.sc]
      simpa using h2
    · rw [ctx.fn, ctx.sc]
      simpa using h3
  · cases h
theorem chName_is {c : CC} {i : Nat} {a : Expr} (h : chName c i a = true) : ∃ x q, a = .Name x q := by
  unfold chName at h
  split at h
  · exact ⟨_, _, rfl⟩
  · cases h
theorem pe_fun {X : Cx} {e : Expr} {f f' : Sl → Option (Res × Sl)} (h : PE X e (tE X.K f)) (hf : ∀ s, f' s = f s) : PE X e (tE X.K f') := by
  have : f' = f := funext hf
  rw [this]; exact h
theorem pa_fun {X : Cx} {e : List Expr} {f f' : Sl → Option (List Res × Sl)} (h : PA X e (tAs X.K f)) (hf : ∀ s, f' s = f s) : PA X e (tAs X.K f') := by
  have : f' = f := funext hf
  rw [this]; exact h
theorem pt_fun {X : Cx} {e : Expr} {f f' : Sl → Option (Bool × Sl)} (h : PT X e (tTs X.K f)) (hf : ∀ s, f' s = f s) : PT X e (tTs X.K f') := by
  have : f' = f := funext hf
  rw [this]; exact h
theorem pw_fun {X : Cx} {e : Expr} {f f' : Sl → Option (Bool × Sl)} (h : PW X e (tTs X.K f)) (hf : ∀ s, f' s = f s) : PW X e (tTs X.K f') := by
  have : f' = f := funext hf
  rw [this]; exact h
theorem pi_fun {X : Cx} {tg e : Expr} {f f' : Sl → Option (List D × Sl)} (h : PI X tg e (tIt X.K f)) (hf : ∀ s, f' s = f s) : PI X tg e (tIt X.K f') := by
  have : f' = f := funext hf
  rw [this]; exact h
theorem pb_fun {X : Cx} {e : Expr} {f f' : Sl → Option (Bool × Sl)} (h : PE X e (tBv X.K f)) (hf : ∀ s, f' s = f s) : PE X e (tBv X.K f') := by
  have : f' = f := funext hf
  rw [this]; exact h
theorem ev_call {brw : Bool} {k : Nat} {es : Es} : ev G (.call brw k es) = fun s => bd (evs G es s) fun rs s1 => evCall G brw k s1 rs := funext fun s => by rw [ev]
theorem pgT_ok {X : Cx} {c : CC} (ctx : CtxOk X c G) {t : T} {e : Expr} (h : chT c t e = true) : PG X e (gT X.K t) := by
  cases t with
  | var i => exact pg_ok ctx (by unfold chT at h; exact h)
  | tup2 i j =>
    cases e with
    | Tuple es k p =>
      match es, h with
      | [a, b], h =>
        simp only [chT, Bool.and_eq_true] at h
        obtain ⟨x, q, rfl⟩ := chName_is h.1
        obtain ⟨y, q', rfl⟩ := chName_is h.2
        exact pg_tup ctx.calm (pgs_cons (pg_ok ctx h.1) (pgs_cons (pg_ok ctx h.2) pgs_nil))
      | [], h => simp [chT] at h
      | [_], h => simp [chT] at h
      | _ :: _ :: _ :: _, h => simp [chT] at h
    | _ => simp [chT] at h
  | tup3 i j k =>
    cases e with
    | Tuple es k' p =>
      match es, h with
      | [a, b, d], h =>
        simp only [chT, Bool.and_eq_true] at h
        obtain ⟨x, q, rfl⟩ := chName_is h.1.1
        obtain ⟨y, q', rfl⟩ := chName_is h.1.2
        obtain ⟨z, q'', rfl⟩ := chName_is h.2
        exact pg_tup ctx.calm (pgs_cons (pg_ok ctx h.1.1) (pgs_cons (pg_ok ctx h.1.2) (pgs_cons (pg_ok ctx h.2) pgs_nil)))
      | [], h => simp [chT] at h
      | [_], h => simp [chT] at h
      | [_, _], h => simp [chT] at h
      | _ :: _ :: _ :: _ :: _, h => simp [chT] at h
    | _ => simp [chT] at h
/-- a comprehension's block -/
theorem CtxOk.blk {X : Cx} {c : CC} (ctx : CtxOk X c G) (s : Shared) (H : Hp) (scope : Scope) (C : Addr) (cl : List (Str × Addr)) (fp : List Addr) : CtxOk (X.blk s H scope (compEnvC scope cl C X.env) fp) (c.blk scope) G :=
  ⟨ctx.N, ctx.nd, by show relS scope X.env.scope = relS scope c.sc; rw [ctx.sc], rfl, ctx.calm, ctx.un, ctx.con, ctx.blt, ctx.dcs, ctx.al, ctx.defs⟩
theorem ownOf_snd (c : CC) (own : List Nat) : (ownOf c own).map (·.2) = own := by
  unfold ownOf
  rw [List.map_map]
  exact List.map_id _
/-- the comprehension by its parts -/
theorem se_comp {X : Cx} {c : CC} (ctx : CtxOk X c G) {own : List Nat} {t : T} {scope : Scope} {elt tg iter : Expr} {ifs : List Expr} {pos : Pos} {fi : Sl → Option (List D × Sl)} {ft : Sl → Option (Bool × Sl)} {fe : Sl → Option (Res × Sl)}
    (hb : chBlk c scope own t tg iter = true) (hi : PI X tg iter (tIt X.K fi)) (ht : ∀ X', X'.K = X.K → CtxOk X' (c.blk scope) G → PTs X' ifs (tTs X.K ft)) (he : ∀ X', X'.K = X.K → CtxOk X' (c.blk scope) G → PE X' elt (tE X.K fe)) :
    PE X (.ListComp elt [⟨tg, iter, ifs, 0⟩] scope pos) (tE X.K fun s => bd (fi s) fun ds s1 => bd (compL own t ft (fun s => bd (fe s) fun r s' => toS s' r) ds (wipeS s1 own)) fun ms s2 => if ms.length ≤ sizeLine then some (.m (.lst ms), backS s1 s2 own) else none) := by
  unfold chBlk at hb
  simp only [Bool.and_eq_true] at hb
  obtain ⟨⟨⟨⟨⟨b1, b2⟩, b3⟩, b4⟩, b5⟩, b6⟩ := hb
  have bo : BlkOk X.N X.env.scope scope (ownOf c own) := by
    rw [ctx.N, ctx.sc]; exact blkOk_by b1
  refine ⟨fun pins s0 σ H Q I h => ?_⟩
  refine (pe_lc ctx.calm ctx.nd hi bo (g := gT X.K t) (fun s H C cl fp => pgT_ok (ctx.blk s H scope C cl fp) b5) (fun s H C cl fp => ht _ rfl (ctx.blk s H scope C cl fp)) (fun s H C cl fp => he _ rfl (ctx.blk s H scope C cl fp)) (fun x => n_set b6 _ x)).run pins s0 σ H Q I ?_
  rw [ownOf_snd]
  refine comp_imp (of_decide_eq_true b2) (fun i hi => ?_) σ H Q (fun i hi => ?_) h
  · exact of_decide_eq_true (List.all_eq_true.mp b3 i hi)
  · have := of_decide_eq_true (List.all_eq_true.mp b4 i hi)
    rw [I.len, ctx.N]; exact this
theorem pts_yes {X : Cx} : PTs X [] (tTs X.K fun s => some (true, s)) := ⟨fun pins s0 σ H Q I ⟨F, s, fp, b, s', ok, e, k⟩ => (pts_nil (X := X)).run pins s0 σ H Q I (by
  cases e
  exact k F H fp ok.good)⟩

theorem sk_nil {X : Cx} {f : Sl → Option (List Res × Sl)} (hf : ∀ s, f s = some ([], s)) : PK X [] (tAs X.K f) := ⟨fun pos pins s0 σ H Q I ⟨F, s, fp, rs, s', ok, e, k⟩ => (pk_nil (X := X)).run pos pins s0 σ H Q I (by
  rw [hf] at e
  cases e
  exact k F H [] [] fp ok.good .nil)⟩
theorem sk_cons {X : Cx} {nm : Option Str} {v : Expr} {kp : Pos} {kws : List Keyword} {f : Sl → Option (Res × Sl)} {g h : Sl → Option (List Res × Sl)} (ha : PE X v (tE X.K f)) (hr : PK X kws (tAs X.K g)) (hh : ∀ s, h s = bd (f s) fun r s1 => bd (g s1) fun rs s2 => some (r :: rs, s2)) :
    PK X (⟨nm, v, kp⟩ :: kws) (tAs X.K h) := ⟨fun pos pins s0 σ H Q I ⟨F, s, fp, rs, s', ok, e, k⟩ => (pk_cons (nm := nm) (kpos := kp) ha hr).run pos pins s0 σ H Q I (by
  rw [hh] at e
  obtain ⟨r, s1, e1, e⟩ := bd_inv e
  obtain ⟨rs', s2, e2, e⟩ := bd_inv e
  cases e
  exact ⟨F, s, fp, r, s1, ok, e1, fun F1 H1 v fm fp1 g1 r1 => ⟨F1, s1, fp1, rs', _, g1.ok, e2, fun F2 H2 vs fm2 fp2 g2 r2 => k F2 H2 (v :: vs) (fm ++ fm2) fp2 (g1.then g2) (.cons (r1.same g2.mono g2.heap) r2)⟩⟩)⟩
theorem kw_all {kws : List Keyword} {pos : Pos} {env : PySem.Env} (h : kwAll kws = true) : (backToKw pos (keywordEach kws env)).all (·.1.isSome) = true := by
  induction kws with
  | nil => rfl
  | cons kw kws ih =>
    obtain ⟨nm, v, kp⟩ := kw
    have h : (nm.isSome && kwAll kws) = true := h
    rw [Bool.and_eq_true] at h
    show (nm.isSome && (backToKw pos (keywordEach kws env)).all (·.1.isSome)) = true
    rw [h.1, ih h.2]; rfl
theorem kw_none {kws : List Keyword} {pos : Pos} {env : PySem.Env} (h : kwAll kws = true) : (backToKw pos (keywordEach kws env)).any (·.1.isNone) = false := by
  induction kws with
  | nil => rfl
  | cons kw kws ih =>
    obtain ⟨nm, v, kp⟩ := kw
    have h : (nm.isSome && kwAll kws) = true := h
    rw [Bool.and_eq_true] at h
    show (nm.isNone || (backToKw pos (keywordEach kws env)).any (·.1.isNone)) = false
    rw [ih h.2]
    cases nm with
    | none => cases h.1
    | some _ => rfl
theorem kw_names {kws : List Keyword} {pos : Pos} {env : PySem.Env} : (backToKw pos (keywordEach kws env)).filterMap (·.1) = kwNs kws := by
  induction kws with
  | nil => rfl
  | cons kw kws ih =>
    obtain ⟨nm, v, kp⟩ := kw
    show List.filterMap (·.1) ((nm, _) :: backToKw pos (keywordEach kws env)) = List.filterMap (·.arg) (_ :: kws)
    rw [List.filterMap_cons, List.filterMap_cons, ih]
    cases nm <;> rfl
theorem kwNs_len {kws : List Keyword} (h : kwAll kws = true) : (kwNs kws).length = kws.length := by
  induction kws with
  | nil => rfl
  | cons kw kws ih =>
    obtain ⟨nm, v, kp⟩ := kw
    have h : (nm.isSome && kwAll kws) = true := h
    rw [Bool.and_eq_true] at h
    cases nm with
    | none => cases h.1
    | some x =>
      show (x :: kwNs kws).length = _
      rw [List.length_cons, List.length_cons, ih h.2]
theorem RelRs.length {K : PySem.W.Frag} {F H : Hp} {σ : St} : ∀ {rs : List Res} {vs : List V} {f : List Addr}, RelRs K F H σ rs vs f → rs.length = vs.length
  | _, _, _, .nil => rfl
  | _, _, _, .cons _ rs => by rw [List.length_cons, List.length_cons, rs.length]
theorem RelRs.app {K : PySem.W.Frag} {F H F' H' : Hp} {σ : St} (sF : Same F F') (sH : Same H H') {rs2 : List Res} {vs2 : List V} {f2 : List Addr} (h2 : RelRs K F' H' σ rs2 vs2 f2) : ∀ {rs : List Res} {vs : List V} {f : List Addr}, RelRs K F H σ rs vs f → RelRs K F' H' σ (rs ++ rs2) (vs ++ vs2) (f ++ f2)
  | _, _, _, .nil => h2
  | _, _, _, .cons r rs => by
    rw [List.append_assoc]
    exact .cons (r.same sF sH) (RelRs.app sF sH h2 rs)
theorem call_core {K : PySem.W.Frag} {k np : Nat} {brw : Bool} {E : XK} {F H F1 H1 : Hp} {fp fm fp1 : List Addr} {s1 s' : Sl} {σ : St} {rs : List Res} {vs : List V} {r : Res} {Q : VK} (g : Good K F H fp F1 H1 s1 σ fm fp1) (rr : RelRs K F1 H1 σ rs vs fm) (e : evCall G brw k s1 rs = some (r, s')) (hl : rs.length = np)
    (kk : ∀ F' H' v fm fp', Good K F H fp F' H' s' σ fm fp' → RelR K F' H' σ r v fm → Q v H') : spD K np (G.cd k) vs H1 Q E := by
  unfold evCall at e
  split at e
  · obtain ⟨ds, e2, e⟩ := bind_inv e
    obtain ⟨m, e3, e⟩ := bind_inv e
    obtain ⟨lf, e⟩ := of_ite e
    cases e
    refine ⟨frz F1 H1 (fm ++ fp1), ds, m.1, m.2, frz_in g.ok.same, toVs_frz g.ok rr (fun _ h => h) e2, by rw [toVs_len e2]; exact hl, e3, fun F' H' v fr L => ?_⟩
    exact kk _ _ v fr fp1 (call_lf g lf L) (call_lf_own g lf L)
  · obtain ⟨ms, s2, e2, e⟩ := bd_inv e
    obtain ⟨m, e3, e⟩ := bind_inv e
    cases e
    obtain ⟨F2, fm2, fp2, g2, ow, sm⟩ := toSs_ok (fd := []) g rr e2
    have g2 : Good K F H fp F2 H1 _ σ fm2 fp2 := g2
    have g3 := g2.frzA
    have rp := ow.frzs g2.ok.same
    refine ⟨_, M.toDs ms, m.1, m.2, g3.ok.same, rp, ?_, e3, fun F' H' v fr L => ?_⟩
    · rw [rp.length, ← ow.length]
      have : ∀ {rs : List Res} {s s2 : Sl} {ms : List M}, toSs s rs = some (ms, s2) → ms.length = rs.length := by
        intro rs
        induction rs with
        | nil => intro s s2 ms e; cases e; rfl
        | cons r rs ih =>
          intro s s2 ms e
          unfold toSs at e
          obtain ⟨m, s3, e1, e⟩ := bd_inv e
          obtain ⟨ms', s4, e2, e⟩ := bd_inv e
          cases e
          rw [List.length_cons, List.length_cons, ih e2]
      rw [this e2]
      exact hl
    · exact kk _ _ v fr fp2 (call_fz g3 L) L.own
theorem callK_imp {K : PySem.W.Frag} {k np a b : Nat} {brw : Bool} {E : XK} {f g : Sl → Option (List Res × Sl)} {n1 n2 : Nat} (hal : G.al k = none) (σ : St) (H : Hp) (Q : VK) (h : tE K (fun s => bd (bd (f s) fun rs s1 => bd (g s1) fun rs2 s2 => some (rs ++ rs2, s2)) fun rs s1 => evCall G brw k s1 rs) σ H Q)
    (hn1 : ∀ rs s s', f s = some (rs, s') → rs.length = n1) (hn2 : ∀ rs s s', g s = some (rs, s') → rs.length = n2) (ha : n1 = a ∧ n1 + n2 = np) (hb : n2 = b) : tCallK (spI K np (G.io k) (G.al k) (G.cd k)) (gK a b) E (tAs K f) (tAs K g) σ H Q := by
  obtain ⟨F, s, fp, r, s', ok, e, kk⟩ := h
  obtain ⟨rs, s2, e0, e3⟩ := bd_inv e
  obtain ⟨rs1, s1, e1, e0⟩ := bd_inv e0
  obtain ⟨rs2, s2', e2, e0⟩ := bd_inv e0
  cases e0
  refine ⟨F, s, fp, rs1, s1, ok, e1, fun F1 H1 vs fm fp1 g1 rr1 => ⟨F1, s1, fp1, rs2, _, g1.ok, e2, fun F2 H2 zs fm2 fp2 g2 rr2 => ?_⟩⟩
  have l1 : vs.length = a := by rw [← rr1.length, hn1 _ _ _ e1, ha.1]
  have l2 : zs.length = b := by rw [← rr2.length, hn2 _ _ _ e2, hb]
  show spI K np (G.io k) (G.al k) (G.cd k) (gK a b vs zs) H2 Q E
  refine spD_I hal ?_
  unfold gK
  rw [if_pos ⟨l1, l2⟩]
  exact call_core (g1.then g2) (RelRs.app g2.mono g2.heap rr2 rr1) e3 (by rw [List.length_append, hn1 _ _ _ e1, hn2 _ _ _ e2, ha.2]) kk
mutual
theorem mE : ∀ (e : E) {X : Cx} {c : CC} {pe : Expr}, CtxOk X c G → chE c e pe = true → PE X pe (tE X.K (ev G e))
  | .var i, X, c, pe, ctx, h => by
    cases pe with
    | Name x pos =>
      simp only [chE, Bool.and_eq_true] at h
      obtain ⟨⟨h1, h2⟩, h3⟩ := h
      have h1 := of_decide_eq_true h1
      rw [← ctx.N] at h1
      have n := nmo_of h3
      exact pe_fun (se_var h1 (vis_of ctx h2) n.1 n.2.1) fun s => by rw [ev]
    | _ => simp [chE] at h
  | .lit d, X, c, pe, ctx, h => by
    cases pe with
    | Constant k j pos =>
      simp only [chE] at h
      have key : ∀ {d : D}, d.flat = true → ∀ σ H Q, tE X.K (ev G (.lit d)) σ H Q → tE X.K (fun s => rM d s) σ H Q := fun {d} hf σ H Q ⟨F, s, fp, r, s', ok, e, k⟩ => by
        unfold ev at e
        rw [if_pos hf] at e
        exact ⟨F, s, fp, r, s', ok, e, k⟩
      cases d with
      | non => cases k <;> first | exact pe_imp se_non (key rfl) | cases h
      | bl b =>
        cases k with
        | bool b' => have : b = b' := by simpa [litOk] using h
                     subst this; exact pe_imp se_bl (key rfl)
        | _ => cases h
      | int i =>
        cases k with
        | int i' => have : i = i' := by simpa [litOk] using h
                    subst this; exact pe_imp se_int (key rfl)
        | _ => cases h
      | str x =>
        cases k with
        | str x' => have : x = x' := by simpa [litOk] using h
                    subst this; exact pe_imp se_str (key rfl)
        | _ => cases h
      | _ => cases k <;> cases h
    | _ => simp [chE] at h
  | .con k, X, c, pe, ctx, h => by
    cases pe with
    | Name x pos =>
      simp only [chE, Bool.and_eq_true] at h
      obtain ⟨⟨h1, h2⟩, h3⟩ := h
      obtain ⟨u, v, hm, r, hr⟩ := ctx.con k x (of_decide_eq_true h1)
      exact pe_fun (se_con (gl_of ctx h2) hm r hr (nmo_of h3).1) fun s => by rw [ev]
    | _ => simp [chE] at h
  | .tup es, X, c, pe, ctx, h => by
    cases pe with
    | Tuple pes k pos =>
      simp only [chE] at h
      exact pe_fun (se_tup (mEs es ctx h)) fun s => by rw [ev]
    | _ => simp [chE] at h
  | .lst es, X, c, pe, ctx, h => by
    cases pe with
    | List pes pos =>
      simp only [chE] at h
      exact pe_fun (se_lst (mEs es ctx h)) fun s => by rw [ev]
    | _ => simp [chE] at h
  | .bin o a b, X, c, pe, ctx, h => by
    cases pe with
    | BinOp pa po pb pos =>
      simp only [chE, Bool.and_eq_true, decide_eq_true_eq] at h
      obtain ⟨⟨rfl, h2⟩, h3⟩ := h
      exact pe_fun (se_bin (mE a ctx h2) (mE b ctx h3)) fun s => by rw [ev]
    | _ => simp [chE] at h
  | .neg a, X, c, pe, ctx, h => by
    cases pe with
    | UnaryOp po pa pos =>
      simp only [chE, Bool.and_eq_true, decide_eq_true_eq] at h
      obtain ⟨rfl, h2⟩ := h
      exact pe_fun (se_neg (mE a ctx h2)) fun s => by rw [ev]
    | _ => simp [chE] at h
  | .cmp o a b, X, c, pe, ctx, h => by
    cases pe with
    | Compare pa pos_ pbs pos =>
      match pos_, pbs, h with
      | [po], [pb], h =>
        simp only [chE, Bool.and_eq_true, decide_eq_true_eq, Bool.not_eq_true'] at h
        obtain ⟨⟨⟨rfl, h2⟩, h3⟩, h4⟩ := h
        exact pe_fun (se_cmp ctx.un (mE a ctx h2) (mE b ctx h3) h4) fun s => by rw [ev]
      | [], _, h => simp [chE] at h
      | _ :: _ :: _, _, h => simp [chE] at h
      | [_], [], h => simp [chE] at h
      | [_], _ :: _ :: _, h => simp [chE] at h
    | _ => simp [chE] at h
  | .chain o p a b d, X, c, pe, ctx, h => by
    cases pe with
    | Compare pa pos_ pbs pos =>
      match pos_, pbs, h with
      | [po, pp], [pb, pd], h =>
        simp only [chE, Bool.and_eq_true, decide_eq_true_eq, Bool.not_eq_true'] at h
        obtain ⟨⟨⟨⟨⟨rfl, rfl⟩, h2⟩, h3⟩, h4⟩, h5⟩ := h
        exact pe_fun (se_chain ctx.un (mE a ctx h2) (mE b ctx h3) (mE d ctx h4) h5) fun s => by rw [ev]
      | [], _, h => simp [chE] at h
      | [_], _, h => simp [chE] at h
      | _ :: _ :: _ :: _, _, h => simp [chE] at h
      | [_, _], [], h => simp [chE] at h
      | [_, _], [_], h => simp [chE] at h
      | [_, _], _ :: _ :: _ :: _, h => simp [chE] at h
    | _ => simp [chE] at h
  | .bool isAnd es, X, c, pe, ctx, h => by
    cases pe with
    | BoolOp po pes pos =>
      simp only [chE, Bool.and_eq_true, decide_eq_true_eq, Bool.not_eq_true'] at h
      obtain ⟨⟨rfl, h2⟩, h3⟩ := h
      exact pe_fun (mEB es ctx h2 (by intro q; rw [q] at h3; cases h3)) fun s => by rw [ev]
    | _ => simp [chE] at h
  | .not_ a, X, c, pe, ctx, h => by
    cases pe with
    | UnaryOp po pa pos =>
      simp only [chE, Bool.and_eq_true, decide_eq_true_eq] at h
      obtain ⟨rfl, h2⟩ := h
      exact pe_fun (se_not (mE a ctx h2)) fun s => by rw [ev]
    | _ => simp [chE] at h
  | .ite t a b, X, c, pe, ctx, h => by
    cases pe with
    | IfExp pt pa pb pos =>
      simp only [chE, Bool.and_eq_true] at h
      exact pe_fun (se_ite (mTst t ctx h.1.1) (mE a ctx h.1.2) (mE b ctx h.2)) fun s => by rw [ev]
    | _ => simp [chE] at h
  | .sub a i, X, c, pe, ctx, h => by
    cases pe with
    | Subscript pa pi pos =>
      simp only [chE, Bool.and_eq_true] at h
      exact pe_fun (se_sub (mE a ctx h.1.2) (mE i ctx h.2) (pl_ix h.1.1)) fun s => by rw [ev]
    | _ => simp [chE] at h
  | .isin t a, X, c, pe, ctx, h => by
    cases pe with
    | Call g pes kws pos =>
      simp only [chE] at h
      cases hn : nmNm g pes with
      | none => rw [hn] at h; cases h
      | some r =>
        obtain ⟨p, p2, rfl, rfl⟩ := nmNm_inv hn
        rw [hn] at h
        obtain ⟨x, pa, y⟩ := r
        simp only [Bool.and_eq_true, decide_eq_true_eq, List.isEmpty_iff] at h
        obtain ⟨⟨⟨⟨rfl, rfl⟩, h3⟩, h4⟩, h5⟩ := h
        cases ht : tyName t with
        | none => rw [ht] at h5; cases h5
        | some q =>
          rw [ht] at h5
          simp only [Bool.and_eq_true, decide_eq_true_eq] at h5
          obtain ⟨rfl, h6⟩ := h5
          have hst : nst pa = true := by
            cases pa <;> first | rfl | (cases a <;> simp [chE, meth1, revOf, starOf, nmSub, nmIn] at h4)
          exact pe_fun (se_isin ht (gl_of ctx h3) (ctx.blt _ (by decide +kernel)) (gl_of ctx h6) (ctx.blt _ (ty_mem ht).1) hst (mE a ctx h4)) fun s => by rw [ev]
    | _ => simp [chE] at h
  | .rev a, X, c, pe, ctx, h => by
    cases pe with
    | Call g pes kws pos =>
      simp only [chE] at h
      cases hn : nmRv g pes with
      | none => rw [hn] at h; cases h
      | some r =>
        obtain ⟨p, q, q2, rfl, rfl⟩ := nmRv_inv hn
        rw [hn] at h
        obtain ⟨x, y, pa⟩ := r
        simp only [Bool.and_eq_true, decide_eq_true_eq, List.isEmpty_iff] at h
        obtain ⟨⟨⟨⟨⟨⟨rfl, rfl⟩, h3⟩, rfl⟩, h5⟩, h6⟩, h7⟩ := h
        exact pe_fun (se_rev ctx.calm (gl_of ctx h3) (ctx.blt _ (by decide +kernel)) (gl_of ctx h5) (ctx.blt _ (by decide +kernel)) h6 (mE a ctx h7)) fun s => by rw [ev]
    | _ => simp [chE] at h
  | .lrange es, X, c, pe, ctx, h => by
    cases pe with
    | Call g pes kws pos =>
      simp only [chE] at h
      cases hn : nmLr g pes with
      | none => rw [hn] at h; cases h
      | some r =>
        obtain ⟨p, q, q2, rfl, rfl⟩ := nmLr_inv hn
        rw [hn] at h
        obtain ⟨x, y, qes⟩ := r
        simp only [Bool.and_eq_true, decide_eq_true_eq, List.isEmpty_iff, Bool.or_eq_true] at h
        obtain ⟨⟨⟨⟨⟨⟨rfl, rfl⟩, h3⟩, rfl⟩, h5⟩, h6⟩, h7⟩ := h
        have b1 := ctx.blt "list" (by decide +kernel)
        have b2 := ctx.blt "range" (by decide +kernel)
        match es, qes, h6, h7 with
        | .cons e1 .nil, [pa], h6, h7 =>
          simp only [chEs, Bool.and_eq_true] at h6
          exact pe_fun (se_lrange1 ctx.calm (gl_of ctx h3) b1 (gl_of ctx h5) b2 h6.1.1 (f := evs G (.cons e1 .nil)) (ev G e1) (fun s => by rw [evs]; congr 1) (mE e1 ctx h6.1.2)) fun s => by rw [ev]
        | .cons e1 (.cons e2 .nil), [pa, pb], h6, h7 =>
          simp only [chEs, Bool.and_eq_true] at h6
          exact pe_fun (se_lrange2 ctx.calm (gl_of ctx h3) b1 (gl_of ctx h5) b2 h6.1.1 h6.2.1.1 (f := evs G (.cons e1 (.cons e2 .nil))) (fa := ev G e1) (fb := ev G e2) (fun s => by
            rw [evs]; congr 1; funext r s1; rw [evs]
            cases ev G e2 s1 with
            | none => rfl
            | some x => obtain ⟨r2, s2⟩ := x; rw [bd_some, bd_some, evs]; rfl) (mE e1 ctx h6.1.2) (mE e2 ctx h6.2.1.2)) fun s => by rw [ev]
        | .nil, [], _, h7 => simp at h7
        | .nil, _ :: _, h6, _ => simp [chEs] at h6
        | .cons _ _, [], h6, _ => simp [chEs] at h6
        | .cons _ .nil, _ :: _ :: _, h6, _ => simp [chEs] at h6
        | .cons _ (.cons _ _), [_], h6, _ => simp [chEs] at h6
        | .cons _ (.cons _ .nil), _ :: _ :: _ :: _, h6, _ => simp [chEs] at h6
        | .cons _ (.cons _ (.cons _ _)), [_, _], h6, _ => simp [chEs] at h6
        | .cons _ (.cons _ (.cons _ _)), _ :: _ :: _ :: _, _, h7 => simp at h7
    | _ => simp [chE] at h
  | .index a e, X, c, pe, ctx, h => by
    simp only [chE] at h
    cases hm : meth1 pe with
    | none => rw [hm] at h; cases h
    | some r =>
      rw [hm] at h
      obtain ⟨apos, cpos, rfl, ln, nc⟩ := meth1_inv hm
      obtain ⟨pa, n, px⟩ := r
      simp only [Bool.and_eq_true, decide_eq_true_eq] at h
      obtain ⟨⟨⟨rfl, h2⟩, h3⟩, h4⟩ := h
      exact pe_fun (se_index ctx.un (mE a ctx h2) (mE e ctx h4) h3 (ab_nc1 nc _ _ _) ln) fun s => by rw [ev]
  | .revs a, X, c, pe, ctx, h => by
    simp only [chE] at h
    cases hm : revOf pe with
    | none => rw [hm] at h; cases h
    | some pa =>
      rw [hm] at h
      obtain ⟨k, p1, p2, p3, pos, rfl⟩ := revOf_inv hm
      exact pe_fun (se_revs (mE a ctx h)) fun s => by rw [ev]
  | .slc bl bh a lo hi, X, c, pe, ctx, h => by
    cases pe with
    | Subscript pa ps pos =>
      cases ps with
      | Slice plo phi pst p2 =>
        cases pst with
        | some _ => simp [chE] at h
        | none =>
          simp only [chE, Bool.and_eq_true] at h
          obtain ⟨⟨h1, h2⟩, h3⟩ := h
          have part : ∀ {b : Bool} {e : E} {po : Option Expr}, PO X po (tOs X.K b (ev G e)) → PO X po (tOs X.K b (ev G e)) := fun h => h
          have hlo : PO X plo (tOs X.K bl (ev G lo)) := by
            cases bl with
            | false =>
              cases plo with
              | some _ => cases h2
              | none =>
                have : lo = .lit .non := by
                  cases lo with
                  | lit d => cases d <;> first | rfl | cases h2
                  | _ => cases h2
                subst this
                exact po_imp so_none fun σ H Q ⟨F, s, fp, r, s', o, ok, e, e2, k⟩ => ⟨F, s, fp, r, s', o, ok, by unfold ev at e; exact e, e2, k⟩
            | true =>
              cases plo with
              | none => cases h2
              | some pl => exact so_some (mE lo ctx h2)
          have hhi : PO X phi (tOs X.K bh (ev G hi)) := by
            cases bh with
            | false =>
              cases phi with
              | some _ => cases h3
              | none =>
                have : hi = .lit .non := by
                  cases hi with
                  | lit d => cases d <;> first | rfl | cases h3
                  | _ => cases h3
                subst this
                exact po_imp so_none fun σ H Q ⟨F, s, fp, r, s', o, ok, e, e2, k⟩ => ⟨F, s, fp, r, s', o, ok, by unfold ev at e; exact e, e2, k⟩
            | true =>
              cases phi with
              | none => cases h3
              | some pl => exact so_some (mE hi ctx h3)
          exact pe_fun (se_slc (mE a ctx h1) hlo hhi) fun s => by rw [ev]
      | _ => simp [chE] at h
    | _ => simp [chE] at h
  | .call brw k es, X, c, pe, ctx, h => by
    cases pe with
    | Call g pes kws pos =>
      cases g with
      | Name x p =>
        simp only [chE, Bool.and_eq_true, decide_eq_true_eq] at h
        obtain ⟨⟨⟨⟨⟨⟨h2, hal⟩, hka⟩, hke⟩, h3⟩, h4⟩, h5⟩ := h
        rw [← ctx.al] at hal
        obtain ⟨n, f, fd, ps, FO, room, hm, kp, bnd⟩ := ctx.defs k _ h2
        have st := chEs_nst h5
        cases kws with
        | nil =>
          rw [List.map_nil, List.append_nil] at h5 st
          have bnd : Binds X.K fd ps [] := by
            unfold BindK at bnd
            rw [if_pos (show kwNs [] = [] from rfl)] at bnd
            exact bnd
          cases pes with
          | nil =>
            have e0 : es.len = 0 := by rw [← st.2]; rfl
            have := pe_call0 (p := p) (pos := pos) FO room (gl_of ctx h3) hm kp bnd .nil pass0 (nmo_of h4).1
            refine pe_imp this fun σ H Q q => ?_
            have q2 := call_imp (E := fun _ _ _ => False) hal (np := es.len) (k := k) (brw := brw) (f := evs G es) σ H Q (by rw [ev_call] at q; exact q) fun rs s s' e => evs_len es e
            obtain ⟨F, s, fp, rs, s', ok, e, kk⟩ := q2
            have hl := evs_len es e
            rw [e0] at hl
            have : rs = [] := List.length_eq_zero_iff.mp hl
            subst this
            have es0 : es = .nil := by cases es <;> first | rfl | cases e0
            subst es0
            unfold evs at e
            cases e
            exact kk F H [] [] fp ok.good .nil
          | cons pe1 pes =>
            rw [List.all_cons, Bool.and_eq_true] at st
            refine pe_imp (pe_call FO room (gl_of ctx h3) hm kp bnd .nil pass0 (mEs es ctx h5) (nmo_of h4).1 (star_cons st.1.1) (star_any st.1.2)) fun σ H Q q => ?_
            exact call_imp hal σ H Q (by rw [ev_call] at q; exact q) fun rs s s' e => evs_len es e
        | cons kw kws =>
          cases pes with
          | nil => simp at hke
          | cons pe1 pes =>
            obtain ⟨es1, es2, pa, pk, hev, n1, n2⟩ := mPK es ctx h5
            have hst : ((pe1 :: pes).all nst) = true := by
              have := st.1
              rw [List.all_append, Bool.and_eq_true] at this
              exact this.1
            have hkn : kwNs (kw :: kws) ≠ [] := by
              unfold kwNs
              unfold kwAll at hka
              rw [List.all_cons, Bool.and_eq_true] at hka
              obtain ⟨a, ha⟩ := Option.isSome_iff_exists.mp hka.1
              rw [List.filterMap_cons, ha]
              simp
            have bnd : KBinds X.K fd ps (kwNs (kw :: kws)) (gK (es.len - (kwNs (kw :: kws)).length) (kwNs (kw :: kws)).length) (gK (es.len - (kwNs (kw :: kws)).length) (kwNs (kw :: kws)).length) := by
              unfold BindK at bnd
              rw [if_neg (show ¬ (x, es.len, kwNs (kw :: kws)).2.2 = [] from hkn)] at bnd
              exact bnd
            rw [List.all_cons, Bool.and_eq_true] at hst
            have hlk : (kwNs (kw :: kws)).length = (kw :: kws).length := kwNs_len hka
            refine pe_imp (pe_callK FO room (gl_of ctx h3) hm kp bnd pass0 pa pk (kw_all hka) kw_names (nmo_of h4).1 (star_cons hst.1) (by rw [kw_none hka, Bool.or_false]; exact star_any (by rw [List.all_cons, hst.1, hst.2]; rfl))) fun σ H Q q => ?_
            have he : es.len = es1.len + es2.len := by rw [← st.2, List.length_append, List.length_map, n1, n2]
            refine callK_imp hal σ H Q (by rw [ev_call, show (fun s => bd (evs G es s) fun rs s1 => evCall G brw k s1 rs) = fun s => bd (bd (evs G es1 s) fun rs s1 => bd (evs G es2 s1) fun rs2 s2 => some (rs ++ rs2, s2)) fun rs s1 => evCall G brw k s1 rs from funext fun s => by rw [hev s]] at q; exact q) (fun rs s s' e => evs_len es1 e) (fun rs s s' e => evs_len es2 e) ?_ ?_
            · exact ⟨by rw [hlk, ← n2]; omega, he.symm⟩
            · rw [hlk]; exact n2
      | _ => simp [chE] at h
    | _ => simp [chE] at h
  | .bi f es, X, c, pe, ctx, h => by
    cases pe with
    | Call g pes kws pos =>
      cases g with
      | Name x p =>
        simp only [chE, Bool.and_eq_true, decide_eq_true_eq, List.isEmpty_iff, Bool.not_eq_true'] at h
        obtain ⟨⟨⟨⟨rfl, rfl⟩, h3⟩, h4⟩, h5⟩ := h
        cases pes with
        | nil => cases h5
        | cons pe1 pes =>
          exact pe_fun (se_bi ctx.calm (gl_of ctx h3) (ctx.blt _ (bi_mem f)) (chEs_nst h4).1 (mEs es ctx h4)) fun s => by rw [ev]
      | _ => simp [chE] at h
    | _ => simp [chE] at h
  | .tupS a b, X, c, pe, ctx, h => by
    simp only [chE] at h
    cases hn : starOf pe with
    | none => rw [hn] at h; cases h
    | some r =>
      obtain ⟨p, k, pos, rfl⟩ := starOf_inv hn
      rw [hn] at h
      obtain ⟨pa, pb⟩ := r
      simp only [Bool.and_eq_true] at h
      exact pe_fun (se_tupS (mE a ctx h.1.2) (mE b ctx h.2) (star_cons h.1.1)) fun s => by rw [ev]
  | .cget k a, X, c, pe, ctx, h => by
    simp only [chE] at h
    cases hn : nmSub pe with
    | none => rw [hn] at h; cases h
    | some r =>
      obtain ⟨p, pos, rfl⟩ := nmSub_inv hn
      rw [hn] at h
      obtain ⟨x, pa⟩ := r
      simp only [Bool.and_eq_true, decide_eq_true_eq] at h
      exact pe_fun (se_cget (ctx.dcs k x h.1.1.1.1) (gl_of ctx h.1.1.1.2) (nmo_of h.1.1.2).1 (mE a ctx h.2) (pl_ix h.1.2)) fun s => by rw [ev]
  | .cin neg k a, X, c, pe, ctx, h => by
    simp only [chE] at h
    cases hn : nmIn pe with
    | none => rw [hn] at h; cases h
    | some r =>
      obtain ⟨p, pos, rfl⟩ := nmIn_inv hn
      rw [hn] at h
      obtain ⟨pa, o, x⟩ := r
      simp only [Bool.and_eq_true, decide_eq_true_eq] at h
      obtain ⟨⟨⟨⟨rfl, h1⟩, h2⟩, h3⟩, h4⟩ := h
      exact pe_fun (se_cin (ctx.dcs k x h1) (gl_of ctx h2) (nmo_of h3).1 (mE a ctx h4)) fun s => by rw [ev]
  | .comp e own t it, X, c, pe, ctx, h => by
    cases pe with
    | ListComp pe gs scope pos =>
      match gs, h with
      | [⟨tg, iter, [], asy⟩], h =>
        simp only [chE, Bool.and_eq_true, decide_eq_true_eq] at h
        obtain ⟨⟨⟨rfl, h2⟩, h3⟩, h4⟩ := h
        refine pe_fun (se_comp ctx h2 (mIt it ctx h3) (fun X' hK ctx' => by rw [← hK]; exact pts_yes) (fun X' hK ctx' => by rw [← hK]; exact mE e ctx' h4)) fun s => by rw [ev]
      | [], h => simp [chE] at h
      | _ :: _ :: _, h => simp [chE] at h
      | [⟨_, _, _ :: _, _⟩], h => simp [chE] at h
    | _ => simp [chE] at h
  | .compIf e own t it d, X, c, pe, ctx, h => by
    cases pe with
    | ListComp pe gs scope pos =>
      match gs, h with
      | [⟨tg, iter, [pd], asy⟩], h =>
        simp only [chE, Bool.and_eq_true, decide_eq_true_eq] at h
        obtain ⟨⟨⟨⟨rfl, h2⟩, h3⟩, h4⟩, h5⟩ := h
        refine pe_fun (se_comp ctx h2 (mIt it ctx h3) (fun X' hK ctx' => by rw [← hK]; exact pts_one (mTst d ctx' h5)) (fun X' hK ctx' => by rw [← hK]; exact mE e ctx' h4)) fun s => by rw [ev]
      | [], h => simp [chE] at h
      | _ :: _ :: _, h => simp [chE] at h
      | [⟨_, _, [], _⟩], h => simp [chE] at h
      | [⟨_, _, _ :: _ :: _, _⟩], h => simp [chE] at h
    | _ => simp [chE] at h
  | .cio k es, X, c, pe, ctx, h => by cases pe <;> simp [chE] at h
theorem mEs : ∀ (es : Es) {X : Cx} {c : CC} {pes : List Expr}, CtxOk X c G → chEs c es pes = true → PA X pes (tAs X.K (evs G es))
  | .nil, X, c, pes, ctx, h => by
    cases pes with
    | nil => exact pa_fun sa_nil fun s => by rw [evs]
    | cons _ _ => simp [chEs] at h
  | .cons e es, X, c, pes, ctx, h => by
    cases pes with
    | nil => simp [chEs] at h
    | cons pe pes =>
      simp only [chEs, Bool.and_eq_true] at h
      exact pa_fun (sa_cons (mE e ctx h.1.2) (mEs es ctx h.2) (star_cons h.1.1)) fun s => by rw [evs]
theorem mPK : ∀ (es : Es) {X : Cx} {c : CC} {pes : List Expr} {kws : List Keyword}, CtxOk X c G → chEs c es (pes ++ kws.map Keyword.value) = true →
    ∃ es1 es2, PA X pes (tAs X.K (evs G es1)) ∧ PK X kws (tAs X.K (evs G es2)) ∧ (∀ s, evs G es s = bd (evs G es1 s) fun rs s1 => bd (evs G es2 s1) fun rs2 s2 => some (rs ++ rs2, s2)) ∧ es1.len = pes.length ∧ es2.len = kws.length
  | .nil, X, c, pes, kws, ctx, h => by
    cases pes with
    | cons _ _ => simp [chEs] at h
    | nil =>
      cases kws with
      | cons _ _ => simp [chEs] at h
      | nil => exact ⟨.nil, .nil, pa_fun sa_nil fun s => by rw [evs], sk_nil fun s => by rw [evs], fun s => by rw [evs]; rfl, rfl, rfl⟩
  | .cons e es, X, c, pes, kws, ctx, h => by
    cases pes with
    | nil =>
      cases kws with
      | nil => simp [chEs] at h
      | cons kw kws =>
        obtain ⟨nm, v, kp⟩ := kw
        have h : (nst v && chE c e v && chEs c es ([] ++ kws.map Keyword.value)) = true := h
        rw [Bool.and_eq_true, Bool.and_eq_true] at h
        obtain ⟨es1, es2, pa, pk, hev, n1, n2⟩ := mPK es ctx h.2
        have e1 : es1 = .nil := by cases es1 <;> first | rfl | cases n1
        subst e1
        refine ⟨.nil, .cons e es2, pa_fun sa_nil fun s => by rw [evs], sk_cons (mE e ctx h.1.2) pk fun s => by rw [evs], fun s => ?_, rfl, by show es2.len + 1 = _; rw [n2]; rfl⟩
        have hev2 : ∀ s, evs G es s = evs G es2 s := fun s => by
          rw [hev s]
          show bd (evs G .nil s) _ = _
          rw [evs]
          show bd (evs G es2 s) (fun rs2 s2 => some ([] ++ rs2, s2)) = _
          cases evs G es2 s with
          | none => rfl
          | some x => rfl
        show evs G (.cons e es) s = bd (evs G .nil s) _
        rw [evs, evs]
        show _ = bd (evs G (.cons e es2) s) (fun rs2 s2 => some ([] ++ rs2, s2))
        rw [evs]
        cases ev G e s with
        | none => rfl
        | some x =>
          show bd (evs G es x.2) _ = bd (bd (evs G es2 x.2) _) _
          rw [hev2]
          cases evs G es2 x.2 <;> rfl
    | cons pe pes =>
      have h : (nst pe && chE c e pe && chEs c es (pes ++ kws.map Keyword.value)) = true := h
      rw [Bool.and_eq_true, Bool.and_eq_true] at h
      obtain ⟨es1, es2, pa, pk, hev, n1, n2⟩ := mPK es ctx h.2
      refine ⟨.cons e es1, es2, pa_fun (sa_cons (mE e ctx h.1.2) pa (star_cons h.1.1)) fun s => by rw [evs], pk, fun s => ?_, by show es1.len + 1 = _; rw [n1]; rfl, n2⟩
      rw [evs, evs]
      cases ev G e s with
      | none => rfl
      | some x =>
        show bd (evs G es x.2) _ = bd (bd (evs G es1 x.2) _) _
        rw [hev]
        cases evs G es1 x.2 with
        | none => rfl
        | some y =>
          show bd (bd (evs G es2 y.2) _) _ = bd (evs G es2 y.2) _
          cases evs G es2 y.2 <;> rfl
theorem mEB : ∀ (es : Es) {X : Cx} {c : CC} {pes : List Expr} {isAnd : Bool} {pos : Pos}, CtxOk X c G → chEs c es pes = true → pes ≠ [] → PE X (.BoolOp (bopB isAnd) pes pos) (tBv X.K (evB G isAnd es))
  | .nil, X, c, pes, isAnd, pos, ctx, h, hn => by
    cases pes with
    | nil => exact absurd rfl hn
    | cons _ _ => simp [chEs] at h
  | .cons e .nil, X, c, pes, isAnd, pos, ctx, h, hn => by
    cases pes with
    | nil => exact absurd rfl hn
    | cons pe pes =>
      simp only [chEs, Bool.and_eq_true] at h
      cases pes with
      | cons _ _ => simp [chEs] at h
      | nil => exact pb_fun (se_bool1 (mE e ctx h.1.2)) fun s => by rw [evB]
  | .cons e (.cons e2 es), X, c, pes, isAnd, pos, ctx, h, hn => by
    cases pes with
    | nil => exact absurd rfl hn
    | cons pe pes =>
      have h0 := h
      unfold chEs at h
      rw [Bool.and_eq_true, Bool.and_eq_true] at h
      cases pes with
      | nil => have := h.2; simp [chEs] at this
      | cons pe2 pes => exact pb_fun (se_bool (mE e ctx h.1.2) (mEB (.cons e2 es) ctx h.2 (by simp))) fun s => by rw [evB]
theorem mTst : ∀ (t : Tst) {X : Cx} {c : CC} {pe : Expr}, CtxOk X c G → chTst c t pe = true → PT X pe (tTs X.K (evT G t))
  | .v e, X, c, pe, ctx, h => by
    simp only [chTst, Bool.and_eq_true] at h
    exact pt_fun (st_v (mE e ctx h.2) (pl_t h.1 _)) fun s => by rw [evT]
  | .cmp o a b, X, c, pe, ctx, h => by
    cases pe with
    | Compare pa pos_ pbs pos =>
      match pos_, pbs, h with
      | [po], [pb], h =>
        simp only [chTst, Bool.and_eq_true, decide_eq_true_eq, Bool.not_eq_true'] at h
        obtain ⟨⟨⟨rfl, h2⟩, h3⟩, h4⟩ := h
        exact pt_fun (st_cmp ctx.un (mE a ctx h2) (mE b ctx h3) h4) fun s => by rw [evT]
      | [], _, h => simp [chTst] at h
      | _ :: _ :: _, _, h => simp [chTst] at h
      | [_], [], h => simp [chTst] at h
      | [_], _ :: _ :: _, h => simp [chTst] at h
    | _ => simp [chTst] at h
  | .chain o p a b d, X, c, pe, ctx, h => by
    cases pe with
    | Compare pa pos_ pbs pos =>
      match pos_, pbs, h with
      | [po, pp], [pb, pd], h =>
        simp only [chTst, Bool.and_eq_true, decide_eq_true_eq, Bool.not_eq_true'] at h
        obtain ⟨⟨⟨⟨⟨rfl, rfl⟩, h2⟩, h3⟩, h4⟩, h5⟩ := h
        exact pt_fun (st_chain ctx.un (mE a ctx h2) (mE b ctx h3) (mE d ctx h4) h5) fun s => by rw [evT]
      | [], _, h => simp [chTst] at h
      | [_], _, h => simp [chTst] at h
      | _ :: _ :: _ :: _, _, h => simp [chTst] at h
      | [_, _], [], h => simp [chTst] at h
      | [_, _], [_], h => simp [chTst] at h
      | [_, _], _ :: _ :: _ :: _, h => simp [chTst] at h
    | _ => simp [chTst] at h
  | .not_ t, X, c, pe, ctx, h => by
    cases pe with
    | UnaryOp po pa pos =>
      simp only [chTst, Bool.and_eq_true, decide_eq_true_eq] at h
      obtain ⟨rfl, h2⟩ := h
      exact pt_fun (st_not (mTst t ctx h2)) fun s => by rw [evT]
    | _ => simp [chTst] at h
  | .bool isAnd ts, X, c, pe, ctx, h => by
    cases pe with
    | BoolOp po pes pos =>
      simp only [chTst, Bool.and_eq_true, decide_eq_true_eq, Bool.not_eq_true'] at h
      obtain ⟨⟨rfl, h2⟩, h3⟩ := h
      exact pt_fun (mTs ts ctx h2 (by intro q; rw [q] at h3; cases h3)).pt fun s => by rw [evT]
    | _ => simp [chTst] at h
  | .cin neg k a, X, c, pe, ctx, h => by
    simp only [chTst] at h
    cases hn : nmIn pe with
    | none => rw [hn] at h; cases h
    | some r =>
      obtain ⟨p, pos, rfl⟩ := nmIn_inv hn
      rw [hn] at h
      obtain ⟨pa, o, x⟩ := r
      simp only [Bool.and_eq_true, decide_eq_true_eq] at h
      obtain ⟨⟨⟨⟨rfl, h1⟩, h2⟩, h3⟩, h4⟩ := h
      exact pt_fun (st_cin (ctx.dcs k x h1) (gl_of ctx h2) (nmo_of h3).1 (mE a ctx h4)) fun s => by rw [evT]
theorem mTs : ∀ (ts : Ts) {X : Cx} {c : CC} {pes : List Expr} {isAnd : Bool} {pos : Pos}, CtxOk X c G → chTs c ts pes = true → pes ≠ [] → PW X (.BoolOp (bopB isAnd) pes pos) (tTs X.K (evBT G isAnd ts))
  | .nil, X, c, pes, isAnd, pos, ctx, h, hn => by
    cases pes with
    | nil => exact absurd rfl hn
    | cons _ _ => simp [chTs] at h
  | .cons t .nil, X, c, pes, isAnd, pos, ctx, h, hn => by
    cases pes with
    | nil => exact absurd rfl hn
    | cons pe pes =>
      simp only [chTs, Bool.and_eq_true] at h
      cases pes with
      | cons _ _ => simp [chTs] at h
      | nil => exact pw_fun (st_bool1 (mTst t ctx h.1)) fun s => by rw [evBT]
  | .cons t (.cons t2 ts), X, c, pes, isAnd, pos, ctx, h, hn => by
    cases pes with
    | nil => exact absurd rfl hn
    | cons pe pes =>
      unfold chTs at h
      rw [Bool.and_eq_true] at h
      cases pes with
      | nil => have := h.2; simp [chTs] at this
      | cons pe2 pes => exact pw_fun (st_bool (mTst t ctx h.1) (mTs (.cons t2 ts) ctx h.2 (by simp))) fun s => by rw [evBT]
theorem mIt : ∀ (it : It) {X : Cx} {c : CC} {tg iter : Expr}, CtxOk X c G → chIt c it tg iter = true → PI X tg iter (tIt X.K (evIt G it))
  | .seq e, X, c, tg, iter, ctx, h => by
    simp only [chIt] at h
    have := si_seq (tg := tg) (mE e ctx h)
    exact pi_fun this fun s => by rw [evIt]
  | .range es, X, c, tg, iter, ctx, h => by
    cases iter with
    | Call g pes kws pos =>
      cases g with
      | Name x p =>
        simp only [chIt, Bool.and_eq_true, decide_eq_true_eq, List.isEmpty_iff, Bool.or_eq_true] at h
        obtain ⟨⟨⟨⟨rfl, rfl⟩, h3⟩, h4⟩, h5⟩ := h
        have st := chEs_nst h4
        have hm := ctx.blt "range" (by decide +kernel)
        match pes, h4, h5, st with
        | [pa], h4, h5, st =>
          simp only [List.all_cons, List.all_nil, Bool.and_eq_true] at st
          have := si_range1 (tg := tg) (pos := pos) (p := p) (gl_of ctx h3) hm st.1.1 (fun s rs s' e => by rw [evs_len es e, ← st.2]; rfl) (mEs es ctx h4)
          exact pi_fun this fun s => by rw [evIt]
        | [pa, pb], h4, h5, st =>
          simp only [List.all_cons, List.all_nil, Bool.and_eq_true] at st
          have := si_range2 (tg := tg) (pos := pos) (p := p) (gl_of ctx h3) hm st.1.1 st.1.2.1 (fun s rs s' e => by rw [evs_len es e, ← st.2]; rfl) (mEs es ctx h4)
          exact pi_fun this fun s => by rw [evIt]
        | [pa, pb, pd], h4, h5, st =>
          simp only [List.all_cons, List.all_nil, Bool.and_eq_true] at st
          have := si_range3 (tg := tg) (pos := pos) (p := p) (gl_of ctx h3) hm st.1.1 st.1.2.1 st.1.2.2.1 (fun s rs s' e => by rw [evs_len es e, ← st.2]; rfl) (mEs es ctx h4)
          exact pi_fun this fun s => by rw [evIt]
        | [], _, h5, _ => simp at h5
        | _ :: _ :: _ :: _ :: _, _, h5, _ => simp at h5
      | _ => simp [chIt] at h
    | _ => simp [chIt] at h
  | .enum e, X, c, tg, iter, ctx, h => by
    cases iter with
    | Call g pes kws pos =>
      simp only [chIt] at h
      cases hn : nmT1 g pes tg with
      | none => rw [hn] at h; cases h
      | some r =>
        obtain ⟨p, elts, k, tp, rfl, rfl, rfl⟩ := nmT1_inv hn
        rw [hn] at h
        obtain ⟨x, pe⟩ := r
        simp only [Bool.and_eq_true, decide_eq_true_eq, List.isEmpty_iff] at h
        obtain ⟨⟨⟨⟨rfl, rfl⟩, h3⟩, h4⟩, h5⟩ := h
        have := si_enum (elts := elts) (kk := k) (tpos := tp) (pos := pos) (p := p) (gl_of ctx h3) (ctx.blt _ (by decide +kernel)) h4 (mE e ctx h5)
        exact pi_fun this fun s => by rw [evIt]
    | _ => simp [chIt] at h
  | .zip a b, X, c, tg, iter, ctx, h => by
    cases iter with
    | Call g pes kws pos =>
      simp only [chIt] at h
      cases hn : nmT2 g pes tg with
      | none => rw [hn] at h; cases h
      | some r =>
        obtain ⟨p, elts, k, tp, rfl, rfl, rfl⟩ := nmT2_inv hn
        rw [hn] at h
        obtain ⟨x, pa, pb⟩ := r
        simp only [Bool.and_eq_true, decide_eq_true_eq, List.isEmpty_iff] at h
        obtain ⟨⟨⟨⟨⟨⟨rfl, rfl⟩, h3⟩, h4⟩, h5⟩, h6⟩, h7⟩ := h
        have := si_zip (elts := elts) (kk := k) (tpos := tp) (pos := pos) (p := p) (gl_of ctx h3) (ctx.blt _ (by decide +kernel)) h4 h5 (mE a ctx h6) (mE b ctx h7)
        exact pi_fun this fun s => by rw [evIt]
    | _ => simp [chIt] at h
end
end VS
end

section
/-! VS: what a statement leaves. -/
namespace VS
open PySem L2
variable {K : PySem.W.Frag}

section
variable {F H F' H' F1 H1 F2 H2 H0 : Hp} {fp fp' fm fm' ft fp1 fp2 fm1 fm2 fh : List Addr} {s s' s1 s2 : Sl} {σ σ1 σ2 : St} {b b' : Nat → Bool}
theorem cut_or {p : Addr} (h : p ∈ fp ∨ H p = none) : p ∈ fp ∨ cutF H fp p = none := by
  by_cases hp : p ∈ fp
  · exact .inl hp
  · refine .inr ?_
    unfold cutF; rw [if_neg hp]
    exact h.resolve_left hp
theorem or_cut {p : Addr} (h : cutF H fp p = none) : p ∈ fp ∨ H p = none := by
  by_cases hp : p ∈ fp
  · exact .inl hp
  · unfold cutF at h; rw [if_neg hp] at h; exact .inr h
theorem cut_some {p : Addr} {o : HO} (h : cutF H fp p = some o) : p ∉ fp ∧ H p = some o := by
  unfold cutF at h
  split at h
  · cases h
  · rename_i hp; exact ⟨hp, h⟩
theorem some_cut {p : Addr} {o : HO} (h : H p = some o) (hp : p ∉ fp) : cutF H fp p = some o := by
  unfold cutF; rw [if_neg hp]; exact h
theorem Good.cut (g : Good K F H fp F' H' s' σ fm fp') : Good K F (cutF H fp) fp F' H' s' σ fm fp' :=
  ⟨g.mono, same_trans cutF_in g.heap, fun p hp => cut_or (g.org p hp), fun p o e => (g.new p o e).imp id cut_or, g.ok, g.nd, g.dis, g.dom⟩
/-- what is frozen is not among what is owned -/
theorem Ok.sameCut (o : Ok K F H s σ fp) : Same F (cutF H fp) := fun p x e => some_cut (o.same p x e) fun hp => by
  rw [o.dis p hp] at e; cases e
/-- one statement's step behind another's -/
theorem cthen (g : Good K F (cutF H fp) fp F1 H1 s1 σ1 fm1 fp1) (g2 : Good K F1 (cutF H1 fp1) fp1 F2 H2 s2 σ2 fm2 fp2) : Good K F (cutF H fp) fp F2 H2 s2 σ2 (fm1 ++ fm2) fp2 := by
  have n1 := List.nodup_append.mp g.nd
  have back : ∀ p, p ∈ fp1 ∨ cutF H1 fp1 p = none → p ∈ fp ∨ cutF H fp p = none := fun p h => by
    have : p ∈ fp1 ∨ H1 p = none := h.elim .inl or_cut
    rcases this with h | h
    · exact g.org p (List.mem_append_right _ h)
    · exact .inr (same_none g.heap h)
  have notF : ∀ p ∈ fm1, ¬ (p ∈ fp1 ∨ cutF H1 fp1 p = none) := fun p hp h => by
    have : p ∈ fp1 ∨ H1 p = none := h.elim .inl or_cut
    rcases this with h | h
    · exact n1.2.2 p hp p h rfl
    · exact g.dom p hp h
  refine ⟨same_trans g.mono g2.mono, fun p o e => ?_, fun p hp => ?_, fun p o e => ?_, g2.ok, ?_, fun p hp => ?_, fun p hp => ?_⟩
  · have h1 := g.heap p o e
    refine g2.heap p o (some_cut h1 fun hp => ?_)
    rcases g.org p (List.mem_append_right _ hp) with h | h
    · exact (cut_some e).1 h
    · rw [e] at h; cases h
  · rw [List.append_assoc] at hp
    rcases List.mem_append.mp hp with hp | hp
    · exact g.org p (List.mem_append_left _ hp)
    · exact back p (g2.org p hp)
  · rcases g2.new p o e with h | h
    · exact g.new p o h
    · exact .inr (back p h)
  · rw [List.append_assoc]
    exact List.nodup_append.mpr ⟨n1.1, g2.nd, fun a ha b hb e => notF a ha (g2.org a (by rw [e]; exact hb))⟩
  · rcases List.mem_append.mp hp with hp | hp
    · refine none_of_ne fun o e => ?_
      rcases g2.new p o e with h | h
      · rw [g.dis p hp] at h; cases h
      · exact notF p hp h
    · exact g2.dis p hp
  · rcases List.mem_append.mp hp with hp | hp
    · cases e : H1 p with
      | none => exact absurd e (g.dom p hp)
      | some o =>
        rw [g2.heap p o (some_cut e fun h => n1.2.2 p hp p h rfl)]
        exact fun e => by cases e
    · exact g2.dom p hp
/-- a statement's step; b: the slots it may touch -/
structure Gs (K : PySem.W.Frag) (b : Nat → Bool) (F H : Hp) (fp : List Addr) (σ : St) (F' H' : Hp) (s' : Sl) (σ' : St) (fm fp' : List Addr) : Prop where
  g : Good K F (cutF H fp) fp F' H' s' σ' fm fp'
  fr : ∀ i, b i = false → σ'[i]? = σ[i]?
theorem Gs.of (g : Good K F H fp F' H' s' σ1 fm fp') (fr : ∀ i, b i = false → σ1[i]? = σ[i]?) : Gs K b F H fp σ F' H' s' σ1 fm fp' := ⟨g.cut, fr⟩
theorem Gs.ofE (g : Good K F H fp F' H' s' σ fm fp') : Gs K b F H fp σ F' H' s' σ fm fp' := ⟨g.cut, fun _ _ => rfl⟩
theorem Gs.start (o : Ok K F H s σ fp) : Gs K b F H fp σ F H s σ [] fp := .ofE o.good
theorem Gs.then (g : Gs K b F H fp σ F1 H1 s1 σ1 fm1 fp1) (g2 : Gs K b F1 H1 fp1 σ1 F2 H2 s2 σ2 fm2 fp2) : Gs K b F H fp σ F2 H2 s2 σ2 (fm1 ++ fm2) fp2 :=
  ⟨cthen g.g g2.g, fun i h => (g2.fr i h).trans (g.fr i h)⟩
theorem Gs.then0 (g : Gs K b F H fp σ F1 H1 s1 σ1 [] fp1) (g2 : Gs K b F1 H1 fp1 σ1 F2 H2 s2 σ2 fm2 fp2) : Gs K b F H fp σ F2 H2 s2 σ2 fm2 fp2 := by
  simpa using g.then g2
theorem Gs.weak (h : ∀ i, b' i = true → b i = true) (g : Gs K b' F H fp σ F1 H1 s1 σ1 fm1 fp1) : Gs K b F H fp σ F1 H1 s1 σ1 fm1 fp1 :=
  ⟨g.g, fun i hi => g.fr i (by
    cases e : b' i with
    | false => rfl
    | true => rw [h i e] at hi; cases hi)⟩
theorem Gs.ok (g : Gs K b F H fp σ F1 H1 s1 σ1 fm1 fp1) : Ok K F1 H1 s1 σ1 fp1 := g.g.ok

/-- a list at a place is changed -/
theorem mut_ok (g : Good K F H fp F' H' s' σ fm fp') {p : Pl} {v : V} {f0 : List Addr} {ms : List M} (hp : getP s' p = some (.lst ms)) (r : RelR K F' H' σ (.pl p) v f0) :
    ∃ a vs fo, v = .ref a ∧ H' a = some (.lst vs) ∧ Owns K F' H' ms vs fo ∧ (∀ q ∈ fo, q ≠ a) ∧ ∀ (ms2 : List M) (vs2 : List V) (fn fd fr : List Addr) (m2 : M → Option M), Owns K F' H' ms2 vs2 fn → (fd ++ fn ++ fr).Perm (fo ++ fm) → m2 (.lst ms) = some (.lst ms2) →
      ∃ s2 fp2, updP s' p m2 = some s2 ∧ Good K F (cutF H fp) fp F' (upd H' a (.lst vs2)) s2 σ fr fp2 := by
  obtain ⟨_, v0, h1, h2⟩ := r
  obtain ⟨f, f1, f2, ow, ef, back⟩ := g.ok.focus hp h1 h2
  cases ow with
  | @lst a _ vs fo ha os =>
    have nd := g.nd
    rw [ef] at nd
    have nda : a ∉ fo ∧ a ∉ fm ∧ a ∉ f1 ∧ a ∉ f2 := by
      have n := List.nodup_append.mp nd
      have n2 := List.nodup_append.mp n.2.1
      have n3 := List.nodup_append.mp n2.1
      have n4 := List.nodup_cons.mp n3.2.1
      refine ⟨n4.1, fun h => ?_, fun h => ?_, fun h => ?_⟩
      · exact n.2.2 a h a (List.mem_append_left _ (List.mem_append_right _ List.mem_cons_self)) rfl
      · exact n3.2.2 a h a List.mem_cons_self rfl
      · exact n2.2.2 a (List.mem_append_right _ List.mem_cons_self) a h rfl
    refine ⟨a, vs, fo, rfl, ha, os, fun q hq e => nda.1 (by rw [← e]; exact hq), fun ms2 vs2 fn fd fr m2 os2 pm hm => ?_⟩
    have sub : ∀ q, q ∈ fn ∨ q ∈ fr → q ∈ fo ++ fm := fun q hq => pm.subset (by
      rcases hq with h | h
      · exact List.mem_append_left _ (List.mem_append_right _ h)
      · exact List.mem_append_right _ h)
    have nea : ∀ q ∈ fo ++ fm, q ≠ a := fun q hq e => by
      subst e
      rcases List.mem_append.mp hq with h | h
      · exact nda.1 h
      · exact nda.2.1 h
    obtain ⟨s2, w1, w2⟩ := back m2 F' (upd H' a (.lst vs2)) (.lst ms2) (a :: fn) (same_refl _) (fun q hq => upd_ne fun e => by
      subst e
      rcases List.mem_append.mp hq with h | h
      · exact nda.2.2.1 h
      · exact nda.2.2.2 h) hm (Own.lst upd_same (os2.mono (same_refl _) fun q hq => upd_ne (nea q (sub q (.inl hq)))))
    have big : (fd ++ (fr ++ (f1 ++ (a :: fn) ++ f2))).Perm (fm ++ fp') := by
      rw [ef]
      refine List.perm_iff_count.mpr fun x => ?_
      have := List.perm_iff_count.mp pm x
      simp only [List.count_append, List.count_cons] at this ⊢
      omega
    have mem : ∀ q, q ∈ fr ++ (f1 ++ (a :: fn) ++ f2) → q ∈ fm ++ fp' := fun q hq => big.subset (List.mem_append_right _ hq)
    have nd2 : (fr ++ (f1 ++ (a :: fn) ++ f2)).Nodup := (List.nodup_append.mp (big.nodup_iff.mpr g.nd)).2.1
    have af : a ∈ fp' := by rw [ef]; exact List.mem_append_left _ (List.mem_append_right _ List.mem_cons_self)
    refine ⟨s2, f1 ++ (a :: fn) ++ f2, w1, g.mono, fun q o e => ?_, fun q hq => cut_or (g.org q (mem q hq)), fun q o e => (g.new q o e).imp id cut_or, ⟨fun q o e => ?_, w2, (List.nodup_append.mp nd2).2.1, fun q hq => g.disA q (mem q (List.mem_append_right _ hq))⟩, nd2, fun q hq => g.disA q (mem q (List.mem_append_left _ hq)), fun q hq => ?_⟩
    · obtain ⟨hq, e⟩ := cut_some e
      have ne : q ≠ a := fun h => by
        subst h
        rcases g.org q (List.mem_append_right _ af) with h | h
        · exact hq h
        · rw [e] at h; cases h
      rw [upd_ne ne]
      exact g.heap q o e
    · have ne : q ≠ a := fun h => by subst h; rw [g.ok.dis q af] at e; cases e
      rw [upd_ne ne]
      exact g.ok.same q o e
    · have ne : q ≠ a := fun h => nea q (sub q (.inr hq)) h
      rw [upd_ne ne]
      exact g.domA q (mem q (List.mem_append_left _ hq))
/-! ### how deep a value stays owned -/
mutual
theorem Own.shal (sm : Same F H) : ∀ {m : M} {v : V} {f : List Addr}, Own K F H m v f → ∃ fl fk, (fl ++ fk).Perm f ∧ ∀ F2, Same (VS.frz F H fl) F2 → Own K F2 H m.shal v fk
  | _, _, _, .fz r => ⟨[], [], .refl _, fun F2 s => by rw [M.shal]; exact .fz (r.mono (same_trans (frz_same sm) s))⟩
  | _, _, _, .tup h r => by
    obtain ⟨fl, fk, p, k⟩ := Owns.shal sm r
    exact ⟨fl, fk, p, fun F2 s => by rw [M.shal]; exact .tup (s _ _ (frz_same sm _ _ h)) (k F2 s)⟩
  | _, _, _, .lst (a := a) (fp := fp) h r => by
    refine ⟨fp, [a], List.perm_append_comm, fun F2 s => ?_⟩
    rw [M.shal]
    exact .lst h (Reps.owns ((r.frz sm).mono s))
theorem Owns.shal (sm : Same F H) : ∀ {ms : List M} {vs : List V} {f : List Addr}, Owns K F H ms vs f → ∃ fl fk, (fl ++ fk).Perm f ∧ ∀ F2, Same (VS.frz F H fl) F2 → Owns K F2 H (M.shals ms) vs fk
  | _, _, _, .nil => ⟨[], [], .refl _, fun F2 s => by rw [M.shals]; exact .nil⟩
  | _, _, _, .cons r rs => by
    obtain ⟨fl, fk, p, k⟩ := Own.shal sm r
    obtain ⟨fl2, fk2, p2, k2⟩ := Owns.shal sm rs
    refine ⟨fl ++ fl2, fk ++ fk2, ?_, fun F2 s => ?_⟩
    · refine List.perm_iff_count.mpr fun x => ?_
      have h1 := List.perm_iff_count.mp p x
      have h2 := List.perm_iff_count.mp p2 x
      simp only [List.count_append] at h1 h2 ⊢
      omega
    · rw [M.shals]
      exact .cons (k F2 (same_trans (frz_mono sm fun p hp => List.mem_append_left _ hp) s)) (k2 F2 (same_trans (frz_mono sm fun p hp => List.mem_append_right _ hp) s))
end
theorem fin_ok (g : Good K F H fp F' H' s' σ (fh ++ fm) fp') {m : M} {v : V} (o : Own K F' H' m v fm) (deep : Bool) :
    ∃ F2 fm2, Good K F H fp F2 H' s' σ (fh ++ fm2) fp' ∧ Own K F2 H' (fin deep m) v fm2 ∧ Same F' F2 := by
  cases deep with
  | true => exact ⟨F', fm, g, o, same_refl _⟩
  | false =>
    obtain ⟨fl, fk, p, k⟩ := o.shal g.ok.same
    have g2 : Good K F H fp F' H' s' σ (fh ++ fl ++ fk) fp' := g.perm (by
      rw [List.append_assoc]
      exact List.Perm.append_left fh p)
    exact ⟨_, fk, g2.frz, k _ (same_refl _), frz_same g.ok.same⟩
theorem finE_ok (g : Good K F H fp F' H' s' σ (fh ++ fm) fp') {m : M} {v : V} (o : Own K F' H' m v fm) (deep : Bool) :
    ∃ F2 fm2, Good K F H fp F2 H' s' σ (fh ++ fm2) fp' ∧ Own K F2 H' (finE deep m) v fm2 ∧ Same F' F2 := by
  cases deep with
  | true => exact ⟨F', fm, g, o, same_refl _⟩
  | false =>
    have g2 : Good K F H fp F' H' s' σ (fh ++ fm ++ []) fp' := by simpa using g
    exact ⟨_, [], g2.frz, .fz (o.frz g.ok.same), frz_same g.ok.same⟩
end
/-- an expression that may change what is owned -/
def tL (K : PySem.W.Frag) (f : Sl → Option (Res × Sl)) : TE := fun σ H Q => ∃ F s fp r s', Ok K F H s σ fp ∧ f s = some (r, s') ∧
  ∀ F' H' v fm fp', Good K F (cutF H fp) fp F' H' s' σ fm fp' → RelR K F' H' σ r v fm → Q v H'
end VS
end

section
/-! VS: statements, each by its rule. -/
namespace VS
open PySem L2
variable {X : Cx} {K : PySem.W.Frag}

def Post (K : PySem.W.Frag) (b : Nat → Bool) (F H : Hp) (fp : List Addr) (σ : St) (D : Ends) : O → Prop
  | .nx s' => ∀ F' H' σ' fp', Gs K b F H fp σ F' H' s' σ' [] fp' → D.nx σ' H'
  | .bk s' => ∀ F' H' σ' fp', Gs K b F H fp σ F' H' s' σ' [] fp' → D.bk σ' H'
  | .ct s' => ∀ F' H' σ' fp', Gs K b F H fp σ F' H' s' σ' [] fp' → D.ct σ' H'
  | .rt j m s' => ∀ F' H' σ' v fm fp', Gs K b F H fp σ F' H' s' σ' fm fp' → Own K F' H' m v fm → (∀ i, j = some i → m.isD = false → σ'[i]? = some (some v)) → D.rt v H'
def tX (K : PySem.W.Frag) (b : Nat → Bool) (f : Sl → Option O) : TS := fun D σ H => ∃ F s fp o, Ok K F H s σ fp ∧ f s = some o ∧ Post K b F H fp σ D o
section
variable {F H F' H' F1 H1 F2 H2 H0 : Hp} {fp fp' fm fm' ft fp1 fp2 fm1 fm2 fh : List Addr} {s s' s1 s2 : Sl} {σ σ1 σ2 : St} {b b' b2 : Nat → Bool}
theorem Post.then {D : Ends} {o : O} (g : Gs K b' F H fp σ F1 H1 s1 σ1 [] fp1) (h : ∀ i, b' i = true → b i = true) (h2 : ∀ i, b2 i = true → b i = true) (P : Post K b F H fp σ D o) : Post K b2 F1 H1 fp1 σ1 D o := by
  cases o with
  | nx s' => exact fun F' H' σ' fp' g2 => P F' H' σ' fp' ((g.weak h).then0 (g2.weak h2))
  | bk s' => exact fun F' H' σ' fp' g2 => P F' H' σ' fp' ((g.weak h).then0 (g2.weak h2))
  | ct s' => exact fun F' H' σ' fp' g2 => P F' H' σ' fp' ((g.weak h).then0 (g2.weak h2))
  | rt j m s' => exact fun F' H' σ' v fm fp' g2 ow lk => P F' H' σ' v fm fp' ((g.weak h).then0 (g2.weak h2)) ow lk
theorem ps_imp {st : Stmt} {t t' : TS} (h : PS X st t) (w : ∀ D σ H, t' D σ H → t D σ H) : PS X st t' := ⟨fun pins s σ H D I q => h.run pins s σ H D I (w D σ H q)⟩
theorem pss_imp {st : List Stmt} {t t' : TS} (h : PSs X st t) (w : ∀ D σ H, t' D σ H → t D σ H) : PSs X st t' := ⟨fun pins s σ H D I q => h.run pins s σ H D I (w D σ H q)⟩
theorem tX_weak {f : Sl → Option O} (h : ∀ i, b2 i = true → b i = true) {D : Ends} (q : tX K b f D σ H) : tX K b2 f D σ H := by
  obtain ⟨F, s, fp, o, ok, e, P⟩ := q
  exact ⟨F, s, fp, o, ok, e, P.then (Gs.start (b := b) ok) (fun _ h => h) h⟩
theorem wipe_get {i : Nat} : ∀ {own : List Nat}, i ∉ own → (wipe σ own)[i]? = σ[i]?
  | [], _ => rfl
  | j :: own, h => by
    simp only [List.mem_cons, not_or] at h
    show ((wipe σ own).set j none)[i]? = _
    rw [List.getElem?_set_ne (Ne.symm h.1)]
    exact wipe_get h.2
theorem fr_of {t : T} (h : ∀ i ∈ t.vars, b i = true) (hw : ∀ own, (∀ i ∈ t.vars, i ∈ own) → wipe σ1 own = wipe σ own) : ∀ i, b i = false → σ1[i]? = σ[i]? := fun i hi => by
  have ni : i ∉ t.vars := fun hm => by rw [h i hm] at hi; cases hi
  rw [← wipe_get (σ := σ1) ni, hw t.vars fun _ h => h, wipe_get ni]

theorem sx_nil : PSs X [] (tX X.K b fun s => some (.nx s)) := pss_imp pss_nil fun D σ H ⟨F, s, fp, o, ok, e, P⟩ => by
  cases e
  exact P F H σ fp (.start ok)
theorem sx_cons {st : Stmt} {rest : List Stmt} {f g : Sl → Option O} {b1 : Nat → Bool} (h1 : PS X st (tX X.K b1 f)) (h2 : PSs X rest (tX X.K b2 g)) (k1 : ∀ i, b1 i = true → b i = true) (k2 : ∀ i, b2 i = true → b i = true) :
    PSs X (st :: rest) (tX X.K b fun s => (f s).bind (seqO g)) := pss_imp (pss_cons h1 h2) fun D σ H ⟨F, s, fp, o, ok, e, P⟩ => by
  obtain ⟨o1, e1, e⟩ := bind_inv e
  have P1 : Post X.K b1 F H fp σ { D with nx := tX X.K b2 g D } o1 := by
    cases o1 with
    | nx s1 => exact fun F1 H1 σ1 fp1 g1 => ⟨F1, s1, fp1, o, g1.ok, e, P.then g1 k1 k2⟩
    | bk s1 => cases e; exact fun F1 H1 σ1 fp1 g1 => P F1 H1 σ1 fp1 (g1.weak k1)
    | ct s1 => cases e; exact fun F1 H1 σ1 fp1 g1 => P F1 H1 σ1 fp1 (g1.weak k1)
    | rt j m s1 => cases e; exact fun F1 H1 σ1 v fm fp1 g1 ow lk => P F1 H1 σ1 v fm fp1 (g1.weak k1) ow lk
  exact ⟨F, s, fp, o1, ok, e1, P1⟩
theorem sx_pass {pos : Pos} : PS X (.Pass pos) (tX X.K b fun s => some (.nx s)) := ps_imp ps_pass fun D σ H ⟨F, s, fp, o, ok, e, P⟩ => by
  cases e
  exact P F H σ fp (.start ok)
theorem sx_brk {pos : Pos} : PS X (.Break pos) (tX X.K b fun s => some (.bk s)) := ps_imp ps_break fun D σ H ⟨F, s, fp, o, ok, e, P⟩ => by
  cases e
  exact P F H σ fp (.start ok)
theorem sx_cont {pos : Pos} : PS X (.Continue pos) (tX X.K b fun s => some (.ct s)) := ps_imp ps_continue fun D σ H ⟨F, s, fp, o, ok, e, P⟩ => by
  cases e
  exact P F H σ fp (.start ok)
theorem sx_expr {e : Expr} {pos : Pos} {f : Sl → Option (Res × Sl)} (he : PE X e (tE X.K f)) (hs : swapsWith e none pos.line X.env = pure false) : PS X (.Expr e pos) (tX X.K b fun s => bd (f s) fun _ s1 => some (.nx s1)) :=
  ps_imp (ps_expr he hs) fun D σ H ⟨F, s, fp, o, ok, e, P⟩ => by
    obtain ⟨r, s1, e1, e⟩ := bd_inv e
    cases e
    exact ⟨F, s, fp, r, s1, ok, e1, fun F' H' v fm fp' g _ => P F' H' σ fp' (.ofE g.none)⟩
/-- a value into a target -/
theorem asg_imp {t : T} {deep : Bool} {f : Sl → Option (Res × Sl)} (hv : ∀ i ∈ t.vars, b i = true) (D : Ends) (q : tX K b (fun s => bd (f s) fun r s1 => bd (toS s1 r) fun m s2 => (setT s2 t (fin deep m)).map .nx) D σ H) :
    tE K f σ H fun x H1 => gT K t x σ H1 D.nx := by
  obtain ⟨F, s, fp, o, ok, e, P⟩ := q
  obtain ⟨r, s1, e1, e⟩ := bd_inv e
  obtain ⟨m, s2, e2, e⟩ := bd_inv e
  obtain ⟨s3, e3, e⟩ := map_inv e
  cases e
  refine ⟨F, s, fp, r, s1, ok, e1, fun F1 H1 x fm fp1 g r1 => ?_⟩
  obtain ⟨F2, fm2, fp2, g2, ow⟩ := toS_ok g r1 e2
  obtain ⟨F3, fm3, g3, ow3, _⟩ := fin_ok (fh := []) g2 ow deep
  obtain ⟨σ1, fd, fp3, q1, q2, q3, q4⟩ := setT_ok g3.ok.same g3.ok.rep ow3 e3
  have g4 : Good K F H fp F3 H1 s3 σ1 [] fp3 := g3.give q1 q2
  exact q3 _ (P F3 H1 σ1 fp3 (.of g4 (fr_of hv q4)))
theorem sx_asg {tg e : Expr} {pos : Pos} {t : T} {deep : Bool} {f : Sl → Option (Res × Sl)} (he : PE X e (tE X.K f)) (hg : PG X tg (gT X.K t)) (hv : ∀ i ∈ t.vars, b i = true)
    (hs : swapsWithSole [tg] e pos.line X.env = pure false) (hw : swappedStores [tg] e X.env = pure none) (h1 : (assignEach [tg] X.env).map (·.2) = [assign tg X.env]) :
    PS X (.Assign [tg] e pos) (tX X.K b fun s => bd (f s) fun r s1 => bd (toS s1 r) fun m s2 => (setT s2 t (fin deep m)).map .nx) :=
  ps_imp (ps_asg he hg hs hw h1) fun D σ H q => asg_imp hv D q
theorem asgL_imp {t : T} {deep : Bool} {f : Sl → Option (Res × Sl)} (hv : ∀ i ∈ t.vars, b i = true) (D : Ends) (q : tX K b (fun s => bd (f s) fun r s1 => bd (toS s1 r) fun m s2 => (setT s2 t (fin deep m)).map .nx) D σ H) :
    tL K f σ H fun x H1 => gT K t x σ H1 D.nx := by
  obtain ⟨F, s, fp, o, ok, e, P⟩ := q
  obtain ⟨r, s1, e1, e⟩ := bd_inv e
  obtain ⟨m, s2, e2, e⟩ := bd_inv e
  obtain ⟨s3, e3, e⟩ := map_inv e
  cases e
  refine ⟨F, s, fp, r, s1, ok, e1, fun F1 H1 x fm fp1 g r1 => ?_⟩
  obtain ⟨F2, fm2, fp2, g2, ow⟩ := toS_ok g r1 e2
  obtain ⟨F3, fm3, g3, ow3, _⟩ := fin_ok (fh := []) g2 ow deep
  obtain ⟨σ1, fd, fp3, q1, q2, q3, q4⟩ := setT_ok g3.ok.same g3.ok.rep ow3 e3
  have g4 : Good K F (cutF H fp) fp F3 H1 s3 σ1 [] fp3 := g3.give q1 q2
  exact q3 _ (P F3 H1 σ1 fp3 ⟨g4, fr_of hv q4⟩)
theorem sx_asgL {tg e : Expr} {pos : Pos} {t : T} {deep : Bool} {f : Sl → Option (Res × Sl)} (he : PE X e (tL X.K f)) (hg : PG X tg (gT X.K t)) (hv : ∀ i ∈ t.vars, b i = true)
    (hs : swapsWithSole [tg] e pos.line X.env = pure false) (hw : swappedStores [tg] e X.env = pure none) (h1 : (assignEach [tg] X.env).map (·.2) = [assign tg X.env]) :
    PS X (.Assign [tg] e pos) (tX X.K b fun s => bd (f s) fun r s1 => bd (toS s1 r) fun m s2 => (setT s2 t (fin deep m)).map .nx) :=
  ps_imp (ps_asg he hg hs hw h1) fun D σ H q => asgL_imp hv D q
theorem sx_exprL {e : Expr} {pos : Pos} {f : Sl → Option (Res × Sl)} (he : PE X e (tL X.K f)) (hs : swapsWith e none pos.line X.env = pure false) : PS X (.Expr e pos) (tX X.K b fun s => bd (f s) fun _ s1 => some (.nx s1)) :=
  ps_imp (ps_expr he hs) fun D σ H ⟨F, s, fp, o, ok, e, P⟩ => by
    obtain ⟨r, s1, e1, e⟩ := bd_inv e
    cases e
    exact ⟨F, s, fp, r, s1, ok, e1, fun F' H' v fm fp' g _ => P F' H' σ fp' ⟨g.none, fun _ _ => rfl⟩⟩
theorem upd_inv {g : M → Option M} : ∀ {ks : List D} {m M2 : M}, M.upd g ks m = some M2 → ∃ m' m2, m.sels ks = some m' ∧ g m' = some m2
  | [], m, M2, e => ⟨m, M2, rfl, e⟩
  | k :: ks, m, M2, e => by
    cases m with
    | lst xs =>
      cases k with
      | int i =>
        have e : ((ixN xs.length i).bind fun j => (xs[j]?).bind fun x => (M.upd g ks x).map fun x' => M.lst (xs.set j x')) = some M2 := by
          rw [M.upd] at e; exact e
        obtain ⟨j, e1, e⟩ := bind_inv e
        obtain ⟨x, e2, e⟩ := bind_inv e
        obtain ⟨y, e3, e⟩ := map_inv e
        obtain ⟨m', m2, h1, h2⟩ := upd_inv e3
        refine ⟨m', m2, ?_, h2⟩
        rw [M.sels]
        show (L2.atI xs i).bind _ = _
        rw [atI_of e1 e2]
        exact h1
      | _ => exact absurd (show (none : Option M) = some M2 from e) (by simp)
    | tup xs =>
      cases k with
      | int i =>
        have e : ((ixN xs.length i).bind fun j => (xs[j]?).bind fun x => (M.upd g ks x).map fun x' => M.tup (xs.set j x')) = some M2 := by
          rw [M.upd] at e; exact e
        obtain ⟨j, e1, e⟩ := bind_inv e
        obtain ⟨x, e2, e⟩ := bind_inv e
        obtain ⟨y, e3, e⟩ := map_inv e
        obtain ⟨m', m2, h1, h2⟩ := upd_inv e3
        refine ⟨m', m2, ?_, h2⟩
        rw [M.sels]
        show (L2.atI xs i).bind _ = _
        rw [atI_of e1 e2]
        exact h1
      | _ => exact absurd (show (none : Option M) = some M2 from e) (by simp)
    | _ => exact absurd (show (none : Option M) = some M2 from e) (by simp)
theorem updP_inv {p : Pl} {g : M → Option M} (e : updP s p g = some s') : ∃ m m2, getP s p = some m ∧ g m = some m2 := by
  unfold updP at e
  split at e
  · rename_i m hm
    obtain ⟨M2, e1, _⟩ := map_inv e
    obtain ⟨m', m2, h1, h2⟩ := upd_inv e1
    refine ⟨m', m2, ?_, h2⟩
    unfold getP
    rw [hm]
    exact h1
  · cases e
theorem Owns.set {m : M} {v : V} {fn : List Addr} (o : Own K F H m v fn) : ∀ {ms : List M} {vs : List V} {f : List Addr} {j : Nat}, Owns K F H ms vs f → j < ms.length → ∃ f2 fd, Owns K F H (ms.set j m) (vs.set j v) f2 ∧ (fd ++ f2).Perm (f ++ fn)
  | _, _, _, _, .nil, h => by simp at h
  | _, _, _, 0, .cons (f := f) (g := g) r rs, _ => by
    refine ⟨fn ++ g, f, .cons o rs, ?_⟩
    refine List.perm_iff_count.mpr fun x => ?_
    simp only [List.count_append]; omega
  | _, _, _, j + 1, .cons (f := f) (g := g) r rs, h => by
    obtain ⟨f2, fd, h1, h2⟩ := Owns.set o rs (j := j) (by simpa using h)
    refine ⟨f ++ f2, fd, .cons r h1, ?_⟩
    refine List.perm_iff_count.mpr fun x => ?_
    have := List.perm_iff_count.mp h2 x
    simp only [List.count_append] at this ⊢; omega
theorem Owns.snoc {m : M} {v : V} {fn : List Addr} (o : Own K F H m v fn) : ∀ {ms : List M} {vs : List V} {f : List Addr}, Owns K F H ms vs f → Owns K F H (ms ++ [m]) (vs ++ [v]) (f ++ fn)
  | _, _, _, .nil => by simpa using Owns.cons o .nil
  | _, _, _, .cons r rs => by rw [List.append_assoc]; exact .cons r (rs.snoc o)
theorem Owns.app {ms2 : List M} {vs2 : List V} {fn : List Addr} (o : Owns K F H ms2 vs2 fn) : ∀ {ms : List M} {vs : List V} {f : List Addr}, Owns K F H ms vs f → Owns K F H (ms ++ ms2) (vs ++ vs2) (f ++ fn)
  | _, _, _, .nil => o
  | _, _, _, .cons r rs => by rw [List.append_assoc]; exact .cons r (Owns.app o rs)
theorem Owns.last : ∀ {ms : List M} {vs : List V} {f : List Addr}, Owns K F H ms vs f → ms ≠ [] → ∃ m v f1 f2, ms[ms.length - 1]? = some m ∧ vs[vs.length - 1]? = some v ∧ Own K F H m v f2 ∧ Owns K F H ms.dropLast vs.dropLast f1 ∧ f = f1 ++ f2
  | _, _, _, .nil, h => absurd rfl h
  | _, _, _, .cons (m := m) (v := v) (f := f) r .nil, _ => ⟨m, v, [], f, rfl, rfl, r, .nil, by simp⟩
  | _, _, _, .cons (m := m) (v := v) (f := f) r (.cons (m := m2) (v := v2) (ms := ms) (vs := vs) r2 rs), _ => by
    obtain ⟨m', v', f1, f2, h1, h2, h3, h4, h5⟩ := Owns.last (Owns.cons r2 rs) (by simp)
    exact ⟨m', v', f ++ f1, f2, by simpa using h1, by simpa using h2, h3, .cons r h4, by rw [h5]; simp⟩
theorem put_inv {c v m : M} {k : D} (e : c.put k v = some m) : ∃ xs i j, c = .lst xs ∧ k = .int i ∧ ixN xs.length i = some j ∧ m = .lst (xs.set j v) := by
  unfold M.put at e
  split at e
  · obtain ⟨j, e1, e⟩ := map_inv e
    exact ⟨_, _, j, rfl, rfl, e1, e.symm⟩
  · cases e
theorem pl_inv {r : Res} {p : Pl} (e : pl? r = some p) : r = .pl p := by
  cases r <;> cases e; rfl
theorem ixN_lt {n : Nat} {i : Int} {j : Nat} (h : ixN n i = some j) : j < n := (ixN_seq h).2.1
theorem sx_setI {a i e : Expr} {apos pos : Pos} {deep : Bool} {fa fi f : Sl → Option (Res × Sl)} (he : PE X e (tE X.K f)) (ha : PE X a (tE X.K fa)) (hi : PE X i (tE X.K fi))
    (hs : swapsWithSole [.Subscript a i apos] e pos.line X.env = pure false) (hw : swappedStores [.Subscript a i apos] e X.env = pure none)
    (h1 : ∀ v, assign (.Subscript a i apos) X.env v = (do
      let ov ← holding [v] (eval a X.env)
      let iv ← holding [v, ov] (eval i X.env)
      standAt apos
      holding [v, ov, iv] (setItem ov iv v)
      release [v, ov, iv] [])) :
    PS X (.Assign [.Subscript a i apos] e pos) (tX X.K b fun s => bd (f s) fun r s1 => bd (toS s1 r) fun m s2 => bd (fa s2) fun ra s3 => bd (fi s3) fun ri s4 =>
      (pl? ra).bind fun p => (toV s4 ri).bind fun di => (updP s4 p fun c => c.put di (finE deep m)).map .nx) :=
  ps_imp (ps_asg he (pg_sub ha hi set_list h1) hs hw rfl) fun D σ H ⟨F, s, fp, o, ok, e, P⟩ => by
    obtain ⟨r, s1, e1, e⟩ := bd_inv e
    obtain ⟨m, s2, e2, e⟩ := bd_inv e
    obtain ⟨ra, s3, e3, e⟩ := bd_inv e
    obtain ⟨ri, s4, e4, e⟩ := bd_inv e
    obtain ⟨p, e5, e⟩ := bind_inv e
    obtain ⟨di, e6, e⟩ := bind_inv e
    obtain ⟨s5, e7, e⟩ := map_inv e
    cases e
    have := pl_inv e5
    subst this
    refine ⟨F, s, fp, r, s1, ok, e1, fun F1 H1 x fm fp1 g r1 => ?_⟩
    obtain ⟨F2, fm2, fp2, g2, ow⟩ := toS_ok g r1 e2
    obtain ⟨F3, fm3, g3, ow3, _⟩ := finE_ok (fh := []) g2 ow deep
    rw [List.nil_append] at g3
    refine ⟨F3, s2, fp2, .pl p, s3, g3.ok, e3, fun F4 H4 vo fma fp4 g4 r4 => ?_⟩
    have hfa : fma = [] := r4.1
    subst hfa
    refine ⟨F4, s3, fp4, ri, s4, g4.ok, e4, fun F5 H5 vi fmi fp5 g5 r5 => ?_⟩
    have rdi := toV_ok g5.ok r5 e6
    obtain ⟨c, c2, h2, h3⟩ := updP_inv e7
    obtain ⟨xs, ii, j, rfl, rfl, hj, rfl⟩ := put_inv h3
    have g6 := ((g3.then g4).then g5).drop (fm' := fm3) (by rw [List.append_nil]; exact List.sublist_append_left _ _)
    have ow5 := Own.same (same_trans g4.mono g5.mono) (same_trans g4.heap g5.heap) ow3
    obtain ⟨ad, vs, fo, ev, hl, os, _, mk⟩ := mut_ok g6 h2 (r4.same g5.mono g5.heap)
    have hlen := os.length
    obtain ⟨f2, fd, os2, pm⟩ := os.set ow5 (j := j) (ixN_lt hj)
    obtain ⟨s5', fp6, w1, g7⟩ := mk _ _ f2 fd [] (fun c => c.put (.int ii) (finE deep m)) os2 (by simpa using pm) h3
    rw [e7] at w1
    cases w1
    cases rdi
    exact ⟨ad, vs, ii, j, ev, rfl, hl, by rw [← hlen]; exact hj, P _ _ _ _ ⟨g7, fun _ _ => rfl⟩⟩
theorem gv_inv {i : Nat} {m : M} (e : gv s i = some m) : s[i]? = some (some m) := by
  unfold gv at e
  split at e
  · rename_i h; cases e; exact h
  · cases e
theorem sx_aug {i : Nat} {x : Str} {e : Expr} {o : Bop} {px pos : Pos} {f : Sl → Option (Res × Sl)} (hN : X.N.Nodup) (hi : X.N[i]? = some x) (hx : L2.Loc X.env.scope x) (he : PE X e (tE X.K f)) (hf : X.fn x = true ∨ X.env.scope.names.lookup x = some .local) (hb : b i = true) :
    PS X (.AugAssign (.Name x px) (bopOf o) e pos) (tX X.K b fun s => (gv s i).bind fun m => bd (f s) fun r s1 => (toV s1 r).bind fun d => (augF o m.toD d).bind fun z => some (.nx (s1.set i (some (.fz z))))) :=
  ps_imp (ps_aug hN hi hx he (aug_rule o) hf) fun D σ H ⟨F, s, fp, ot, ok, e, P⟩ => by
    obtain ⟨m, e1, e⟩ := bind_inv e
    obtain ⟨r, s1, e2, e⟩ := bd_inv e
    obtain ⟨d, e3, e⟩ := bind_inv e
    obtain ⟨z, e4, e⟩ := bind_inv e
    cases e
    obtain ⟨v, fv, f1, f2, q1, q2, q3, _⟩ := ok.rep.focus (gv_inv e1)
    refine ⟨v, q1, F, s, fp, r, s1, ok, e2, fun F1 H1 y fm fp1 g r1 => ?_⟩
    have rm := (q2.rep ok.same).mono g.heap
    refine ⟨_, _, z, rm, toV_ok g.ok r1 e3, e4, fun vz rz => ?_⟩
    have hlt : i < s1.length := by
      rw [g.ok.rep.length]
      exact (List.getElem?_eq_some_iff.mp q1).1
    have fz : ∃ n : Int, z = .int n ∧ vz = .int n := by
      unfold augF at e4
      split at e4
      · cases e4; cases rz; exact ⟨_, rfl, rfl⟩
      · cases e4; cases rz; exact ⟨_, rfl, rfl⟩
      · cases e4
    obtain ⟨n, rfl, rfl⟩ := fz
    obtain ⟨fd, fp2, w1, w2⟩ := g.ok.rep.set hlt (Own.fz (F := F1) (H := H1) (.int n))
    have g2 : Good X.K F H fp F1 H1 _ _ [] fp2 := g.none.restate w1 w2
    refine P _ _ _ _ (.of g2 fun k hk => ?_)
    have : i ≠ k := fun e => by subst e; rw [hb] at hk; cases hk
    rw [List.getElem?_set_ne this]
theorem push_inv {c v m : M} (e : M.push v c = some m) : ∃ xs, c = .lst xs ∧ xs.length < sizeLine ∧ m = .lst (xs ++ [v]) := by
  unfold M.push at e
  split at e
  · obtain ⟨h, e⟩ := of_ite e
    exact ⟨_, rfl, h, e.symm⟩
  · cases e
theorem pushAll_inv {c m : M} {vs : List M} (e : M.pushAll vs c = some m) : ∃ xs, c = .lst xs ∧ xs.length + vs.length ≤ sizeLine ∧ m = .lst (xs ++ vs) := by
  unfold M.pushAll at e
  split at e
  · obtain ⟨h, e⟩ := of_ite e
    exact ⟨_, rfl, h, e.symm⟩
  · cases e
theorem drop_inv {c m : M} (e : M.drop c = some m) : ∃ xs, c = .lst xs ∧ xs ≠ [] ∧ m = .lst xs.dropLast := by
  unfold M.drop at e
  split at e
  · rename_i xs
    split at e
    · cases e
    · rename_i h
      cases e
      exact ⟨_, rfl, fun q => h (by rw [q]; rfl), rfl⟩
  · cases e
theorem plL_inv {r : Res} {p : Pl} (e : plL s r = some p) : r = .pl p ∧ ∃ xs, getP s p = some (.lst xs) := by
  cases r with
  | m m => cases e
  | pl q =>
    have e : (match getP s q with
      | some (.lst _) => some q
      | _ => none) = some p := e
    split at e
    · rename_i xs h; cases e; exact ⟨rfl, _, h⟩
    · cases e
theorem sx_app {a e : Expr} {apos cpos pos : Pos} {deep : Bool} {fa f : Sl → Option (Res × Sl)} (ha : PE X a (tE X.K fa)) (he : PE X e (tE X.K f)) (hst : nst e = true) (hbase : attributeBase a "append" X.env (eval a X.env) = eval a X.env) (hline : (apos.endLine == cpos.line) = true) :
    PS X (.Expr (.Call (.Attribute a "append" apos) [e] [] cpos) pos) (tX X.K b fun s => bd (fa s) fun ra s1 => (plL s1 ra).bind fun p => bd (f s1) fun r s2 => bd (toS s2 r) fun m s3 => (updP s3 p (M.push (finE deep m))).map .nx) :=
  ps_imp (ps_expr (pe_bm PySem.F.plainAttrs_list PySem.F.slot_list_append PySem.F.type_list_append mt_append ha (pa_cons he pa_nil (star_cons hst)) hbase (by rw [star_cons hst]; rfl) hline (star_cons hst) rfl) rfl) fun D σ H ⟨F, s, fp, o, ok, e, P⟩ => by
    obtain ⟨ra, s1, e1, e⟩ := bd_inv e
    obtain ⟨p, e4, e⟩ := bind_inv e
    obtain ⟨r, s2, e2, e⟩ := bd_inv e
    obtain ⟨m, s3, e3, e⟩ := bd_inv e
    obtain ⟨s4, e5, e⟩ := map_inv e
    cases e
    obtain ⟨rfl, zs, hzs⟩ := plL_inv e4
    refine ⟨F, s, fp, .pl p, s1, ok, e1, fun F1 H1 vo fma fp1 g1 r1 => ?_⟩
    obtain ⟨ad0, vs0, _, ev0, hl0, _, _, _⟩ := mut_ok g1 hzs r1
    have hfa : fma = [] := r1.1
    subst hfa
    refine ⟨by rw [ev0]; exact .inl ⟨rfl, _, SqL.of hl0⟩, F1, s1, fp1, r, s2, g1.ok, e2, fun F2 H2 x fm fp2 g2 r2 => ?_⟩
    obtain ⟨c, c2, h2, h3⟩ := updP_inv e5
    obtain ⟨xs, rfl, hz, rfl⟩ := push_inv h3
    obtain ⟨F3, fm3, fp3, g3, ow⟩ := toS_ok (g1.then g2) r2 e3
    obtain ⟨F4, fm4, g4, ow4, sm⟩ := finE_ok (fh := []) g3 ow deep
    rw [List.nil_append] at g4
    have rp : RelR X.K F4 H2 σ (.pl p) vo [] := by
      obtain ⟨_, v0, q1, q2⟩ := r1
      exact ⟨rfl, v0, q1, q2.mono g2.heap⟩
    obtain ⟨ad, vs, fo, ev, hl, os, _, mk⟩ := mut_ok g4 h2 rp
    obtain ⟨s5', fp6, w1, g7⟩ := mk _ _ _ [] [] (M.push (finE deep m)) (os.snoc ow4) (by simp) h3
    rw [e5] at w1
    cases w1
    exact ⟨ad, vs, x, ev, rfl, hl, by rw [← os.length]; exact hz, P _ _ _ _ ⟨g7, fun _ _ => rfl⟩⟩
theorem sx_ext {a e : Expr} {apos cpos pos : Pos} {fa f : Sl → Option (Res × Sl)} (ha : PE X a (tE X.K fa)) (he : PE X e (tE X.K f)) (hst : nst e = true) (hbase : attributeBase a "extend" X.env (eval a X.env) = eval a X.env) (hline : (apos.endLine == cpos.line) = true) :
    PS X (.Expr (.Call (.Attribute a "extend" apos) [e] [] cpos) pos) (tX X.K b fun s => bd (fa s) fun ra s1 => (plL s1 ra).bind fun p => bd (f s1) fun r s2 => (toV s2 r).bind fun d => if isLd d then bd (toC s2 r) fun ds s3 => (updP s3 p (M.pushAll (ds.map .fz))).map .nx else none) :=
  ps_imp (ps_expr (pe_bm PySem.F.plainAttrs_list PySem.F.slot_list_extend PySem.F.type_list_extend mt_extend ha (pa_cons he pa_nil (star_cons hst)) hbase (by rw [star_cons hst]; rfl) hline (star_cons hst) rfl) rfl) fun D σ H ⟨F, s, fp, o, ok, e, P⟩ => by
    obtain ⟨ra, s1, e1, e⟩ := bd_inv e
    obtain ⟨p, e4, e⟩ := bind_inv e
    obtain ⟨r, s2, e2, e⟩ := bd_inv e
    obtain ⟨d, e3, e⟩ := bind_inv e
    cases hd : isLd d with
    | false => rw [hd, if_neg Bool.false_ne_true] at e; cases e
    | true =>
    rw [hd, if_pos rfl] at e
    obtain ⟨ds, s3, e6, e⟩ := bd_inv e
    obtain ⟨s4, e5, e⟩ := map_inv e
    cases e
    obtain ⟨rfl, zs, hzs⟩ := plL_inv e4
    refine ⟨F, s, fp, .pl p, s1, ok, e1, fun F1 H1 vo fma fp1 g1 r1 => ?_⟩
    obtain ⟨ad0, vs0, _, ev0, hl0, _, _, _⟩ := mut_ok g1 hzs r1
    have hfa : fma = [] := r1.1
    subst hfa
    refine ⟨by rw [ev0]; exact .inl ⟨rfl, _, SqL.of hl0⟩, F1, s1, fp1, r, s2, g1.ok, e2, fun F2 H2 x fm fp2 g2 r2 => ?_⟩
    obtain ⟨c, c2, h2, h3⟩ := updP_inv e5
    obtain ⟨xs, rfl, hz, rfl⟩ := pushAll_inv h3
    obtain ⟨xd, rfl⟩ := isLd_of hd
    obtain ⟨F3, fp3, ws, bd', g3, eb, hb, rs⟩ := toC_L (g1.then g2) r2 e3 e6
    have rp : RelR X.K F3 H2 σ (.pl p) vo [] := by
      obtain ⟨_, v0, q1, q2⟩ := r1
      exact ⟨rfl, v0, q1, q2.mono g2.heap⟩
    obtain ⟨ad, vs, fo, ev, hl, os, _, mk⟩ := mut_ok g3 h2 rp
    obtain ⟨s5', fp6, w1, g7⟩ := mk _ _ _ [] [] (M.pushAll (ds.map .fz)) (Owns.app (Reps.owns rs) os) (by simp) h3
    rw [e5] at w1
    cases w1
    have l2 := rs.length
    rw [List.length_map] at hz
    exact ⟨ad, bd', vs, ws, ev, by rw [eb], hl, hb, by rw [← os.length, ← l2]; exact hz, P _ _ _ _ ⟨g7, fun _ _ => rfl⟩⟩
theorem sx_pop {a : Expr} {apos cpos pos : Pos} {fa : Sl → Option (Res × Sl)} (ha : PE X a (tE X.K fa)) (hbase : attributeBase a "pop" X.env (eval a X.env) = eval a X.env) (hline : (apos.endLine == cpos.line) = true) :
    PS X (.Expr (.Call (.Attribute a "pop" apos) [] [] cpos) pos) (tX X.K b fun s => bd (fa s) fun ra s1 => (plL s1 ra).bind fun p => (updP s1 p M.drop).map .nx) :=
  ps_imp (ps_expr (pe_bm0 PySem.F.plainAttrs_list PySem.F.slot_list_pop PySem.F.type_list_pop mt_pop ha hbase hline) rfl) fun D σ H ⟨F, s, fp, o, ok, e, P⟩ => by
    obtain ⟨ra, s1, e1, e⟩ := bd_inv e
    obtain ⟨p, e4, e⟩ := bind_inv e
    obtain ⟨s4, e5, e⟩ := map_inv e
    cases e
    obtain ⟨rfl, zs, hzs⟩ := plL_inv e4
    refine ⟨F, s, fp, .pl p, s1, ok, e1, fun F1 H1 vo fma fp1 g1 r1 => ?_⟩
    have hfa : fma = [] := r1.1
    subst hfa
    obtain ⟨c, c2, h2, h3⟩ := updP_inv e5
    obtain ⟨xs, rfl, hz, rfl⟩ := drop_inv h3
    obtain ⟨ad, vs, fo, ev, hl, os, _, mk⟩ := mut_ok g1 h2 r1
    obtain ⟨m, y, f1, f2, l1, l2, o2, os2, ef⟩ := os.last hz
    obtain ⟨s5', fp6, w1, g7⟩ := mk _ _ f1 f2 [] M.drop os2 (by rw [ef]; simpa using List.perm_append_comm) h3
    rw [e5] at w1
    cases w1
    exact ⟨by rw [ev]; exact .inl ⟨rfl, _, SqL.of hl⟩, ad, vs, y, ev, rfl, hl, l2, P _ _ _ _ ⟨g7, fun _ _ => rfl⟩⟩
theorem sx_clr {a : Expr} {apos cpos pos : Pos} {fa : Sl → Option (Res × Sl)} (ha : PE X a (tE X.K fa)) (hbase : attributeBase a "clear" X.env (eval a X.env) = eval a X.env) (hline : (apos.endLine == cpos.line) = true) :
    PS X (.Expr (.Call (.Attribute a "clear" apos) [] [] cpos) pos) (tX X.K b fun s => bd (fa s) fun ra s1 => (plL s1 ra).bind fun p => (updP s1 p M.clr).map .nx) :=
  ps_imp (ps_expr (pe_bm0 PySem.F.plainAttrs_list PySem.F.slot_list_clear PySem.F.type_list_clear mt_clear ha hbase hline) rfl) fun D σ H ⟨F, s, fp, o, ok, e, P⟩ => by
    obtain ⟨ra, s1, e1, e⟩ := bd_inv e
    obtain ⟨p, e4, e⟩ := bind_inv e
    obtain ⟨s4, e5, e⟩ := map_inv e
    cases e
    obtain ⟨rfl, zs, hzs⟩ := plL_inv e4
    refine ⟨F, s, fp, .pl p, s1, ok, e1, fun F1 H1 vo fma fp1 g1 r1 => ?_⟩
    have hfa : fma = [] := r1.1
    subst hfa
    obtain ⟨c, c2, h2, h3⟩ := updP_inv e5
    have hc : ∃ xs, c = .lst xs ∧ c2 = .lst [] := by
      cases c with
      | lst xs => cases h3; exact ⟨xs, rfl, rfl⟩
      | _ => cases h3
    obtain ⟨xs, rfl, rfl⟩ := hc
    obtain ⟨ad, vs, fo, ev, hl, os, _, mk⟩ := mut_ok g1 h2 r1
    obtain ⟨s5', fp6, w1, g7⟩ := mk [] [] [] fo [] M.clr Owns.nil (by simp) h3
    rw [e5] at w1
    cases w1
    exact ⟨by rw [ev]; exact .inl ⟨rfl, _, SqL.of hl⟩, ad, vs, ev, rfl, hl, P _ _ _ _ ⟨g7, fun _ _ => rfl⟩⟩
theorem sx_asgPop {tg a : Expr} {apos cpos pos : Pos} {t : T} {fa : Sl → Option (Res × Sl)} (ha : PE X a (tE X.K fa)) (hg : PG X tg (gT X.K t)) (hv : ∀ i ∈ t.vars, b i = true) (hbase : attributeBase a "pop" X.env (eval a X.env) = eval a X.env) (hline : (apos.endLine == cpos.line) = true)
    (hs : swapsWithSole [tg] (.Call (.Attribute a "pop" apos) [] [] cpos) pos.line X.env = pure false) (hw : swappedStores [tg] (.Call (.Attribute a "pop" apos) [] [] cpos) X.env = pure none) (h1 : (assignEach [tg] X.env).map (·.2) = [assign tg X.env]) :
    PS X (.Assign [tg] (.Call (.Attribute a "pop" apos) [] [] cpos) pos) (tX X.K b fun s => bd (fa s) fun ra s1 => (plL s1 ra).bind fun p => ((getP s1 p).bind M.last).bind fun m => (updP s1 p M.drop).bind fun s2 => (setT s2 t m).map .nx) :=
  ps_imp (ps_asg (pe_bm0 PySem.F.plainAttrs_list PySem.F.slot_list_pop PySem.F.type_list_pop mt_pop ha hbase hline) hg hs hw h1) fun D σ H ⟨F, s, fp, o, ok, e, P⟩ => by
    obtain ⟨ra, s1, e1, e⟩ := bd_inv e
    obtain ⟨p, e4, e⟩ := bind_inv e
    obtain ⟨m, e6, e⟩ := bind_inv e
    obtain ⟨s2, e5, e⟩ := bind_inv e
    obtain ⟨s3, e7, e⟩ := map_inv e
    cases e
    obtain ⟨rfl, zs, hzs⟩ := plL_inv e4
    refine ⟨F, s, fp, .pl p, s1, ok, e1, fun F1 H1 vo fma fp1 g1 r1 => ?_⟩
    have hfa : fma = [] := r1.1
    subst hfa
    obtain ⟨c, c2, h2, h3⟩ := updP_inv e5
    obtain ⟨xs, rfl, hz, rfl⟩ := drop_inv h3
    rw [h2] at e6
    have e6 : xs[xs.length - 1]? = some m := e6
    obtain ⟨ad, vs, fo, ev, hl, os, nea, mk⟩ := mut_ok g1 h2 r1
    obtain ⟨m', y, f1, f2, l1, l2, o2, os2, ef⟩ := os.last hz
    rw [e6] at l1
    cases l1
    obtain ⟨s5', fp6, w1, g7⟩ := mk _ _ f1 [] f2 M.drop os2 (by rw [ef]; simp) h3
    rw [e5] at w1
    cases w1
    have o3 : Own X.K F1 (upd H1 ad (.lst vs.dropLast)) m y f2 := o2.mono (same_refl _) fun q hq => upd_ne (nea q (by rw [ef]; exact List.mem_append_right _ hq))
    obtain ⟨σ1, fd, fp3, q1, q2, q3, q4⟩ := setT_ok g7.ok.same g7.ok.rep o3 e7
    have g8 := Good.give (fm := []) g7 q1 q2
    exact ⟨by rw [ev]; exact .inl ⟨rfl, _, SqL.of hl⟩, ad, vs, y, ev, rfl, hl, l2, q3 _ (P _ _ _ _ ⟨g8, fr_of hv q4⟩)⟩
theorem sx_if {c : Expr} {p q : List Stmt} {pos : Pos} {fc : Sl → Option (Bool × Sl)} {f g : Sl → Option O} {b1 : Nat → Bool} (hc : PT X c (tTs X.K fc)) (ha : PSs X p (tX X.K b1 f)) (hb : PSs X q (tX X.K b2 g)) (k1 : ∀ i, b1 i = true → b i = true) (k2 : ∀ i, b2 i = true → b i = true) :
    PS X (.If c p q pos) (tX X.K b fun s => bd (fc s) fun k s1 => if k then f s1 else g s1) := ps_imp (ps_if hc ha hb) fun D σ H ⟨F, s, fp, o, ok, e, P⟩ => by
  obtain ⟨k, s1, e1, e⟩ := bd_inv e
  refine ⟨F, s, fp, k, s1, ok, e1, fun F1 H1 fp1 g1 => ?_⟩
  have G1 : Gs X.K b F H fp σ F1 H1 s1 σ [] fp1 := .ofE g1
  cases k with
  | true =>
    rw [if_pos rfl] at e
    show (if true = true then _ else _)
    rw [if_pos rfl]
    exact ⟨F1, s1, fp1, o, g1.ok, e, P.then G1 (fun _ h => h) k1⟩
  | false =>
    rw [if_neg Bool.false_ne_true] at e
    show (if false = true then _ else _)
    rw [if_neg Bool.false_ne_true]
    exact ⟨F1, s1, fp1, o, g1.ok, e, P.then G1 (fun _ h => h) k2⟩
theorem sx_while {c : Expr} {body : List Stmt} {pos : Pos} {fc : Sl → Option (Bool × Sl)} {f : Sl → Option O} (hp : PassesOwn (model X.prog X.w) X.A X.env X.xe) (hc : PT X c (tTs X.K fc)) (hb : PSs X body (tX X.K b2 f)) (k2 : ∀ i, b2 i = true → b i = true)
    {W : WL} (hW : ∀ c f s o, W c f s = some o → ∃ n, loopN n c f s = some o) : PS X (.While c body [] pos) (tX X.K b fun s => W fc f s) :=
  ps_imp (ps_while hp hc hb) fun D σ H ⟨F, s, fp, o, ok, e, P⟩ => by
    obtain ⟨n, e⟩ := hW _ _ _ _ e
    refine ⟨fun m σi Hi => ∃ Fi si fpi, Gs X.K b F H fp σ Fi Hi si σi [] fpi ∧ loopN m fc f si = some o, ⟨n, F, s, fp, .start ok, e⟩, ?_⟩
    rintro m σi Hi ⟨Fi, si, fpi, G, e⟩
    cases m with
    | zero => cases e
    | succ m =>
      obtain ⟨k, s1, e1, e⟩ := bd_inv (show (bd (fc si) fun b s1 => if b then (f s1).bind (stepO (loopN m fc f)) else some (.nx s1)) = some o from e)
      refine ⟨Fi, si, fpi, k, s1, G.ok, e1, fun F1 H1 fp1 g1 => ?_⟩
      have G1 : Gs X.K b F H fp σ F1 H1 s1 σi [] fp1 := G.then0 (.ofE g1)
      cases k with
      | false =>
        rw [if_neg Bool.false_ne_true] at e
        show (if false = true then _ else _)
        rw [if_neg Bool.false_ne_true]
        cases e
        exact P _ _ _ _ G1
      | true =>
        rw [if_pos rfl] at e
        show (if true = true then _ else _)
        rw [if_pos rfl]
        obtain ⟨o1, e2, e⟩ := bind_inv e
        refine ⟨fun σ' H' => ∃ Fi si fpi, Gs X.K b F H fp σ Fi H' si σ' [] fpi ∧ loopN m fc f si = some o, fun σ' H' w => ⟨m, Nat.lt_succ_self _, w⟩, F1, s1, fp1, o1, g1.ok, e2, ?_⟩
        cases o1 with
        | nx s2 => exact fun F2 H2 σ2 fp2 g2 => ⟨F2, s2, fp2, G1.then0 (g2.weak k2), e⟩
        | ct s2 => exact fun F2 H2 σ2 fp2 g2 => ⟨F2, s2, fp2, G1.then0 (g2.weak k2), e⟩
        | bk s2 => cases e; exact fun F2 H2 σ2 fp2 g2 => P _ _ _ _ (G1.then0 (g2.weak k2))
        | rt m s2 => cases e; exact fun F2 H2 σ2 v fm fp2 g2 ow => P _ _ _ _ _ _ (G1.then0 (g2.weak k2)) ow
end
end VS
end

section
/-! VS: for, return. -/
namespace VS
open PySem L2
variable {X : Cx} {K : PySem.W.Frag}
def Hid (K : PySem.W.Frag) (F H : Hp) (σ : St) (hid : Nat → Bool) : Option (Nat × M) → List Addr → Prop
  | none, fm => fm = []
  | some p, fm => hid p.1 = true ∧ ∃ v, σ[p.1]? = some (some v) ∧ Own K F H p.2 v fm
def tItL (K : PySem.W.Frag) (hid : Nat → Bool) (f : Sl → Option ((List D × Option (Nat × M)) × Sl)) : TI := fun σ H R => ∃ F s fp x s', Ok K F H s σ fp ∧ f s = some (x, s') ∧
  ∀ F' H' J fm fp', Good K F H fp F' H' s' σ fm fp' → Hid K F' H' σ hid x.2 fm → Walks K J F' (cutF H' fp') x.1 → R J H'
def tR (K : PySem.W.Frag) (f : Sl → Option (M × Sl)) : TE := fun σ H Q => ∃ F s fp m s', Ok K F H s σ fp ∧ f s = some (m, s') ∧
  ∀ F' H' v fm fp', Good K F H fp F' H' s' σ fm fp' → Own K F' H' m v fm → Q v H'
def tRG (K : PySem.W.Frag) (j : Option Nat) (f : Sl → Option (M × Sl)) : TE := fun σ H Q => ∃ F s fp m s', Ok K F H s σ fp ∧ f s = some (m, s') ∧
  ∀ F' H' v fm fp', Good K F (cutF H fp) fp F' H' s' σ fm fp' → Own K F' H' m v fm → (∀ i, j = some i → m.isD = false → σ[i]? = some (some v)) → Q v H'
def tRs (K : PySem.W.Frag) (f : Sl → Option (List M × Sl)) : TA := fun σ H Q => ∃ F s fp m s', Ok K F H s σ fp ∧ f s = some (m, s') ∧
  ∀ F' H' v fm fp', Good K F H fp F' H' s' σ fm fp' → Owns K F' H' m v fm → Q v H'
section
variable {F H F' H' F1 H1 F2 H2 H0 : Hp} {fp fp' fm fm' ft fp1 fp2 fm1 fm2 fh : List Addr} {s s' s1 s2 : Sl} {σ σ1 σ2 : St} {b b' b2 bl hid : Nat → Bool}
theorem set_back {i : Nat} {v : V} (h : σ[i]? = some (some v)) : σ.set i (some v) = σ := by
  apply List.ext_getElem?
  intro j
  by_cases hj : i = j
  · subst hj
    rw [List.getElem?_set_self (List.getElem?_eq_some_iff.mp h).1, h]
  · rw [List.getElem?_set_ne hj]
/-- what was hidden comes back -/
theorem unhide_ok {h : Option (Nat × M)} (hb : ∀ i, hid i = true → bl i = false) (hbl : ∀ i, bl i = true → b i = true) (g1 : Good K F H fp F1 H1 s1 σ fh fp1) (hd : Hid K F1 H1 σ hid h fh) (G : Gs K bl F1 H1 fp1 σ F2 H2 s2 σ2 fm fp2) :
    ∃ fp3, Gs K b F H fp σ F2 H2 (unhide h s2) σ2 fm fp3 := by
  have G2 := (Gs.ofE (b := b) g1).then (G.weak hbl)
  cases h with
  | none =>
    have hd : fh = [] := hd
    subst hd
    exact ⟨fp2, G2⟩
  | some p =>
    obtain ⟨i, m⟩ := p
    obtain ⟨hi, v, hv, ow⟩ := hd
    have e2 : σ2[i]? = some (some v) := by rw [G.fr i (hb i hi)]; exact hv
    have ow2 : Own K F2 H2 m v fh := ow.mono G.g.mono fun q hq => by
      obtain ⟨xs, hx⟩ := ow.there q hq
      rw [hx]
      exact G.g.heap q _ (some_cut hx fun h => (List.nodup_append.mp g1.nd).2.2 q hq q h rfl)
    have hlt : i < s2.length := by
      rw [G.ok.rep.length]
      exact (List.getElem?_eq_some_iff.mp e2).1
    obtain ⟨fd, fp3, w1, w2⟩ := G.ok.rep.set hlt ow2
    rw [set_back e2] at w1
    have g3 := G2.g.perm (fm' := fm ++ fh) List.perm_append_comm
    exact ⟨fp3, ⟨g3.give w1 w2, G2.fr⟩⟩
theorem tvar_ment {t : T} : ∀ i ∈ t.vars, t.ment i = true := fun i hi => by
  cases t with
  | var j => simp [T.vars] at hi; simp [T.ment, hi]
  | tup2 j k => simp [T.vars] at hi; rcases hi with h | h <;> simp [T.ment, h]
  | tup3 j k l => simp [T.vars] at hi; rcases hi with h | h | h <;> simp [T.ment, h]
theorem sx_for {tg iter : Expr} {body : List Stmt} {pos : Pos} {t : T} {fit : Sl → Option ((List D × Option (Nat × M)) × Sl)} {f : Sl → Option O} (hp : PassesOwn (model X.prog X.w) X.A X.env X.xe) (hc : X.calm = true)
    (hi : PI X tg iter (tItL X.K hid fit)) (hg : PG X tg (gT X.K t)) (hb : PSs X body (tX X.K b2 f)) (hs : ∀ x, foldedSetIterable iter X.env x = pure x)
    (k0 : ∀ i, hid i = true → bl i = false) (k1 : ∀ i ∈ t.vars, bl i = true) (k2 : ∀ i, b2 i = true → bl i = true) (k3 : ∀ i, bl i = true → b i = true) :
    PS X (.For tg iter body [] pos) (tX X.K b fun s => bd (fit s) fun x s1 => (loopF t f x.1 s1).map (O.map (unhide x.2))) :=
  ps_imp (ps_for hp hc hi hg hb hs) fun D σ H ⟨F, s, fp, o, ok, e, P⟩ => by
    obtain ⟨x, s1, e1, e⟩ := bd_inv e
    obtain ⟨o1, e2, e⟩ := map_inv e
    subst e
    refine ⟨F, s, fp, x, s1, ok, e1, fun F1 H1 J fh fp1 g1 hd wk => ?_⟩
    have P1 : Post X.K bl F1 H1 fp1 σ D o1 := by
      cases o1 with
      | nx s2 => exact fun F2 H2 σ2 fp2 G => let ⟨fp3, G3⟩ := unhide_ok k0 k3 g1 hd G; P F2 H2 σ2 fp3 G3
      | bk s2 => exact fun F2 H2 σ2 fp2 G => let ⟨fp3, G3⟩ := unhide_ok k0 k3 g1 hd G; P F2 H2 σ2 fp3 G3
      | ct s2 => exact fun F2 H2 σ2 fp2 G => let ⟨fp3, G3⟩ := unhide_ok k0 k3 g1 hd G; P F2 H2 σ2 fp3 G3
      | rt j m s2 => exact fun F2 H2 σ2 v fm fp2 G ow lk => let ⟨fp3, G3⟩ := unhide_ok k0 k3 g1 hd G; P F2 H2 σ2 v fm fp3 G3 ow lk
    clear P
    generalize hds : x.1 = ds at e2 wk
    refine ⟨fun i m σi Hi => m = ds.length - i ∧ i ≤ ds.length ∧ ∃ Fi si fpi, Gs X.K bl F1 H1 fp1 σ Fi Hi si σi [] fpi ∧ loopF t f (ds.drop i) si = some o1,
      ⟨ds.length, by simp, Nat.zero_le _, F1, s1, fp1, .start g1.ok, by simpa using e2⟩, ?_⟩
    rintro i m σi Hi ⟨rfl, hle, Fi, si, fpi, G, el⟩
    by_cases hlt : i < ds.length
    · refine .inr ⟨wk.go i _ G.g.heap hlt, fun σ' H' => ∃ F' s' fp', Gs X.K bl F1 H1 fp1 σ F' H' s' σ' [] fp' ∧ loopF t f (ds.drop (i + 1)) s' = some o1, fun σ' H' w => ⟨ds.length - (i + 1), by omega, rfl, hlt, w⟩, fun y H'' hy => ?_⟩
      obtain ⟨d, hdd, hy⟩ := wk.yld i Fi Hi y H'' G.g.mono G.g.heap G.ok.same hlt hy
      obtain ⟨F3, G3, rx⟩ : ∃ F3, Gs X.K bl F1 H1 fp1 σ F3 H'' si σi [] fpi ∧ Rep X.K F3 d y := by
        rcases hy with ⟨rfl, rx⟩ | ⟨T, ys, es, hT, rfl, rfl, rfl, rs⟩
        · exact ⟨Fi, G, rx⟩
        · exact ⟨_, ⟨G.g.freshF hT, G.fr⟩, .tup (.inl (.inl upd_same)) (rs.mono (same_fresh (same_none G.ok.same hT)))⟩
      have ed : ds.drop i = d :: ds.drop (i + 1) := by
        rw [List.drop_eq_getElem_cons hlt]
        rw [List.getElem?_eq_getElem hlt] at hdd
        rw [Option.some.inj hdd]
      rw [ed] at el
      obtain ⟨sA, e3, el⟩ := bind_inv (show ((setT si t (.fz d)).bind fun s1 => (f s1).bind (stepO (loopF t f (ds.drop (i + 1))))) = some o1 from el)
      obtain ⟨o2, e4, e5⟩ := bind_inv el
      obtain ⟨σ2, fd, fp3, q1, q2, q3, q4⟩ := setT_ok G3.ok.same G3.ok.rep (Own.fz rx) e3
      have G4 : Gs X.K bl F1 H1 fp1 σ F3 H'' sA σ2 [] fp3 := ⟨G3.g.restate q1 (by simpa using q2), fun i hi => (fr_of k1 q4 i hi).trans (G3.fr i hi)⟩
      refine q3 (fun σ2 H2 => tX X.K b2 f _ σ2 H2) ⟨F3, sA, fp3, o2, G4.ok, e4, ?_⟩
      cases o2 with
      | nx s5 => exact fun F5 H5 σ5 fp5 g5 => ⟨F5, s5, fp5, G4.then0 (g5.weak k2), e5⟩
      | ct s5 => exact fun F5 H5 σ5 fp5 g5 => ⟨F5, s5, fp5, G4.then0 (g5.weak k2), e5⟩
      | bk s5 => cases e5; exact fun F5 H5 σ5 fp5 g5 => P1 _ _ _ _ (G4.then0 (g5.weak k2))
      | rt j m s5 => cases e5; exact fun F5 H5 σ5 v fm fp5 g5 ow lk => P1 _ _ _ _ _ _ (G4.then0 (g5.weak k2)) ow lk
    · have ei : i = ds.length := by omega
      subst ei
      rw [List.drop_length] at el
      cases el
      exact .inl ⟨wk.stop _ G.g.heap, P1 _ _ _ _ G⟩
/-! ### what is walked -/
theorem itR_ok (g : Good K F H fp F1 H1 s1 σ fm fp1) {r : Res} {v : V} (h : RelR K F1 H1 σ r v fm) {x : List D × Option (Nat × M)} (e : itR hid s1 r = some (x, s2)) :
    ∃ F2 fm2 fp2 vs ad, Good K F H fp F2 H1 s2 σ fm2 fp2 ∧ v = .ref ad ∧ Hid K F2 H1 σ hid x.2 fm2 ∧
      (if isL (toV s1 r) = true then H1 ad = some (.lst vs) ∧ Walks K (Itl K ad) F2 (cutF H1 fp2) x.1 else SqT K H1 ad vs ∧ Walks K (Itt K ad) F2 (cutF H1 fp2) x.1) := by
  have done : ∀ {F2 : Hp} {fp2 : List Addr} {d : D} {ds : List D}, Good K F H fp F2 H1 s2 σ [] fp2 → Rep K F2 d v → toV s1 r = some d → d.items = some ds → x = (ds, none) →
      ∃ F2 fm2 fp2 vs ad, Good K F H fp F2 H1 s2 σ fm2 fp2 ∧ v = .ref ad ∧ Hid K F2 H1 σ hid x.2 fm2 ∧
      (if isL (toV s1 r) = true then H1 ad = some (.lst vs) ∧ Walks K (Itl K ad) F2 (cutF H1 fp2) x.1 else SqT K H1 ad vs ∧ Walks K (Itt K ad) F2 (cutF H1 fp2) x.1) := fun {F2 fp2 d ds} g2 rp hv ei hx => by
    subst hx
    obtain ⟨vs, ⟨ad, ea, q1⟩, q2⟩ := items_ok rp ei
    refine ⟨F2, [], fp2, vs, ad, g2, ea, rfl, ?_⟩
    rw [hv]
    split
    · rename_i hb
      rw [if_pos hb] at q1
      exact ⟨g2.ok.same _ _ q1, walks_list (g2.ok.sameCut _ _ q1) q2⟩
    · rename_i hb
      rw [if_neg hb] at q1
      exact ⟨sqT_mono q1 g2.ok.same, walks_tup (sqT_mono q1 g2.ok.sameCut) q2⟩
  cases r with
  | m m =>
    have e : (m.toD.items.map fun ds => ((ds, none), s1)) = some (x, s2) := e
    obtain ⟨ds, e1, e2⟩ := map_inv e
    cases e2
    have rp := Own.frz g.ok.same (show Own K F1 H1 m v fm from h)
    exact done g.frzA rp rfl e1 rfl
  | pl p =>
    obtain ⟨hf, v0, h1, h2⟩ := h
    subst hf
    have e : (getP s1 p).bind (itPl hid s1 p) = some (x, s2) := e
    obtain ⟨m, e1, e2⟩ := bind_inv e
    have gen : ((frzP s1 p).bind fun x => x.1.items.map fun ds => ((ds, (none : Option (Nat × M))), x.2)) = some (x, s2) → ∃ F2 fm2 fp2 vs ad, Good K F H fp F2 H1 s2 σ fm2 fp2 ∧ v = .ref ad ∧ Hid K F2 H1 σ hid x.2 fm2 ∧
      (if isL (toV s1 (.pl p)) = true then H1 ad = some (.lst vs) ∧ Walks K (Itl K ad) F2 (cutF H1 fp2) x.1 else SqT K H1 ad vs ∧ Walks K (Itt K ad) F2 (cutF H1 fp2) x.1) := fun e => by
      obtain ⟨y, e3, e⟩ := bind_inv e
      obtain ⟨ds, e4, e⟩ := map_inv e
      cases e
      obtain ⟨F2, fp2, g2, rp⟩ := frzP_ok g.ok h1 h2 (d := y.1) (s2 := y.2) e3
      exact done (g.trans (by simpa using g2)) rp (frzP_toV e3) e4 rfl
    cases m with
    | lst ms =>
      have e2 : (if (ms.all M.isD && hid p.i) = true then (gv s1 p.i).bind fun m => some ((M.toDs ms, some (p.i, m)), s1.set p.i none)
        else (frzP s1 p).bind fun x => x.1.items.map fun ds => ((ds, none), x.2)) = some (x, s2) := e2
      split at e2
      · rename_i hh
        rw [Bool.and_eq_true] at hh
        obtain ⟨m0, e3, e2⟩ := bind_inv e2
        cases e2
        have hm0 := gv_inv e3
        obtain ⟨w, f, f1, f2, q1, q2, q3, _, q5⟩ := g.ok.rep.focus hm0
        rw [h1] at q1
        cases q1
        have em : m0.sels p.path = some (.lst ms) := by
          have := e1
          unfold getP at this
          rw [hm0] at this
          exact this
        obtain ⟨v', f', g1, g2, p1, p2, p3, _⟩ := q2.focus g.ok.same em
        have := p1.det h2
        subst this
        have slr : SlR K F1 H1 (s1.set p.i none) σ (f1 ++ f2) := by
          have := q5 F1 H1 (some v0) (same_refl _) fun _ _ => rfl
          rw [set_back h1] at this
          exact this
        have pm : (f ++ (f1 ++ f2)).Perm fp1 := by
          rw [q3, ← List.append_assoc]
          exact List.perm_append_comm.append_right _
        have g5 : Good K F H fp F1 H1 (s1.set p.i none) σ f (f1 ++ f2) := by
          have := g.hold slr pm
          simpa using this
        have hv : toV s1 (.pl p) = some (M.toD (.lst ms)) := by
          show (getP s1 p).map M.toD = _
          rw [e1]; rfl
        cases p2 with
        | @lst a _ vs fo ha os =>
          refine ⟨F1, f, f1 ++ f2, vs, a, g5, rfl, ⟨hh.2, v0, h1, q2⟩, ?_⟩
          rw [hv]
          refine (if_pos (show isL (some (M.toD (.lst ms))) = true from rfl)).mpr ⟨ha, walks_list (some_cut ha fun hm => ?_) (os.allD hh.1)⟩
          exact (List.nodup_append.mp g5.nd).2.2 a (by rw [p3]; exact List.mem_append_left _ (List.mem_append_right _ List.mem_cons_self)) a hm rfl
      · exact gen e2
    | fz d => exact gen e2
    | tup ms => exact gen e2
    | ins c ms => exact gen e2
variable {a bb : Expr} {fa fb : Sl → Option (Res × Sl)} {pos p : Pos} {tg : Expr}
theorem sl_seq (ha : PE X a (tE X.K fa)) : PI X tg a (tItL X.K hid fun s => bd (fa s) fun r s1 => itR hid s1 r) := by
  refine ⟨fun pins s0 σ H R I ⟨F, s, fp, x, s', ok, e, k⟩ => ?_⟩
  obtain ⟨r, s1, e1, e⟩ := bd_inv e
  cases eb : isL (toV s1 r) with
  | true =>
    refine (pi_list ha).run pins s0 σ H R I ⟨F, s, fp, r, s1, ok, e1, fun F1 H1 v fm fp1 g r1 => ?_⟩
    obtain ⟨F2, fm2, fp2, vs, ad, g2, ea, hd, w⟩ := itR_ok g r1 e
    rw [if_pos eb] at w
    exact ⟨ad, ea, ⟨vs, SqL.of w.1⟩, k F2 H1 _ fm2 fp2 g2 hd w.2⟩
  | false =>
    refine (pi_tup ha).run pins s0 σ H R I ⟨F, s, fp, r, s1, ok, e1, fun F1 H1 v fm fp1 g r1 => ?_⟩
    obtain ⟨F2, fm2, fp2, vs, ad, g2, ea, hd, w⟩ := itR_ok g r1 e
    rw [if_neg (by rw [eb]; exact Bool.false_ne_true)] at w
    exact ⟨ad, ea, ⟨vs, w.1⟩, k F2 H1 _ fm2 fp2 g2 hd w.2⟩
theorem sl_range1 {f : Sl → Option (List Res × Sl)} (hg : Gl X "range") (hm : X.mg "range" = none) (hs : nst a = true) (hn : ∀ s rs s', f s = some (rs, s') → rs.length = 1) (ha : PA X [a] (tAs X.K f)) :
    PI X tg (.Call (.Name "range" p) [a] [] pos) (tItL X.K hid fun s => bd (f s) fun rs s1 => (toVs s1 rs).bind fun ds => (rangeD ds).map fun x => ((x, none), s1)) := by
  refine ⟨fun pins s0 σ H R I ⟨F, s, fp, ds, s', ok, e, k⟩ => ?_⟩
  obtain ⟨rs, s1, e1, e⟩ := bd_inv e
  obtain ⟨ds', e2, e⟩ := bind_inv e
  obtain ⟨x, e3, e⟩ := map_inv e
  cases e
  refine (pi_range1 hg hm ha (by rw [star_cons hs]; rfl)).run pins s0 σ H R I ⟨F, s, fp, rs, _, ok, e1, fun F1 H1 vs fm fp1 g r1 => ?_⟩
  have rv := toVs_ok g.ok r1 e2
  have hl := toVs_len e2
  rw [hn _ _ _ e1] at hl
  cases rv with
  | nil => cases hl
  | cons r rr =>
    cases rr with
    | cons _ _ => simp at hl
    | nil =>
      cases r with
      | int n =>
        obtain ⟨h, e3⟩ := of_ite (show (if small62 n = true then some (rangeL 0 n) else none) = some _ from e3)
        subst e3
        have := s62 h
        refine ⟨n, rfl, this.1, this.2, ?_⟩
        have w := walks_range (K := X.K) (F := F1) (B := cutF H1 fp1) 0 n
        rw [Int.sub_zero] at w
        exact k F1 H1 _ [] fp1 g.none rfl w
      | _ => cases e3
theorem sl_range2 {f : Sl → Option (List Res × Sl)} (hg : Gl X "range") (hm : X.mg "range" = none) (hs : nst a = true) (hs2 : nst bb = true) (hn : ∀ s rs s', f s = some (rs, s') → rs.length = 2) (ha : PA X [a, bb] (tAs X.K f)) :
    PI X tg (.Call (.Name "range" p) [a, bb] [] pos) (tItL X.K hid fun s => bd (f s) fun rs s1 => (toVs s1 rs).bind fun ds => (rangeD ds).map fun x => ((x, none), s1)) := by
  refine ⟨fun pins s0 σ H R I ⟨F, s, fp, ds, s', ok, e, k⟩ => ?_⟩
  obtain ⟨rs, s1, e1, e⟩ := bd_inv e
  obtain ⟨ds', e2, e⟩ := bind_inv e
  obtain ⟨x, e3, e⟩ := map_inv e
  cases e
  refine (pi_range2 hg hm ha (by rw [star_cons hs, star_cons hs2]; rfl) (by rw [star_cons hs2]; rfl)).run pins s0 σ H R I ⟨F, s, fp, rs, _, ok, e1, fun F1 H1 vs fm fp1 g r1 => ?_⟩
  have rv := toVs_ok g.ok r1 e2
  have hl := toVs_len e2
  rw [hn _ _ _ e1] at hl
  cases rv with
  | nil => cases hl
  | cons r rr =>
    cases rr with
    | nil => simp at hl
    | cons r2 rr =>
      cases rr with
      | cons _ _ => simp at hl
      | nil =>
        cases r with
        | int n =>
          cases r2 with
          | int n2 =>
            obtain ⟨h, e3⟩ := of_ite (show (if (small62 n && small62 n2) = true then some (rangeL n n2) else none) = some _ from e3)
            subst e3
            rw [Bool.and_eq_true] at h
            have h1 := s62 h.1
            have h2 := s62 h.2
            exact ⟨n, n2, rfl, ⟨h1.1, h1.2, h2.1, h2.2⟩, k F1 H1 _ [] fp1 g.none rfl (walks_range n n2)⟩
          | _ => cases e3
        | _ => cases r2 <;> cases e3
theorem sl_range3 {b3 : Expr} {f : Sl → Option (List Res × Sl)} (hg : Gl X "range") (hm : X.mg "range" = none) (hs : nst a = true) (hs2 : nst bb = true) (hs3 : nst b3 = true) (hn : ∀ s rs s', f s = some (rs, s') → rs.length = 3) (ha : PA X [a, bb, b3] (tAs X.K f)) :
    PI X tg (.Call (.Name "range" p) [a, bb, b3] [] pos) (tItL X.K hid fun s => bd (f s) fun rs s1 => (toVs s1 rs).bind fun ds => (rangeD ds).map fun x => ((x, none), s1)) := by
  refine ⟨fun pins s0 σ H R I ⟨F, s, fp, ds, s', ok, e, k⟩ => ?_⟩
  obtain ⟨rs, s1, e1, e⟩ := bd_inv e
  obtain ⟨ds', e2, e⟩ := bind_inv e
  obtain ⟨x, e3, e⟩ := map_inv e
  cases e
  refine (pi_range3 hg hm ha (by rw [star_cons hs, star_cons hs2, star_cons hs3]) (by rw [star_cons hs2, star_cons hs3]; rfl)).run pins s0 σ H R I ⟨F, s, fp, rs, _, ok, e1, fun F1 H1 vs fm fp1 g r1 => ?_⟩
  have rv := toVs_ok g.ok r1 e2
  have hl := toVs_len e2
  rw [hn _ _ _ e1] at hl
  obtain ⟨i, j, c, n, ev, hr, ex⟩ := range3_inv rv hl e3
  subst ex
  exact ⟨i, j, c, n, ev, hr, k F1 H1 _ [] fp1 g.none rfl (walks_range3 i c n)⟩
theorem rep_L {d : D} {v : V} (r : Rep K F d v) (h : isLd d = true) : ∃ ds a vs, d = .lst ds ∧ v = .ref a ∧ F a = some (.lst vs) ∧ Reps K F ds vs := by
  cases r <;> first | exact ⟨_, _, _, rfl, rfl, by assumption, by assumption⟩ | cases h
theorem sl_enum {elts : List Expr} {kk : Nat} {tpos : Pos} (hg : Gl X "enumerate") (hm : X.mg "enumerate" = none) (hs : nst a = true) (ha : PE X a (tE X.K fa)) :
    PI X (.Tuple elts kk tpos) (.Call (.Name "enumerate" p) [a] [] pos) (tItL X.K hid fun s => bd (fa s) fun r s1 => bd (toF s1 r) fun d s2 => if isLd d then d.items.map fun ds => ((enumL ds, none), s2) else none) := by
  refine ⟨fun pins s0 σ H R I ⟨F, s, fp, ds, s', ok, e, k⟩ => ?_⟩
  obtain ⟨r, s1, e1, e⟩ := bd_inv e
  obtain ⟨d, s2, e2, e⟩ := bd_inv e
  split at e
  · rename_i hd
    obtain ⟨ds', e3, e⟩ := map_inv e
    cases e
    refine (pi_enum hg hm (pa_cons ha pa_nil (star_cons hs)) (by rw [star_cons hs]; rfl)).run pins s0 σ H R I ⟨F, s, fp, r, s1, ok, e1, fun F1 H1 v fm fp1 g r1 => ?_⟩
    obtain ⟨F2, fp2, g2, rp⟩ := toF_ok g r1 e2
    obtain ⟨xs, ad, vs, rfl, ea, h, rs⟩ := rep_L rp hd
    cases e3
    exact ⟨ad, vs, by rw [ea], SqL.of (g2.ok.same _ _ h), k F2 H1 _ [] fp2 g2 rfl (walks_enum (g2.ok.sameCut _ _ h) rs)⟩
  · cases e
theorem sl_zip {elts : List Expr} {kk : Nat} {tpos : Pos} (hg : Gl X "zip") (hm : X.mg "zip" = none) (hs : nst a = true) (hs2 : nst bb = true) (ha : PE X a (tE X.K fa)) (hb : PE X bb (tE X.K fb)) :
    PI X (.Tuple elts kk tpos) (.Call (.Name "zip" p) [a, bb] [] pos) (tItL X.K hid fun s => bd (fa s) fun ra s1 => bd (fb s1) fun rb s2 => bd (toF s2 ra) fun x s3 => bd (toF s3 rb) fun y s4 => if isLd x && isLd y then x.items.bind fun xs => y.items.map fun ys => ((zipL xs ys, none), s4) else none) := by
  refine ⟨fun pins s0 σ H R I ⟨F, s, fp, ds, s', ok, e, k⟩ => ?_⟩
  obtain ⟨ra, s1, e1, e⟩ := bd_inv e
  obtain ⟨rb, s2, e2, e⟩ := bd_inv e
  obtain ⟨x, s3, e3, e⟩ := bd_inv e
  obtain ⟨y, s4, e4, e⟩ := bd_inv e
  split at e
  · rename_i hd
    rw [Bool.and_eq_true] at hd
    obtain ⟨xs, e5, e⟩ := bind_inv e
    obtain ⟨ys, e6, e⟩ := map_inv e
    cases e
    refine (pi_zip hg hm (pa_cons ha (pa_cons hb pa_nil (star_cons hs2)) (star_cons hs)) (star_cons hs) (by rw [star_cons hs2]; rfl)).run pins s0 σ H R I ?_
    show tE X.K fa σ H fun x H1 => tE X.K fb σ H1 fun y H2 => _
    refine two ok e1 e2 fun F2 H2 va vb fa' fb' fp2 g ra' rb' => ?_
    obtain ⟨F3, fp3, g3, rp⟩ := toF_ok g.held ra' e3
    have g4 := g.back g3
    have rb2 := rb'.same g3.mono (same_refl _)
    obtain ⟨F4, fp4, g5, rp2⟩ := toF_ok (g4.held (fa := fb') (fb := [])) rb2 e4
    have g6 := g4.back g5
    obtain ⟨ds1, ad, vs, rfl, ea, h, rs⟩ := rep_L (rp.mono g5.mono) hd.1
    obtain ⟨ds2, ad2, ws, rfl, ea2, h2, rs2⟩ := rep_L rp2 hd.2
    cases e5
    cases e6
    exact ⟨ad, ad2, vs, ws, by rw [ea, ea2], SqL.of (g6.ok.same _ _ h), SqL.of (g6.ok.same _ _ h2), k F4 H2 _ [] fp4 g6 rfl (walks_zip (g6.ok.sameCut _ _ h) (g6.ok.sameCut _ _ h2) rs rs2)⟩
  · cases e
/-! ### return -/
theorem sx_retG {e : Expr} {j : Option Nat} {f : Sl → Option (M × Sl)} (he : PE X e (tRG X.K j f)) : PS X (.Return (some e) pos) (tX X.K b fun s => bd (f s) fun m s1 => some (.rt j m s1)) := ps_imp (ps_ret he) fun D σ H ⟨F, s, fp, o, ok, e, P⟩ => by
  obtain ⟨m, s1, e1, e⟩ := bd_inv e
  cases e
  exact ⟨F, s, fp, m, s1, ok, e1, fun F' H' v fm fp' g ow lk => P F' H' σ v fm fp' ⟨g, fun _ _ => rfl⟩ ow lk⟩
theorem prG {e : Expr} {f : Sl → Option (M × Sl)} (he : PE X e (tR X.K f)) : PE X e (tRG X.K none f) := pe_imp he fun σ H Q ⟨F, s, fp, m, s', ok, e, k⟩ =>
  ⟨F, s, fp, m, s', ok, e, fun F' H' v fm fp' g ow => k F' H' v fm fp' g.cut ow fun i h => nomatch h⟩
theorem prL {e : Expr} {f : Sl → Option (Res × Sl)} (he : PE X e (tL X.K f)) : PE X e (tRG X.K none fun s => bd (f s) fun r s1 => toS s1 r) := pe_imp he fun σ H Q ⟨F, s, fp, m, s', ok, e, k⟩ => by
  obtain ⟨r, s1, e1, e⟩ := bd_inv e
  refine ⟨F, s, fp, r, s1, ok, e1, fun F' H' v fm fp' g rr => ?_⟩
  obtain ⟨F2, fm2, fp2, g2, ow⟩ := toS_ok g rr e
  exact k F2 H' v fm2 fp2 g2 ow fun i h => nomatch h
theorem sx_retN : PS X (.Return none pos) (tX X.K b fun s => some (.rt none (.fz .non) s)) := ps_imp ps_retN fun D σ H ⟨F, s, fp, o, ok, e, P⟩ => by
  cases e
  exact P F H σ .non [] fp (.start ok) (.fz .non) (fun i h => nomatch h)
theorem sr_val {e : Expr} {f : Sl → Option (Res × Sl)} (he : PE X e (tE X.K f)) : PE X e (tR X.K fun s => bd (f s) fun r s1 => toS s1 r) := pe_imp he fun σ H Q ⟨F, s, fp, m, s', ok, e, k⟩ => by
  obtain ⟨r, s1, e1, e⟩ := bd_inv e
  refine ⟨F, s, fp, r, s1, ok, e1, fun F' H' v fm fp' g rr => ?_⟩
  obtain ⟨F2, fm2, fp2, g2, ow⟩ := toS_ok g rr e
  exact k F2 H' v fm2 fp2 g2 ow
theorem sr_nil : PA X [] (tRs X.K fun s => some ([], s)) := pa_imp pa_nil fun σ H Q ⟨F, s, fp, rs, s', ok, e, k⟩ => by
  cases e
  exact k F H [] [] fp ok.good .nil
theorem sr_cons {e : Expr} {es : List Expr} {f : Sl → Option (M × Sl)} {g : Sl → Option (List M × Sl)} (ha : PE X e (tR X.K f)) (hr : PA X es (tRs X.K g)) (hs : starEach (e :: es) X.env = (false, eval e X.env) :: starEach es X.env) :
    PA X (e :: es) (tRs X.K fun s => bd (f s) fun r s1 => bd (g s1) fun rs s2 => some (r :: rs, s2)) :=
  pa_imp (pa_cons ha hr hs) fun σ H Q ⟨F, s, fp, rs, s', ok, e, k⟩ => by
    obtain ⟨r, s1, e1, e⟩ := bd_inv e
    obtain ⟨rs', s2, e2, e⟩ := bd_inv e
    cases e
    exact ⟨F, s, fp, r, s1, ok, e1, fun F1 H1 v fm fp1 g1 r1 => ⟨F1, s1, fp1, rs', _, g1.ok, e2, fun F2 H2 vs fm2 fp2 g2 r2 => k F2 H2 (v :: vs) (fm ++ fm2) fp2 (g1.then g2) (.cons (Own.same g2.mono g2.heap r1) r2)⟩⟩
theorem sr_lst {es : List Expr} {pos : Pos} {g : Sl → Option (List M × Sl)} (h : PA X es (tRs X.K g)) :
    PE X (.List es pos) (tR X.K fun s => bd (g s) fun ms s2 => if ms.length ≤ sizeLine then some (.lst ms, s2) else none) :=
  pe_imp (pe_lst h) fun σ H Q ⟨F, s, fp, r, s', ok, e, k⟩ => by
    obtain ⟨ms, s1, e1, e⟩ := bd_inv e
    obtain ⟨hl, e⟩ := of_ite e
    cases e
    refine ⟨F, s, fp, ms, _, ok, e1, fun F1 H1 vs fm fp1 g1 ow => ?_⟩
    refine ⟨by rw [← ow.length]; exact hl, fun p hp => ?_⟩
    exact k F1 _ (.ref p) (p :: fm) fp1 (g1.freshL hp) (Own.lst upd_same (ow.mono (same_refl _) fun q hq => upd_ne fun e => g1.dom q hq (by rw [e]; exact hp)))
theorem sr_tup {es : List Expr} {k : Nat} {pos : Pos} {g : Sl → Option (List M × Sl)} (h : PA X es (tRs X.K g)) :
    PE X (.Tuple es k pos) (tR X.K fun s => bd (g s) fun ms s2 => if ms.length ≤ sizeLine then some (mkTup ms, s2) else none) :=
  pe_imp (pe_tup h) fun σ H Q ⟨F, s, fp, r, s', ok, e, k⟩ => by
    obtain ⟨ms, s1, e1, e⟩ := bd_inv e
    obtain ⟨hl, e⟩ := of_ite e
    cases e
    refine ⟨F, s, fp, ms, _, ok, e1, fun F1 H1 vs fm fp1 g1 ow => ?_⟩
    exact ⟨by rw [← ow.length]; exact hl, fun p hp => fin_tup g1 hp ow fun F' H' v fm fp' g2 r2 => k F' H' v fm fp' g2 r2⟩
end
end VS
end

section
set_option maxHeartbeats 2000000
/-! VS: calls that change their arguments. -/
namespace VS
open PySem L2
variable {X : Cx} {K : PySem.W.Frag}
inductive IoR (σ : St) : List Bool → List (Option Nat) → List V → Prop
  | nil : IoR σ [] [] []
  | no {b : Bool} {bs : List Bool} {os : List (Option Nat)} {v : V} {vs : List V} : IoR σ bs os vs → IoR σ (b :: bs) (none :: os) (v :: vs)
  | so {i : Nat} {bs : List Bool} {os : List (Option Nat)} {v : V} {vs : List V} : σ[i]? = some (some v) → IoR σ bs os vs → IoR σ (true :: bs) (some i :: os) (v :: vs)
section
variable {F H F' H' F1 H1 F2 H2 H0 : Hp} {fp fp' fm fm' ft fp1 fp2 fm1 fm2 fh fd fr fo : List Addr} {s s' s1 s2 : Sl} {σ : St}
theorem IoR.get : ∀ {bs : List Bool} {os : List (Option Nat)} {vs : List V} {j i : Nat}, IoR σ bs os vs → os[j]? = some (some i) → ∃ v, vs[j]? = some v ∧ σ[i]? = some (some v)
  | _, _, _, _, _, .nil, e => by simp at e
  | _, _, _, 0, _, .no _, e => by simp at e
  | _, _, _, j + 1, _, .no r, e => by
    obtain ⟨v, h1, h2⟩ := IoR.get (j := j) r (by simpa using e)
    exact ⟨v, by simpa using h1, h2⟩
  | _, _, _, 0, _, .so h _, e => by simp at e; subst e; exact ⟨_, rfl, h⟩
  | _, _, _, j + 1, _, .so _ r, e => by
    obtain ⟨v, h1, h2⟩ := IoR.get (j := j) r (by simpa using e)
    exact ⟨v, by simpa using h1, h2⟩
theorem IoR.set : ∀ {bs : List Bool} {os : List (Option Nat)} {vs : List V} {j : Nat}, IoR σ bs os vs → os[j]? = some none → IoR σ (bs.set j false) os vs
  | _, _, _, _, .nil, e => by simp at e
  | _, _, _, 0, .no r, e => by rw [List.set_cons_zero]; exact .no r
  | _, _, _, j + 1, .no r, e => by rw [List.set_cons_succ]; exact .no (IoR.set r (by simpa using e))
  | _, _, _, 0, .so h _, e => by simp at e
  | _, _, _, j + 1, .so h r, e => by rw [List.set_cons_succ]; exact .so h (IoR.set r (by simpa using e))
theorem Outs.there : ∀ {bs : List Bool} {ms : List M} {vs : List V} {f : List Addr}, Outs K F H bs ms vs f → ∀ p ∈ f, ∃ xs, H p = some (.lst xs)
  | _, _, _, _, .nil, p, hp => by cases hp
  | _, _, _, _, .no r, p, hp => r.there p hp
  | _, _, _, _, .so o r, p, hp => (List.mem_append.mp hp).elim (o.there p) (r.there p)
theorem Outs.split : ∀ {bs : List Bool} {ms : List M} {vs : List V} {f : List Addr} {j : Nat} {m : M} {v : V}, Outs K F H bs ms vs f → bs[j]? = some true → ms[j]? = some m → vs[j]? = some v →
    ∃ f1 g, Own K F H m v f1 ∧ (f1 ++ g).Perm f ∧ Outs K F H (bs.set j false) ms vs g
  | _, _, _, _, _, _, _, .nil, e, _, _ => by simp at e
  | _, _, _, _, 0, _, _, .no _, e, _, _ => by simp at e
  | _, _, vs, _, j + 1, _, _, .no r, e, e2, e3 => by
    obtain ⟨f1, g, h1, h2, h3⟩ := Outs.split (j := j) r (by simpa using e) (by simpa using e2) (by
      cases vs with
      | nil => simp at e3
      | cons _ _ => simpa using e3)
    exact ⟨f1, g, h1, h2, by rw [List.set_cons_succ]; exact .no h3⟩
  | _, _, _, _, 0, _, _, .so (g := g) o r, _, e2, e3 => by
    simp at e2 e3
    subst e2 e3
    exact ⟨_, g, o, .refl _, by rw [List.set_cons_zero]; exact .no r⟩
  | _, _, _, _, j + 1, _, _, .so (f := f0) o r, e, e2, e3 => by
    obtain ⟨f1, g, h1, h2, h3⟩ := Outs.split (j := j) r (by simpa using e) (by simpa using e2) (by simpa using e3)
    refine ⟨f1, f0 ++ g, h1, ?_, by rw [List.set_cons_succ]; exact .so o h3⟩
    refine List.perm_iff_count.mpr fun x => ?_
    have := List.perm_iff_count.mp h2 x
    simp only [List.count_append] at this ⊢
    omega
theorem giveBack_ok : ∀ {bs : List Bool} {os : List (Option Nat)} {vs : List V}, IoR σ bs os vs → ∀ {ms : List M} {fo fp2 : List Addr} {s2 : Sl}, Outs K F' H' bs ms vs fo → Good K F H fp F' H' s2 σ (fr ++ fo) fp2 → ∃ fp3, Good K F H fp F' H' (giveBack os ms s2) σ fr fp3 := by
  intro bs os vs h
  induction h with
  | nil =>
    intro ms fo fp2 s2 ho g
    cases ho
    rw [List.append_nil] at g
    exact ⟨fp2, g⟩
  | no r ih =>
    intro ms fo fp2 s2 ho g
    cases ho with
    | no ho => exact ih ho g
    | so o ho => exact ih ho (g.drop (List.Sublist.append_left (List.sublist_append_right _ _) _))
  | @so i bs os v vs hi r ih =>
    intro ms fo fp2 s2 ho g
    cases ho with
    | @so _ m _ ms' _ f gg o ho =>
      have hlt : i < s2.length := by
        rw [g.ok.rep.length]
        exact (List.getElem?_eq_some_iff.mp hi).1
      obtain ⟨fd, fp3, w1, w2⟩ := g.ok.rep.set hlt o
      rw [set_back hi] at w1
      have g2 : Good K F H fp F' H' s2 σ (fr ++ gg ++ f) fp2 := g.perm (by
        rw [List.append_assoc]
        exact List.Perm.append_left fr List.perm_append_comm)
      exact ih ho (g2.give w1 w2)
theorem ioArgs_ok : ∀ {bs : List Bool} {rs : List Res} {vs : List V} {fd fm : List Addr} {F' H' : Hp} {fp' : List Addr} {s' : Sl} {x : List M × List (Option Nat)} {s2 : Sl}, Good K F H fp F' H' s' σ (fd ++ fm) fp' → RelRs K F' H' σ rs vs fm → ioArgs bs rs s' = some (x, s2) →
    ∃ F2 fm2 fp2, Good K F H fp F2 H' s2 σ (fd ++ fm2) fp2 ∧ Owns K F2 H' x.1 vs fm2 ∧ Same F' F2 ∧ IoR σ bs x.2 vs := by
  intro bs
  induction bs with
  | nil =>
    intro rs vs fd fm F' H' fp' s' x s2 g h e
    cases h with
    | nil =>
      simp only [ioArgs] at e
      cases e
      exact ⟨F', [], fp', g, .nil, same_refl _, .nil⟩
    | cons _ _ => simp [ioArgs] at e
  | cons b bs ih =>
    intro rs vs fd fm F' H' fp' s' x s2 g h e
    cases h with
    | nil => cases b <;> simp [ioArgs] at e
    | @cons r v rs vs f gm hr rr =>
      cases b with
      | false =>
        simp only [ioArgs] at e
        obtain ⟨m, s3, e1, e⟩ := bd_inv e
        obtain ⟨x', s4, e2, e⟩ := bd_inv e
        cases e
        cases r with
        | pl p =>
          obtain ⟨hf, v0, h1, h2⟩ := hr
          subst hf
          have e1 : ((frzP s' p).map fun x => (M.fz x.1, x.2)) = some (m, s3) := e1
          obtain ⟨y, e3, e4⟩ := map_inv e1
          cases e4
          obtain ⟨F2, fp2, g2, rp⟩ := frzP_ok g.ok h1 h2 (d := y.1) (s2 := y.2) e3
          have g3 := g.then g2
          simp only [List.nil_append, List.append_nil] at g3
          obtain ⟨F3, fm3, fp3, g4, ow, sm, io⟩ := ih g3 (rr.same g2.mono (same_refl _)) e2
          refine ⟨F3, fm3, fp3, g4, ?_, same_trans g2.mono sm, .no io⟩
          have := Owns.cons (f := []) (g := fm3) (.fz (rp.mono sm)) ow
          simpa [M.toD] using this
        | m m0 =>
          cases e1
          rw [← List.append_assoc] at g
          have rp := Own.frz g.ok.same (show Own K F' H' _ v f from hr)
          have sf := frz_same (f := f) g.ok.same
          obtain ⟨F3, fm3, fp3, g4, ow, sm, io⟩ := ih (fd := fd) g.frz (rr.same sf (same_refl _)) e2
          refine ⟨F3, fm3, fp3, g4, ?_, same_trans sf sm, .no io⟩
          have := Owns.cons (f := []) (g := fm3) (.fz (rp.mono sm)) ow
          simpa [M.toD] using this
      | true =>
        cases r with
        | m m0 =>
          simp only [ioArgs] at e
          obtain ⟨x', s4, e2, e⟩ := bd_inv e
          cases e
          rw [← List.append_assoc] at g
          obtain ⟨F3, fm3, fp3, g4, ow, sm, io⟩ := ih (fd := fd ++ f) g rr e2
          rw [List.append_assoc] at g4
          exact ⟨F3, f ++ fm3, fp3, g4, .cons (Own.same sm (same_refl _) hr) ow, sm, .no io⟩
        | pl p =>
          obtain ⟨i, path⟩ := p
          cases path with
          | cons _ _ => simp [ioArgs] at e
          | nil =>
            simp only [ioArgs] at e
            cases hm : s'[i]? with
            | none => rw [hm] at e; cases e
            | some o =>
              cases o with
              | none => rw [hm] at e; cases e
              | some m =>
                rw [hm] at e
                obtain ⟨x', s4, e2, e⟩ := bd_inv e
                cases e
                obtain ⟨hf, v0, h1, h2⟩ := hr
                subst hf
                have h1 : σ[i]? = some (some v0) := h1
                have h2 : v0 = v := h2
                subst h2
                obtain ⟨w, f, f1, f2, q1, q2, q3, _, q5⟩ := g.ok.rep.focus hm
                rw [h1] at q1
                cases q1
                have slr : SlR K F' H' (s'.set i none) σ (f1 ++ f2) := by
                  have := q5 F' H' (some v0) (same_refl _) fun _ _ => rfl
                  rw [set_back h1] at this
                  exact this
                have g5 := g.hold slr (fh := f) (by
                  rw [q3, ← List.append_assoc]
                  exact List.perm_append_comm.append_right _)
                rw [List.nil_append] at g5
                have g6 : Good K F H fp F' H' (s'.set i none) σ (fd ++ f ++ gm) (f1 ++ f2) := g5.perm (by
                  rw [List.append_assoc, List.append_assoc]
                  exact List.Perm.append_left fd List.perm_append_comm)
                obtain ⟨F3, fm3, fp3, g7, ow, sm, io⟩ := ih (fd := fd ++ f) g6 rr e2
                rw [List.append_assoc] at g7
                exact ⟨F3, f ++ fm3, fp3, g7, .cons (Own.same sm (same_refl _) q2) ow, sm, .so h1 io⟩
/-- behind a call that changed what was handed to it -/
theorem callIO_good {io : List Bool} {al : Option Nat} {outs : List M} {vs : List V} {m : M} {v : V} (g : Good K F H fp F2 H1 s2 σ fm2 fp2) (L : LeftIO K F2 H1 fm2 F' H' io al outs vs m v fr fo) : Good K F (cutF H fp) fp F' H' s2 σ (fr ++ fo) fp2 := by
  have nd := List.nodup_append.mp g.nd
  have n2 : ∀ p ∈ fm2, H1 p ≠ none := g.dom
  have away : ∀ p, p ∈ fm2 ∨ H1 p = none → p ∈ fp ∨ H p = none := fun p h => by
    rcases h with h | h
    · exact g.org p (List.mem_append_left _ h)
    · exact .inr (same_none g.heap h)
  have notS : ∀ p ∈ fp2, ¬ (p ∈ fm2 ∨ H1 p = none) := fun p hp h => by
    rcases h with h | h
    · exact nd.2.2 p h p hp rfl
    · exact g.ok.dom p hp h
  refine ⟨same_trans g.mono L.mono, fun p o e => ?_, fun p hp => ?_, fun p o e => ?_, ⟨L.same, g.ok.rep.mono L.mono fun p hp => ?_, g.ok.nd, fun p hp => ?_⟩, ?_, L.dis, fun p hp => ?_⟩
  · obtain ⟨hp, e⟩ := cut_some e
    refine L.heap p o (some_cut (g.heap p o e) fun hm => ?_)
    rcases g.org p (List.mem_append_left _ hm) with h | h
    · exact hp h
    · rw [e] at h; cases h
  · rcases List.mem_append.mp hp with hp | hp
    · exact cut_or (away p (L.org p hp))
    · exact cut_or (g.org p (List.mem_append_right _ hp))
  · rcases L.new p o e with h | h
    · exact (g.new p o h).imp id cut_or
    · exact .inr (cut_or (away p h))
  · obtain ⟨xs, h⟩ := g.ok.rep.there p hp
    rw [h]
    exact L.heap p _ (some_cut h fun hm => nd.2.2 p hm p hp rfl)
  · refine none_of_ne fun o e => ?_
    rcases L.new p o e with h | h
    · rw [g.ok.dis p hp] at h; cases h
    · exact notS p hp h
  · exact List.nodup_append.mpr ⟨L.nd, g.ok.nd, fun a ha b hb e => notS b hb (by rw [← e]; exact L.org a ha)⟩
  · rcases List.mem_append.mp hp with hp | hp
    · have := L.res
      cases al with
      | none =>
        obtain ⟨xs, h⟩ := Own.there (show Own K F' H' m v fr from this) p hp
        rw [h]; exact fun e => by cases e
      | some j =>
        have : fr = [] ∧ vs[j]? = some v := this
        rw [this.1] at hp; cases hp
    · obtain ⟨xs, h⟩ := L.outs.there p hp
      rw [h]; exact fun e => by cases e
theorem cio_core {G : Env} {k np : Nat} {E : XK} {rs : List Res} {vs : List V} {r : Res} {Q : VK} (g : Good K F H fp F1 H1 s1 σ fm fp1) (rr : RelRs K F1 H1 σ rs vs fm) (e : evCio G k s1 rs = some (r, s')) (hl : rs.length = np)
    (kk : ∀ F' H' v fm fp', Good K F (cutF H fp) fp F' H' s' σ fm fp' → RelR K F' H' σ r v fm → Q v H') : spI K np (G.io k) (G.al k) (G.cd k) vs H1 Q E := by
  unfold evCio at e
  obtain ⟨x, s2, e1, e⟩ := bd_inv e
  obtain ⟨r0, e2, e⟩ := bind_inv e
  obtain ⟨F2, fm2, fp2, g2, ow, sm, io⟩ := ioArgs_ok (fd := []) g rr e1
  have g2 : Good K F H fp F2 H1 s2 σ fm2 fp2 := g2
  refine ⟨F2, fm2, x.1, r0.1, r0.2, g2.ok.same, ow, (List.nodup_append.mp g2.nd).1, g2.dis, by rw [ow.length, ← rr.length]; exact hl, e2, fun F' H' v fr fo L => ?_⟩
  have g3 := callIO_good g2 L
  have hres := L.res
  cases ha : G.al k with
  | none =>
    rw [ha] at e hres
    cases e
    obtain ⟨fp3, g4⟩ := giveBack_ok io L.outs g3
    exact kk F' H' v fr fp3 g4 hres
  | some j =>
    rw [ha] at e hres
    obtain ⟨rfl, hv⟩ : fr = [] ∧ vs[j]? = some v := hres
    dsimp only at e
    split at e
    · rename_i i _ hj
      cases e
      obtain ⟨fp3, g4⟩ := giveBack_ok io L.outs g3
      obtain ⟨v', h1, h2⟩ := io.get hj
      rw [hv] at h1
      cases h1
      exact kk F' H' v [] fp3 g4 ⟨rfl, v, h2, rfl⟩
    · rename_i m hj hm
      obtain ⟨hio, e⟩ := of_ite e
      cases e
      obtain ⟨f1, g1, h1, h2, h3⟩ := L.outs.split hio hm hv
      have g4 : Good K F (cutF H fp) fp F' H' s2 σ (f1 ++ g1) fp2 := g3.perm (by rw [List.nil_append]; exact h2)
      obtain ⟨fp3, g5⟩ := giveBack_ok (io.set hj) h3 g4
      exact kk F' H' v f1 fp3 g5 h1
    · cases e
theorem cio_imp {G : Env} {k np : Nat} {E : XK} {f : Sl → Option (List Res × Sl)} (σ : St) (H : Hp) (Q : VK) (h : tL K (fun s => bd (f s) fun rs s1 => evCio G k s1 rs) σ H Q)
    (hn : ∀ rs s s', f s = some (rs, s') → rs.length = np) : tCall (spI K np (G.io k) (G.al k) (G.cd k)) [] E (tAs K f) σ H Q := by
  obtain ⟨F, s, fp, r, s', ok, e, kk⟩ := h
  obtain ⟨rs, s1, e1, e⟩ := bd_inv e
  refine ⟨F, s, fp, rs, s1, ok, e1, fun F1 H1 vs fm fp1 g rr => ?_⟩
  show spI K np (G.io k) (G.al k) (G.cd k) (vs ++ []) H1 Q E
  rw [List.append_nil]
  exact cio_core g rr e (hn _ _ _ e1) kk
end
/-! ### loud expressions -/
def chIo (c : CC) (k : Nat) (es : Es) : Expr → Bool
  | .Call (.Name x _) (p :: ps) [] _ => decide (c.defs[k]? = some (x, es.len, [])) && gl c x && nmo x && chEs c es (p :: ps)
  | _ => false
def chL (c : CC) : E → Expr → Bool
  | .cio k es, pe => chIo c k es pe
  | e, pe => chE c e pe
theorem pel_imp {e : Expr} {f : Sl → Option (Res × Sl)} (h : PE X e (tE X.K f)) : PE X e (tL X.K f) := pe_imp h fun σ H Q ⟨F, s, fp, r, s', ok, e, k⟩ =>
  ⟨F, s, fp, r, s', ok, e, fun F' H' v fm fp' g rr => k F' H' v fm fp' g.cut rr⟩
variable {G : Env}
theorem mCio {k : Nat} {es : Es} {c : CC} {pe : Expr} (ctx : CtxOk X c G) (h : chIo c k es pe = true) : PE X pe (tL X.K (ev G (.cio k es))) := by
  unfold chIo at h
  split at h
  · rename_i x p pe1 pes pos
    simp only [Bool.and_eq_true, decide_eq_true_eq] at h
    obtain ⟨⟨⟨h2, h3⟩, h4⟩, h5⟩ := h
    obtain ⟨n, f, fd, ps, FO, room, hm, kp, bnd⟩ := ctx.defs k _ h2
    have bnd : Binds X.K fd ps [] := by
      unfold BindK at bnd
      rw [if_pos rfl] at bnd
      exact bnd
    have st := chEs_nst h5
    rw [List.all_cons, Bool.and_eq_true] at st
    refine pe_imp (pe_call FO room (gl_of ctx h3) hm kp bnd .nil pass0 (mEs es ctx h5) (nmo_of h4).1 (star_cons st.1.1) (star_any st.1.2)) fun σ H Q q => ?_
    exact cio_imp σ H Q (by
      have : ev G (.cio k es) = fun s => bd (evs G es s) fun rs s1 => evCio G k s1 rs := funext fun s => by rw [ev]
      rw [this] at q
      exact q) fun rs s s' e => evs_len es e
  · cases h
theorem mL {c : CC} (e : E) {pe : Expr} (ctx : CtxOk X c G) (h : chL c e pe = true) : PE X pe (tL X.K (ev G e)) := by
  cases e with
  | cio k es => exact mCio ctx h
  | _ => exact pel_imp (mE _ ctx h)
end VS
end

section
set_option maxHeartbeats 2000000
/-! VS: the check of statements is sound. -/
namespace VS
open PySem L2
variable {G : Env} {W : WL}

def nComp : Expr → Bool
  | .ListComp .. | .SetComp .. | .DictComp .. => false
  | _ => true
def nPair : Expr → Expr → Bool
  | .Tuple .., .Tuple .. | .List .., .Tuple .. => false
  | _, _ => true
def nCall : Expr → Bool
  | .Call .. => false
  | _ => true
theorem sw_nc {e : Expr} (h : nComp e = true) (t : Option Expr) (l : Nat) (env : PySem.Env) : swapsWith e t l env = pure false := by
  cases e <;> first | rfl | cases h
theorem sp_none {t e : Expr} (h : nPair t e = true) (env : PySem.Env) : swappedStores [t] e env = pure none := by
  cases t <;> first | rfl | (cases e <;> first | rfl | cases h)
theorem ab_nc {a : Expr} (h : nCall a = true) (n : Str) (env : PySem.Env) (w : Sem Value) : attributeBase a n env w = w := by
  cases a <;> first | rfl | cases h
theorem ae_one {t : Expr} (h : nst t = true) (env : PySem.Env) : (assignEach [t] env).map (·.2) = [assign t env] := by
  cases t <;> first | rfl | cases h
def tg1 : List Expr → Option Expr
  | [t] => some t
  | _ => none
def sub1 : List Expr → Option (Expr × Expr × Pos)
  | [.Subscript a i p] => some (a, i, p)
  | _ => none
theorem tg1_inv {l : List Expr} {t : Expr} (h : tg1 l = some t) : l = [t] := by
  unfold tg1 at h
  split at h
  · cases h; rfl
  · cases h
theorem sub1_inv {l : List Expr} {r} (h : sub1 l = some r) : l = [.Subscript r.1 r.2.1 r.2.2] := by
  unfold sub1 at h
  split at h
  · cases h; rfl
  · cases h
def meth : Expr → Option (Expr × Str × List Expr)
  | .Call (.Attribute a n apos) es [] cpos => if (apos.endLine == cpos.line && nCall a) = true then some (a, n, es) else none
  | _ => none
theorem meth_inv {e : Expr} {r} (h : meth e = some r) : ∃ apos cpos, e = .Call (.Attribute r.1 r.2.1 apos) r.2.2 [] cpos ∧ (apos.endLine == cpos.line) = true ∧ nCall r.1 = true := by
  unfold meth at h
  split at h
  · split at h
    · rename_i hh
      rw [Bool.and_eq_true] at hh
      cases h
      exact ⟨_, _, rfl, hh.1, hh.2⟩
    · cases h
  · cases h
def lcOk (y : Str) (py : Pos) : Expr → Bool
  | .ListComp _ _ scope pos => (py.line == pos.line) && !(scope.names.any fun (n, k) => n == y && (k == .local || k == .cell))
  | _ => false
def isFn (k : ScopeKind) : Bool := match k with
  | .function => true
  | _ => false
def chLc (c : CC) : T → Expr → Expr → Bool
  | .var i, .Name y py, pe => chName c i (.Name y py) && decide (c.sc.names.lookup y = some .local) && isFn c.sc.kind && lcOk y py pe
  | _, _, _ => false
/-- a comprehension stored to a name that another block reads -/
def cellLc (c : CC) : Expr → Expr → Bool
  | .Name y _, .ListComp _ _ _ _ => decide (c.sc.names.lookup y = some .cell)
  | _, _ => false
theorem sw_cell {c : CC} {tg pe : Expr} {env : PySem.Env} (h : cellLc c tg pe = true) (hs : env.scope = c.sc) (l : Nat) : swapsWithSole [tg] pe l env = pure false := by
  unfold cellLc at h
  split at h
  · rename_i y p elt gs scope pos
    have h := of_decide_eq_true h
    unfold swapsWithSole swapsWith
    have hk : env.kindOf y = some .cell := by unfold PySem.Env.kindOf; rw [hs, h]
    simp only [hk]
    rw [show (some NameKind.cell == some NameKind.local) = false from by decide]
    simp
  · cases h
def one : List Expr → Option Expr
  | [t] => some t
  | _ => none
mutual
def chS (c : CC) : S → Stmt → Bool
  | .expr e, .Expr pe _ => nComp pe && chL c e pe
  | .asg _ t e, .Assign tgs pe _ => match tg1 tgs with
    | some tg => (((nComp pe || cellLc c tg pe) && nPair tg pe && nst tg && chT c t tg) || chLc c t tg pe) && chL c e pe
    | none => false
  | .setI _ a i e, .Assign tgs pe _ => match sub1 tgs with
    | some r => plIx r.2.1 && chE c a r.1 && chE c i r.2.1 && chE c e pe
    | none => false
  | .aug i o e, .AugAssign tg po pe _ => chName c i tg && decide (po = bopOf o) && chE c e pe
  | .app _ a e, .Expr pe _ => match meth pe with
    | some r => decide (r.2.1 = ("append" : Str)) && chE c a r.1 && (match tg1 r.2.2 with | some x => nst x && chE c e x | none => false)
    | none => false
  | .ext a e, .Expr pe _ => match meth pe with
    | some r => decide (r.2.1 = ("extend" : Str)) && chE c a r.1 && (match tg1 r.2.2 with | some x => nst x && chE c e x | none => false)
    | none => false
  | .pop a, .Expr pe _ => match meth pe with
    | some r => decide (r.2.1 = ("pop" : Str)) && chE c a r.1 && r.2.2.isEmpty
    | none => false
  | .clr a, .Expr pe _ => match meth pe with
    | some r => decide (r.2.1 = ("clear" : Str)) && chE c a r.1 && r.2.2.isEmpty
    | none => false
  | .asgPop t a, .Assign tgs pe _ => match tg1 tgs, meth pe with
    | some tg, some r => nst tg && chT c t tg && decide (r.2.1 = ("pop" : Str)) && chE c a r.1 && r.2.2.isEmpty
    | _, _ => false
  | .ifs t a b, .If pt pa pb _ => chTst c t pt && chSs c a pa && chSs c b pb
  | .for_ t it b, .For tg iter body orelse _ => orelse.isEmpty && chT c t tg && chIt c it tg iter && chSs c b body && nSet iter
  | .while_ t b, .While pt body orelse _ => orelse.isEmpty && chTst c t pt && chSs c b body
  | .ret e, .Return pe _ => match pe with
    | some pe => chL c e pe
    | none => match e with
      | .lit .non => true
      | _ => false
  | .brk, .Break _ => true
  | .cont, .Continue _ => true
  | .pass, .Pass _ => true
  | _, _ => false
def chSs (c : CC) : Ss → List Stmt → Bool
  | .nil, [] => true
  | .cons s ss, st :: sts => chS c s st && chSs c ss sts
  | _, _ => false
end
theorem ps_fun {X : Cx} {st : Stmt} {b : Nat → Bool} {f f' : Sl → Option O} (h : PS X st (tX X.K b f)) (hf : ∀ s, f' s = f s) : PS X st (tX X.K b f') := by
  have : f' = f := funext hf
  rw [this]; exact h
theorem pss_fun {X : Cx} {st : List Stmt} {b : Nat → Bool} {f f' : Sl → Option O} (h : PSs X st (tX X.K b f)) (hf : ∀ s, f' s = f s) : PSs X st (tX X.K b f') := by
  have : f' = f := funext hf
  rw [this]; exact h
theorem pr_fun {X : Cx} {e : Expr} {f f' : Sl → Option (M × Sl)} (h : PE X e (tR X.K f)) (hf : ∀ s, f' s = f s) : PE X e (tR X.K f') := by
  have : f' = f := funext hf
  rw [this]; exact h
theorem prs_fun {X : Cx} {e : List Expr} {f f' : Sl → Option (List M × Sl)} (h : PA X e (tRs X.K f)) (hf : ∀ s, f' s = f s) : PA X e (tRs X.K f') := by
  have : f' = f := funext hf
  rw [this]; exact h
theorem pl_fun {X : Cx} {tg iter : Expr} {hid : Nat → Bool} {f f' : Sl → Option ((List D × Option (Nat × M)) × Sl)} (h : PI X tg iter (tItL X.K hid f)) (hf : ∀ s, f' s = f s) : PI X tg iter (tItL X.K hid f') := by
  have : f' = f := funext hf
  rw [this]; exact h

theorem mItL (hid : Nat → Bool) : ∀ (it : It) {X : Cx} {c : CC} {tg iter : Expr}, CtxOk X c G → chIt c it tg iter = true → PI X tg iter (tItL X.K hid (evItL G hid it))
  | .seq e, X, c, tg, iter, ctx, h => by
    simp only [chIt] at h
    have := sl_seq (hid := hid) (tg := tg) (mE e ctx h)
    exact pl_fun this fun s => by rw [evItL]
  | .range es, X, c, tg, iter, ctx, h => by
    cases iter with
    | Call g pes kws pos =>
      cases g with
      | Name x p =>
        simp only [chIt, Bool.and_eq_true, decide_eq_true_eq, List.isEmpty_iff, Bool.or_eq_true] at h
        obtain ⟨⟨⟨⟨rfl, rfl⟩, h3⟩, h4⟩, h5⟩ := h
        have st := chEs_nst h4
        have hm := ctx.blt "range" (by decide +kernel)
        match pes, h4, h5, st with
        | [pa], h4, h5, st =>
          simp only [List.all_cons, List.all_nil, Bool.and_eq_true] at st
          have := sl_range1 (hid := hid) (tg := tg) (pos := pos) (p := p) (gl_of ctx h3) hm st.1.1 (fun s rs s' e => by rw [evs_len es e, ← st.2]; rfl) (mEs es ctx h4)
          exact pl_fun this fun s => by rw [evItL]
        | [pa, pb], h4, h5, st =>
          simp only [List.all_cons, List.all_nil, Bool.and_eq_true] at st
          have := sl_range2 (hid := hid) (tg := tg) (pos := pos) (p := p) (gl_of ctx h3) hm st.1.1 st.1.2.1 (fun s rs s' e => by rw [evs_len es e, ← st.2]; rfl) (mEs es ctx h4)
          exact pl_fun this fun s => by rw [evItL]
        | [pa, pb, pd], h4, h5, st =>
          simp only [List.all_cons, List.all_nil, Bool.and_eq_true] at st
          have := sl_range3 (hid := hid) (tg := tg) (pos := pos) (p := p) (gl_of ctx h3) hm st.1.1 st.1.2.1 st.1.2.2.1 (fun s rs s' e => by rw [evs_len es e, ← st.2]; rfl) (mEs es ctx h4)
          exact pl_fun this fun s => by rw [evItL]
        | [], _, h5, _ => simp at h5
        | _ :: _ :: _ :: _ :: _, _, h5, _ => simp at h5
      | _ => simp [chIt] at h
    | _ => simp [chIt] at h
  | .enum e, X, c, tg, iter, ctx, h => by
    cases iter with
    | Call g pes kws pos =>
      simp only [chIt] at h
      cases hn : nmT1 g pes tg with
      | none => rw [hn] at h; cases h
      | some r =>
        obtain ⟨p, elts, k, tp, rfl, rfl, rfl⟩ := nmT1_inv hn
        rw [hn] at h
        obtain ⟨x, pe⟩ := r
        simp only [Bool.and_eq_true, decide_eq_true_eq, List.isEmpty_iff] at h
        obtain ⟨⟨⟨⟨rfl, rfl⟩, h3⟩, h4⟩, h5⟩ := h
        have := sl_enum (hid := hid) (elts := elts) (kk := k) (tpos := tp) (pos := pos) (p := p) (gl_of ctx h3) (ctx.blt _ (by decide +kernel)) h4 (mE e ctx h5)
        exact pl_fun this fun s => by rw [evItL]
    | _ => simp [chIt] at h
  | .zip a b, X, c, tg, iter, ctx, h => by
    cases iter with
    | Call g pes kws pos =>
      simp only [chIt] at h
      cases hn : nmT2 g pes tg with
      | none => rw [hn] at h; cases h
      | some r =>
        obtain ⟨p, elts, k, tp, rfl, rfl, rfl⟩ := nmT2_inv hn
        rw [hn] at h
        obtain ⟨x, pa, pb⟩ := r
        simp only [Bool.and_eq_true, decide_eq_true_eq, List.isEmpty_iff] at h
        obtain ⟨⟨⟨⟨⟨⟨rfl, rfl⟩, h3⟩, h4⟩, h5⟩, h6⟩, h7⟩ := h
        have := sl_zip (hid := hid) (elts := elts) (kk := k) (tpos := tp) (pos := pos) (p := p) (gl_of ctx h3) (ctx.blt _ (by decide +kernel)) h4 h5 (mE a ctx h6) (mE b ctx h7)
        exact pl_fun this fun s => by rw [evItL]
    | _ => simp [chIt] at h

theorem sr_var {X : Cx} {e : Expr} {i : Nat} (h : PE X e (tE X.K (ev G (.var i)))) : PE X e (tR X.K fun s => (gv s i).bind fun m => some (m, s.set i none)) := pe_imp h fun σ H Q ⟨F, s, fp, m, s', ok, e, k⟩ => by
  obtain ⟨m0, e1, e⟩ := bind_inv e
  cases e
  have hm := gv_inv e1
  have e2 : ev G (.var i) s = (look s ⟨i, []⟩).map fun r => (r, s) := by rw [ev]
  have eg : getP s ⟨i, []⟩ = some m := by
    unfold getP; rw [hm]; rfl
  have el : look s ⟨i, []⟩ = some (.pl ⟨i, []⟩) ∨ ∃ d, look s ⟨i, []⟩ = some (.m (.fz d)) ∧ m = .fz d := by
    unfold look
    rw [eg]
    cases m with
    | fz d => exact .inr ⟨d, rfl, rfl⟩
    | tup ms => exact .inl rfl
    | lst ms => exact .inl rfl
    | ins c ms => exact .inl rfl
  rcases el with el | ⟨d, el, rfl⟩
  · rw [el] at e2
    refine ⟨F, s, fp, _, _, ok, e2, fun F' H' v fm fp' g r => ?_⟩
    obtain ⟨hf, v0, h1, h2⟩ := r
    subst hf
    have h2 : v0 = v := h2
    subst h2
    obtain ⟨w, f, f1, f2, q1, q2, q3, _, q5⟩ := g.ok.rep.focus hm
    have h1 : σ[i]? = some (some v0) := h1
    rw [h1] at q1
    cases q1
    have slr : SlR X.K F' H' (s.set i none) σ (f1 ++ f2) := by
      have := q5 F' H' (some v0) (same_refl _) fun _ _ => rfl
      rw [set_back h1] at this
      exact this
    have g5 := g.hold slr (fh := f) (by
      rw [q3, ← List.append_assoc]
      exact List.perm_append_comm.append_right _)
    rw [List.nil_append] at g5
    exact k F' H' v0 f _ g5 q2
  · rw [el] at e2
    refine ⟨F, s, fp, _, _, ok, e2, fun F' H' v fm fp' g r => ?_⟩
    obtain ⟨w, f, f1, f2, q1, q2, q3, _, q5⟩ := g.ok.rep.focus hm
    have slr : SlR X.K F' H' (s.set i none) σ (f1 ++ f2) := by
      have := q5 F' H' (some w) (same_refl _) fun _ _ => rfl
      rw [set_back q1] at this
      exact this
    exact k F' H' v fm _ (g.restate slr (fd := f) (by
      rw [q3, ← List.append_assoc]
      exact List.perm_append_comm.append_right _)) r
theorem sr_varG {X : Cx} {e : Expr} {i : Nat} (h : PE X e (tE X.K (ev G (.var i)))) : PE X e (tRG X.K (some i) fun s => (gv s i).bind fun m => some (m, s.set i none)) := pe_imp h fun σ H Q ⟨F, s, fp, m, s', ok, e, k⟩ => by
  obtain ⟨m0, e1, e⟩ := bind_inv e
  cases e
  have hm := gv_inv e1
  have e2 : ev G (.var i) s = (look s ⟨i, []⟩).map fun r => (r, s) := by rw [ev]
  have eg : getP s ⟨i, []⟩ = some m := by
    unfold getP; rw [hm]; rfl
  have el : look s ⟨i, []⟩ = some (.pl ⟨i, []⟩) ∨ ∃ d, look s ⟨i, []⟩ = some (.m (.fz d)) ∧ m = .fz d := by
    unfold look
    rw [eg]
    cases m with
    | fz d => exact .inr ⟨d, rfl, rfl⟩
    | tup ms => exact .inl rfl
    | lst ms => exact .inl rfl
    | ins c ms => exact .inl rfl
  rcases el with el | ⟨d, el, rfl⟩
  · rw [el] at e2
    refine ⟨F, s, fp, _, _, ok, e2, fun F' H' v fm fp' g r => ?_⟩
    obtain ⟨hf, v0, h1, h2⟩ := r
    subst hf
    have h2 : v0 = v := h2
    subst h2
    obtain ⟨w, f, f1, f2, q1, q2, q3, _, q5⟩ := g.ok.rep.focus hm
    have h1 : σ[i]? = some (some v0) := h1
    rw [h1] at q1
    cases q1
    have slr : SlR X.K F' H' (s.set i none) σ (f1 ++ f2) := by
      have := q5 F' H' (some v0) (same_refl _) fun _ _ => rfl
      rw [set_back h1] at this
      exact this
    have g5 := g.hold slr (fh := f) (by
      rw [q3, ← List.append_assoc]
      exact List.perm_append_comm.append_right _)
    rw [List.nil_append] at g5
    exact k F' H' v0 f _ g5.cut q2 fun j hj _ => by cases hj; exact h1
  · rw [el] at e2
    refine ⟨F, s, fp, _, _, ok, e2, fun F' H' v fm fp' g r => ?_⟩
    obtain ⟨w, f, f1, f2, q1, q2, q3, _, q5⟩ := g.ok.rep.focus hm
    have slr : SlR X.K F' H' (s.set i none) σ (f1 ++ f2) := by
      have := q5 F' H' (some w) (same_refl _) fun _ _ => rfl
      rw [set_back q1] at this
      exact this
    exact k F' H' v fm _ ((g.restate slr (fd := f) (by
      rw [q3, ← List.append_assoc]
      exact List.perm_append_comm.append_right _)).cut) r fun j _ hm => by simp [M.isD] at hm
mutual
theorem mR : ∀ (e : E) {X : Cx} {c : CC} {pe : Expr}, CtxOk X c G → chE c e pe = true → PE X pe (tR X.K (evRet G e))
  | .var i, X, c, pe, ctx, h => pr_fun (sr_var (mE (.var i) ctx h)) fun s => by rw [evRet]
  | .tup es, X, c, pe, ctx, h => by
    cases pe with
    | Tuple pes k pos =>
      simp only [chE] at h
      exact pr_fun (sr_tup (mRs es ctx h)) fun s => by rw [evRet]
    | _ => simp [chE] at h
  | .lit d, X, c, pe, ctx, h => pr_fun (sr_val (mE (.lit d) ctx h)) fun s => by rfl
  | .con k, X, c, pe, ctx, h => pr_fun (sr_val (mE (.con k) ctx h)) fun s => by rfl
  | .lst es, X, c, pe, ctx, h => by
    cases pe with
    | List pes pos =>
      simp only [chE] at h
      exact pr_fun (sr_lst (mRs es ctx h)) fun s => by rw [evRet]
    | _ => simp [chE] at h
  | .bin o a b, X, c, pe, ctx, h => pr_fun (sr_val (mE (.bin o a b) ctx h)) fun s => by rfl
  | .neg a, X, c, pe, ctx, h => pr_fun (sr_val (mE (.neg a) ctx h)) fun s => by rfl
  | .cmp o a b, X, c, pe, ctx, h => pr_fun (sr_val (mE (.cmp o a b) ctx h)) fun s => by rfl
  | .chain o p a b d, X, c, pe, ctx, h => pr_fun (sr_val (mE (.chain o p a b d) ctx h)) fun s => by rfl
  | .bool k es, X, c, pe, ctx, h => pr_fun (sr_val (mE (.bool k es) ctx h)) fun s => by rfl
  | .not_ a, X, c, pe, ctx, h => pr_fun (sr_val (mE (.not_ a) ctx h)) fun s => by rfl
  | .ite t a b, X, c, pe, ctx, h => pr_fun (sr_val (mE (.ite t a b) ctx h)) fun s => by rfl
  | .sub a i, X, c, pe, ctx, h => pr_fun (sr_val (mE (.sub a i) ctx h)) fun s => by rfl
  | .isin t a, X, c, pe, ctx, h => pr_fun (sr_val (mE (.isin t a) ctx h)) fun s => by rfl
  | .lrange es, X, c, pe, ctx, h => pr_fun (sr_val (mE (.lrange es) ctx h)) fun s => by rfl
  | .index a e, X, c, pe, ctx, h => pr_fun (sr_val (mE (.index a e) ctx h)) fun s => by rfl
  | .revs a, X, c, pe, ctx, h => pr_fun (sr_val (mE (.revs a) ctx h)) fun s => by rfl
  | .rev a, X, c, pe, ctx, h => pr_fun (sr_val (mE (.rev a) ctx h)) fun s => by rfl
  | .slc bl bh a lo hi, X, c, pe, ctx, h => pr_fun (sr_val (mE (.slc bl bh a lo hi) ctx h)) fun s => by rfl
  | .call w k es, X, c, pe, ctx, h => pr_fun (sr_val (mE (.call w k es) ctx h)) fun s => by rfl
  | .bi f es, X, c, pe, ctx, h => pr_fun (sr_val (mE (.bi f es) ctx h)) fun s => by rfl
  | .comp e own t it, X, c, pe, ctx, h => pr_fun (sr_val (mE (.comp e own t it) ctx h)) fun s => by rfl
  | .compIf e own t it d, X, c, pe, ctx, h => pr_fun (sr_val (mE (.compIf e own t it d) ctx h)) fun s => by rfl
  | .tupS a b, X, c, pe, ctx, h => pr_fun (sr_val (mE (.tupS a b) ctx h)) fun s => by rfl
  | .cget k a, X, c, pe, ctx, h => pr_fun (sr_val (mE (.cget k a) ctx h)) fun s => by rfl
  | .cin n k a, X, c, pe, ctx, h => pr_fun (sr_val (mE (.cin n k a) ctx h)) fun s => by rfl
  | .cio k es, X, c, pe, ctx, h => pr_fun (sr_val (mE (.cio k es) ctx h)) fun s => by rfl
theorem mRs : ∀ (es : Es) {X : Cx} {c : CC} {pes : List Expr}, CtxOk X c G → chEs c es pes = true → PA X pes (tRs X.K (evRets G es))
  | .nil, X, c, pes, ctx, h => by
    cases pes with
    | nil => exact prs_fun sr_nil fun s => by rw [evRets]
    | cons _ _ => simp [chEs] at h
  | .cons e es, X, c, pes, ctx, h => by
    cases pes with
    | nil => simp [chEs] at h
    | cons pe pes =>
      simp only [chEs, Bool.and_eq_true] at h
      exact prs_fun (sr_cons (mR e ctx h.1.2) (mRs es ctx h.2) (star_cons h.1.1)) fun s => by rw [evRets]
end
theorem prg_fun {X : Cx} {e : Expr} {j : Option Nat} {f f' : Sl → Option (M × Sl)} (h : PE X e (tRG X.K j f)) (hf : ∀ s, f' s = f s) : PE X e (tRG X.K j f') := by
  have : f' = f := funext hf
  rw [this]; exact h
theorem mRL {X : Cx} {c : CC} {pe : Expr} (e : E) (ctx : CtxOk X c G) (h : chL c e pe = true) : PE X pe (tRG X.K (retv e) (evRet G e)) := by
  cases e with
  | cio k es => exact prg_fun (prL (mCio ctx h)) fun s => by rfl
  | var i => exact prg_fun (sr_varG (mE (.var i) ctx h)) fun s => by rw [evRet]
  | _ => exact prG (mR _ ctx h)
mutual
theorem sto_S : ∀ (s : S) {x : Nat}, s.sto x = true → s.ment x = true
  | .expr _, _, h | .ret _, _, h | .setI _ _ _ _, _, h | .app _ _ _, _, h | .ext _ _, _, h | .pop _, _, h | .clr _, _, h | .brk, _, h | .cont, _, h | .pass, _, h => by simp [S.sto] at h
  | .asg _ t e, _, h => by
    simp only [S.sto] at h
    simp only [S.ment, h, Bool.true_or]
  | .asgPop t e, _, h => by
    simp only [S.sto] at h
    simp only [S.ment, h, Bool.true_or]
  | .aug i o e, _, h => by
    simp only [S.sto] at h
    simp only [S.ment, h, Bool.true_or]
  | .ifs c a b, _, h => by
    simp only [S.sto, Bool.or_eq_true] at h
    rcases h with h | h
    · simp only [S.ment, sto_Ss a h, Bool.or_true, Bool.true_or]
    · simp only [S.ment, sto_Ss b h, Bool.or_true]
  | .for_ t it b, _, h => by
    simp only [S.sto, Bool.or_eq_true] at h
    rcases h with h | h
    · simp only [S.ment, h, Bool.true_or]
    · simp only [S.ment, sto_Ss b h, Bool.or_true]
  | .while_ c b, _, h => by
    simp only [S.sto] at h
    simp only [S.ment, sto_Ss b h, Bool.or_true]
theorem sto_Ss : ∀ (s : Ss) {x : Nat}, s.sto x = true → s.ment x = true
  | .nil, _, h => by simp [Ss.sto] at h
  | .cons s ss, _, h => by
    simp only [Ss.sto, Bool.or_eq_true] at h
    rcases h with h | h
    · simp only [Ss.ment, sto_S s h, Bool.true_or]
    · simp only [Ss.ment, sto_Ss ss h, Bool.or_true]
end
/-- name = [..] on one line -/
theorem sx_setLc {X : Cx} {c : CC} (ctx : CtxOk X c G) {b : Nat → Bool} {deep : Bool} {own : List Nat} {t : T} {scope : Scope} {elt tg iter : Expr} {ifs : List Expr} {pos spos py : Pos} {y : Str} {i : Nat} {fi : Sl → Option (List D × Sl)} {ft : Sl → Option (Bool × Sl)} {fe : Sl → Option (Res × Sl)}
    (hl : chLc c (.var i) (.Name y py) (.ListComp elt [⟨tg, iter, ifs, 0⟩] scope pos) = true) (hbi : b i = true)
    (hb : chBlk c scope own t tg iter = true) (hi : PI X tg iter (tIt X.K fi)) (ht : ∀ X', X'.K = X.K → CtxOk X' (c.blk scope) G → PTs X' ifs (tTs X.K ft)) (he : ∀ X', X'.K = X.K → CtxOk X' (c.blk scope) G → PE X' elt (tE X.K fe)) :
    PS X (.Assign [.Name y py] (.ListComp elt [⟨tg, iter, ifs, 0⟩] scope pos) spos) (tX X.K b fun s => bd ((fun s => bd (fi s) fun ds s1 => bd (compL own t ft (fun s => bd (fe s) fun r s' => toS s' r) ds (wipeS s1 own)) fun ms s2 => if ms.length ≤ sizeLine then some (.m (.lst ms), backS s1 s2 own) else none) s)
      fun r s1 => bd (toS s1 r) fun m s2 => (setT s2 (.var i) (fin deep m)).map .nx) := by
  unfold chBlk at hb
  simp only [Bool.and_eq_true] at hb
  obtain ⟨⟨⟨⟨⟨b1, b2⟩, b3⟩, b4⟩, b5⟩, b6⟩ := hb
  unfold chLc at hl
  simp only [Bool.and_eq_true, decide_eq_true_eq] at hl
  obtain ⟨⟨⟨l1, l2⟩, l3⟩, l4⟩ := hl
  unfold lcOk at l4
  rw [Bool.and_eq_true, Bool.not_eq_true'] at l4
  have hk : X.env.scope.kind = .function := by
    rw [ctx.sc]
    unfold isFn at l3
    split at l3
    · rename_i hh; exact hh
    · cases l3
  have hyl : X.env.scope.names.lookup y = some .local := by rw [ctx.sc]; exact l2
  have hy : X.N[i]? = some y := by
    unfold chName at l1
    simp only [Bool.and_eq_true, decide_eq_true_eq] at l1
    rw [ctx.N]; exact l1.1.1
  have bo : BlkOk X.N X.env.scope scope (ownOf c own) := by
    rw [ctx.N, ctx.sc]; exact blkOk_by b1
  refine ⟨fun pins s0 σ H DD I h => ?_⟩
  refine (ps_setLc ctx.calm ctx.nd hy hyl (sw_true hk hyl l4.1 l4.2) hi bo (g := gT X.K t) (fun s H C cl fp => pgT_ok (ctx.blk s H scope C cl fp) b5) (fun s H C cl fp => ht _ rfl (ctx.blk s H scope C cl fp)) (fun s H C cl fp => he _ rfl (ctx.blk s H scope C cl fp)) (fun x => n_set b6 _ x)).run pins s0 σ H DD I ?_
  rw [ownOf_snd]
  refine comp_imp (of_decide_eq_true b2) (fun i hi => ?_) σ H _ (fun i hi => ?_) (asg_imp (t := .var i) (deep := deep) (fun j hj => ?_) DD h)
  · exact of_decide_eq_true (List.all_eq_true.mp b3 i hi)
  · have := of_decide_eq_true (List.all_eq_true.mp b4 i hi)
    rw [I.len, ctx.N]; exact this
  · simp [T.vars] at hj; subst hj; exact hbi

mutual
theorem mS (hW : ∀ c f s o, W c f s = some o → ∃ n, loopN n c f s = some o) : ∀ (s : S) {X : Cx} {c : CC} {st : Stmt}, CtxOk X c G → PassesOwn (model X.prog X.w) X.A X.env X.xe → chS c s st = true → PS X st (tX X.K (fun i => s.sto i) (exec G W s))
  | .expr e, X, c, st, ctx, po, h => by
    cases st with
    | Expr pe pos =>
      simp only [chS, Bool.and_eq_true] at h
      exact ps_fun (sx_exprL (mL e ctx h.2) (sw_nc h.1 _ _ _)) fun s => by rw [exec]
    | _ => simp [chS] at h
  | .asg deep t e, X, c, st, ctx, po, h => by
    cases st with
    | Assign tgs pe pos =>
      simp only [chS] at h
      cases ht : tg1 tgs with
      | none => rw [ht] at h; cases h
      | some tg =>
        rw [ht] at h
        have := tg1_inv ht
        subst this
        simp only [Bool.and_eq_true, Bool.or_eq_true] at h
        obtain ⟨h1, h2⟩ := h
        rcases h1 with ⟨⟨⟨h1, h3⟩, h4⟩, h5⟩ | h1
        · have hsw : ∀ l, swapsWithSole [tg] pe l X.env = pure false := fun l => h1.elim (fun h1 => sw_nc h1 _ _ _) (fun h1 => sw_cell h1 ctx.sc l)
          exact ps_fun (sx_asgL (mL e ctx h2) (pgT_ok ctx h5) (fun i hi => by simp only [S.sto, tvar_ment i hi]) (hsw _) (sp_none h3 _) (ae_one h4 _)) fun s => by rw [exec]
        · cases t with
          | var i =>
            cases tg with
            | Name y py =>
              cases pe with
              | ListComp pe gs scope lpos =>
                cases e with
                | comp e own t it =>
                  match gs, h1, h2 with
                  | [⟨tg, iter, [], asy⟩], h1, h2 =>
                    simp only [chL, chE, Bool.and_eq_true, decide_eq_true_eq] at h2
                    obtain ⟨⟨⟨rfl, q2⟩, q3⟩, q4⟩ := h2
                    exact ps_fun (sx_setLc ctx h1 (by simp [S.sto, T.ment]) q2 (mIt it ctx q3) (fun X' hK ctx' => by rw [← hK]; exact pts_yes) (fun X' hK ctx' => by rw [← hK]; exact mE e ctx' q4)) fun s => by rw [exec, ev]
                  | [], _, h => simp [chL, chE] at h
                  | _ :: _ :: _, _, h => simp [chL, chE] at h
                  | [⟨_, _, _ :: _, _⟩], _, h => simp [chL, chE] at h
                | compIf e own t it d =>
                  match gs, h1, h2 with
                  | [⟨tg, iter, [pd], asy⟩], h1, h2 =>
                    simp only [chL, chE, Bool.and_eq_true, decide_eq_true_eq] at h2
                    obtain ⟨⟨⟨⟨rfl, q2⟩, q3⟩, q4⟩, q5⟩ := h2
                    exact ps_fun (sx_setLc ctx h1 (by simp [S.sto, T.ment]) q2 (mIt it ctx q3) (fun X' hK ctx' => by rw [← hK]; exact pts_one (mTst d ctx' q5)) (fun X' hK ctx' => by rw [← hK]; exact mE e ctx' q4)) fun s => by rw [exec, ev]
                  | [], _, h => simp [chL, chE] at h
                  | _ :: _ :: _, _, h => simp [chL, chE] at h
                  | [⟨_, _, [], _⟩], _, h => simp [chL, chE] at h
                  | [⟨_, _, _ :: _ :: _, _⟩], _, h => simp [chL, chE] at h
                | lit d => cases d <;> simp [chL, chE] at h2
                | cio k es => simp [chL, chIo] at h2
                | _ => simp [chL, chE, meth1, revOf, starOf, nmSub, nmIn] at h2
              | _ => simp [chLc, lcOk] at h1
            | _ => simp [chLc] at h1
          | _ => simp [chLc] at h1
    | _ => simp [chS] at h
  | .setI deep a i e, X, c, st, ctx, po, h => by
    cases st with
    | Assign tgs pe pos =>
      simp only [chS] at h
      cases ht : sub1 tgs with
      | none => rw [ht] at h; cases h
      | some r =>
        rw [ht] at h
        have := sub1_inv ht
        subst this
        obtain ⟨pa, pi, apos⟩ := r
        simp only [Bool.and_eq_true] at h
        obtain ⟨⟨⟨h1, h2⟩, h3⟩, h4⟩ := h
        refine ps_fun (sx_setI (deep := deep) (mE e ctx h4) (mE a ctx h2) (mE i ctx h3) (by cases pe <;> rfl) (sp_none rfl _) fun v => ?_) fun s => by rw [exec]
        cases pi <;> first | rfl | cases h1
    | _ => simp [chS] at h
  | .aug i o e, X, c, st, ctx, po, h => by
    cases st with
    | AugAssign tg op pe pos =>
      simp only [chS, Bool.and_eq_true, decide_eq_true_eq] at h
      obtain ⟨⟨h1, rfl⟩, h3⟩ := h
      obtain ⟨x, q, rfl⟩ := chName_is h1
      unfold chName at h1
      rw [Bool.and_eq_true, Bool.and_eq_true] at h1
      obtain ⟨⟨q1, q2⟩, q3⟩ := h1
      have q1 := of_decide_eq_true q1
      rw [← ctx.N] at q1
      refine ps_fun (sx_aug ctx.nd q1 ?_ (mE e ctx h3) ?_ (by simp [S.sto])) fun s => by rw [exec]
      · unfold L2.Loc
        rw [ctx.sc]
        simpa using q2
      · rw [ctx.fn, ctx.sc]
        simpa using q3
    | _ => simp [chS] at h
  | .app deep a e, X, c, st, ctx, po, h => by
    cases st with
    | Expr pe pos =>
      simp only [chS] at h
      cases hm : meth pe with
      | none => rw [hm] at h; cases h
      | some r =>
        rw [hm] at h
        obtain ⟨apos, cpos, rfl, ln, nc⟩ := meth_inv hm
        obtain ⟨pa, n, es⟩ := r
        simp only [Bool.and_eq_true, decide_eq_true_eq] at h
        obtain ⟨⟨rfl, h2⟩, h3⟩ := h
        cases ht : tg1 es with
        | none => rw [ht] at h3; cases h3
        | some x =>
          rw [ht] at h3
          have := tg1_inv ht
          subst this
          simp only [Bool.and_eq_true] at h3
          exact ps_fun (sx_app (mE a ctx h2) (mE e ctx h3.2) h3.1 (ab_nc nc _ _ _) ln) fun s => by rw [exec]
    | _ => simp [chS] at h
  | .ext a e, X, c, st, ctx, po, h => by
    cases st with
    | Expr pe pos =>
      simp only [chS] at h
      cases hm : meth pe with
      | none => rw [hm] at h; cases h
      | some r =>
        rw [hm] at h
        obtain ⟨apos, cpos, rfl, ln, nc⟩ := meth_inv hm
        obtain ⟨pa, n, es⟩ := r
        simp only [Bool.and_eq_true, decide_eq_true_eq] at h
        obtain ⟨⟨rfl, h2⟩, h3⟩ := h
        cases ht : tg1 es with
        | none => rw [ht] at h3; cases h3
        | some x =>
          rw [ht] at h3
          have := tg1_inv ht
          subst this
          simp only [Bool.and_eq_true] at h3
          exact ps_fun (sx_ext (mE a ctx h2) (mE e ctx h3.2) h3.1 (ab_nc nc _ _ _) ln) fun s => by rw [exec]
    | _ => simp [chS] at h
  | .pop a, X, c, st, ctx, po, h => by
    cases st with
    | Expr pe pos =>
      simp only [chS] at h
      cases hm : meth pe with
      | none => rw [hm] at h; cases h
      | some r =>
        rw [hm] at h
        obtain ⟨apos, cpos, rfl, ln, nc⟩ := meth_inv hm
        obtain ⟨pa, n, es⟩ := r
        simp only [Bool.and_eq_true, decide_eq_true_eq, List.isEmpty_iff] at h
        obtain ⟨⟨rfl, h2⟩, rfl⟩ := h
        exact ps_fun (sx_pop (mE a ctx h2) (ab_nc nc _ _ _) ln) fun s => by rw [exec]
    | _ => simp [chS] at h
  | .clr a, X, c, st, ctx, po, h => by
    cases st with
    | Expr pe pos =>
      simp only [chS] at h
      cases hm : meth pe with
      | none => rw [hm] at h; cases h
      | some r =>
        rw [hm] at h
        obtain ⟨apos, cpos, rfl, ln, nc⟩ := meth_inv hm
        obtain ⟨pa, n, es⟩ := r
        simp only [Bool.and_eq_true, decide_eq_true_eq, List.isEmpty_iff] at h
        obtain ⟨⟨rfl, h2⟩, rfl⟩ := h
        exact ps_fun (sx_clr (mE a ctx h2) (ab_nc nc _ _ _) ln) fun s => by rw [exec]
    | _ => simp [chS] at h
  | .asgPop t a, X, c, st, ctx, po, h => by
    cases st with
    | Assign tgs pe pos =>
      simp only [chS] at h
      cases ht : tg1 tgs with
      | none => rw [ht] at h; cases h
      | some tg =>
        cases hm : meth pe with
        | none => rw [ht, hm] at h; cases h
        | some r =>
          rw [ht, hm] at h
          have := tg1_inv ht
          subst this
          obtain ⟨apos, cpos, rfl, ln, nc⟩ := meth_inv hm
          obtain ⟨pa, n, es⟩ := r
          simp only [Bool.and_eq_true, decide_eq_true_eq, List.isEmpty_iff] at h
          obtain ⟨⟨⟨⟨h1, h2⟩, rfl⟩, h4⟩, rfl⟩ := h
          exact ps_fun (sx_asgPop (mE a ctx h4) (pgT_ok ctx h2) (fun i hi => by simp only [S.sto, tvar_ment i hi]) (ab_nc nc _ _ _) ln (sw_nc (e := .Call (.Attribute pa "pop" apos) [] [] cpos) rfl (some tg) pos.line X.env) (sp_none (t := tg) (e := .Call (.Attribute pa "pop" apos) [] [] cpos) (by cases tg <;> rfl) X.env) (ae_one h1 _)) fun s => by rw [exec]
    | _ => simp [chS] at h
  | .ifs t a b, X, c, st, ctx, po, h => by
    cases st with
    | If pt pa pb pos =>
      simp only [chS, Bool.and_eq_true] at h
      exact ps_fun (sx_if (mTst t ctx h.1.1) (mSs hW a ctx po h.1.2) (mSs hW b ctx po h.2) (fun i hi => by simp only [S.sto, hi, Bool.true_or]) (fun i hi => by simp only [S.sto, hi, Bool.or_true])) fun s => by rw [exec]
    | _ => simp [chS] at h
  | .for_ t it b, X, c, st, ctx, po, h => by
    cases st with
    | For tg iter body orelse pos =>
      simp only [chS, Bool.and_eq_true, List.isEmpty_iff] at h
      obtain ⟨⟨⟨⟨rfl, h2⟩, h3⟩, h4⟩, h5⟩ := h
      refine ps_fun (sx_for (bl := fun i => t.ment i || b.sto i) po ctx.calm (mItL (fun i => !(t.ment i || b.ment i)) it ctx h3) (pgT_ok ctx h2) (mSs hW b ctx po h4) (fun x => n_set h5 _ x) (fun i hi => by
        have hi : (t.ment i || b.ment i) = false := by simpa using hi
        rw [Bool.or_eq_false_iff] at hi
        cases hs : b.sto i with
        | false => rw [hi.1]; rfl
        | true => rw [sto_Ss b hs] at hi; cases hi.2) (fun i hi => by simp only [tvar_ment i hi, Bool.true_or]) (fun i hi => by simp only [hi, Bool.or_true]) fun i hi => ?_) fun s => by rw [exec]
      simp only [S.sto]
      exact hi
    | _ => simp [chS] at h
  | .while_ t b, X, c, st, ctx, po, h => by
    cases st with
    | While pt body orelse pos =>
      simp only [chS, Bool.and_eq_true, List.isEmpty_iff] at h
      obtain ⟨⟨rfl, h2⟩, h3⟩ := h
      exact ps_fun (sx_while po (mTst t ctx h2) (mSs hW b ctx po h3) (fun i hi => by simp only [S.sto, hi]) hW) fun s => by rw [exec]
    | _ => simp [chS] at h
  | .ret e, X, c, st, ctx, po, h => by
    cases st with
    | Return pe pos =>
      cases pe with
      | some pe =>
        simp only [chS] at h
        exact ps_fun (sx_retG (mRL e ctx h)) fun s => by rw [exec]
      | none =>
        cases e with
        | lit d =>
          cases d with
          | non => exact ps_fun sx_retN fun s => rfl
          | _ => simp [chS] at h
        | _ => simp [chS] at h
    | _ => simp [chS] at h
  | .brk, X, c, st, ctx, po, h => by
    cases st with
    | Break pos => exact ps_fun sx_brk fun s => by rw [exec]
    | _ => simp [chS] at h
  | .cont, X, c, st, ctx, po, h => by
    cases st with
    | Continue pos => exact ps_fun sx_cont fun s => by rw [exec]
    | _ => simp [chS] at h
  | .pass, X, c, st, ctx, po, h => by
    cases st with
    | Pass pos => exact ps_fun sx_pass fun s => by rw [exec]
    | _ => simp [chS] at h
theorem mSs (hW : ∀ c f s o, W c f s = some o → ∃ n, loopN n c f s = some o) : ∀ (ss : Ss) {X : Cx} {c : CC} {sts : List Stmt}, CtxOk X c G → PassesOwn (model X.prog X.w) X.A X.env X.xe → chSs c ss sts = true → PSs X sts (tX X.K (fun i => ss.sto i) (execs G W ss))
  | .nil, X, c, sts, ctx, po, h => by
    cases sts with
    | nil => exact pss_fun sx_nil fun s => by rw [execs]
    | cons _ _ => simp [chSs] at h
  | .cons s ss, X, c, sts, ctx, po, h => by
    cases sts with
    | nil => simp [chSs] at h
    | cons st sts =>
      simp only [chSs, Bool.and_eq_true] at h
      exact pss_fun (sx_cons (mS hW s ctx po h.1) (mSs hW ss ctx po h.2) (fun i hi => by simp only [Ss.sto, hi, Bool.true_or]) (fun i hi => by simp only [Ss.sto, hi, Bool.or_true])) fun s => by rw [execs]
end
end VS
end

section
set_option maxHeartbeats 2000000
/-! VS: defs. -/
namespace VS
open PySem L2
variable {P : Program} {w : World} {K : PySem.W.Frag} {mg : Str → Option Value} {base : Heap}

/-- the parameters that are changed keep their object; the answer is one of them, or none -/
def ioOk (d : Def) : Bool := ((List.range d.io.length).all fun i => !(d.io[i]? == some true) || !(d.body.sto i)) && (match d.al with | none => true | some a => d.io[a]? == some true) && decide (d.io.length ≤ d.np)
/-- a def of the text, as told -/
structure DefF (K : PySem.W.Frag) (mg : Str → Option Value) (PD : List Def) (tab : List (Str × Nat × List Str)) (cons dcs : List Str) (k : Nat) (d : Def) (x : Str) (st : Stmt) (f : Addr) (fd : FuncData) (N ps : List Str) (ks : List Str) : Prop where
  nm : tab[k]? = some (x, d.np, ks)
  fn : Fun K x x st f fd
  sc : FnScope N ps (defScope st)
  bd : BindK K fd ps d.np ks
  gl : mg x = some (.ref f)
  np : ps.length = d.np
  n : N.length = d.n
  io : ioOk d = true
  ch : chSs ⟨defScope st, N, fun _ => true, tab, cons, dcs, alOf PD⟩ d.body (defBody st) = true
theorem bindK_pos {fd : FuncData} {ps : List Str} {np : Nat} (h : Binds K fd ps []) : BindK K fd ps np [] := by
  unfold BindK
  rw [if_pos rfl]; exact h
theorem bindK_kw {fd : FuncData} {ps ks : List Str} {np : Nat} (hk : ks ≠ []) (hn : ps.length = np) (hl : ks.length ≤ np) (h : ∀ us ws : List Value, us.length = np - ks.length → ws.length = ks.length → bindArgs fd ⟨us, ks.zip ws⟩ = pure (ps.zip (us ++ ws))) : BindK K fd ps np ks := by
  unfold BindK
  rw [if_neg hk]
  have hk0 : 0 < ks.length := List.length_pos_iff.mpr hk
  refine ⟨fun s us ws _ hg => ?_, fun {vs us zs ws} r rz => ?_⟩
  · unfold gK at hg ⊢
    by_cases hc : us.length = np - ks.length ∧ ws.length = ks.length
    · rw [if_pos hc]
      exact .of_eq (h us ws hc.1 hc.2)
    · rw [if_neg hc] at hg
      rw [← hg] at hn
      rw [← hn] at hl
      simp at hl
      exact absurd hl hk
  · unfold gK
    rw [r.length, rz.length]
    split
    · exact r.append rz
    · exact .nil
theorem SlR.owned {F H : Hp} : ∀ {ms : List M} {vs : List V} {f : List Addr}, Owns K F H ms vs f → ∀ k : Nat, SlR K F H (ms.map some ++ List.replicate k none) (vs.map some ++ List.replicate k none) f
  | _, _, _, .nil, 0 => .nil
  | _, _, _, .nil, k + 1 => by
    show SlR K F H (none :: List.replicate k none) (none :: List.replicate k none) []
    exact .no (SlR.owned .nil k)
  | _, _, _, .cons r rs, k => SlR.so r (SlR.owned rs k)
theorem outs_ok {F H : Hp} : ∀ {bs : List Bool} {s : Sl} {σ : St} {f : List Addr} {vs : List V} {outs : List M}, SlR K F H s σ f → (∀ i : Nat, bs[i]? = some true → σ[i]? = (vs[i]?).map some) → outsIO bs s = some outs →
    ∃ fo, Outs K F H bs outs vs fo ∧ fo.Sublist f
  | [], _, _, _, _, _, _, _, e => by
    simp only [outsIO, Option.some.injEq] at e
    subst e
    exact ⟨[], .nil, List.nil_sublist _⟩
  | true :: bs, _, _, _, vs, _, .so (m := m) (v := v) (f := f) (g := g) o r, h, e => by
    simp only [outsIO] at e
    obtain ⟨l, e1, e2⟩ := map_inv e
    subst e2
    have h0 := h 0 rfl
    cases vs with
    | nil => simp at h0
    | cons v' vs =>
      simp at h0
      subst h0
      obtain ⟨fo, h1, h2⟩ := outs_ok r (vs := vs) (fun i hi => by simpa using h (i + 1) (by simpa using hi)) e1
      exact ⟨f ++ fo, .so o h1, List.Sublist.append_left h2 _⟩
  | true :: bs, _, _, _, _, _, .no r, h, e => by simp [outsIO] at e
  | true :: bs, _, _, _, _, _, .nil, h, e => by simp [outsIO] at e
  | false :: bs, _, _, _, vs, _, .so (f := f) (g := g) o r, h, e => by
    simp only [outsIO] at e
    obtain ⟨l, e1, e2⟩ := map_inv e
    subst e2
    obtain ⟨fo, h1, h2⟩ := outs_ok r (vs := vs.tail) (fun i hi => by
      have := h (i + 1) (by simpa using hi)
      rw [List.getElem?_cons_succ] at this
      rw [this]; simp) e1
    exact ⟨fo, .no h1, h2.trans (List.sublist_append_right _ _)⟩
  | false :: bs, _, _, _, vs, _, .no r, h, e => by
    simp only [outsIO] at e
    obtain ⟨l, e1, e2⟩ := map_inv e
    subst e2
    obtain ⟨fo, h1, h2⟩ := outs_ok r (vs := vs.tail) (fun i hi => by
      have := h (i + 1) (by simpa using hi)
      rw [List.getElem?_cons_succ] at this
      rw [this]; simp) e1
    exact ⟨fo, .no h1, h2⟩
  | false :: bs, _, _, _, _, _, .nil, h, e => by simp [outsIO] at e
theorem ioOk_sto {d : Def} (h : ioOk d = true) {i : Nat} (hi : d.io[i]? = some true) : d.body.sto i = false := by
  unfold ioOk at h
  rw [Bool.and_eq_true, Bool.and_eq_true, List.all_eq_true] at h
  have := h.1.1 i (List.mem_range.mpr (List.getElem?_eq_some_iff.mp hi).1)
  rw [hi] at this
  simpa using this
theorem ioOk_al {d : Def} (h : ioOk d = true) {a : Nat} (ha : d.al = some a) : d.io[a]? = some true := by
  unfold ioOk at h
  rw [Bool.and_eq_true, Bool.and_eq_true, ha] at h
  simpa using h.1.2
theorem ioOk_len {d : Def} (h : ioOk d = true) : d.io.length ≤ d.np := by
  unfold ioOk at h
  rw [Bool.and_eq_true] at h
  exact of_decide_eq_true h.2
theorem ioOf_at {PD : List Def} {k : Nat} {d : Def} (h : PD[k]? = some d) : ioOf PD k = d.io := by unfold ioOf; rw [h]; rfl
theorem alOf_at {PD : List Def} {k : Nat} {d : Def} (h : PD[k]? = some d) : alOf PD k = d.al := by unfold alOf; rw [h]; rfl
/-- what is known of all defs at a level -/
def Level (P : Program) (w : World) (K : PySem.W.Frag) (mg : Str → Option Value) (base : Heap) (W : WL) (con : Nat → D) (PD : List Def) (tab : List (Str × Nat × List Str)) (n : Nat) : Prop :=
  ∀ k p, tab[k]? = some p → ∃ f fd ps, FnOk P w K mg base CX0 n f fd ps (spI K p.2.1 (ioOf PD k) (alOf PD k) (callN W con PD n k)) ∧ mg p.1 = some (.ref f) ∧ PySem.W.keepIn K (.ref f) = true ∧ BindK K fd ps p.2.1 p.2.2
theorem def_step {W : WL} (hW : ∀ c f s o, W c f s = some o → ∃ n, loopN n c f s = some o) {con : Nat → D} {PD : List Def} {tab : List (Str × Nat × List Str)} {cons dcs : List Str} {n : Nat} (L : Level P w K mg base W con PD tab n)
    (hcon : ∀ k x, cons[k]? = some x → ∃ u v, mg x = some u ∧ RelV v u ∧ ∀ F, Rep K F (con k) v) (hblt : ∀ x ∈ bltNames, mg x = none) (hdc : ∀ j x, dcs[j]? = some x → ∃ a es n, mg x = some (.ref a) ∧ KDict K w a es n ∧ ∀ z : Str, ∃ r, PySem.W.nsIn K a z = some r ∧ match pairGet z (pairsOf (con (500 + j))) with | none => r = none | some d => ∃ u v, r = some u ∧ RelV v u ∧ ∀ F, Rep K F d v)
    {k : Nat} {d : Def} {x : Str} {st : Stmt} {f : Addr} {fd : FuncData} {N ps ks : List Str} (hd : PD[k]? = some d) (T : DefF K mg PD tab cons dcs k d x st f fd N ps ks) :
    FnOk P w K mg base CX0 (n + 1) f fd ps (spI K d.np (ioOf PD k) (alOf PD k) (callN W con PD (n + 1) k)) := by
  refine T.fn.ok T.sc (fun vs H Q E h => ?_) (fun cdv A outer s H vs Q E hr h => ?_)
  · obtain ⟨F, fa, ms, m, outs, _, ow, _, _, hl, _⟩ := h
    rw [← ow.length, hl, T.np]
  · obtain ⟨F, fa, ms, m, outs, sm, ow, nda, dia, hl, ec, k'⟩ := h
    rw [ioOf_at hd, alOf_at hd] at k'
    have ec : (PD[k]?).bind (fun d => if ms.length = d.np then run ⟨con, callN W con PD n, ioOf PD, alOf PD⟩ W d ms else none) = some (m, outs) := ec
    rw [hd] at ec
    have ec : (if ms.length = d.np then run ⟨con, callN W con PD n, ioOf PD, alOf PD⟩ W d ms else none) = some (m, outs) := ec
    rw [if_pos hl] at ec
    obtain ⟨o, e1, e2⟩ := bind_inv ec
    have ctx : CtxOk ((cxOf CX0 P w K mg base N x (defScope st) f cdv A outer s H E).nox) ⟨defScope st, N, fun _ => true, tab, cons, dcs, alOf PD⟩ ⟨con, callN W con PD n, ioOf PD, alOf PD⟩ := by
      refine ⟨rfl, T.sc.nd, rfl, rfl, rfl, ?_, hcon, hblt, hdc, fun _ => rfl, fun k p hk => ?_⟩
      · have := hr.un
        show (A.deeper _).units + 65 < cLine
        omega
      · obtain ⟨f, fd, ps, h1, h2, h3, h4⟩ := L k p hk
        exact ⟨n, f, fd, ps, h1, hr, h2, h3, h4⟩
    refine ⟨_, mSs hW d.body ctx PassesOwn.never T.ch, F, _, fa, o, ⟨sm, ?_, nda, dia⟩, e1, ?_⟩
    · unfold L2.start
      rw [T.n, ← ow.length, hl]
      exact SlR.owned ow _
    · have lv : d.np = vs.length := by rw [← hl, ow.length]
      have st0 : ∀ i, d.io[i]? = some true → (L2.start N vs)[i]? = (vs[i]?).map some := fun i hi => by
        have h1 := ioOk_len T.io
        have h2 := (List.getElem?_eq_some_iff.mp hi).1
        unfold L2.start
        rw [List.getElem?_append_left (by rw [List.length_map]; omega), List.getElem?_map]
      cases o with
      | nx s' =>
        intro F' H' σ' fp' G
        unfold endOf at e2
        dsimp only at e2
        cases ha : d.al with
        | some a => rw [ha] at e2; cases e2
        | none =>
          rw [ha] at e2 k'
          obtain ⟨l, e3, e4⟩ := map_inv e2
          cases e4
          obtain ⟨fo, h1, h2⟩ := outs_ok G.ok.rep (vs := vs) (fun i hi => by rw [G.fr i (ioOk_sto T.io hi)]; exact st0 i hi) e3
          refine k' F' H' .non [] fo ⟨G.g.mono, G.ok.same, G.g.heap, .fz .non, h1, by simpa using G.ok.nd.sublist h2, fun p hp => G.ok.dis p (h2.subset (by simpa using hp)), fun p hp => ?_, fun p o e => ?_⟩
          · exact (G.g.org p (List.mem_append_right _ (h2.subset (by simpa using hp)))).elim .inl or_cut
          · exact (G.g.new p o e).imp id fun h => h.elim .inl or_cut
      | rt j m' s' =>
        intro F' H' σ' v fm fp' G ow' lk
        unfold endOf at e2
        dsimp only at e2
        cases ha : d.al with
        | none =>
          rw [ha] at e2 k'
          obtain ⟨l, e3, e4⟩ := map_inv e2
          cases e4
          obtain ⟨fo, h1, h2⟩ := outs_ok G.ok.rep (vs := vs) (fun i hi => by rw [G.fr i (ioOk_sto T.io hi)]; exact st0 i hi) e3
          have sub : (fm ++ fo).Sublist (fm ++ fp') := List.Sublist.append_left h2 _
          refine k' F' H' v fm fo ⟨G.g.mono, G.ok.same, G.g.heap, ow', h1, G.g.nd.sublist sub, fun p hp => G.g.disA p (sub.subset hp), fun p hp => ?_, fun p o e => ?_⟩
          · exact (G.g.org p (sub.subset hp)).elim .inl or_cut
          · exact (G.g.new p o e).imp id fun h => h.elim .inl or_cut
        | some a =>
          rw [ha] at e2 k'
          dsimp only at e2
          split at e2
          case isFalse => cases e2
          rename_i hc
          obtain ⟨hj, hlt, hD⟩ := hc
          obtain ⟨l, e3, e4⟩ := map_inv e2
          cases e4
          have hv := lk a hj hD
          have hia := ioOk_al T.io ha
          have hva : vs[a]? = some v := by
            rw [G.fr a (ioOk_sto T.io hia), st0 a hia] at hv
            obtain ⟨w, h1, h2⟩ := map_inv hv
            rw [h1]; cases h2; rfl
          obtain ⟨fd', fp3, w1, w2⟩ := G.ok.rep.set hlt ow'
          rw [set_back hv] at w1
          have g2 := (show Good K F (cutF H fa) fa F' H' s' σ' ([] ++ fm) fp' from G.g).give w1 w2
          obtain ⟨fo, h1, h2⟩ := outs_ok w1 (vs := vs) (fun i hi => by rw [G.fr i (ioOk_sto T.io hi)]; exact st0 i hi) e3
          refine k' F' H' v [] fo ⟨g2.mono, g2.ok.same, g2.heap, ⟨rfl, hva⟩, h1, by simpa using g2.ok.nd.sublist h2, fun p hp => g2.ok.dis p (h2.subset (by simpa using hp)), fun p hp => ?_, fun p o e => ?_⟩
          · exact (g2.org p (List.mem_append_right _ (h2.subset (by simpa using hp)))).elim .inl or_cut
          · exact (g2.new p o e).imp id fun h => h.elim .inl or_cut
      | bk s' => cases e2
      | ct s' => cases e2
theorem levels {W : WL} (hW : ∀ c f s o, W c f s = some o → ∃ n, loopN n c f s = some o) {con : Nat → D} {PD : List Def} {tab : List (Str × Nat × List Str)} {cons dcs : List Str}
    (hcon : ∀ k x, cons[k]? = some x → ∃ u v, mg x = some u ∧ RelV v u ∧ ∀ F, Rep K F (con k) v) (hblt : ∀ x ∈ bltNames, mg x = none) (hdc : ∀ j x, dcs[j]? = some x → ∃ a es n, mg x = some (.ref a) ∧ KDict K w a es n ∧ ∀ z : Str, ∃ r, PySem.W.nsIn K a z = some r ∧ match pairGet z (pairsOf (con (500 + j))) with | none => r = none | some d => ∃ u v, r = some u ∧ RelV v u ∧ ∀ F, Rep K F d v)
    (T : ∀ k p, tab[k]? = some p → ∃ d x st f fd N ps ks, PD[k]? = some d ∧ DefF K mg PD tab cons dcs k d x st f fd N ps ks) : ∀ n, Level P w K mg base W con PD tab n
  | 0 => fun k p hk => by
    obtain ⟨d, x, st, f, fd, N, ps, ks, hd, t⟩ := T k p hk
    have e := t.nm
    rw [hk] at e
    cases e
    refine ⟨f, fd, ps, ⟨fun vs H Q E h => ?_, fun A outer s H args us vs Q E _ _ _ _ h => ?_⟩, t.gl, t.fn.kp, t.bd⟩
    · obtain ⟨F, fa, ms, m, outs, _, ow, _, _, hl, _⟩ := h
      rw [← ow.length, hl, t.np]
    · obtain ⟨F, fa, ms, m, outs, _, _, _, _, _, ec, _⟩ := h
      cases ec
  | n + 1 => fun k p hk => by
    obtain ⟨d, x, st, f, fd, N, ps, ks, hd, t⟩ := T k p hk
    have e := t.nm
    rw [hk] at e
    cases e
    exact ⟨f, fd, ps, def_step hW (levels hW hcon hblt hdc T n) hcon hblt hdc hd t, t.gl, t.fn.kp, t.bd⟩
/-- what the law promises: that its text, told here, says True -/
def spLaw (K : PySem.W.Frag) (W : WL) (con : Nat → D) (PD : List Def) (n k : Nat) : Sp := spI K 1 (ioOf PD k) (alOf PD k) (callN W con PD n k)
theorem law_says {W : WL} {con : Nat → D} {PD : List Def} {n k : Nat} {H : Hp} {a : Addr} {ns : List Int} {outs : List M} (ha : alOf PD k = none) (h : callN W con PD n k [.fz (.scr ns)] = some (.fz (.bl true), outs)) (hO : Only H) (hS : SqL K H a (ns.map V.int)) :
    spLaw K W con PD n k [.ref a] H (fun v _ => v = .bl true) (fun _ _ _ => False) := by
  refine spD_I ha ⟨H, [.scr ns], .fz (.bl true), outs, same_refl _, .cons (.scr hS) .nil, rfl, h, fun F' H' v fm L => ?_⟩
  have := L.own
  cases this with
  | fz r => cases r; rfl
theorem law_says' {W : WL} {con : Nat → D} {PD : List Def} {n k : Nat} {H : Hp} {a : Addr} {ns : List Int} (ha : alOf PD k = none) (h : ∃ outs, callN W con PD n k [.fz (.scr ns)] = some (.fz (.bl true), outs)) (hO : Only H) (hS : SqL K H a (ns.map V.int)) :
    spLaw K W con PD n k [.ref a] H (fun v _ => v = .bl true) (fun _ _ _ => False) :=
  let ⟨_, h⟩ := h
  law_says ha h hO hS
/-! ### while, with no count in sight -/
open Classical in
noncomputable def WL0 : WL := fun c f s => if h : ∃ o n, loopN n c f s = some o then some h.choose else none
theorem WL0_ok : ∀ c f s o, WL0 c f s = some o → ∃ n, loopN n c f s = some o := fun c f s o e => by
  unfold WL0 at e
  split at e
  · rename_i h
    cases e
    exact h.choose_spec
  · cases e
end VS
end

section
/-! VS: running a text. -/
namespace VS
open PySem L2
theorem bd_c {α β γ : Type} {x y : Option (α × β)} (f : α → β → Option γ) (h : x = y) : bd x f = bd y f := by rw [h]
theorem ob_c {α β : Type} {x y : Option α} (f : α → Option β) (h : x = y) : x.bind f = y.bind f := by rw [h]
theorem om_c {α β : Type} {x y : Option α} (f : α → β) (h : x = y) : x.map f = y.map f := by rw [h]
theorem it_c {α : Type} {c d : Prop} [Decidable c] [Decidable d] (a b : α) (h : c = d) : (if c then a else b) = if d then a else b := by
  by_cases hd : d
  · rw [if_pos hd, if_pos (by rw [h]; exact hd)]
  · rw [if_neg hd, if_neg (by rw [h]; exact hd)]
theorem seq_nx (g : Sl → Option O) (s : Sl) : seqO g (.nx s) = g s := rfl
theorem seq_bk (g : Sl → Option O) (s : Sl) : seqO g (.bk s) = some (.bk s) := rfl
theorem seq_ct (g : Sl → Option O) (s : Sl) : seqO g (.ct s) = some (.ct s) := rfl
theorem seq_rt (g : Sl → Option O) (j : Option Nat) (m : M) (s : Sl) : seqO g (.rt j m s) = some (.rt j m s) := rfl
theorem step_nx (g : Sl → Option O) (s : Sl) : stepO g (.nx s) = g s := rfl
theorem step_bk (g : Sl → Option O) (s : Sl) : stepO g (.bk s) = some (.nx s) := rfl
theorem step_ct (g : Sl → Option O) (s : Sl) : stepO g (.ct s) = g s := rfl
theorem step_rt (g : Sl → Option O) (j : Option Nat) (m : M) (s : Sl) : stepO g (.rt j m s) = some (.rt j m s) := rfl
theorem ob_some {α β : Type} (a : α) (f : α → Option β) : (some a).bind f = f a := rfl
theorem om_some {α β : Type} (a : α) (f : α → β) : (some a).map f = some (f a) := rfl
theorem toV_m (s : Sl) (m : M) : toV s (.m m) = some m.toD := rfl
theorem toS_m (s : Sl) (m : M) : toS s (.m m) = some (m, s) := rfl
theorem toV_pl {s : Sl} {p : Pl} {m : M} (h : getP s p = some m) : toV s (.pl p) = some m.toD := by
  show (getP s p).map _ = _
  rw [h]; rfl
theorem toD_fz (d : D) : (M.fz d).toD = d := rfl
theorem toD_lst (ms : List M) : (M.lst ms).toD = .lst (M.toDs ms) := rfl
theorem toDs_nil : M.toDs [] = [] := rfl
theorem toDs_cons (m : M) (ms : List M) : M.toDs (m :: ms) = m.toD :: M.toDs ms := rfl
theorem toDs_fz : ∀ ds : List D, M.toDs (ds.map .fz) = ds
  | [] => rfl
  | d :: ds => by rw [List.map_cons, toDs_cons, toDs_fz ds]; rfl
theorem isD_fz (ds : List D) : (ds.map M.fz).all M.isD = true := by
  rw [List.all_eq_true]
  intro x hx
  obtain ⟨d, _, rfl⟩ := List.mem_map.mp hx
  rfl
/-! ints -/
theorem bin_int (o : Bop) (s : Sl) (a b : Int) : evBin o s (.m (.fz (.int a))) (.m (.fz (.int b))) = (binF o (.int a) (.int b)).map fun d => (.m (.fz d), s) := by
  cases o <;> rfl
theorem add_int (a b : Int) : binF .add (.int a) (.int b) = some (.int (a + b)) := rfl
theorem sub_int (a b : Int) : binF .sub (.int a) (.int b) = some (.int (a - b)) := rfl
theorem mul_int (a b : Int) (h : (small a || small b) = true) : binF .mul (.int a) (.int b) = some (.int (a * b)) := by
  show (if (small a || small b) = true then _ else _) = _
  rw [if_pos h]
theorem fdiv_int (a b : Int) (h : 0 < b ∧ b < 1073741824) : binF .fdiv (.int a) (.int b) = some (.int (a / b)) := by
  show (if 0 < b ∧ b < 1073741824 then _ else _) = _
  rw [if_pos h]
theorem mod_int (a b : Int) (h : 0 < b) : binF .mod (.int a) (.int b) = some (.int (a % b)) := by
  show (if 0 < b then _ else _) = _
  rw [if_pos h]
theorem pow_int (a b : Int) (h : 0 ≤ b ∧ b ≤ 1000000 ∧ a.natAbs < 2 ^ 64) : binF .pow (.int a) (.int b) = some (.int (a ^ b.toNat)) := by
  show (if 0 ≤ b ∧ b ≤ 1000000 ∧ a.natAbs < 2 ^ 64 then _ else _) = _
  rw [if_pos h]
theorem lt_int (a b : Int) : cmpD .lt (.int a) (.int b) = some (decide (a < b)) := rfl
theorem le_int (a b : Int) : cmpD .le (.int a) (.int b) = some (decide (a ≤ b)) := rfl
theorem gt_int (a b : Int) : cmpD .gt (.int a) (.int b) = some (decide (b < a)) := rfl
theorem ge_int (a b : Int) : cmpD .ge (.int a) (.int b) = some (decide (b ≤ a)) := rfl
theorem eqv_int (a b : Int) : D.eqv (.int a) (.int b) = decide (a = b) := by
  unfold D.eqv D.py
  show (a == b) = decide (a = b)
  rw [Bool.eq_iff_iff]; simp
theorem shp_int (a : Int) : D.shp (.int a) = true := by
  unfold D.shp D.py SeqAt.shaped
  rfl
theorem eq_int (a b : Int) : cmpD .eq (.int a) (.int b) = some (decide (a = b)) := by
  show (if (D.shp (.int a) && D.shp (.int b)) = true then some (D.eqv (.int a) (.int b)) else none) = _
  rw [shp_int, shp_int, eqv_int]; rfl
theorem ne_int (a b : Int) : cmpD .ne (.int a) (.int b) = some (!decide (a = b)) := by
  show (if (D.shp (.int a) && D.shp (.int b)) = true then some (!D.eqv (.int a) (.int b)) else none) = _
  rw [shp_int, shp_int, eqv_int]; rfl
theorem cmp_mm (o : Cop) (s : Sl) (a b : M) : evCmp o s (.m a) (.m b) = cmpD o a.toD b.toD := rfl
/-! built-ins -/
theorem len_lst (xs : List D) : biF .len [.lst xs] = some (.int xs.length) := rfl
theorem len_tup (xs : List D) : biF .len [.tup xs] = some (.int xs.length) := rfl
theorem len_scr (ns : List Int) : biF .len [.scr ns] = some (.int ns.length) := rfl
theorem int_int (i : Int) : biF .int [.int i] = some (.int i) := rfl
theorem bi_F (f : Bi) (s : Sl) (rs : List Res) (h : f.isC = false) : evBi f s rs = (toVs s rs).bind fun ds => (biF f ds).bind fun d => rM d s := by
  unfold evBi
  rw [h]; rfl
theorem bi_len (s : Sl) (rs : List Res) : evBi .len s rs = (toVs s rs).bind fun ds => (biF .len ds).bind fun d => rM d s := rfl
theorem bi_int (s : Sl) (rs : List Res) : evBi .int s rs = (toVs s rs).bind fun ds => (biF .int ds).bind fun d => rM d s := rfl
theorem bi_any (s : Sl) (rs : List Res) : evBi .any s rs = (toVs s rs).bind fun ds => (biF .any ds).bind fun d => rM d s := rfl
theorem toVs_nil (s : Sl) : toVs s [] = some [] := rfl
theorem toVs_cons (s : Sl) (r : Res) (rs : List Res) : toVs s (r :: rs) = (toV s r).bind fun d => (toVs s rs).map fun ds => d :: ds := rfl
theorem sub_m (s : Sl) (m : M) (d : D) : evSub s (.m m) (.m (.fz d)) = (m.toD.idx d).bind fun d => rM d s := rfl
theorem idx_lst (xs : List D) (i : Int) : (D.lst xs).idx (.int i) = atI xs i := rfl
theorem idx_scr (ns : List Int) (i : Int) : (D.scr ns).idx (.int i) = (atI ns i).map .int := rfl
theorem atI_nat {α : Type} (xs : List α) (k : Nat) (h : k < xs.length) : atI xs (k : Int) = some xs[k] := by
  unfold L2.atI ixN
  rw [if_pos (by omega), if_pos (by omega)]
  simp [h]
theorem call_brw {G : Env} {k : Nat} {s : Sl} {rs : List Res} {ds : List D} {m : M} {outs : List M} (h1 : toVs s rs = some ds) (h2 : G.cd k (ds.map .fz) = some (m, outs)) (h3 : m.lf = true) : evCall G true k s rs = some (.m m, s) := by
  unfold evCall
  rw [if_pos rfl, h1, ob_some, h2, ob_some, if_pos h3]
/-! a loop by its invariant -/
theorem loop_inv {t : T} {f : Sl → Option O} (I : Nat → Sl → Prop) : ∀ (ds : List D) (k : Nat) (s : Sl), I k s → (∀ (i : Nat) (d : D) (s : Sl), ds[i]? = some d → I (k + i) s → ∃ s1 s2, setT s t (.fz d) = some s1 ∧ (f s1 = some (.nx s2) ∨ f s1 = some (.ct s2)) ∧ I (k + i + 1) s2) → ∃ s', loopF t f ds s = some (.nx s') ∧ I (k + ds.length) s'
  | [], k, s, h, _ => ⟨s, rfl, h⟩
  | d :: ds, k, s, h, st => by
    obtain ⟨s1, s2, h1, h2, h3⟩ := st 0 d s rfl h
    obtain ⟨s', h4, h5⟩ := loop_inv I ds (k + 1) s2 h3 fun i d s hd hi => by
      have := st (i + 1) d s (by simpa using hd) (by rw [show k + (i + 1) = k + 1 + i by omega]; exact hi)
      rw [show k + (i + 1) + 1 = k + 1 + i + 1 by omega] at this
      exact this
    refine ⟨s', ?_, by rw [List.length_cons, show k + (ds.length + 1) = k + 1 + ds.length by omega]; exact h5⟩
    unfold loopF
    rw [h1, ob_some]
    rcases h2 with h2 | h2 <;> rw [h2, ob_some] <;> exact h4
/-- a comprehension of items that leave the slots alone -/
theorem comp_inv {own : List Nat} {t : T} {fc : Sl → Option (Bool × Sl)} {fe : Sl → Option (M × Sl)} (s0 : Sl) (R : D → Option M → Prop) : ∀ ds : List D, (∀ d ∈ ds, ∃ s1 b s2, setT s0 t (.fz d) = some s1 ∧ fc s1 = some (b, s2) ∧ ((b = false ∧ wipeS s2 own = s0 ∧ R d none) ∨ ∃ m s3, b = true ∧ fe s2 = some (m, s3) ∧ wipeS s3 own = s0 ∧ R d (some m))) →
    ∃ os : List (Option M), compL own t fc fe ds s0 = some (os.filterMap id, s0) ∧ os.length = ds.length ∧ ∀ (i : Nat) (d : D) (o : Option M), ds[i]? = some d → os[i]? = some o → R d o
  | [], _ => ⟨[], rfl, rfl, fun i d o (h : ([] : List D)[i]? = some d) => by simp at h⟩
  | d :: ds, h => by
    obtain ⟨s1, b, s2, h1, h2, h3⟩ := h d List.mem_cons_self
    obtain ⟨os, e1, e2, e3⟩ := comp_inv s0 R ds fun d hd => h d (List.mem_cons_of_mem _ hd)
    unfold compL
    rw [h1, ob_some, h2, bd_some]
    rcases h3 with ⟨rfl, hw, hr⟩ | ⟨m, s3, rfl, hm, hw, hr⟩
    · rw [if_neg Bool.false_ne_true, hw, e1]
      refine ⟨none :: os, rfl, by rw [List.length_cons, List.length_cons, e2], fun i d' o hd ho => ?_⟩
      cases i with
      | zero => cases hd; cases ho; exact hr
      | succ i => exact e3 i d' o (by simpa using hd) (by simpa using ho)
    · rw [if_pos rfl, hm, bd_some, hw, e1, bd_some]
      refine ⟨some m :: os, rfl, by rw [List.length_cons, List.length_cons, e2], fun i d' o hd ho => ?_⟩
      cases i with
      | zero => cases hd; cases ho; exact hr
      | succ i => exact e3 i d' o (by simpa using hd) (by simpa using ho)
theorem toV_p (s : Sl) (p : Pl) : toV s (.pl p) = (getP s p).map M.toD := rfl
theorem toS_p (s : Sl) (p : Pl) : toS s (.pl p) = (frzP s p).map fun x => (.fz x.1, x.2) := rfl
theorem push_ok {v : M} {xs : List M} (h : xs.length < sizeLine) : M.push v (.lst xs) = some (.lst (xs ++ [v])) := by
  show (if xs.length < sizeLine then _ else _) = _
  rw [if_pos h]
theorem range_nat (n : Nat) (h : n < 1000000) : rangeD [.int n] = some (rangeL 0 n) := by
  have : small62 (n : Int) = true := by
    unfold small62
    rw [Bool.and_eq_true]
    exact ⟨decide_eq_true (by omega), decide_eq_true (by omega)⟩
  show (if small62 (n : Int) = true then some (rangeL 0 n) else none) = _
  rw [if_pos this]
theorem range_get {n i : Nat} {d : D} (h : (rangeL 0 n)[i]? = some d) : d = .int i ∧ i < n := by
  unfold rangeL at h
  rw [List.getElem?_map] at h
  obtain ⟨k, h1, h2⟩ := Option.map_eq_some_iff.mp h
  have hk := List.getElem?_eq_some_iff.mp h1
  obtain ⟨hl, hk⟩ := hk
  rw [List.getElem_range] at hk
  rw [List.length_range] at hl
  subst hk
  refine ⟨by rw [← h2]; simp, by omega⟩
theorem range_len (n : Nat) : (rangeL 0 n).length = n := by
  rw [rangeL_len]; omega
/-- ints, owned one by one -/
def fi (i : Int) : M := .fz (.int i)
def LM (l : List Int) : M := .lst (l.map fi)
def LD (l : List Int) : D := .lst (l.map .int)
theorem LM_toDs : ∀ l : List Int, M.toDs (l.map fi) = l.map .int
  | [] => rfl
  | x :: l => by rw [List.map_cons, toDs_cons, LM_toDs l]; rfl
theorem LM_toD (l : List Int) : (LM l).toD = LD l := by
  unfold LM LD
  rw [toD_lst, LM_toDs]
theorem LM_lf (l : List Int) : (LM l).lf = true := by
  unfold LM
  rw [M.lf]
  induction l with
  | nil => rfl
  | cons x l ih => rw [List.map_cons, M.lfs, ih]; rfl
theorem LM_isD (l : List Int) : (l.map fi).all M.isD = true := by
  rw [List.all_eq_true]
  intro x hx
  obtain ⟨d, _, rfl⟩ := List.mem_map.mp hx
  rfl
theorem small_of {i : Int} (h : -(2 ^ 64) < i ∧ i < 2 ^ 64) : small i = true := by
  unfold small
  rw [Bool.and_eq_true]
  exact ⟨decide_eq_true h.1, decide_eq_true h.2⟩
theorem line_lt {n : Nat} (h : n < 1000000) : n < sizeLine := Nat.lt_of_lt_of_le h (by decide)
theorem line_le {n : Nat} (h : n < 1000000) : n ≤ sizeLine := Nat.le_of_lt (line_lt h)
def lookM (i : Nat) : Option (Option M) → Option Res
  | some (some (.fz d)) => some (.m (.fz d))
  | some (some _) => some (.pl ⟨i, []⟩)
  | _ => none
def getM : Option (Option M) → Option M
  | some (some m) => some m
  | _ => none
def plM (i : Nat) : Option (Option M) → Option Pl
  | some (some (.lst _)) => some ⟨i, []⟩
  | _ => none
def updM (s : Sl) (i : Nat) (f : M → Option M) : Option (Option M) → Option Sl
  | some (some m) => (f m).map fun m' => s.set i (some m')
  | _ => none
theorem gv_at (s : Sl) (i : Nat) : gv s i = getM s[i]? := by
  unfold gv
  generalize s[i]? = o
  cases o with
  | none => rfl
  | some o => cases o <;> rfl
theorem getP_at (s : Sl) (i : Nat) : getP s ⟨i, []⟩ = getM s[i]? := by
  unfold getP
  show (match s[i]? with
    | some (some m) => m.sels []
    | _ => none) = _
  generalize s[i]? = o
  cases o with
  | none => rfl
  | some o => cases o <;> rfl
theorem look_at (s : Sl) (i : Nat) : look s ⟨i, []⟩ = lookM i s[i]? := by
  unfold look
  rw [getP_at]
  generalize s[i]? = o
  cases o with
  | none => rfl
  | some o =>
    cases o with
    | none => rfl
    | some m => cases m <;> rfl
theorem plL_at (s : Sl) (i : Nat) : plL s (.pl ⟨i, []⟩) = plM i s[i]? := by
  show (match getP s ⟨i, []⟩ with
    | some (.lst _) => some (⟨i, []⟩ : Pl)
    | _ => none) = _
  rw [getP_at]
  generalize s[i]? = o
  cases o with
  | none => rfl
  | some o =>
    cases o with
    | none => rfl
    | some m => cases m <;> rfl
theorem updP_at (s : Sl) (i : Nat) (f : M → Option M) : updP s ⟨i, []⟩ f = updM s i f s[i]? := by
  show (match s[i]? with
    | some (some m) => (M.upd f [] m).map fun m' => s.set i (some m')
    | _ => none) = _
  generalize s[i]? = o
  cases o with
  | none => rfl
  | some o => cases o <;> rfl
theorem look_fz (i : Nat) (d : D) : lookM i (some (some (.fz d))) = some (.m (.fz d)) := rfl
theorem look_lst (i : Nat) (ms : List M) : lookM i (some (some (.lst ms))) = some (.pl ⟨i, []⟩) := rfl
theorem look_tup (i : Nat) (ms : List M) : lookM i (some (some (.tup ms))) = some (.pl ⟨i, []⟩) := rfl
theorem getM_s (m : M) : getM (some (some m)) = some m := rfl
theorem plM_s (i : Nat) (ms : List M) : plM i (some (some (.lst ms))) = some ⟨i, []⟩ := rfl
theorem updM_s (s : Sl) (i : Nat) (f : M → Option M) (m : M) : updM s i f (some (some m)) = (f m).map fun m' => s.set i (some m') := rfl
theorem setT_var (s : Sl) (i : Nat) (m : M) : setT s (.var i) m = if i < s.length then some (s.set i (some m)) else none := rfl
theorem shal_fz (d : D) : M.shal (.fz d) = .fz d := rfl
theorem shal_LM (l : List Int) : M.shal (.lst (l.map fi)) = .lst (l.map fi) := by
  show M.lst ((M.toDs (l.map fi)).map .fz) = _
  rw [LM_toDs, List.map_map]; rfl
theorem shal_nil : M.shal (.lst []) = .lst [] := rfl
theorem fin_f (m : M) : fin false m = m.shal := rfl
theorem finE_f (m : M) : finE false m = .fz m.toD := rfl
theorem nil_fi : ([] : List M) = ([] : List Int).map fi := rfl
theorem snoc_fi (l : List Int) (x : Int) : l.map fi ++ [.fz (.int x)] = (l ++ [x]).map fi := by rw [List.map_append]; rfl
theorem pow_18 : binF .pow (.int 10) (.int 18) = some (.int (10 ^ 18)) := pow_int 10 18 (by decide)
theorem pow_15 : binF .pow (.int 10) (.int 15) = some (.int (10 ^ 15)) := pow_int 10 15 (by decide)
theorem mulR {a b : Int} (h : -(2 ^ 64) < b ∧ b < 2 ^ 64) : binF .mul (.int a) (.int b) = some (.int (a * b)) := mul_int a b (by rw [small_of h, Bool.or_true])
theorem mulL {a b : Int} (h : -(2 ^ 64) < a ∧ a < 2 ^ 64) : binF .mul (.int a) (.int b) = some (.int (a * b)) := mul_int a b (by rw [small_of h, Bool.true_or])
theorem range_int (c : Int) (h : -1000000 < c ∧ c < 1000000) : rangeD [.int c] = some (rangeL 0 c) := by
  have : small62 c = true := by
    unfold small62
    rw [Bool.and_eq_true]
    exact ⟨decide_eq_true (by omega), decide_eq_true (by omega)⟩
  show (if small62 c = true then some (rangeL 0 c) else none) = _
  rw [if_pos this]
theorem range_at {c : Int} {i : Nat} {d : D} (h : (rangeL 0 c)[i]? = some d) : ∃ z : Int, d = .int z ∧ z = i ∧ 0 ≤ z ∧ z < c := by
  unfold rangeL at h
  rw [List.getElem?_map] at h
  obtain ⟨k, h1, h2⟩ := Option.map_eq_some_iff.mp h
  have hk := List.getElem?_eq_some_iff.mp h1
  obtain ⟨hl, hk⟩ := hk
  rw [List.getElem_range] at hk
  rw [List.length_range] at hl
  subst hk
  exact ⟨i, by rw [← h2]; simp, rfl, by omega, by omega⟩
theorem range_lenI (c : Int) : (rangeL 0 c).length = c.toNat := by
  rw [rangeL_len]; omega
theorem atI_int {α : Type} (xs : List α) (k : Int) (h : 0 ≤ k ∧ k < xs.length) : ∃ x, atI xs k = some x ∧ x ∈ xs := by
  obtain ⟨j, rfl⟩ := Int.eq_ofNat_of_zero_le h.1
  have hj : j < xs.length := by omega
  exact ⟨xs[j], atI_nat xs j hj, List.getElem_mem hj⟩
/-! comparisons of lists -/
structure Dep (n : Nat) (d : D) : Prop where
  c : d.py.canLay0 = true
  dp : d.py.depth ≤ n
theorem Dep.shp {n : Nat} {d : D} (h : Dep n d) (hn : n ≤ 64) : d.shp = true := by
  unfold D.shp SeqAt.shaped
  rw [h.c]
  simpa using Nat.le_trans h.dp hn
theorem dep_int (i : Int) : Dep 0 (.int i) := ⟨rfl, Nat.le_refl _⟩
theorem dep_bl (b : Bool) : Dep 0 (.bl b) := ⟨rfl, Nat.le_refl _⟩
theorem deps : ∀ {n : Nat} {ds : List D}, (∀ d ∈ ds, Dep n d) → PyData.canLayAll0 (D.pys ds) = true ∧ PyData.depthAll (D.pys ds) ≤ n
  | n, [], _ => ⟨rfl, Nat.zero_le _⟩
  | n, d :: ds, h => by
    have h1 := h d List.mem_cons_self
    have h2 := deps fun x hx => h x (List.mem_cons_of_mem d hx)
    refine ⟨?_, Nat.max_le.mpr ⟨h1.dp, h2.2⟩⟩
    show (d.py.canLay0 && PyData.canLayAll0 (D.pys ds)) = true
    rw [h1.c, h2.1]; rfl
theorem dep_lst {n : Nat} {ds : List D} (h : ∀ d ∈ ds, Dep n d) : Dep (n + 1) (.lst ds) := ⟨(deps h).1, Nat.succ_le_succ (deps h).2⟩
theorem dep_tup {n : Nat} {ds : List D} (h : ∀ d ∈ ds, Dep n d) : Dep (n + 1) (.tup ds) := ⟨(deps h).1, Nat.succ_le_succ (deps h).2⟩
theorem dep_LD (l : List Int) : Dep 1 (LD l) := dep_lst fun d hd => by
  obtain ⟨x, _, rfl⟩ := List.mem_map.mp hd
  exact dep_int x
mutual
theorem py_eqv : ∀ p : PyData, p.canLay0 = true → PyData.eqv p p = true
  | .none, _ => rfl
  | .bool b, _ => by show (b == b) = true; simp
  | .int i, _ => by show (i == i) = true; simp
  | .str x, _ => by show (x == x) = true; simp
  | .list xs, h => py_eqvs xs h
  | .tuple xs, h => py_eqvs xs h
  | .dict _, h => by cases h
theorem py_eqvs : ∀ ps : List PyData, PyData.canLayAll0 ps = true → PyData.eqvAll ps ps = true
  | [], _ => rfl
  | x :: xs, h => by
    have h : (x.canLay0 && PyData.canLayAll0 xs) = true := h
    rw [Bool.and_eq_true] at h
    show (PyData.eqv x x && PyData.eqvAll xs xs) = true
    rw [py_eqv x h.1, py_eqvs xs h.2]; rfl
end
theorem Dep.eqv {n : Nat} : ∀ {d : D}, Dep n d → D.eqv d d = true := fun {d} h => by
  exact py_eqv _ h.c
theorem eq_self_D {n : Nat} {d : D} (h : Dep n d) (hn : n ≤ 64) : cmpD .eq d d = some true := by
  show (if (d.shp && d.shp) = true then some (D.eqv d d) else none) = _
  rw [h.shp hn, h.eqv]; rfl
theorem ne_bl (a b : Bool) : cmpD .ne (.bl a) (.bl b) = some (!(a == b)) := by
  show (if (D.shp (.bl a) && D.shp (.bl b)) = true then some (!D.eqv (.bl a) (.bl b)) else none) = _
  rw [(dep_bl a).shp (by decide), (dep_bl b).shp (by decide)]; rfl
theorem in_ints (v : Int) (l : List Int) : cmpD .in_ (.int v) (.lst (l.map .int)) = some (l.contains v) := by
  show (if ((D.int v).shp && (D.lst (l.map .int)).shp) = true then some (inD (.int v) (l.map .int)) else none) = _
  rw [(dep_int v).shp (by decide), show (D.lst (l.map .int)).shp = true from (dep_LD l).shp (by decide)]
  show some (inD (.int v) (l.map .int)) = _
  have key : ∀ l : List Int, inD (.int v) (l.map .int) = l.contains v := by
    intro l
    unfold inD
    induction l with
    | nil => rfl
    | cons x l ih =>
      rw [List.map_cons, List.any_cons, ih, List.contains_cons, eqv_int, Bool.eq_iff_iff]
      simp only [Bool.or_eq_true, decide_eq_true_eq, beq_iff_eq]
      rw [show (x = v) = (v = x) from propext eq_comm]
  rw [key]
theorem boolsD_map {α : Type} (p : α → Bool) : ∀ l : List α, boolsD (l.map fun v => .bl (p v)) = some (l.map p)
  | [] => rfl
  | x :: l => by
    show (boolsD (l.map fun v => .bl (p v))).map _ = _
    rw [boolsD_map p l]; rfl
/-- an unfiltered comprehension -/
theorem comp_map {own : List Nat} {t : T} {fe : Sl → Option (M × Sl)} {s0 : Sl} {g : D → M} : ∀ ds : List D, (∀ d ∈ ds, ∃ s1 s2, setT s0 t (.fz d) = some s1 ∧ fe s1 = some (g d, s2) ∧ wipeS s2 own = s0) → compL own t (fun s => some (true, s)) fe ds s0 = some (ds.map g, s0)
  | [], _ => rfl
  | d :: ds, h => by
    obtain ⟨s1, s2, h1, h2, h3⟩ := h d List.mem_cons_self
    unfold compL
    rw [h1, ob_some]
    rw [bd_some, if_pos rfl, h2, bd_some, h3, comp_map ds fun x hx => h x (List.mem_cons_of_mem d hx)]
    rfl
/-- .. of which only the kind of the items is known -/
theorem comp_ex {own : List Nat} {t : T} {fe : Sl → Option (M × Sl)} {s0 : Sl} {R : D → M → Prop} : ∀ ds : List D, (∀ d ∈ ds, ∃ s1 m s2, setT s0 t (.fz d) = some s1 ∧ fe s1 = some (m, s2) ∧ wipeS s2 own = s0 ∧ R d m) → ∃ ms, compL own t (fun s => some (true, s)) fe ds s0 = some (ms, s0) ∧ ms.length = ds.length ∧ ∀ m ∈ ms, ∃ d ∈ ds, R d m
  | [], _ => ⟨[], rfl, rfl, fun m hm => by cases hm⟩
  | d :: ds, h => by
    obtain ⟨s1, m, s2, h1, h2, h3, h4⟩ := h d List.mem_cons_self
    obtain ⟨ms, e1, e2, e3⟩ := comp_ex ds fun x hx => h x (List.mem_cons_of_mem d hx)
    refine ⟨m :: ms, ?_, by rw [List.length_cons, List.length_cons, e2], fun x hx => ?_⟩
    · unfold compL
      rw [h1, ob_some]
      rw [bd_some, if_pos rfl, h2, bd_some, h3, e1]
      rfl
    · rcases List.mem_cons.mp hx with rfl | hx
      · exact ⟨d, List.mem_cons_self, h4⟩
      · obtain ⟨d', h5, h6⟩ := e3 x hx
        exact ⟨d', List.mem_cons_of_mem _ h5, h6⟩
theorem add_lst {s : Sl} {a b : M} {xs ys : List D} (ha : a.toD = .lst xs) (hb : b.toD = .lst ys) (hl : xs.length + ys.length ≤ sizeLine) : evBin .add s (.m a) (.m b) = some (.m (.lst ((xs ++ ys).map .fz)), s) := by
  show (some a.toD).bind _ = _
  rw [ob_some]
  show (some b.toD).bind _ = _
  rw [ob_some, ha, hb]
  show bd (a.toD.items.map fun ds => (ds, s)) _ = _
  rw [ha]
  show bd (some (xs, s)) _ = _
  rw [bd_some]
  show (some b.toD).bind _ = _
  rw [ob_some, hb]
  show (if isLd (.lst ys) = true then bd (b.toD.items.map fun ds => (ds, s)) _ else none) = _
  rw [if_pos (show isLd (.lst ys) = true from rfl), hb]
  show bd (some (ys, s)) _ = _
  rw [bd_some, if_pos hl]
theorem cut_map {α β : Type} (f : α → β) (l : List α) (a b : Option Int) : cut (l.map f) a b = (cut l a b).map f := by
  unfold cut
  rw [List.length_map, List.map_take, List.map_drop]
theorem cut_le {α : Type} (l : List α) (a b : Option Int) : (cut l a b).length ≤ l.length := by
  unfold cut
  rw [List.length_take, List.length_drop]
  omega
theorem LM_fz (l : List Int) : M.lst ((l.map D.int).map M.fz) = LM l := by
  unfold LM
  rw [List.map_map]; rfl
theorem toC_m (s : Sl) (m : M) : toC s (.m m) = m.toD.items.map fun ds => (ds, s) := rfl
theorem items_lst (xs : List D) : D.items (.lst xs) = some xs := rfl
theorem toDs_comp {α : Type} (f : α → D) : ∀ l : List α, M.toDs (l.map fun x => .fz (f x)) = l.map f
  | [] => rfl
  | x :: l => by rw [List.map_cons, toDs_cons, toDs_comp f l]; rfl
theorem any_lst (xs : List D) : biF .any [.lst xs] = (boolsD xs).map fun bs => .bl (bs.any id) := rfl
theorem boolR_m (s : Sl) (b : Bool) : boolR s (.m (.fz (.bl b))) = some b := rfl
theorem tst_bl (s : Sl) (b : Bool) : tst s (.m (.fz (.bl b))) = some b := rfl
/-- is among -/
def inL (l : List Int) : D → Bool
  | .int v => l.contains v
  | _ => false
theorem inL_int (l : List Int) (v : Int) : inL l (.int v) = l.contains v := rfl
theorem boolsD_in (o : List Int) : ∀ l : List Int, boolsD ((l.map D.int).map fun d => .bl (inL o d)) = some (l.map fun v => o.contains v)
  | [] => rfl
  | x :: l => by
    show (boolsD ((l.map D.int).map fun d => .bl (inL o d))).map _ = _
    rw [boolsD_in o l]; rfl
theorem all_map {α β : Type} (f : α → β) (p : β → Bool) : ∀ l : List α, (l.map f).all p = l.all fun x => p (f x)
  | [] => rfl
  | x :: l => by rw [List.map_cons, List.all_cons, List.all_cons, all_map f p l]
theorem any_not {α : Type} (p : α → Bool) : ∀ l : List α, l.any p = !(l.all fun x => !p x)
  | [] => rfl
  | x :: l => by rw [List.any_cons, List.all_cons, any_not p l]; cases p x <;> simp
theorem idx_tup (xs : List D) (i : Int) : (D.tup xs).idx (.int i) = atI xs i := rfl
theorem atI_0 {α : Type} (a : α) (l : List α) : atI (a :: l) 0 = some a := by
  unfold L2.atI ixN
  rw [if_pos (by decide), if_pos (by rw [List.length_cons]; omega)]
  rfl
theorem atI_1 {α : Type} (a b : α) (l : List α) : atI (a :: b :: l) 1 = some b := by
  unfold L2.atI ixN
  rw [if_pos (by decide), if_pos (by rw [List.length_cons, List.length_cons]; omega)]
  rfl
def oneI : D → Option Int
  | .int i => some i
  | _ => none
def intsOf : D → List Int
  | .lst xs => xs.filterMap oneI
  | _ => []
theorem intsOf_LD (l : List Int) : intsOf (LD l) = l := by
  show (l.map D.int).filterMap oneI = l
  induction l with
  | nil => rfl
  | cons x l ih => rw [List.map_cons, List.filterMap_cons]; show x :: _ = _; rw [ih]
def fstD : D → D
  | .tup (a :: _) => a
  | d => d
def sndD : D → D
  | .tup (_ :: b :: _) => b
  | d => d
def timesD (k : Int) : D → D
  | .int v => .int (v * k)
  | d => d
theorem timesD_map (k : Int) : ∀ l : List Int, M.lst ((l.map D.int).map fun d => .fz (timesD k d)) = LM (l.map fun v => v * k) := fun l => by
  unfold LM
  rw [List.map_map, List.map_map]; rfl
theorem LM_map (ls : List (List Int)) : (ls.map LD).map (fun d => LM (intsOf d)) = ls.map LM := by
  rw [List.map_map]
  apply List.map_congr_left
  intro l _
  show LM (intsOf (LD l)) = LM l
  rw [intsOf_LD]
theorem bi_list_fz (s : Sl) (xs : List D) : evBi .list s [.m (.fz (.lst xs))] = some (.m (.lst (xs.map .fz)), s) := rfl
theorem isLd_lst (xs : List D) : isLd (.lst xs) = true := rfl
theorem optI_f : optI false .non = some none := rfl
theorem optI_t (i : Int) : optI true (.int i) = some (some i) := rfl
theorem slc_lst (s : Sl) (xs : List D) (l h : Option Int) : evSlc s (.m (.fz (.lst xs))) l h = some (.m (.lst ((cut xs l h).map .fz)), s) := rfl
theorem mkTup_LM (a b : List Int) : mkTup [LM a, LM b] = .tup [LM a, LM b] := by
  unfold mkTup
  rw [if_neg (by unfold LM; simp [M.isD])]
theorem fi_fz (l : List Int) : l.map fi = (l.map D.int).map M.fz := by rw [List.map_map]; rfl
theorem sub_fz {s : Sl} {i : Nat} {ds : List D} {k : Int} {d : D} (h : s[i]? = some (some (.lst (ds.map .fz)))) (h2 : atI ds k = some d) : evSub s (.pl ⟨i, []⟩) (.m (.fz (.int k))) = some (.m (.fz d), s) := by
  have e : getP s ⟨i, [.int k]⟩ = some (.fz d) := by
    unfold getP
    rw [h]
    show (M.sel (.lst (ds.map .fz)) (.int k)).bind _ = _
    show (atI (ds.map M.fz) k).bind _ = _
    have : atI (ds.map M.fz) k = some (.fz d) := by
      unfold L2.atI at h2 ⊢
      rw [List.length_map]
      obtain ⟨j, h3, h4⟩ := bind_inv h2
      rw [h3, ob_some, List.getElem?_map, h4]; rfl
    rw [this]; rfl
  show (some (D.int k)).bind (fun di => (look s ⟨i, [] ++ [di]⟩).map fun r => (r, s)) = _
  rw [ob_some]
  show (look s ⟨i, [.int k]⟩).map _ = _
  unfold look
  rw [e]; rfl
theorem sub_fi {s : Sl} {i : Nat} {l : List Int} {k x : Int} (h : s[i]? = some (some (.lst (l.map fi)))) (h2 : atI l k = some x) : evSub s (.pl ⟨i, []⟩) (.m (.fz (.int k))) = some (.m (.fz (.int x)), s) := by
  rw [fi_fz] at h
  refine sub_fz h ?_
  unfold L2.atI at h2 ⊢
  rw [List.length_map]
  obtain ⟨j, h3, h4⟩ := bind_inv h2
  rw [h3, ob_some, List.getElem?_map, h4]; rfl
theorem atI_map {α β : Type} (f : α → β) {l : List α} {k : Int} {x : α} (h2 : atI l k = some x) : atI (l.map f) k = some (f x) := by
  unfold L2.atI at h2 ⊢
  rw [List.length_map]
  obtain ⟨j, h3, h4⟩ := bind_inv h2
  rw [h3, ob_some, List.getElem?_map, h4]; rfl
theorem toC_fz {s : Sl} {i : Nat} {ds : List D} (h : s[i]? = some (some (.lst (ds.map .fz)))) : toC s (.pl ⟨i, []⟩) = some (ds, s) := by
  have e : getP s ⟨i, []⟩ = some (.lst (ds.map .fz)) := by
    rw [getP_at, h]; rfl
  unfold toC
  show (match getP s ⟨i, []⟩ with
    | some (.lst ms) => if ms.all M.isD then some (M.toDs ms, s) else (frzP s ⟨i, []⟩).bind fun x => x.1.items.map fun ds => (ds, x.2)
    | some _ => (frzP s ⟨i, []⟩).bind fun x => x.1.items.map fun ds => (ds, x.2)
    | none => none) = _
  rw [e]
  show (if (ds.map M.fz).all M.isD = true then some (M.toDs (ds.map .fz), s) else _) = _
  rw [if_pos (isD_fz ds), toDs_fz]
theorem call_own {G : Env} {k : Nat} {s s' : Sl} {rs : List Res} {ms : List M} {m : M} {outs : List M} (h1 : toSs s rs = some (ms, s')) (h2 : G.cd k ((M.toDs ms).map .fz) = some (m, outs)) : evCall G false k s rs = some (.m m, s') := by
  unfold evCall
  rw [if_neg Bool.false_ne_true, h1, bd_some, h2, ob_some]
theorem toDs_LM : ∀ ls : List (List Int), M.toDs (ls.map LM) = ls.map LD
  | [] => rfl
  | x :: l => by rw [List.map_cons, toDs_cons, toDs_LM l, LM_toD]; rfl
theorem ex_map {α : Type} {f : α → M} {P : α → Prop} : ∀ ms : List M, (∀ m ∈ ms, ∃ t, m = f t ∧ P t) → ∃ ts : List α, ms = ts.map f ∧ ts.length = ms.length ∧ ∀ t ∈ ts, P t
  | [], _ => ⟨[], rfl, rfl, fun t ht => by cases ht⟩
  | m :: ms, h => by
    obtain ⟨t, e, p⟩ := h m List.mem_cons_self
    obtain ⟨ts, e2, l2, p2⟩ := ex_map ms fun x hx => h x (List.mem_cons_of_mem _ hx)
    refine ⟨t :: ts, by rw [List.map_cons, ← e2, e], by rw [List.length_cons, List.length_cons, l2], fun x hx => ?_⟩
    rcases List.mem_cons.mp hx with rfl | hx
    · exact p
    · exact p2 x hx
/-- a filtered comprehension: some of the items -/
theorem comp_if {own : List Nat} {t : T} {fc : Sl → Option (Bool × Sl)} {fe : Sl → Option (M × Sl)} {s0 : Sl} {g : D → M} : ∀ ds : List D, (∀ d ∈ ds, ∃ s1 b s2, setT s0 t (.fz d) = some s1 ∧ fc s1 = some (b, s2) ∧ wipeS s2 own = s0 ∧ ∃ s3, fe s2 = some (g d, s3) ∧ wipeS s3 own = s0) →
    ∃ es : List D, compL own t fc fe ds s0 = some (es.map g, s0) ∧ es.length ≤ ds.length ∧ ∀ e ∈ es, e ∈ ds
  | [], _ => ⟨[], rfl, Nat.le_refl _, fun e he => he⟩
  | d :: ds, h => by
    obtain ⟨s1, b, s2, h1, h2, h3, s3, h4, h5⟩ := h d List.mem_cons_self
    obtain ⟨es, e1, e2, e3⟩ := comp_if ds fun x hx => h x (List.mem_cons_of_mem d hx)
    cases b with
    | true =>
      refine ⟨d :: es, ?_, by rw [List.length_cons, List.length_cons]; omega, fun e he => ?_⟩
      · unfold compL
        rw [h1, ob_some, h2, bd_some, if_pos rfl, h4, bd_some, h5, e1]; rfl
      · rcases List.mem_cons.mp he with rfl | he
        · exact List.mem_cons_self
        · exact List.mem_cons_of_mem _ (e3 e he)
    | false =>
      refine ⟨es, ?_, by rw [List.length_cons]; omega, fun e he => List.mem_cons_of_mem _ (e3 e he)⟩
      unfold compL
      rw [h1, ob_some, h2, bd_some, if_neg Bool.false_ne_true, h3, e1]
theorem ints_of : ∀ es : List D, (∀ e ∈ es, ∃ z : Int, e = .int z) → ∃ l : List Int, es = l.map .int
  | [], _ => ⟨[], rfl⟩
  | e :: es, h => by
    obtain ⟨z, rfl⟩ := h e List.mem_cons_self
    obtain ⟨l, rfl⟩ := ints_of es fun x hx => h x (List.mem_cons_of_mem _ hx)
    exact ⟨z :: l, rfl⟩
theorem range_mem {c : Int} {d : D} (h : d ∈ rangeL 0 c) : ∃ z : Int, d = .int z ∧ 0 ≤ z ∧ z < c := by
  obtain ⟨i, hi, h⟩ := List.getElem_of_mem h
  obtain ⟨z, e, _, h0, h1⟩ := range_at (c := c) (i := i) (d := d) (by rw [List.getElem?_eq_getElem hi, h])
  exact ⟨z, e, h0, h1⟩
theorem shal_fzs (ds : List D) : M.shal (.lst (ds.map .fz)) = .lst (ds.map .fz) := by
  show M.lst ((M.toDs (ds.map .fz)).map .fz) = _
  rw [toDs_fz]
theorem shal_LMs (ls : List (List Int)) : M.shal (.lst (ls.map LM)) = .lst ((ls.map LD).map .fz) := by
  show M.lst ((M.toDs (ls.map LM)).map .fz) = _
  rw [toDs_LM]
def subR (s : Sl) (i : Nat) (k : Int) : Option M → Option (Res × Sl)
  | some (.fz d) => some (.m (.fz d), s)
  | some _ => some (.pl ⟨i, [.int k]⟩, s)
  | none => none
def subM (s : Sl) (i : Nat) (k : Int) : Option (Option M) → Option (Res × Sl)
  | some (some (.lst ms)) => subR s i k (atI ms k)
  | some (some (.tup ms)) => subR s i k (atI ms k)
  | _ => none
theorem sub_at (s : Sl) (i : Nat) (k : Int) : evSub s (.pl ⟨i, []⟩) (.m (.fz (.int k))) = subM s i k s[i]? := by
  show (look s ⟨i, [.int k]⟩).map (fun r => (r, s)) = _
  have e : getP s ⟨i, [.int k]⟩ = (getM s[i]?).bind fun m => m.sel (.int k) := by
    unfold getP
    show (match s[i]? with
      | some (some m) => (m.sel (.int k)).bind fun m' => M.sels m' []
      | _ => none) = _
    generalize s[i]? = o
    cases o with
    | none => rfl
    | some o =>
      cases o with
      | none => rfl
      | some m =>
        show (m.sel (.int k)).bind (fun m' => M.sels m' []) = m.sel (.int k)
        cases m.sel (.int k) <;> rfl
  unfold look
  rw [e]
  generalize s[i]? = o
  cases o with
  | none => rfl
  | some o =>
    cases o with
    | none => rfl
    | some m =>
      cases m with
      | fz d => cases d <;> rfl
      | ins c ms => rfl
      | lst ms =>
        show ((match atI ms k with
          | some (.fz d) => some (Res.m (.fz d))
          | some _ => some (.pl ⟨i, [.int k]⟩)
          | none => none).map fun r => (r, s)) = subR s i k (atI ms k)
        cases atI ms k with
        | none => rfl
        | some x => cases x <;> rfl
      | tup ms =>
        show ((match atI ms k with
          | some (.fz d) => some (Res.m (.fz d))
          | some _ => some (.pl ⟨i, [.int k]⟩)
          | none => none).map fun r => (r, s)) = subR s i k (atI ms k)
        cases atI ms k with
        | none => rfl
        | some x => cases x <;> rfl
theorem subM_l (s : Sl) (i : Nat) (k : Int) (ms : List M) : subM s i k (some (some (.lst ms))) = subR s i k (atI ms k) := rfl
theorem subR_f (s : Sl) (i : Nat) (k : Int) (d : D) : subR s i k (some (.fz d)) = some (.m (.fz d), s) := rfl
def takeS : Nat → Ss → Ss
  | 0, _ => .nil
  | _ + 1, .nil => .nil
  | n + 1, .cons a r => .cons a (takeS n r)
def dropS : Nat → Ss → Ss
  | 0, r => r
  | _ + 1, .nil => .nil
  | n + 1, .cons _ r => dropS n r
theorem execs_cut {G : Env} {W : WL} : ∀ (n : Nat) (b : Ss) (s : Sl), execs G W b s = (execs G W (takeS n b) s).bind (seqO fun s => execs G W (dropS n b) s)
  | 0, b, s => by cases b <;> rfl
  | n + 1, .nil, s => by rfl
  | n + 1, .cons a r, s => by
    show (exec G W a s).bind (seqO fun s1 => execs G W r s1) = ((exec G W a s).bind (seqO fun s1 => execs G W (takeS n r) s1)).bind _
    cases exec G W a s with
    | none => rfl
    | some o =>
      cases o with
      | nx s1 =>
        show execs G W r s1 = _
        rw [execs_cut n r s1]; rfl
      | _ => rfl
theorem frzP_at {s : Sl} {i : Nat} {ms : List M} (h : s[i]? = some (some (.lst ms))) : frzP s ⟨i, []⟩ = some (.lst (M.toDs ms), s.set i (some (.fz (.lst (M.toDs ms))))) := by
  unfold frzP
  rw [getP_at, h]
  show ((updP s ⟨i, []⟩ fun m => some (.fz m.toD)).map fun s' => ((M.lst ms).toD, s')) = _
  rw [updP_at, h]; rfl
theorem bi_list_pl {s : Sl} {i : Nat} {ds : List D} (h : s[i]? = some (some (.lst (ds.map .fz)))) : evBi .list s [.pl ⟨i, []⟩] = some (.m (.lst (ds.map .fz)), s) := by
  show (toV s (.pl ⟨i, []⟩)).bind (fun d => if Bi.okC .list d then bd (toC s (.pl ⟨i, []⟩)) fun ds s2 => (biC .list ds).bind fun m => some (Res.m m, s2) else none) = _
  rw [toV_p, getP_at, h, toC_fz h]; rfl
theorem toSs_pl {s : Sl} {i : Nat} {ds : List D} (h : s[i]? = some (some (.lst (ds.map .fz)))) : toSs s [.pl ⟨i, []⟩] = some ([.fz (.lst ds)], s.set i (some (.fz (.lst ds)))) := by
  show bd ((frzP s ⟨i, []⟩).map fun x => (M.fz x.1, x.2)) _ = _
  rw [frzP_at h, toDs_fz]; rfl
theorem shal_lst (ms : List M) : M.shal (.lst ms) = .lst ((M.toDs ms).map .fz) := rfl
theorem atI_2 {α : Type} (a b c : α) (l : List α) : atI (a :: b :: c :: l) 2 = some c := by
  unfold L2.atI ixN
  rw [if_pos (by decide), if_pos (by rw [List.length_cons, List.length_cons, List.length_cons]; omega)]
  rfl
theorem toVs_pl {s : Sl} {i : Nat} {ds : List D} {rs : List Res} {rd : List D} (h : s[i]? = some (some (.lst (ds.map .fz)))) (h2 : toVs s rs = some rd) : toVs s (.pl ⟨i, []⟩ :: rs) = some (.lst ds :: rd) := by
  rw [toVs_cons, toV_p, getP_at, h, h2]
  show some (D.lst (M.toDs (ds.map .fz)) :: rd) = _
  rw [toDs_fz]
end VS
end

section
/-! VT: typed mirrors of defs: shapes, contexts. -/
namespace VT
open PySem VS L2

theorem lk_ex {α : Type} (a : α) : ∃ x : α, x = a := ⟨a, rfl⟩
/-- the same, but never reckoned out -/
noncomputable def lk {α : Type} (a : α) : α := Classical.choose (lk_ex a)
theorem lk_eq {α : Type} (a : α) : lk a = a := Classical.choose_spec (lk_ex a)
/-- the shape of an owned tree: any; frozen; frozen and flat; an owned list; an owned tuple -/
inductive Sh where
  | any | fz | fl | lst (s : Sh) | tup (ss : List Sh)
  deriving Inhabited
mutual
def Sh.ok : Sh → M → Prop
  | .any, _ => True
  | .fz, m => m.isD = true
  | .fl, m => ∃ d, m = .fz d ∧ d.lf = true
  | .lst s, m => ∃ ms, m = .lst ms ∧ ∀ x ∈ ms, Sh.ok s x
  | .tup ss, m => ∃ ms, m = .tup ms ∧ Sh.oks ss ms
def Sh.oks : List Sh → List M → Prop
  | [], [] => True
  | s :: ss, m :: ms => Sh.ok s m ∧ Sh.oks ss ms
  | _, _ => False
end
mutual
def Sh.le : Sh → Sh → Bool
  | _, .any => true
  | .fz, .fz => true
  | .fl, .fz => true
  | .fl, .fl => true
  | .lst s, .lst t => Sh.le s t
  | .tup ss, .tup ts => Sh.les ss ts
  | _, _ => false
def Sh.les : List Sh → List Sh → Bool
  | [], [] => true
  | s :: ss, t :: ts => Sh.le s t && Sh.les ss ts
  | _, _ => false
end
mutual
theorem Sh.ok_le : ∀ {s t : Sh} {m : M}, Sh.le s t = true → Sh.ok s m → Sh.ok t m
  | s, .any, m, _, _ => by simp [Sh.ok]
  | .any, .fz, _, h, _ => by simp [Sh.le] at h
  | .fz, .fz, _, _, o => o
  | .fl, .fz, m, _, o => by
    simp only [Sh.ok] at o ⊢
    obtain ⟨d, rfl, _⟩ := o
    rfl
  | .lst _, .fz, _, h, _ => by simp [Sh.le] at h
  | .tup _, .fz, _, h, _ => by simp [Sh.le] at h
  | .any, .fl, _, h, _ => by simp [Sh.le] at h
  | .fz, .fl, _, h, _ => by simp [Sh.le] at h
  | .fl, .fl, _, _, o => o
  | .lst _, .fl, _, h, _ => by simp [Sh.le] at h
  | .tup _, .fl, _, h, _ => by simp [Sh.le] at h
  | .any, .lst _, _, h, _ => by simp [Sh.le] at h
  | .fz, .lst _, _, h, _ => by simp [Sh.le] at h
  | .fl, .lst _, _, h, _ => by simp [Sh.le] at h
  | .lst s, .lst t, m, h, o => by
    simp only [Sh.ok] at o ⊢
    simp only [Sh.le] at h
    obtain ⟨ms, rfl, o⟩ := o
    exact ⟨ms, rfl, fun x hx => Sh.ok_le h (o x hx)⟩
  | .tup _, .lst _, _, h, _ => by simp [Sh.le] at h
  | .any, .tup _, _, h, _ => by simp [Sh.le] at h
  | .fz, .tup _, _, h, _ => by simp [Sh.le] at h
  | .fl, .tup _, _, h, _ => by simp [Sh.le] at h
  | .lst _, .tup _, _, h, _ => by simp [Sh.le] at h
  | .tup ss, .tup ts, m, h, o => by
    simp only [Sh.ok] at o ⊢
    simp only [Sh.le] at h
    obtain ⟨ms, rfl, o⟩ := o
    exact ⟨ms, rfl, Sh.oks_le h o⟩
theorem Sh.oks_le : ∀ {s t : List Sh} {m : List M}, Sh.les s t = true → Sh.oks s m → Sh.oks t m
  | [], [], [], _, _ => by simp [Sh.oks]
  | [], [], _ :: _, _, o => by simp [Sh.oks] at o
  | [], _ :: _, _, h, _ => by simp [Sh.les] at h
  | _ :: _, [], _, h, _ => by simp [Sh.les] at h
  | s :: ss, t :: ts, [], _, o => by simp [Sh.oks] at o
  | s :: ss, t :: ts, m :: ms, h, o => by
    simp only [Sh.les, Bool.and_eq_true] at h
    simp only [Sh.oks] at o ⊢
    exact ⟨Sh.ok_le h.1 o.1, Sh.oks_le h.2 o.2⟩
end
mutual
/-- what is so shaped holds no frozen list -/
def Sh.lf : Sh → Bool
  | .fl => true
  | .lst s => Sh.lf s
  | .tup ss => Sh.lfs ss
  | _ => false
def Sh.lfs : List Sh → Bool
  | [] => true
  | s :: ss => Sh.lf s && Sh.lfs ss
end
theorem lfs_iff : ∀ ms : List M, M.lfs ms = true ↔ ∀ m ∈ ms, M.lf m = true
  | [] => by simp [M.lfs]
  | m :: ms => by
    rw [M.lfs, Bool.and_eq_true, lfs_iff ms]
    simp
mutual
theorem Sh.ok_lf : ∀ {s : Sh} {m : M}, Sh.lf s = true → Sh.ok s m → m.lf = true
  | .any, _, h, _ => by simp [Sh.lf] at h
  | .fz, _, h, _ => by simp [Sh.lf] at h
  | .fl, m, _, o => by
    simp only [Sh.ok] at o
    obtain ⟨d, rfl, h⟩ := o
    rw [M.lf]; exact h
  | .lst s, m, h, o => by
    simp only [Sh.ok] at o
    simp only [Sh.lf] at h
    obtain ⟨ms, rfl, o⟩ := o
    rw [M.lf, lfs_iff]
    exact fun x hx => Sh.ok_lf h (o x hx)
  | .tup ss, m, h, o => by
    simp only [Sh.ok] at o
    simp only [Sh.lf] at h
    obtain ⟨ms, rfl, o⟩ := o
    rw [M.lf, lfs_iff]
    exact Sh.oks_lf h o
theorem Sh.oks_lf : ∀ {ss : List Sh} {ms : List M}, Sh.lfs ss = true → Sh.oks ss ms → ∀ x ∈ ms, M.lf x = true
  | [], [], _, _ => by simp
  | [], _ :: _, _, o => by simp [Sh.oks] at o
  | _ :: _, [], _, o => by simp [Sh.oks] at o
  | s :: ss, m :: ms, h, o => by
    simp only [Sh.lfs, Bool.and_eq_true] at h
    simp only [Sh.oks] at o
    intro x hx
    rcases List.mem_cons.mp hx with rfl | hx
    · exact Sh.ok_lf h.1 o.1
    · exact Sh.oks_lf h.2 o.2 x hx
end

/-! ### what is known of the slots -/
abbrev Ctx := List (Option (Sh × D))
structure Rl (c : Ctx) (s : Sl) : Prop where
  len : s.length = c.length
  get : ∀ {i : Nat} {sh : Sh} {d : D}, c[i]? = some (some (sh, d)) → ∃ m, s[i]? = some (some m) ∧ m.toD = d ∧ sh.ok m
theorem Rl.set {c : Ctx} {s : Sl} (h : Rl c s) {i : Nat} {m : M} {sh : Sh} {d : D} (e : m.toD = d) (o : sh.ok m) : Rl (c.set i (some (sh, d))) (s.set i (some m)) := by
  refine ⟨by rw [List.length_set, List.length_set, h.len], fun {j sh' d'} hj => ?_⟩
  by_cases hij : i = j
  · subst hij
    rw [List.getElem?_set] at hj ⊢
    rw [if_pos rfl] at hj ⊢
    by_cases hl : i < c.length
    · rw [if_pos hl] at hj
      rw [if_pos (by rw [h.len]; exact hl)]
      cases hj
      exact ⟨m, rfl, e, o⟩
    · rw [if_neg hl] at hj
      cases hj
  · rw [List.getElem?_set_ne hij] at hj ⊢
    exact h.get hj
theorem Rl.wipe {c : Ctx} {s : Sl} (h : Rl c s) {i : Nat} {o : Option M} : Rl (c.set i none) (s.set i o) := by
  refine ⟨by rw [List.length_set, List.length_set, h.len], fun {j sh' d'} hj => ?_⟩
  by_cases hij : i = j
  · subst hij
    rw [List.getElem?_set] at hj
    rw [if_pos rfl] at hj
    by_cases hl : i < c.length
    · rw [if_pos hl] at hj; cases hj
    · rw [if_neg hl] at hj; cases hj
  · rw [List.getElem?_set_ne hij] at hj ⊢
    exact h.get hj
/-- a slot turned, the same data and shape -/
theorem Rl.same {c : Ctx} {s : Sl} (h : Rl c s) {i : Nat} {m : M} (k : ∀ sh d, c[i]? = some (some (sh, d)) → m.toD = d ∧ sh.ok m) : Rl c (s.set i (some m)) := by
  refine ⟨by rw [List.length_set, h.len], fun {j sh' d'} hj => ?_⟩
  by_cases hij : i = j
  · subst hij
    obtain ⟨e, o⟩ := k _ _ hj
    obtain ⟨m0, h0, _⟩ := h.get hj
    rw [List.getElem?_set, if_pos rfl, if_pos (List.getElem?_eq_some_iff.mp h0).1]
    exact ⟨m, rfl, e, o⟩
  · rw [List.getElem?_set_ne hij]
    exact h.get hj
/-- fewer things known -/
def Ctx.le : Ctx → Ctx → Prop
  | [], [] => True
  | none :: c, _ :: c' => Ctx.le c c'
  | some (sh, d) :: c, some (sh', d') :: c' => (d = d' ∧ Sh.le sh' sh = true) ∧ Ctx.le c c'
  | _, _ => False
theorem Ctx.le_len : ∀ {c c' : Ctx}, Ctx.le c c' → c.length = c'.length
  | [], [], _ => rfl
  | [], _ :: _, h => by simp [Ctx.le] at h
  | none :: _, [], h => by simp [Ctx.le] at h
  | some _ :: _, [], h => by simp [Ctx.le] at h
  | none :: c, a :: c', h => by
    simp only [Ctx.le] at h
    rw [List.length_cons, List.length_cons, Ctx.le_len h]
  | some x :: c, none :: c', h => by simp [Ctx.le] at h
  | some (sh, d) :: c, some (sh', d') :: c', h => by
    simp only [Ctx.le] at h
    rw [List.length_cons, List.length_cons, Ctx.le_len h.2]
theorem Ctx.le_get : ∀ {c c' : Ctx} {i : Nat} {sh : Sh} {d : D}, Ctx.le c c' → c[i]? = some (some (sh, d)) → ∃ sh', c'[i]? = some (some (sh', d)) ∧ Sh.le sh' sh = true
  | [], _, _, _, _, _, e => by simp at e
  | none :: _, [], _, _, _, h, _ => by simp [Ctx.le] at h
  | some _ :: _, [], _, _, _, h, _ => by simp [Ctx.le] at h
  | none :: c, a :: c', 0, _, _, h, e => by simp at e
  | none :: c, a :: c', i + 1, _, _, h, e => by
    simp only [Ctx.le] at h
    exact Ctx.le_get (i := i) h (by simpa using e)
  | some x :: c, none :: c', _, _, _, h, _ => by simp [Ctx.le] at h
  | some (sh, d) :: c, some (sh', d') :: c', 0, _, _, h, e => by
    simp only [Ctx.le] at h
    simp at e
    obtain ⟨rfl, rfl⟩ := e
    exact ⟨sh', by rw [h.1.1]; rfl, h.1.2⟩
  | some (sh, d) :: c, some (sh', d') :: c', i + 1, _, _, h, e => by
    simp only [Ctx.le] at h
    exact Ctx.le_get (i := i) h.2 (by simpa using e)
theorem Rl.weak {c c' : Ctx} {s : Sl} (h : Rl c' s) (l : Ctx.le c c') : Rl c s :=
  ⟨by rw [h.len, Ctx.le_len l], fun e => by
    obtain ⟨sh', e', hl⟩ := Ctx.le_get l e
    obtain ⟨m, h1, h2, h3⟩ := h.get e'
    exact ⟨m, h1, h2, Sh.ok_le hl h3⟩⟩

/-! ### places -/
def Dsels : D → List D → Option D
  | d, [] => some d
  | d, k :: ks => (d.idx k).bind fun d' => Dsels d' ks
theorem toDs_map : ∀ ms : List M, M.toDs ms = ms.map M.toD
  | [] => rfl
  | m :: ms => by rw [toDs_cons, toDs_map ms]; rfl
theorem atI_map {α β : Type} (f : α → β) (l : List α) (i : Int) : atI (l.map f) i = (atI l i).map f := by
  unfold L2.atI
  rw [List.length_map]
  cases ixN l.length i with
  | none => rfl
  | some j => simp
theorem sel_toD {m m' : M} {k : D} (h : m.sel k = some m') : m.toD.idx k = some m'.toD := by
  unfold M.sel at h
  split at h
  · show L2.atI (M.toDs _) _ = _
    rw [toDs_map, atI_map, h]; rfl
  · show L2.atI (M.toDs _) _ = _
    rw [toDs_map, atI_map, h]; rfl
  · cases h
theorem sels_toD : ∀ {ks : List D} {m m' : M}, m.sels ks = some m' → Dsels m.toD ks = some m'.toD
  | [], m, m', h => by cases h; rfl
  | k :: ks, m, m', h => by
    unfold M.sels at h
    obtain ⟨x, h1, h2⟩ := Option.bind_eq_some_iff.mp h
    unfold Dsels
    rw [sel_toD h1]
    exact sels_toD h2
theorem atI_set {α : Type} {l : List α} {i : Int} {j : Nat} {x y : α} (h : ixN l.length i = some j) : l.set j x = l.set j x := rfl
theorem map_set_same {l : List M} {j : Nat} {x x' : M} (h : l[j]? = some x) (e : x'.toD = x.toD) : M.toDs (l.set j x') = M.toDs l := by
  rw [toDs_map, toDs_map, List.map_set, e]
  apply List.ext_getElem?
  intro n
  by_cases hn : j = n
  · subst hn
    have := (List.getElem?_eq_some_iff.mp h).1
    rw [List.getElem?_set, if_pos rfl, List.length_map, if_pos this, List.getElem?_map, h]; rfl
  · rw [List.getElem?_set_ne hn]
/-- a part frozen: there, and the data stay -/
theorem upd_frz : ∀ {ks : List D} {m m' : M}, m.sels ks = some m' → ∃ m2, M.upd (fun m => some (.fz m.toD)) ks m = some m2 ∧ m2.toD = m.toD
  | [], m, m', h => by
    refine ⟨.fz m.toD, ?_, rfl⟩
    unfold M.upd
    rfl
  | k :: ks, m, m', h => by
    unfold M.sels at h
    obtain ⟨x, h1, h2⟩ := Option.bind_eq_some_iff.mp h
    obtain ⟨x2, e1, e2⟩ := upd_frz h2
    unfold M.sel at h1
    split at h1
    · rename_i m k xs i
      unfold L2.atI at h1
      obtain ⟨j, h3, h4⟩ := Option.bind_eq_some_iff.mp h1
      refine ⟨.lst (xs.set j x2), ?_, ?_⟩
      · unfold M.upd
        show (ixN xs.length i).bind _ = _
        rw [h3]
        show (xs[j]?).bind _ = _
        rw [h4]
        show (M.upd _ ks x).map _ = _
        rw [e1]; rfl
      · show D.lst _ = D.lst _
        rw [map_set_same h4 e2]
    · rename_i m k xs i
      unfold L2.atI at h1
      obtain ⟨j, h3, h4⟩ := Option.bind_eq_some_iff.mp h1
      refine ⟨.tup (xs.set j x2), ?_, ?_⟩
      · unfold M.upd
        show (ixN xs.length i).bind _ = _
        rw [h3]
        show (xs[j]?).bind _ = _
        rw [h4]
        show (M.upd _ ks x).map _ = _
        rw [e1]; rfl
      · show D.tup _ = D.tup _
        rw [map_set_same h4 e2]
    · cases h1
theorem set_self {s : Sl} {i : Nat} {o : Option M} (h : s[i]? = some o) : s.set i o = s := by
  apply List.ext_getElem?
  intro n
  by_cases hn : i = n
  · subst hn
    rw [List.getElem?_set, if_pos rfl, if_pos (List.getElem?_eq_some_iff.mp h).1, h]
  · rw [List.getElem?_set_ne hn]
/-- a place in a slot of any shape frozen -/
theorem frz_any {c : Ctx} {s : Sl} (h : Rl c s) {i : Nat} {path : List D} {di d : D} {m : M} (hc : c[i]? = some (some (.any, di))) (hg : getP s ⟨i, path⟩ = some m) (hd : Dsels di path = some d) :
    ∃ s', frzP s ⟨i, path⟩ = some (d, s') ∧ Rl c s' := by
  obtain ⟨m0, h1, h2, _⟩ := h.get hc
  have hs : m0.sels path = some m := by
    unfold getP at hg
    show m0.sels path = some m
    have : s[(⟨i, path⟩ : Pl).i]? = some (some m0) := h1
    rw [this] at hg
    exact hg
  have e : m.toD = d := by
    have := sels_toD hs
    rw [h2, hd] at this
    exact (Option.some.inj this).symm
  unfold frzP
  rw [hg]
  obtain ⟨m2, e1, e2⟩ := upd_frz hs
  have hu : updP s ⟨i, path⟩ (fun m => some (.fz m.toD)) = some (s.set i (some m2)) := by
    unfold updP
    have : s[(⟨i, path⟩ : Pl).i]? = some (some m0) := h1
    rw [this]
    show (M.upd _ path m0).map _ = _
    rw [e1]; rfl
  have hr : Rl c (s.set i (some m2)) := h.same fun sh d' hc' => by
    rw [hc] at hc'
    cases hc'
    exact ⟨by rw [e2, h2], by simp [Sh.ok]⟩
  cases m with
  | fz d0 =>
    refine ⟨s, ?_, h⟩
    show some (d0, s) = _
    rw [← e]; rfl
  | tup ms =>
    refine ⟨_, ?_, hr⟩
    show (updP s ⟨i, path⟩ fun m => some (.fz m.toD)).map _ = _
    rw [hu, ← e]; rfl
  | lst ms =>
    refine ⟨_, ?_, hr⟩
    show (updP s ⟨i, path⟩ fun m => some (.fz m.toD)).map _ = _
    rw [hu, ← e]; rfl
  | ins c ms =>
    refine ⟨_, ?_, hr⟩
    show (updP s ⟨i, path⟩ fun m => some (.fz m.toD)).map _ = _
    rw [hu, ← e]; rfl

/-! ### results -/
inductive K where
  | m (s : Sh) | w | u | p (s : Sh)
def K.stable : K → Bool
  | .u => false
  | _ => true
def notfz : M → Bool
  | .fz _ => false
  | _ => true
/-- the shape of a part -/
def Sh.sel : Sh → D → Option Sh
  | .lst s, _ => some s
  | .tup ss, .int i => atI ss i
  | _, _ => none
def Sh.sels : Sh → List D → Option Sh
  | s, [] => some s
  | s, k :: ks => (s.sel k).bind fun s' => Sh.sels s' ks
def Sh.own : Sh → Bool
  | .lst _ | .tup _ => true
  | _ => false
def RV (c : Ctx) (s : Sl) (k : K) (r : Res) (d : D) : Prop := match k with
  | .m sh => ∃ m, r = .m m ∧ m.toD = d ∧ sh.ok m
  | .w => r = .m (.fz d) ∨ ∃ i, r = .pl ⟨i, []⟩ ∧ c[i]? = some (some (.any, d))
  | .u => r = .m (.fz d) ∨ ∃ i path di m, r = .pl ⟨i, path⟩ ∧ c[i]? = some (some (.any, di)) ∧ Dsels di path = some d ∧ getP s ⟨i, path⟩ = some m ∧ notfz m = true
  | .p sh => sh.own = true ∧ ∃ i path di shi, r = .pl ⟨i, path⟩ ∧ c[i]? = some (some (shi, di)) ∧ Dsels di path = some d ∧ shi.sels path = some sh
theorem RV.stable {c : Ctx} {s s' : Sl} {k : K} {r : Res} {d : D} (h : RV c s k r d) (hk : k.stable = true) : RV c s' k r d := by
  cases k with
  | u => cases hk
  | _ => exact h
theorem oks_atI : ∀ {ss : List Sh} {ms : List M} {i : Nat} {s : Sh} {m : M}, Sh.oks ss ms → ss[i]? = some s → ms[i]? = some m → s.ok m
  | [], [], _, _, _, _, h, _ => by simp at h
  | [], _ :: _, _, _, _, o, _, _ => by simp [Sh.oks] at o
  | _ :: _, [], _, _, _, o, _, _ => by simp [Sh.oks] at o
  | s :: ss, m :: ms, 0, _, _, o, h1, h2 => by
    simp at h1 h2
    subst h1; subst h2
    simp only [Sh.oks] at o
    exact o.1
  | s :: ss, m :: ms, i + 1, _, _, o, h1, h2 => by
    simp only [Sh.oks] at o
    exact oks_atI o.2 (by simpa using h1) (by simpa using h2)
theorem oks_len : ∀ {ss : List Sh} {ms : List M}, Sh.oks ss ms → ss.length = ms.length
  | [], [], _ => rfl
  | [], _ :: _, o => by simp [Sh.oks] at o
  | _ :: _, [], o => by simp [Sh.oks] at o
  | s :: ss, m :: ms, o => by
    simp only [Sh.oks] at o
    rw [List.length_cons, List.length_cons, oks_len o.2]
theorem sel_ok {m : M} {k d : D} {s s' : Sh} (o : s.ok m) (hs : s.sel k = some s') (hd : m.toD.idx k = some d) : ∃ m', m.sel k = some m' ∧ m'.toD = d ∧ s'.ok m' := by
  cases s with
  | lst s0 =>
    have hs : some s0 = some s' := by cases k <;> exact hs
    cases hs
    simp only [Sh.ok] at o
    obtain ⟨ms, rfl, o⟩ := o
    cases k with
    | int i =>
      have hd : L2.atI (M.toDs ms) i = some d := hd
      rw [toDs_map, atI_map] at hd
      obtain ⟨m', h1, h2⟩ := Option.map_eq_some_iff.mp hd
      refine ⟨m', h1, h2, o m' ?_⟩
      unfold L2.atI at h1
      obtain ⟨j, _, h4⟩ := Option.bind_eq_some_iff.mp h1
      exact List.mem_of_getElem? h4
    | _ => exact absurd (show (none : Option D) = some d from hd) (by simp)
  | tup ss =>
    cases k with
    | int i =>
      have hs : L2.atI ss i = some s' := hs
      simp only [Sh.ok] at o
      obtain ⟨ms, rfl, o⟩ := o
      have hd : L2.atI (M.toDs ms) i = some d := hd
      rw [toDs_map, atI_map] at hd
      obtain ⟨m', h1, h2⟩ := Option.map_eq_some_iff.mp hd
      refine ⟨m', h1, h2, ?_⟩
      unfold L2.atI at h1 hs
      rw [oks_len o] at hs
      obtain ⟨j, e1, h4⟩ := Option.bind_eq_some_iff.mp h1
      rw [e1] at hs
      exact oks_atI o hs h4
    | _ => exact absurd (show (none : Option Sh) = some s' from hs) (by simp)
  | any => exact absurd (show (none : Option Sh) = some s' by cases k <;> exact hs) (by simp)
  | fz => exact absurd (show (none : Option Sh) = some s' by cases k <;> exact hs) (by simp)
  | fl => exact absurd (show (none : Option Sh) = some s' by cases k <;> exact hs) (by simp)
theorem sels_ok : ∀ {ks : List D} {m : M} {d : D} {s s' : Sh}, s.ok m → s.sels ks = some s' → Dsels m.toD ks = some d → ∃ m', m.sels ks = some m' ∧ m'.toD = d ∧ s'.ok m'
  | [], m, d, s, s', o, hs, hd => by
    cases hs; cases hd
    exact ⟨m, rfl, rfl, o⟩
  | k :: ks, m, d, s, s', o, hs, hd => by
    unfold Sh.sels at hs
    unfold Dsels at hd
    obtain ⟨s1, h1, h2⟩ := Option.bind_eq_some_iff.mp hs
    obtain ⟨d1, h3, h4⟩ := Option.bind_eq_some_iff.mp hd
    obtain ⟨m1, e1, e2, e3⟩ := sel_ok o h1 h3
    subst e2
    obtain ⟨m2, e4, e5, e6⟩ := sels_ok e3 h2 h4
    refine ⟨m2, ?_, e5, e6⟩
    unfold M.sels
    rw [e1]; exact e4
theorem getP_of {c : Ctx} {s : Sl} (h : Rl c s) {i : Nat} {path : List D} {di d : D} {sh shi : Sh} (hc : c[i]? = some (some (shi, di))) (hd : Dsels di path = some d) (hs : shi.sels path = some sh) :
    ∃ m, getP s ⟨i, path⟩ = some m ∧ m.toD = d ∧ sh.ok m := by
  obtain ⟨m0, h1, h2, h3⟩ := h.get hc
  subst h2
  obtain ⟨m, e1, e2, e3⟩ := sels_ok h3 hs hd
  refine ⟨m, ?_, e2, e3⟩
  unfold getP
  show (match s[i]? with
    | some (some m) => m.sels path
    | _ => none) = _
  rw [h1]; exact e1
theorem getP_nil {c : Ctx} {s : Sl} (h : Rl c s) {i : Nat} {d : D} {sh : Sh} (hc : c[i]? = some (some (sh, d))) : ∃ m, getP s ⟨i, []⟩ = some m ∧ m.toD = d ∧ sh.ok m := getP_of h hc (rfl : Dsels d [] = some d) (rfl : sh.sels [] = some sh)
theorem getP_d {c : Ctx} {s : Sl} (h : Rl c s) {i : Nat} {path : List D} {di d : D} {sh : Sh} {m : M} (hc : c[i]? = some (some (sh, di))) (hd : Dsels di path = some d) (hg : getP s ⟨i, path⟩ = some m) : m.toD = d := by
  obtain ⟨m0, h1, h2, _⟩ := h.get hc
  have hs : m0.sels path = some m := by
    unfold getP at hg
    have : s[(⟨i, path⟩ : Pl).i]? = some (some m0) := h1
    rw [this] at hg
    exact hg
  have := sels_toD hs
  rw [h2, hd] at this
  exact (Option.some.inj this).symm
theorem toV_ok {c : Ctx} {s : Sl} (h : Rl c s) {k : K} {r : Res} {d : D} (rv : RV c s k r d) : toV s r = some d := by
  cases k with
  | m sh =>
    obtain ⟨m, rfl, e, _⟩ := rv
    show some m.toD = _
    rw [e]
  | w =>
    rcases rv with rfl | ⟨i, rfl, hc⟩
    · rfl
    · obtain ⟨m, h1, h2, _⟩ := getP_nil h hc
      show (getP s ⟨i, []⟩).map M.toD = _
      rw [h1, ← h2]; rfl
  | u =>
    rcases rv with rfl | ⟨i, path, di, m, rfl, hc, hd, hg, _⟩
    · rfl
    · show (getP s ⟨i, path⟩).map M.toD = _
      rw [hg, ← getP_d h hc hd hg]; rfl
  | p sh =>
    obtain ⟨_, i, path, di, shi, rfl, hc, hd, hs⟩ := rv
    obtain ⟨m, h1, h2, _⟩ := getP_of h hc hd hs
    show (getP s ⟨i, path⟩).map M.toD = _
    rw [h1, ← h2]; rfl
/-- the shape of what is stored -/
def K.st : K → Option Sh
  | .m sh => some sh
  | .w | .u => some .fz
  | .p _ => none
theorem toS_ok {c : Ctx} {s : Sl} (h : Rl c s) {k : K} {r : Res} {d : D} {sh : Sh} (rv : RV c s k r d) (hk : k.st = some sh) : ∃ m s', toS s r = some (m, s') ∧ Rl c s' ∧ m.toD = d ∧ sh.ok m ∧ ((∃ sh, k = .m sh) → s' = s) := by
  cases k with
  | m sh' =>
    cases hk
    obtain ⟨m, rfl, e, o⟩ := rv
    exact ⟨m, s, rfl, h, e, o, fun _ => rfl⟩
  | w =>
    cases hk
    rcases rv with rfl | ⟨i, rfl, hc⟩
    · exact ⟨.fz d, s, rfl, h, rfl, rfl, fun _ => rfl⟩
    · obtain ⟨m, h1, h2, _⟩ := getP_nil h hc
      obtain ⟨s', e1, e2⟩ := frz_any h hc h1 rfl
      refine ⟨.fz d, s', ?_, e2, rfl, rfl, fun ⟨_, q⟩ => by cases q⟩
      show (frzP s ⟨i, []⟩).map _ = _
      rw [e1]; rfl
  | u =>
    cases hk
    rcases rv with rfl | ⟨i, path, di, m, rfl, hc, hd, hg, _⟩
    · exact ⟨.fz d, s, rfl, h, rfl, rfl, fun _ => rfl⟩
    · obtain ⟨s', e1, e2⟩ := frz_any h hc hg hd
      refine ⟨.fz d, s', ?_, e2, rfl, rfl, fun ⟨_, q⟩ => by cases q⟩
      show (frzP s ⟨i, path⟩).map _ = _
      rw [e1]; rfl
  | p sh => cases hk
/-- the items may be shared -/
def K.ct : K → Bool
  | .m _ | .w | .u | .p (.lst .fz) | .p (.lst .fl) => true
  | _ => false
theorem isD_all {sh : Sh} (hs : sh = .fz ∨ sh = .fl) {ms : List M} (o : ∀ x ∈ ms, sh.ok x) : ms.all M.isD = true := by
  rw [List.all_eq_true]
  intro x hx
  have := o x hx
  rcases hs with rfl | rfl
  · simpa [Sh.ok] using this
  · simp only [Sh.ok] at this
    obtain ⟨d, rfl, _⟩ := this
    rfl
def toCP (s : Sl) (p : Pl) : Option M → Option (List D × Sl)
  | some (.lst ms) => if ms.all M.isD then some (M.toDs ms, s) else (frzP s p).bind fun x => x.1.items.map fun ds => (ds, x.2)
  | some _ => (frzP s p).bind fun x => x.1.items.map fun ds => (ds, x.2)
  | none => none
theorem toC_pl (s : Sl) (p : Pl) : toC s (.pl p) = toCP s p (getP s p) := by
  show (match getP s p with
    | some (.lst ms) => if ms.all M.isD then some (M.toDs ms, s) else (frzP s p).bind fun x => x.1.items.map fun ds => (ds, x.2)
    | some _ => (frzP s p).bind fun x => x.1.items.map fun ds => (ds, x.2)
    | none => none) = _
  generalize getP s p = o
  cases o with
  | none => rfl
  | some m => cases m <;> rfl
theorem toC_ok {c : Ctx} {s : Sl} (h : Rl c s) {k : K} {r : Res} {d : D} {ds : List D} (rv : RV c s k r d) (hk : k.ct = true) (hd : d.items = some ds) :
    ∃ s', toC s r = some (ds, s') ∧ Rl c s' ∧ ((∀ sh, k = .m sh ∨ k = .p sh → s' = s)) := by
  have frz : ∀ {i : Nat} {path : List D} {di : D} {m : M}, c[i]? = some (some (.any, di)) → Dsels di path = some d → getP s ⟨i, path⟩ = some m → ∃ s', toC s (.pl ⟨i, path⟩) = some (ds, s') ∧ Rl c s' := by
    intro i path di m hc hd' hg
    obtain ⟨s', e1, e2⟩ := frz_any h hc hg hd'
    have e := getP_d h hc hd' hg
    rw [toC_pl, hg]
    cases m with
    | lst ms =>
      by_cases ha : ms.all M.isD = true
      · refine ⟨s, ?_, h⟩
        show (if ms.all M.isD = true then some (M.toDs ms, s) else _) = _
        rw [if_pos ha]
        have e : D.lst (M.toDs ms) = d := e
        rw [← e] at hd
        cases hd; rfl
      · refine ⟨s', ?_, e2⟩
        show (if ms.all M.isD = true then some (M.toDs ms, s) else _) = _
        rw [if_neg ha, e1]
        show d.items.map _ = _
        rw [hd]; rfl
    | fz d0 =>
      refine ⟨s', ?_, e2⟩
      show (frzP s ⟨i, path⟩).bind _ = _
      rw [e1]
      show d.items.map _ = _
      rw [hd]; rfl
    | tup ms =>
      refine ⟨s', ?_, e2⟩
      show (frzP s ⟨i, path⟩).bind _ = _
      rw [e1]
      show d.items.map _ = _
      rw [hd]; rfl
    | ins _ ms =>
      refine ⟨s', ?_, e2⟩
      show (frzP s ⟨i, path⟩).bind _ = _
      rw [e1]
      show d.items.map _ = _
      rw [hd]; rfl
  cases k with
  | m sh =>
    obtain ⟨m, rfl, e, _⟩ := rv
    refine ⟨s, ?_, h, fun _ _ => rfl⟩
    show m.toD.items.map _ = _
    rw [e, hd]; rfl
  | w =>
    rcases rv with rfl | ⟨i, rfl, hc⟩
    · refine ⟨s, ?_, h, fun _ q => by rcases q with q | q <;> cases q⟩
      show d.items.map _ = _
      rw [hd]; rfl
    · obtain ⟨m, h1, _, _⟩ := getP_nil h hc
      obtain ⟨s', e1, e2⟩ := frz hc rfl h1
      exact ⟨s', e1, e2, fun _ q => by rcases q with q | q <;> cases q⟩
  | u =>
    rcases rv with rfl | ⟨i, path, di, m, rfl, hc, hd', hg, _⟩
    · refine ⟨s, ?_, h, fun _ q => by rcases q with q | q <;> cases q⟩
      show d.items.map _ = _
      rw [hd]; rfl
    · obtain ⟨s', e1, e2⟩ := frz hc hd' hg
      exact ⟨s', e1, e2, fun _ q => by rcases q with q | q <;> cases q⟩
  | p sh =>
    obtain ⟨_, i, path, di, shi, rfl, hc, hd', hs⟩ := rv
    obtain ⟨m, h1, h2, h3⟩ := getP_of h hc hd' hs
    have hsh : ∃ s0, sh = .lst s0 ∧ (s0 = .fz ∨ s0 = .fl) := by
      unfold K.ct at hk
      split at hk
      · rename_i q; cases q
      · rename_i q; cases q
      · rename_i q; cases q
      · rename_i q; cases q; exact ⟨_, rfl, .inl rfl⟩
      · rename_i q; cases q; exact ⟨_, rfl, .inr rfl⟩
      · cases hk
    obtain ⟨s0, rfl, hs0⟩ := hsh
    simp only [Sh.ok] at h3
    obtain ⟨ms, rfl, h3⟩ := h3
    refine ⟨s, ?_, h, fun _ _ => rfl⟩
    rw [toC_pl, h1]
    show (if ms.all M.isD = true then some (M.toDs ms, s) else _) = _
    rw [if_pos (isD_all hs0 h3)]
    have h2 : D.lst (M.toDs ms) = d := h2
    rw [← h2] at hd
    cases hd; rfl
end VT
end

section
/-! VT: expressions. -/
namespace VT
open PySem VS L2

/-! ### encodings -/
abbrev eI : Int → D := D.int
abbrev eB : Bool → D := D.bl
abbrev Tx := {x : Str // PyData.strOk x = true}
abbrev eS : Tx → D := fun x => D.str x.1
abbrev eR : List Int → D := D.scr
def eD (d : D) : D := d
def eN (_ : Unit) : D := .non
def eL {α : Type} (e : α → D) (l : List α) : D := .lst (l.map e)
def eV {α : Type} (e : α → D) (l : List α) : D := .tup (l.map e)
def eT0 (_ : Unit) : D := .tup []
def eT1 {α : Type} (ea : α → D) (x : α) : D := .tup [ea x]
def eT2 {α β : Type} (ea : α → D) (eb : β → D) (x : α × β) : D := .tup [ea x.1, eb x.2]
def eT3 {α β γ : Type} (ea : α → D) (eb : β → D) (ec : γ → D) (x : α × β × γ) : D := .tup [ea x.1, eb x.2.1, ec x.2.2]
def eT4 {α β γ δ : Type} (ea : α → D) (eb : β → D) (ec : γ → D) (ed : δ → D) (x : α × β × γ × δ) : D := .tup [ea x.1, eb x.2.1, ec x.2.2.1, ed x.2.2.2]
def eO {α : Type} (e : α → D) : Option α → D
  | none => .non
  | some a => e a
def Flat {α : Type} (e : α → D) : Prop := ∀ v, (e v).flat = true
def LF {α : Type} (e : α → D) : Prop := ∀ v, (e v).lf = true
theorem flat_lf : ∀ {d : D}, d.flat = true → d.lf = true
  | .non, _ => by rw [D.lf]
  | .bl _, _ => by rw [D.lf]
  | .int _, _ => by rw [D.lf]
  | .str _, _ => by rw [D.lf]
theorem flI : Flat eI := fun _ => rfl
theorem flB : Flat eB := fun _ => rfl
theorem flS : Flat eS := fun _ => rfl
theorem flN : Flat eN := fun _ => rfl
theorem flO {α : Type} {e : α → D} (h : Flat e) : Flat (eO e) := fun v => match v with
  | none => rfl
  | some a => h a
theorem Flat.lf {α : Type} {e : α → D} (h : Flat e) : LF e := fun v => flat_lf (h v)
theorem lfI : LF eI := flI.lf
theorem lfB : LF eB := flB.lf
theorem lfS : LF eS := flS.lf
theorem lfN : LF eN := flN.lf
theorem lfO {α : Type} {e : α → D} (h : LF e) : LF (eO e) := fun v => match v with
  | none => by show D.lf .non = true; rw [D.lf]
  | some a => h a
theorem lfs_all : ∀ ds : List D, D.lfs ds = true ↔ ∀ d ∈ ds, D.lf d = true
  | [] => by simp [D.lfs]
  | d :: ds => by rw [D.lfs, Bool.and_eq_true, lfs_all ds]; simp
theorem lf_tup {ds : List D} (h : ∀ d ∈ ds, D.lf d = true) : D.lf (.tup ds) = true := by rw [D.lf, lfs_all]; exact h
theorem lfV {α : Type} {e : α → D} (h : LF e) : LF (eV e) := fun l => lf_tup fun d hd => by
  obtain ⟨x, _, rfl⟩ := List.mem_map.mp hd
  exact h x
theorem lfT0 : LF eT0 := fun _ => lf_tup (by simp)
theorem lfT1 {α : Type} {e : α → D} (h : LF e) : LF (eT1 e) := fun x => lf_tup (by simp; exact h x)
theorem lfT2 {α β : Type} {ea : α → D} {eb : β → D} (ha : LF ea) (hb : LF eb) : LF (eT2 ea eb) := fun x => lf_tup (by simp; exact ⟨ha _, hb _⟩)
theorem lfT3 {α β γ : Type} {ea : α → D} {eb : β → D} {ec : γ → D} (ha : LF ea) (hb : LF eb) (hc : LF ec) : LF (eT3 ea eb ec) := fun x => lf_tup (by simp; exact ⟨ha _, hb _, hc _⟩)
theorem lfT4 {α β γ δ : Type} {ea : α → D} {eb : β → D} {ec : γ → D} {ed : δ → D} (ha : LF ea) (hb : LF eb) (hc : LF ec) (hd : LF ed) : LF (eT4 ea eb ec ed) := fun x => lf_tup (by simp; exact ⟨ha _, hb _, hc _, hd _⟩)

/-! ### the judgement -/
def XE {S α : Type} (G : VS.Env) (pu : Bool) (Γ : S → Ctx) (e : E) (k : K) (enc : α → D) (f : S → Option α) : Prop :=
  ∀ σ s v, Rl (Γ σ) s → f σ = some v → ∃ r s', VS.ev G e s = some (r, s') ∧ Rl (Γ σ) s' ∧ (pu = true → s' = s) ∧ RV (Γ σ) s' k r (enc v)
variable {S α β γ δ : Type} {G : VS.Env} {Γ : S → Ctx} {pu pa pb pc : Bool} {a b c e : E} {k ka kb kc : K} {ea : α → D} {eb : β → D} {ec : γ → D} {fa : S → Option α} {fb : S → Option β} {fc : S → Option γ}
theorem XE.of_eq {f g : S → Option α} (h : XE G pu Γ e k ea f) (q : ∀ σ, f σ = g σ) : XE G pu Γ e k ea g := fun σ s v r q' => h σ s v r (by rw [q]; exact q')
theorem XE.km {s t : Sh} (h : XE G pu Γ e (.m s) ea fa) (q : Sh.le s t = true) : XE G pu Γ e (.m t) ea fa := fun σ s v r q' => by
  obtain ⟨r, s', h1, h2, h3, m, h4, h5, h6⟩ := h σ s v r q'
  exact ⟨r, s', h1, h2, h3, m, h4, h5, Sh.ok_le q h6⟩
/-- seen as of another kind of data -/
theorem XE.as {enc : β → D} {g : β → Option α} (h : XE G pu Γ e k enc fb) (q : ∀ b v, g b = some v → ea v = enc b) : XE G pu Γ e k ea (fun σ => (fb σ).bind g) := fun σ s v r q' => by
  obtain ⟨w, h1, h2⟩ := Option.bind_eq_some_iff.mp q'
  obtain ⟨r, s', e1, e2, e3, e4⟩ := h σ s w r h1
  exact ⟨r, s', e1, e2, e3, by rw [q w v h2]; exact e4⟩
theorem rvm {c : Ctx} {s : Sl} {m : M} {sh : Sh} {d : D} (e : m.toD = d) (o : sh.ok m) : RV c s (.m sh) (.m m) d := ⟨m, rfl, e, o⟩
theorem ok_fz (d : D) : Sh.ok .fz (.fz d) := by simp only [Sh.ok]; rfl
theorem ok_fl {d : D} (h : d.lf = true) : Sh.ok .fl (.fz d) := by simp only [Sh.ok]; exact ⟨d, rfl, h⟩
theorem x_lit {d : D} (hd : d.flat = true) {v : α} (hv : ea v = d) : XE G true Γ (.lit d) (.m .fl) ea (fun _ => some v) := fun σ s w r q => by
  cases q
  refine ⟨.m (.fz d), s, ?_, r, fun _ => rfl, rvm hv.symm (ok_fl ?_)⟩
  · unfold VS.ev
    rw [if_pos hd]; rfl
  · exact flat_lf hd
theorem x_con {n : Nat} {v : α} (hv : G.con n = ea v) : XE G true Γ (.con n) (.m .fz) ea (fun _ => some v) := fun σ s w r q => by
  cases q
  exact ⟨.m (.fz (ea v)), s, by unfold VS.ev; rw [hv]; rfl, r, fun _ => rfl, rvm rfl (ok_fz _)⟩
theorem x_conl {n : Nat} {v : α} (hv : G.con n = ea v) (hl : LF ea) : XE G true Γ (.con n) (.m .fl) ea (fun _ => some v) := fun σ s w r q => by
  cases q
  exact ⟨.m (.fz (ea v)), s, by unfold VS.ev; rw [hv]; rfl, r, fun _ => rfl, rvm rfl (ok_fl (hl v))⟩
/-- the kind of a slot's value -/
def kvar : Sh → K
  | .any => .u
  | .fz => .m .fz
  | .fl => .m .fl
  | .lst s => .p (.lst s)
  | .tup s => .p (.tup s)
def varR (i : Nat) : M → Res
  | .fz d => .m (.fz d)
  | _ => .pl ⟨i, []⟩
theorem ev_var {i : Nat} {s : Sl} {m : M} (h : s[i]? = some (some m)) : VS.ev G (.var i) s = some (varR i m, s) := by
  unfold VS.ev
  rw [look_at, h]
  cases m <;> rfl
theorem x_var {i : Nat} {sh : Sh} {g : S → α} (h : ∀ σ, (Γ σ)[i]? = some (some (sh, ea (g σ)))) : XE G true Γ (.var i) (kvar sh) ea (fun σ => some (g σ)) := fun σ s v r q => by
  cases q
  obtain ⟨m, h1, h2, h3⟩ := r.get (h σ)
  rw [ev_var h1]
  refine ⟨_, s, rfl, r, fun _ => rfl, ?_⟩
  cases sh with
  | any =>
    cases m with
    | fz d => exact .inl (by rw [← h2]; rfl)
    | _ => exact .inr ⟨i, [], _, _, rfl, h σ, rfl, (by rw [getP_at, h1]; rfl), rfl⟩
  | fz =>
    simp only [Sh.ok] at h3
    cases m with
    | fz d => exact rvm h2 (ok_fz d)
    | _ => exact absurd h3 (by simp [M.isD])
  | fl =>
    simp only [Sh.ok] at h3
    obtain ⟨d, rfl, hl⟩ := h3
    exact rvm h2 (ok_fl hl)
  | lst s0 =>
    simp only [Sh.ok] at h3
    obtain ⟨ms, rfl, _⟩ := h3
    exact ⟨rfl, i, [], _, _, rfl, h σ, rfl, rfl⟩
  | tup s0 =>
    simp only [Sh.ok] at h3
    obtain ⟨ms, rfl, _⟩ := h3
    exact ⟨rfl, i, [], _, _, rfl, h σ, rfl, rfl⟩
/-- flat data are frozen wherever they stand -/
theorem fz_of_flat {m : M} (h : m.toD.flat = true) : ∃ d, m = .fz d := by
  cases m with
  | fz d => exact ⟨d, rfl⟩
  | _ => cases h
theorem x_varW {i : Nat} {g : S → α} (h : ∀ σ, (Γ σ)[i]? = some (some (.any, ea (g σ)))) : XE G true Γ (.var i) .w ea (fun σ => some (g σ)) := fun σ s v r q => by
  cases q
  obtain ⟨m, h1, h2, h3⟩ := r.get (h σ)
  rw [ev_var h1]
  refine ⟨_, s, rfl, r, fun _ => rfl, ?_⟩
  cases m with
  | fz d => exact .inl (by rw [← h2]; rfl)
  | _ => exact .inr ⟨i, rfl, h σ⟩
theorem x_varS {i : Nat} {sh : Sh} {g : S → α} (h : ∀ σ, (Γ σ)[i]? = some (some (sh, ea (g σ)))) (hf : Flat ea) : XE G true Γ (.var i) (.m .fl) ea (fun σ => some (g σ)) := fun σ s v r q => by
  cases q
  obtain ⟨m, h1, h2, h3⟩ := r.get (h σ)
  obtain ⟨d, rfl⟩ := fz_of_flat (m := m) (by rw [h2]; exact hf _)
  rw [ev_var h1]
  exact ⟨_, s, rfl, r, fun _ => rfl, rvm h2 (ok_fl (flat_lf (by have := hf (g σ); rw [← h2] at this; exact this)))⟩

/-! ### two operands -/
theorem two (ha : XE G pa Γ a ka ea fa) (hb : XE G pb Γ b kb eb fb) (hs : (pb || ka.stable) = true) {F : α → β → Option γ} {σ : S} {s : Sl} {v : γ} (r : Rl (Γ σ) s) (q : ((fa σ).bind fun x => (fb σ).bind fun y => F x y) = some v) :
    ∃ x y ra rb s1 s2, F x y = some v ∧ VS.ev G a s = some (ra, s1) ∧ VS.ev G b s1 = some (rb, s2) ∧ Rl (Γ σ) s2 ∧ ((pa && pb) = true → s2 = s) ∧ RV (Γ σ) s2 ka ra (ea x) ∧ RV (Γ σ) s2 kb rb (eb y) := by
  obtain ⟨x, q1, q⟩ := Option.bind_eq_some_iff.mp q
  obtain ⟨y, q2, q⟩ := Option.bind_eq_some_iff.mp q
  obtain ⟨ra, s1, e1, r1, p1, v1⟩ := ha σ s x r q1
  obtain ⟨rb, s2, e2, r2, p2, v2⟩ := hb σ s1 y r1 q2
  refine ⟨x, y, ra, rb, s1, s2, q, e1, e2, r2, fun h => ?_, ?_, v2⟩
  · rw [Bool.and_eq_true] at h
    rw [p2 h.2, p1 h.1]
  · cases hpb : pb with
    | true => rw [p2 hpb]; exact v1
    | false =>
      rw [hpb, Bool.false_or] at hs
      exact v1.stable hs
theorem rM_eq (d : D) (s : Sl) : rM d s = some (.m (.fz d), s) := rfl
/-- an operator of flat result that is none upon lists -/
theorem x_bin {o : Bop} {er : γ → D} {F : α → β → Option γ} (ho : ∀ x y v, F x y = some v → (∀ s ra rb, toV s ra = some (ea x) → toV s rb = some (eb y) → evBin o s ra rb = some (.m (.fz (er v)), s))) (hf : LF er)
    (ha : XE G pa Γ a ka ea fa) (hb : XE G pb Γ b kb eb fb) (hs : (pb || ka.stable) = true) : XE G (pa && pb) Γ (.bin o a b) (.m .fl) er (fun σ => (fa σ).bind fun x => (fb σ).bind fun y => F x y) := fun σ s v r q => by
  obtain ⟨x, y, ra, rb, s1, s2, q, e1, e2, r2, p2, v1, v2⟩ := two ha hb hs r q
  refine ⟨.m (.fz (er v)), s2, ?_, r2, p2, rvm rfl (ok_fl (hf v))⟩
  unfold VS.ev
  rw [e1, bd_some, e2, bd_some]
  exact ho x y v q s2 ra rb (toV_ok r2 v1) (toV_ok r2 v2)
theorem evBin_int {o : Bop} {s : Sl} {ra rb : Res} {x y : Int} (h1 : toV s ra = some (.int x)) (h2 : toV s rb = some (.int y)) : evBin o s ra rb = (binF o (.int x) (.int y)).map fun d => (.m (.fz d), s) := by
  unfold evBin
  rw [h1, h2]
  cases o <;> rfl
noncomputable def mulI (a b : Int) : Option Int := lk (if (small a || small b) = true then some (a * b) else none)
theorem mulI_def (a b : Int) : mulI a b = (if (small a || small b) = true then some (a * b) else none) := lk_eq _
noncomputable def fdivI (a b : Int) : Option Int := lk (if 0 < b ∧ b < 1073741824 then some (a / b) else none)
theorem fdivI_def (a b : Int) : fdivI a b = (if 0 < b ∧ b < 1073741824 then some (a / b) else none) := lk_eq _
noncomputable def modI (a b : Int) : Option Int := lk (if 0 < b then some (a % b) else none)
theorem modI_def (a b : Int) : modI a b = (if 0 < b then some (a % b) else none) := lk_eq _
noncomputable def powI (a b : Int) : Option Int := lk (if 0 ≤ b ∧ b ≤ 1000000 ∧ a.natAbs < 2 ^ 64 then some (a ^ b.toNat) else none)
theorem powI_def (a b : Int) : powI a b = (if 0 ≤ b ∧ b ≤ 1000000 ∧ a.natAbs < 2 ^ 64 then some (a ^ b.toNat) else none) := lk_eq _
theorem o_int {o : Bop} {F : Int → Int → Option Int} (h : ∀ x y v, F x y = some v → binF o (.int x) (.int y) = some (.int v)) : ∀ x y v, F x y = some v → (∀ s ra rb, toV s ra = some (eI x) → toV s rb = some (eI y) → evBin o s ra rb = some (.m (.fz (eI v)), s)) := fun x y v q s ra rb h1 h2 => by
  rw [evBin_int h1 h2, h x y v q]; rfl
section
variable {fa fb : S → Option Int}
theorem x_add (ha : XE G pa Γ a ka eI fa) (hb : XE G pb Γ b kb eI fb) (hs : (pb || ka.stable) = true) : XE G (pa && pb) Γ (.bin .add a b) (.m .fl) eI (fun σ => (fa σ).bind fun x => (fb σ).bind fun y => some (x + y)) := x_bin (o_int fun x y v q => by cases q; rfl) lfI ha hb hs
theorem x_sub (ha : XE G pa Γ a ka eI fa) (hb : XE G pb Γ b kb eI fb) (hs : (pb || ka.stable) = true) : XE G (pa && pb) Γ (.bin .sub a b) (.m .fl) eI (fun σ => (fa σ).bind fun x => (fb σ).bind fun y => some (x - y)) := x_bin (o_int fun x y v q => by cases q; rfl) lfI ha hb hs
theorem x_mul (ha : XE G pa Γ a ka eI fa) (hb : XE G pb Γ b kb eI fb) (hs : (pb || ka.stable) = true) : XE G (pa && pb) Γ (.bin .mul a b) (.m .fl) eI (fun σ => (fa σ).bind fun x => (fb σ).bind fun y => mulI x y) := x_bin (o_int fun x y v q => by
  rw [mulI_def] at q
  obtain ⟨h, q⟩ := of_ite q
  cases q
  exact mul_int x y h) lfI ha hb hs
theorem x_fdiv (ha : XE G pa Γ a ka eI fa) (hb : XE G pb Γ b kb eI fb) (hs : (pb || ka.stable) = true) : XE G (pa && pb) Γ (.bin .fdiv a b) (.m .fl) eI (fun σ => (fa σ).bind fun x => (fb σ).bind fun y => fdivI x y) := x_bin (o_int fun x y v q => by
  rw [fdivI_def] at q
  obtain ⟨h, q⟩ := of_ite q
  cases q
  exact fdiv_int x y h) lfI ha hb hs
theorem x_mod (ha : XE G pa Γ a ka eI fa) (hb : XE G pb Γ b kb eI fb) (hs : (pb || ka.stable) = true) : XE G (pa && pb) Γ (.bin .mod a b) (.m .fl) eI (fun σ => (fa σ).bind fun x => (fb σ).bind fun y => modI x y) := x_bin (o_int fun x y v q => by
  rw [modI_def] at q
  obtain ⟨h, q⟩ := of_ite q
  cases q
  exact mod_int x y h) lfI ha hb hs
theorem x_pow (ha : XE G pa Γ a ka eI fa) (hb : XE G pb Γ b kb eI fb) (hs : (pb || ka.stable) = true) : XE G (pa && pb) Γ (.bin .pow a b) (.m .fl) eI (fun σ => (fa σ).bind fun x => (fb σ).bind fun y => powI x y) := x_bin (o_int fun x y v q => by
  rw [powI_def] at q
  obtain ⟨h, q⟩ := of_ite q
  cases q
  exact pow_int x y h) lfI ha hb hs
/-! by a written number -/
theorem x_mulC {n : Int} (hn : -(2 ^ 64) < n ∧ n < 2 ^ 64) (ha : XE G pa Γ a ka eI fa) : XE G pa Γ (.bin .mul a (.lit (.int n))) (.m .fl) eI (fun σ => (fa σ).bind fun x => some (x * n)) := by
  have h := x_mul ha (x_lit (Γ := Γ) (G := G) (ea := eI) (d := .int n) rfl rfl) rfl
  rw [Bool.and_true] at h
  refine h.of_eq fun σ => ?_
  cases fa σ with
  | none => rfl
  | some x =>
    show mulI x n = _
    rw [mulI_def, if_pos (by rw [small_of hn, Bool.or_true])]; rfl
theorem x_Cmul {n : Int} (hn : -(2 ^ 64) < n ∧ n < 2 ^ 64) (hb : XE G pb Γ b kb eI fb) : XE G pb Γ (.bin .mul (.lit (.int n)) b) (.m .fl) eI (fun σ => (fb σ).bind fun x => some (n * x)) := by
  have h := x_mul (x_lit (Γ := Γ) (G := G) (ea := eI) (d := .int n) rfl rfl) hb (by simp [K.stable])
  rw [Bool.true_and] at h
  refine h.of_eq fun σ => ?_
  cases fb σ with
  | none => rfl
  | some x =>
    show mulI n x = _
    rw [mulI_def, if_pos (by rw [small_of hn, Bool.true_or])]; rfl
theorem x_fdivC {n : Int} (hn : 0 < n ∧ n < 1073741824) (ha : XE G pa Γ a ka eI fa) : XE G pa Γ (.bin .fdiv a (.lit (.int n))) (.m .fl) eI (fun σ => (fa σ).bind fun x => some (x / n)) := by
  have h := x_fdiv ha (x_lit (Γ := Γ) (G := G) (ea := eI) (d := .int n) rfl rfl) rfl
  rw [Bool.and_true] at h
  refine h.of_eq fun σ => ?_
  cases fa σ with
  | none => rfl
  | some x =>
    show fdivI x n = _
    rw [fdivI_def, if_pos hn]; rfl
theorem x_modC {n : Int} (hn : 0 < n) (ha : XE G pa Γ a ka eI fa) : XE G pa Γ (.bin .mod a (.lit (.int n))) (.m .fl) eI (fun σ => (fa σ).bind fun x => some (x % n)) := by
  have h := x_mod ha (x_lit (Γ := Γ) (G := G) (ea := eI) (d := .int n) rfl rfl) rfl
  rw [Bool.and_true] at h
  refine h.of_eq fun σ => ?_
  cases fa σ with
  | none => rfl
  | some x =>
    show modI x n = _
    rw [modI_def, if_pos hn]; rfl
theorem x_powC {m n z : Int} (h : 0 ≤ n ∧ n ≤ 1000000 ∧ m.natAbs < 2 ^ 64) (hz : m ^ n.toNat = z) : XE G true Γ (.bin .pow (.lit (.int m)) (.lit (.int n))) (.m .fl) eI (fun _ => some z) :=
  (x_pow (x_lit (Γ := Γ) (G := G) (ea := eI) (d := .int m) rfl rfl) (x_lit (Γ := Γ) (G := G) (ea := eI) (d := .int n) rfl rfl) rfl).of_eq fun _ => by
    show powI m n = _
    rw [powI_def, if_pos h, hz]
theorem x_neg (ha : XE G pa Γ a ka eI fa) : XE G pa Γ (.neg a) (.m .fl) eI (fun σ => (fa σ).bind fun x => some (-x)) := fun σ s v r q => by
  obtain ⟨x, q1, q⟩ := Option.bind_eq_some_iff.mp q
  cases q
  obtain ⟨ra, s1, e1, r1, p1, v1⟩ := ha σ s x r q1
  refine ⟨.m (.fz (.int (-x))), s1, ?_, r1, p1, rvm rfl (ok_fl (lfI _))⟩
  unfold VS.ev
  rw [e1, bd_some, toV_ok r1 v1]; rfl
end

/-! ### comparisons -/
def CmpOk (o : Cop) (ea : α → D) (eb : β → D) (F : α → β → Option Bool) : Prop := ∀ x y v, F x y = some v → cmpD o (ea x) (eb y) = some v
theorem evCmp_ok {o : Cop} {F : α → β → Option Bool} (h : CmpOk o ea eb F) {c : Ctx} {s : Sl} {ra rb : Res} {x : α} {y : β} {v : Bool} (r : Rl c s) (v1 : RV c s ka ra (ea x)) (v2 : RV c s kb rb (eb y)) (q : F x y = some v) : evCmp o s ra rb = some v := by
  unfold evCmp
  rw [toV_ok r v1, toV_ok r v2]
  exact h x y v q
theorem x_cmp {o : Cop} {F : α → β → Option Bool} (h : CmpOk o ea eb F) (ha : XE G pa Γ a ka ea fa) (hb : XE G pb Γ b kb eb fb) (hs : (pb || ka.stable) = true) :
    XE G (pa && pb) Γ (.cmp o a b) (.m .fl) eB (fun σ => (fa σ).bind fun x => (fb σ).bind fun y => F x y) := fun σ s v r q => by
  obtain ⟨x, y, ra, rb, s1, s2, q, e1, e2, r2, p2, v1, v2⟩ := two ha hb hs r q
  refine ⟨.m (.fz (.bl v)), s2, ?_, r2, p2, rvm rfl (ok_fl (lfB v))⟩
  unfold VS.ev
  rw [e1, bd_some, e2, bd_some, evCmp_ok h r2 v1 v2 q]; rfl
theorem c_lt : CmpOk .lt eI eI (fun x y => some (decide (x < y))) := fun x y v q => by cases q; rfl
theorem c_le : CmpOk .le eI eI (fun x y => some (decide (x ≤ y))) := fun x y v q => by cases q; rfl
theorem c_gt : CmpOk .gt eI eI (fun x y => some (decide (x > y))) := fun x y v q => by cases q; rfl
theorem c_ge : CmpOk .ge eI eI (fun x y => some (decide (x ≥ y))) := fun x y v q => by cases q; rfl
/-- == says whether they are the same -/
structure EqE (e : α → D) : Prop where
  shp : ∀ x, (e x).shp = true
  eqv : ∀ x y, D.eqv (e x) (e y) = true ↔ x = y
theorem c_eq [DecidableEq α] (h : EqE ea) : CmpOk .eq ea ea (fun x y => some (decide (x = y))) := fun x y v q => by
  cases q
  show (if ((ea x).shp && (ea y).shp) = true then some (D.eqv (ea x) (ea y)) else none) = _
  rw [h.shp, h.shp]
  show some (D.eqv (ea x) (ea y)) = _
  congr 1
  rw [Bool.eq_iff_iff, h.eqv]; simp
theorem c_ne [DecidableEq α] (h : EqE ea) : CmpOk .ne ea ea (fun x y => some (decide (x ≠ y))) := fun x y v q => by
  cases q
  show (if ((ea x).shp && (ea y).shp) = true then some (!D.eqv (ea x) (ea y)) else none) = _
  rw [h.shp, h.shp]
  show some (!D.eqv (ea x) (ea y)) = _
  congr 1
  rw [Bool.eq_iff_iff, Bool.not_eq_true', ← Bool.not_eq_true, h.eqv]; simp
def eqD (x y : D) : Option Bool := if (x.shp && y.shp) = true then some (D.eqv x y) else none
theorem c_eqD : CmpOk .eq ea eb (fun x y => eqD (ea x) (eb y)) := fun x y v q => q
theorem c_neD : CmpOk .ne ea eb (fun x y => (eqD (ea x) (eb y)).map not) := fun x y v q => by
  show (if ((ea x).shp && (eb y).shp) = true then some (!D.eqv (ea x) (eb y)) else none) = _
  have q : (eqD (ea x) (eb y)).map not = some v := q
  unfold eqD at q
  by_cases h : ((ea x).shp && (eb y).shp) = true
  · rw [if_pos h] at q ⊢; exact q
  · rw [if_neg h] at q; cases q
/-- never None -/
def NN {α : Type} (e : α → D) : Prop := ∀ v, (match e v with | .non => true | _ => false) = false
theorem c_isN (hn : NN ea) : CmpOk .is_ (eO ea) eN (fun x _ => some x.isNone) := fun x y v q => by
  cases q
  cases x with
  | none => rfl
  | some x => show some (match ea x with | .non => true | _ => false) = _; rw [hn x]; rfl
theorem c_notN (hn : NN ea) : CmpOk .isnot (eO ea) eN (fun x _ => some x.isSome) := fun x y v q => by
  cases q
  cases x with
  | none => rfl
  | some x =>
    show some (match ea x with | .non => false | _ => true) = _
    have := hn x
    cases h : ea x <;> rw [h] at this <;> first
      | rfl
      | cases this
theorem nnI : NN eI := fun _ => rfl
theorem nnB : NN eB := fun _ => rfl
theorem nnS : NN eS := fun _ => rfl
theorem nnL : NN (eL ea) := fun _ => rfl
theorem nnV : NN (eV ea) := fun _ => rfl
theorem nnT1 : NN (eT1 ea) := fun _ => rfl
theorem nnT2 : NN (eT2 ea eb) := fun _ => rfl
theorem nnT3 : NN (eT3 ea eb ec) := fun _ => rfl
/-! in -/
theorem inD_iff [DecidableEq α] (h : EqE ea) (x : α) : ∀ l : List α, inD (ea x) (l.map ea) = decide (x ∈ l)
  | [] => rfl
  | y :: l => by
    show (D.eqv (ea y) (ea x) || inD (ea x) (l.map ea)) = _
    rw [inD_iff h x l, Bool.eq_iff_iff, Bool.or_eq_true, h.eqv, decide_eq_true_eq, decide_eq_true_eq, List.mem_cons]
    exact or_congr ⟨Eq.symm, Eq.symm⟩ Iff.rfl
theorem c_in [DecidableEq α] (h : EqE ea) (hl : ∀ l : List α, (eL ea l).shp = true) : CmpOk .in_ ea (eL ea) (fun x l => some (decide (x ∈ l))) := fun x l v q => by
  cases q
  show (if ((ea x).shp && (D.lst (l.map ea)).shp) = true then some (inD (ea x) (l.map ea)) else none) = _
  rw [h.shp, show (D.lst (l.map ea)).shp = true from hl l]
  show some (inD (ea x) (l.map ea)) = _
  rw [inD_iff h]
theorem c_notin [DecidableEq α] (h : EqE ea) (hl : ∀ l : List α, (eL ea l).shp = true) : CmpOk .notin ea (eL ea) (fun x l => some (decide (x ∉ l))) := fun x l v q => by
  cases q
  show (if ((ea x).shp && (D.lst (l.map ea)).shp) = true then some (!inD (ea x) (l.map ea)) else none) = _
  rw [h.shp, show (D.lst (l.map ea)).shp = true from hl l]
  show some (!inD (ea x) (l.map ea)) = _
  rw [inD_iff h]
  simp
/-- data whose depth is told -/
def Dp (n : Nat) (e : α → D) : Prop := ∀ v, Dep n (e v)
theorem dpI : Dp 0 eI := fun v => dep_int v
theorem dpB : Dp 0 eB := fun v => dep_bl v
theorem dep_str (x : Tx) : Dep 0 (.str x.1) := ⟨by unfold D.py PyData.canLay0; exact x.2, by unfold D.py PyData.depth; exact Nat.le_refl _⟩
theorem dep_non : Dep 0 .non := ⟨rfl, Nat.le_refl _⟩
theorem _root_.VS.Dep.mono {n m : Nat} {d : D} (h : Dep n d) (q : n ≤ m) : Dep m d := ⟨h.c, Nat.le_trans h.dp q⟩
theorem dpS : Dp 0 eS := fun v => dep_str v
theorem dpN : Dp 0 eN := fun v => dep_non
theorem dpO {n : Nat} (h : Dp n ea) : Dp n (eO ea) := fun v => match v with
  | none => dep_non.mono (Nat.zero_le _)
  | some a => h a
theorem dpL {n : Nat} (h : Dp n ea) : Dp (n + 1) (eL ea) := fun l => dep_lst fun d hd => by
  obtain ⟨x, _, rfl⟩ := List.mem_map.mp hd
  exact h x
theorem dpV {n : Nat} (h : Dp n ea) : Dp (n + 1) (eV ea) := fun l => dep_tup fun d hd => by
  obtain ⟨x, _, rfl⟩ := List.mem_map.mp hd
  exact h x
theorem dpT0 : Dp 1 eT0 := fun _ => (dep_tup (n := 0) (ds := []) (fun d hd => by cases hd))
theorem dpT1 {n : Nat} (h : Dp n ea) : Dp (n + 1) (eT1 ea) := fun x => dep_tup fun d hd => by
  rcases List.mem_cons.mp hd with rfl | hd
  · exact h _
  · cases hd
theorem dpT2 {n m : Nat} (h : Dp n ea) (h' : Dp m eb) : Dp (max n m + 1) (eT2 ea eb) := fun x => dep_tup fun d hd => by
  rcases List.mem_cons.mp hd with rfl | hd
  · exact (h _).mono (Nat.le_max_left _ _)
  · rcases List.mem_cons.mp hd with rfl | hd
    · exact (h' _).mono (Nat.le_max_right _ _)
    · cases hd
theorem dpT3 {n m p : Nat} (h : Dp n ea) (h' : Dp m eb) (h'' : Dp p ec) : Dp (max n (max m p) + 1) (eT3 ea eb ec) := fun x => dep_tup fun d hd => by
  rcases List.mem_cons.mp hd with rfl | hd
  · exact (h _).mono (Nat.le_max_left _ _)
  · rcases List.mem_cons.mp hd with rfl | hd
    · exact (h' _).mono (Nat.le_trans (Nat.le_max_left _ _) (Nat.le_max_right _ _))
    · rcases List.mem_cons.mp hd with rfl | hd
      · exact (h'' _).mono (Nat.le_trans (Nat.le_max_right _ _) (Nat.le_max_right _ _))
      · cases hd
/-- the encoding tells equal from unequal -/
def EqvE (e : α → D) : Prop := ∀ x y, D.eqv (e x) (e y) = true ↔ x = y
theorem eqvI : EqvE eI := fun x y => by rw [eqv_int]; simp
theorem eqvB : EqvE eB := fun x y => by show (x == y) = true ↔ _; simp
theorem eqvS : EqvE eS := fun x y => by show (x.1 == y.1) = true ↔ _; simp [Subtype.ext_iff]
theorem eqvN : EqvE eN := fun x y => by show true = true ↔ _; simp
theorem eqvs (h : EqvE ea) : ∀ x y : List α, PyData.eqvAll (D.pys (x.map ea)) (D.pys (y.map ea)) = true ↔ x = y
  | [], [] => by show true = true ↔ _; simp
  | [], _ :: _ => by show false = true ↔ _; simp
  | _ :: _, [] => by show false = true ↔ _; simp
  | a :: x, b :: y => by
    show (D.eqv (ea a) (ea b) && PyData.eqvAll (D.pys (x.map ea)) (D.pys (y.map ea))) = true ↔ _
    rw [Bool.and_eq_true, h, eqvs h x y]; simp
theorem eqvL (h : EqvE ea) : EqvE (eL ea) := fun x y => eqvs h x y
theorem eqvV (h : EqvE ea) : EqvE (eV ea) := fun x y => eqvs h x y
theorem eqvT0 : EqvE eT0 := fun x y => by show true = true ↔ _; simp
theorem eqvT1 (h : EqvE ea) : EqvE (eT1 ea) := fun x y => by
  show (D.eqv (ea x) (ea y) && true) = true ↔ _
  rw [Bool.and_true, h]
theorem eqvT2 (h : EqvE ea) (h' : EqvE eb) : EqvE (eT2 ea eb) := fun x y => by
  show (D.eqv (ea x.1) (ea y.1) && (D.eqv (eb x.2) (eb y.2) && true)) = true ↔ _
  rw [Bool.and_true, Bool.and_eq_true, h, h', Prod.ext_iff]
theorem eqvT3 (h : EqvE ea) (h' : EqvE eb) (h'' : EqvE ec) : EqvE (eT3 ea eb ec) := fun x y => by
  show (D.eqv (ea x.1) (ea y.1) && (D.eqv (eb x.2.1) (eb y.2.1) && (D.eqv (ec x.2.2) (ec y.2.2) && true))) = true ↔ _
  rw [Bool.and_true, Bool.and_eq_true, Bool.and_eq_true, h, h', h'', Prod.ext_iff, Prod.ext_iff]
theorem eqvO_aux : ∀ d : D, (match d with | .non => true | _ => false) = false → D.eqv .non d = false ∧ D.eqv d .non = false
  | .non, h => by cases h
  | .bl _, _ => ⟨rfl, rfl⟩
  | .int _, _ => ⟨rfl, rfl⟩
  | .str _, _ => ⟨rfl, rfl⟩
  | .tup _, _ => ⟨rfl, rfl⟩
  | .lst _, _ => ⟨rfl, rfl⟩
  | .ins _ _, _ => ⟨rfl, rfl⟩
  | .scr _, _ => ⟨rfl, rfl⟩
theorem eqvO (h : EqvE ea) (hn : NN ea) : EqvE (eO ea) := fun x y => by
  cases x with
  | none =>
    cases y with
    | none => show true = true ↔ _; simp
    | some y => show D.eqv .non (ea y) = true ↔ _; rw [(eqvO_aux _ (hn y)).1]; simp
  | some x =>
    cases y with
    | none => show D.eqv (ea x) .non = true ↔ _; rw [(eqvO_aux _ (hn x)).2]; simp
    | some y => show D.eqv (ea x) (ea y) = true ↔ _; rw [h]; simp
theorem EqE.mk' {n : Nat} (h : Dp n ea) (hn : n ≤ 64) (q : EqvE ea) : EqE ea := ⟨fun x => (h x).shp hn, q⟩
theorem shpL {n : Nat} (h : Dp n ea) (hn : n + 1 ≤ 64) (l : List α) : (eL ea l).shp = true := (dpL h l).shp hn
/-- the other answers of an option -/
theorem c_O {o : Cop} {eg : γ → D} {F : α → γ → Option Bool} (h : CmpOk o ea eg F) : CmpOk o (eO ea) eg (fun x y => x.bind fun x => F x y) := fun x y v q => by
  cases x with
  | none => cases q
  | some x => exact h x y v q
end VT
end

section
/-! VT: tests, subscripts, built-ins. -/
namespace VT
open PySem VS L2
variable {S α β γ δ : Type} {G : VS.Env} {Γ : S → Ctx} {pu pa pb pc : Bool} {a b c e : E} {k ka kb kc : K} {ea : α → D} {eb : β → D} {ec : γ → D} {fa : S → Option α} {fb : S → Option β} {fc : S → Option γ}

theorem ok_fl_of {m : M} (h1 : Sh.ok .fz m) (h2 : m.toD.lf = true) : Sh.ok .fl m := by
  simp only [Sh.ok] at h1
  cases m with
  | fz d => exact ok_fl h2
  | _ => exact absurd h1 (by simp [M.isD])
theorem XE.lf (h : XE G pu Γ e (.m .fz) ea fa) (q : LF ea) : XE G pu Γ e (.m .fl) ea fa := fun σ s v r q' => by
  obtain ⟨r, s', h1, h2, h3, m, h4, h5, h6⟩ := h σ s v r q'
  exact ⟨r, s', h1, h2, h3, m, h4, h5, ok_fl_of h6 (by rw [h5]; exact q v)⟩
theorem XE.imp {pu' : Bool} (h : XE G pu Γ e k ea fa) (q : pu' = true → pu = true) : XE G pu' Γ e k ea fa := fun σ s v r q' => by
  obtain ⟨r, s', h1, h2, h3, h4⟩ := h σ s v r q'
  exact ⟨r, s', h1, h2, fun p => h3 (q p), h4⟩

/-! ### tests -/
def XT (G : VS.Env) (pu : Bool) (Γ : S → Ctx) (t : Tst) (f : S → Option Bool) : Prop :=
  ∀ σ s v, Rl (Γ σ) s → f σ = some v → ∃ s', VS.evT G t s = some (v, s') ∧ Rl (Γ σ) s' ∧ (pu = true → s' = s)
def XTs (G : VS.Env) (pu : Bool) (Γ : S → Ctx) (isAnd : Bool) (t : Ts) (f : S → Option Bool) : Prop :=
  t ≠ .nil ∧ ∀ σ s v, Rl (Γ σ) s → f σ = some v → ∃ s', VS.evBT G isAnd t s = some (v, s') ∧ Rl (Γ σ) s' ∧ (pu = true → s' = s)
def XBs (G : VS.Env) (pu : Bool) (Γ : S → Ctx) (isAnd : Bool) (t : Es) (f : S → Option Bool) : Prop :=
  t ≠ .nil ∧ ∀ σ s v, Rl (Γ σ) s → f σ = some v → ∃ s', VS.evB G isAnd t s = some (v, s') ∧ Rl (Γ σ) s' ∧ (pu = true → s' = s)
def Tru (ea : α → D) (t : α → Bool) : Prop := ∀ v, truthD (ea v) = some (t v)
theorem truB : Tru eB id := fun v => rfl
theorem truI : Tru eI (fun v => v != 0) := fun v => rfl
theorem truL : Tru (eL ea) (fun v => !v.isEmpty) := fun v => by
  show some (!(v.map ea).isEmpty) = _
  cases v <;> rfl
theorem truV : Tru (eV ea) (fun v => !v.isEmpty) := fun v => by
  show some (!(v.map ea).isEmpty) = _
  cases v <;> rfl
theorem t_tru {t : α → Bool} (ht : Tru ea t) (h : XE G pu Γ e k ea fa) : XT G pu Γ (.v e) (fun σ => (fa σ).bind fun x => some (t x)) := fun σ s v r q => by
  obtain ⟨x, q1, q⟩ := Option.bind_eq_some_iff.mp q
  cases q
  obtain ⟨ra, s1, e1, r1, p1, v1⟩ := h σ s x r q1
  refine ⟨s1, ?_, r1, p1⟩
  unfold VS.evT
  rw [e1, bd_some]
  unfold tst
  rw [toV_ok r1 v1, ob_some, ht x]; rfl
theorem t_b {f : S → Option Bool} (h : XE G pu Γ e k eB f) : XT G pu Γ (.v e) f := fun σ s v r q => t_tru truB h σ s v r (by show (f σ).bind _ = _; rw [q]; rfl)
theorem t_cmp {o : Cop} {F : α → β → Option Bool} (h : CmpOk o ea eb F) (ha : XE G pa Γ a ka ea fa) (hb : XE G pb Γ b kb eb fb) (hs : (pb || ka.stable) = true) :
    XT G (pa && pb) Γ (.cmp o a b) (fun σ => (fa σ).bind fun x => (fb σ).bind fun y => F x y) := fun σ s v r q => by
  obtain ⟨x, y, ra, rb, s1, s2, q, e1, e2, r2, p2, v1, v2⟩ := two ha hb hs r q
  refine ⟨s2, ?_, r2, p2⟩
  unfold VS.evT
  rw [e1, bd_some, e2, bd_some, evCmp_ok h r2 v1 v2 q]; rfl
theorem chain_core {o p : Cop} {F : α → β → Option Bool} {F' : β → γ → Option Bool} (h : CmpOk o ea eb F) (h' : CmpOk p eb ec F') (ha : XE G pa Γ a ka ea fa) (hb : XE G pb Γ b kb eb fb) (hc : XE G pc Γ c kc ec fc) (hs : (pb || ka.stable) = true) (hs' : (pc || kb.stable) = true)
    {σ : S} {s : Sl} {v : Bool} (r : Rl (Γ σ) s) (q : ((fa σ).bind fun x => (fb σ).bind fun y => (F x y).bind fun k => if k then (fc σ).bind fun z => F' y z else some false) = some v) :
    ∃ ra rb s1 s2 s', VS.ev G a s = some (ra, s1) ∧ VS.ev G b s1 = some (rb, s2) ∧ ((evCmp o s2 ra rb = some false ∧ v = false ∧ s' = s2) ∨ (evCmp o s2 ra rb = some true ∧ ∃ rc, VS.ev G c s2 = some (rc, s') ∧ evCmp p s' rb rc = some v)) ∧ Rl (Γ σ) s' ∧ ((pa && pb && pc) = true → s' = s) := by
  obtain ⟨x, y, ra, rb, s1, s2, q, e1, e2, r2, p2, v1, v2⟩ := two ha hb hs (F := fun x y => (F x y).bind fun k => if k then (fc σ).bind fun z => F' y z else some false) r q
  obtain ⟨k, q1, q⟩ := Option.bind_eq_some_iff.mp q
  have ek := evCmp_ok h r2 v1 v2 q1
  cases k with
  | false =>
    rw [if_neg Bool.false_ne_true] at q
    cases q
    refine ⟨ra, rb, s1, s2, s2, e1, e2, .inl ⟨ek, rfl, rfl⟩, r2, fun hp => ?_⟩
    rw [Bool.and_eq_true] at hp
    exact p2 hp.1
  | true =>
    rw [if_pos rfl] at q
    obtain ⟨z, q2, q3⟩ := Option.bind_eq_some_iff.mp q
    obtain ⟨rc, s3, e3, r3, p3, v3⟩ := hc σ s2 z r2 q2
    have v2' : RV (Γ σ) s3 kb rb (eb y) := by
      cases hpc : pc with
      | true => rw [p3 hpc]; exact v2
      | false =>
        rw [hpc, Bool.false_or] at hs'
        exact v2.stable hs'
    refine ⟨ra, rb, s1, s2, s3, e1, e2, .inr ⟨ek, rc, e3, evCmp_ok h' r3 v2' v3 q3⟩, r3, fun hp => ?_⟩
    rw [Bool.and_eq_true] at hp
    rw [p3 hp.2, p2 hp.1]
theorem x_chain {o p : Cop} {F : α → β → Option Bool} {F' : β → γ → Option Bool} (h : CmpOk o ea eb F) (h' : CmpOk p eb ec F') (ha : XE G pa Γ a ka ea fa) (hb : XE G pb Γ b kb eb fb) (hc : XE G pc Γ c kc ec fc) (hs : (pb || ka.stable) = true) (hs' : (pc || kb.stable) = true) :
    XE G (pa && pb && pc) Γ (.chain o p a b c) (.m .fl) eB (fun σ => (fa σ).bind fun x => (fb σ).bind fun y => (F x y).bind fun k => if k then (fc σ).bind fun z => F' y z else some false) := fun σ s v r q => by
  obtain ⟨ra, rb, s1, s2, s', e1, e2, e3, r', p'⟩ := chain_core h h' ha hb hc hs hs' r q
  refine ⟨.m (.fz (.bl v)), s', ?_, r', p', rvm rfl (ok_fl (lfB v))⟩
  unfold VS.ev
  rw [e1, bd_some, e2, bd_some]
  rcases e3 with ⟨e3, rfl, rfl⟩ | ⟨e3, rc, e4, e5⟩
  · rw [e3]; rfl
  · rw [e3, ob_some, if_pos rfl, e4, bd_some, e5]; rfl
theorem t_chain {o p : Cop} {F : α → β → Option Bool} {F' : β → γ → Option Bool} (h : CmpOk o ea eb F) (h' : CmpOk p eb ec F') (ha : XE G pa Γ a ka ea fa) (hb : XE G pb Γ b kb eb fb) (hc : XE G pc Γ c kc ec fc) (hs : (pb || ka.stable) = true) (hs' : (pc || kb.stable) = true) :
    XT G (pa && pb && pc) Γ (.chain o p a b c) (fun σ => (fa σ).bind fun x => (fb σ).bind fun y => (F x y).bind fun k => if k then (fc σ).bind fun z => F' y z else some false) := fun σ s v r q => by
  obtain ⟨ra, rb, s1, s2, s', e1, e2, e3, r', p'⟩ := chain_core h h' ha hb hc hs hs' r q
  refine ⟨s', ?_, r', p'⟩
  unfold VS.evT
  rw [e1, bd_some, e2, bd_some]
  rcases e3 with ⟨e3, rfl, rfl⟩ | ⟨e3, rc, e4, e5⟩
  · rw [e3]; rfl
  · rw [e3, ob_some, if_pos rfl, e4, bd_some, e5]; rfl
theorem t_not {t : Tst} {f : S → Option Bool} (h : XT G pu Γ t f) : XT G pu Γ (.not_ t) (fun σ => (f σ).bind fun x => some (!x)) := fun σ s v r q => by
  obtain ⟨x, q1, q⟩ := Option.bind_eq_some_iff.mp q
  cases q
  obtain ⟨s1, e1, r1, p1⟩ := h σ s x r q1
  exact ⟨s1, by unfold VS.evT; rw [e1]; rfl, r1, p1⟩
theorem t_bool {isAnd : Bool} {ts : Ts} {f : S → Option Bool} (h : XTs G pu Γ isAnd ts f) : XT G pu Γ (.bool isAnd ts) f := fun σ s v r q => by
  obtain ⟨s', e, r', p⟩ := h.2 σ s v r q
  exact ⟨s', by unfold VS.evT; exact e, r', p⟩
theorem ts_one {isAnd : Bool} {t : Tst} {f : S → Option Bool} (h : XT G pu Γ t f) : XTs G pu Γ isAnd (.cons t .nil) f := ⟨by simp, fun σ s v r q => by
  obtain ⟨s', e, r', p⟩ := h σ s v r q
  exact ⟨s', by unfold VS.evBT; rw [e]; rfl, r', p⟩⟩
theorem ts_and {t : Tst} {ts : Ts} {f g : S → Option Bool} (h : XT G pa Γ t f) (h' : XTs G pb Γ true ts g) : XTs G (pa && pb) Γ true (.cons t ts) (fun σ => (f σ).bind fun x => if x then g σ else some false) := ⟨by simp, fun σ s v r q => by
  obtain ⟨x, q1, q⟩ := Option.bind_eq_some_iff.mp q
  obtain ⟨s1, e1, r1, p1⟩ := h σ s x r q1
  have key : VS.evBT G true (.cons t ts) s = if x == true then VS.evBT G true ts s1 else some (x, s1) := by
    rw [VS.evBT, e1, bd_some]
    cases ts with
    | nil => exact absurd rfl h'.1
    | cons t2 ts2 => rfl
  rw [key]
  cases x with
  | false =>
    cases q
    exact ⟨s1, rfl, r1, fun hp => by rw [Bool.and_eq_true] at hp; exact p1 hp.1⟩
  | true =>
    obtain ⟨s2, e2, r2, p2⟩ := h'.2 σ s1 v r1 q
    exact ⟨s2, e2, r2, fun hp => by rw [Bool.and_eq_true] at hp; rw [p2 hp.2, p1 hp.1]⟩⟩
theorem ts_or {t : Tst} {ts : Ts} {f g : S → Option Bool} (h : XT G pa Γ t f) (h' : XTs G pb Γ false ts g) : XTs G (pa && pb) Γ false (.cons t ts) (fun σ => (f σ).bind fun x => if x then some true else g σ) := ⟨by simp, fun σ s v r q => by
  obtain ⟨x, q1, q⟩ := Option.bind_eq_some_iff.mp q
  obtain ⟨s1, e1, r1, p1⟩ := h σ s x r q1
  have key : VS.evBT G false (.cons t ts) s = if x == false then VS.evBT G false ts s1 else some (x, s1) := by
    rw [VS.evBT, e1, bd_some]
    cases ts with
    | nil => exact absurd rfl h'.1
    | cons t2 ts2 => rfl
  rw [key]
  cases x with
  | true =>
    cases q
    exact ⟨s1, rfl, r1, fun hp => by rw [Bool.and_eq_true] at hp; exact p1 hp.1⟩
  | false =>
    obtain ⟨s2, e2, r2, p2⟩ := h'.2 σ s1 v r1 q
    exact ⟨s2, e2, r2, fun hp => by rw [Bool.and_eq_true] at hp; rw [p2 hp.2, p1 hp.1]⟩⟩
theorem boolR_ok {c : Ctx} {s : Sl} (h : Rl c s) {r : Res} {v : Bool} (rv : RV c s k r (eB v)) : boolR s r = some v := by
  unfold boolR
  rw [toV_ok h rv]
theorem bs_one {isAnd : Bool} {f : S → Option Bool} (h : XE G pu Γ e k eB f) : XBs G pu Γ isAnd (.cons e .nil) f := ⟨by simp, fun σ s v r q => by
  obtain ⟨ra, s', e1, r', p, v1⟩ := h σ s v r q
  exact ⟨s', by unfold VS.evB; rw [e1, bd_some, boolR_ok r' v1]; rfl, r', p⟩⟩
theorem bs_and {ts : Es} {f g : S → Option Bool} (h : XE G pa Γ e k eB f) (h' : XBs G pb Γ true ts g) : XBs G (pa && pb) Γ true (.cons e ts) (fun σ => (f σ).bind fun x => if x then g σ else some false) := ⟨by simp, fun σ s v r q => by
  obtain ⟨x, q1, q⟩ := Option.bind_eq_some_iff.mp q
  obtain ⟨ra, s1, e1, r1, p1, v1⟩ := h σ s x r q1
  have key : VS.evB G true (.cons e ts) s = if x == true then VS.evB G true ts s1 else some (x, s1) := by
    rw [VS.evB, e1, bd_some, boolR_ok r1 v1]
    cases ts with
    | nil => exact absurd rfl h'.1
    | cons t2 ts2 => rfl
  rw [key]
  cases x with
  | false =>
    cases q
    exact ⟨s1, rfl, r1, fun hp => by rw [Bool.and_eq_true] at hp; exact p1 hp.1⟩
  | true =>
    obtain ⟨s2, e2, r2, p2⟩ := h'.2 σ s1 v r1 q
    exact ⟨s2, e2, r2, fun hp => by rw [Bool.and_eq_true] at hp; rw [p2 hp.2, p1 hp.1]⟩⟩
theorem bs_or {ts : Es} {f g : S → Option Bool} (h : XE G pa Γ e k eB f) (h' : XBs G pb Γ false ts g) : XBs G (pa && pb) Γ false (.cons e ts) (fun σ => (f σ).bind fun x => if x then some true else g σ) := ⟨by simp, fun σ s v r q => by
  obtain ⟨x, q1, q⟩ := Option.bind_eq_some_iff.mp q
  obtain ⟨ra, s1, e1, r1, p1, v1⟩ := h σ s x r q1
  have key : VS.evB G false (.cons e ts) s = if x == false then VS.evB G false ts s1 else some (x, s1) := by
    rw [VS.evB, e1, bd_some, boolR_ok r1 v1]
    cases ts with
    | nil => exact absurd rfl h'.1
    | cons t2 ts2 => rfl
  rw [key]
  cases x with
  | true =>
    cases q
    exact ⟨s1, rfl, r1, fun hp => by rw [Bool.and_eq_true] at hp; exact p1 hp.1⟩
  | false =>
    obtain ⟨s2, e2, r2, p2⟩ := h'.2 σ s1 v r1 q
    exact ⟨s2, e2, r2, fun hp => by rw [Bool.and_eq_true] at hp; rw [p2 hp.2, p1 hp.1]⟩⟩
theorem x_bool {isAnd : Bool} {es : Es} {f : S → Option Bool} (h : XBs G pu Γ isAnd es f) : XE G pu Γ (.bool isAnd es) (.m .fl) eB f := fun σ s v r q => by
  obtain ⟨s', e, r', p⟩ := h.2 σ s v r q
  exact ⟨.m (.fz (.bl v)), s', by unfold VS.ev; rw [e]; rfl, r', p, rvm rfl (ok_fl (lfB v))⟩
theorem x_not {t : α → Bool} (ht : Tru ea t) (h : XE G pu Γ e k ea fa) : XE G pu Γ (.not_ e) (.m .fl) eB (fun σ => (fa σ).bind fun x => some (!t x)) := fun σ s v r q => by
  obtain ⟨x, q1, q⟩ := Option.bind_eq_some_iff.mp q
  cases q
  obtain ⟨ra, s1, e1, r1, p1, v1⟩ := h σ s x r q1
  refine ⟨.m (.fz (.bl (!t x))), s1, ?_, r1, p1, rvm rfl (ok_fl (lfB _))⟩
  unfold VS.ev
  rw [e1, bd_some]
  unfold tst
  rw [toV_ok r1 v1, ob_some, ht x]; rfl
theorem x_ite {t : Tst} {f : S → Option Bool} {g h : S → Option α} {sa sb sh : Sh} (ht : XT G pc Γ t f) (ha : XE G pa Γ a ka ea g) (hb : XE G pb Γ b kb ea h) (ka' : ka.st = some sa) (kb' : kb.st = some sb) (la : Sh.le sa sh = true) (lb : Sh.le sb sh = true) :
    XE G false Γ (.ite t a b) (.m sh) ea (fun σ => (f σ).bind fun x => if x then g σ else h σ) := fun σ s v r q => by
  obtain ⟨x, q1, q⟩ := Option.bind_eq_some_iff.mp q
  obtain ⟨s1, e1, r1, p1⟩ := ht σ s x r q1
  cases x with
  | true =>
    obtain ⟨ra, s2, e2, r2, p2, v2⟩ := ha σ s1 v r1 q
    obtain ⟨m, s3, e3, r3, h3, o3, _⟩ := toS_ok r2 v2 ka'
    refine ⟨.m m, s3, ?_, r3, fun q => (by cases q), rvm h3 (Sh.ok_le la o3)⟩
    unfold VS.ev
    rw [e1, bd_some, if_pos rfl, e2, bd_some, e3]; rfl
  | false =>
    obtain ⟨ra, s2, e2, r2, p2, v2⟩ := hb σ s1 v r1 q
    obtain ⟨m, s3, e3, r3, h3, o3, _⟩ := toS_ok r2 v2 kb'
    refine ⟨.m m, s3, ?_, r3, fun q => (by cases q), rvm h3 (Sh.ok_le lb o3)⟩
    unfold VS.ev
    rw [e1, bd_some, if_neg Bool.false_ne_true, e2, bd_some, e3]; rfl
def IsTy (t : Ty) (ea : α → D) (F : α → Bool) : Prop := ∀ v, isTy t (ea v) = some (F v)
theorem x_isin {t : Ty} {F : α → Bool} (hF : IsTy t ea F) (h : XE G pu Γ e k ea fa) : XE G pu Γ (.isin t e) (.m .fl) eB (fun σ => (fa σ).bind fun x => some (F x)) := fun σ s v r q => by
  obtain ⟨x, q1, q⟩ := Option.bind_eq_some_iff.mp q
  cases q
  obtain ⟨ra, s1, e1, r1, p1, v1⟩ := h σ s x r q1
  refine ⟨.m (.fz (.bl (F x))), s1, ?_, r1, p1, rvm rfl (ok_fl (lfB _))⟩
  unfold VS.ev
  rw [e1, bd_some, toV_ok r1 v1, ob_some, hF x]; rfl

/-! ### subscripts -/
def IxOk (ea : α → D) (eb : β → D) (F : α → Int → Option β) : Prop := ∀ x i y, F x i = some y → (ea x).idx (.int i) = some (eb y)
noncomputable def nth {α : Type} (l : List α) (i : Int) : Option α := lk (atI l i)
theorem nth_def {α : Type} (l : List α) (i : Int) : nth l i = (atI l i) := lk_eq _
theorem ixL : IxOk (eL ea) ea (fun l i => nth l i) := fun l i y q => by
  show L2.atI (l.map ea) i = _
  rw [atI_map]
  have q : nth l i = some y := q
  rw [nth_def] at q
  rw [q]; rfl
theorem ixV : IxOk (eV ea) ea (fun l i => nth l i) := fun l i y q => by
  show L2.atI (l.map ea) i = _
  rw [atI_map]
  have q : nth l i = some y := q
  rw [nth_def] at q
  rw [q]; rfl
theorem ixR : IxOk eR eI (fun l i => nth l i) := fun l i y q => by
  show (L2.atI l i).map D.int = _
  have q : nth l i = some y := q
  rw [nth_def] at q
  rw [q]; rfl
def kix : K → K
  | .m _ => .m .fz
  | .w => .u
  | .u => .u
  | .p (.lst .fl) => .m .fl
  | .p (.lst .fz) => .m .fz
  | .p (.lst s) => .p s
  | .p _ => .u
def kixOk : K → Bool
  | .m _ | .u | .p (.lst .fl) | .p (.lst .fz) | .p (.lst (.lst _)) | .p (.lst (.tup _)) => true
  | _ => false
theorem Dsels_snoc : ∀ {path : List D} {d d' k d2 : D}, Dsels d path = some d' → d'.idx k = some d2 → Dsels d (path ++ [k]) = some d2
  | [], d, d', k, d2, h, q => by
    cases h
    show (d.idx k).bind _ = _
    rw [q]; rfl
  | x :: path, d, d', k, d2, h, q => by
    unfold Dsels at h
    obtain ⟨y, h1, h2⟩ := Option.bind_eq_some_iff.mp h
    show (d.idx x).bind _ = _
    rw [h1]
    exact Dsels_snoc h2 q
theorem Shsels_snoc : ∀ {path : List D} {s s' : Sh} {k : D} {s2 : Sh}, s.sels path = some s' → s'.sel k = some s2 → s.sels (path ++ [k]) = some s2
  | [], s, s', k, s2, h, q => by
    cases h
    show (s.sel k).bind _ = _
    rw [q]; rfl
  | x :: path, s, s', k, s2, h, q => by
    unfold Sh.sels at h
    obtain ⟨y, h1, h2⟩ := Option.bind_eq_some_iff.mp h
    show (s.sel x).bind _ = _
    rw [h1]
    exact Shsels_snoc h2 q
theorem Msels_snoc : ∀ {path : List D} {m m' : M} {k : D}, m.sels path = some m' → m.sels (path ++ [k]) = m'.sel k
  | [], m, m', k, h => by
    cases h
    show (m.sel k).bind _ = _
    cases m.sel k <;> rfl
  | x :: path, m, m', k, h => by
    unfold M.sels at h
    obtain ⟨y, h1, h2⟩ := Option.bind_eq_some_iff.mp h
    show (m.sel x).bind _ = _
    rw [h1]
    exact Msels_snoc h2
theorem getP_snoc {s : Sl} {i : Nat} {path : List D} {m : M} {k : D} (h : getP s ⟨i, path⟩ = some m) : getP s ⟨i, path ++ [k]⟩ = m.sel k := by
  unfold getP at h ⊢
  have h : (match s[i]? with
    | some (some m) => m.sels path
    | _ => none) = some m := h
  show (match s[i]? with
    | some (some m) => m.sels (path ++ [k])
    | _ => none) = _
  split at h
  · exact Msels_snoc h
  · cases h
def lookG (p : Pl) : Option M → Option Res
  | some (.fz d) => some (.m (.fz d))
  | some _ => some (.pl p)
  | none => none
theorem look_G (s : Sl) (p : Pl) : look s p = lookG p (getP s p) := by
  unfold look
  generalize getP s p = o
  cases o with
  | none => rfl
  | some m => cases m <;> rfl
/-- a part, where the item is there in the place -/
theorem sel_fz_none {m : M} {k d : D} (h : m.toD.idx k = some d) : (∃ m', m.sel k = some m' ∧ m'.toD = d) ∨ (∃ d0, m = .fz d0) := by
  cases m with
  | fz d0 => exact .inr ⟨d0, rfl⟩
  | lst ms =>
    cases k with
    | int i =>
      have hd : L2.atI (M.toDs ms) i = some d := h
      rw [toDs_map, atI_map] at hd
      obtain ⟨m', h1, h2⟩ := Option.map_eq_some_iff.mp hd
      exact .inl ⟨m', h1, h2⟩
    | _ => exact absurd (show (none : Option D) = some d from h) (by simp)
  | tup ms =>
    cases k with
    | int i =>
      have hd : L2.atI (M.toDs ms) i = some d := h
      rw [toDs_map, atI_map] at hd
      obtain ⟨m', h1, h2⟩ := Option.map_eq_some_iff.mp hd
      exact .inl ⟨m', h1, h2⟩
    | _ => exact absurd (show (none : Option D) = some d from h) (by simp)
  | ins c ms => exact absurd (show (none : Option D) = some d by cases k <;> exact h) (by simp)
theorem m_idx {ea : α → D} {s : Sl} {m : M} {d k d2 : D} (h1 : m.toD = d) (h : d.idx k = some d2) : evSub s (.m m) (.m (.fz k)) = some (.m (.fz d2), s) := by
  rw [sub_m, h1, h]; rfl
theorem evSub_pl {s : Sl} {p : Pl} {ri : Res} {di : D} {k : D} (h : toV s ri = some k) : evSub s (.pl p) ri = (look s ⟨p.i, p.path ++ [k]⟩).map fun r => (r, s) := by
  unfold evSub
  rw [h]; rfl
theorem evSub_m {s : Sl} {m : M} {ri : Res} {k : D} (h : toV s ri = some k) : evSub s (.m m) ri = (m.toD.idx k).bind fun d => rM d s := by
  unfold evSub
  rw [h]; rfl
theorem getP_sh {c : Ctx} {s : Sl} (h : Rl c s) {sh : Sh} {i : Nat} {path : List D} {di shi d} (hc : c[i]? = some (some (shi, di))) (hd : Dsels di path = some d) (hs : shi.sels path = some sh) (ho : sh.own = true) : ∃ m, getP s ⟨i, path⟩ = some m ∧ m.toD = d ∧ sh.ok m ∧ look s ⟨i, path⟩ = some (.pl ⟨i, path⟩) := by
  obtain ⟨m, h1, h2, h3⟩ := getP_of h hc hd hs
  refine ⟨m, h1, h2, h3, ?_⟩
  rw [look_G, h1]
  cases sh with
  | lst s0 =>
    simp only [Sh.ok] at h3
    obtain ⟨ms, rfl, _⟩ := h3
    rfl
  | tup s0 =>
    simp only [Sh.ok] at h3
    obtain ⟨ms, rfl, _⟩ := h3
    rfl
  | any => cases ho
  | fz => cases ho
  | fl => cases ho
theorem sub_ok {c : Ctx} {s : Sl} (h : Rl c s) {ri ra : Res} {d k0 d2 : D} (rv : RV c s k ra d) (hk : kixOk k = true) (hi : toV s ri = some k0) (hx : d.idx k0 = some d2) : ∃ r, evSub s ra ri = some (r, s) ∧ RV c s (kix k) r d2 := by
  have own : ∀ {sh s1 : Sh}, k = .p sh → sh.sel k0 = some s1 → ∃ r, evSub s ra ri = some (r, s) ∧ ((s1 = .fl → RV c s (.m .fl) r d2) ∧ (s1 = .fz → RV c s (.m .fz) r d2) ∧ (s1.own = true → RV c s (.p s1) r d2)) := by
    intro sh s1 e1 e2
    subst e1
    obtain ⟨ho, i, path, di, shi, rfl, hc, hd, hs⟩ := rv
    have hd2 := Dsels_snoc hd hx
    have hs2 := Shsels_snoc hs e2
    obtain ⟨m, q1, q2, q3⟩ := getP_of h hc hd2 hs2
    rw [evSub_pl (di := di) hi, look_G, q1]
    cases m with
    | fz d0 =>
      cases q2
      refine ⟨_, rfl, fun q => ?_, fun q => ?_, fun q => ?_⟩
      · subst q; exact rvm rfl q3
      · subst q; exact rvm rfl q3
      · cases s1 with
        | lst s0 => simp only [Sh.ok] at q3; obtain ⟨ms, q, _⟩ := q3; cases q
        | tup s0 => simp only [Sh.ok] at q3; obtain ⟨ms, q, _⟩ := q3; cases q
        | any => cases q
        | fz => cases q
        | fl => cases q
    | _ =>
      refine ⟨_, rfl, fun q => ?_, fun q => ?_, fun q => ?_⟩
      · subst q; simp only [Sh.ok] at q3; obtain ⟨_, q, _⟩ := q3; cases q
      · subst q; simp only [Sh.ok] at q3; exact absurd q3 (by simp [M.isD])
      · exact ⟨q, i, _, di, shi, rfl, hc, hd2, hs2⟩
  cases k with
  | m sh =>
    obtain ⟨m, rfl, e, _⟩ := rv
    refine ⟨.m (.fz d2), ?_, rvm rfl (ok_fz _)⟩
    rw [evSub_m hi, e, hx]; rfl
  | w => cases hk
  | u =>
    rcases rv with rfl | ⟨i, path, di, m, rfl, hc, hd, hg, hn⟩
    · exact ⟨.m (.fz d2), by rw [evSub_m hi]; show (d.idx k0).bind _ = _; rw [hx]; rfl, .inl rfl⟩
    · have e := getP_d h hc hd hg
      subst e
      rcases sel_fz_none hx with ⟨m', q1, q2⟩ | ⟨d0, rfl⟩
      · have q3 := getP_snoc (k := k0) hg
        rw [q1] at q3
        rw [evSub_pl (di := di) hi, look_G, q3]
        cases m' with
        | fz d0 => cases q2; exact ⟨_, rfl, .inl rfl⟩
        | _ => exact ⟨_, rfl, .inr ⟨i, path ++ [k0], di, _, rfl, hc, Dsels_snoc hd hx, q3, rfl⟩⟩
      · cases hn
  | p sh =>
    cases sh with
    | lst s1 =>
      have e2 : (Sh.lst s1).sel k0 = some s1 := by cases k0 <;> rfl
      obtain ⟨r, h1, h2, h3, h4⟩ := own rfl e2
      refine ⟨r, h1, ?_⟩
      cases s1 with
      | fl => exact h2 rfl
      | fz => exact h3 rfl
      | lst s2 => exact h4 rfl
      | tup s2 => exact h4 rfl
      | any => cases hk
    | _ => cases hk
theorem x_idx {F : α → Int → Option β} {fi : S → Option Int} (hF : IxOk ea eb F) (ha : XE G pa Γ a ka ea fa) (hb : XE G true Γ b kb eI fi) (hk : kixOk ka = true) :
    XE G pa Γ (.sub a b) (kix ka) eb (fun σ => (fa σ).bind fun x => (fi σ).bind fun y => F x y) := fun σ s v r q => by
  obtain ⟨x, y, ra, rb, s1, s2, q, e1, e2, r2, p2, v1, v2⟩ := two ha hb rfl r q
  obtain ⟨r, h1, h2⟩ := sub_ok r2 v1 hk (toV_ok r2 v2) (hF x y v q)
  refine ⟨r, s2, ?_, r2, fun hp => p2 (by rw [hp]; rfl), h2⟩
  unfold VS.ev
  rw [e1, bd_some, e2, bd_some]
  exact h1
def K.nw : K → Bool
  | .w => false
  | _ => true
/-- a flat part -/
theorem XE.flat (h : XE G pu Γ e k ea fa) (hf : Flat ea) (hk : k.nw = true) : XE G pu Γ e (.m .fl) ea fa := fun σ s v r q => by
  obtain ⟨r, s', h1, h2, h3, h4⟩ := h σ s v r q
  refine ⟨r, s', h1, h2, h3, ?_⟩
  have hd := hf v
  cases k with
  | m sh =>
    obtain ⟨m, rfl, e, o⟩ := h4
    obtain ⟨d, rfl⟩ := fz_of_flat (m := m) (by rw [e]; exact hd)
    exact rvm e (ok_fl (flat_lf (by rw [← e] at hd; exact hd)))
  | w => cases hk
  | u =>
    rcases h4 with rfl | ⟨i, path, di, m, rfl, hc, hd', hg, hn⟩
    · exact rvm rfl (ok_fl (flat_lf hd))
    · have e := getP_d h2 hc hd' hg
      obtain ⟨d, rfl⟩ := fz_of_flat (m := m) (by rw [e]; exact hd)
      cases hn
  | p sh =>
    obtain ⟨ho, i, path, di, shi, rfl, hc, hd', hs⟩ := h4
    obtain ⟨m, q1, q2, q3⟩ := getP_of h2 hc hd' hs
    obtain ⟨d, rfl⟩ := fz_of_flat (m := m) (by rw [q2]; exact hd)
    cases sh with
    | lst s0 => simp only [Sh.ok] at q3; obtain ⟨ms, q, _⟩ := q3; cases q
    | tup s0 => simp only [Sh.ok] at q3; obtain ⟨ms, q, _⟩ := q3; cases q
    | any => cases ho
    | fz => cases ho
    | fl => cases ho
/-- a part of a written place, of a tuple -/
def SelOk (ea : α → D) (i : Int) (eb : β → D) (F : α → β) : Prop := ∀ x, (ea x).idx (.int i) = some (eb (F x))
def SelOkO (ea : α → D) (i : Int) (eb : β → D) (F : α → Option β) : Prop := ∀ x y, F x = some y → (ea x).idx (.int i) = some (eb y)
theorem x_sel {i : Int} {F : α → Option β} (hF : SelOkO ea i eb F) (ha : XE G pa Γ a ka ea fa) (hk : kixOk ka = true) : XE G pa Γ (.sub a (.lit (.int i))) (kix ka) eb (fun σ => (fa σ).bind F) := fun σ s v r q => by
  obtain ⟨x, q1, q⟩ := Option.bind_eq_some_iff.mp q
  obtain ⟨ra, s1, e1, r1, p1, v1⟩ := ha σ s x r q1
  obtain ⟨r, h1, h2⟩ := sub_ok r1 v1 hk (ri := .m (.fz (.int i))) rfl (hF x v q)
  refine ⟨r, s1, ?_, r1, p1, h2⟩
  unfold VS.ev
  rw [e1, bd_some]
  exact h1
theorem selT1 : SelOkO (eT1 ea) 0 ea (fun x => some x) := fun x y q => by cases q; rfl
theorem selT20 : SelOkO (eT2 ea eb) 0 ea (fun x => some x.1) := fun x y q => by cases q; rfl
theorem selT21 : SelOkO (eT2 ea eb) 1 eb (fun x => some x.2) := fun x y q => by cases q; rfl
theorem selT30 : SelOkO (eT3 ea eb ec) 0 ea (fun x => some x.1) := fun x y q => by cases q; rfl
theorem selT31 : SelOkO (eT3 ea eb ec) 1 eb (fun x => some x.2.1) := fun x y q => by cases q; rfl
theorem selT32 : SelOkO (eT3 ea eb ec) 2 ec (fun x => some x.2.2) := fun x y q => by cases q; rfl
/-- .. of an owned tuple -/
def ksel (s : Sh) : K := match s with
  | .fl => .m .fl
  | .fz => .m .fz
  | s => .p s
theorem x_selp {i : Int} {F : α → Option β} {ss : List Sh} {sh : Sh} (hF : SelOkO ea i eb F) (ha : XE G pa Γ a (.p (.tup ss)) ea fa) (hs : atI ss i = some sh) (hn : (match sh with | .any => false | _ => true) = true) : XE G pa Γ (.sub a (.lit (.int i))) (ksel sh) eb (fun σ => (fa σ).bind F) := fun σ s v r q => by
  obtain ⟨x, q1, q⟩ := Option.bind_eq_some_iff.mp q
  obtain ⟨ra, s1, e1, r1, p1, v1⟩ := ha σ s x r q1
  obtain ⟨ho, j, path, di, shi, rfl, hc, hd, hs'⟩ := v1
  have hd2 := Dsels_snoc hd (hF x v q)
  have hs2 := Shsels_snoc hs' (show (Sh.tup ss).sel (.int i) = some sh from hs)
  obtain ⟨m, q1, q2, q3⟩ := getP_of r1 hc hd2 hs2
  have key : VS.ev G (.sub a (.lit (.int i))) s = (lookG ⟨j, path ++ [.int i]⟩ (some m)).map fun r => (r, s1) := by
    unfold VS.ev
    rw [e1, bd_some]
    have : VS.ev G (.lit (.int i)) s1 = some (.m (.fz (.int i)), s1) := by
      unfold VS.ev
      rfl
    rw [this, bd_some, evSub_pl (di := di) (k := .int i) rfl, look_G, q1]
  rw [key]
  cases m with
  | fz d0 =>
    cases q2
    refine ⟨_, s1, rfl, r1, p1, ?_⟩
    cases sh with
    | fl => exact rvm rfl q3
    | fz => exact rvm rfl q3
    | any => cases hn
    | lst s0 => simp only [Sh.ok] at q3; obtain ⟨ms, q, _⟩ := q3; cases q
    | tup s0 => simp only [Sh.ok] at q3; obtain ⟨ms, q, _⟩ := q3; cases q
  | _ =>
    refine ⟨_, s1, rfl, r1, p1, ?_⟩
    cases sh with
    | fl => simp only [Sh.ok] at q3; obtain ⟨_, q, _⟩ := q3; cases q
    | fz => simp only [Sh.ok] at q3; exact absurd q3 (by simp [M.isD])
    | any => cases hn
    | lst s0 => exact ⟨rfl, j, _, di, shi, rfl, hc, hd2, hs2⟩
    | tup s0 => exact ⟨rfl, j, _, di, shi, rfl, hc, hd2, hs2⟩

/-! ### lists: +, *, slices, built-ins -/
theorem ok_lst_fz (ds : List D) : Sh.ok (.lst .fz) (.lst (ds.map .fz)) := by
  simp only [Sh.ok]
  refine ⟨_, rfl, fun x hx => ?_⟩
  obtain ⟨d, _, rfl⟩ := List.mem_map.mp hx
  rfl
theorem ok_lst_fl {ds : List D} (h : ∀ d ∈ ds, d.lf = true) : Sh.ok (.lst .fl) (.lst (ds.map .fz)) := by
  simp only [Sh.ok]
  refine ⟨_, rfl, fun x hx => ?_⟩
  obtain ⟨d, hd, rfl⟩ := List.mem_map.mp hx
  exact ⟨d, rfl, h d hd⟩
/-- the shape of a new list of such items -/
def LSh (ea : α → D) (s : Sh) : Prop := s = .lst .fz ∨ (s = .lst .fl ∧ LF ea)
theorem lshz : LSh ea (.lst .fz) := .inl rfl
theorem lshl (h : LF ea) : LSh ea (.lst .fl) := .inr ⟨rfl, h⟩
theorem LSh.ok {s : Sh} (h : LSh ea s) (l : List α) : s.ok (.lst ((l.map ea).map .fz)) := by
  rcases h with rfl | ⟨rfl, h⟩
  · exact ok_lst_fz _
  · exact ok_lst_fl fun d hd => by
      obtain ⟨x, _, rfl⟩ := List.mem_map.mp hd
      exact h x
theorem lst_toD (ds : List D) : (M.lst (ds.map .fz)).toD = .lst ds := by
  show D.lst (M.toDs _) = _
  rw [toDs_fz]
noncomputable def lim {α : Type} (l : List α) : Option (List α) := lk (if l.length ≤ sizeLine then some l else none)
theorem lim_def {α : Type} (l : List α) : lim l = (if l.length ≤ sizeLine then some l else none) := lk_eq _
theorem RV.stab {c : Ctx} {s s' : Sl} {r : Res} {d : D} (h : RV c s k r d) (hs : k.stable = true ∨ s' = s) : RV c s' k r d := by
  rcases hs with hs | rfl
  · exact h.stable hs
  · exact h
theorem x_cat {fa fb : S → Option (List α)} {sh : Sh} (hl : LSh ea sh) (ha : XE G pa Γ a ka (eL ea) fa) (hb : XE G pb Γ b kb (eL ea) fb) (hs : (pb || ka.stable) = true) (h1 : ka.ct = true) (h2 : kb.ct = true) (h3 : kb.stable = true) :
    XE G false Γ (.bin .add a b) (.m sh) (eL ea) (fun σ => (fa σ).bind fun x => (fb σ).bind fun y => lim (x ++ y)) := fun σ s v r q => by
  obtain ⟨x, y, ra, rb, s1, s2, q, e1, e2, r2, p2, v1, v2⟩ := two ha hb hs r q
  rw [lim_def] at q
  obtain ⟨hn, q⟩ := of_ite q
  cases q
  obtain ⟨s3, e3, r3, _⟩ := toC_ok r2 v1 h1 (ds := x.map ea) rfl
  have v2' := v2.stable (s' := s3) h3
  obtain ⟨s4, e4, r4, _⟩ := toC_ok r3 v2' h2 (ds := y.map ea) rfl
  refine ⟨.m (.lst (((x.map ea) ++ (y.map ea)).map .fz)), s4, ?_, r4, fun q => (by cases q), rvm ?_ ?_⟩
  · unfold VS.ev
    rw [e1, bd_some, e2, bd_some]
    unfold evBin
    rw [toV_ok r2 v1, ob_some, toV_ok r2 v2, ob_some]
    show bd (toC s2 ra) (fun xs s1 => (toV s1 rb).bind fun dc => if isLd dc then bd (toC s1 rb) fun ys s2 => if xs.length + ys.length ≤ sizeLine then some (Res.m (.lst ((xs ++ ys).map .fz)), s2) else none else none) = _
    rw [e3, bd_some, toV_ok r3 v2', ob_some]
    show bd (toC s3 rb) (fun ys s2 => if (x.map ea).length + ys.length ≤ sizeLine then some (Res.m (.lst ((x.map ea ++ ys).map .fz)), s2) else none) = _
    rw [e4, bd_some, if_pos (by rw [List.length_map, List.length_map]; rw [List.length_append] at hn; exact hn)]
  · rw [lst_toD, ← List.map_append]; rfl
  · rw [← List.map_append]; exact hl.ok _
theorem x_catp {fa fb : S → Option (List α)} {sh : Sh} (hl : LSh ea sh) (ha : XE G pa Γ a ka (eL ea) fa) (hb : XE G pb Γ b kb (eL ea) fb) (hs : (pb || ka.stable) = true) (h1 : ka.ct = true) (h2 : kb.ct = true) (h3 : ∃ sh, ka = .m sh ∨ ka = .p sh) (h4 : ∃ sh, kb = .m sh ∨ kb = .p sh) :
    XE G (pa && pb) Γ (.bin .add a b) (.m sh) (eL ea) (fun σ => (fa σ).bind fun x => (fb σ).bind fun y => lim (x ++ y)) := fun σ s v r q => by
  obtain ⟨x, y, ra, rb, s1, s2, q, e1, e2, r2, p2, v1, v2⟩ := two ha hb hs r q
  rw [lim_def] at q
  obtain ⟨hn, q⟩ := of_ite q
  cases q
  obtain ⟨s3, e3, r3, p3⟩ := toC_ok r2 v1 h1 (ds := x.map ea) rfl
  obtain ⟨sh1, h3⟩ := h3
  obtain ⟨sh2, h4⟩ := h4
  have := p3 sh1 h3
  subst this
  obtain ⟨s4, e4, r4, p4⟩ := toC_ok r3 v2 h2 (ds := y.map ea) rfl
  have := p4 sh2 h4
  subst this
  refine ⟨.m (.lst (((x.map ea) ++ (y.map ea)).map .fz)), _, ?_, r4, p2, rvm ?_ ?_⟩
  · unfold VS.ev
    rw [e1, bd_some, e2, bd_some]
    unfold evBin
    rw [toV_ok r2 v1, ob_some, toV_ok r2 v2, ob_some]
    show bd (toC _ ra) (fun xs s1 => (toV s1 rb).bind fun dc => if isLd dc then bd (toC s1 rb) fun ys s2 => if xs.length + ys.length ≤ sizeLine then some (Res.m (.lst ((xs ++ ys).map .fz)), s2) else none else none) = _
    rw [e3, bd_some, toV_ok r3 v2, ob_some]
    show bd (toC _ rb) (fun ys s2 => if (x.map ea).length + ys.length ≤ sizeLine then some (Res.m (.lst ((x.map ea ++ ys).map .fz)), s2) else none) = _
    rw [e4, bd_some, if_pos (by rw [List.length_map, List.length_map]; rw [List.length_append] at hn; exact hn)]
  · rw [lst_toD, ← List.map_append]; rfl
  · rw [← List.map_append]; exact hl.ok _
noncomputable def repL {α : Type} (l : List α) (k : Int) : Option (List α) := lk (if -(2 ^ 63) ≤ k ∧ k < 2 ^ 63 ∧ l.length * k.toNat ≤ sizeLine then some (List.replicate k.toNat l).flatten else none)
theorem repL_def {α : Type} (l : List α) (k : Int) : repL l k = (if -(2 ^ 63) ≤ k ∧ k < 2 ^ 63 ∧ l.length * k.toNat ≤ sizeLine then some (List.replicate k.toNat l).flatten else none) := lk_eq _
theorem flat_rep_map (f : α → β) (n : Nat) (l : List α) : (List.replicate n (l.map f)).flatten = (List.replicate n l).flatten.map f := by
  induction n with
  | zero => rfl
  | succ n ih => rw [List.replicate_succ, List.replicate_succ, List.flatten_cons, List.flatten_cons, List.map_append, ih]
theorem x_rep {fa : S → Option (List α)} {fi : S → Option Int} {sh : Sh} (hl : LSh ea sh) (ha : XE G pa Γ a ka (eL ea) fa) (hb : XE G pb Γ b kb eI fi) (hs : (pb || ka.stable) = true) (h1 : ka.ct = true) :
    XE G (match ka with | .m _ | .p _ => pa && pb | _ => false) Γ (.bin .mul a b) (.m sh) (eL ea) (fun σ => (fa σ).bind fun x => (fi σ).bind fun y => repL x y) := fun σ s v r q => by
  obtain ⟨x, y, ra, rb, s1, s2, q, e1, e2, r2, p2, v1, v2⟩ := two ha hb hs r q
  rw [repL_def] at q
  obtain ⟨hn, q⟩ := of_ite q
  cases q
  obtain ⟨s3, e3, r3, p3⟩ := toC_ok r2 v1 h1 (ds := x.map ea) rfl
  refine ⟨.m (.lst ((List.replicate y.toNat (x.map ea)).flatten.map .fz)), s3, ?_, r3, fun hp => ?_, rvm ?_ ?_⟩
  · unfold VS.ev
    rw [e1, bd_some, e2, bd_some]
    unfold evBin
    rw [toV_ok r2 v1, ob_some, toV_ok r2 v2, ob_some]
    show bd (toC s2 ra) (fun xs s1 => if -(2 ^ 63) ≤ y ∧ y < 2 ^ 63 ∧ xs.length * y.toNat ≤ sizeLine then some (Res.m (.lst (((List.replicate y.toNat xs).flatten).map .fz)), s1) else none) = _
    rw [e3, bd_some, if_pos (by rw [List.length_map]; exact hn)]
  · cases ka with
    | m sh => rw [p3 sh (.inl rfl)]; exact p2 hp
    | p sh => rw [p3 sh (.inr rfl)]; exact p2 hp
    | w => cases hp
    | u => cases hp
  · rw [lst_toD, flat_rep_map]; rfl
  · rw [flat_rep_map]; exact hl.ok _
/-- an end of a slice -/
def XO (G : VS.Env) (Γ : S → Ctx) (bl : Bool) (e : E) (f : S → Option (Option Int)) : Prop :=
  ∀ σ s v, Rl (Γ σ) s → f σ = some v → ∃ r, VS.ev G e s = some (r, s) ∧ (toV s r).bind (optI bl) = some v
theorem o_none : XO G Γ false (.lit .non) (fun _ => some none) := fun σ s v r q => by
  cases q
  exact ⟨.m (.fz .non), by unfold VS.ev; rfl, rfl⟩
theorem o_some {fi : S → Option Int} (h : XE G true Γ e k eI fi) : XO G Γ true e (fun σ => (fi σ).bind fun x => some (some x)) := fun σ s v r q => by
  obtain ⟨x, q1, q⟩ := Option.bind_eq_some_iff.mp q
  cases q
  obtain ⟨ra, s1, e1, r1, p1, v1⟩ := h σ s x r q1
  have := p1 rfl
  subst this
  exact ⟨ra, e1, by rw [toV_ok r1 v1]; rfl⟩
theorem x_slc {fa : S → Option (List α)} {bl bh : Bool} {fl fh : S → Option (Option Int)} {sh : Sh} (hl : LSh ea sh) (ha : XE G pa Γ a ka (eL ea) fa) (hlo : XO G Γ bl b fl) (hhi : XO G Γ bh c fh) (h1 : ka.ct = true) :
    XE G (match ka with | .m _ | .p _ => pa | _ => false) Γ (.slc bl bh a b c) (.m sh) (eL ea) (fun σ => (fa σ).bind fun x => (fl σ).bind fun lo => (fh σ).bind fun hi => some (cut x lo hi)) := fun σ s v r q => by
  obtain ⟨x, q1, q⟩ := Option.bind_eq_some_iff.mp q
  obtain ⟨lo, q2, q⟩ := Option.bind_eq_some_iff.mp q
  obtain ⟨hi, q3, q⟩ := Option.bind_eq_some_iff.mp q
  cases q
  obtain ⟨ra, s1, e1, r1, p1, v1⟩ := ha σ s x r q1
  obtain ⟨rl, e2, e3⟩ := hlo σ s1 lo r1 q2
  obtain ⟨rh, e4, e5⟩ := hhi σ s1 hi r1 q3
  obtain ⟨s3, e6, r3, p3⟩ := toC_ok r1 v1 h1 (ds := x.map ea) rfl
  refine ⟨.m (.lst ((cut (x.map ea) lo hi).map .fz)), s3, ?_, r3, fun hp => ?_, rvm ?_ ?_⟩
  · unfold VS.ev
    rw [e1, bd_some, e2, bd_some, e3, ob_some, e4, bd_some, e5, ob_some]
    unfold evSlc
    rw [toV_ok r1 v1, ob_some]
    show bd (toC s1 ra) _ = _
    rw [e6, bd_some]
  · cases ka with
    | m sh => rw [p3 sh (.inl rfl)]; exact p1 hp
    | p sh => rw [p3 sh (.inr rfl)]; exact p1 hp
    | w => cases hp
    | u => cases hp
  · rw [lst_toD, cut_map]; rfl
  · rw [cut_map]; exact hl.ok _
def BiOk (f : Bi) (ea : α → D) (eb : β → D) (F : α → Option β) : Prop := ∀ x y, F x = some y → biF f [ea x] = some (eb y)
theorem x_bi1 {f : Bi} {F : α → Option β} (hF : BiOk f ea eb F) (hf : LF eb) (hc : f.isC = false) (ha : XE G pa Γ a ka ea fa) : XE G pa Γ (.bi f (.cons a .nil)) (.m .fl) eb (fun σ => (fa σ).bind F) := fun σ s v r q => by
  obtain ⟨x, q1, q⟩ := Option.bind_eq_some_iff.mp q
  obtain ⟨ra, s1, e1, r1, p1, v1⟩ := ha σ s x r q1
  refine ⟨.m (.fz (eb v)), s1, ?_, r1, p1, rvm rfl (ok_fl (hf v))⟩
  unfold VS.ev VS.evs
  rw [e1, bd_some]
  unfold VS.evs
  rw [bd_some, bd_some, bi_F f s1 _ hc, toVs_cons, toV_ok r1 v1, ob_some]
  show ((some [ea x]).bind fun ds => (biF f ds).bind fun d => rM d s1) = _
  rw [ob_some, hF x v q]; rfl
theorem x_bi2 {f : Bi} {F : α → β → Option γ} (hF : ∀ x y z, F x y = some z → biF f [ea x, eb y] = some (ec z)) (hf : LF ec) (hc : f.isC = false) (ha : XE G pa Γ a ka ea fa) (hb : XE G pb Γ b kb eb fb) (hs : (pb || ka.stable) = true) :
    XE G (pa && pb) Γ (.bi f (.cons a (.cons b .nil))) (.m .fl) ec (fun σ => (fa σ).bind fun x => (fb σ).bind fun y => F x y) := fun σ s v r q => by
  obtain ⟨x, y, ra, rb, s1, s2, q, e1, e2, r2, p2, v1, v2⟩ := two ha hb hs r q
  refine ⟨.m (.fz (ec v)), s2, ?_, r2, p2, rvm rfl (ok_fl (hf v))⟩
  unfold VS.ev VS.evs
  rw [e1, bd_some]
  unfold VS.evs
  rw [e2, bd_some]
  unfold VS.evs
  rw [bd_some, bd_some, bd_some, bi_F f s2 _ hc, toVs_cons, toV_ok r2 v1, ob_some, toVs_cons, toV_ok r2 v2, ob_some]
  show ((some [ea x, eb y]).bind fun ds => (biF f ds).bind fun d => rM d s2) = _
  rw [ob_some, hF x y v q]; rfl
theorem bLenL : BiOk .len (eL ea) eI (fun l => some (l.length : Int)) := fun l y q => by
  cases q
  show some (D.int ((l.map ea).length : Nat)) = _
  rw [List.length_map]
theorem bLenV : BiOk .len (eV ea) eI (fun l => some (l.length : Int)) := fun l y q => by
  cases q
  show some (D.int ((l.map ea).length : Nat)) = _
  rw [List.length_map]
theorem bLenR : BiOk .len eR eI (fun l => some (l.length : Int)) := fun l y q => by cases q; rfl
theorem bInt : BiOk .int eI eI (fun x => some x) := fun l y q => by cases q; rfl
theorem bIntB : BiOk .int eB eI (fun x => some (if x then 1 else 0)) := fun l y q => by cases q; rfl
theorem bAbs : BiOk .abs eI eI (fun x => some (if x < 0 then -x else x)) := fun l y q => by cases q; rfl
theorem boolsD_b : ∀ l : List Bool, boolsD (l.map eB) = some l
  | [] => rfl
  | x :: l => by
    show (boolsD (l.map eB)).map _ = _
    rw [boolsD_b l]; rfl
theorem intsD_i : ∀ l : List Int, intsD (l.map eI) = some l
  | [] => rfl
  | x :: l => by
    show (intsD (l.map eI)).map _ = _
    rw [intsD_i l]; rfl
theorem bAny : BiOk .any (eL eB) eB (fun l => some (l.any id)) := fun l y q => by
  cases q
  show (boolsD (l.map eB)).map _ = _
  rw [boolsD_b]; rfl
theorem bAll : BiOk .all (eL eB) eB (fun l => some (l.all id)) := fun l y q => by
  cases q
  show (boolsD (l.map eB)).map _ = _
  rw [boolsD_b]; rfl
theorem bSum : BiOk .sum (eL eI) eI (fun l => some l.sum) := fun l y q => by
  cases q
  show (intsD (l.map eI)).map _ = _
  rw [intsD_i]; rfl
theorem bMin : ∀ x y z, (fun a b : Int => some (if b < a then b else a)) x y = some z → biF .min2 [eI x, eI y] = some (eI z) := fun x y z q => by cases q; rfl
theorem bMax : ∀ x y z, (fun a b : Int => some (if b > a then b else a)) x y = some z → biF .max2 [eI x, eI y] = some (eI z) := fun x y z q => by cases q; rfl
/-- list, tuple, sorted -/
theorem biC_core {f : Bi} (hc : f.isC = true) {d : D} {ds : List D} {m : M} {sh : Sh} {er : γ → D} {v : γ} (ho : f.okC d = true) (hi : d.items = some ds) (hm : biC f ds = some m) (ht : m.toD = er v) (hk : ka.ct = true) (hsh : sh.ok m)
    {σ : S} {s s1 : Sl} {ra : Res} (e1 : VS.ev G a s = some (ra, s1)) (r1 : Rl (Γ σ) s1) (v1 : RV (Γ σ) s1 ka ra d) : ∃ s', VS.ev G (.bi f (.cons a .nil)) s = some (.m m, s') ∧ Rl (Γ σ) s' ∧ (∀ sh, ka = .m sh ∨ ka = .p sh → s' = s1) := by
  obtain ⟨s3, e3, r3, p3⟩ := toC_ok r1 v1 hk hi
  refine ⟨s3, ?_, r3, p3⟩
  unfold VS.ev VS.evs
  rw [e1, bd_some]
  unfold VS.evs
  rw [bd_some, bd_some]
  unfold evBi
  rw [if_pos hc]
  show ((toV s1 ra).bind fun d => if f.okC d = true then bd (toC s1 ra) fun ds s2 => (biC f ds).bind fun m => some (Res.m m, s2) else none) = _
  rw [toV_ok r1 v1, ob_some, if_pos ho, e3, bd_some, hm]; rfl
def K.mp (k : K) (b : Bool) : Bool := match k with
  | .m _ | .p _ => b
  | _ => false
theorem x_bic {f : Bi} {er : γ → D} {F : α → γ} {M' : α → M} {sh : Sh} (hc : f.isC = true) (ho : ∀ x, f.okC (ea x) = true) (hi : ∀ x, ∃ ds, (ea x).items = some ds ∧ biC f ds = some (M' x)) (ht : ∀ x, (M' x).toD = er (F x)) (hsh : ∀ x, sh.ok (M' x)) (hk : ka.ct = true) (ha : XE G pa Γ a ka ea fa) :
    XE G (ka.mp pa) Γ (.bi f (.cons a .nil)) (.m sh) er (fun σ => (fa σ).bind fun x => some (F x)) := fun σ s v r q => by
  obtain ⟨x, q1, q⟩ := Option.bind_eq_some_iff.mp q
  cases q
  obtain ⟨ra, s1, e1, r1, p1, v1⟩ := ha σ s x r q1
  obtain ⟨ds, h1, h2⟩ := hi x
  obtain ⟨s', e2, r2, p2⟩ := biC_core hc (ho x) h1 h2 (er := er) (ht x) hk (hsh x) e1 r1 v1
  refine ⟨_, s', e2, r2, fun hp => ?_, rvm (ht x) (hsh x)⟩
  cases ka with
  | m sh => rw [p2 sh (.inl rfl)]; exact p1 hp
  | p sh => rw [p2 sh (.inr rfl)]; exact p1 hp
  | w => cases hp
  | u => cases hp
theorem x_list {fa : S → Option (List α)} {sh : Sh} (hl : LSh ea sh) (hk : ka.ct = true) (ha : XE G pa Γ a ka (eL ea) fa) : XE G (ka.mp pa) Γ (.bi .list (.cons a .nil)) (.m sh) (eL ea) (fun σ => (fa σ).bind fun x => some x) :=
  x_bic (F := fun x => x) (M' := fun l => .lst ((l.map ea).map .fz)) rfl (fun x => rfl) (fun x => ⟨_, rfl, rfl⟩) (fun x => lst_toD _) hl.ok hk ha
theorem x_listV {fa : S → Option (List α)} {sh : Sh} (hl : LSh ea sh) (hk : ka.ct = true) (ha : XE G pa Γ a ka (eV ea) fa) : XE G (ka.mp pa) Γ (.bi .list (.cons a .nil)) (.m sh) (eL ea) (fun σ => (fa σ).bind fun x => some x) :=
  x_bic (F := fun x => x) (M' := fun l => .lst ((l.map ea).map .fz)) rfl (fun x => rfl) (fun x => ⟨_, rfl, rfl⟩) (fun x => lst_toD _) hl.ok hk ha
theorem x_tuple {fa : S → Option (List α)} (hk : ka.ct = true) (ha : XE G pa Γ a ka (eL ea) fa) : XE G (ka.mp pa) Γ (.bi .tuple (.cons a .nil)) (.m .fz) (eV ea) (fun σ => (fa σ).bind fun x => some x) :=
  x_bic (F := fun x => x) (M' := fun l => .fz (.tup (l.map ea))) rfl (fun x => rfl) (fun x => ⟨_, rfl, rfl⟩) (fun x => rfl) (fun x => ok_fz _) hk ha
theorem x_sorted {fa : S → Option (List Int)} (hk : ka.ct = true) (ha : XE G pa Γ a ka (eL eI) fa) : XE G (ka.mp pa) Γ (.bi .sorted (.cons a .nil)) (.m (.lst .fl)) (eL eI) (fun σ => (fa σ).bind fun x => some (sortI x)) :=
  x_bic (F := fun x => sortI x) (M' := fun l => .lst ((sortI l).map fun i => .fz (.int i))) rfl (fun x => rfl) (fun x => ⟨_, rfl, by show (intsD (x.map eI)).map _ = _; rw [intsD_i]; rfl⟩)
    (fun x => by rw [show ((sortI x).map fun i => M.fz (.int i)) = ((sortI x).map eI).map .fz by rw [List.map_map]; rfl, lst_toD]; rfl)
    (fun x => by rw [show ((sortI x).map fun i => M.fz (.int i)) = ((sortI x).map eI).map .fz by rw [List.map_map]; rfl]; exact (lshl lfI).ok _) hk ha
theorem x_rev {fa : S → Option (List α)} {sh : Sh} (hl : LSh ea sh) (hk : ka.ct = true) (ha : XE G pa Γ a ka (eL ea) fa) : XE G (ka.mp pa) Γ (.rev a) (.m sh) (eL ea) (fun σ => (fa σ).bind fun x => some x.reverse) := fun σ s v r q => by
  obtain ⟨x, q1, q⟩ := Option.bind_eq_some_iff.mp q
  cases q
  obtain ⟨ra, s1, e1, r1, p1, v1⟩ := ha σ s x r q1
  obtain ⟨s3, e3, r3, p3⟩ := toC_ok r1 v1 hk (ds := x.map ea) rfl
  refine ⟨.m (.lst ((x.map ea).reverse.map .fz)), s3, ?_, r3, fun hp => ?_, rvm ?_ ?_⟩
  · unfold VS.ev
    rw [e1, bd_some, toV_ok r1 v1, ob_some]
    show bd (toC s1 ra) _ = _
    rw [e3, bd_some]
  · cases ka with
    | m sh => rw [p3 sh (.inl rfl)]; exact p1 hp
    | p sh => rw [p3 sh (.inr rfl)]; exact p1 hp
    | w => cases hp
    | u => cases hp
  · rw [lst_toD, ← List.map_reverse]; rfl
  · rw [← List.map_reverse]; exact hl.ok _
end VT
end

section
/-! VT: displays, calls, comprehensions. -/
namespace VT
open PySem VS L2
variable {S α β γ δ : Type} {G : VS.Env} {Γ : S → Ctx} {pu pa pb pc : Bool} {a b c e : E} {k ka kb kc : K} {ea : α → D} {eb : β → D} {ec : γ → D} {fa : S → Option α} {fb : S → Option β} {fc : S → Option γ}

/-! ### lists of expressions -/
def RVs (c : Ctx) (s : Sl) : List K → List Res → List D → Prop
  | [], [], [] => True
  | k :: ks, r :: rs, d :: ds => RV c s k r d ∧ RVs c s ks rs ds
  | _, _, _ => False
def XEs (G : VS.Env) (pu : Bool) (Γ : S → Ctx) (es : Es) (ks : List K) (f : S → Option (List D)) : Prop :=
  ∀ σ s v, Rl (Γ σ) s → f σ = some v → ∃ rs s', VS.evs G es s = some (rs, s') ∧ Rl (Γ σ) s' ∧ (pu = true → s' = s) ∧ RVs (Γ σ) s' ks rs v
theorem xs_nil : XEs G true Γ .nil [] (fun _ => some []) := fun σ s v r q => by
  cases q
  exact ⟨[], s, by unfold VS.evs; rfl, r, fun _ => rfl, trivial⟩
theorem xs_cons {es : Es} {ks : List K} {f : S → Option (List D)} (ha : XE G pa Γ a ka ea fa) (h : XEs G pb Γ es ks f) (hs : (pb || ka.stable) = true) : XEs G (pa && pb) Γ (.cons a es) (ka :: ks) (fun σ => (fa σ).bind fun x => (f σ).bind fun l => some (ea x :: l)) := fun σ s v r q => by
  obtain ⟨x, q1, q⟩ := Option.bind_eq_some_iff.mp q
  obtain ⟨l, q2, q⟩ := Option.bind_eq_some_iff.mp q
  cases q
  obtain ⟨ra, s1, e1, r1, p1, v1⟩ := ha σ s x r q1
  obtain ⟨rs, s2, e2, r2, p2, v2⟩ := h σ s1 l r1 q2
  refine ⟨ra :: rs, s2, ?_, r2, fun hp => ?_, ?_, v2⟩
  · unfold VS.evs
    rw [e1, bd_some, e2]; rfl
  · rw [Bool.and_eq_true] at hp
    rw [p2 hp.2, p1 hp.1]
  · cases hpb : pb with
    | true => rw [p2 hpb]; exact v1
    | false =>
      rw [hpb, Bool.false_or] at hs
      exact v1.stable hs
theorem toVs_ok' {c : Ctx} {s : Sl} (h : Rl c s) : ∀ {ks : List K} {rs : List Res} {ds : List D}, RVs c s ks rs ds → toVs s rs = some ds
  | [], [], [], _ => rfl
  | [], [], _ :: _, q => q.elim
  | [], _ :: _, _, q => q.elim
  | _ :: _, [], _, q => q.elim
  | _ :: _, _ :: _, [], q => q.elim
  | k :: ks, r :: rs, d :: ds, q => by rw [toVs_cons, toV_ok h q.1, ob_some, toVs_ok' h q.2]; rfl
def Kst : List K → Option (List Sh)
  | [] => some []
  | k :: ks => match k.st, Kst ks with
    | some s, some ss => some (s :: ss)
    | _, _ => none
def Kstable : List K → Bool
  | [] => true
  | k :: ks => k.stable && Kstable ks
def Kms : List K → Bool
  | [] => true
  | .m _ :: ks => Kms ks
  | _ => false
theorem RVs.stable {c : Ctx} {s s' : Sl} : ∀ {ks : List K} {rs : List Res} {ds : List D}, RVs c s ks rs ds → Kstable ks = true → RVs c s' ks rs ds
  | [], [], [], _, _ => trivial
  | [], [], _ :: _, q, _ => q.elim
  | [], _ :: _, _, q, _ => q.elim
  | _ :: _, [], _, q, _ => q.elim
  | _ :: _, _ :: _, [], q, _ => q.elim
  | k :: ks, r :: rs, d :: ds, q, h => by
    simp only [Kstable, Bool.and_eq_true] at h
    exact ⟨q.1.stable h.1, q.2.stable h.2⟩
theorem toSs_ok' {c : Ctx} : ∀ {ks : List K} {rs : List Res} {ds : List D} {s : Sl} {ss : List Sh}, Rl c s → RVs c s ks rs ds → Kst ks = some ss → (Kstable ks.tail = true) →
    ∃ ms s', toSs s rs = some (ms, s') ∧ Rl c s' ∧ M.toDs ms = ds ∧ Sh.oks ss ms ∧ (Kms ks = true → s' = s)
  | [], [], [], s, ss, h, _, hk, _ => by
    cases hk
    exact ⟨[], s, rfl, h, rfl, by simp [Sh.oks], fun _ => rfl⟩
  | [], [], _ :: _, _, _, _, q, _, _ => q.elim
  | [], _ :: _, _, _, _, _, q, _, _ => q.elim
  | _ :: _, [], _, _, _, _, q, _, _ => q.elim
  | _ :: _, _ :: _, [], _, _, _, q, _, _ => q.elim
  | k :: ks, r :: rs, d :: ds, s, ss, h, q, hk, hst => by
    have hst : Kstable ks = true := hst
    unfold Kst at hk
    cases h1 : k.st with
    | none => rw [h1] at hk; cases hk
    | some s0 =>
      cases h2 : Kst ks with
      | none => rw [h1, h2] at hk; cases hk
      | some ss0 =>
        rw [h1, h2] at hk
        cases hk
        obtain ⟨m, s1, e1, r1, t1, o1, p1⟩ := toS_ok h q.1 h1
        obtain ⟨ms, s2, e2, r2, t2, o2, p2⟩ := toSs_ok' r1 (q.2.stable (s' := s1) hst) h2 (by
          cases ks with
          | nil => rfl
          | cons k2 ks2 => simp only [Kstable, Bool.and_eq_true] at hst; exact hst.2)
        refine ⟨m :: ms, s2, ?_, r2, ?_, ?_, fun hp => ?_⟩
        · unfold toSs
          rw [e1, bd_some, e2]; rfl
        · rw [toDs_cons, t1, t2]
        · simp only [Sh.oks]; exact ⟨o1, o2⟩
        · cases k with
          | m s9 =>
            rw [p2 hp, p1 ⟨s9, rfl⟩]
          | _ => cases hp
def allFl : List Sh → Bool
  | [] => true
  | .fl :: ss => allFl ss
  | _ => false
def allFz : List Sh → Bool
  | [] => true
  | .fl :: ss => allFz ss
  | .fz :: ss => allFz ss
  | _ => false
def anyOwn : List Sh → Bool
  | [] => false
  | .lst _ :: _ => true
  | .tup _ :: _ => true
  | _ :: ss => anyOwn ss
def tupSh (ss : List Sh) : Sh := if allFl ss then .fl else if allFz ss then .fz else if anyOwn ss then .tup ss else .any
theorem allFz_ok : ∀ {ss : List Sh} {ms : List M}, allFz ss = true → Sh.oks ss ms → ms.all M.isD = true
  | [], [], _, _ => rfl
  | [], _ :: _, _, o => by simp [Sh.oks] at o
  | _ :: _, [], _, o => by simp [Sh.oks] at o
  | s :: ss, m :: ms, h, o => by
    simp only [Sh.oks] at o
    rw [List.all_cons, Bool.and_eq_true]
    cases s with
    | fl => exact ⟨Sh.ok_le (s := .fl) (t := .fz) rfl o.1, allFz_ok (ss := ss) h o.2⟩
    | fz => exact ⟨o.1, allFz_ok (ss := ss) h o.2⟩
    | any => cases h
    | lst _ => cases h
    | tup _ => cases h
theorem allFl_fz : ∀ {ss : List Sh}, allFl ss = true → allFz ss = true
  | [], _ => rfl
  | s :: ss, h => by
    cases s with
    | fl => exact allFl_fz (ss := ss) h
    | fz => cases h
    | any => cases h
    | lst _ => cases h
    | tup _ => cases h
theorem allFl_ok : ∀ {ss : List Sh} {ms : List M}, allFl ss = true → Sh.oks ss ms → ∀ d ∈ M.toDs ms, D.lf d = true
  | [], [], _, _ => by simp [M.toDs]
  | [], _ :: _, _, o => by simp [Sh.oks] at o
  | _ :: _, [], _, o => by simp [Sh.oks] at o
  | s :: ss, m :: ms, h, o => by
    simp only [Sh.oks] at o
    cases s with
    | fl =>
      intro d hd
      rw [toDs_cons] at hd
      rcases List.mem_cons.mp hd with rfl | hd
      · have o1 := o.1
        simp only [Sh.ok] at o1
        obtain ⟨d, rfl, hl⟩ := o1
        exact hl
      · exact allFl_ok (ss := ss) h o.2 d hd
    | fz => cases h
    | any => cases h
    | lst _ => cases h
    | tup _ => cases h
theorem anyOwn_ok : ∀ {ss : List Sh} {ms : List M}, anyOwn ss = true → Sh.oks ss ms → ms.all M.isD = false
  | [], _, h, _ => by cases h
  | _ :: _, [], _, o => by simp [Sh.oks] at o
  | s :: ss, m :: ms, h, o => by
    simp only [Sh.oks] at o
    rw [List.all_cons]
    cases s with
    | fl => rw [anyOwn_ok (ss := ss) h o.2, Bool.and_false]
    | fz => rw [anyOwn_ok (ss := ss) h o.2, Bool.and_false]
    | any => rw [anyOwn_ok (ss := ss) h o.2, Bool.and_false]
    | lst _ =>
      have o1 := o.1
      simp only [Sh.ok] at o1
      obtain ⟨ms, rfl, _⟩ := o1
      rfl
    | tup _ =>
      have o1 := o.1
      simp only [Sh.ok] at o1
      obtain ⟨ms, rfl, _⟩ := o1
      rfl
theorem mkTup_ok {ss : List Sh} {ms : List M} (o : Sh.oks ss ms) : (tupSh ss).ok (mkTup ms) ∧ (mkTup ms).toD = .tup (M.toDs ms) := by
  refine ⟨?_, ?_⟩
  · unfold tupSh
    by_cases h1 : allFl ss = true
    · rw [if_pos h1]
      unfold mkTup
      rw [if_pos (allFz_ok (allFl_fz h1) o)]
      exact ok_fl (lf_tup (allFl_ok h1 o))
    · rw [if_neg h1]
      by_cases h2 : allFz ss = true
      · rw [if_pos h2]
        unfold mkTup
        rw [if_pos (allFz_ok h2 o)]
        exact ok_fz _
      · rw [if_neg h2]
        by_cases h3 : anyOwn ss = true
        · rw [if_pos h3]
          unfold mkTup
          rw [if_neg (by rw [anyOwn_ok h3 o]; exact Bool.false_ne_true)]
          simp only [Sh.ok]
          exact ⟨ms, rfl, o⟩
        · rw [if_neg h3]
          simp only [Sh.ok]
  · unfold mkTup
    split <;> rfl
theorem RVs.len {c : Ctx} {s : Sl} : ∀ {ks : List K} {rs : List Res} {ds : List D}, RVs c s ks rs ds → ks.length = ds.length
  | [], [], [], _ => rfl
  | [], [], _ :: _, q => q.elim
  | [], _ :: _, _, q => q.elim
  | _ :: _, [], _, q => q.elim
  | _ :: _, _ :: _, [], q => q.elim
  | k :: ks, r :: rs, d :: ds, q => by rw [List.length_cons, List.length_cons, RVs.len q.2]
/-- a tuple's display -/
theorem x_tup {es : Es} {ks : List K} {f : S → Option (List D)} {ss : List Sh} {g : S → Option α} (h : XEs G pu Γ es ks f) (hk : Kst ks = some ss) (hst : Kstable ks.tail = true) (hn : ks.length ≤ 1000) (hg : ∀ σ v, g σ = some v → ∃ ds, f σ = some ds ∧ ea v = .tup ds) :
    XE G (pu && Kms ks) Γ (.tup es) (.m (tupSh ss)) ea g := fun σ s v r q => by
  obtain ⟨ds, q1, q2⟩ := hg σ v q
  obtain ⟨rs, s1, e1, r1, p1, v1⟩ := h σ s ds r q1
  obtain ⟨ms, s2, e2, r2, t2, o2, p2⟩ := toSs_ok' r1 v1 hk hst
  have hl : ms.length ≤ sizeLine := by
    have h1 := v1.len
    rw [← t2, toDs_map, List.length_map] at h1
    rw [← h1]
    exact Nat.le_trans hn (by decide)
  refine ⟨.m (mkTup ms), s2, ?_, r2, fun hp => ?_, rvm (by rw [(mkTup_ok o2).2, t2, q2]) (mkTup_ok o2).1⟩
  · unfold VS.ev
    rw [e1, bd_some, e2, bd_some, if_pos hl]
  · rw [Bool.and_eq_true] at hp
    rw [p2 hp.2, p1 hp.1]
/-- a list's display: items of one kind of data -/
def XL (G : VS.Env) (pu : Bool) (Γ : S → Ctx) (es : Es) (ks : List K) (ea : α → D) (f : S → Option (List α)) : Prop := XEs G pu Γ es ks (fun σ => (f σ).map fun l => l.map ea)
theorem xl_nil : XL G true Γ .nil [] ea (fun _ => some []) := fun σ s v r q => by
  cases q
  exact ⟨[], s, by unfold VS.evs; rfl, r, fun _ => rfl, trivial⟩
theorem xl_cons {es : Es} {ks : List K} {f : S → Option (List α)} (ha : XE G pa Γ a ka ea fa) (h : XL G pb Γ es ks ea f) (hs : (pb || ka.stable) = true) : XL G (pa && pb) Γ (.cons a es) (ka :: ks) ea (fun σ => (fa σ).bind fun x => (f σ).bind fun l => some (x :: l)) := fun σ s v r q => by
  refine xs_cons ha h hs σ s v r ?_
  obtain ⟨l, q1, q⟩ := Option.map_eq_some_iff.mp q
  obtain ⟨x, q2, q1⟩ := Option.bind_eq_some_iff.mp q1
  obtain ⟨l', q3, q1⟩ := Option.bind_eq_some_iff.mp q1
  cases q1
  subst q
  show (fa σ).bind _ = _
  rw [q2]
  show (((f σ).map fun l => l.map ea).bind _) = _
  rw [q3]; rfl
theorem oks_all {ss : List Sh} {ms : List M} {sh : Sh} (o : Sh.oks ss ms) (h : ss.all (fun s => Sh.le s sh) = true) : ∀ m ∈ ms, sh.ok m := by
  induction ss generalizing ms with
  | nil =>
    cases ms with
    | nil => simp
    | cons m ms => simp [Sh.oks] at o
  | cons s ss ih =>
    cases ms with
    | nil => simp
    | cons m ms =>
      simp only [Sh.oks] at o
      rw [List.all_cons, Bool.and_eq_true] at h
      intro x hx
      rcases List.mem_cons.mp hx with rfl | hx
      · exact Sh.ok_le h.1 o.1
      · exact ih o.2 h.2 x hx
theorem x_lst {es : Es} {ks : List K} {f : S → Option (List α)} {ss : List Sh} {sh : Sh} (h : XL G pu Γ es ks ea f) (hk : Kst ks = some ss) (hst : Kstable ks.tail = true) (hn : ks.length ≤ 1000) (hsh : ss.all (fun s => Sh.le s sh) = true) :
    XE G (pu && Kms ks) Γ (.lst es) (.m (.lst sh)) (eL ea) f := fun σ s v r q => by
  obtain ⟨rs, s1, e1, r1, p1, v1⟩ := h σ s (v.map ea) r (by show (f σ).map _ = _; rw [q]; rfl)
  obtain ⟨ms, s2, e2, r2, t2, o2, p2⟩ := toSs_ok' r1 v1 hk hst
  have hl : ms.length ≤ sizeLine := by
    have h1 := v1.len
    rw [← t2, toDs_map, List.length_map] at h1
    rw [← h1]
    exact Nat.le_trans hn (by decide)
  refine ⟨.m (.lst ms), s2, ?_, r2, fun hp => ?_, rvm (by show D.lst (M.toDs ms) = _; rw [t2]; rfl) (by simp only [Sh.ok]; exact ⟨ms, rfl, oks_all o2 hsh⟩)⟩
  · unfold VS.ev
    rw [e1, bd_some, e2, bd_some, if_pos hl]
  · rw [Bool.and_eq_true] at hp
    rw [p2 hp.2, p1 hp.1]

/-! ### calls -/
def Cd (G : VS.Env) (n : Nat) (ds : List D) (d : D) (sh : Sh) : Prop := ∃ m outs, G.cd n (ds.map .fz) = some (m, outs) ∧ m.toD = d ∧ sh.ok m
theorem x_call {n : Nat} {es : Es} {ks : List K} {f : S → Option (List D)} {g : S → Option α} {sh : Sh} (h : XEs G pu Γ es ks f) (hl : sh.lf = true) (hg : ∀ σ v, g σ = some v → ∃ ds, f σ = some ds ∧ Cd G n ds (ea v) sh) :
    XE G pu Γ (.call true n es) (.m sh) ea g := fun σ s v r q => by
  obtain ⟨ds, q1, m, outs, q2, q3, q4⟩ := hg σ v q
  obtain ⟨rs, s1, e1, r1, p1, v1⟩ := h σ s ds r q1
  refine ⟨.m m, s1, ?_, r1, p1, rvm q3 q4⟩
  unfold VS.ev
  rw [e1, bd_some, call_brw (toVs_ok' r1 v1) q2 (Sh.ok_lf hl q4)]
theorem x_callF {n : Nat} {es : Es} {ks : List K} {ss : List Sh} {f : S → Option (List D)} {g : S → Option α} {sh : Sh} (h : XEs G pu Γ es ks f) (hk : Kst ks = some ss) (hst : Kstable ks.tail = true) (hg : ∀ σ v, g σ = some v → ∃ ds, f σ = some ds ∧ Cd G n ds (ea v) sh) :
    XE G (pu && Kms ks) Γ (.call false n es) (.m sh) ea g := fun σ s v r q => by
  obtain ⟨ds, q1, m, outs, q2, q3, q4⟩ := hg σ v q
  obtain ⟨rs, s1, e1, r1, p1, v1⟩ := h σ s ds r q1
  obtain ⟨ms, s2, e2, r2, t2, o2, p2⟩ := toSs_ok' r1 v1 hk hst
  refine ⟨.m m, s2, ?_, r2, fun hp => ?_, rvm q3 q4⟩
  · unfold VS.ev
    rw [e1, bd_some]
    unfold evCall
    rw [if_neg Bool.false_ne_true, e2, bd_some, t2, q2]; rfl
  · rw [Bool.and_eq_true] at hp
    rw [p2 hp.2, p1 hp.1]

/-! ### what is walked -/
def XI (G : VS.Env) (pu : Bool) (Γ : S → Ctx) (it : VS.It) (ea : α → D) (f : S → Option (List α)) : Prop :=
  ∀ σ s v, Rl (Γ σ) s → f σ = some v → ∃ s', VS.evIt G it s = some (v.map ea, s') ∧ Rl (Γ σ) s' ∧ (pu = true → s' = s)
theorem i_seq {fa : S → Option (List α)} (hk : ka.ct = true) (h : XE G pa Γ a ka (eL ea) fa) : XI G (ka.mp pa) Γ (.seq a) ea fa := fun σ s v r q => by
  obtain ⟨ra, s1, e1, r1, p1, v1⟩ := h σ s v r q
  obtain ⟨s2, e2, r2, p2⟩ := toC_ok r1 v1 hk (ds := v.map ea) rfl
  refine ⟨s2, ?_, r2, fun hp => ?_⟩
  · unfold VS.evIt
    rw [e1, bd_some, e2]
  · cases ka with
    | m sh => rw [p2 sh (.inl rfl)]; exact p1 hp
    | p sh => rw [p2 sh (.inr rfl)]; exact p1 hp
    | w => cases hp
    | u => cases hp
theorem i_seqV {fa : S → Option (List α)} (hk : ka.ct = true) (h : XE G pa Γ a ka (eV ea) fa) : XI G (ka.mp pa) Γ (.seq a) ea fa := fun σ s v r q => by
  obtain ⟨ra, s1, e1, r1, p1, v1⟩ := h σ s v r q
  obtain ⟨s2, e2, r2, p2⟩ := toC_ok r1 v1 hk (ds := v.map ea) rfl
  refine ⟨s2, ?_, r2, fun hp => ?_⟩
  · unfold VS.evIt
    rw [e1, bd_some, e2]
  · cases ka with
    | m sh => rw [p2 sh (.inl rfl)]; exact p1 hp
    | p sh => rw [p2 sh (.inr rfl)]; exact p1 hp
    | w => cases hp
    | u => cases hp
def rangeI (lo hi : Int) : List Int := (List.range (hi - lo).toNat).map fun k => lo + (k : Nat)
noncomputable def range1 (n : Int) : Option (List Int) := lk (if small62 n = true then some (rangeI 0 n) else none)
theorem range1_def (n : Int) : range1 n = (if small62 n = true then some (rangeI 0 n) else none) := lk_eq _
noncomputable def range2 (a b : Int) : Option (List Int) := lk (if (small62 a && small62 b) = true then some (rangeI a b) else none)
theorem range2_def (a b : Int) : range2 a b = (if (small62 a && small62 b) = true then some (rangeI a b) else none) := lk_eq _
theorem rangeL_I (lo hi : Int) : rangeL lo hi = (rangeI lo hi).map eI := by
  unfold rangeL rangeI
  rw [List.map_map]; rfl
theorem i_range1 {fi : S → Option Int} (h : XE G pa Γ a ka eI fi) : XI G pa Γ (.range (.cons a .nil)) eI (fun σ => (fi σ).bind fun n => range1 n) := fun σ s v r q => by
  obtain ⟨x, q1, q⟩ := Option.bind_eq_some_iff.mp q
  rw [range1_def] at q
  obtain ⟨hn, q⟩ := of_ite q
  cases q
  obtain ⟨ra, s1, e1, r1, p1, v1⟩ := h σ s x r q1
  refine ⟨s1, ?_, r1, p1⟩
  unfold VS.evIt VS.evs
  rw [e1, bd_some]
  unfold VS.evs
  rw [bd_some, bd_some, toVs_cons, toV_ok r1 v1, ob_some]
  show (rangeD [.int x]).map _ = _
  show (if small62 x = true then some (rangeL 0 x) else none).map _ = _
  rw [if_pos hn, ← rangeL_I]; rfl
theorem i_range2 {fi fj : S → Option Int} (ha : XE G pa Γ a ka eI fi) (hb : XE G pb Γ b kb eI fj) (hs : (pb || ka.stable) = true) : XI G (pa && pb) Γ (.range (.cons a (.cons b .nil))) eI (fun σ => (fi σ).bind fun x => (fj σ).bind fun y => range2 x y) := fun σ s v r q => by
  obtain ⟨x, y, ra, rb, s1, s2, q, e1, e2, r2, p2, v1, v2⟩ := two ha hb hs r q
  rw [range2_def] at q
  obtain ⟨hn, q⟩ := of_ite q
  cases q
  refine ⟨s2, ?_, r2, p2⟩
  unfold VS.evIt VS.evs
  rw [e1, bd_some]
  unfold VS.evs
  rw [e2, bd_some]
  unfold VS.evs
  rw [bd_some, bd_some, bd_some, toVs_cons, toV_ok r2 v1, ob_some, toVs_cons, toV_ok r2 v2]
  show (if (small62 x && small62 y) = true then some (rangeL x y) else none).map _ = _
  rw [if_pos hn, ← rangeL_I]; rfl
def enumO {α : Type} (l : List α) : List (Int × α) := l.zipIdx.map fun x => ((x.2 : Nat), x.1)
theorem enumL_O (l : List α) : enumL (l.map ea) = (enumO l).map (eT2 eI ea) := by
  unfold enumL enumO
  rw [List.map_map, List.zipIdx_map, List.map_map]; rfl
theorem zipL_O (l : List α) (r : List β) : zipL (l.map ea) (r.map eb) = (l.zip r).map (eT2 ea eb) := by
  unfold zipL
  rw [List.zip_map, List.map_map]; rfl
theorem i_enum {fa : S → Option (List α)} (hk : ka.ct = true) (h : XE G pa Γ a ka (eL ea) fa) : XI G (ka.mp pa) Γ (.enum a) (eT2 eI ea) (fun σ => (fa σ).bind fun l => some (enumO l)) := fun σ s v r q => by
  obtain ⟨x, q1, q⟩ := Option.bind_eq_some_iff.mp q
  cases q
  obtain ⟨ra, s1, e1, r1, p1, v1⟩ := h σ s x r q1
  obtain ⟨s2, e2, r2, p2⟩ := toC_ok r1 v1 hk (ds := x.map ea) rfl
  refine ⟨s2, ?_, r2, fun hp => ?_⟩
  · unfold VS.evIt
    rw [e1, bd_some, toV_ok r1 v1, ob_some]
    show bd (toC s1 ra) _ = _
    rw [e2, bd_some, enumL_O]
  · cases ka with
    | m sh => rw [p2 sh (.inl rfl)]; exact p1 hp
    | p sh => rw [p2 sh (.inr rfl)]; exact p1 hp
    | w => cases hp
    | u => cases hp
theorem i_zip {fa : S → Option (List α)} {fb : S → Option (List β)} (ha : XE G pa Γ a ka (eL ea) fa) (hb : XE G pb Γ b kb (eL eb) fb) (hs : (pb || ka.stable) = true) (h1 : ka.ct = true) (h2 : kb.ct = true) (h3 : kb.stable = true) :
    XI G false Γ (.zip a b) (eT2 ea eb) (fun σ => (fa σ).bind fun x => (fb σ).bind fun y => some (x.zip y)) := fun σ s v r q => by
  obtain ⟨x, y, ra, rb, s1, s2, q, e1, e2, r2, p2, v1, v2⟩ := two ha hb hs r q
  cases q
  obtain ⟨s3, e3, r3, p3⟩ := toC_ok r2 v1 h1 (ds := x.map ea) rfl
  have v2' := v2.stable (s' := s3) h3
  obtain ⟨s4, e4, r4, p4⟩ := toC_ok r3 v2' h2 (ds := y.map eb) rfl
  refine ⟨s4, ?_, r4, fun hp => by cases hp⟩
  unfold VS.evIt
  rw [e1, bd_some, e2, bd_some, toV_ok r2 v1, ob_some]
  show bd (toC s2 ra) (fun xs s3 => (toV s3 rb).bind fun d' => if isLd d' then bd (toC s3 rb) fun ys s4 => some (zipL xs ys, s4) else none) = _
  rw [e3, bd_some, toV_ok r3 v2', ob_some]
  show bd (toC s3 rb) (fun ys s4 => some (zipL (x.map ea) ys, s4)) = _
  rw [e4, bd_some, zipL_O]

/-! ### targets -/
def FSh (ea : α → D) (s : Sh) : Prop := s = .fz ∨ (s = .fl ∧ LF ea)
theorem fshz : FSh ea .fz := .inl rfl
theorem fshl (h : LF ea) : FSh ea .fl := .inr ⟨rfl, h⟩
theorem FSh.ok {s : Sh} (h : FSh ea s) (v : α) : s.ok (.fz (ea v)) := by
  rcases h with rfl | ⟨rfl, h⟩
  · exact ok_fz _
  · exact ok_fl (h v)
/-- a frozen item is put to its target -/
def TgOk (n : Nat) (t : T) (ea : α → D) (u : Ctx → α → Ctx) : Prop := ∀ (c : Ctx) (s : Sl) (v : α), c.length = n → Rl c s → ∃ s', setT s t (.fz (ea v)) = some s' ∧ Rl (u c v) s'
theorem tg_var {n i : Nat} {sh : Sh} (hi : i < n) (h : FSh ea sh) : TgOk n (.var i) ea (fun c v => c.set i (some (sh, ea v))) := fun c s v hn r => by
  refine ⟨_, ?_, r.set rfl (h.ok v)⟩
  rw [setT_var, if_pos (by rw [r.len, hn]; exact hi)]
theorem tg_tup2 {n i j : Nat} {s1 s2 : Sh} (hi : i < n) (hj : j < n) (h1 : FSh ea s1) (h2 : FSh eb s2) : TgOk n (.tup2 i j) (eT2 ea eb) (fun c v => (c.set i (some (s1, ea v.1))).set j (some (s2, eb v.2))) := fun c s v hn r => by
  refine ⟨_, ?_, (r.set rfl (h1.ok v.1)).set rfl (h2.ok v.2)⟩
  show (if i < s.length ∧ j < s.length then _ else _) = _
  rw [if_pos (by rw [r.len, hn]; exact ⟨hi, hj⟩)]
theorem tg_tup3 {n i j k : Nat} {s1 s2 s3 : Sh} (hi : i < n) (hj : j < n) (hk : k < n) (h1 : FSh ea s1) (h2 : FSh eb s2) (h3 : FSh ec s3) : TgOk n (.tup3 i j k) (eT3 ea eb ec) (fun c v => ((c.set i (some (s1, ea v.1))).set j (some (s2, eb v.2.1))).set k (some (s3, ec v.2.2))) := fun c s v hn r => by
  refine ⟨_, ?_, ((r.set rfl (h1.ok v.1)).set rfl (h2.ok v.2.1)).set rfl (h3.ok v.2.2)⟩
  show (if i < s.length ∧ j < s.length ∧ k < s.length then _ else _) = _
  rw [if_pos (by rw [r.len, hn]; exact ⟨hi, hj, hk⟩)]

/-! ### comprehensions -/
def mapO (f : α → Option β) : List α → Option (List β)
  | [] => some []
  | x :: l => (f x).bind fun y => (mapO f l).bind fun r => some (y :: r)
def mapIf (c : α → Option Bool) (f : α → Option β) : List α → Option (List β)
  | [] => some []
  | x :: l => (c x).bind fun b => if b then (f x).bind fun y => (mapIf c f l).bind fun r => some (y :: r) else mapIf c f l
def wipeC (c : Ctx) : List Nat → Ctx
  | [] => c
  | i :: r => (wipeC c r).set i none
theorem Rl.wipes {c : Ctx} {s : Sl} (h : Rl c s) : ∀ own : List Nat, Rl (wipeC c own) (wipeS s own)
  | [] => h
  | i :: r => (Rl.wipes h r).wipe
theorem wipeC_len (c : Ctx) : ∀ own : List Nat, (wipeC c own).length = c.length
  | [] => rfl
  | i :: r => by unfold wipeC; rw [List.length_set, wipeC_len c r]
theorem back_get {s0 : Sl} : ∀ {own : List Nat} {s : Sl} {i : Nat}, s.length = s0.length → (backS s0 s own)[i]? = if i ∈ own then s0[i]? else s[i]?
  | [], s, i, _ => by simp [backS]
  | j :: r, s, i, h => by
    unfold backS
    rw [back_get (own := r) (by rw [List.length_set, h])]
    by_cases hr : i ∈ r
    · rw [if_pos hr, if_pos (List.mem_cons_of_mem _ hr)]
    · rw [if_neg hr]
      by_cases hij : j = i
      · subst hij
        rw [if_pos List.mem_cons_self, List.getElem?_set, if_pos rfl]
        by_cases hl : j < s.length
        · rw [if_pos hl, List.getElem?_eq_getElem (by omega)]; rfl
        · rw [if_neg hl, List.getElem?_eq_none (by omega)]
      · rw [List.getElem?_set_ne hij, if_neg (by simp [hr]; exact fun q => hij q.symm)]
theorem back_len {s0 : Sl} : ∀ {own : List Nat} {s : Sl}, (backS s0 s own).length = s.length
  | [], s => rfl
  | j :: r, s => by unfold backS; rw [back_len, List.length_set]
theorem wipe_get {c : Ctx} : ∀ {own : List Nat} {i : Nat}, i ∉ own → (wipeC c own)[i]? = c[i]?
  | [], i, _ => rfl
  | j :: r, i, h => by
    simp at h
    unfold wipeC
    rw [List.getElem?_set_ne (fun q => h.1 q.symm), wipe_get h.2]
theorem Rl.back {c : Ctx} {s0 s : Sl} {own : List Nat} (h0 : Rl c s0) (h : Rl (wipeC c own) s) : Rl c (backS s0 s own) := by
  have hl : s.length = s0.length := by rw [h.len, wipeC_len, h0.len]
  refine ⟨by rw [back_len, hl, h0.len], fun {i sh d} hi => ?_⟩
  rw [back_get hl]
  by_cases ho : i ∈ own
  · rw [if_pos ho]; exact h0.get hi
  · rw [if_neg ho]
    exact h.get (by rw [wipe_get ho]; exact hi)
/-- the shape of the items of a comprehension -/
theorem comp_core {own : List Nat} {t : T} {fcond : Sl → Option (Bool × Sl)} {felt : Sl → Option (M × Sl)} {c0 : Ctx} {sh : Sh} {cc : α → Option Bool} {ff : α → Option β}
    (turn : ∀ s v, Rl c0 s → ∃ s1, setT s t (.fz (ea v)) = some s1 ∧ ∀ b, cc v = some b → ∃ s2, fcond s1 = some (b, s2) ∧ (b = false → Rl c0 (wipeS s2 own)) ∧ (b = true → ∀ y, ff v = some y → ∃ m s3, felt s2 = some (m, s3) ∧ m.toD = eb y ∧ sh.ok m ∧ Rl c0 (wipeS s3 own))) :
    ∀ (l : List α) (s : Sl) (r : List β), Rl c0 s → mapIf cc ff l = some r → ∃ ms s', compL own t fcond felt (l.map ea) s = some (ms, s') ∧ Rl c0 s' ∧ M.toDs ms = r.map eb ∧ (∀ m ∈ ms, sh.ok m)
  | [], s, r, h, q => by
    cases q
    exact ⟨[], s, rfl, h, rfl, by simp⟩
  | x :: l, s, r, h, q => by
    unfold mapIf at q
    obtain ⟨b, q1, q⟩ := Option.bind_eq_some_iff.mp q
    obtain ⟨s1, e1, k1⟩ := turn s x h
    obtain ⟨s2, e2, k2, k3⟩ := k1 b q1
    cases b with
    | false =>
      rw [if_neg Bool.false_ne_true] at q
      obtain ⟨ms, s', e3, h3, t3, o3⟩ := comp_core turn l _ r (k2 rfl) q
      refine ⟨ms, s', ?_, h3, t3, o3⟩
      rw [List.map_cons]
      unfold compL
      rw [e1, ob_some, e2, bd_some, if_neg Bool.false_ne_true, e3]
    | true =>
      rw [if_pos rfl] at q
      obtain ⟨y, q2, q⟩ := Option.bind_eq_some_iff.mp q
      obtain ⟨r', q3, q⟩ := Option.bind_eq_some_iff.mp q
      cases q
      obtain ⟨m, s3, e4, t4, o4, h4⟩ := k3 rfl y q2
      obtain ⟨ms, s', e3, h3, t3, o3⟩ := comp_core turn l _ r' h4 q3
      refine ⟨m :: ms, s', ?_, h3, by rw [toDs_cons, t4, t3]; rfl, fun z hz => ?_⟩
      · rw [List.map_cons]
        unfold compL
        rw [e1, ob_some, e2, bd_some, if_pos rfl, e4, bd_some, e3, bd_some]
      · rcases List.mem_cons.mp hz with rfl | hz
        · exact o4
        · exact o3 z hz
theorem mapIf_true (f : α → Option β) : ∀ l : List α, mapIf (fun _ => some true) f l = mapO f l
  | [] => rfl
  | x :: l => by
    unfold mapIf mapO
    rw [ob_some, if_pos rfl]
    cases f x with
    | none => rfl
    | some y => rw [ob_some, ob_some, mapIf_true f l]
theorem wipe_set {c : Ctx} {s : Sl} {own : List Nat} {u : Ctx → α → Ctx} {v : α} (hu : wipeC (u (wipeC c own) v) own = wipeC c own) (h : Rl (u (wipeC c own) v) s) : Rl (wipeC c own) (wipeS s own) := by
  have := Rl.wipes h own
  rw [hu] at this
  exact this
theorem x_compIf {n : Nat} {elt : E} {own : List Nat} {t : T} {it : VS.It} {cond : Tst} {ei : γ → D} {fi : S → Option (List γ)} {u : Ctx → γ → Ctx} {fcnd : S × γ → Option Bool} {felt : S × γ → Option α} {sh : Sh} {pi p1 p2 : Bool}
    (hlen : ∀ σ, (Γ σ).length = n) (hi : XI G pi Γ it ei fi) (ht : TgOk n t ei u) (hu : ∀ σ v, wipeC (u (wipeC (Γ σ) own) v) own = wipeC (Γ σ) own)
    (hc : XT G p1 (fun p : S × γ => u (wipeC (Γ p.1) own) p.2) cond fcnd) (he : XE G p2 (fun p : S × γ => u (wipeC (Γ p.1) own) p.2) elt k ea felt) (hk : k.st = some sh) :
    XE G false Γ (.compIf elt own t it cond) (.m (.lst sh)) (eL ea) (fun σ => (fi σ).bind fun l => (mapIf (fun x => fcnd (σ, x)) (fun x => felt (σ, x)) l).bind fun r => lim r) := fun σ s v r q => by
  obtain ⟨l, q1, q⟩ := Option.bind_eq_some_iff.mp q
  obtain ⟨r', q2, q⟩ := Option.bind_eq_some_iff.mp q
  rw [lim_def] at q
  obtain ⟨hn, q⟩ := of_ite q
  cases q
  obtain ⟨s1, e1, r1, p1⟩ := hi σ s l r q1
  have r0 := Rl.wipes r1 own
  obtain ⟨ms, s', e2, r2, t2, o2⟩ := comp_core (own := own) (t := t) (fcond := fun s => VS.evT G cond s) (felt := fun s => bd (VS.ev G elt s) fun r s' => toS s' r) (c0 := wipeC (Γ σ) own) (sh := sh) (ea := ei) (eb := ea) (cc := fun x => fcnd (σ, x)) (ff := fun x => felt (σ, x)) (fun s0 v h0 => by
    obtain ⟨s1, a1, a2⟩ := ht (wipeC (Γ σ) own) s0 v (by rw [wipeC_len, hlen]) h0
    refine ⟨s1, a1, fun b hb => ?_⟩
    obtain ⟨s2, b1, b2, _⟩ := hc (σ, v) s1 b a2 hb
    refine ⟨s2, b1, fun _ => wipe_set (hu σ v) b2, fun _ y hy => ?_⟩
    obtain ⟨rr, s3, c1, c2, _, c3⟩ := he (σ, v) s2 y b2 hy
    obtain ⟨m, s4, d1, d2, d3, d4, _⟩ := toS_ok c2 c3 hk
    exact ⟨m, s4, by rw [c1, bd_some, d1], d3, d4, wipe_set (hu σ v) d2⟩) l (wipeS s1 own) v r0 q2
  refine ⟨.m (.lst ms), backS s1 s' own, ?_, Rl.back r1 r2, fun hp => (by cases hp), rvm (by show D.lst (M.toDs ms) = _; rw [t2]; rfl) (by simp only [Sh.ok]; exact ⟨ms, rfl, o2⟩)⟩
  unfold VS.ev
  rw [e1, bd_some, e2, bd_some, if_pos (by
    have := congrArg List.length t2
    rw [toDs_map, List.length_map, List.length_map] at this
    rw [this]; exact hn)]
theorem x_comp {n : Nat} {elt : E} {own : List Nat} {t : T} {it : VS.It} {ei : γ → D} {fi : S → Option (List γ)} {u : Ctx → γ → Ctx} {felt : S × γ → Option α} {sh : Sh} {pi p2 : Bool}
    (hlen : ∀ σ, (Γ σ).length = n) (hi : XI G pi Γ it ei fi) (ht : TgOk n t ei u) (hu : ∀ σ v, wipeC (u (wipeC (Γ σ) own) v) own = wipeC (Γ σ) own)
    (he : XE G p2 (fun p : S × γ => u (wipeC (Γ p.1) own) p.2) elt k ea felt) (hk : k.st = some sh) :
    XE G false Γ (.comp elt own t it) (.m (.lst sh)) (eL ea) (fun σ => (fi σ).bind fun l => (mapO (fun x => felt (σ, x)) l).bind fun r => lim r) := fun σ s v r q => by
  obtain ⟨l, q1, q⟩ := Option.bind_eq_some_iff.mp q
  obtain ⟨r', q2, q⟩ := Option.bind_eq_some_iff.mp q
  rw [lim_def] at q
  obtain ⟨hn, q⟩ := of_ite q
  cases q
  obtain ⟨s1, e1, r1, p1⟩ := hi σ s l r q1
  have r0 := Rl.wipes r1 own
  rw [← mapIf_true] at q2
  obtain ⟨ms, s', e2, r2, t2, o2⟩ := comp_core (own := own) (t := t) (fcond := fun s => some (true, s)) (felt := fun s => bd (VS.ev G elt s) fun r s' => toS s' r) (c0 := wipeC (Γ σ) own) (sh := sh) (ea := ei) (eb := ea) (cc := fun x => some true) (ff := fun x => felt (σ, x)) (fun s0 v h0 => by
    obtain ⟨s1, a1, a2⟩ := ht (wipeC (Γ σ) own) s0 v (by rw [wipeC_len, hlen]) h0
    refine ⟨s1, a1, fun b hb => ?_⟩
    cases hb
    refine ⟨s1, rfl, fun q => (by cases q), fun _ y hy => ?_⟩
    obtain ⟨rr, s3, c1, c2, _, c3⟩ := he (σ, v) s1 y a2 hy
    obtain ⟨m, s4, d1, d2, d3, d4, _⟩ := toS_ok c2 c3 hk
    exact ⟨m, s4, by rw [c1, bd_some, d1], d3, d4, wipe_set (hu σ v) d2⟩) l (wipeS s1 own) v r0 q2
  refine ⟨.m (.lst ms), backS s1 s' own, ?_, Rl.back r1 r2, fun hp => (by cases hp), rvm (by show D.lst (M.toDs ms) = _; rw [t2]; rfl) (by simp only [Sh.ok]; exact ⟨ms, rfl, o2⟩)⟩
  unfold VS.ev
  rw [e1, bd_some, e2, bd_some, if_pos (by
    have := congrArg List.length t2
    rw [toDs_map, List.length_map, List.length_map] at this
    rw [this]; exact hn)]
end VT
end

section
/-! VT: statements. -/
namespace VT
open PySem VS L2
variable {S α β γ δ A T R : Type} {G : VS.Env} {W : WL} {Γ : S → Ctx} {pu pa pb pc : Bool} {a b c e : E} {k ka kb kc : K} {ea : α → D} {eb : β → D} {ec : γ → D} {fa : S → Option α} {fb : S → Option β} {fc : S → Option γ} {En : A → O → Prop}

def SX (G : VS.Env) (W : WL) (Γ : S → Ctx) (ss : Ss) (En : A → O → Prop) (f : S → Option A) : Prop :=
  ∀ σ s a, Rl (Γ σ) s → f σ = some a → ∃ o, VS.execs G W ss s = some o ∧ En a o
theorem SX.of_eq {ss : Ss} {f g : S → Option A} (h : SX G W Γ ss En f) (q : ∀ σ, g σ = f σ) : SX G W Γ ss En g := fun σ s v r q' => h σ s v r (by rw [← q]; exact q')
theorem s_weak' {Γ' : S → Ctx} {ss : Ss} {f : S → Option A} (l : ∀ σ, Ctx.le (Γ' σ) (Γ σ)) (h : SX G W Γ' ss En f) : SX G W Γ ss En f := fun σ s v r q => h σ s v (r.weak (l σ)) q
theorem s_weak {Γ' : S → Ctx} {ss : Ss} {f : S → Option A} (h : SX G W Γ' ss En f) (l : ∀ σ, Ctx.le (Γ' σ) (Γ σ)) : SX G W Γ ss En f := fun σ s v r q => h σ s v (r.weak (l σ)) q
/-- on to a joined text -/
theorem s_at {Sb : Type} {Γb : Sb → Ctx} {Γj : S → T → Ctx} {ss : Ss} {fj : S → T → Option A} (base : Sb → S) (pack : Sb → T) (h : ∀ σ, SX G W (Γj σ) ss En (fj σ)) (l : ∀ b, Ctx.le (Γj (base b) (pack b)) (Γb b)) : SX G W Γb ss En (fun b => fj (base b) (pack b)) := fun σ s v r q => h (base σ) (pack σ) s v (r.weak (l σ)) q
/-! ends -/
def ER (er : R → D) (sh : Sh) (v : R) (o : O) : Prop := ∃ j m s, o = .rt j m s ∧ m.toD = er v ∧ sh.ok m
def EA (Γl : T → Ctx) (t : T) (o : O) : Prop := ∃ s, (o = .nx s ∨ o = .ct s) ∧ Rl (Γl t) s
inductive F (T R : Type) where
  | go (t : T) | brk (t : T) | ret (v : R)
def EF (Γl : T → Ctx) (er : R → D) (sh : Sh) : F T R → O → Prop
  | .go t, o => EA Γl t o
  | .brk t, o => ∃ s, o = .bk s ∧ Rl (Γl t) s
  | .ret v, o => ER er sh v o
/-- where it goes on at the end of a body -/
def Nx (En : A → O → Prop) (Γl : T → Ctx) (j : T → A) : Prop := ∀ t s, Rl (Γl t) s → En (j t) (.nx s) ∧ En (j t) (.ct s)
theorem nxA {Γl : T → Ctx} : Nx (EA Γl) Γl (fun t => t) := fun t s r => ⟨⟨s, .inl rfl, r⟩, ⟨s, .inr rfl, r⟩⟩
theorem nxF {Γl : T → Ctx} {er : R → D} {sh : Sh} : Nx (EF Γl er sh) Γl .go := fun t s r => ⟨⟨s, .inl rfl, r⟩, ⟨s, .inr rfl, r⟩⟩
/-- how a return is told -/
def Rt (En : A → O → Prop) (er : R → D) (sh : Sh) (j : R → A) : Prop := ∀ v o, ER er sh v o → En (j v) o
theorem rtR {er : R → D} {sh : Sh} : Rt (ER er sh) er sh (fun v => v) := fun v o h => h
theorem rtF {Γl : T → Ctx} {er : R → D} {sh : Sh} : Rt (EF Γl er sh) er sh .ret := fun v o h => h
theorem ER.map {er : R → D} {sh : Sh} {v : R} {o : O} (g : Sl → Sl) (h : ER er sh v o) : ER er sh v (o.map g) := by
  obtain ⟨j, m, s, rfl, h⟩ := h
  exact ⟨j, m, g s, rfl, h⟩
theorem execs_cons (c : VS.S) (cs : Ss) (s : Sl) : VS.execs G W (.cons c cs) s = (VS.exec G W c s).bind (seqO fun s1 => VS.execs G W cs s1) := by
  rw [VS.execs]
theorem cons_nx {c : VS.S} {cs : Ss} {s s1 : Sl} (h : VS.exec G W c s = some (.nx s1)) : VS.execs G W (.cons c cs) s = VS.execs G W cs s1 := by
  rw [execs_cons, h]; rfl
/-- the end of a branch -/
def EN (Γl : T → Ctx) (t : T) (o : O) : Prop := ∃ s, o = .nx s ∧ Rl (Γl t) s
def Nx1 (En : A → O → Prop) (Γl : T → Ctx) (j : T → A) : Prop := ∀ t s, Rl (Γl t) s → En (j t) (.nx s)
theorem nx1A {Γl : T → Ctx} : Nx1 (EA Γl) Γl (fun t => t) := fun t s r => ⟨s, .inl rfl, r⟩
theorem nx1F {Γl : T → Ctx} {er : R → D} {sh : Sh} : Nx1 (EF Γl er sh) Γl .go := fun t s r => ⟨s, .inl rfl, r⟩
theorem nx1N {Γl : T → Ctx} : Nx1 (EN Γl) Γl (fun t => t) := fun t s r => ⟨s, rfl, r⟩
theorem s_nil {Γl : T → Ctx} {j : T → A} (pack : S → T) (h : Nx1 En Γl j) (l : ∀ σ, Ctx.le (Γl (pack σ)) (Γ σ)) : SX G W Γ .nil En (fun σ => some (j (pack σ))) := fun σ s v r q => by
  cases q
  exact ⟨.nx s, by rw [VS.execs], h _ s (r.weak (l σ))⟩
theorem s_cont {Γl : T → Ctx} {j : T → A} {rest : Ss} (pack : S → T) (h : Nx En Γl j) (l : ∀ σ, Ctx.le (Γl (pack σ)) (Γ σ)) : SX G W Γ (.cons .cont rest) En (fun σ => some (j (pack σ))) := fun σ s v r q => by
  cases q
  refine ⟨.ct s, ?_, (h _ s (r.weak (l σ))).2⟩
  rw [execs_cons, VS.exec]; rfl
theorem s_brk {Γl : T → Ctx} {er : R → D} {sh : Sh} {rest : Ss} (pack : S → T) (l : ∀ σ, Ctx.le (Γl (pack σ)) (Γ σ)) : SX G W Γ (.cons .brk rest) (EF Γl er sh) (fun σ => some (.brk (pack σ))) := fun σ s v r q => by
  cases q
  refine ⟨.bk s, ?_, s, rfl, r.weak (l σ)⟩
  rw [execs_cons, VS.exec]; rfl
theorem s_pass {rest : Ss} {f : S → Option A} (h : SX G W Γ rest En f) : SX G W Γ (.cons .pass rest) En f := fun σ s v r q => by
  obtain ⟨o, h1, h2⟩ := h σ s v r q
  exact ⟨o, by rw [cons_nx (by rw [VS.exec]), h1], h2⟩
/-- a way that is never gone -/
theorem s_never {ss : Ss} : SX G W Γ ss En (fun _ => none) := fun σ s v r q => by cases q
/-! assignments -/
mutual
def Sh.shal : Sh → Sh
  | .lst .fl => .lst .fl
  | .lst _ => .lst .fz
  | .tup ss => .tup (Sh.shals ss)
  | s => s
def Sh.shals : List Sh → List Sh
  | [] => []
  | s :: ss => Sh.shal s :: Sh.shals ss
end
mutual
theorem shal_toD : ∀ m : M, (M.shal m).toD = m.toD
  | .fz d => by simp [M.shal]
  | .tup xs => by
    simp only [M.shal]
    show D.tup (M.toDs (M.shals xs)) = D.tup (M.toDs xs)
    rw [shals_toDs xs]
  | .lst xs => by
    simp only [M.shal]
    show D.lst (M.toDs ((M.toDs xs).map .fz)) = D.lst (M.toDs xs)
    rw [toDs_fz]
  | .ins c xs => by
    simp only [M.shal]
    show D.ins c (M.toDs (M.shals xs)) = D.ins c (M.toDs xs)
    rw [shals_toDs xs]
theorem shals_toDs : ∀ ms : List M, M.toDs (M.shals ms) = M.toDs ms
  | [] => by simp [M.shals]
  | m :: ms => by
    simp only [M.shals]
    rw [toDs_cons, toDs_cons, shal_toD m, shals_toDs ms]
end
theorem shal_lst_ok {s : Sh} {ms : List M} (o : ∀ x ∈ ms, s.ok x) : (Sh.shal (.lst s)).ok (.lst ((M.toDs ms).map .fz)) := by
  cases s with
  | fl =>
    simp only [Sh.shal]
    refine ok_lst_fl fun d hd => ?_
    rw [toDs_map] at hd
    obtain ⟨m, hm, rfl⟩ := List.mem_map.mp hd
    have := o m hm
    simp only [Sh.ok] at this
    obtain ⟨d, rfl, hl⟩ := this
    exact hl
  | _ => simp only [Sh.shal]; exact ok_lst_fz _
mutual
theorem shal_ok : ∀ {s : Sh} {m : M}, s.ok m → (Sh.shal s).ok (M.shal m)
  | .any, m, _ => by simp [Sh.shal, Sh.ok]
  | .fz, m, o => by
    simp only [Sh.ok] at o
    cases m with
    | fz d => simp only [Sh.shal, M.shal]; exact ok_fz d
    | _ => exact absurd o (by simp [M.isD])
  | .fl, m, o => by
    simp only [Sh.ok] at o
    obtain ⟨d, rfl, hl⟩ := o
    simp only [Sh.shal, M.shal]
    exact ok_fl hl
  | .lst s, m, o => by
    simp only [Sh.ok] at o
    obtain ⟨ms, rfl, o⟩ := o
    simp only [M.shal]
    exact shal_lst_ok o
  | .tup ss, m, o => by
    simp only [Sh.ok] at o
    obtain ⟨ms, rfl, o⟩ := o
    simp only [M.shal, Sh.shal, Sh.ok]
    exact ⟨_, rfl, shals_ok o⟩
theorem shals_ok : ∀ {ss : List Sh} {ms : List M}, Sh.oks ss ms → Sh.oks (Sh.shals ss) (M.shals ms)
  | [], [], _ => by simp [Sh.shals, M.shals, Sh.oks]
  | [], _ :: _, o => by simp [Sh.oks] at o
  | _ :: _, [], o => by simp [Sh.oks] at o
  | s :: ss, m :: ms, o => by
    simp only [Sh.oks] at o
    simp only [Sh.shals, M.shals, Sh.oks]
    exact ⟨shal_ok o.1, shals_ok o.2⟩
end
def finSh (deep : Bool) (s : Sh) : Sh := if deep then s else s.shal
theorem fin_ok {deep : Bool} {s : Sh} {m : M} (o : s.ok m) : (finSh deep s).ok (fin deep m) ∧ (fin deep m).toD = m.toD := by
  cases deep with
  | true => exact ⟨o, rfl⟩
  | false => exact ⟨shal_ok o, shal_toD m⟩
/-- the value is there, to be stored -/
theorem stored {sh : Sh} (h : XE G pu Γ e k ea fa) (hk : k.st = some sh) {σ : S} {s : Sl} {v : α} (r : Rl (Γ σ) s) (q : fa σ = some v) : ∃ ra s1 m s2, VS.ev G e s = some (ra, s1) ∧ toS s1 ra = some (m, s2) ∧ Rl (Γ σ) s2 ∧ m.toD = ea v ∧ sh.ok m := by
  obtain ⟨ra, s1, e1, r1, p1, v1⟩ := h σ s v r q
  obtain ⟨m, s2, e2, r2, t2, o2, _⟩ := toS_ok r1 v1 hk
  exact ⟨ra, s1, m, s2, e1, e2, r2, t2, o2⟩
theorem ble_lt {n i : Nat} (h : Nat.ble (i + 1) n = true) : i < n := Nat.le_of_ble_eq_true h
theorem s_asg {deep : Bool} {i : Nat} {sh : Sh} {rest : Ss} {f2 : S × α → Option A} (he : XE G pu Γ e k ea fa) (hk : k.st = some sh) (hi : ∀ σ, Nat.ble (i + 1) (Γ σ).length = true) (hr : SX G W (fun p : S × α => (Γ p.1).set i (some (finSh deep sh, ea p.2))) rest En f2) :
    SX G W Γ (.cons (.asg deep (.var i) e) rest) En (fun σ => (fa σ).bind fun v => f2 (σ, v)) := fun σ s v r q => by
  obtain ⟨x, q1, q⟩ := Option.bind_eq_some_iff.mp q
  obtain ⟨ra, s1, m, s2, e1, e2, r2, t2, o2⟩ := stored he hk r q1
  have o3 := fin_ok (deep := deep) o2
  have r3 := r2.set (i := i) (d := ea x) (o3.2.trans t2) o3.1
  obtain ⟨o, h1, h2⟩ := hr (σ, x) _ v r3 q
  refine ⟨o, ?_, h2⟩
  rw [cons_nx (s1 := s2.set i (some (fin deep m))), h1]
  rw [VS.exec, e1, bd_some, e2, bd_some, setT_var, if_pos (by rw [r2.len]; exact ble_lt (hi σ))]; rfl
/-- x = y, y's own list is frozen -/
theorem frz_own {c : Ctx} {s : Sl} (h : Rl c s) {j : Nat} {sh : Sh} {d : D} (hc : c[j]? = some (some (sh, d))) : ∃ s', frzP s ⟨j, []⟩ = some (d, s') ∧ Rl (c.set j (some (.fz, d))) s' := by
  obtain ⟨m, h1, h2, h3⟩ := h.get hc
  have hg : getP s ⟨j, []⟩ = some m := by rw [getP_at, h1]; rfl
  have hj : j < s.length := (List.getElem?_eq_some_iff.mp h1).1
  have hu : updP s ⟨j, []⟩ (fun m => some (.fz m.toD)) = some (s.set j (some (.fz m.toD))) := by rw [updP_at, h1]; rfl
  have hr : Rl (c.set j (some (.fz, d))) (s.set j (some (.fz m.toD))) := h.set (m := .fz m.toD) h2 (ok_fz _)
  unfold frzP
  rw [hg]
  cases m with
  | fz d0 =>
    cases h2
    refine ⟨s, rfl, ?_⟩
    have : s.set j (some (.fz d0)) = s := set_self h1
    rw [← this]
    exact hr
  | tup ms => exact ⟨_, by show (updP s ⟨j, []⟩ _).map _ = _; rw [hu, ← h2]; rfl, hr⟩
  | lst ms => exact ⟨_, by show (updP s ⟨j, []⟩ _).map _ = _; rw [hu, ← h2]; rfl, hr⟩
  | ins _ ms => exact ⟨_, by show (updP s ⟨j, []⟩ _).map _ = _; rw [hu, ← h2]; rfl, hr⟩
/-- the store of an own list -/
theorem stored_var {c : Ctx} {s : Sl} (h : Rl c s) {j : Nat} {sh : Sh} {d : D} (hc : c[j]? = some (some (sh, d))) : ∃ ra s2, VS.ev G (.var j) s = some (ra, s) ∧ toS s ra = some (.fz d, s2) ∧ Rl (c.set j (some (.fz, d))) s2 := by
  obtain ⟨m, h1, h2, h3⟩ := h.get hc
  rw [ev_var h1]
  cases m with
  | fz d0 =>
    cases h2
    refine ⟨_, s, rfl, rfl, ?_⟩
    have := h.set (i := j) (m := .fz d0) (sh := .fz) (d := d0) rfl (ok_fz _)
    rw [set_self h1] at this
    exact this
  | _ =>
    obtain ⟨s', e1, e2⟩ := frz_own h hc
    refine ⟨_, s', rfl, ?_, e2⟩
    show (frzP s ⟨j, []⟩).map _ = _
    rw [e1]; rfl
theorem s_asgV {deep : Bool} {i j : Nat} {sh : Sh} {rest : Ss} {g : S → α} {f2 : S → Option A} (hg : ∀ σ, (Γ σ)[j]? = some (some (sh, ea (g σ)))) (hi : ∀ σ, Nat.ble (i + 1) (Γ σ).length = true) (hr : SX G W (fun p : S => ((Γ p).set j (some (.fz, ea (g p)))).set i (some (.fz, ea (g p)))) rest En f2) :
    SX G W Γ (.cons (.asg deep (.var i) (.var j)) rest) En f2 := fun σ s v r q => by
  obtain ⟨ra, s2, e1, e2, r2⟩ := stored_var (G := G) r (hg σ)
  have r3 := r2.set (i := i) (m := .fz (ea (g σ))) (sh := .fz) (d := ea (g σ)) rfl (ok_fz _)
  obtain ⟨o, h1, h2⟩ := hr σ _ v r3 q
  refine ⟨o, ?_, h2⟩
  rw [cons_nx (s1 := s2.set i (some (.fz (ea (g σ))))), h1]
  rw [VS.exec, e1, bd_some, e2, bd_some, setT_var, if_pos (by rw [r2.len, List.length_set]; exact ble_lt (hi σ))]
  cases deep <;> simp [fin, M.shal]
/-- to two names -/
def TupSh2 (sh s1 s2 : Sh) : Prop := sh = .tup [s1, s2] ∨ (sh = .fz ∧ s1 = .fz ∧ s2 = .fz) ∨ (sh = .fl ∧ s1 = .fl ∧ s2 = .fl)
theorem two_m {deep : Bool} {sh s1 s2 : Sh} (h : TupSh2 sh s1 s2) {m : M} {x y : D} (ht : m.toD = .tup [x, y]) (o : sh.ok m) : (∃ a b, m = .tup [a, b] ∧ a.toD = x ∧ b.toD = y ∧ s1.ok a ∧ s2.ok b) ∨ (m = .fz (.tup [x, y]) ∧ s1.ok (.fz x) ∧ s2.ok (.fz y)) := by
  rcases h with rfl | ⟨rfl, rfl, rfl⟩ | ⟨rfl, rfl, rfl⟩
  · simp only [Sh.ok] at o
    obtain ⟨ms, rfl, o⟩ := o
    match ms, o with
    | [a, b], o =>
      simp only [Sh.oks] at o
      injection ht with ht
      injection ht with h1 h2
      injection h2 with h2 _
      exact .inl ⟨a, b, rfl, h1, h2, o.1, o.2.1⟩
    | [], o => simp [Sh.oks] at o
    | [_], o => simp [Sh.oks] at o
    | _ :: _ :: _ :: _, o => simp [Sh.oks] at o
  · simp only [Sh.ok] at o
    cases m with
    | fz d => cases ht; exact .inr ⟨rfl, ok_fz _, ok_fz _⟩
    | _ => exact absurd o (by simp [M.isD])
  · simp only [Sh.ok] at o
    obtain ⟨d, rfl, hl⟩ := o
    cases ht
    rw [D.lf, lfs_all] at hl
    exact .inr ⟨rfl, ok_fl (hl _ (by simp)), ok_fl (hl _ (by simp))⟩
theorem s_asg2 {deep : Bool} {i j : Nat} {sh s1 s2 : Sh} {rest : Ss} {fp : S → Option (α × β)} {f2 : S × (α × β) → Option A} (he : XE G pu Γ e k (eT2 ea eb) fp) (hk : k.st = some sh) (hsh : TupSh2 sh s1 s2) (hi : ∀ σ, Nat.ble (i + 1) (Γ σ).length = true) (hj : ∀ σ, Nat.ble (j + 1) (Γ σ).length = true)
    (hr : SX G W (fun p : S × (α × β) => ((Γ p.1).set i (some (finSh deep s1, ea p.2.1))).set j (some (finSh deep s2, eb p.2.2))) rest En f2) :
    SX G W Γ (.cons (.asg deep (.tup2 i j) e) rest) En (fun σ => (fp σ).bind fun v => f2 (σ, v)) := fun σ s v r q => by
  obtain ⟨x, q1, q⟩ := Option.bind_eq_some_iff.mp q
  obtain ⟨ra, sa, m, sb, e1, e2, r2, t2, o2⟩ := stored he hk r q1
  have hb : i < sb.length ∧ j < sb.length := by rw [r2.len]; exact ⟨ble_lt (hi σ), ble_lt (hj σ)⟩
  obtain ⟨sc, h3, r3⟩ : ∃ sc, setT sb (.tup2 i j) (fin deep m) = some sc ∧ Rl (((Γ σ).set i (some (finSh deep s1, ea x.1))).set j (some (finSh deep s2, eb x.2))) sc := by
    rcases two_m (deep := deep) hsh t2 o2 with ⟨a, b, rfl, ta, tb, oa, ob⟩ | ⟨rfl, oa, ob⟩
    · have ha := fin_ok (deep := deep) oa
      have hb' := fin_ok (deep := deep) ob
      refine ⟨(sb.set i (some (fin deep a))).set j (some (fin deep b)), ?_, (r2.set (ha.2.trans ta) ha.1).set (hb'.2.trans tb) hb'.1⟩
      cases deep with
      | true => show (if i < sb.length ∧ j < sb.length then _ else _) = _; rw [if_pos hb]; rfl
      | false =>
        show setT sb (.tup2 i j) (M.shal (.tup [a, b])) = _
        simp only [M.shal, M.shals]
        show (if i < sb.length ∧ j < sb.length then _ else _) = _
        rw [if_pos hb]; rfl
    · have ha := fin_ok (deep := deep) oa
      have hb' := fin_ok (deep := deep) ob
      refine ⟨(sb.set i (some (fin deep (.fz (ea x.1))))).set j (some (fin deep (.fz (eb x.2)))), ?_, (r2.set ha.2 ha.1).set hb'.2 hb'.1⟩
      have hf : ∀ d : D, fin deep (.fz d) = .fz d := fun d => by cases deep <;> simp [fin, M.shal]
      rw [hf, hf, hf]
      show (if i < sb.length ∧ j < sb.length then _ else _) = _
      rw [if_pos hb]
  obtain ⟨o, h1, h2⟩ := hr (σ, x) _ v r3 q
  refine ⟨o, ?_, h2⟩
  rw [cons_nx (s1 := sc), h1]
  rw [VS.exec, e1, bd_some, e2, bd_some, h3]; rfl
/-- to three names -/
def TupSh3 (sh s1 s2 s3 : Sh) : Prop := sh = .tup [s1, s2, s3] ∨ (sh = .fz ∧ s1 = .fz ∧ s2 = .fz ∧ s3 = .fz) ∨ (sh = .fl ∧ s1 = .fl ∧ s2 = .fl ∧ s3 = .fl)
theorem three_m {sh s1 s2 s3 : Sh} (h : TupSh3 sh s1 s2 s3) {m : M} {x y z : D} (ht : m.toD = .tup [x, y, z]) (o : sh.ok m) : (∃ a b c, m = .tup [a, b, c] ∧ a.toD = x ∧ b.toD = y ∧ c.toD = z ∧ s1.ok a ∧ s2.ok b ∧ s3.ok c) ∨ (m = .fz (.tup [x, y, z]) ∧ s1.ok (.fz x) ∧ s2.ok (.fz y) ∧ s3.ok (.fz z)) := by
  rcases h with rfl | ⟨rfl, rfl, rfl, rfl⟩ | ⟨rfl, rfl, rfl, rfl⟩
  · simp only [Sh.ok] at o
    obtain ⟨ms, rfl, o⟩ := o
    match ms, o with
    | [a, b, c], o =>
      simp only [Sh.oks] at o
      injection ht with ht
      injection ht with h1 h2
      injection h2 with h2 h3
      injection h3 with h3 _
      exact .inl ⟨a, b, c, rfl, h1, h2, h3, o.1, o.2.1, o.2.2.1⟩
    | [], o => simp [Sh.oks] at o
    | [_], o => simp [Sh.oks] at o
    | [_, _], o => simp [Sh.oks] at o
    | _ :: _ :: _ :: _ :: _, o => simp [Sh.oks] at o
  · simp only [Sh.ok] at o
    cases m with
    | fz d => cases ht; exact .inr ⟨rfl, ok_fz _, ok_fz _, ok_fz _⟩
    | _ => exact absurd o (by simp [M.isD])
  · simp only [Sh.ok] at o
    obtain ⟨d, rfl, hl⟩ := o
    cases ht
    rw [D.lf, lfs_all] at hl
    exact .inr ⟨rfl, ok_fl (hl _ (by simp)), ok_fl (hl _ (by simp)), ok_fl (hl _ (by simp))⟩
theorem s_asg3 {deep : Bool} {i j l : Nat} {sh s1 s2 s3 : Sh} {rest : Ss} {fp : S → Option (α × β × γ)} {f2 : S × (α × β × γ) → Option A} (he : XE G pu Γ e k (eT3 ea eb ec) fp) (hk : k.st = some sh) (hsh : TupSh3 sh s1 s2 s3) (hi : ∀ σ, Nat.ble (i + 1) (Γ σ).length = true) (hj : ∀ σ, Nat.ble (j + 1) (Γ σ).length = true) (hl : ∀ σ, Nat.ble (l + 1) (Γ σ).length = true)
    (hr : SX G W (fun p : S × (α × β × γ) => (((Γ p.1).set i (some (finSh deep s1, ea p.2.1))).set j (some (finSh deep s2, eb p.2.2.1))).set l (some (finSh deep s3, ec p.2.2.2))) rest En f2) :
    SX G W Γ (.cons (.asg deep (.tup3 i j l) e) rest) En (fun σ => (fp σ).bind fun v => f2 (σ, v)) := fun σ s v r q => by
  obtain ⟨x, q1, q⟩ := Option.bind_eq_some_iff.mp q
  obtain ⟨ra, sa, m, sb, e1, e2, r2, t2, o2⟩ := stored he hk r q1
  have hb : i < sb.length ∧ j < sb.length ∧ l < sb.length := by rw [r2.len]; exact ⟨ble_lt (hi σ), ble_lt (hj σ), ble_lt (hl σ)⟩
  obtain ⟨sc, h3, r3⟩ : ∃ sc, setT sb (.tup3 i j l) (fin deep m) = some sc ∧ Rl ((((Γ σ).set i (some (finSh deep s1, ea x.1))).set j (some (finSh deep s2, eb x.2.1))).set l (some (finSh deep s3, ec x.2.2))) sc := by
    rcases three_m hsh t2 o2 with ⟨a, b, c, rfl, ta, tb, tc, oa, ob, oc⟩ | ⟨rfl, oa, ob, oc⟩
    · have ha := fin_ok (deep := deep) oa
      have hb' := fin_ok (deep := deep) ob
      have hc' := fin_ok (deep := deep) oc
      refine ⟨((sb.set i (some (fin deep a))).set j (some (fin deep b))).set l (some (fin deep c)), ?_, ((r2.set (ha.2.trans ta) ha.1).set (hb'.2.trans tb) hb'.1).set (hc'.2.trans tc) hc'.1⟩
      cases deep with
      | true => show (if i < sb.length ∧ j < sb.length ∧ l < sb.length then _ else _) = _; rw [if_pos hb]; rfl
      | false =>
        show setT sb (.tup3 i j l) (M.shal (.tup [a, b, c])) = _
        simp only [M.shal, M.shals]
        show (if i < sb.length ∧ j < sb.length ∧ l < sb.length then _ else _) = _
        rw [if_pos hb]; rfl
    · have ha := fin_ok (deep := deep) oa
      have hb' := fin_ok (deep := deep) ob
      have hc' := fin_ok (deep := deep) oc
      refine ⟨((sb.set i (some (fin deep (.fz (ea x.1))))).set j (some (fin deep (.fz (eb x.2.1))))).set l (some (fin deep (.fz (ec x.2.2)))), ?_, ((r2.set ha.2 ha.1).set hb'.2 hb'.1).set hc'.2 hc'.1⟩
      have hf : ∀ d : D, fin deep (.fz d) = .fz d := fun d => by cases deep <;> simp [fin, M.shal]
      rw [hf, hf, hf, hf]
      show (if i < sb.length ∧ j < sb.length ∧ l < sb.length then _ else _) = _
      rw [if_pos hb]
  obtain ⟨o, h1, h2⟩ := hr (σ, x) _ v r3 q
  refine ⟨o, ?_, h2⟩
  rw [cons_nx (s1 := sc), h1]
  rw [VS.exec, e1, bd_some, e2, bd_some, h3]; rfl
theorem s_expr {rest : Ss} {f2 : S → Option A} (he : XE G pu Γ e k ea fa) (hr : SX G W Γ rest En f2) : SX G W Γ (.cons (.expr e) rest) En (fun σ => (fa σ).bind fun _ => f2 σ) := fun σ s v r q => by
  obtain ⟨x, q1, q⟩ := Option.bind_eq_some_iff.mp q
  obtain ⟨ra, s1, e1, r1, p1, v1⟩ := he σ s x r q1
  obtain ⟨o, h1, h2⟩ := hr σ s1 v r1 q
  refine ⟨o, ?_, h2⟩
  rw [cons_nx (s1 := s1), h1]
  rw [VS.exec, e1, bd_some]
/-- x += e, x -= e: whole numbers -/
def augI : Bop → Int → Int → Int
  | .add, a, b => a + b
  | _, a, b => a - b
theorem s_aug {o : Bop} {i : Nat} {sh : Sh} {rest : Ss} {g : S → Int} {fi : S → Option Int} {f2 : S × Int → Option A} (ho : o = .add ∨ o = .sub) (hg : ∀ σ, (Γ σ)[i]? = some (some (sh, eI (g σ)))) (he : XE G true Γ e k eI fi) (hr : SX G W (fun p : S × Int => (Γ p.1).set i (some (.fl, eI p.2))) rest En f2) :
    SX G W Γ (.cons (.aug i o e) rest) En (fun σ => (fi σ).bind fun v => f2 (σ, augI o (g σ) v)) := fun σ s v r q => by
  obtain ⟨x, q1, q⟩ := Option.bind_eq_some_iff.mp q
  obtain ⟨ra, s1, e1, r1, p1, v1⟩ := he σ s x r q1
  have := p1 rfl
  subst this
  obtain ⟨m, h3, h4, h5⟩ := r1.get (hg σ)
  have r3 := r1.set (i := i) (m := .fz (.int (augI o (g σ) x))) (sh := .fl) (d := eI (augI o (g σ) x)) rfl (ok_fl (lfI _))
  obtain ⟨o', h1, h2⟩ := hr (σ, augI o (g σ) x) _ v r3 q
  refine ⟨o', ?_, h2⟩
  rw [cons_nx (s1 := s1.set i (some (.fz (.int (augI o (g σ) x))))), h1]
  rw [VS.exec, gv_at, h3]
  show (bd (VS.ev G e s1) fun r s1 => (toV s1 r).bind fun d => (augF o m.toD d).bind fun z => some (O.nx (s1.set i (some (.fz z))))) = _
  rw [e1, bd_some, toV_ok r1 v1, ob_some, h4]
  rcases ho with rfl | rfl <;> rfl
/-! if -/
def app : Ss → Ss → Ss
  | .nil, r => r
  | .cons s ss, r => .cons s (app ss r)
theorem app_nil (r : Ss) : app .nil r = r := by rw [app]
theorem app_cons (s : VS.S) (ss r : Ss) : app (.cons s ss) r = .cons s (app ss r) := by rw [app]
theorem execs_app : ∀ (a b : Ss) (s : Sl), VS.execs G W (app a b) s = (VS.execs G W a s).bind (seqO fun s1 => VS.execs G W b s1)
  | .nil, b, s => by
    rw [app_nil]
    have : VS.execs G W .nil s = some (.nx s) := by rw [VS.execs]
    rw [this]; rfl
  | .cons c cs, b, s => by
    rw [app_cons, execs_cons, execs_cons]
    cases VS.exec G W c s with
    | none => rfl
    | some o =>
      cases o with
      | nx s1 => exact execs_app cs b s1
      | bk s1 => rfl
      | ct s1 => rfl
      | rt m s1 => rfl
theorem s_if {t : Tst} {x y rest : Ss} {ft : S → Option Bool} {f g : S → Option A} (ht : XT G pu Γ t ft) (h1 : SX G W Γ (app x rest) En f) (h2 : SX G W Γ (app y rest) En g) :
    SX G W Γ (.cons (.ifs t x y) rest) En (fun σ => (ft σ).bind fun b => if b then f σ else g σ) := fun σ s v r q => by
  obtain ⟨b, q1, q⟩ := Option.bind_eq_some_iff.mp q
  obtain ⟨s1, e1, r1, p1⟩ := ht σ s b r q1
  rw [execs_cons, VS.exec, e1, bd_some]
  cases b with
  | true =>
    obtain ⟨o, h3, h4⟩ := h1 σ s1 v r1 q
    exact ⟨o, by rw [if_pos rfl, ← h3, execs_app], h4⟩
  | false =>
    obtain ⟨o, h3, h4⟩ := h2 σ s1 v r1 q
    exact ⟨o, by rw [if_neg Bool.false_ne_true, ← h3, execs_app], h4⟩
/-- if, where both branches go on -/
theorem s_ifJ {t : Tst} {x y rest : Ss} {ft : S → Option Bool} {Γl : S → T → Ctx} {fx fy : S → Option T} {f2 : S × T → Option A} (ht : XT G pu Γ t ft) (h1 : ∀ σ, SX G W (fun _ : Unit => Γ σ) x (EN (Γl σ)) (fun _ => fx σ)) (h2 : ∀ σ, SX G W (fun _ : Unit => Γ σ) y (EN (Γl σ)) (fun _ => fy σ)) (hr : SX G W (fun p : S × T => Γl p.1 p.2) rest En f2) :
    SX G W Γ (.cons (.ifs t x y) rest) En (fun σ => (ft σ).bind fun b => (if b then fx σ else fy σ).bind fun t => f2 (σ, t)) := fun σ s v r q => by
  obtain ⟨b, q1, q⟩ := Option.bind_eq_some_iff.mp q
  obtain ⟨tt, q2, q3⟩ := Option.bind_eq_some_iff.mp q
  obtain ⟨s1, e1, r1, p1⟩ := ht σ s b r q1
  cases b with
  | true =>
    rw [if_pos rfl] at q2
    obtain ⟨o, h3, s2, rfl, r2⟩ := h1 σ () s1 tt r1 q2
    obtain ⟨o, h4, h5⟩ := hr (σ, tt) s2 v r2 q3
    exact ⟨o, by rw [execs_cons, VS.exec, e1, bd_some, if_pos rfl, h3]; exact h4, h5⟩
  | false =>
    rw [if_neg Bool.false_ne_true] at q2
    obtain ⟨o, h3, s2, rfl, r2⟩ := h2 σ () s1 tt r1 q2
    obtain ⟨o, h4, h5⟩ := hr (σ, tt) s2 v r2 q3
    exact ⟨o, by rw [execs_cons, VS.exec, e1, bd_some, if_neg Bool.false_ne_true, h3]; exact h4, h5⟩
/-! return -/
def XR (G : VS.Env) (Γ : S → Ctx) (e : E) (ea : α → D) (sh : Sh) (f : S → Option α) (Γ' : S → Ctx) : Prop :=
  ∀ σ s v, Rl (Γ σ) s → f σ = some v → ∃ m s', evRet G e s = some (m, s') ∧ Rl (Γ' σ) s' ∧ m.toD = ea v ∧ sh.ok m
theorem r_var {i : Nat} {sh : Sh} {g : S → α} (h : ∀ σ, (Γ σ)[i]? = some (some (sh, ea (g σ)))) : XR G Γ (.var i) ea sh (fun σ => some (g σ)) (fun σ => (Γ σ).set i none) := fun σ s v r q => by
  cases q
  obtain ⟨m, h1, h2, h3⟩ := r.get (h σ)
  refine ⟨m, s.set i none, ?_, r.wipe, h2, h3⟩
  rw [evRet, gv_at, h1]; rfl
theorem r_e {sh : Sh} (he : XE G pu Γ e k ea fa) (hk : k.st = some sh) (hne : ∀ s, evRet G e s = bd (VS.ev G e s) fun r s1 => toS s1 r) : XR G Γ e ea sh fa Γ := fun σ s v r q => by
  obtain ⟨ra, s1, m, s2, e1, e2, r2, t2, o2⟩ := stored he hk r q
  exact ⟨m, s2, by rw [hne, e1, bd_some, e2], r2, t2, o2⟩
def XRs (G : VS.Env) (Γ : S → Ctx) (es : Es) (f : S → Option (List D)) (ss : List Sh) (Γ' : S → Ctx) : Prop :=
  ∀ σ s v, Rl (Γ σ) s → f σ = some v → ∃ ms s', evRets G es s = some (ms, s') ∧ Rl (Γ' σ) s' ∧ M.toDs ms = v ∧ Sh.oks ss ms
theorem rs_nil : XRs G Γ .nil (fun _ => some []) [] Γ := fun σ s v r q => by
  cases q
  exact ⟨[], s, by rw [evRets], r, rfl, by simp [Sh.oks]⟩
theorem rs_cons {es : Es} {Γ' Γ'' : S → Ctx} {sh : Sh} {ss : List Sh} {f : S → Option (List D)} (h : XR G Γ e ea sh fa Γ') (hr : XRs G Γ' es f ss Γ'') : XRs G Γ (.cons e es) (fun σ => (fa σ).bind fun x => (f σ).bind fun l => some (ea x :: l)) (sh :: ss) Γ'' := fun σ s v r q => by
  obtain ⟨x, q1, q⟩ := Option.bind_eq_some_iff.mp q
  obtain ⟨l, q2, q⟩ := Option.bind_eq_some_iff.mp q
  cases q
  obtain ⟨m, s1, e1, r1, t1, o1⟩ := h σ s x r q1
  obtain ⟨ms, s2, e2, r2, t2, o2⟩ := hr σ s1 l r1 q2
  exact ⟨m :: ms, s2, by rw [evRets, e1, bd_some, e2]; rfl, r2, by rw [toDs_cons, t1, t2], by simp only [Sh.oks]; exact ⟨o1, o2⟩⟩
theorem r_tup {es : Es} {Γ' : S → Ctx} {ss : List Sh} {f : S → Option (List D)} {g : S → Option α} (h : XRs G Γ es f ss Γ') (hn : ss.length ≤ 1000) (hg : ∀ σ v, g σ = some v → ∃ ds, f σ = some ds ∧ ea v = .tup ds) : XR G Γ (.tup es) ea (tupSh ss) g Γ' := fun σ s v r q => by
  obtain ⟨ds, q1, q2⟩ := hg σ v q
  obtain ⟨ms, s1, e1, r1, t1, o1⟩ := h σ s ds r q1
  refine ⟨mkTup ms, s1, ?_, r1, by rw [(mkTup_ok o1).2, t1, q2], (mkTup_ok o1).1⟩
  rw [evRet, e1, bd_some, if_pos (by rw [← oks_len o1]; exact Nat.le_trans hn (by decide))]
theorem s_ret {rest : Ss} {er : R → D} {sh s0 : Sh} {j : R → A} {f : S → Option R} {Γ' : S → Ctx} (hr : Rt En er sh j) (h : XR G Γ e er s0 f Γ') (hl : Sh.le s0 sh = true) : SX G W Γ (.cons (.ret e) rest) En (fun σ => (f σ).bind fun v => some (j v)) := fun σ s a r q => by
  obtain ⟨v, q1, q⟩ := Option.bind_eq_some_iff.mp q
  cases q
  obtain ⟨m, s', e1, r1, t1, o1⟩ := h σ s v r q1
  refine ⟨.rt (retv e) m s', ?_, hr v _ ⟨_, m, s', rfl, t1, Sh.ok_le hl o1⟩⟩
  rw [execs_cons, VS.exec, e1]; rfl
end VT
end

section
/-! VT: stores into lists. -/
namespace VT
open PySem VS L2
variable {S α β γ δ A T R : Type} {G : VS.Env} {W : WL} {Γ : S → Ctx} {pu pa pb pc : Bool} {a b c e : E} {k ka kb kc : K} {ea : α → D} {eb : β → D} {ec : γ → D} {fa : S → Option α} {fb : S → Option β} {fc : S → Option γ} {En : A → O → Prop}

noncomputable def push {α : Type} (l : List α) (x : α) : Option (List α) := lk (if l.length < sizeLine then some (l ++ [x]) else none)
theorem push_def {α : Type} (l : List α) (x : α) : push l x = (if l.length < sizeLine then some (l ++ [x]) else none) := lk_eq _
noncomputable def putL {α : Type} (l : List α) (i : Int) (x : α) : Option (List α) := lk ((ixN l.length i).map fun j => l.set j x)
theorem putL_def {α : Type} (l : List α) (i : Int) (x : α) : putL l i x = ((ixN l.length i).map fun j => l.set j x) := lk_eq _
/-- the shape of what is put in -/
def PutSh (deep : Bool) (ea : α → D) (sh s0 : Sh) : Prop := (deep = true ∧ Sh.le sh s0 = true) ∨ (deep = false ∧ FSh ea s0)
theorem putz {sh : Sh} : PutSh false ea sh .fz := .inr ⟨rfl, fshz⟩
theorem putl {sh : Sh} (h : LF ea) : PutSh false ea sh .fl := .inr ⟨rfl, fshl h⟩
theorem putd {sh s0 : Sh} (h : Sh.le sh s0 = true) : PutSh true ea sh s0 := .inl ⟨rfl, h⟩
theorem PutSh.ok {deep : Bool} {sh s0 : Sh} (h : PutSh deep ea sh s0) {m : M} {v : α} (e : m.toD = ea v) (o : sh.ok m) : s0.ok (finE deep m) ∧ (finE deep m).toD = ea v := by
  rcases h with ⟨rfl, h⟩ | ⟨rfl, h⟩
  · exact ⟨Sh.ok_le h o, e⟩
  · refine ⟨?_, e⟩
    show s0.ok (.fz m.toD)
    rw [e]
    exact h.ok v
/-- a place that may be changed: a slot's list, or an item of a slot's list -/
def LV (G : VS.Env) (Γ : S → Ctx) (a : E) (i : Nat) (s0 : Sh) (ea : α → D) (g : S → Option (List α)) (put : S → List α → Option (Sh × D)) : Prop := True
theorem lst_get {c : Ctx} {s : Sl} (r : Rl c s) {i : Nat} {s0 : Sh} {l : List α} (h : c[i]? = some (some (.lst s0, eL ea l))) : ∃ ms, s[i]? = some (some (.lst ms)) ∧ M.toDs ms = l.map ea ∧ ∀ x ∈ ms, s0.ok x := by
  obtain ⟨m, h1, h2, h3⟩ := r.get h
  simp only [Sh.ok] at h3
  obtain ⟨ms, rfl, h3⟩ := h3
  injection h2 with h2
  exact ⟨ms, h1, h2, h3⟩
theorem toDs_len {ms : List M} {l : List α} (h : M.toDs ms = l.map ea) : ms.length = l.length := by
  have := congrArg List.length h
  rwa [toDs_map, List.length_map, List.length_map] at this
theorem toDs_app (a b : List M) : M.toDs (a ++ b) = M.toDs a ++ M.toDs b := by
  rw [toDs_map, toDs_map, toDs_map, List.map_append]
theorem s_app {deep : Bool} {i : Nat} {s0 sh : Sh} {rest : Ss} {g : S → List α} {f2 : S × List α → Option A} (hg : ∀ σ, (Γ σ)[i]? = some (some (.lst s0, eL ea (g σ)))) (he : XE G pu Γ e k ea fa) (hk : k.st = some sh) (hp : PutSh deep ea sh s0) (hr : SX G W (fun p : S × List α => (Γ p.1).set i (some (.lst s0, eL ea p.2))) rest En f2) :
    SX G W Γ (.cons (.app deep (.var i) e) rest) En (fun σ => (fa σ).bind fun v => (push (g σ) v).bind fun l => f2 (σ, l)) := fun σ s v r q => by
  obtain ⟨x, q1, q⟩ := Option.bind_eq_some_iff.mp q
  obtain ⟨l, q2, q⟩ := Option.bind_eq_some_iff.mp q
  rw [push_def] at q2
  obtain ⟨hn, q2⟩ := of_ite q2
  cases q2
  obtain ⟨ms0, h0, _, _⟩ := lst_get r (hg σ)
  obtain ⟨ra, s1, m, s2, e1, e2, r2, t2, o2⟩ := stored he hk r q1
  obtain ⟨ms, h1, h2, h3⟩ := lst_get r2 (hg σ)
  have hl : ms.length < sizeLine := by rw [toDs_len h2]; exact hn
  have po := hp.ok t2 o2
  have r3 := r2.set (i := i) (m := .lst (ms ++ [finE deep m])) (sh := .lst s0) (d := eL ea (g σ ++ [x])) (by
    show D.lst (M.toDs _) = D.lst _
    rw [toDs_app, h2, toDs_cons, po.2, List.map_append]; rfl) (by
    simp only [Sh.ok]
    refine ⟨_, rfl, fun y hy => ?_⟩
    rcases List.mem_append.mp hy with hy | hy
    · exact h3 y hy
    · rw [List.mem_singleton] at hy
      subst hy
      exact po.1)
  obtain ⟨o, h4, h5⟩ := hr (σ, g σ ++ [x]) _ v r3 q
  refine ⟨o, ?_, h5⟩
  rw [cons_nx (s1 := s2.set i (some (.lst (ms ++ [finE deep m])))), h4]
  rw [VS.exec, ev_var h0]
  show (plL s (.pl ⟨i, []⟩)).bind (fun p => bd (VS.ev G e s) fun r s2 => bd (toS s2 r) fun m s3 => (updP s3 p (M.push (finE deep m))).map O.nx) = _
  rw [plL_at, h0]
  show bd (VS.ev G e s) (fun r s2 => bd (toS s2 r) fun m s3 => (updP s3 ⟨i, []⟩ (M.push (finE deep m))).map O.nx) = _
  rw [e1, bd_some, e2, bd_some, updP_at, h1]
  show (Option.map _ (M.push (finE deep m) (.lst ms))).map O.nx = _
  rw [push_ok hl]; rfl
/-- .. of an own list of one's own: it is frozen -/
theorem s_appV {i j : Nat} {s0 sh : Sh} {rest : Ss} {g : S → List α} {g2 : S → α} {f2 : S × List α → Option A} (hij : i ≠ j) (hg : ∀ σ, (Γ σ)[i]? = some (some (.lst s0, eL ea (g σ)))) (hg2 : ∀ σ, (Γ σ)[j]? = some (some (sh, ea (g2 σ)))) (hp : FSh ea s0) (hr : SX G W (fun p : S × List α => ((Γ p.1).set j (some (.fz, ea (g2 p.1)))).set i (some (.lst s0, eL ea p.2))) rest En f2) :
    SX G W Γ (.cons (.app false (.var i) (.var j)) rest) En (fun σ => (push (g σ) (g2 σ)).bind fun l => f2 (σ, l)) := fun σ s v r q => by
  obtain ⟨l, q2, q⟩ := Option.bind_eq_some_iff.mp q
  rw [push_def] at q2
  obtain ⟨hn, q2⟩ := of_ite q2
  cases q2
  obtain ⟨ms0, h0, _, _⟩ := lst_get r (hg σ)
  obtain ⟨ra, s2, e1, e2, r2⟩ := stored_var (G := G) r (hg2 σ)
  obtain ⟨ms, h1, h2, h3⟩ := lst_get (ea := ea) (l := g σ) (s0 := s0) (i := i) r2 (by rw [List.getElem?_set_ne (Ne.symm hij)]; exact hg σ)
  have hl : ms.length < sizeLine := by rw [toDs_len h2]; exact hn
  have r3 := r2.set (i := i) (m := .lst (ms ++ [.fz (ea (g2 σ))])) (sh := .lst s0) (d := eL ea (g σ ++ [g2 σ])) (by
    show D.lst (M.toDs _) = D.lst _
    rw [toDs_app, h2, toDs_cons, List.map_append]; rfl) (by
    simp only [Sh.ok]
    refine ⟨_, rfl, fun y hy => ?_⟩
    rcases List.mem_append.mp hy with hy | hy
    · exact h3 y hy
    · rw [List.mem_singleton] at hy
      subst hy
      exact hp.ok _)
  obtain ⟨o, h4, h5⟩ := hr (σ, g σ ++ [g2 σ]) _ v r3 q
  refine ⟨o, ?_, h5⟩
  rw [cons_nx (s1 := s2.set i (some (.lst (ms ++ [.fz (ea (g2 σ))])))), h4]
  rw [VS.exec, ev_var h0]
  show (plL s (.pl ⟨i, []⟩)).bind (fun p => bd (VS.ev G (.var j) s) fun r s2 => bd (toS s2 r) fun m s3 => (updP s3 p (M.push (finE false m))).map O.nx) = _
  rw [plL_at, h0]
  show bd (VS.ev G (.var j) s) (fun r s2 => bd (toS s2 r) fun m s3 => (updP s3 ⟨i, []⟩ (M.push (finE false m))).map O.nx) = _
  rw [e1, bd_some, e2, bd_some, updP_at, h1]
  show (Option.map _ (M.push (.fz (ea (g2 σ))) (.lst ms))).map O.nx = _
  rw [push_ok hl]; rfl
theorem toDs_set (ms : List M) (j : Nat) (m : M) : M.toDs (ms.set j m) = (M.toDs ms).set j m.toD := by
  rw [toDs_map, toDs_map, List.map_set]
theorem mem_set {ms : List M} {j : Nat} {m y : M} (h : y ∈ ms.set j m) : y ∈ ms ∨ y = m := List.mem_or_eq_of_mem_set h
theorem s_put {deep : Bool} {i : Nat} {s0 sh : Sh} {rest : Ss} {g : S → List α} {fi : S → Option Int} {f2 : S × List α → Option A} (hg : ∀ σ, (Γ σ)[i]? = some (some (.lst s0, eL ea (g σ)))) (he : XE G pu Γ e k ea fa) (hk : k.st = some sh) (hp : PutSh deep ea sh s0) (hi : XE G true Γ b kb eI fi) (hr : SX G W (fun p : S × List α => (Γ p.1).set i (some (.lst s0, eL ea p.2))) rest En f2) :
    SX G W Γ (.cons (.setI deep (.var i) b e) rest) En (fun σ => (fa σ).bind fun v => (fi σ).bind fun n => (putL (g σ) n v).bind fun l => f2 (σ, l)) := fun σ s v r q => by
  obtain ⟨x, q1, q⟩ := Option.bind_eq_some_iff.mp q
  obtain ⟨n, q3, q⟩ := Option.bind_eq_some_iff.mp q
  obtain ⟨l, q2, q⟩ := Option.bind_eq_some_iff.mp q
  rw [putL_def] at q2
  obtain ⟨j, q4, q5⟩ := Option.map_eq_some_iff.mp q2
  subst q5
  obtain ⟨ra, s1, m, s2, e1, e2, r2, t2, o2⟩ := stored he hk r q1
  obtain ⟨ms, h1, h2, h3⟩ := lst_get r2 (hg σ)
  obtain ⟨ri, s3, e3, r3, p3, v3⟩ := hi σ s2 n r2 q3
  have := p3 rfl
  subst this
  have po := hp.ok t2 o2
  have r4 := r2.set (i := i) (m := .lst (ms.set j (finE deep m))) (sh := .lst s0) (d := eL ea ((g σ).set j x)) (by
    show D.lst (M.toDs _) = D.lst _
    rw [toDs_set, h2, po.2, List.map_set]) (by
    simp only [Sh.ok]
    refine ⟨_, rfl, fun y hy => ?_⟩
    rcases mem_set hy with hy | rfl
    · exact h3 y hy
    · exact po.1)
  obtain ⟨o, h4, h5⟩ := hr (σ, (g σ).set j x) _ v r4 q
  refine ⟨o, ?_, h5⟩
  rw [cons_nx (s1 := s3.set i (some (.lst (ms.set j (finE deep m))))), h4]
  rw [VS.exec, e1, bd_some, e2, bd_some, ev_var h1]
  show bd (VS.ev G b s3) (fun ri s4 => (pl? (Res.pl ⟨i, []⟩)).bind fun p => (toV s4 ri).bind fun di => (updP s4 p fun c => c.put di (finE deep m)).map O.nx) = _
  rw [e3, bd_some]
  show ((toV s3 ri).bind fun di => (updP s3 ⟨i, []⟩ fun c => c.put di (finE deep m)).map O.nx) = _
  rw [toV_ok r2 v3, ob_some, updP_at, h1]
  show (Option.map _ ((ixN ms.length n).map fun j => M.lst (ms.set j (finE deep m)))).map O.nx = _
  rw [toDs_len h2, q4]; rfl
/-- xs[i][j] = e, the rows owned -/
theorem s_put2 {deep : Bool} {i : Nat} {s0 sh : Sh} {rest : Ss} {g : S → List (List α)} {fi fj : S → Option Int} {f2 : S × List (List α) → Option A} (hg : ∀ σ, (Γ σ)[i]? = some (some (.lst (.lst s0), eL (eL ea) (g σ)))) (he : XE G pu Γ e k ea fa) (hk : k.st = some sh) (hp : PutSh deep ea sh s0) (hi : XE G true Γ b kb eI fi) (hj : XE G true Γ c kc eI fj) (hr : SX G W (fun p : S × List (List α) => (Γ p.1).set i (some (.lst (.lst s0), eL (eL ea) p.2))) rest En f2) :
    SX G W Γ (.cons (.setI deep (.sub (.var i) b) c e) rest) En (fun σ => (fa σ).bind fun v => (fi σ).bind fun m => (nth (g σ) m).bind fun row => (fj σ).bind fun n => (putL row n v).bind fun row' => (putL (g σ) m row').bind fun l => f2 (σ, l)) := fun σ s v r q => by
  obtain ⟨x, q1, q⟩ := Option.bind_eq_some_iff.mp q
  obtain ⟨n, q2, q⟩ := Option.bind_eq_some_iff.mp q
  obtain ⟨row, q3, q⟩ := Option.bind_eq_some_iff.mp q
  obtain ⟨n', q4, q⟩ := Option.bind_eq_some_iff.mp q
  obtain ⟨row', q5, q⟩ := Option.bind_eq_some_iff.mp q
  obtain ⟨l, q6, q⟩ := Option.bind_eq_some_iff.mp q
  rw [putL_def] at q5
  obtain ⟨j', q7, q8⟩ := Option.map_eq_some_iff.mp q5
  subst q8
  rw [putL_def] at q6
  obtain ⟨j, q9, q10⟩ := Option.map_eq_some_iff.mp q6
  subst q10
  obtain ⟨ra, s1, m, s2, e1, e2, r2, t2, o2⟩ := stored he hk r q1
  obtain ⟨ms, h1, h2, h3⟩ := lst_get r2 (hg σ)
  obtain ⟨ri, s3, e3, r3, p3, v3⟩ := hi σ s2 n r2 q2
  have := p3 rfl
  subst this
  obtain ⟨rj, s4, e4, r4, p4, v4⟩ := hj σ s3 n' r2 q4
  have := p4 rfl
  subst this
  have po := hp.ok t2 o2
  rw [nth_def] at q3
  have q3 : ((ixN (g σ).length n).bind fun j => (g σ)[j]?) = some row := q3
  rw [q9, ob_some] at q3
  have hrow : (M.toDs ms)[j]? = some (eL ea row) := by rw [h2, List.getElem?_map, q3]; rfl
  rw [toDs_map, List.getElem?_map] at hrow
  obtain ⟨mr, hm1, hm2⟩ := Option.map_eq_some_iff.mp hrow
  have hm3 := h3 mr (List.mem_of_getElem? hm1)
  simp only [Sh.ok] at hm3
  obtain ⟨ms', rfl, hm3⟩ := hm3
  have hm2 : M.toDs ms' = row.map ea := by injection hm2
  have r5 := r2.set (i := i) (m := .lst (ms.set j (.lst (ms'.set j' (finE deep m))))) (sh := .lst (.lst s0)) (d := eL (eL ea) ((g σ).set j (row.set j' x))) (by
    show D.lst (M.toDs _) = D.lst _
    rw [toDs_set, h2, List.map_set]
    show D.lst (((g σ).map (eL ea)).set j (.lst (M.toDs (ms'.set j' (finE deep m))))) = _
    rw [toDs_set, hm2, po.2, ← List.map_set]; rfl) (by
    simp only [Sh.ok]
    refine ⟨_, rfl, fun y hy => ?_⟩
    rcases mem_set hy with hy | rfl
    · have := h3 y hy
      simp only [Sh.ok] at this
      exact this
    · refine ⟨_, rfl, fun y hy => ?_⟩
      rcases mem_set hy with hy | rfl
      · exact hm3 y hy
      · exact po.1)
  obtain ⟨o, h4, h5⟩ := hr (σ, (g σ).set j (row.set j' x)) _ v r5 q
  refine ⟨o, ?_, h5⟩
  rw [cons_nx (s1 := s4.set i (some (.lst (ms.set j (.lst (ms'.set j' (finE deep m))))))), h4]
  have hg2 : getP s4 ⟨i, [.int n]⟩ = some (.lst ms') := by
    have := getP_snoc (s := s4) (i := i) (path := []) (m := .lst ms) (k := .int n) (by rw [getP_at, h1]; rfl)
    rw [show ([] ++ [D.int n] : List D) = [.int n] from rfl] at this
    rw [this]
    show L2.atI ms n = _
    unfold L2.atI
    rw [toDs_len h2, q9]; exact hm1
  have hsub : VS.ev G (.sub (.var i) b) s4 = some (.pl ⟨i, [.int n]⟩, s4) := by
    rw [VS.ev, ev_var h1]
    show bd (VS.ev G b s4) (fun ri s2 => evSub s2 (.pl ⟨i, []⟩) ri) = _
    rw [e3, bd_some, evSub_pl (di := .non) (toV_ok r2 v3), look_G, show (([] : List D) ++ [D.int n]) = [.int n] from rfl, hg2]; rfl
  rw [VS.exec, e1, bd_some, e2, bd_some, hsub, bd_some, e4, bd_some]
  show ((toV s4 rj).bind fun di => (updP s4 ⟨i, [.int n]⟩ fun c => c.put di (finE deep m)).map O.nx) = _
  rw [toV_ok r2 v4, ob_some]
  have hu : updP s4 ⟨i, [.int n]⟩ (fun c => c.put (.int n') (finE deep m)) = some (s4.set i (some (.lst (ms.set j (.lst (ms'.set j' (finE deep m))))))) := by
    show (match s4[i]? with
      | some (some m0) => (M.upd (fun c => c.put (.int n') (finE deep m)) [.int n] m0).map fun m' => s4.set i (some m')
      | _ => none) = _
    rw [h1]
    show ((ixN ms.length n).bind fun j => (ms[j]?).bind fun x => (M.upd (fun c => c.put (.int n') (finE deep m)) [] x).map fun x' => M.lst (ms.set j x')).map _ = _
    rw [toDs_len h2, q9, ob_some, hm1, ob_some, M.upd]
    show (((((ixN ms'.length n').map fun j => M.lst (ms'.set j (finE deep m))) : Option M).map fun x' => M.lst (ms.set j x')).map _) = _
    rw [toDs_len hm2, q7]; rfl
  show (updP s4 ⟨i, [.int n]⟩ fun c => c.put (.int n') (finE deep m)).map O.nx = _
  rw [hu]; rfl
/-- xs[i].append(e), the rows owned -/
theorem s_app2 {deep : Bool} {i : Nat} {s0 sh : Sh} {rest : Ss} {g : S → List (List α)} {fi : S → Option Int} {f2 : S × List (List α) → Option A} (hg : ∀ σ, (Γ σ)[i]? = some (some (.lst (.lst s0), eL (eL ea) (g σ)))) (hi : XE G true Γ b kb eI fi) (he : XE G true Γ e k ea fa) (hk : ∃ sh, k = .m sh) (hk' : k.st = some sh) (hp : PutSh deep ea sh s0) (hr : SX G W (fun p : S × List (List α) => (Γ p.1).set i (some (.lst (.lst s0), eL (eL ea) p.2))) rest En f2) :
    SX G W Γ (.cons (.app deep (.sub (.var i) b) e) rest) En (fun σ => (fi σ).bind fun m => (nth (g σ) m).bind fun row => (fa σ).bind fun v => (push row v).bind fun row' => (putL (g σ) m row').bind fun l => f2 (σ, l)) := fun σ s v r q => by
  obtain ⟨n, q2, q⟩ := Option.bind_eq_some_iff.mp q
  obtain ⟨row, q3, q⟩ := Option.bind_eq_some_iff.mp q
  obtain ⟨x, q1, q⟩ := Option.bind_eq_some_iff.mp q
  obtain ⟨row', q5, q⟩ := Option.bind_eq_some_iff.mp q
  obtain ⟨l, q6, q⟩ := Option.bind_eq_some_iff.mp q
  rw [push_def] at q5
  obtain ⟨hn, q5⟩ := of_ite q5
  cases q5
  rw [putL_def] at q6
  obtain ⟨j, q9, q10⟩ := Option.map_eq_some_iff.mp q6
  subst q10
  obtain ⟨ms, h1, h2, h3⟩ := lst_get r (hg σ)
  obtain ⟨ri, s3, e3, r3, p3, v3⟩ := hi σ s n r q2
  have := p3 rfl
  subst this
  obtain ⟨ra, s1, e1, r1, p1, v1⟩ := he σ s3 x r q1
  have := p1 rfl
  subst this
  obtain ⟨m, s2, e2, r2, t2, o2, p2⟩ := toS_ok r v1 hk'
  have := p2 hk
  subst this
  have po := hp.ok t2 o2
  rw [nth_def] at q3
  have q3 : ((ixN (g σ).length n).bind fun j => (g σ)[j]?) = some row := q3
  rw [q9, ob_some] at q3
  have hrow : (M.toDs ms)[j]? = some (eL ea row) := by rw [h2, List.getElem?_map, q3]; rfl
  rw [toDs_map, List.getElem?_map] at hrow
  obtain ⟨mr, hm1, hm2⟩ := Option.map_eq_some_iff.mp hrow
  have hm3 := h3 mr (List.mem_of_getElem? hm1)
  simp only [Sh.ok] at hm3
  obtain ⟨ms', rfl, hm3⟩ := hm3
  have hm2 : M.toDs ms' = row.map ea := by injection hm2
  have hl : ms'.length < sizeLine := by rw [toDs_len hm2]; exact hn
  have r5 := r.set (i := i) (m := .lst (ms.set j (.lst (ms' ++ [finE deep m])))) (sh := .lst (.lst s0)) (d := eL (eL ea) ((g σ).set j (row ++ [x]))) (by
    show D.lst (M.toDs _) = D.lst _
    rw [toDs_set, h2, List.map_set]
    show D.lst (((g σ).map (eL ea)).set j (.lst (M.toDs (ms' ++ [finE deep m])))) = _
    rw [toDs_app, hm2, toDs_cons, po.2]
    show _ = D.lst (((g σ).map (eL ea)).set j (.lst ((row ++ [x]).map ea)))
    rw [List.map_append]; rfl) (by
    simp only [Sh.ok]
    refine ⟨_, rfl, fun y hy => ?_⟩
    rcases mem_set hy with hy | rfl
    · have := h3 y hy
      simp only [Sh.ok] at this
      exact this
    · refine ⟨_, rfl, fun y hy => ?_⟩
      rcases List.mem_append.mp hy with hy | hy
      · exact hm3 y hy
      · rw [List.mem_singleton] at hy
        subst hy
        exact po.1)
  obtain ⟨o, h4, h5⟩ := hr (σ, (g σ).set j (row ++ [x])) _ v r5 q
  refine ⟨o, ?_, h5⟩
  rw [cons_nx (s1 := s2.set i (some (.lst (ms.set j (.lst (ms' ++ [finE deep m])))))), h4]
  have hg2 : getP s2 ⟨i, [.int n]⟩ = some (.lst ms') := by
    have := getP_snoc (s := s2) (i := i) (path := []) (m := .lst ms) (k := .int n) (by rw [getP_at, h1]; rfl)
    rw [show ([] ++ [D.int n] : List D) = [.int n] from rfl] at this
    rw [this]
    show L2.atI ms n = _
    unfold L2.atI
    rw [toDs_len h2, q9]; exact hm1
  have hsub : VS.ev G (.sub (.var i) b) s2 = some (.pl ⟨i, [.int n]⟩, s2) := by
    rw [VS.ev, ev_var h1]
    show bd (VS.ev G b s2) (fun ri s2 => evSub s2 (.pl ⟨i, []⟩) ri) = _
    rw [e3, bd_some, evSub_pl (di := .non) (toV_ok r v3), look_G, show (([] : List D) ++ [D.int n]) = [.int n] from rfl, hg2]; rfl
  rw [VS.exec, hsub, bd_some]
  have hpl : plL s2 (.pl ⟨i, [.int n]⟩) = some ⟨i, [.int n]⟩ := by
    show (match getP s2 ⟨i, [.int n]⟩ with
      | some (.lst _) => some (⟨i, [.int n]⟩ : Pl)
      | _ => none) = _
    rw [hg2]
  rw [hpl, ob_some, e1, bd_some, e2, bd_some]
  have hu : updP s2 ⟨i, [.int n]⟩ (M.push (finE deep m)) = some (s2.set i (some (.lst (ms.set j (.lst (ms' ++ [finE deep m])))))) := by
    show (match s2[i]? with
      | some (some m0) => (M.upd (M.push (finE deep m)) [.int n] m0).map fun m' => s2.set i (some m')
      | _ => none) = _
    rw [h1]
    show ((ixN ms.length n).bind fun j => (ms[j]?).bind fun x => (M.upd (M.push (finE deep m)) [] x).map fun x' => M.lst (ms.set j x')).map _ = _
    rw [toDs_len h2, q9, ob_some, hm1, ob_some, M.upd, push_ok hl]; rfl
  rw [hu]; rfl
noncomputable def extL {α : Type} (l r : List α) : Option (List α) := lk (if l.length + r.length ≤ sizeLine then some (l ++ r) else none)
theorem extL_def {α : Type} (l r : List α) : extL l r = (if l.length + r.length ≤ sizeLine then some (l ++ r) else none) := lk_eq _
theorem s_ext {i : Nat} {s0 : Sh} {rest : Ss} {g : S → List α} {fl : S → Option (List α)} {f2 : S × List α → Option A} (hg : ∀ σ, (Γ σ)[i]? = some (some (.lst s0, eL ea (g σ)))) (he : XE G pu Γ e k (eL ea) fl) (hk : k.ct = true) (hp : FSh ea s0) (hr : SX G W (fun p : S × List α => (Γ p.1).set i (some (.lst s0, eL ea p.2))) rest En f2) :
    SX G W Γ (.cons (.ext (.var i) e) rest) En (fun σ => (fl σ).bind fun v => (extL (g σ) v).bind fun l => f2 (σ, l)) := fun σ s v r q => by
  obtain ⟨x, q1, q⟩ := Option.bind_eq_some_iff.mp q
  obtain ⟨l, q2, q⟩ := Option.bind_eq_some_iff.mp q
  rw [extL_def] at q2
  obtain ⟨hn, q2⟩ := of_ite q2
  cases q2
  obtain ⟨ms0, h0, _, _⟩ := lst_get r (hg σ)
  obtain ⟨ra, s1, e1, r1, p1, v1⟩ := he σ s x r q1
  obtain ⟨s2, e2, r2, _⟩ := toC_ok r1 v1 hk (ds := x.map ea) rfl
  obtain ⟨ms, h1, h2, h3⟩ := lst_get r2 (hg σ)
  have r3 := r2.set (i := i) (m := .lst (ms ++ (x.map ea).map .fz)) (sh := .lst s0) (d := eL ea (g σ ++ x)) (by
    show D.lst (M.toDs _) = D.lst _
    rw [toDs_app, h2, toDs_fz, List.map_append]) (by
    simp only [Sh.ok]
    refine ⟨_, rfl, fun y hy => ?_⟩
    rcases List.mem_append.mp hy with hy | hy
    · exact h3 y hy
    · obtain ⟨d, hd, rfl⟩ := List.mem_map.mp hy
      obtain ⟨z, _, rfl⟩ := List.mem_map.mp hd
      exact hp.ok z)
  obtain ⟨o, h4, h5⟩ := hr (σ, g σ ++ x) _ v r3 q
  refine ⟨o, ?_, h5⟩
  rw [cons_nx (s1 := s2.set i (some (.lst (ms ++ (x.map ea).map .fz)))), h4]
  rw [VS.exec, ev_var h0]
  show (plL s (.pl ⟨i, []⟩)).bind (fun p => bd (VS.ev G e s) fun r s2 => (toV s2 r).bind fun d => if isLd d then bd (toC s2 r) fun ds s3 => (updP s3 p (M.pushAll (ds.map .fz))).map O.nx else none) = _
  rw [plL_at, h0]
  show bd (VS.ev G e s) (fun r s2 => (toV s2 r).bind fun d => if isLd d then bd (toC s2 r) fun ds s3 => (updP s3 ⟨i, []⟩ (M.pushAll (ds.map .fz))).map O.nx else none) = _
  rw [e1, bd_some, toV_ok r1 v1, ob_some]
  show bd (toC s1 ra) (fun ds s3 => (updP s3 ⟨i, []⟩ (M.pushAll (ds.map .fz))).map O.nx) = _
  rw [e2, bd_some, updP_at, h1]
  show (Option.map _ (if ms.length + ((x.map ea).map M.fz).length ≤ sizeLine then some (M.lst (ms ++ (x.map ea).map .fz)) else none)).map O.nx = _
  rw [if_pos (by rw [toDs_len h2, List.length_map, List.length_map]; exact hn)]; rfl
noncomputable def dropL {α : Type} (l : List α) : Option (List α) := lk (if l.isEmpty then none else some l.dropLast)
theorem dropL_def {α : Type} (l : List α) : dropL l = (if l.isEmpty then none else some l.dropLast) := lk_eq _
theorem s_pop {i : Nat} {s0 : Sh} {rest : Ss} {g : S → List α} {f2 : S × List α → Option A} (hg : ∀ σ, (Γ σ)[i]? = some (some (.lst s0, eL ea (g σ)))) (hr : SX G W (fun p : S × List α => (Γ p.1).set i (some (.lst s0, eL ea p.2))) rest En f2) :
    SX G W Γ (.cons (.pop (.var i)) rest) En (fun σ => (dropL (g σ)).bind fun l => f2 (σ, l)) := fun σ s v r q => by
  obtain ⟨l, q2, q⟩ := Option.bind_eq_some_iff.mp q
  rw [dropL_def] at q2
  cases hl : (g σ).isEmpty with
  | true => rw [hl, if_pos rfl] at q2; cases q2
  | false =>
    rw [hl, if_neg Bool.false_ne_true] at q2
    cases q2
    obtain ⟨ms, h1, h2, h3⟩ := lst_get r (hg σ)
    have r3 := r.set (i := i) (m := .lst ms.dropLast) (sh := .lst s0) (d := eL ea (g σ).dropLast) (by
      show D.lst (M.toDs _) = D.lst _
      rw [toDs_map, List.map_dropLast, ← toDs_map, h2, ← List.map_dropLast]) (by
      simp only [Sh.ok]
      exact ⟨_, rfl, fun y hy => h3 y ((List.dropLast_sublist ms).subset hy)⟩)
    obtain ⟨o, h4, h5⟩ := hr (σ, (g σ).dropLast) _ v r3 q
    refine ⟨o, ?_, h5⟩
    rw [cons_nx (s1 := s.set i (some (.lst ms.dropLast))), h4]
    have he : ms.isEmpty = false := by
      have := toDs_len h2
      cases ms with
      | nil => rw [List.length_nil] at this; rw [List.isEmpty_iff_length_eq_zero.mpr this.symm] at hl; cases hl
      | cons _ _ => rfl
    rw [VS.exec, ev_var h1]
    show (plL s (.pl ⟨i, []⟩)).bind (fun p => (updP s p M.drop).map O.nx) = _
    rw [plL_at, h1]
    show (updP s ⟨i, []⟩ M.drop).map O.nx = _
    rw [updP_at, h1]
    show (Option.map _ (if ms.isEmpty = true then none else some (M.lst ms.dropLast))).map O.nx = _
    rw [he]; rfl
end VT
end

section
/-! VT: loops. -/
namespace VT
open PySem VS L2
variable {S α β γ δ A T R : Type} {G : VS.Env} {W : WL} {Γ : S → Ctx} {pu pa pb pc : Bool} {a b c e : E} {k ka kb kc : K} {ea : α → D} {eb : β → D} {ec : γ → D} {fa : S → Option α} {fb : S → Option β} {fc : S → Option γ} {En : A → O → Prop}

def XIL (G : VS.Env) (Γ : S → Ctx) (hid : Nat → Bool) (it : VS.It) (ea : α → D) (f : S → Option (List α)) (Γ1 : S → Ctx) (Rs : S → Ctx → Ctx) : Prop :=
  ∀ σ s v, Rl (Γ σ) s → f σ = some v → ∃ s1 h, evItL G hid it s = some ((v.map ea, h), s1) ∧ Rl (Γ1 σ) s1 ∧ ∀ c s', Rl c s' → Rl (Rs σ c) (unhide h s')
theorem il_m {hid : Nat → Bool} {sh : Sh} {fa : S → Option (List α)} (h : XE G pu Γ e (.m sh) (eL ea) fa) : XIL G Γ hid (.seq e) ea fa Γ (fun _ c => c) := fun σ s v r q => by
  obtain ⟨ra, s1, e1, r1, p1, m, rfl, t1, o1⟩ := h σ s v r q
  refine ⟨s1, none, ?_, r1, fun c s' h => h⟩
  rw [evItL, e1, bd_some]
  show (m.toD.items).map _ = _
  rw [t1]; rfl
theorem il_mV {hid : Nat → Bool} {sh : Sh} {fa : S → Option (List α)} (h : XE G pu Γ e (.m sh) (eV ea) fa) : XIL G Γ hid (.seq e) ea fa Γ (fun _ c => c) := fun σ s v r q => by
  obtain ⟨ra, s1, e1, r1, p1, m, rfl, t1, o1⟩ := h σ s v r q
  refine ⟨s1, none, ?_, r1, fun c s' h => h⟩
  rw [evItL, e1, bd_some]
  show (m.toD.items).map _ = _
  rw [t1]; rfl
theorem itR_pl (hid : Nat → Bool) (s : Sl) (p : Pl) {m : M} (h : getP s p = some m) : itR hid s (.pl p) = itPl hid s p m := by
  show (getP s p).bind _ = _
  rw [h]; rfl
theorem itPl_frz {hid : Nat → Bool} {s s' : Sl} {p : Pl} {m : M} {d : D} {ds : List D} (h : hid p.i = false) (hf : frzP s p = some (d, s')) (hi : d.items = some ds) : itPl hid s p m = some ((ds, none), s') := by
  cases m with
  | lst ms =>
    show (if (ms.all M.isD && hid p.i) = true then _ else (frzP s p).bind fun x => x.1.items.map fun ds => ((ds, none), x.2)) = _
    rw [if_neg (by rw [h, Bool.and_false]; exact Bool.false_ne_true), hf]
    show (d.items).map _ = _
    rw [hi]; rfl
  | fz _ => show ((frzP s p).bind fun x => x.1.items.map fun ds => ((ds, none), x.2)) = _; rw [hf]; show (d.items).map _ = _; rw [hi]; rfl
  | tup _ => show ((frzP s p).bind fun x => x.1.items.map fun ds => ((ds, none), x.2)) = _; rw [hf]; show (d.items).map _ = _; rw [hi]; rfl
  | ins _ _ => show ((frzP s p).bind fun x => x.1.items.map fun ds => ((ds, none), x.2)) = _; rw [hf]; show (d.items).map _ = _; rw [hi]; rfl
/-- over a name's list, which the body names, too: it is frozen -/
theorem il_frz {hid : Nat → Bool} {i : Nat} {sh : Sh} {g : S → List α} (hg : ∀ σ, (Γ σ)[i]? = some (some (sh, eL ea (g σ)))) (hh : hid i = false) : XIL G Γ hid (.seq (.var i)) ea (fun σ => some (g σ)) (fun σ => (Γ σ).set i (some (.fz, eL ea (g σ)))) (fun _ c => c) := fun σ s v r q => by
  cases q
  obtain ⟨m, h1, h2, h3⟩ := r.get (hg σ)
  obtain ⟨s', e1, r1⟩ := frz_own r (hg σ)
  have hgp : getP s ⟨i, []⟩ = some m := by rw [getP_at, h1]; rfl
  cases hm : m with
  | fz d0 =>
    subst hm
    refine ⟨s, none, ?_, ?_, fun c s' h => h⟩
    · rw [evItL, ev_var h1, bd_some]
      show (d0.items).map _ = _
      have h2 : d0 = eL ea (g σ) := h2
      rw [h2]; rfl
    · have := r.set (i := i) (m := .fz d0) (sh := .fz) (d := eL ea (g σ)) h2 (ok_fz _)
      rw [set_self h1] at this
      exact this
  | _ =>
    subst hm
    refine ⟨s', none, ?_, r1, fun c s' h => h⟩
    rw [evItL, ev_var h1, bd_some]
    show itR hid s (.pl ⟨i, []⟩) = _
    rw [itR_pl hid s _ hgp]
    exact itPl_frz hh e1 rfl
/-- over an own list that the body leaves alone -/
theorem il_own {hid : Nat → Bool} {i : Nat} {s0 : Sh} {g : S → List α} (hg : ∀ σ, (Γ σ)[i]? = some (some (.lst s0, eL ea (g σ)))) (hs : s0 = .fz ∨ s0 = .fl) (hh : hid i = true) (hi : ∀ σ, Nat.ble (i + 1) (Γ σ).length = true) :
    XIL G Γ hid (.seq (.var i)) ea (fun σ => some (g σ)) (fun σ => (Γ σ).set i none) (fun σ c => c.set i (some (.lst s0, eL ea (g σ)))) := fun σ s v r q => by
  cases q
  obtain ⟨m, h1, h2, h3⟩ := r.get (hg σ)
  have h3' := h3
  simp only [Sh.ok] at h3
  obtain ⟨ms, rfl, h3⟩ := h3
  have hgp : getP s ⟨i, []⟩ = some (.lst ms) := by rw [getP_at, h1]; rfl
  refine ⟨s.set i none, some (i, .lst ms), ?_, r.wipe, fun c s' h => h.set h2 h3'⟩
  rw [evItL, ev_var h1, bd_some]
  show itR hid s (.pl ⟨i, []⟩) = _
  rw [itR_pl hid s _ hgp]
  show (if (ms.all M.isD && hid i) = true then (gv s i).bind fun m => some ((M.toDs ms, some (i, m)), s.set i none) else _) = _
  rw [if_pos (by rw [isD_all hs h3, hh]; rfl), gv_at, h1]
  injection h2 with h2
  show some ((M.toDs ms, some (i, M.lst ms)), s.set i none) = _
  rw [h2]
theorem il_range1 {hid : Nat → Bool} {fi : S → Option Int} (h : XE G pa Γ a ka eI fi) : XIL G Γ hid (.range (.cons a .nil)) eI (fun σ => (fi σ).bind fun n => range1 n) Γ (fun _ c => c) := fun σ s v r q => by
  obtain ⟨x, q1, q⟩ := Option.bind_eq_some_iff.mp q
  rw [range1_def] at q
  obtain ⟨hn, q⟩ := of_ite q
  cases q
  obtain ⟨ra, s1, e1, r1, p1, v1⟩ := h σ s x r q1
  refine ⟨s1, none, ?_, r1, fun c s' h => h⟩
  rw [evItL]
  unfold VS.evs
  rw [e1, bd_some]
  unfold VS.evs
  rw [bd_some, bd_some, toVs_cons, toV_ok r1 v1, ob_some]
  show (rangeD [.int x]).map _ = _
  show (if small62 x = true then some (rangeL 0 x) else none).map _ = _
  rw [if_pos hn, ← rangeL_I]; rfl
theorem il_range2 {hid : Nat → Bool} {fi fj : S → Option Int} (ha : XE G pa Γ a ka eI fi) (hb : XE G pb Γ b kb eI fj) (hs : (pb || ka.stable) = true) : XIL G Γ hid (.range (.cons a (.cons b .nil))) eI (fun σ => (fi σ).bind fun x => (fj σ).bind fun y => range2 x y) Γ (fun _ c => c) := fun σ s v r q => by
  obtain ⟨x, y, ra, rb, s1, s2, q, e1, e2, r2, p2, v1, v2⟩ := two ha hb hs r q
  rw [range2_def] at q
  obtain ⟨hn, q⟩ := of_ite q
  cases q
  refine ⟨s2, none, ?_, r2, fun c s' h => h⟩
  rw [evItL]
  unfold VS.evs
  rw [e1, bd_some]
  unfold VS.evs
  rw [e2, bd_some]
  unfold VS.evs
  rw [bd_some, bd_some, bd_some, toVs_cons, toV_ok r2 v1, ob_some, toVs_cons, toV_ok r2 v2]
  show (if (small62 x && small62 y) = true then some (rangeL x y) else none).map _ = _
  rw [if_pos hn, ← rangeL_I]; rfl
theorem toF_ok {c : Ctx} {s : Sl} (h : Rl c s) {k : K} {r : Res} {d : D} {sh : Sh} (rv : RV c s k r d) (hk : k.st = some sh) : ∃ s', toF s r = some (d, s') ∧ Rl c s' := by
  obtain ⟨m, s', e1, r1, t1, _, _⟩ := toS_ok h rv hk
  exact ⟨s', by unfold toF; rw [e1, ← t1]; rfl, r1⟩
theorem il_enum {hid : Nat → Bool} {sh : Sh} {fa : S → Option (List α)} (h : XE G pu Γ e k (eL ea) fa) (hk : k.st = some sh) : XIL G Γ hid (.enum e) (eT2 eI ea) (fun σ => (fa σ).bind fun l => some (enumO l)) Γ (fun _ c => c) := fun σ s v r q => by
  obtain ⟨x, q1, q⟩ := Option.bind_eq_some_iff.mp q
  cases q
  obtain ⟨ra, s1, e1, r1, p1, v1⟩ := h σ s x r q1
  obtain ⟨s2, e2, r2⟩ := toF_ok r1 v1 hk
  refine ⟨s2, none, ?_, r2, fun c s' h => h⟩
  rw [evItL, e1, bd_some, e2, bd_some]
  show (if isLd (eL ea x) = true then (eL ea x).items.map _ else none) = _
  rw [if_pos (show isLd (eL ea x) = true from rfl)]
  show some ((enumL (x.map ea), none), s2) = _
  rw [enumL_O]
/-- enumerate of a name's own list: it is frozen -/
theorem il_enumV {hid : Nat → Bool} {i : Nat} {sh : Sh} {g : S → List α} (hg : ∀ σ, (Γ σ)[i]? = some (some (sh, eL ea (g σ)))) : XIL G Γ hid (.enum (.var i)) (eT2 eI ea) (fun σ => some (enumO (g σ))) (fun σ => (Γ σ).set i (some (.fz, eL ea (g σ)))) (fun _ c => c) := fun σ s v r q => by
  cases q
  obtain ⟨ra, s2, e1, e2, r2⟩ := stored_var (G := G) r (hg σ)
  refine ⟨s2, none, ?_, r2, fun c s' h => h⟩
  rw [evItL, e1, bd_some]
  have e3 : toF s ra = some (eL ea (g σ), s2) := by unfold toF; rw [e2]; rfl
  rw [e3, bd_some]
  show (if isLd (eL ea (g σ)) = true then (eL ea (g σ)).items.map _ else none) = _
  rw [if_pos (show isLd (eL ea (g σ)) = true from rfl)]
  show some ((enumL ((g σ).map ea), none), s2) = _
  rw [enumL_O]
theorem il_zip {hid : Nat → Bool} {sa sb : Sh} {fa : S → Option (List α)} {fb : S → Option (List β)} (ha : XE G pa Γ a ka (eL ea) fa) (hb : XE G pb Γ b kb (eL eb) fb) (hs : (pb || ka.stable) = true) (h1 : ka.st = some sa) (h2 : kb.st = some sb) (h3 : kb.stable = true) :
    XIL G Γ hid (.zip a b) (eT2 ea eb) (fun σ => (fa σ).bind fun x => (fb σ).bind fun y => some (x.zip y)) Γ (fun _ c => c) := fun σ s v r q => by
  obtain ⟨x, y, ra, rb, s1, s2, q, e1, e2, r2, p2, v1, v2⟩ := two ha hb hs r q
  cases q
  obtain ⟨s3, e3, r3⟩ := toF_ok r2 v1 h1
  obtain ⟨s4, e4, r4⟩ := toF_ok r3 (v2.stable (s' := s3) h3) h2
  refine ⟨s4, none, ?_, r4, fun c s' h => h⟩
  rw [evItL, e1, bd_some, e2, bd_some, e3, bd_some, e4, bd_some]
  show some ((zipL (x.map ea) (y.map eb), none), s4) = _
  rw [zipL_O]

/-! ### for -/
def forA (f : α → T → Option T) : List α → T → Option T
  | [], t => some t
  | x :: l, t => (f x t).bind fun t' => forA f l t'
def forB (f : α → T → Option (F T R)) : List α → T → Option (F T R)
  | [], t => some (.go t)
  | x :: l, t => (f x t).bind fun r => match r with
    | .go t' => forB f l t'
    | .brk t' => some (.brk t')
    | .ret v => some (.ret v)
def F.el {T R X : Type} (go : T → X) (ret : R → X) : F T R → X
  | .go t => go t
  | .brk t => go t
  | .ret v => ret v
theorem loopA {tg : VS.T} {f : Sl → Option O} {Γl : T → Ctx} {g : α → T → Option T} (body : ∀ t s v t', Rl (Γl t) s → g v t = some t' → ∃ s1 o, setT s tg (.fz (ea v)) = some s1 ∧ f s1 = some o ∧ EA Γl t' o) :
    ∀ (l : List α) (t : T) (s : Sl) (t' : T), Rl (Γl t) s → forA g l t = some t' → ∃ s', loopF tg f (l.map ea) s = some (.nx s') ∧ Rl (Γl t') s'
  | [], t, s, t', r, q => by cases q; exact ⟨s, rfl, r⟩
  | x :: l, t, s, t', r, q => by
    unfold forA at q
    obtain ⟨t1, q1, q⟩ := Option.bind_eq_some_iff.mp q
    obtain ⟨s1, o, e1, e2, s2, ho, r2⟩ := body t s x t1 r q1
    obtain ⟨s', e3, r3⟩ := loopA body l t1 s2 t' r2 q
    refine ⟨s', ?_, r3⟩
    rw [List.map_cons]
    unfold loopF
    rw [e1, ob_some, e2, ob_some]
    rcases ho with rfl | rfl <;> exact e3
theorem loopB {tg : VS.T} {f : Sl → Option O} {Γl : T → Ctx} {er : R → D} {sh : Sh} {g : α → T → Option (F T R)} (body : ∀ t s v t', Rl (Γl t) s → g v t = some t' → ∃ s1 o, setT s tg (.fz (ea v)) = some s1 ∧ f s1 = some o ∧ EF Γl er sh t' o) :
    ∀ (l : List α) (t : T) (s : Sl) (w : F T R), Rl (Γl t) s → forB g l t = some w → ∃ o, loopF tg f (l.map ea) s = some o ∧ (match w with | .go t' => ∃ s', o = .nx s' ∧ Rl (Γl t') s' | .brk t' => ∃ s', o = .nx s' ∧ Rl (Γl t') s' | .ret v => ER er sh v o)
  | [], t, s, w, r, q => by cases q; exact ⟨.nx s, rfl, s, rfl, r⟩
  | x :: l, t, s, w, r, q => by
    unfold forB at q
    obtain ⟨t1, q1, q⟩ := Option.bind_eq_some_iff.mp q
    obtain ⟨s1, o, e1, e2, ho⟩ := body t s x t1 r q1
    rw [List.map_cons]
    unfold loopF
    rw [e1, ob_some, e2, ob_some]
    cases t1 with
    | go t1 =>
      obtain ⟨s2, ho, r2⟩ := ho
      obtain ⟨o', e3, r3⟩ := loopB body l t1 s2 w r2 q
      refine ⟨o', ?_, r3⟩
      rcases ho with rfl | rfl <;> exact e3
    | brk t1 =>
      cases q
      obtain ⟨s2, rfl, r2⟩ := ho
      exact ⟨_, rfl, s2, rfl, r2⟩
    | ret v =>
      cases q
      obtain ⟨j, m, s2, rfl, h⟩ := ho
      exact ⟨_, rfl, j, m, s2, rfl, h⟩
theorem s_forA {n : Nat} {tg : VS.T} {it : VS.It} {b rest : Ss} {fi : S → Option (List α)} {Γ1 : S → Ctx} {Rs : S → Ctx → Ctx} {Γl : S → T → Ctx} {u : Ctx → α → Ctx} {t0 : S → T} {body : S → T × α → Option T} {f2 : S × T → Option A}
    (hi : XIL G Γ (fun i => !(tg.ment i || b.ment i)) it ea fi Γ1 Rs) (ht : TgOk n tg ea u) (hn : ∀ σ t, (Γl σ t).length = n) (l0 : ∀ σ, Ctx.le (Γl σ (t0 σ)) (Γ1 σ))
    (hb : ∀ σ, SX G W (fun p : T × α => u (Γl σ p.1) p.2) b (EA (Γl σ)) (body σ)) (hr : SX G W (fun p : S × T => Rs p.1 (Γl p.1 p.2)) rest En f2) :
    SX G W Γ (.cons (.for_ tg it b) rest) En (fun σ => (fi σ).bind fun l => (forA (fun x t => body σ (t, x)) l (t0 σ)).bind fun t => f2 (σ, t)) := fun σ s v r q => by
  obtain ⟨l, q1, q⟩ := Option.bind_eq_some_iff.mp q
  obtain ⟨t', q2, q⟩ := Option.bind_eq_some_iff.mp q
  obtain ⟨s1, h, e1, r1, hh⟩ := hi σ s l r q1
  obtain ⟨s', e2, r2⟩ := loopA (tg := tg) (f := fun s => VS.execs G W b s) (Γl := Γl σ) (g := fun x t => body σ (t, x)) (ea := ea) (fun t s v t1 rt qt => by
    obtain ⟨s1, a1, a2⟩ := ht (Γl σ t) s v (hn σ t) rt
    obtain ⟨o, b1, b2⟩ := hb σ (t, v) s1 t1 a2 qt
    exact ⟨s1, o, a1, b1, b2⟩) l (t0 σ) s1 t' (r1.weak (l0 σ)) q2
  obtain ⟨o, h1, h2⟩ := hr (σ, t') _ v (hh _ _ r2) q
  refine ⟨o, ?_, h2⟩
  rw [cons_nx (s1 := unhide h s'), h1]
  rw [VS.exec, e1, bd_some, e2]; rfl
theorem s_forB {n : Nat} {tg : VS.T} {it : VS.It} {b rest : Ss} {er : R → D} {sh : Sh} {j : R → A} {fi : S → Option (List α)} {Γ1 : S → Ctx} {Rs : S → Ctx → Ctx} {Γl : S → T → Ctx} {u : Ctx → α → Ctx} {t0 : S → T} {body : S → T × α → Option (F T R)} {f2 : S × T → Option A}
    (hj : Rt En er sh j) (hi : XIL G Γ (fun i => !(tg.ment i || b.ment i)) it ea fi Γ1 Rs) (ht : TgOk n tg ea u) (hn : ∀ σ t, (Γl σ t).length = n) (l0 : ∀ σ, Ctx.le (Γl σ (t0 σ)) (Γ1 σ))
    (hb : ∀ σ, SX G W (fun p : T × α => u (Γl σ p.1) p.2) b (EF (Γl σ) er sh) (body σ)) (hr : SX G W (fun p : S × T => Rs p.1 (Γl p.1 p.2)) rest En f2) :
    SX G W Γ (.cons (.for_ tg it b) rest) En (fun σ => (fi σ).bind fun l => (forB (fun x t => body σ (t, x)) l (t0 σ)).bind fun r => r.el (fun t => f2 (σ, t)) (fun v => some (j v))) := fun σ s v r q => by
  obtain ⟨l, q1, q⟩ := Option.bind_eq_some_iff.mp q
  obtain ⟨w, q2, q⟩ := Option.bind_eq_some_iff.mp q
  obtain ⟨s1, h, e1, r1, hh⟩ := hi σ s l r q1
  obtain ⟨o1, e2, r2⟩ := loopB (tg := tg) (f := fun s => VS.execs G W b s) (Γl := Γl σ) (er := er) (sh := sh) (g := fun x t => body σ (t, x)) (ea := ea) (fun t s v t1 rt qt => by
    obtain ⟨s1, a1, a2⟩ := ht (Γl σ t) s v (hn σ t) rt
    obtain ⟨o, b1, b2⟩ := hb σ (t, v) s1 t1 a2 qt
    exact ⟨s1, o, a1, b1, b2⟩) l (t0 σ) s1 w (r1.weak (l0 σ)) q2
  have key : ∀ o, loopF tg (fun s => VS.execs G W b s) (l.map ea) s1 = some o → VS.execs G W (.cons (.for_ tg it b) rest) s = seqO (fun s1 => VS.execs G W rest s1) (o.map (unhide h)) := fun o ho => by
    rw [execs_cons, VS.exec, e1, bd_some, ho]; rfl
  rw [key o1 e2]
  cases w with
  | go t =>
    obtain ⟨s', rfl, r3⟩ := r2
    obtain ⟨o, h1, h2⟩ := hr (σ, t) _ v (hh _ _ r3) q
    exact ⟨o, h1, h2⟩
  | brk t =>
    obtain ⟨s', rfl, r3⟩ := r2
    obtain ⟨o, h1, h2⟩ := hr (σ, t) _ v (hh _ _ r3) q
    exact ⟨o, h1, h2⟩
  | ret w =>
    cases q
    have r2 : ER er sh w o1 := r2
    obtain ⟨j, m, s', rfl, h3⟩ := r2
    exact ⟨_, rfl, hj w _ ⟨j, m, _, rfl, h3⟩⟩

/-! ### while -/
def whileN (c : T → Option Bool) (f : T → Option T) : Nat → T → Option T
  | 0, _ => none
  | n + 1, t => (c t).bind fun b => if b then (f t).bind fun t' => whileN c f n t' else some t
theorem whileN_mono {c : T → Option Bool} {f : T → Option T} : ∀ {n : Nat} {t t' : T}, whileN c f n t = some t' → ∀ k, whileN c f (n + k) t = some t'
  | 0, _, _, h, _ => by cases h
  | n + 1, t, t', h, k => by
    rw [show n + 1 + k = n + k + 1 by omega]
    unfold whileN at h ⊢
    obtain ⟨b, h1, h2⟩ := Option.bind_eq_some_iff.mp h
    rw [h1, Option.bind_some]
    cases b with
    | false => exact h2
    | true =>
      rw [if_pos rfl] at h2 ⊢
      obtain ⟨t1, h3, h4⟩ := Option.bind_eq_some_iff.mp h2
      rw [h3, Option.bind_some]
      exact whileN_mono h4 k
open Classical in
noncomputable def whileA (c : T → Option Bool) (f : T → Option T) (t : T) : Option T := if h : ∃ n t', whileN c f n t = some t' then some h.choose_spec.choose else none
theorem whileA_of {c : T → Option Bool} {f : T → Option T} {n : Nat} {t t' : T} (h : whileN c f n t = some t') : whileA c f t = some t' := by
  unfold whileA
  have hh : ∃ n t', whileN c f n t = some t' := ⟨n, t', h⟩
  rw [dif_pos hh]
  have h2 := hh.choose_spec.choose_spec
  have a := whileN_mono h hh.choose
  have b := whileN_mono h2 n
  rw [show n + hh.choose = hh.choose + n by omega, b] at a
  exact a
theorem whileA_inv {c : T → Option Bool} {f : T → Option T} {t t' : T} (h : whileA c f t = some t') : ∃ n, whileN c f n t = some t' := by
  unfold whileA at h
  split at h
  · rename_i hh
    cases h
    exact ⟨_, hh.choose_spec.choose_spec⟩
  · cases h
/-- a while by its invariant and a measure -/
theorem whileA_ok {c : T → Option Bool} {f : T → Option T} (I : T → Prop) (μ : T → Nat) (P : T → Prop) (step : ∀ t, I t → (c t = some false ∧ P t) ∨ (c t = some true ∧ ∃ t', f t = some t' ∧ I t' ∧ μ t' < μ t)) : ∀ t, I t → ∃ t', whileA c f t = some t' ∧ P t' := by
  have key : ∀ n t, I t → μ t < n → ∃ t', whileN c f n t = some t' ∧ P t' := by
    intro n
    induction n with
    | zero => intro t _ h; omega
    | succ n ih =>
      intro t ht hm
      unfold whileN
      rcases step t ht with ⟨h1, h2⟩ | ⟨h1, t1, h2, h3, h4⟩
      · exact ⟨t, by rw [h1]; rfl, h2⟩
      · obtain ⟨t', h5, h6⟩ := ih t1 h3 (by omega)
        exact ⟨t', by rw [h1, Option.bind_some, if_pos rfl, h2, Option.bind_some, h5], h6⟩
  intro t ht
  obtain ⟨t', h1, h2⟩ := key _ t ht (Nat.lt_succ_self _)
  exact ⟨t', whileA_of h1, h2⟩
def WOk (W : WL) : Prop := ∀ c f s o n, loopN n c f s = some o → W c f s = some o
theorem loopN_mono {c : Sl → Option (Bool × Sl)} {f : Sl → Option O} : ∀ {n : Nat} {s : Sl} {o : O}, loopN n c f s = some o → ∀ k, loopN (n + k) c f s = some o
  | 0, _, _, h, _ => by cases h
  | n + 1, s, o, h, k => by
    rw [show n + 1 + k = n + k + 1 by omega]
    unfold loopN at h ⊢
    obtain ⟨b, s1, h1, h2⟩ := bd_inv h
    rw [h1, bd_some]
    cases b with
    | false => exact h2
    | true =>
      rw [if_pos rfl] at h2 ⊢
      obtain ⟨o1, h3, h4⟩ := Option.bind_eq_some_iff.mp h2
      rw [h3, Option.bind_some]
      cases o1 with
      | nx s2 => exact loopN_mono (n := n) (s := s2) h4 k
      | ct s2 => exact loopN_mono (n := n) (s := s2) h4 k
      | bk s2 => exact h4
      | rt j m s2 => exact h4
theorem WL0_of : WOk WL0 := fun c f s o n h => by
  unfold WL0
  have hh : ∃ o n, loopN n c f s = some o := ⟨o, n, h⟩
  rw [dif_pos hh]
  obtain ⟨n2, h2⟩ := hh.choose_spec
  have a := loopN_mono h n2
  have b := loopN_mono h2 n
  rw [show n + n2 = n2 + n by omega, b] at a
  exact a
theorem s_while {tt : Tst} {b rest : Ss} {Γl : S → T → Ctx} {t0 : S → T} {fc : S → T → Option Bool} {body : S → T → Option T} {f2 : S × T → Option A}
    (hW : WOk W) (l0 : ∀ σ, Ctx.le (Γl σ (t0 σ)) (Γ σ)) (hc : ∀ σ, XT G pc (Γl σ) tt (fc σ)) (hb : ∀ σ, SX G W (Γl σ) b (EA (Γl σ)) (body σ)) (hr : SX G W (fun p : S × T => Γl p.1 p.2) rest En f2) :
    SX G W Γ (.cons (.while_ tt b) rest) En (fun σ => (whileA (fc σ) (body σ) (t0 σ)).bind fun t => f2 (σ, t)) := fun σ s v r q => by
  obtain ⟨t', q2, q⟩ := Option.bind_eq_some_iff.mp q
  obtain ⟨n, q3⟩ := whileA_inv q2
  have key : ∀ n t s, Rl (Γl σ t) s → whileN (fc σ) (body σ) n t = some t' → ∃ s', loopN n (fun s => VS.evT G tt s) (fun s => VS.execs G W b s) s = some (.nx s') ∧ Rl (Γl σ t') s' := by
    intro n
    induction n with
    | zero => intro t s _ h; cases h
    | succ n ih =>
      intro t s r h
      unfold whileN at h
      obtain ⟨b1, h1, h2⟩ := Option.bind_eq_some_iff.mp h
      obtain ⟨s1, e1, r1, _⟩ := hc σ t s b1 r h1
      unfold loopN
      dsimp only
      rw [e1, bd_some]
      cases b1 with
      | false =>
        cases h2
        exact ⟨s1, rfl, r1⟩
      | true =>
        rw [if_pos rfl] at h2
        obtain ⟨t1, h3, h4⟩ := Option.bind_eq_some_iff.mp h2
        obtain ⟨o, e2, s2, ho, r2⟩ := hb σ t s1 t1 r1 h3
        obtain ⟨s3, e3, r3⟩ := ih t1 s2 r2 h4
        refine ⟨s3, ?_, r3⟩
        rw [if_pos rfl, e2, Option.bind_some]
        rcases ho with rfl | rfl <;> exact e3
  obtain ⟨s', e1, r1⟩ := key n (t0 σ) s (r.weak (l0 σ)) q3
  obtain ⟨o, h1, h2⟩ := hr (σ, t') _ v r1 q
  refine ⟨o, ?_, h2⟩
  rw [cons_nx (s1 := s'), h1]
  rw [VS.exec]
  exact hW _ _ _ _ n e1
/-! ### x = xs.pop() -/
theorem s_asgPop {i j : Nat} {s0 : Sh} {rest : Ss} {g : S → List α} {f2 : S × (List α × α) → Option A} (hij : j ≠ i) (hg : ∀ σ, (Γ σ)[i]? = some (some (.lst s0, eL ea (g σ)))) (hj : ∀ σ, Nat.ble (j + 1) (Γ σ).length = true) (hr : SX G W (fun p : S × (List α × α) => ((Γ p.1).set i (some (.lst s0, eL ea p.2.1))).set j (some (s0, ea p.2.2))) rest En f2) :
    SX G W Γ (.cons (.asgPop (.var j) (.var i)) rest) En (fun σ => ((g σ).getLast?).bind fun x => f2 (σ, ((g σ).dropLast, x))) := fun σ s v r q => by
  obtain ⟨x, q2, q⟩ := Option.bind_eq_some_iff.mp q
  obtain ⟨ms, h1, h2, h3⟩ := lst_get r (hg σ)
  have hx : (M.toDs ms).getLast? = some (ea x) := by rw [h2, List.getLast?_map, q2]; rfl
  rw [toDs_map, List.getLast?_map] at hx
  obtain ⟨mx, hm1, hm2⟩ := Option.map_eq_some_iff.mp hx
  have r3 := (r.set (i := i) (m := .lst ms.dropLast) (sh := .lst s0) (d := eL ea (g σ).dropLast) (by
      show D.lst (M.toDs _) = D.lst _
      rw [toDs_map, List.map_dropLast, ← toDs_map, h2, ← List.map_dropLast]) (by
      simp only [Sh.ok]
      exact ⟨_, rfl, fun y hy => h3 y ((List.dropLast_sublist ms).subset hy)⟩)).set (i := j) (m := mx) (sh := s0) (d := ea x) hm2 (h3 mx (List.mem_of_getLast? hm1))
  obtain ⟨o, h4, h5⟩ := hr (σ, ((g σ).dropLast, x)) _ v r3 q
  refine ⟨o, ?_, h5⟩
  have he : ms.isEmpty = false := by
    cases ms with
    | nil => cases hm1
    | cons _ _ => rfl
  rw [cons_nx (s1 := (s.set i (some (.lst ms.dropLast))).set j (some mx)), h4]
  rw [VS.exec, ev_var h1]
  show (plL s (.pl ⟨i, []⟩)).bind (fun p => ((getP s p).bind M.last).bind fun m => (updP s p M.drop).bind fun s2 => (setT s2 (.var j) m).map O.nx) = _
  rw [plL_at, h1]
  show (((getP s ⟨i, []⟩).bind M.last).bind fun m => (updP s ⟨i, []⟩ M.drop).bind fun s2 => (setT s2 (.var j) m).map O.nx) = _
  rw [getP_at, h1, updP_at, h1]
  show ((ms[ms.length - 1]?).bind fun m => ((if ms.isEmpty = true then none else some (M.lst ms.dropLast)).map fun m' => s.set i (some m')).bind fun s2 => (setT s2 (.var j) m).map O.nx) = _
  rw [← List.getLast?_eq_getElem?, hm1, he]
  show (setT (s.set i (some (.lst ms.dropLast))) (.var j) mx).map O.nx = _
  rw [setT_var, if_pos (by rw [List.length_set, r.len]; exact ble_lt (hj σ))]; rfl

/-! ### defs -/
def GE (W : WL) (con : Nat → D) (P : List Def) (n : Nat) : VS.Env := ⟨con, callN W con P n, ioOf P, alOf P⟩
theorem def_ok {con : Nat → D} {P : List Def} {n k : Nat} {d : Def} {er : R → D} {sh : Sh} {ds : List D} {v : R} (hd : P[k]? = some d) (hio : d.io = []) (hal : d.al = none) {Γ0 : S → Ctx} {f : S → Option R} (h : SX (GE W con P n) W Γ0 d.body (ER er sh) f) {σ : S} (hl : ds.length = d.np) (hs : Rl (Γ0 σ) ((ds.map M.fz).map some ++ List.replicate (d.n - d.np) none)) (q : f σ = some v) :
    Cd (GE W con P (n + 1)) k ds (er v) sh := by
  obtain ⟨o, e1, j, m, s', rfl, t1, o1⟩ := h σ _ v hs q
  refine ⟨m, [], ?_, t1, o1⟩
  show callN W con P (n + 1) k (ds.map .fz) = _
  unfold callN
  rw [hd, ob_some, if_pos (by rw [List.length_map]; exact hl)]
  unfold VS.run
  have e1 : VS.execs ⟨con, callN W con P n, ioOf P, alOf P⟩ W d.body ((ds.map M.fz).map some ++ List.replicate (d.n - d.np) none) = some (.rt j m s') := e1
  rw [e1, ob_some]
  unfold endOf
  dsimp only
  rw [hal, hio]
  rfl
def Oks : List (Sh × D) → Prop
  | [] => True
  | x :: l => x.1.ok (.fz x.2) ∧ Oks l
theorem rl_nones : ∀ k : Nat, Rl (List.replicate k none) (List.replicate k none)
  | k => ⟨by simp, fun {i sh d} h => by
    rw [List.getElem?_replicate] at h
    split at h
    · cases h
    · cases h⟩
theorem Rl.cons {c : Ctx} {s : Sl} (h : Rl c s) {sh : Sh} {m : M} (o : sh.ok m) : Rl (some (sh, m.toD) :: c) (some m :: s) :=
  ⟨by rw [List.length_cons, List.length_cons, h.len], fun {i sh d} hi => by
    cases i with
    | zero => cases hi; exact ⟨m, rfl, rfl, o⟩
    | succ i => exact h.get hi⟩
theorem rl_init : ∀ (l : List (Sh × D)) (k : Nat), Oks l → Rl (l.map some ++ List.replicate k none) (((l.map (·.2)).map M.fz).map some ++ List.replicate k none)
  | [], k, _ => rl_nones k
  | x :: l, k, h => (rl_init l k h.2).cons (m := .fz x.2) h.1
end VT
end

section
/-! VT: calls and tuples by their number of parts (printed by vt8.py). -/
namespace VT
open PySem VS L2
variable {S A R : Type} {G : VS.Env} {W : WL} {Γ : S → Ctx} {En : A → O → Prop}

theorem x_call0 {m : Nat} {er : R → D} {sh : Sh} {Fn : Option R} (hl : sh.lf = true) (C : ∀ v, Fn = some v → Cd G m [] (er v) sh) : XE G true Γ (.call true m .nil) (.m sh) er (fun σ => Fn) :=
  x_call xs_nil hl (fun σ v q => by
    exact ⟨[], by first | rfl | rfl, C _ q⟩)
theorem x_callF0 {m : Nat} {ss : List Sh} {er : R → D} {sh : Sh} {Fn : Option R} (hk : Kst [] = some ss) (hst : Kstable (List.tail []) = true) (C : ∀ v, Fn = some v → Cd G m [] (er v) sh) : XE G (true && Kms []) Γ (.call false m .nil) (.m sh) er (fun σ => Fn) :=
  x_callF xs_nil hk hst (fun σ v q => by
    exact ⟨[], by first | rfl | rfl, C _ q⟩)
theorem x_call1 {m : Nat} {T0 : Type} {p0 : Bool} {e0 : E} {k0 : K} {c0 : T0 → D} {f0 : S → Option T0} {er : R → D} {sh : Sh} {Fn : T0 → Option R} (h0 : XE G p0 Γ e0 k0 c0 f0) (s0 : (true || k0.stable) = true) (hl : sh.lf = true) (C : ∀ x0 v, Fn x0 = some v → Cd G m [c0 x0] (er v) sh) : XE G (p0 && true) Γ (.call true m (.cons e0 .nil)) (.m sh) er (fun σ => (f0 σ).bind fun x0 => Fn x0) :=
  x_call (xs_cons h0 xs_nil s0) hl (fun σ v q => by
    obtain ⟨x0, q0, q⟩ := Option.bind_eq_some_iff.mp q
    exact ⟨[c0 x0], by first | rfl | simp only [q0, Option.bind_some], C _ _ q⟩)
theorem x_callF1 {m : Nat} {ss : List Sh} {T0 : Type} {p0 : Bool} {e0 : E} {k0 : K} {c0 : T0 → D} {f0 : S → Option T0} {er : R → D} {sh : Sh} {Fn : T0 → Option R} (h0 : XE G p0 Γ e0 k0 c0 f0) (s0 : (true || k0.stable) = true) (hk : Kst [k0] = some ss) (hst : Kstable (List.tail [k0]) = true) (C : ∀ x0 v, Fn x0 = some v → Cd G m [c0 x0] (er v) sh) : XE G ((p0 && true) && Kms [k0]) Γ (.call false m (.cons e0 .nil)) (.m sh) er (fun σ => (f0 σ).bind fun x0 => Fn x0) :=
  x_callF (xs_cons h0 xs_nil s0) hk hst (fun σ v q => by
    obtain ⟨x0, q0, q⟩ := Option.bind_eq_some_iff.mp q
    exact ⟨[c0 x0], by first | rfl | simp only [q0, Option.bind_some], C _ _ q⟩)
theorem x_call2 {m : Nat} {T0 : Type} {p0 : Bool} {e0 : E} {k0 : K} {c0 : T0 → D} {f0 : S → Option T0} {T1 : Type} {p1 : Bool} {e1 : E} {k1 : K} {c1 : T1 → D} {f1 : S → Option T1} {er : R → D} {sh : Sh} {Fn : T0 → T1 → Option R} (h0 : XE G p0 Γ e0 k0 c0 f0) (h1 : XE G p1 Γ e1 k1 c1 f1) (s0 : ((p1 && true) || k0.stable) = true) (s1 : (true || k1.stable) = true) (hl : sh.lf = true) (C : ∀ x0 x1 v, Fn x0 x1 = some v → Cd G m [c0 x0, c1 x1] (er v) sh) : XE G (p0 && (p1 && true)) Γ (.call true m (.cons e0 (.cons e1 .nil))) (.m sh) er (fun σ => (f0 σ).bind fun x0 => (f1 σ).bind fun x1 => Fn x0 x1) :=
  x_call (xs_cons h0 (xs_cons h1 xs_nil s1) s0) hl (fun σ v q => by
    obtain ⟨x0, q0, q⟩ := Option.bind_eq_some_iff.mp q
    obtain ⟨x1, q1, q⟩ := Option.bind_eq_some_iff.mp q
    exact ⟨[c0 x0, c1 x1], by first | rfl | simp only [q0, q1, Option.bind_some], C _ _ _ q⟩)
theorem x_callF2 {m : Nat} {ss : List Sh} {T0 : Type} {p0 : Bool} {e0 : E} {k0 : K} {c0 : T0 → D} {f0 : S → Option T0} {T1 : Type} {p1 : Bool} {e1 : E} {k1 : K} {c1 : T1 → D} {f1 : S → Option T1} {er : R → D} {sh : Sh} {Fn : T0 → T1 → Option R} (h0 : XE G p0 Γ e0 k0 c0 f0) (h1 : XE G p1 Γ e1 k1 c1 f1) (s0 : ((p1 && true) || k0.stable) = true) (s1 : (true || k1.stable) = true) (hk : Kst [k0, k1] = some ss) (hst : Kstable (List.tail [k0, k1]) = true) (C : ∀ x0 x1 v, Fn x0 x1 = some v → Cd G m [c0 x0, c1 x1] (er v) sh) : XE G ((p0 && (p1 && true)) && Kms [k0, k1]) Γ (.call false m (.cons e0 (.cons e1 .nil))) (.m sh) er (fun σ => (f0 σ).bind fun x0 => (f1 σ).bind fun x1 => Fn x0 x1) :=
  x_callF (xs_cons h0 (xs_cons h1 xs_nil s1) s0) hk hst (fun σ v q => by
    obtain ⟨x0, q0, q⟩ := Option.bind_eq_some_iff.mp q
    obtain ⟨x1, q1, q⟩ := Option.bind_eq_some_iff.mp q
    exact ⟨[c0 x0, c1 x1], by first | rfl | simp only [q0, q1, Option.bind_some], C _ _ _ q⟩)
theorem x_call3 {m : Nat} {T0 : Type} {p0 : Bool} {e0 : E} {k0 : K} {c0 : T0 → D} {f0 : S → Option T0} {T1 : Type} {p1 : Bool} {e1 : E} {k1 : K} {c1 : T1 → D} {f1 : S → Option T1} {T2 : Type} {p2 : Bool} {e2 : E} {k2 : K} {c2 : T2 → D} {f2 : S → Option T2} {er : R → D} {sh : Sh} {Fn : T0 → T1 → T2 → Option R} (h0 : XE G p0 Γ e0 k0 c0 f0) (h1 : XE G p1 Γ e1 k1 c1 f1) (h2 : XE G p2 Γ e2 k2 c2 f2) (s0 : ((p1 && (p2 && true)) || k0.stable) = true) (s1 : ((p2 && true) || k1.stable) = true) (s2 : (true || k2.stable) = true) (hl : sh.lf = true) (C : ∀ x0 x1 x2 v, Fn x0 x1 x2 = some v → Cd G m [c0 x0, c1 x1, c2 x2] (er v) sh) : XE G (p0 && (p1 && (p2 && true))) Γ (.call true m (.cons e0 (.cons e1 (.cons e2 .nil)))) (.m sh) er (fun σ => (f0 σ).bind fun x0 => (f1 σ).bind fun x1 => (f2 σ).bind fun x2 => Fn x0 x1 x2) :=
  x_call (xs_cons h0 (xs_cons h1 (xs_cons h2 xs_nil s2) s1) s0) hl (fun σ v q => by
    obtain ⟨x0, q0, q⟩ := Option.bind_eq_some_iff.mp q
    obtain ⟨x1, q1, q⟩ := Option.bind_eq_some_iff.mp q
    obtain ⟨x2, q2, q⟩ := Option.bind_eq_some_iff.mp q
    exact ⟨[c0 x0, c1 x1, c2 x2], by first | rfl | simp only [q0, q1, q2, Option.bind_some], C _ _ _ _ q⟩)
theorem x_callF3 {m : Nat} {ss : List Sh} {T0 : Type} {p0 : Bool} {e0 : E} {k0 : K} {c0 : T0 → D} {f0 : S → Option T0} {T1 : Type} {p1 : Bool} {e1 : E} {k1 : K} {c1 : T1 → D} {f1 : S → Option T1} {T2 : Type} {p2 : Bool} {e2 : E} {k2 : K} {c2 : T2 → D} {f2 : S → Option T2} {er : R → D} {sh : Sh} {Fn : T0 → T1 → T2 → Option R} (h0 : XE G p0 Γ e0 k0 c0 f0) (h1 : XE G p1 Γ e1 k1 c1 f1) (h2 : XE G p2 Γ e2 k2 c2 f2) (s0 : ((p1 && (p2 && true)) || k0.stable) = true) (s1 : ((p2 && true) || k1.stable) = true) (s2 : (true || k2.stable) = true) (hk : Kst [k0, k1, k2] = some ss) (hst : Kstable (List.tail [k0, k1, k2]) = true) (C : ∀ x0 x1 x2 v, Fn x0 x1 x2 = some v → Cd G m [c0 x0, c1 x1, c2 x2] (er v) sh) : XE G ((p0 && (p1 && (p2 && true))) && Kms [k0, k1, k2]) Γ (.call false m (.cons e0 (.cons e1 (.cons e2 .nil)))) (.m sh) er (fun σ => (f0 σ).bind fun x0 => (f1 σ).bind fun x1 => (f2 σ).bind fun x2 => Fn x0 x1 x2) :=
  x_callF (xs_cons h0 (xs_cons h1 (xs_cons h2 xs_nil s2) s1) s0) hk hst (fun σ v q => by
    obtain ⟨x0, q0, q⟩ := Option.bind_eq_some_iff.mp q
    obtain ⟨x1, q1, q⟩ := Option.bind_eq_some_iff.mp q
    obtain ⟨x2, q2, q⟩ := Option.bind_eq_some_iff.mp q
    exact ⟨[c0 x0, c1 x1, c2 x2], by first | rfl | simp only [q0, q1, q2, Option.bind_some], C _ _ _ _ q⟩)
theorem x_call4 {m : Nat} {T0 : Type} {p0 : Bool} {e0 : E} {k0 : K} {c0 : T0 → D} {f0 : S → Option T0} {T1 : Type} {p1 : Bool} {e1 : E} {k1 : K} {c1 : T1 → D} {f1 : S → Option T1} {T2 : Type} {p2 : Bool} {e2 : E} {k2 : K} {c2 : T2 → D} {f2 : S → Option T2} {T3 : Type} {p3 : Bool} {e3 : E} {k3 : K} {c3 : T3 → D} {f3 : S → Option T3} {er : R → D} {sh : Sh} {Fn : T0 → T1 → T2 → T3 → Option R} (h0 : XE G p0 Γ e0 k0 c0 f0) (h1 : XE G p1 Γ e1 k1 c1 f1) (h2 : XE G p2 Γ e2 k2 c2 f2) (h3 : XE G p3 Γ e3 k3 c3 f3) (s0 : ((p1 && (p2 && (p3 && true))) || k0.stable) = true) (s1 : ((p2 && (p3 && true)) || k1.stable) = true) (s2 : ((p3 && true) || k2.stable) = true) (s3 : (true || k3.stable) = true) (hl : sh.lf = true) (C : ∀ x0 x1 x2 x3 v, Fn x0 x1 x2 x3 = some v → Cd G m [c0 x0, c1 x1, c2 x2, c3 x3] (er v) sh) : XE G (p0 && (p1 && (p2 && (p3 && true)))) Γ (.call true m (.cons e0 (.cons e1 (.cons e2 (.cons e3 .nil))))) (.m sh) er (fun σ => (f0 σ).bind fun x0 => (f1 σ).bind fun x1 => (f2 σ).bind fun x2 => (f3 σ).bind fun x3 => Fn x0 x1 x2 x3) :=
  x_call (xs_cons h0 (xs_cons h1 (xs_cons h2 (xs_cons h3 xs_nil s3) s2) s1) s0) hl (fun σ v q => by
    obtain ⟨x0, q0, q⟩ := Option.bind_eq_some_iff.mp q
    obtain ⟨x1, q1, q⟩ := Option.bind_eq_some_iff.mp q
    obtain ⟨x2, q2, q⟩ := Option.bind_eq_some_iff.mp q
    obtain ⟨x3, q3, q⟩ := Option.bind_eq_some_iff.mp q
    exact ⟨[c0 x0, c1 x1, c2 x2, c3 x3], by first | rfl | simp only [q0, q1, q2, q3, Option.bind_some], C _ _ _ _ _ q⟩)
theorem x_callF4 {m : Nat} {ss : List Sh} {T0 : Type} {p0 : Bool} {e0 : E} {k0 : K} {c0 : T0 → D} {f0 : S → Option T0} {T1 : Type} {p1 : Bool} {e1 : E} {k1 : K} {c1 : T1 → D} {f1 : S → Option T1} {T2 : Type} {p2 : Bool} {e2 : E} {k2 : K} {c2 : T2 → D} {f2 : S → Option T2} {T3 : Type} {p3 : Bool} {e3 : E} {k3 : K} {c3 : T3 → D} {f3 : S → Option T3} {er : R → D} {sh : Sh} {Fn : T0 → T1 → T2 → T3 → Option R} (h0 : XE G p0 Γ e0 k0 c0 f0) (h1 : XE G p1 Γ e1 k1 c1 f1) (h2 : XE G p2 Γ e2 k2 c2 f2) (h3 : XE G p3 Γ e3 k3 c3 f3) (s0 : ((p1 && (p2 && (p3 && true))) || k0.stable) = true) (s1 : ((p2 && (p3 && true)) || k1.stable) = true) (s2 : ((p3 && true) || k2.stable) = true) (s3 : (true || k3.stable) = true) (hk : Kst [k0, k1, k2, k3] = some ss) (hst : Kstable (List.tail [k0, k1, k2, k3]) = true) (C : ∀ x0 x1 x2 x3 v, Fn x0 x1 x2 x3 = some v → Cd G m [c0 x0, c1 x1, c2 x2, c3 x3] (er v) sh) : XE G ((p0 && (p1 && (p2 && (p3 && true)))) && Kms [k0, k1, k2, k3]) Γ (.call false m (.cons e0 (.cons e1 (.cons e2 (.cons e3 .nil))))) (.m sh) er (fun σ => (f0 σ).bind fun x0 => (f1 σ).bind fun x1 => (f2 σ).bind fun x2 => (f3 σ).bind fun x3 => Fn x0 x1 x2 x3) :=
  x_callF (xs_cons h0 (xs_cons h1 (xs_cons h2 (xs_cons h3 xs_nil s3) s2) s1) s0) hk hst (fun σ v q => by
    obtain ⟨x0, q0, q⟩ := Option.bind_eq_some_iff.mp q
    obtain ⟨x1, q1, q⟩ := Option.bind_eq_some_iff.mp q
    obtain ⟨x2, q2, q⟩ := Option.bind_eq_some_iff.mp q
    obtain ⟨x3, q3, q⟩ := Option.bind_eq_some_iff.mp q
    exact ⟨[c0 x0, c1 x1, c2 x2, c3 x3], by first | rfl | simp only [q0, q1, q2, q3, Option.bind_some], C _ _ _ _ _ q⟩)
theorem x_call5 {m : Nat} {T0 : Type} {p0 : Bool} {e0 : E} {k0 : K} {c0 : T0 → D} {f0 : S → Option T0} {T1 : Type} {p1 : Bool} {e1 : E} {k1 : K} {c1 : T1 → D} {f1 : S → Option T1} {T2 : Type} {p2 : Bool} {e2 : E} {k2 : K} {c2 : T2 → D} {f2 : S → Option T2} {T3 : Type} {p3 : Bool} {e3 : E} {k3 : K} {c3 : T3 → D} {f3 : S → Option T3} {T4 : Type} {p4 : Bool} {e4 : E} {k4 : K} {c4 : T4 → D} {f4 : S → Option T4} {er : R → D} {sh : Sh} {Fn : T0 → T1 → T2 → T3 → T4 → Option R} (h0 : XE G p0 Γ e0 k0 c0 f0) (h1 : XE G p1 Γ e1 k1 c1 f1) (h2 : XE G p2 Γ e2 k2 c2 f2) (h3 : XE G p3 Γ e3 k3 c3 f3) (h4 : XE G p4 Γ e4 k4 c4 f4) (s0 : ((p1 && (p2 && (p3 && (p4 && true)))) || k0.stable) = true) (s1 : ((p2 && (p3 && (p4 && true))) || k1.stable) = true) (s2 : ((p3 && (p4 && true)) || k2.stable) = true) (s3 : ((p4 && true) || k3.stable) = true) (s4 : (true || k4.stable) = true) (hl : sh.lf = true) (C : ∀ x0 x1 x2 x3 x4 v, Fn x0 x1 x2 x3 x4 = some v → Cd G m [c0 x0, c1 x1, c2 x2, c3 x3, c4 x4] (er v) sh) : XE G (p0 && (p1 && (p2 && (p3 && (p4 && true))))) Γ (.call true m (.cons e0 (.cons e1 (.cons e2 (.cons e3 (.cons e4 .nil)))))) (.m sh) er (fun σ => (f0 σ).bind fun x0 => (f1 σ).bind fun x1 => (f2 σ).bind fun x2 => (f3 σ).bind fun x3 => (f4 σ).bind fun x4 => Fn x0 x1 x2 x3 x4) :=
  x_call (xs_cons h0 (xs_cons h1 (xs_cons h2 (xs_cons h3 (xs_cons h4 xs_nil s4) s3) s2) s1) s0) hl (fun σ v q => by
    obtain ⟨x0, q0, q⟩ := Option.bind_eq_some_iff.mp q
    obtain ⟨x1, q1, q⟩ := Option.bind_eq_some_iff.mp q
    obtain ⟨x2, q2, q⟩ := Option.bind_eq_some_iff.mp q
    obtain ⟨x3, q3, q⟩ := Option.bind_eq_some_iff.mp q
    obtain ⟨x4, q4, q⟩ := Option.bind_eq_some_iff.mp q
    exact ⟨[c0 x0, c1 x1, c2 x2, c3 x3, c4 x4], by first | rfl | simp only [q0, q1, q2, q3, q4, Option.bind_some], C _ _ _ _ _ _ q⟩)
theorem x_callF5 {m : Nat} {ss : List Sh} {T0 : Type} {p0 : Bool} {e0 : E} {k0 : K} {c0 : T0 → D} {f0 : S → Option T0} {T1 : Type} {p1 : Bool} {e1 : E} {k1 : K} {c1 : T1 → D} {f1 : S → Option T1} {T2 : Type} {p2 : Bool} {e2 : E} {k2 : K} {c2 : T2 → D} {f2 : S → Option T2} {T3 : Type} {p3 : Bool} {e3 : E} {k3 : K} {c3 : T3 → D} {f3 : S → Option T3} {T4 : Type} {p4 : Bool} {e4 : E} {k4 : K} {c4 : T4 → D} {f4 : S → Option T4} {er : R → D} {sh : Sh} {Fn : T0 → T1 → T2 → T3 → T4 → Option R} (h0 : XE G p0 Γ e0 k0 c0 f0) (h1 : XE G p1 Γ e1 k1 c1 f1) (h2 : XE G p2 Γ e2 k2 c2 f2) (h3 : XE G p3 Γ e3 k3 c3 f3) (h4 : XE G p4 Γ e4 k4 c4 f4) (s0 : ((p1 && (p2 && (p3 && (p4 && true)))) || k0.stable) = true) (s1 : ((p2 && (p3 && (p4 && true))) || k1.stable) = true) (s2 : ((p3 && (p4 && true)) || k2.stable) = true) (s3 : ((p4 && true) || k3.stable) = true) (s4 : (true || k4.stable) = true) (hk : Kst [k0, k1, k2, k3, k4] = some ss) (hst : Kstable (List.tail [k0, k1, k2, k3, k4]) = true) (C : ∀ x0 x1 x2 x3 x4 v, Fn x0 x1 x2 x3 x4 = some v → Cd G m [c0 x0, c1 x1, c2 x2, c3 x3, c4 x4] (er v) sh) : XE G ((p0 && (p1 && (p2 && (p3 && (p4 && true))))) && Kms [k0, k1, k2, k3, k4]) Γ (.call false m (.cons e0 (.cons e1 (.cons e2 (.cons e3 (.cons e4 .nil)))))) (.m sh) er (fun σ => (f0 σ).bind fun x0 => (f1 σ).bind fun x1 => (f2 σ).bind fun x2 => (f3 σ).bind fun x3 => (f4 σ).bind fun x4 => Fn x0 x1 x2 x3 x4) :=
  x_callF (xs_cons h0 (xs_cons h1 (xs_cons h2 (xs_cons h3 (xs_cons h4 xs_nil s4) s3) s2) s1) s0) hk hst (fun σ v q => by
    obtain ⟨x0, q0, q⟩ := Option.bind_eq_some_iff.mp q
    obtain ⟨x1, q1, q⟩ := Option.bind_eq_some_iff.mp q
    obtain ⟨x2, q2, q⟩ := Option.bind_eq_some_iff.mp q
    obtain ⟨x3, q3, q⟩ := Option.bind_eq_some_iff.mp q
    obtain ⟨x4, q4, q⟩ := Option.bind_eq_some_iff.mp q
    exact ⟨[c0 x0, c1 x1, c2 x2, c3 x3, c4 x4], by first | rfl | simp only [q0, q1, q2, q3, q4, Option.bind_some], C _ _ _ _ _ _ q⟩)
theorem x_call6 {m : Nat} {T0 : Type} {p0 : Bool} {e0 : E} {k0 : K} {c0 : T0 → D} {f0 : S → Option T0} {T1 : Type} {p1 : Bool} {e1 : E} {k1 : K} {c1 : T1 → D} {f1 : S → Option T1} {T2 : Type} {p2 : Bool} {e2 : E} {k2 : K} {c2 : T2 → D} {f2 : S → Option T2} {T3 : Type} {p3 : Bool} {e3 : E} {k3 : K} {c3 : T3 → D} {f3 : S → Option T3} {T4 : Type} {p4 : Bool} {e4 : E} {k4 : K} {c4 : T4 → D} {f4 : S → Option T4} {T5 : Type} {p5 : Bool} {e5 : E} {k5 : K} {c5 : T5 → D} {f5 : S → Option T5} {er : R → D} {sh : Sh} {Fn : T0 → T1 → T2 → T3 → T4 → T5 → Option R} (h0 : XE G p0 Γ e0 k0 c0 f0) (h1 : XE G p1 Γ e1 k1 c1 f1) (h2 : XE G p2 Γ e2 k2 c2 f2) (h3 : XE G p3 Γ e3 k3 c3 f3) (h4 : XE G p4 Γ e4 k4 c4 f4) (h5 : XE G p5 Γ e5 k5 c5 f5) (s0 : ((p1 && (p2 && (p3 && (p4 && (p5 && true))))) || k0.stable) = true) (s1 : ((p2 && (p3 && (p4 && (p5 && true)))) || k1.stable) = true) (s2 : ((p3 && (p4 && (p5 && true))) || k2.stable) = true) (s3 : ((p4 && (p5 && true)) || k3.stable) = true) (s4 : ((p5 && true) || k4.stable) = true) (s5 : (true || k5.stable) = true) (hl : sh.lf = true) (C : ∀ x0 x1 x2 x3 x4 x5 v, Fn x0 x1 x2 x3 x4 x5 = some v → Cd G m [c0 x0, c1 x1, c2 x2, c3 x3, c4 x4, c5 x5] (er v) sh) : XE G (p0 && (p1 && (p2 && (p3 && (p4 && (p5 && true)))))) Γ (.call true m (.cons e0 (.cons e1 (.cons e2 (.cons e3 (.cons e4 (.cons e5 .nil))))))) (.m sh) er (fun σ => (f0 σ).bind fun x0 => (f1 σ).bind fun x1 => (f2 σ).bind fun x2 => (f3 σ).bind fun x3 => (f4 σ).bind fun x4 => (f5 σ).bind fun x5 => Fn x0 x1 x2 x3 x4 x5) :=
  x_call (xs_cons h0 (xs_cons h1 (xs_cons h2 (xs_cons h3 (xs_cons h4 (xs_cons h5 xs_nil s5) s4) s3) s2) s1) s0) hl (fun σ v q => by
    obtain ⟨x0, q0, q⟩ := Option.bind_eq_some_iff.mp q
    obtain ⟨x1, q1, q⟩ := Option.bind_eq_some_iff.mp q
    obtain ⟨x2, q2, q⟩ := Option.bind_eq_some_iff.mp q
    obtain ⟨x3, q3, q⟩ := Option.bind_eq_some_iff.mp q
    obtain ⟨x4, q4, q⟩ := Option.bind_eq_some_iff.mp q
    obtain ⟨x5, q5, q⟩ := Option.bind_eq_some_iff.mp q
    exact ⟨[c0 x0, c1 x1, c2 x2, c3 x3, c4 x4, c5 x5], by first | rfl | simp only [q0, q1, q2, q3, q4, q5, Option.bind_some], C _ _ _ _ _ _ _ q⟩)
theorem x_callF6 {m : Nat} {ss : List Sh} {T0 : Type} {p0 : Bool} {e0 : E} {k0 : K} {c0 : T0 → D} {f0 : S → Option T0} {T1 : Type} {p1 : Bool} {e1 : E} {k1 : K} {c1 : T1 → D} {f1 : S → Option T1} {T2 : Type} {p2 : Bool} {e2 : E} {k2 : K} {c2 : T2 → D} {f2 : S → Option T2} {T3 : Type} {p3 : Bool} {e3 : E} {k3 : K} {c3 : T3 → D} {f3 : S → Option T3} {T4 : Type} {p4 : Bool} {e4 : E} {k4 : K} {c4 : T4 → D} {f4 : S → Option T4} {T5 : Type} {p5 : Bool} {e5 : E} {k5 : K} {c5 : T5 → D} {f5 : S → Option T5} {er : R → D} {sh : Sh} {Fn : T0 → T1 → T2 → T3 → T4 → T5 → Option R} (h0 : XE G p0 Γ e0 k0 c0 f0) (h1 : XE G p1 Γ e1 k1 c1 f1) (h2 : XE G p2 Γ e2 k2 c2 f2) (h3 : XE G p3 Γ e3 k3 c3 f3) (h4 : XE G p4 Γ e4 k4 c4 f4) (h5 : XE G p5 Γ e5 k5 c5 f5) (s0 : ((p1 && (p2 && (p3 && (p4 && (p5 && true))))) || k0.stable) = true) (s1 : ((p2 && (p3 && (p4 && (p5 && true)))) || k1.stable) = true) (s2 : ((p3 && (p4 && (p5 && true))) || k2.stable) = true) (s3 : ((p4 && (p5 && true)) || k3.stable) = true) (s4 : ((p5 && true) || k4.stable) = true) (s5 : (true || k5.stable) = true) (hk : Kst [k0, k1, k2, k3, k4, k5] = some ss) (hst : Kstable (List.tail [k0, k1, k2, k3, k4, k5]) = true) (C : ∀ x0 x1 x2 x3 x4 x5 v, Fn x0 x1 x2 x3 x4 x5 = some v → Cd G m [c0 x0, c1 x1, c2 x2, c3 x3, c4 x4, c5 x5] (er v) sh) : XE G ((p0 && (p1 && (p2 && (p3 && (p4 && (p5 && true)))))) && Kms [k0, k1, k2, k3, k4, k5]) Γ (.call false m (.cons e0 (.cons e1 (.cons e2 (.cons e3 (.cons e4 (.cons e5 .nil))))))) (.m sh) er (fun σ => (f0 σ).bind fun x0 => (f1 σ).bind fun x1 => (f2 σ).bind fun x2 => (f3 σ).bind fun x3 => (f4 σ).bind fun x4 => (f5 σ).bind fun x5 => Fn x0 x1 x2 x3 x4 x5) :=
  x_callF (xs_cons h0 (xs_cons h1 (xs_cons h2 (xs_cons h3 (xs_cons h4 (xs_cons h5 xs_nil s5) s4) s3) s2) s1) s0) hk hst (fun σ v q => by
    obtain ⟨x0, q0, q⟩ := Option.bind_eq_some_iff.mp q
    obtain ⟨x1, q1, q⟩ := Option.bind_eq_some_iff.mp q
    obtain ⟨x2, q2, q⟩ := Option.bind_eq_some_iff.mp q
    obtain ⟨x3, q3, q⟩ := Option.bind_eq_some_iff.mp q
    obtain ⟨x4, q4, q⟩ := Option.bind_eq_some_iff.mp q
    obtain ⟨x5, q5, q⟩ := Option.bind_eq_some_iff.mp q
    exact ⟨[c0 x0, c1 x1, c2 x2, c3 x3, c4 x4, c5 x5], by first | rfl | simp only [q0, q1, q2, q3, q4, q5, Option.bind_some], C _ _ _ _ _ _ _ q⟩)
theorem x_call7 {m : Nat} {T0 : Type} {p0 : Bool} {e0 : E} {k0 : K} {c0 : T0 → D} {f0 : S → Option T0} {T1 : Type} {p1 : Bool} {e1 : E} {k1 : K} {c1 : T1 → D} {f1 : S → Option T1} {T2 : Type} {p2 : Bool} {e2 : E} {k2 : K} {c2 : T2 → D} {f2 : S → Option T2} {T3 : Type} {p3 : Bool} {e3 : E} {k3 : K} {c3 : T3 → D} {f3 : S → Option T3} {T4 : Type} {p4 : Bool} {e4 : E} {k4 : K} {c4 : T4 → D} {f4 : S → Option T4} {T5 : Type} {p5 : Bool} {e5 : E} {k5 : K} {c5 : T5 → D} {f5 : S → Option T5} {T6 : Type} {p6 : Bool} {e6 : E} {k6 : K} {c6 : T6 → D} {f6 : S → Option T6} {er : R → D} {sh : Sh} {Fn : T0 → T1 → T2 → T3 → T4 → T5 → T6 → Option R} (h0 : XE G p0 Γ e0 k0 c0 f0) (h1 : XE G p1 Γ e1 k1 c1 f1) (h2 : XE G p2 Γ e2 k2 c2 f2) (h3 : XE G p3 Γ e3 k3 c3 f3) (h4 : XE G p4 Γ e4 k4 c4 f4) (h5 : XE G p5 Γ e5 k5 c5 f5) (h6 : XE G p6 Γ e6 k6 c6 f6) (s0 : ((p1 && (p2 && (p3 && (p4 && (p5 && (p6 && true)))))) || k0.stable) = true) (s1 : ((p2 && (p3 && (p4 && (p5 && (p6 && true))))) || k1.stable) = true) (s2 : ((p3 && (p4 && (p5 && (p6 && true)))) || k2.stable) = true) (s3 : ((p4 && (p5 && (p6 && true))) || k3.stable) = true) (s4 : ((p5 && (p6 && true)) || k4.stable) = true) (s5 : ((p6 && true) || k5.stable) = true) (s6 : (true || k6.stable) = true) (hl : sh.lf = true) (C : ∀ x0 x1 x2 x3 x4 x5 x6 v, Fn x0 x1 x2 x3 x4 x5 x6 = some v → Cd G m [c0 x0, c1 x1, c2 x2, c3 x3, c4 x4, c5 x5, c6 x6] (er v) sh) : XE G (p0 && (p1 && (p2 && (p3 && (p4 && (p5 && (p6 && true))))))) Γ (.call true m (.cons e0 (.cons e1 (.cons e2 (.cons e3 (.cons e4 (.cons e5 (.cons e6 .nil)))))))) (.m sh) er (fun σ => (f0 σ).bind fun x0 => (f1 σ).bind fun x1 => (f2 σ).bind fun x2 => (f3 σ).bind fun x3 => (f4 σ).bind fun x4 => (f5 σ).bind fun x5 => (f6 σ).bind fun x6 => Fn x0 x1 x2 x3 x4 x5 x6) :=
  x_call (xs_cons h0 (xs_cons h1 (xs_cons h2 (xs_cons h3 (xs_cons h4 (xs_cons h5 (xs_cons h6 xs_nil s6) s5) s4) s3) s2) s1) s0) hl (fun σ v q => by
    obtain ⟨x0, q0, q⟩ := Option.bind_eq_some_iff.mp q
    obtain ⟨x1, q1, q⟩ := Option.bind_eq_some_iff.mp q
    obtain ⟨x2, q2, q⟩ := Option.bind_eq_some_iff.mp q
    obtain ⟨x3, q3, q⟩ := Option.bind_eq_some_iff.mp q
    obtain ⟨x4, q4, q⟩ := Option.bind_eq_some_iff.mp q
    obtain ⟨x5, q5, q⟩ := Option.bind_eq_some_iff.mp q
    obtain ⟨x6, q6, q⟩ := Option.bind_eq_some_iff.mp q
    exact ⟨[c0 x0, c1 x1, c2 x2, c3 x3, c4 x4, c5 x5, c6 x6], by first | rfl | simp only [q0, q1, q2, q3, q4, q5, q6, Option.bind_some], C _ _ _ _ _ _ _ _ q⟩)
theorem x_callF7 {m : Nat} {ss : List Sh} {T0 : Type} {p0 : Bool} {e0 : E} {k0 : K} {c0 : T0 → D} {f0 : S → Option T0} {T1 : Type} {p1 : Bool} {e1 : E} {k1 : K} {c1 : T1 → D} {f1 : S → Option T1} {T2 : Type} {p2 : Bool} {e2 : E} {k2 : K} {c2 : T2 → D} {f2 : S → Option T2} {T3 : Type} {p3 : Bool} {e3 : E} {k3 : K} {c3 : T3 → D} {f3 : S → Option T3} {T4 : Type} {p4 : Bool} {e4 : E} {k4 : K} {c4 : T4 → D} {f4 : S → Option T4} {T5 : Type} {p5 : Bool} {e5 : E} {k5 : K} {c5 : T5 → D} {f5 : S → Option T5} {T6 : Type} {p6 : Bool} {e6 : E} {k6 : K} {c6 : T6 → D} {f6 : S → Option T6} {er : R → D} {sh : Sh} {Fn : T0 → T1 → T2 → T3 → T4 → T5 → T6 → Option R} (h0 : XE G p0 Γ e0 k0 c0 f0) (h1 : XE G p1 Γ e1 k1 c1 f1) (h2 : XE G p2 Γ e2 k2 c2 f2) (h3 : XE G p3 Γ e3 k3 c3 f3) (h4 : XE G p4 Γ e4 k4 c4 f4) (h5 : XE G p5 Γ e5 k5 c5 f5) (h6 : XE G p6 Γ e6 k6 c6 f6) (s0 : ((p1 && (p2 && (p3 && (p4 && (p5 && (p6 && true)))))) || k0.stable) = true) (s1 : ((p2 && (p3 && (p4 && (p5 && (p6 && true))))) || k1.stable) = true) (s2 : ((p3 && (p4 && (p5 && (p6 && true)))) || k2.stable) = true) (s3 : ((p4 && (p5 && (p6 && true))) || k3.stable) = true) (s4 : ((p5 && (p6 && true)) || k4.stable) = true) (s5 : ((p6 && true) || k5.stable) = true) (s6 : (true || k6.stable) = true) (hk : Kst [k0, k1, k2, k3, k4, k5, k6] = some ss) (hst : Kstable (List.tail [k0, k1, k2, k3, k4, k5, k6]) = true) (C : ∀ x0 x1 x2 x3 x4 x5 x6 v, Fn x0 x1 x2 x3 x4 x5 x6 = some v → Cd G m [c0 x0, c1 x1, c2 x2, c3 x3, c4 x4, c5 x5, c6 x6] (er v) sh) : XE G ((p0 && (p1 && (p2 && (p3 && (p4 && (p5 && (p6 && true))))))) && Kms [k0, k1, k2, k3, k4, k5, k6]) Γ (.call false m (.cons e0 (.cons e1 (.cons e2 (.cons e3 (.cons e4 (.cons e5 (.cons e6 .nil)))))))) (.m sh) er (fun σ => (f0 σ).bind fun x0 => (f1 σ).bind fun x1 => (f2 σ).bind fun x2 => (f3 σ).bind fun x3 => (f4 σ).bind fun x4 => (f5 σ).bind fun x5 => (f6 σ).bind fun x6 => Fn x0 x1 x2 x3 x4 x5 x6) :=
  x_callF (xs_cons h0 (xs_cons h1 (xs_cons h2 (xs_cons h3 (xs_cons h4 (xs_cons h5 (xs_cons h6 xs_nil s6) s5) s4) s3) s2) s1) s0) hk hst (fun σ v q => by
    obtain ⟨x0, q0, q⟩ := Option.bind_eq_some_iff.mp q
    obtain ⟨x1, q1, q⟩ := Option.bind_eq_some_iff.mp q
    obtain ⟨x2, q2, q⟩ := Option.bind_eq_some_iff.mp q
    obtain ⟨x3, q3, q⟩ := Option.bind_eq_some_iff.mp q
    obtain ⟨x4, q4, q⟩ := Option.bind_eq_some_iff.mp q
    obtain ⟨x5, q5, q⟩ := Option.bind_eq_some_iff.mp q
    obtain ⟨x6, q6, q⟩ := Option.bind_eq_some_iff.mp q
    exact ⟨[c0 x0, c1 x1, c2 x2, c3 x3, c4 x4, c5 x5, c6 x6], by first | rfl | simp only [q0, q1, q2, q3, q4, q5, q6, Option.bind_some], C _ _ _ _ _ _ _ _ q⟩)
theorem x_call8 {m : Nat} {T0 : Type} {p0 : Bool} {e0 : E} {k0 : K} {c0 : T0 → D} {f0 : S → Option T0} {T1 : Type} {p1 : Bool} {e1 : E} {k1 : K} {c1 : T1 → D} {f1 : S → Option T1} {T2 : Type} {p2 : Bool} {e2 : E} {k2 : K} {c2 : T2 → D} {f2 : S → Option T2} {T3 : Type} {p3 : Bool} {e3 : E} {k3 : K} {c3 : T3 → D} {f3 : S → Option T3} {T4 : Type} {p4 : Bool} {e4 : E} {k4 : K} {c4 : T4 → D} {f4 : S → Option T4} {T5 : Type} {p5 : Bool} {e5 : E} {k5 : K} {c5 : T5 → D} {f5 : S → Option T5} {T6 : Type} {p6 : Bool} {e6 : E} {k6 : K} {c6 : T6 → D} {f6 : S → Option T6} {T7 : Type} {p7 : Bool} {e7 : E} {k7 : K} {c7 : T7 → D} {f7 : S → Option T7} {er : R → D} {sh : Sh} {Fn : T0 → T1 → T2 → T3 → T4 → T5 → T6 → T7 → Option R} (h0 : XE G p0 Γ e0 k0 c0 f0) (h1 : XE G p1 Γ e1 k1 c1 f1) (h2 : XE G p2 Γ e2 k2 c2 f2) (h3 : XE G p3 Γ e3 k3 c3 f3) (h4 : XE G p4 Γ e4 k4 c4 f4) (h5 : XE G p5 Γ e5 k5 c5 f5) (h6 : XE G p6 Γ e6 k6 c6 f6) (h7 : XE G p7 Γ e7 k7 c7 f7) (s0 : ((p1 && (p2 && (p3 && (p4 && (p5 && (p6 && (p7 && true))))))) || k0.stable) = true) (s1 : ((p2 && (p3 && (p4 && (p5 && (p6 && (p7 && true)))))) || k1.stable) = true) (s2 : ((p3 && (p4 && (p5 && (p6 && (p7 && true))))) || k2.stable) = true) (s3 : ((p4 && (p5 && (p6 && (p7 && true)))) || k3.stable) = true) (s4 : ((p5 && (p6 && (p7 && true))) || k4.stable) = true) (s5 : ((p6 && (p7 && true)) || k5.stable) = true) (s6 : ((p7 && true) || k6.stable) = true) (s7 : (true || k7.stable) = true) (hl : sh.lf = true) (C : ∀ x0 x1 x2 x3 x4 x5 x6 x7 v, Fn x0 x1 x2 x3 x4 x5 x6 x7 = some v → Cd G m [c0 x0, c1 x1, c2 x2, c3 x3, c4 x4, c5 x5, c6 x6, c7 x7] (er v) sh) : XE G (p0 && (p1 && (p2 && (p3 && (p4 && (p5 && (p6 && (p7 && true)))))))) Γ (.call true m (.cons e0 (.cons e1 (.cons e2 (.cons e3 (.cons e4 (.cons e5 (.cons e6 (.cons e7 .nil))))))))) (.m sh) er (fun σ => (f0 σ).bind fun x0 => (f1 σ).bind fun x1 => (f2 σ).bind fun x2 => (f3 σ).bind fun x3 => (f4 σ).bind fun x4 => (f5 σ).bind fun x5 => (f6 σ).bind fun x6 => (f7 σ).bind fun x7 => Fn x0 x1 x2 x3 x4 x5 x6 x7) :=
  x_call (xs_cons h0 (xs_cons h1 (xs_cons h2 (xs_cons h3 (xs_cons h4 (xs_cons h5 (xs_cons h6 (xs_cons h7 xs_nil s7) s6) s5) s4) s3) s2) s1) s0) hl (fun σ v q => by
    obtain ⟨x0, q0, q⟩ := Option.bind_eq_some_iff.mp q
    obtain ⟨x1, q1, q⟩ := Option.bind_eq_some_iff.mp q
    obtain ⟨x2, q2, q⟩ := Option.bind_eq_some_iff.mp q
    obtain ⟨x3, q3, q⟩ := Option.bind_eq_some_iff.mp q
    obtain ⟨x4, q4, q⟩ := Option.bind_eq_some_iff.mp q
    obtain ⟨x5, q5, q⟩ := Option.bind_eq_some_iff.mp q
    obtain ⟨x6, q6, q⟩ := Option.bind_eq_some_iff.mp q
    obtain ⟨x7, q7, q⟩ := Option.bind_eq_some_iff.mp q
    exact ⟨[c0 x0, c1 x1, c2 x2, c3 x3, c4 x4, c5 x5, c6 x6, c7 x7], by first | rfl | simp only [q0, q1, q2, q3, q4, q5, q6, q7, Option.bind_some], C _ _ _ _ _ _ _ _ _ q⟩)
theorem x_callF8 {m : Nat} {ss : List Sh} {T0 : Type} {p0 : Bool} {e0 : E} {k0 : K} {c0 : T0 → D} {f0 : S → Option T0} {T1 : Type} {p1 : Bool} {e1 : E} {k1 : K} {c1 : T1 → D} {f1 : S → Option T1} {T2 : Type} {p2 : Bool} {e2 : E} {k2 : K} {c2 : T2 → D} {f2 : S → Option T2} {T3 : Type} {p3 : Bool} {e3 : E} {k3 : K} {c3 : T3 → D} {f3 : S → Option T3} {T4 : Type} {p4 : Bool} {e4 : E} {k4 : K} {c4 : T4 → D} {f4 : S → Option T4} {T5 : Type} {p5 : Bool} {e5 : E} {k5 : K} {c5 : T5 → D} {f5 : S → Option T5} {T6 : Type} {p6 : Bool} {e6 : E} {k6 : K} {c6 : T6 → D} {f6 : S → Option T6} {T7 : Type} {p7 : Bool} {e7 : E} {k7 : K} {c7 : T7 → D} {f7 : S → Option T7} {er : R → D} {sh : Sh} {Fn : T0 → T1 → T2 → T3 → T4 → T5 → T6 → T7 → Option R} (h0 : XE G p0 Γ e0 k0 c0 f0) (h1 : XE G p1 Γ e1 k1 c1 f1) (h2 : XE G p2 Γ e2 k2 c2 f2) (h3 : XE G p3 Γ e3 k3 c3 f3) (h4 : XE G p4 Γ e4 k4 c4 f4) (h5 : XE G p5 Γ e5 k5 c5 f5) (h6 : XE G p6 Γ e6 k6 c6 f6) (h7 : XE G p7 Γ e7 k7 c7 f7) (s0 : ((p1 && (p2 && (p3 && (p4 && (p5 && (p6 && (p7 && true))))))) || k0.stable) = true) (s1 : ((p2 && (p3 && (p4 && (p5 && (p6 && (p7 && true)))))) || k1.stable) = true) (s2 : ((p3 && (p4 && (p5 && (p6 && (p7 && true))))) || k2.stable) = true) (s3 : ((p4 && (p5 && (p6 && (p7 && true)))) || k3.stable) = true) (s4 : ((p5 && (p6 && (p7 && true))) || k4.stable) = true) (s5 : ((p6 && (p7 && true)) || k5.stable) = true) (s6 : ((p7 && true) || k6.stable) = true) (s7 : (true || k7.stable) = true) (hk : Kst [k0, k1, k2, k3, k4, k5, k6, k7] = some ss) (hst : Kstable (List.tail [k0, k1, k2, k3, k4, k5, k6, k7]) = true) (C : ∀ x0 x1 x2 x3 x4 x5 x6 x7 v, Fn x0 x1 x2 x3 x4 x5 x6 x7 = some v → Cd G m [c0 x0, c1 x1, c2 x2, c3 x3, c4 x4, c5 x5, c6 x6, c7 x7] (er v) sh) : XE G ((p0 && (p1 && (p2 && (p3 && (p4 && (p5 && (p6 && (p7 && true)))))))) && Kms [k0, k1, k2, k3, k4, k5, k6, k7]) Γ (.call false m (.cons e0 (.cons e1 (.cons e2 (.cons e3 (.cons e4 (.cons e5 (.cons e6 (.cons e7 .nil))))))))) (.m sh) er (fun σ => (f0 σ).bind fun x0 => (f1 σ).bind fun x1 => (f2 σ).bind fun x2 => (f3 σ).bind fun x3 => (f4 σ).bind fun x4 => (f5 σ).bind fun x5 => (f6 σ).bind fun x6 => (f7 σ).bind fun x7 => Fn x0 x1 x2 x3 x4 x5 x6 x7) :=
  x_callF (xs_cons h0 (xs_cons h1 (xs_cons h2 (xs_cons h3 (xs_cons h4 (xs_cons h5 (xs_cons h6 (xs_cons h7 xs_nil s7) s6) s5) s4) s3) s2) s1) s0) hk hst (fun σ v q => by
    obtain ⟨x0, q0, q⟩ := Option.bind_eq_some_iff.mp q
    obtain ⟨x1, q1, q⟩ := Option.bind_eq_some_iff.mp q
    obtain ⟨x2, q2, q⟩ := Option.bind_eq_some_iff.mp q
    obtain ⟨x3, q3, q⟩ := Option.bind_eq_some_iff.mp q
    obtain ⟨x4, q4, q⟩ := Option.bind_eq_some_iff.mp q
    obtain ⟨x5, q5, q⟩ := Option.bind_eq_some_iff.mp q
    obtain ⟨x6, q6, q⟩ := Option.bind_eq_some_iff.mp q
    obtain ⟨x7, q7, q⟩ := Option.bind_eq_some_iff.mp q
    exact ⟨[c0 x0, c1 x1, c2 x2, c3 x3, c4 x4, c5 x5, c6 x6, c7 x7], by first | rfl | simp only [q0, q1, q2, q3, q4, q5, q6, q7, Option.bind_some], C _ _ _ _ _ _ _ _ _ q⟩)
theorem x_call9 {m : Nat} {T0 : Type} {p0 : Bool} {e0 : E} {k0 : K} {c0 : T0 → D} {f0 : S → Option T0} {T1 : Type} {p1 : Bool} {e1 : E} {k1 : K} {c1 : T1 → D} {f1 : S → Option T1} {T2 : Type} {p2 : Bool} {e2 : E} {k2 : K} {c2 : T2 → D} {f2 : S → Option T2} {T3 : Type} {p3 : Bool} {e3 : E} {k3 : K} {c3 : T3 → D} {f3 : S → Option T3} {T4 : Type} {p4 : Bool} {e4 : E} {k4 : K} {c4 : T4 → D} {f4 : S → Option T4} {T5 : Type} {p5 : Bool} {e5 : E} {k5 : K} {c5 : T5 → D} {f5 : S → Option T5} {T6 : Type} {p6 : Bool} {e6 : E} {k6 : K} {c6 : T6 → D} {f6 : S → Option T6} {T7 : Type} {p7 : Bool} {e7 : E} {k7 : K} {c7 : T7 → D} {f7 : S → Option T7} {T8 : Type} {p8 : Bool} {e8 : E} {k8 : K} {c8 : T8 → D} {f8 : S → Option T8} {er : R → D} {sh : Sh} {Fn : T0 → T1 → T2 → T3 → T4 → T5 → T6 → T7 → T8 → Option R} (h0 : XE G p0 Γ e0 k0 c0 f0) (h1 : XE G p1 Γ e1 k1 c1 f1) (h2 : XE G p2 Γ e2 k2 c2 f2) (h3 : XE G p3 Γ e3 k3 c3 f3) (h4 : XE G p4 Γ e4 k4 c4 f4) (h5 : XE G p5 Γ e5 k5 c5 f5) (h6 : XE G p6 Γ e6 k6 c6 f6) (h7 : XE G p7 Γ e7 k7 c7 f7) (h8 : XE G p8 Γ e8 k8 c8 f8) (s0 : ((p1 && (p2 && (p3 && (p4 && (p5 && (p6 && (p7 && (p8 && true)))))))) || k0.stable) = true) (s1 : ((p2 && (p3 && (p4 && (p5 && (p6 && (p7 && (p8 && true))))))) || k1.stable) = true) (s2 : ((p3 && (p4 && (p5 && (p6 && (p7 && (p8 && true)))))) || k2.stable) = true) (s3 : ((p4 && (p5 && (p6 && (p7 && (p8 && true))))) || k3.stable) = true) (s4 : ((p5 && (p6 && (p7 && (p8 && true)))) || k4.stable) = true) (s5 : ((p6 && (p7 && (p8 && true))) || k5.stable) = true) (s6 : ((p7 && (p8 && true)) || k6.stable) = true) (s7 : ((p8 && true) || k7.stable) = true) (s8 : (true || k8.stable) = true) (hl : sh.lf = true) (C : ∀ x0 x1 x2 x3 x4 x5 x6 x7 x8 v, Fn x0 x1 x2 x3 x4 x5 x6 x7 x8 = some v → Cd G m [c0 x0, c1 x1, c2 x2, c3 x3, c4 x4, c5 x5, c6 x6, c7 x7, c8 x8] (er v) sh) : XE G (p0 && (p1 && (p2 && (p3 && (p4 && (p5 && (p6 && (p7 && (p8 && true))))))))) Γ (.call true m (.cons e0 (.cons e1 (.cons e2 (.cons e3 (.cons e4 (.cons e5 (.cons e6 (.cons e7 (.cons e8 .nil)))))))))) (.m sh) er (fun σ => (f0 σ).bind fun x0 => (f1 σ).bind fun x1 => (f2 σ).bind fun x2 => (f3 σ).bind fun x3 => (f4 σ).bind fun x4 => (f5 σ).bind fun x5 => (f6 σ).bind fun x6 => (f7 σ).bind fun x7 => (f8 σ).bind fun x8 => Fn x0 x1 x2 x3 x4 x5 x6 x7 x8) :=
  x_call (xs_cons h0 (xs_cons h1 (xs_cons h2 (xs_cons h3 (xs_cons h4 (xs_cons h5 (xs_cons h6 (xs_cons h7 (xs_cons h8 xs_nil s8) s7) s6) s5) s4) s3) s2) s1) s0) hl (fun σ v q => by
    obtain ⟨x0, q0, q⟩ := Option.bind_eq_some_iff.mp q
    obtain ⟨x1, q1, q⟩ := Option.bind_eq_some_iff.mp q
    obtain ⟨x2, q2, q⟩ := Option.bind_eq_some_iff.mp q
    obtain ⟨x3, q3, q⟩ := Option.bind_eq_some_iff.mp q
    obtain ⟨x4, q4, q⟩ := Option.bind_eq_some_iff.mp q
    obtain ⟨x5, q5, q⟩ := Option.bind_eq_some_iff.mp q
    obtain ⟨x6, q6, q⟩ := Option.bind_eq_some_iff.mp q
    obtain ⟨x7, q7, q⟩ := Option.bind_eq_some_iff.mp q
    obtain ⟨x8, q8, q⟩ := Option.bind_eq_some_iff.mp q
    exact ⟨[c0 x0, c1 x1, c2 x2, c3 x3, c4 x4, c5 x5, c6 x6, c7 x7, c8 x8], by first | rfl | simp only [q0, q1, q2, q3, q4, q5, q6, q7, q8, Option.bind_some], C _ _ _ _ _ _ _ _ _ _ q⟩)
theorem x_callF9 {m : Nat} {ss : List Sh} {T0 : Type} {p0 : Bool} {e0 : E} {k0 : K} {c0 : T0 → D} {f0 : S → Option T0} {T1 : Type} {p1 : Bool} {e1 : E} {k1 : K} {c1 : T1 → D} {f1 : S → Option T1} {T2 : Type} {p2 : Bool} {e2 : E} {k2 : K} {c2 : T2 → D} {f2 : S → Option T2} {T3 : Type} {p3 : Bool} {e3 : E} {k3 : K} {c3 : T3 → D} {f3 : S → Option T3} {T4 : Type} {p4 : Bool} {e4 : E} {k4 : K} {c4 : T4 → D} {f4 : S → Option T4} {T5 : Type} {p5 : Bool} {e5 : E} {k5 : K} {c5 : T5 → D} {f5 : S → Option T5} {T6 : Type} {p6 : Bool} {e6 : E} {k6 : K} {c6 : T6 → D} {f6 : S → Option T6} {T7 : Type} {p7 : Bool} {e7 : E} {k7 : K} {c7 : T7 → D} {f7 : S → Option T7} {T8 : Type} {p8 : Bool} {e8 : E} {k8 : K} {c8 : T8 → D} {f8 : S → Option T8} {er : R → D} {sh : Sh} {Fn : T0 → T1 → T2 → T3 → T4 → T5 → T6 → T7 → T8 → Option R} (h0 : XE G p0 Γ e0 k0 c0 f0) (h1 : XE G p1 Γ e1 k1 c1 f1) (h2 : XE G p2 Γ e2 k2 c2 f2) (h3 : XE G p3 Γ e3 k3 c3 f3) (h4 : XE G p4 Γ e4 k4 c4 f4) (h5 : XE G p5 Γ e5 k5 c5 f5) (h6 : XE G p6 Γ e6 k6 c6 f6) (h7 : XE G p7 Γ e7 k7 c7 f7) (h8 : XE G p8 Γ e8 k8 c8 f8) (s0 : ((p1 && (p2 && (p3 && (p4 && (p5 && (p6 && (p7 && (p8 && true)))))))) || k0.stable) = true) (s1 : ((p2 && (p3 && (p4 && (p5 && (p6 && (p7 && (p8 && true))))))) || k1.stable) = true) (s2 : ((p3 && (p4 && (p5 && (p6 && (p7 && (p8 && true)))))) || k2.stable) = true) (s3 : ((p4 && (p5 && (p6 && (p7 && (p8 && true))))) || k3.stable) = true) (s4 : ((p5 && (p6 && (p7 && (p8 && true)))) || k4.stable) = true) (s5 : ((p6 && (p7 && (p8 && true))) || k5.stable) = true) (s6 : ((p7 && (p8 && true)) || k6.stable) = true) (s7 : ((p8 && true) || k7.stable) = true) (s8 : (true || k8.stable) = true) (hk : Kst [k0, k1, k2, k3, k4, k5, k6, k7, k8] = some ss) (hst : Kstable (List.tail [k0, k1, k2, k3, k4, k5, k6, k7, k8]) = true) (C : ∀ x0 x1 x2 x3 x4 x5 x6 x7 x8 v, Fn x0 x1 x2 x3 x4 x5 x6 x7 x8 = some v → Cd G m [c0 x0, c1 x1, c2 x2, c3 x3, c4 x4, c5 x5, c6 x6, c7 x7, c8 x8] (er v) sh) : XE G ((p0 && (p1 && (p2 && (p3 && (p4 && (p5 && (p6 && (p7 && (p8 && true))))))))) && Kms [k0, k1, k2, k3, k4, k5, k6, k7, k8]) Γ (.call false m (.cons e0 (.cons e1 (.cons e2 (.cons e3 (.cons e4 (.cons e5 (.cons e6 (.cons e7 (.cons e8 .nil)))))))))) (.m sh) er (fun σ => (f0 σ).bind fun x0 => (f1 σ).bind fun x1 => (f2 σ).bind fun x2 => (f3 σ).bind fun x3 => (f4 σ).bind fun x4 => (f5 σ).bind fun x5 => (f6 σ).bind fun x6 => (f7 σ).bind fun x7 => (f8 σ).bind fun x8 => Fn x0 x1 x2 x3 x4 x5 x6 x7 x8) :=
  x_callF (xs_cons h0 (xs_cons h1 (xs_cons h2 (xs_cons h3 (xs_cons h4 (xs_cons h5 (xs_cons h6 (xs_cons h7 (xs_cons h8 xs_nil s8) s7) s6) s5) s4) s3) s2) s1) s0) hk hst (fun σ v q => by
    obtain ⟨x0, q0, q⟩ := Option.bind_eq_some_iff.mp q
    obtain ⟨x1, q1, q⟩ := Option.bind_eq_some_iff.mp q
    obtain ⟨x2, q2, q⟩ := Option.bind_eq_some_iff.mp q
    obtain ⟨x3, q3, q⟩ := Option.bind_eq_some_iff.mp q
    obtain ⟨x4, q4, q⟩ := Option.bind_eq_some_iff.mp q
    obtain ⟨x5, q5, q⟩ := Option.bind_eq_some_iff.mp q
    obtain ⟨x6, q6, q⟩ := Option.bind_eq_some_iff.mp q
    obtain ⟨x7, q7, q⟩ := Option.bind_eq_some_iff.mp q
    obtain ⟨x8, q8, q⟩ := Option.bind_eq_some_iff.mp q
    exact ⟨[c0 x0, c1 x1, c2 x2, c3 x3, c4 x4, c5 x5, c6 x6, c7 x7, c8 x8], by first | rfl | simp only [q0, q1, q2, q3, q4, q5, q6, q7, q8, Option.bind_some], C _ _ _ _ _ _ _ _ _ _ q⟩)
theorem x_tup0 {ss : List Sh} (hk : Kst [] = some ss) (hst : Kstable (List.tail []) = true) : XE G (true && Kms []) Γ (.tup .nil) (.m (tupSh ss)) eT0 (fun σ => some ()) :=
  x_tup xs_nil hk hst (by show _ ≤ 1000; simp) (fun σ v q => by
    cases q
    exact ⟨[], by first | rfl | simp only [Option.bind_some], rfl⟩)
theorem x_tup1 {ss : List Sh} {T0 : Type} {p0 : Bool} {e0 : E} {k0 : K} {c0 : T0 → D} {f0 : S → Option T0} (h0 : XE G p0 Γ e0 k0 c0 f0) (s0 : (true || k0.stable) = true) (hk : Kst [k0] = some ss) (hst : Kstable (List.tail [k0]) = true) : XE G ((p0 && true) && Kms [k0]) Γ (.tup (.cons e0 .nil)) (.m (tupSh ss)) (eT1 c0) (fun σ => (f0 σ).bind fun x0 => some x0) :=
  x_tup (xs_cons h0 xs_nil s0) hk hst (by show _ ≤ 1000; simp) (fun σ v q => by
    obtain ⟨x0, q0, q⟩ := Option.bind_eq_some_iff.mp q
    cases q
    exact ⟨[c0 v], by first | rfl | simp only [q0, Option.bind_some], rfl⟩)
theorem x_tup2 {ss : List Sh} {T0 : Type} {p0 : Bool} {e0 : E} {k0 : K} {c0 : T0 → D} {f0 : S → Option T0} {T1 : Type} {p1 : Bool} {e1 : E} {k1 : K} {c1 : T1 → D} {f1 : S → Option T1} (h0 : XE G p0 Γ e0 k0 c0 f0) (h1 : XE G p1 Γ e1 k1 c1 f1) (s0 : ((p1 && true) || k0.stable) = true) (s1 : (true || k1.stable) = true) (hk : Kst [k0, k1] = some ss) (hst : Kstable (List.tail [k0, k1]) = true) : XE G ((p0 && (p1 && true)) && Kms [k0, k1]) Γ (.tup (.cons e0 (.cons e1 .nil))) (.m (tupSh ss)) (eT2 c0 c1) (fun σ => (f0 σ).bind fun x0 => (f1 σ).bind fun x1 => some (x0, x1)) :=
  x_tup (xs_cons h0 (xs_cons h1 xs_nil s1) s0) hk hst (by show _ ≤ 1000; simp) (fun σ v q => by
    obtain ⟨x0, q0, q⟩ := Option.bind_eq_some_iff.mp q
    obtain ⟨x1, q1, q⟩ := Option.bind_eq_some_iff.mp q
    cases q
    exact ⟨[c0 x0, c1 x1], by first | rfl | simp only [q0, q1, Option.bind_some], rfl⟩)
theorem x_tup3 {ss : List Sh} {T0 : Type} {p0 : Bool} {e0 : E} {k0 : K} {c0 : T0 → D} {f0 : S → Option T0} {T1 : Type} {p1 : Bool} {e1 : E} {k1 : K} {c1 : T1 → D} {f1 : S → Option T1} {T2 : Type} {p2 : Bool} {e2 : E} {k2 : K} {c2 : T2 → D} {f2 : S → Option T2} (h0 : XE G p0 Γ e0 k0 c0 f0) (h1 : XE G p1 Γ e1 k1 c1 f1) (h2 : XE G p2 Γ e2 k2 c2 f2) (s0 : ((p1 && (p2 && true)) || k0.stable) = true) (s1 : ((p2 && true) || k1.stable) = true) (s2 : (true || k2.stable) = true) (hk : Kst [k0, k1, k2] = some ss) (hst : Kstable (List.tail [k0, k1, k2]) = true) : XE G ((p0 && (p1 && (p2 && true))) && Kms [k0, k1, k2]) Γ (.tup (.cons e0 (.cons e1 (.cons e2 .nil)))) (.m (tupSh ss)) (eT3 c0 c1 c2) (fun σ => (f0 σ).bind fun x0 => (f1 σ).bind fun x1 => (f2 σ).bind fun x2 => some (x0, x1, x2)) :=
  x_tup (xs_cons h0 (xs_cons h1 (xs_cons h2 xs_nil s2) s1) s0) hk hst (by show _ ≤ 1000; simp) (fun σ v q => by
    obtain ⟨x0, q0, q⟩ := Option.bind_eq_some_iff.mp q
    obtain ⟨x1, q1, q⟩ := Option.bind_eq_some_iff.mp q
    obtain ⟨x2, q2, q⟩ := Option.bind_eq_some_iff.mp q
    cases q
    exact ⟨[c0 x0, c1 x1, c2 x2], by first | rfl | simp only [q0, q1, q2, Option.bind_some], rfl⟩)
theorem x_tup4 {ss : List Sh} {T0 : Type} {p0 : Bool} {e0 : E} {k0 : K} {c0 : T0 → D} {f0 : S → Option T0} {T1 : Type} {p1 : Bool} {e1 : E} {k1 : K} {c1 : T1 → D} {f1 : S → Option T1} {T2 : Type} {p2 : Bool} {e2 : E} {k2 : K} {c2 : T2 → D} {f2 : S → Option T2} {T3 : Type} {p3 : Bool} {e3 : E} {k3 : K} {c3 : T3 → D} {f3 : S → Option T3} (h0 : XE G p0 Γ e0 k0 c0 f0) (h1 : XE G p1 Γ e1 k1 c1 f1) (h2 : XE G p2 Γ e2 k2 c2 f2) (h3 : XE G p3 Γ e3 k3 c3 f3) (s0 : ((p1 && (p2 && (p3 && true))) || k0.stable) = true) (s1 : ((p2 && (p3 && true)) || k1.stable) = true) (s2 : ((p3 && true) || k2.stable) = true) (s3 : (true || k3.stable) = true) (hk : Kst [k0, k1, k2, k3] = some ss) (hst : Kstable (List.tail [k0, k1, k2, k3]) = true) : XE G ((p0 && (p1 && (p2 && (p3 && true)))) && Kms [k0, k1, k2, k3]) Γ (.tup (.cons e0 (.cons e1 (.cons e2 (.cons e3 .nil))))) (.m (tupSh ss)) (eT4 c0 c1 c2 c3) (fun σ => (f0 σ).bind fun x0 => (f1 σ).bind fun x1 => (f2 σ).bind fun x2 => (f3 σ).bind fun x3 => some (x0, x1, x2, x3)) :=
  x_tup (xs_cons h0 (xs_cons h1 (xs_cons h2 (xs_cons h3 xs_nil s3) s2) s1) s0) hk hst (by show _ ≤ 1000; simp) (fun σ v q => by
    obtain ⟨x0, q0, q⟩ := Option.bind_eq_some_iff.mp q
    obtain ⟨x1, q1, q⟩ := Option.bind_eq_some_iff.mp q
    obtain ⟨x2, q2, q⟩ := Option.bind_eq_some_iff.mp q
    obtain ⟨x3, q3, q⟩ := Option.bind_eq_some_iff.mp q
    cases q
    exact ⟨[c0 x0, c1 x1, c2 x2, c3 x3], by first | rfl | simp only [q0, q1, q2, q3, Option.bind_some], rfl⟩)
theorem r_tup1 {T0 : Type} {e0 : E} {c0 : T0 → D} {f0 : S → Option T0} {s0 : Sh} {Γ0 : S → Ctx} (h0 : XR G Γ e0 c0 s0 f0 Γ0) : XR G Γ (.tup (.cons e0 .nil)) (eT1 c0) (tupSh [s0]) (fun σ => (f0 σ).bind fun x0 => some x0) Γ0 :=
  r_tup (rs_cons h0 rs_nil) (by simp) (fun σ v q => by
    obtain ⟨x0, q0, q⟩ := Option.bind_eq_some_iff.mp q
    cases q
    exact ⟨[c0 v], by first | rfl | simp only [q0, Option.bind_some], rfl⟩)
theorem r_tup2 {T0 : Type} {e0 : E} {c0 : T0 → D} {f0 : S → Option T0} {s0 : Sh} {Γ0 : S → Ctx} {T1 : Type} {e1 : E} {c1 : T1 → D} {f1 : S → Option T1} {s1 : Sh} {Γ1 : S → Ctx} (h0 : XR G Γ e0 c0 s0 f0 Γ0) (h1 : XR G Γ0 e1 c1 s1 f1 Γ1) : XR G Γ (.tup (.cons e0 (.cons e1 .nil))) (eT2 c0 c1) (tupSh [s0, s1]) (fun σ => (f0 σ).bind fun x0 => (f1 σ).bind fun x1 => some (x0, x1)) Γ1 :=
  r_tup (rs_cons h0 (rs_cons h1 rs_nil)) (by simp) (fun σ v q => by
    obtain ⟨x0, q0, q⟩ := Option.bind_eq_some_iff.mp q
    obtain ⟨x1, q1, q⟩ := Option.bind_eq_some_iff.mp q
    cases q
    exact ⟨[c0 x0, c1 x1], by first | rfl | simp only [q0, q1, Option.bind_some], rfl⟩)
theorem r_tup3 {T0 : Type} {e0 : E} {c0 : T0 → D} {f0 : S → Option T0} {s0 : Sh} {Γ0 : S → Ctx} {T1 : Type} {e1 : E} {c1 : T1 → D} {f1 : S → Option T1} {s1 : Sh} {Γ1 : S → Ctx} {T2 : Type} {e2 : E} {c2 : T2 → D} {f2 : S → Option T2} {s2 : Sh} {Γ2 : S → Ctx} (h0 : XR G Γ e0 c0 s0 f0 Γ0) (h1 : XR G Γ0 e1 c1 s1 f1 Γ1) (h2 : XR G Γ1 e2 c2 s2 f2 Γ2) : XR G Γ (.tup (.cons e0 (.cons e1 (.cons e2 .nil)))) (eT3 c0 c1 c2) (tupSh [s0, s1, s2]) (fun σ => (f0 σ).bind fun x0 => (f1 σ).bind fun x1 => (f2 σ).bind fun x2 => some (x0, x1, x2)) Γ2 :=
  r_tup (rs_cons h0 (rs_cons h1 (rs_cons h2 rs_nil))) (by simp) (fun σ v q => by
    obtain ⟨x0, q0, q⟩ := Option.bind_eq_some_iff.mp q
    obtain ⟨x1, q1, q⟩ := Option.bind_eq_some_iff.mp q
    obtain ⟨x2, q2, q⟩ := Option.bind_eq_some_iff.mp q
    cases q
    exact ⟨[c0 x0, c1 x1, c2 x2], by first | rfl | simp only [q0, q1, q2, Option.bind_some], rfl⟩)
theorem r_tup4 {T0 : Type} {e0 : E} {c0 : T0 → D} {f0 : S → Option T0} {s0 : Sh} {Γ0 : S → Ctx} {T1 : Type} {e1 : E} {c1 : T1 → D} {f1 : S → Option T1} {s1 : Sh} {Γ1 : S → Ctx} {T2 : Type} {e2 : E} {c2 : T2 → D} {f2 : S → Option T2} {s2 : Sh} {Γ2 : S → Ctx} {T3 : Type} {e3 : E} {c3 : T3 → D} {f3 : S → Option T3} {s3 : Sh} {Γ3 : S → Ctx} (h0 : XR G Γ e0 c0 s0 f0 Γ0) (h1 : XR G Γ0 e1 c1 s1 f1 Γ1) (h2 : XR G Γ1 e2 c2 s2 f2 Γ2) (h3 : XR G Γ2 e3 c3 s3 f3 Γ3) : XR G Γ (.tup (.cons e0 (.cons e1 (.cons e2 (.cons e3 .nil))))) (eT4 c0 c1 c2 c3) (tupSh [s0, s1, s2, s3]) (fun σ => (f0 σ).bind fun x0 => (f1 σ).bind fun x1 => (f2 σ).bind fun x2 => (f3 σ).bind fun x3 => some (x0, x1, x2, x3)) Γ3 :=
  r_tup (rs_cons h0 (rs_cons h1 (rs_cons h2 (rs_cons h3 rs_nil)))) (by simp) (fun σ v q => by
    obtain ⟨x0, q0, q⟩ := Option.bind_eq_some_iff.mp q
    obtain ⟨x1, q1, q⟩ := Option.bind_eq_some_iff.mp q
    obtain ⟨x2, q2, q⟩ := Option.bind_eq_some_iff.mp q
    obtain ⟨x3, q3, q⟩ := Option.bind_eq_some_iff.mp q
    cases q
    exact ⟨[c0 x0, c1 x1, c2 x2, c3 x3], by first | rfl | simp only [q0, q1, q2, q3, Option.bind_some], rfl⟩)
end VT
end

section
/-! VT: lists of unlike items; short forms. -/
namespace VT
open PySem VS L2
variable {S α β γ δ : Type} {G : VS.Env} {Γ : S → Ctx} {pu pa pb pc : Bool} {a b c e : E} {k ka kb kc : K} {ea : α → D} {eb : β → D} {ec : γ → D} {ed : δ → D} {fa : S → Option α} {fb : S → Option β} {fc : S → Option γ}
theorem andS (a b : Bool) : (if a = true then some b else some false) = some (a && b) := by cases a <;> rfl
theorem orS (a b : Bool) : (if a = true then some true else some b) = some (a || b) := by cases a <;> rfl
theorem iteS {α : Type} (c : Bool) (a b : α) : (if c = true then some a else some b) = some (if c = true then a else b) := by cases c <;> rfl
theorem XT.of_eq {t : Tst} {f g : S → Option Bool} (h : XT G pu Γ t f) (q : ∀ σ, f σ = g σ) : XT G pu Γ t g := fun σ s v r q' => h σ s v r (by rw [q]; exact q')
theorem XTs.eq {b : Bool} {t : Ts} {f g : S → Option Bool} (h : XTs G pu Γ b t f) (q : ∀ σ, f σ = g σ) : XTs G pu Γ b t g := ⟨h.1, fun σ s v r q' => h.2 σ s v r (by rw [q]; exact q')⟩
theorem XBs.eq {b : Bool} {t : Es} {f g : S → Option Bool} (h : XBs G pu Γ b t f) (q : ∀ σ, f σ = g σ) : XBs G pu Γ b t g := ⟨h.1, fun σ s v r q' => h.2 σ s v r (by rw [q]; exact q')⟩
/-! lists of unlike items -/
def eH2 (ea : α → D) (eb : β → D) (x : α × β) : D := .lst [ea x.1, eb x.2]
def eH3 (ea : α → D) (eb : β → D) (ec : γ → D) (x : α × β × γ) : D := .lst [ea x.1, eb x.2.1, ec x.2.2]
def eH4 (ea : α → D) (eb : β → D) (ec : γ → D) (ed : δ → D) (x : α × β × γ × δ) : D := .lst [ea x.1, eb x.2.1, ec x.2.2.1, ed x.2.2.2]
theorem selH20 : SelOkO (eH2 ea eb) 0 ea (fun x => some x.1) := fun x y q => by cases q; rfl
theorem selH21 : SelOkO (eH2 ea eb) 1 eb (fun x => some x.2) := fun x y q => by cases q; rfl
theorem selH30 : SelOkO (eH3 ea eb ec) 0 ea (fun x => some x.1) := fun x y q => by cases q; rfl
theorem selH31 : SelOkO (eH3 ea eb ec) 1 eb (fun x => some x.2.1) := fun x y q => by cases q; rfl
theorem selH32 : SelOkO (eH3 ea eb ec) 2 ec (fun x => some x.2.2) := fun x y q => by cases q; rfl
theorem selH40 : SelOkO (eH4 ea eb ec ed) 0 ea (fun x => some x.1) := fun x y q => by cases q; rfl
theorem selH41 : SelOkO (eH4 ea eb ec ed) 1 eb (fun x => some x.2.1) := fun x y q => by cases q; rfl
theorem selH42 : SelOkO (eH4 ea eb ec ed) 2 ec (fun x => some x.2.2.1) := fun x y q => by cases q; rfl
theorem selH43 : SelOkO (eH4 ea eb ec ed) 3 ed (fun x => some x.2.2.2) := fun x y q => by cases q; rfl
theorem selT40 : SelOkO (eT4 ea eb ec ed) 0 ea (fun x => some x.1) := fun x y q => by cases q; rfl
theorem selT41 : SelOkO (eT4 ea eb ec ed) 1 eb (fun x => some x.2.1) := fun x y q => by cases q; rfl
theorem selT42 : SelOkO (eT4 ea eb ec ed) 2 ec (fun x => some x.2.2.1) := fun x y q => by cases q; rfl
theorem selT43 : SelOkO (eT4 ea eb ec ed) 3 ed (fun x => some x.2.2.2) := fun x y q => by cases q; rfl
theorem dpH2 {n m : Nat} (h : Dp n ea) (h' : Dp m eb) : Dp (max n m + 1) (eH2 ea eb) := fun x => dep_lst fun d hd => by
  rcases List.mem_cons.mp hd with rfl | hd
  · exact (h _).mono (Nat.le_max_left _ _)
  · rcases List.mem_cons.mp hd with rfl | hd
    · exact (h' _).mono (Nat.le_max_right _ _)
    · cases hd
theorem dpH3 {n m p : Nat} (h : Dp n ea) (h' : Dp m eb) (h'' : Dp p ec) : Dp (max n (max m p) + 1) (eH3 ea eb ec) := fun x => dep_lst fun d hd => by
  rcases List.mem_cons.mp hd with rfl | hd
  · exact (h _).mono (Nat.le_max_left _ _)
  · rcases List.mem_cons.mp hd with rfl | hd
    · exact (h' _).mono (Nat.le_trans (Nat.le_max_left _ _) (Nat.le_max_right _ _))
    · rcases List.mem_cons.mp hd with rfl | hd
      · exact (h'' _).mono (Nat.le_trans (Nat.le_max_right _ _) (Nat.le_max_right _ _))
      · cases hd
theorem eqvH2 (h : EqvE ea) (h' : EqvE eb) : EqvE (eH2 ea eb) := fun x y => by
  show (D.eqv (ea x.1) (ea y.1) && (D.eqv (eb x.2) (eb y.2) && true)) = true ↔ _
  rw [Bool.and_true, Bool.and_eq_true, h, h', Prod.ext_iff]
theorem eqvH3 (h : EqvE ea) (h' : EqvE eb) (h'' : EqvE ec) : EqvE (eH3 ea eb ec) := fun x y => by
  show (D.eqv (ea x.1) (ea y.1) && (D.eqv (eb x.2.1) (eb y.2.1) && (D.eqv (ec x.2.2) (ec y.2.2) && true))) = true ↔ _
  rw [Bool.and_true, Bool.and_eq_true, Bool.and_eq_true, h, h', h'', Prod.ext_iff, Prod.ext_iff]
theorem x_lstH {es : Es} {ks : List K} {f : S → Option (List D)} {ss : List Sh} {sh : Sh} {g : S → Option α} (h : XEs G pu Γ es ks f) (hk : Kst ks = some ss) (hst : Kstable ks.tail = true) (hn : ks.length ≤ 1000) (hsh : ss.all (fun s => Sh.le s sh) = true) (hg : ∀ σ v, g σ = some v → ∃ ds, f σ = some ds ∧ ea v = .lst ds) :
    XE G (pu && Kms ks) Γ (.lst es) (.m (.lst sh)) ea g := fun σ s v r q => by
  obtain ⟨ds, q1, q2⟩ := hg σ v q
  obtain ⟨rs, s1, e1, r1, p1, v1⟩ := h σ s ds r q1
  obtain ⟨ms, s2, e2, r2, t2, o2, p2⟩ := toSs_ok' r1 v1 hk hst
  have hl : ms.length ≤ sizeLine := by
    have h1 := v1.len
    rw [← t2, toDs_map, List.length_map] at h1
    rw [← h1]
    exact Nat.le_trans hn (by decide)
  refine ⟨.m (.lst ms), s2, ?_, r2, fun hp => ?_, rvm (by show D.lst (M.toDs ms) = _; rw [t2, q2]) (by simp only [Sh.ok]; exact ⟨ms, rfl, oks_all o2 hsh⟩)⟩
  · unfold VS.ev
    rw [e1, bd_some, e2, bd_some, if_pos hl]
  · rw [Bool.and_eq_true] at hp
    rw [p2 hp.2, p1 hp.1]
theorem x_hl2 {p0 p1 : Bool} {e0 e1 : E} {k0 k1 : K} {ss : List Sh} {sh : Sh} {f0 : S → Option α} {f1 : S → Option β} (h0 : XE G p0 Γ e0 k0 ea f0) (h1 : XE G p1 Γ e1 k1 eb f1) (s0 : ((p1 && true) || k0.stable) = true) (s1 : (true || k1.stable) = true) (hk : Kst [k0, k1] = some ss) (hst : Kstable (List.tail [k0, k1]) = true) (hsh : ss.all (fun s => Sh.le s sh) = true) :
    XE G ((p0 && (p1 && true)) && Kms [k0, k1]) Γ (.lst (.cons e0 (.cons e1 .nil))) (.m (.lst sh)) (eH2 ea eb) (fun σ => (f0 σ).bind fun x0 => (f1 σ).bind fun x1 => some (x0, x1)) :=
  x_lstH (xs_cons h0 (xs_cons h1 xs_nil s1) s0) hk hst (by show _ ≤ 1000; simp) hsh (fun σ v q => by
    obtain ⟨x0, q0, q⟩ := Option.bind_eq_some_iff.mp q
    obtain ⟨x1, q1, q⟩ := Option.bind_eq_some_iff.mp q
    cases q
    exact ⟨[ea x0, eb x1], by simp only [q0, q1, Option.bind_some], rfl⟩)
theorem x_hl3 {p0 p1 p2 : Bool} {e0 e1 e2 : E} {k0 k1 k2 : K} {ss : List Sh} {sh : Sh} {f0 : S → Option α} {f1 : S → Option β} {f2 : S → Option γ} (h0 : XE G p0 Γ e0 k0 ea f0) (h1 : XE G p1 Γ e1 k1 eb f1) (h2 : XE G p2 Γ e2 k2 ec f2) (s0 : ((p1 && (p2 && true)) || k0.stable) = true) (s1 : ((p2 && true) || k1.stable) = true) (s2 : (true || k2.stable) = true) (hk : Kst [k0, k1, k2] = some ss) (hst : Kstable (List.tail [k0, k1, k2]) = true) (hsh : ss.all (fun s => Sh.le s sh) = true) :
    XE G ((p0 && (p1 && (p2 && true))) && Kms [k0, k1, k2]) Γ (.lst (.cons e0 (.cons e1 (.cons e2 .nil)))) (.m (.lst sh)) (eH3 ea eb ec) (fun σ => (f0 σ).bind fun x0 => (f1 σ).bind fun x1 => (f2 σ).bind fun x2 => some (x0, x1, x2)) :=
  x_lstH (xs_cons h0 (xs_cons h1 (xs_cons h2 xs_nil s2) s1) s0) hk hst (by show _ ≤ 1000; simp) hsh (fun σ v q => by
    obtain ⟨x0, q0, q⟩ := Option.bind_eq_some_iff.mp q
    obtain ⟨x1, q1, q⟩ := Option.bind_eq_some_iff.mp q
    obtain ⟨x2, q2, q⟩ := Option.bind_eq_some_iff.mp q
    cases q
    exact ⟨[ea x0, eb x1, ec x2], by simp only [q0, q1, q2, Option.bind_some], rfl⟩)
/-! the mirrors' own laws -/
theorem bsome {α β : Type} (a : α) (f : α → Option β) : (some a).bind f = f a := rfl
theorem forA_nil {α T : Type} (f : α → T → Option T) (t : T) : forA f [] t = some t := rfl
theorem forA_cons {α T : Type} (f : α → T → Option T) (x : α) (l : List α) (t : T) : forA f (x :: l) t = (f x t).bind fun t' => forA f l t' := rfl
/-- a for by its invariant over what has been walked -/
theorem forA_ok {α T : Type} {f : α → T → Option T} (I : List α → T → Prop) (l : List α) (t : T) (h0 : I [] t) (step : ∀ pre x post t, l = pre ++ x :: post → I pre t → ∃ t', f x t = some t' ∧ I (pre ++ [x]) t') : ∃ t', forA f l t = some t' ∧ I l t' := by
  have key : ∀ (post pre : List α) (t : T), l = pre ++ post → I pre t → ∃ t', forA f post t = some t' ∧ I l t' := by
    intro post
    induction post with
    | nil => intro pre t hl hi; rw [List.append_nil] at hl; subst hl; exact ⟨t, rfl, hi⟩
    | cons x post ih =>
      intro pre t hl hi
      obtain ⟨t1, h1, h2⟩ := step pre x post t hl hi
      obtain ⟨t2, h3, h4⟩ := ih (pre ++ [x]) t1 (by rw [hl, List.append_assoc]; rfl) h2
      exact ⟨t2, by rw [forA_cons, h1, bsome, h3], h4⟩
  exact key l [] t rfl h0
/-- .. for a plain invariant -/
theorem forA_all {α T : Type} {f : α → T → Option T} (I : T → Prop) (l : List α) (t : T) (h0 : I t) (step : ∀ x t, x ∈ l → I t → ∃ t', f x t = some t' ∧ I t') : ∃ t', forA f l t = some t' ∧ I t' :=
  forA_ok (fun _ t => I t) l t h0 fun pre x post t hl hi => step x t (by rw [hl]; simp) hi
/-- .. by the number of turns -/
theorem forA_num {α T : Type} {f : α → T → Option T} (I : Nat → T → Prop) (l : List α) (t : T) (h0 : I 0 t) (step : ∀ i (hi : i < l.length) t, I i t → ∃ t', f l[i] t = some t' ∧ I (i + 1) t') : ∃ t', forA f l t = some t' ∧ I l.length t' :=
  forA_ok (fun pre t => I pre.length t) l t h0 fun pre x post t hl hi => by
    have hlt : pre.length < l.length := by rw [hl]; simp
    obtain ⟨t', h1, h2⟩ := step pre.length hlt t hi
    have hx : l[pre.length] = x := by subst hl; simp
    rw [hx] at h1
    exact ⟨t', h1, by rw [List.length_append]; exact h2⟩
theorem forB_ok {α T R : Type} {f : α → T → Option (F T R)} (I : List α → T → Prop) (P : R → Prop) (B : T → Prop) (l : List α) (t : T) (h0 : I [] t) (step : ∀ pre x post t, l = pre ++ x :: post → I pre t → ∃ r, f x t = some r ∧ (match r with | .go t' => I (pre ++ [x]) t' | .brk t' => B t' | .ret v => P v)) : ∃ r, forB f l t = some r ∧ (match r with | .go t' => I l t' | .brk t' => B t' | .ret v => P v) := by
  have key : ∀ (post pre : List α) (t : T), l = pre ++ post → I pre t → ∃ r, forB f post t = some r ∧ (match r with | .go t' => I l t' | .brk t' => B t' | .ret v => P v) := by
    intro post
    induction post with
    | nil => intro pre t hl hi; rw [List.append_nil] at hl; subst hl; exact ⟨.go t, rfl, hi⟩
    | cons x post ih =>
      intro pre t hl hi
      obtain ⟨r, h1, h2⟩ := step pre x post t hl hi
      unfold forB
      rw [h1]
      cases r with
      | go t1 => exact ih (pre ++ [x]) t1 (by rw [hl, List.append_assoc]; rfl) h2
      | brk t1 => exact ⟨.brk t1, rfl, h2⟩
      | ret v => exact ⟨.ret v, rfl, h2⟩
  exact key l [] t rfl h0
theorem mapO_some {α β : Type} (f : α → β) : ∀ l : List α, mapO (fun x => some (f x)) l = some (l.map f)
  | [] => rfl
  | x :: l => by unfold mapO; rw [bsome, mapO_some f l]; rfl
theorem mapO_eq {α β : Type} {f : α → Option β} {g : α → β} : ∀ {l : List α}, (∀ x ∈ l, f x = some (g x)) → mapO f l = some (l.map g)
  | [], _ => rfl
  | x :: l, h => by unfold mapO; rw [h x List.mem_cons_self, bsome, mapO_eq fun y hy => h y (List.mem_cons_of_mem _ hy)]; rfl
theorem mapIf_eq {α β : Type} {c : α → Option Bool} {d : α → Bool} {f : α → Option β} {g : α → β} : ∀ {l : List α}, (∀ x ∈ l, c x = some (d x)) → (∀ x ∈ l, d x = true → f x = some (g x)) → mapIf c f l = some ((l.filter d).map g)
  | [], _, _ => rfl
  | x :: l, h, k => by
    unfold mapIf
    rw [h x List.mem_cons_self, bsome, mapIf_eq (fun y hy => h y (List.mem_cons_of_mem _ hy)) (fun y hy => k y (List.mem_cons_of_mem _ hy)), List.filter_cons]
    cases hd : d x with
    | false => rfl
    | true => rw [if_pos rfl, if_pos rfl, k x List.mem_cons_self hd]; rfl
theorem lim_ok {α : Type} {l : List α} (h : l.length ≤ 1000000) : lim l = some l := by rw [lim_def]; exact if_pos (Nat.le_trans h (by decide))
theorem push_ok' {α : Type} {l : List α} (x : α) (h : l.length < 1000000) : push l x = some (l ++ [x]) := by rw [push_def]; exact if_pos (Nat.lt_of_lt_of_le h (by decide))
theorem extL_ok {α : Type} {l r : List α} (h : l.length + r.length ≤ 1000000) : extL l r = some (l ++ r) := by rw [extL_def]; exact if_pos (Nat.le_trans h (by decide))
theorem mulI_r {a b : Int} (h : -(2 ^ 64) < b ∧ b < 2 ^ 64) : mulI a b = some (a * b) := by rw [mulI_def]; exact if_pos (by rw [small_of h, Bool.or_true])
theorem mulI_l {a b : Int} (h : -(2 ^ 64) < a ∧ a < 2 ^ 64) : mulI a b = some (a * b) := by rw [mulI_def]; exact if_pos (by rw [small_of h, Bool.true_or])
theorem modI_ok {a b : Int} (h : 0 < b) : modI a b = some (a % b) := by rw [modI_def]; exact if_pos h
theorem fdivI_ok {a b : Int} (h : 0 < b ∧ b < 1073741824) : fdivI a b = some (a / b) := by rw [fdivI_def]; exact if_pos h
theorem small62_ok {i : Int} (h : -(2 ^ 62) ≤ i ∧ i < 2 ^ 62) : small62 i = true := by
  unfold small62
  rw [Bool.and_eq_true]
  exact ⟨decide_eq_true h.1, decide_eq_true h.2⟩
theorem range1_ok {n : Int} (h : -(2 ^ 62) ≤ n ∧ n < 2 ^ 62) : range1 n = some (rangeI 0 n) := by rw [range1_def]; exact if_pos (small62_ok h)
theorem range2_ok {a b : Int} (h : -(2 ^ 62) ≤ a ∧ a < 2 ^ 62) (h' : -(2 ^ 62) ≤ b ∧ b < 2 ^ 62) : range2 a b = some (rangeI a b) := by rw [range2_def]; exact if_pos (by rw [small62_ok h, small62_ok h']; rfl)
theorem rangeI_len (a b : Int) : (rangeI a b).length = (b - a).toNat := by unfold rangeI; rw [List.length_map, List.length_range]
theorem rangeI_mem {a b x : Int} : x ∈ rangeI a b ↔ a ≤ x ∧ x < b := by
  unfold rangeI
  rw [List.mem_map]
  constructor
  · rintro ⟨k, hk, rfl⟩
    rw [List.mem_range] at hk
    omega
  · rintro ⟨h1, h2⟩
    exact ⟨(x - a).toNat, by rw [List.mem_range]; omega, by omega⟩
theorem rangeI_get {a b : Int} {i : Nat} (h : i < (rangeI a b).length) : (rangeI a b)[i] = a + i := by
  simp only [rangeI, List.getElem_map, List.getElem_range]
theorem rangeI_succ {a b : Int} (h : a < b) : rangeI a b = a :: rangeI (a + 1) b := by
  unfold rangeI
  rw [show (b - a).toNat = (b - (a + 1)).toNat + 1 by omega, List.range_succ_eq_map, List.map_cons, List.map_map]
  congr 1
  · simp
  · apply List.map_congr_left
    intro x _
    show a + ((x + 1 : Nat) : Int) = a + 1 + (x : Int)
    omega
theorem rangeI_nil {a b : Int} (h : b ≤ a) : rangeI a b = [] := by
  unfold rangeI
  rw [show (b - a).toNat = 0 by omega]; rfl
theorem nth_ok {α : Type} {l : List α} {i : Int} (h0 : 0 ≤ i) (h1 : i < l.length) : nth l i = some (l[i.toNat]'(by omega)) := by
  rw [nth_def]
  unfold L2.atI ixN
  rw [if_pos h0, if_pos h1, ob_some, List.getElem?_eq_getElem]
theorem nth_nat {α : Type} {l : List α} {i : Nat} (h1 : i < l.length) : nth l (i : Int) = some l[i] := by rw [nth_def]; exact VS.atI_nat l i h1
theorem putL_ok {α : Type} {l : List α} {i : Int} {x : α} (h0 : 0 ≤ i) (h1 : i < l.length) : putL l i x = some (l.set i.toNat x) := by
  rw [putL_def]
  unfold ixN
  rw [if_pos h0, if_pos h1]; rfl
end VT
end

section
/-! VT: what goes well, and how. -/
namespace VT
open PySem VS L2

/-- it is there, and so -/
def Wl {α : Type} (x : Option α) (P : α → Prop) : Prop := ∃ a, x = some a ∧ P a
variable {α β γ T R : Type}
theorem Wl.pure {a : α} {P : α → Prop} (h : P a) : Wl (some a) P := ⟨a, rfl, h⟩
theorem Wl.bind {x : Option α} {f : α → Option β} {P : α → Prop} {Q : β → Prop} (h : Wl x P) (k : ∀ a, P a → Wl (f a) Q) : Wl (x.bind f) Q := by
  obtain ⟨a, rfl, h⟩ := h
  exact k a h
theorem Wl.mono {x : Option α} {P Q : α → Prop} (h : Wl x P) (k : ∀ a, P a → Q a) : Wl x Q := by
  obtain ⟨a, e, h⟩ := h
  exact ⟨a, e, k a h⟩
theorem Wl.ite {c : Prop} [Decidable c] {x y : Option α} {P : α → Prop} (h1 : c → Wl x P) (h2 : ¬c → Wl y P) : Wl (if c then x else y) P := by
  by_cases h : c
  · rw [if_pos h]; exact h1 h
  · rw [if_neg h]; exact h2 h
theorem Wl.eq {x : Option α} {a : α} (h : Wl x (fun b => b = a)) : x = some a := by
  obtain ⟨b, e, rfl⟩ := h
  exact e
theorem Wl.of_eq {x : Option α} {a : α} (h : x = some a) : Wl x (fun b => b = a) := ⟨a, h, rfl⟩
theorem Wl.and {x : Option α} {P Q : α → Prop} (h : Wl x P) (k : Wl x Q) : Wl x (fun a => P a ∧ Q a) := by
  obtain ⟨a, e, h⟩ := h
  obtain ⟨b, e', k⟩ := k
  rw [e] at e'
  cases e'
  exact ⟨a, e, h, k⟩
theorem nthOk {l : List α} {i : Int} (h0 : 0 ≤ i) (h1 : i < l.length) : Wl (nth l i) (fun x => x ∈ l) := ⟨_, nth_ok h0 h1, List.getElem_mem _⟩
theorem pushOk {l : List α} {x : α} (h : l.length < 1000000) : Wl (push l x) (fun r => r = l ++ [x]) := ⟨_, push_ok' x h, rfl⟩
theorem limOk {l : List α} (h : l.length ≤ 1000000) : Wl (lim l) (fun r => r = l) := ⟨_, lim_ok h, rfl⟩
theorem forAOk {f : α → T → Option T} (I : List α → T → Prop) {l : List α} {t : T} (h0 : I [] t) (step : ∀ pre x post t, l = pre ++ x :: post → I pre t → Wl (f x t) (fun t' => I (pre ++ [x]) t')) : Wl (forA f l t) (fun t' => I l t') := forA_ok I l t h0 step
theorem forAAll {f : α → T → Option T} (I : T → Prop) {l : List α} {t : T} (h0 : I t) (step : ∀ x t, x ∈ l → I t → Wl (f x t) I) : Wl (forA f l t) I := forA_all I l t h0 step
/-- by the number of turns -/
theorem forANum {f : α → T → Option T} (I : Nat → T → Prop) {l : List α} {t : T} (h0 : I 0 t) (step : ∀ (i : Nat) (x : α) (t : T), l[i]? = some x → I i t → Wl (f x t) (fun t' => I (i + 1) t')) : Wl (forA f l t) (fun t' => I l.length t') :=
  forA_ok (fun pre t => I pre.length t) l t h0 fun pre x post t hl hi => by
    have := step pre.length x t (by rw [hl]; simp) hi
    rw [List.length_append]; exact this
theorem forAEq {f : α → T → Option T} {g : T → α → T} (I : T → Prop) {l : List α} {t : T} (h0 : I t) (step : ∀ x t, x ∈ l → I t → f x t = some (g t x) ∧ I (g t x)) : forA f l t = some (l.foldl g t) ∧ I (l.foldl g t) := by
  induction l generalizing t with
  | nil => exact ⟨rfl, h0⟩
  | cons x l ih =>
    obtain ⟨h1, h2⟩ := step x t List.mem_cons_self h0
    rw [forA_cons, h1, bsome]
    exact ih h2 fun y t hy => step y t (List.mem_cons_of_mem _ hy)
/-- a loop that never leaves -/
theorem forBOk {f : α → T → Option (F T R)} (I : List α → T → Prop) (P : R → Prop) (B : T → Prop) {l : List α} {t : T} (h0 : I [] t) (step : ∀ pre x post t, l = pre ++ x :: post → I pre t → Wl (f x t) (fun r => match r with | .go t' => I (pre ++ [x]) t' | .brk t' => B t' | .ret v => P v)) : Wl (forB f l t) (fun r => match r with | .go t' => I l t' | .brk t' => B t' | .ret v => P v) := forB_ok I P B l t h0 step
theorem forBGo {f : α → T → Option (F T R)} {l : List α} {t : T} (h : ∀ x ∈ l, f x t = some (.go t)) : forB f l t = some (.go t) := by
  induction l with
  | nil => rfl
  | cons x l ih =>
    unfold forB
    rw [h x List.mem_cons_self]
    exact ih fun y hy => h y (List.mem_cons_of_mem _ hy)
/-- a search: the first item that leaves, or none -/
theorem forBSearch {f : α → Unit → Option (F Unit R)} {l : List α} {p : α → Bool} {v : R} (h : ∀ x ∈ l, f x () = some (if p x then .ret v else .go ())) : forB f l () = some (if l.any p then .ret v else .go ()) := by
  induction l with
  | nil => rfl
  | cons x l ih =>
    unfold forB
    rw [h x List.mem_cons_self, List.any_cons]
    cases hp : p x with
    | true => rfl
    | false => exact ih fun y hy => h y (List.mem_cons_of_mem _ hy)
theorem whileAOk {c : T → Option Bool} {f : T → Option T} (I : T → Prop) (μ : T → Nat) {P : T → Prop} {t : T} (ht : I t) (step : ∀ t, I t → (c t = some false ∧ P t) ∨ (c t = some true ∧ Wl (f t) (fun t' => I t' ∧ μ t' < μ t))) : Wl (whileA c f t) P := whileA_ok I μ P step t ht
theorem mapOOk {f : α → Option β} (R : α → β → Prop) : ∀ {l : List α}, (∀ x ∈ l, Wl (f x) (R x)) → Wl (mapO f l) (fun r => r.length = l.length ∧ ∀ (i : Nat) (x : α) (y : β), l[i]? = some x → r[i]? = some y → R x y)
  | [], _ => ⟨[], rfl, rfl, fun i x y h => by simp at h⟩
  | x :: l, h => by
    obtain ⟨y, h1, h2⟩ := h x List.mem_cons_self
    obtain ⟨r, h3, h4, h5⟩ := mapOOk R (l := l) fun z hz => h z (List.mem_cons_of_mem _ hz)
    refine ⟨y :: r, by unfold mapO; rw [h1, bsome, h3]; rfl, by rw [List.length_cons, List.length_cons, h4], fun i a b ha hb => ?_⟩
    cases i with
    | zero => cases ha; cases hb; exact h2
    | succ i => exact h5 i a b (by simpa using ha) (by simpa using hb)
theorem mapOAll {f : α → Option β} (P : β → Prop) {l : List α} (h : ∀ x ∈ l, Wl (f x) P) : Wl (mapO f l) (fun r => r.length = l.length ∧ ∀ y ∈ r, P y) :=
  (mapOOk (fun _ y => P y) h).mono fun r ⟨h1, h2⟩ => ⟨h1, fun y hy => by
    obtain ⟨i, hi, rfl⟩ := List.getElem_of_mem hy
    exact h2 i (l[i]'(by omega)) _ (List.getElem?_eq_getElem _) (List.getElem?_eq_getElem hi)⟩
/-! lists -/
theorem nodup_len [DecidableEq α] : ∀ {l r : List α}, l.Nodup → (∀ x ∈ l, x ∈ r) → l.length ≤ r.length
  | [], _, _, _ => by simp
  | a :: l, r, hn, hs => by
    rw [List.nodup_cons] at hn
    have ha : a ∈ r := hs a List.mem_cons_self
    have h := nodup_len (l := l) (r := r.erase a) hn.2 fun x hx => by
      have hx' := hs x (List.mem_cons_of_mem _ hx)
      refine (List.mem_erase_of_ne ?_).mpr hx'
      intro e
      subst e
      exact hn.1 hx
    rw [List.length_erase_of_mem ha] at h
    have : 0 < r.length := List.length_pos_of_mem ha
    rw [List.length_cons]
    omega
theorem nodup_range {l : List Int} {n : Nat} (hn : l.Nodup) (h : ∀ x ∈ l, 0 ≤ x ∧ x < (n : Int)) : l.length ≤ n := by
  have := nodup_len hn (r := rangeI 0 n) fun x hx => rangeI_mem.mpr (h x hx)
  rw [rangeI_len] at this
  omega
theorem cut_mem {l : List α} {a b : Option Int} {x : α} (h : x ∈ cut l a b) : x ∈ l := by
  unfold cut at h
  exact (List.drop_sublist _ l).subset ((List.take_sublist _ _).subset h)
theorem insI_mem {x y : Int} : ∀ {l : List Int}, y ∈ insI x l ↔ y = x ∨ y ∈ l
  | [] => by simp [insI]
  | z :: l => by
    unfold insI
    split
    · simp
    · rw [List.mem_cons, insI_mem (l := l), List.mem_cons]
      constructor
      · rintro (h | h | h)
        · exact .inr (.inl h)
        · exact .inl h
        · exact .inr (.inr h)
      · rintro (h | h | h)
        · exact .inr (.inl h)
        · exact .inl h
        · exact .inr (.inr h)
theorem sortI_mem {y : Int} : ∀ {l : List Int}, y ∈ sortI l ↔ y ∈ l
  | [] => by simp [sortI]
  | x :: l => by unfold sortI; rw [insI_mem, sortI_mem, List.mem_cons]
theorem insI_len (x : Int) : ∀ l : List Int, (insI x l).length = l.length + 1
  | [] => rfl
  | z :: l => by
    unfold insI
    split
    · rfl
    · rw [List.length_cons, insI_len x l, List.length_cons]
theorem sortI_len : ∀ l : List Int, (sortI l).length = l.length
  | [] => rfl
  | x :: l => by unfold sortI; rw [insI_len, sortI_len, List.length_cons]
theorem emod_rng (a : Int) {n : Int} (h : 0 < n) : 0 ≤ a % n ∧ a % n < n := ⟨Int.emod_nonneg _ (by omega), Int.emod_lt_of_pos _ h⟩
theorem get_of_mem {l : List α} {x : α} (h : x ∈ l) : ∃ i : Nat, l[i]? = some x := List.getElem?_of_mem h
/-- the law says True -/
theorem says_of {con : Nat → D} {prog : List Def} {n k : Nat} {ns : List Int} (h : Cd (GE WL0 con prog n) k [eR ns] (eB true) .fl) : ∃ outs, callN WL0 con prog n k [.fz (.scr ns)] = some (.fz (.bl true), outs) := by
  obtain ⟨m, outs, h1, h2, h3⟩ := h
  simp only [Sh.ok] at h3
  obtain ⟨d, rfl, _⟩ := h3
  have h2 : d = .bl true := h2
  subst h2
  exact ⟨outs, h1⟩
end VT
end

section
/-! VT: texts. -/
namespace VT
open PySem VS L2
variable {S α β γ : Type} {G : VS.Env} {Γ : S → Ctx} {pu pa pb pc : Bool} {a b c e : E} {k ka kb kc : K} {ea : α → D} {eb : β → D}
theorem strOk_app {x y : Str} (h1 : PyData.strOk x = true) (h2 : PyData.strOk y = true) : PyData.strOk (x ++ y) = true := by
  unfold PyData.strOk at *
  show (x.cps ++ y.cps).all _ = true
  rw [Array.all_append, h1, h2]; rfl
theorem strOk_one {x : Str} (h : PyData.strOk x = true) {c : Nat} (hc : c ∈ x.cps.toList) : PyData.strOk ⟨#[c]⟩ = true := by
  unfold PyData.strOk at *
  rw [← Array.all_toList, List.all_eq_true] at h
  simpa using h c hc
def catT (x y : Tx) : Tx := ⟨x.1 ++ y.1, strOk_app x.2 y.2⟩
noncomputable def catS (x y : Tx) : Option Tx := lk (if x.1.length + y.1.length ≤ sizeLine then some (catT x y) else none)
theorem catS_def (x y : Tx) : catS x y = (if x.1.length + y.1.length ≤ sizeLine then some (catT x y) else none) := lk_eq _
theorem x_addS {fa fb : S → Option Tx} (ha : XE G pa Γ a ka eS fa) (hb : XE G pb Γ b kb eS fb) (hs : (pb || ka.stable) = true) : XE G (pa && pb) Γ (.bin .add a b) (.m .fl) eS (fun σ => (fa σ).bind fun x => (fb σ).bind fun y => catS x y) := x_bin (fun x y v q => by
  rw [catS_def] at q
  obtain ⟨h, q⟩ := of_ite q
  cases q
  intro s ra rb h1 h2
  unfold evBin
  rw [h1, h2]
  show (binF .add (.str x.1) (.str y.1)).map _ = _
  show ((if x.1.length + y.1.length ≤ sizeLine then some (D.str (x.1 ++ y.1)) else none).map _) = _
  rw [if_pos h]; rfl) lfS ha hb hs
def oneT (x : Tx) (c : Nat) : Tx := if h : c ∈ x.1.cps.toList then ⟨⟨#[c]⟩, strOk_one x.2 h⟩ else x
noncomputable def nthS (x : Tx) (i : Int) : Option Tx := lk (if x.1.length ≤ sizeLine then (atI x.1.cps.toList i).map (oneT x) else none)
theorem nthS_def (x : Tx) (i : Int) : nthS x i = (if x.1.length ≤ sizeLine then (atI x.1.cps.toList i).map (oneT x) else none) := lk_eq _
theorem ixS : IxOk eS eS (fun x i => nthS x i) := fun x i y q => by
  have q : nthS x i = some y := q
  rw [nthS_def] at q
  by_cases h : x.1.length ≤ sizeLine
  case neg => rw [if_neg h] at q; cases q
  rw [if_pos h] at q
  obtain ⟨c, h1, h2⟩ := Option.map_eq_some_iff.mp q
  have hc : c ∈ x.1.cps.toList := by
    unfold L2.atI at h1
    obtain ⟨j, _, h3⟩ := Option.bind_eq_some_iff.mp h1
    exact List.mem_of_getElem? h3
  unfold oneT at h2
  rw [dif_pos hc] at h2
  subst h2
  show (if x.1.length ≤ sizeLine then (L2.atI x.1.cps.toList i).map fun c => D.str ⟨#[c]⟩ else none) = _
  rw [if_pos h, h1]; rfl
noncomputable def lenS (x : Tx) : Option Int := lk (if x.1.length ≤ sizeLine then some (x.1.length : Int) else none)
theorem lenS_def (x : Tx) : lenS x = (if x.1.length ≤ sizeLine then some (x.1.length : Int) else none) := lk_eq _
theorem bLenS : BiOk .len eS eI (fun x => lenS x) := fun x y q => by
  have q : lenS x = some y := q
  rw [lenS_def] at q
  obtain ⟨h, q⟩ := of_ite q
  cases q
  show (if x.1.length ≤ sizeLine then some (D.int x.1.length) else none) = _
  rw [if_pos h]
theorem XR.as {enc : β → D} {fb : S → Option β} {g : β → Option α} {sh : Sh} {Γ' : S → Ctx} (h : XR G Γ e enc sh fb Γ') (q : ∀ b v, g b = some v → ea v = enc b) : XR G Γ e ea sh (fun σ => (fb σ).bind g) Γ' := fun σ s v r q' => by
  obtain ⟨w, h1, h2⟩ := Option.bind_eq_some_iff.mp q'
  obtain ⟨m, s', e1, e2, e3, e4⟩ := h σ s w r h1
  exact ⟨m, s', e1, e2, by rw [q w v h2]; exact e3, e4⟩
/-! equality of data as a whole -/
theorem eqD_self {n : Nat} {d : D} (h : Dep n d) (hn : n ≤ 64) : eqD d d = some true := by
  unfold eqD
  rw [h.shp hn, h.eqv]; rfl
theorem eqD_some {n m : Nat} {d e : D} (h : Dep n d) (h' : Dep m e) (hn : n ≤ 64) (hm : m ≤ 64) : eqD d e = some (D.eqv d e) := by
  unfold eqD
  rw [h.shp hn, h'.shp hm]; rfl
end VT
end

section
/-! VT: list(range), index, [::-1], clear, range with a step, min and max of a list. -/
namespace VT
open PySem VS L2
variable {S α β γ δ A T R : Type} {G : VS.Env} {W : WL} {Γ : S → Ctx} {pu pa pb pc : Bool} {a b c e : E} {k ka kb kc : K} {ea : α → D} {eb : β → D} {ec : γ → D} {fa : S → Option α} {fb : S → Option β} {fc : S → Option γ} {En : A → O → Prop}
noncomputable def lr1 (n : Int) : Option (List Int) := lk (if small62 n && decide (n.toNat ≤ 2 ^ 24) then some (rangeI 0 n) else none)
theorem lr1_def (n : Int) : lr1 n = (if small62 n && decide (n.toNat ≤ 2 ^ 24) then some (rangeI 0 n) else none) := lk_eq _
noncomputable def lr2 (a b : Int) : Option (List Int) := lk (if small62 a && small62 b && decide ((b - a).toNat ≤ 2 ^ 24) then some (rangeI a b) else none)
theorem lr2_def (a b : Int) : lr2 a b = (if small62 a && small62 b && decide ((b - a).toNat ≤ 2 ^ 24) then some (rangeI a b) else none) := lk_eq _
theorem lr1_ok {n : Int} (h : 0 ≤ n ∧ n < 1000000) : lr1 n = some (rangeI 0 n) := by
  rw [lr1_def, if_pos (by rw [small62_ok (by omega), decide_eq_true (by omega)]; rfl)]
theorem lr2_ok {a b : Int} (h : 0 ≤ a ∧ a < 1000000) (h' : 0 ≤ b ∧ b < 1000000) : lr2 a b = some (rangeI a b) := by
  rw [lr2_def, if_pos (by rw [small62_ok (by omega), small62_ok (by omega), decide_eq_true (by omega)]; rfl)]
theorem x_lrange1 {fi : S → Option Int} (h : XE G pa Γ a ka eI fi) : XE G pa Γ (.lrange (.cons a .nil)) (.m (.lst .fl)) (eL eI) (fun σ => (fi σ).bind fun n => lr1 n) := fun σ s v r q => by
  obtain ⟨x, q1, q⟩ := Option.bind_eq_some_iff.mp q
  rw [lr1_def] at q
  obtain ⟨hn, q⟩ := of_ite q
  cases q
  obtain ⟨ra, s1, e1, r1, p1, v1⟩ := h σ s x r q1
  refine ⟨.m (.lst (((rangeI 0 x).map eI).map .fz)), s1, ?_, r1, p1, rvm (lst_toD _) ((lshl lfI).ok _)⟩
  unfold VS.ev VS.evs
  rw [e1, bd_some]
  unfold VS.evs
  rw [bd_some, bd_some, toVs_cons, toV_ok r1 v1, ob_some]
  show ((if small62 x && decide (x.toNat ≤ 2 ^ 24) then some (rangeL 0 x) else none).map _) = _
  rw [if_pos hn, rangeL_I]; rfl
theorem x_lrange2 {fi fj : S → Option Int} (ha : XE G pa Γ a ka eI fi) (hb : XE G pb Γ b kb eI fj) (hs : (pb || ka.stable) = true) : XE G (pa && pb) Γ (.lrange (.cons a (.cons b .nil))) (.m (.lst .fl)) (eL eI) (fun σ => (fi σ).bind fun x => (fj σ).bind fun y => lr2 x y) := fun σ s v r q => by
  obtain ⟨x, y, ra, rb, s1, s2, q, e1, e2, r2, p2, v1, v2⟩ := two ha hb hs r q
  rw [lr2_def] at q
  obtain ⟨hn, q⟩ := of_ite q
  cases q
  refine ⟨.m (.lst (((rangeI x y).map eI).map .fz)), s2, ?_, r2, p2, rvm (lst_toD _) ((lshl lfI).ok _)⟩
  unfold VS.ev VS.evs
  rw [e1, bd_some]
  unfold VS.evs
  rw [e2, bd_some]
  unfold VS.evs
  rw [bd_some, bd_some, bd_some, toVs_cons, toV_ok r2 v1, ob_some, toVs_cons, toV_ok r2 v2]
  show ((if small62 x && small62 y && decide ((y - x).toNat ≤ 2 ^ 24) then some (rangeL x y) else none).map _) = _
  rw [if_pos hn, rangeL_I]; rfl
theorem x_revs {fa : S → Option (List α)} {sh : Sh} (hl : LSh ea sh) (hk : ka.ct = true) (ha : XE G pa Γ a ka (eL ea) fa) : XE G (ka.mp pa) Γ (.revs a) (.m sh) (eL ea) (fun σ => (fa σ).bind fun x => some x.reverse) := fun σ s v r q => by
  obtain ⟨rr, s', e1, h⟩ := x_rev hl hk ha σ s v r q
  refine ⟨rr, s', ?_, h⟩
  rw [← e1]
  rw [VS.ev, VS.ev]
noncomputable def idxOf {α : Type} [DecidableEq α] (l : List α) (x : α) : Option Int := lk ((l.findIdx? fun y => decide (y = x)).map fun j => ((j : Nat) : Int))
theorem idxOf_def {α : Type} [DecidableEq α] (l : List α) (x : α) : idxOf l x = ((l.findIdx? fun y => decide (y = x)).map fun j => ((j : Nat) : Int)) := lk_eq _
theorem idxOf_ok {α : Type} [DecidableEq α] {l : List α} {x : α} (h : x ∈ l) : ∃ i : Nat, idxOf l x = some (i : Int) ∧ l[i]? = some x ∧ ∀ j : Nat, j < i → l[j]? ≠ some x := by
  rw [idxOf_def]
  cases hf : l.findIdx? fun y => decide (y = x) with
  | none =>
    rw [List.findIdx?_eq_none_iff] at hf
    have := hf x h
    simp at this
  | some i =>
    obtain ⟨hi, h1, h2⟩ := List.findIdx?_eq_some_iff_getElem.mp hf
    refine ⟨i, rfl, ?_, fun j hj e => ?_⟩
    · rw [List.getElem?_eq_getElem hi]
      simpa using h1
    · have := h2 j hj
      obtain ⟨hl, e⟩ := List.getElem?_eq_some_iff.mp e
      simp [e] at this
theorem x_index [DecidableEq α] {fl : S → Option (List α)} (h : EqE ea) (hl : ∀ l : List α, (eL ea l).shp = true) (ha : XE G pa Γ a ka (eL ea) fl) (hb : XE G pb Γ b kb ea fa) (hs : (pb || ka.stable) = true) : XE G (pa && pb) Γ (.index a b) (.m .fl) eI (fun σ => (fl σ).bind fun l => (fa σ).bind fun x => idxOf l x) := fun σ s v r q => by
  obtain ⟨l, q1, q⟩ := Option.bind_eq_some_iff.mp q
  obtain ⟨x, q2, q⟩ := Option.bind_eq_some_iff.mp q
  obtain ⟨ra, s1, e1, r1, p1, v1⟩ := ha σ s l r q1
  obtain ⟨rb, s2, e2, r2, p2, v2⟩ := hb σ s1 x r1 q2
  have v1' : RV (Γ σ) s2 ka ra (eL ea l) := by
    cases hpb : pb with
    | true => rw [p2 hpb]; exact v1
    | false => rw [hpb, Bool.false_or] at hs; exact v1.stable hs
  rw [idxOf_def] at q
  refine ⟨.m (.fz (.int v)), s2, ?_, r2, fun hp => ?_, rvm rfl (ok_fl (lfI v))⟩
  · rw [VS.ev, e1, bd_some, toV_ok r1 v1, ob_some]
    show bd (VS.ev G b s1) (fun r s2 => (toV s2 ra).bind fun da => (toV s2 r).bind fun d => (indexD d da).bind fun j => rM j s2) = _
    rw [e2, bd_some, toV_ok r2 v1', ob_some, toV_ok r2 v2, ob_some]
    show ((if ((D.lst (l.map ea)).shp && (ea x).shp) = true then ((l.map ea).findIdx? fun y => D.eqv y (ea x)).map fun j => D.int (j : Nat) else none).bind fun j => rM j s2) = _
    rw [show (D.lst (l.map ea)).shp = true from hl l, h.shp]
    show ((((l.map ea).findIdx? fun y => D.eqv y (ea x)).map fun j => D.int (j : Nat)).bind fun j => rM j s2) = _
    rw [List.findIdx?_map]
    have : (fun y => D.eqv y (ea x)) ∘ ea = fun y => decide (y = x) := by
      funext y
      show D.eqv (ea y) (ea x) = _
      rw [Bool.eq_iff_iff, h.eqv]; simp
    rw [this]
    obtain ⟨j, w1, w2⟩ := Option.map_eq_some_iff.mp q
    rw [w1, ← w2]; rfl
  · rw [Bool.and_eq_true] at hp
    rw [p2 hp.2, p1 hp.1]
theorem bMin1 : BiOk .min1 (eL eI) eI (fun l => minI l) := fun l y q => by
  show ((intsD (l.map eI)).bind fun ns => (minI ns).map D.int) = _
  have q : minI l = some y := q
  rw [intsD_i, ob_some, q]; rfl
theorem bMax1 : BiOk .max1 (eL eI) eI (fun l => maxI l) := fun l y q => by
  show ((intsD (l.map eI)).bind fun ns => (maxI ns).map D.int) = _
  have q : maxI l = some y := q
  rw [intsD_i, ob_some, q]; rfl
def rangeI3 (a c : Int) (n : Nat) : List Int := (List.range n).map fun k => a + (k : Nat) * c
noncomputable def range3 (a b c : Int) : Option (List Int) := lk (if c ≠ 0 ∧ c.natAbs < 1073741824 ∧ Builtin.Range.small a b c = true then some (rangeI3 a c (Builtin.Range.rangeSize a b c).toNat) else none)
theorem range3_def (a b c : Int) : range3 a b c = (if c ≠ 0 ∧ c.natAbs < 1073741824 ∧ Builtin.Range.small a b c = true then some (rangeI3 a c (Builtin.Range.rangeSize a b c).toNat) else none) := lk_eq _
theorem rangeL3_I (a c : Int) (n : Nat) : rangeL3 a c n = (rangeI3 a c n).map eI := by
  unfold rangeL3 rangeI3
  rw [List.map_map]; rfl
theorem range3_neg {a b : Int} (ha : -(2 ^ 62) ≤ a ∧ a < 2 ^ 62) (hb : -(2 ^ 62) ≤ b ∧ b < 2 ^ 62) : range3 a b (-1) = some (rangeI3 a (-1) (a - b).toNat) := by
  obtain ⟨h1, h2, h3, h4⟩ := RgC.neg ha.1 ha.2 hb.1 hb.2
  rw [range3_def, if_pos ⟨h1, h2, h3⟩, h4]; rfl
theorem rangeI3_mem {a x : Int} {n : Nat} : x ∈ rangeI3 a (-1) n ↔ x ≤ a ∧ a - n < x := by
  unfold rangeI3
  rw [List.mem_map]
  constructor
  · rintro ⟨k, hk, rfl⟩
    rw [List.mem_range] at hk
    omega
  · rintro ⟨h1, h2⟩
    exact ⟨(a - x).toNat, by rw [List.mem_range]; omega, by omega⟩
theorem range3_core {fi fj fk : S → Option Int} (ha : XE G pa Γ a ka eI fi) (hb : XE G pb Γ b kb eI fj) (hc : XE G true Γ c kc eI fk) (hs : (pb || ka.stable) = true) {σ : S} {s : Sl} {v : List Int} (r : Rl (Γ σ) s) (q : ((fi σ).bind fun x => (fj σ).bind fun y => (fk σ).bind fun z => range3 x y z) = some v) :
    ∃ rs s2, VS.evs G (.cons a (.cons b (.cons c .nil))) s = some (rs, s2) ∧ ((toVs s2 rs).bind fun ds => rangeD ds) = some (v.map eI) ∧ Rl (Γ σ) s2 ∧ ((pa && pb) = true → s2 = s) := by
  obtain ⟨x, y, ra, rb, s1, s2, q, e1, e2, r2, p2, v1, v2⟩ := two ha hb hs (F := fun x y => (fk σ).bind fun z => range3 x y z) r q
  obtain ⟨z, q1, q⟩ := Option.bind_eq_some_iff.mp q
  obtain ⟨rc, s3, e3, r3, p3, v3⟩ := hc σ s2 z r2 q1
  have := p3 rfl
  subst this
  rw [range3_def] at q
  obtain ⟨hn, q⟩ := of_ite q
  cases q
  refine ⟨[ra, rb, rc], s3, ?_, ?_, r2, p2⟩
  · unfold VS.evs
    rw [e1, bd_some]
    unfold VS.evs
    rw [e2, bd_some]
    unfold VS.evs
    rw [e3, bd_some]
    unfold VS.evs
    rfl
  · rw [toVs_cons, toV_ok r2 v1, ob_some, toVs_cons, toV_ok r2 v2, ob_some, toVs_cons, toV_ok r2 v3]
    show (if z ≠ 0 ∧ z.natAbs < 1073741824 ∧ Builtin.Range.small x y z = true then some (rangeL3 x z (Builtin.Range.rangeSize x y z).toNat) else none) = _
    rw [if_pos hn, rangeL3_I]
theorem i_range3 {fi fj fk : S → Option Int} (ha : XE G pa Γ a ka eI fi) (hb : XE G pb Γ b kb eI fj) (hc : XE G true Γ c kc eI fk) (hs : (pb || ka.stable) = true) : XI G (pa && pb) Γ (.range (.cons a (.cons b (.cons c .nil)))) eI (fun σ => (fi σ).bind fun x => (fj σ).bind fun y => (fk σ).bind fun z => range3 x y z) := fun σ s v r q => by
  obtain ⟨rs, s2, e1, e2, r2, p2⟩ := range3_core ha hb hc hs r q
  refine ⟨s2, ?_, r2, p2⟩
  obtain ⟨ds, h1, h2⟩ := Option.bind_eq_some_iff.mp e2
  rw [VS.evIt, e1, bd_some, h1, ob_some, h2]; rfl
theorem il_range3 {hid : Nat → Bool} {fi fj fk : S → Option Int} (ha : XE G pa Γ a ka eI fi) (hb : XE G pb Γ b kb eI fj) (hc : XE G true Γ c kc eI fk) (hs : (pb || ka.stable) = true) : XIL G Γ hid (.range (.cons a (.cons b (.cons c .nil)))) eI (fun σ => (fi σ).bind fun x => (fj σ).bind fun y => (fk σ).bind fun z => range3 x y z) Γ (fun _ c => c) := fun σ s v r q => by
  obtain ⟨rs, s2, e1, e2, r2, p2⟩ := range3_core ha hb hc hs r q
  refine ⟨s2, none, ?_, r2, fun c s' h => h⟩
  obtain ⟨ds, h1, h2⟩ := Option.bind_eq_some_iff.mp e2
  rw [evItL, e1, bd_some, h1, ob_some, h2]; rfl
theorem s_clr {i : Nat} {s0 : Sh} {rest : Ss} {g : S → List α} {f2 : S → Option A} (hg : ∀ σ, (Γ σ)[i]? = some (some (.lst s0, eL ea (g σ)))) (hr : SX G W (fun p : S => (Γ p).set i (some (.lst .fl, eL ea []))) rest En f2) :
    SX G W Γ (.cons (.clr (.var i)) rest) En f2 := fun σ s v r q => by
  obtain ⟨ms, h1, h2, h3⟩ := lst_get r (hg σ)
  have r3 := r.set (i := i) (m := .lst []) (sh := .lst .fl) (d := eL ea []) rfl (by simp only [Sh.ok]; exact ⟨[], rfl, by simp⟩)
  obtain ⟨o, h4, h5⟩ := hr σ _ v r3 q
  refine ⟨o, ?_, h5⟩
  rw [cons_nx (s1 := s.set i (some (.lst []))), h4]
  rw [VS.exec, ev_var h1]
  show (plL s (.pl ⟨i, []⟩)).bind (fun p => (updP s p M.clr).map O.nx) = _
  rw [plL_at, h1]
  show (updP s ⟨i, []⟩ M.clr).map O.nx = _
  rw [updP_at, h1]; rfl
end VT
end

section
/-! VT: plain data (D): isinstance, len, index. -/
namespace VT
open PySem VS L2
variable {S α β γ δ A T R : Type} {G : VS.Env} {W : WL} {Γ : S → Ctx} {pu pa pb pc : Bool} {a b c e : E} {k ka kb kc : K} {ea : α → D} {eb : β → D} {ec : γ → D} {fa : S → Option α} {fb : S → Option β} {fc : S → Option γ} {En : A → O → Prop}
noncomputable def isD (t : Ty) (d : D) : Option Bool := lk (isTy t d)
theorem isD_def (t : Ty) (d : D) : isD t d = isTy t d := lk_eq _
theorem x_isinD {t : Ty} {fd : S → Option D} (h : XE G pu Γ e k eD fd) : XE G pu Γ (.isin t e) (.m .fl) eB (fun σ => (fd σ).bind fun x => isD t x) := fun σ s v r q => by
  obtain ⟨x, q1, q⟩ := Option.bind_eq_some_iff.mp q
  rw [isD_def] at q
  obtain ⟨ra, s1, e1, r1, p1, v1⟩ := h σ s x r q1
  refine ⟨.m (.fz (.bl v)), s1, ?_, r1, p1, rvm rfl (ok_fl (lfB _))⟩
  unfold VS.ev
  rw [e1, bd_some, toV_ok r1 v1, ob_some, show isTy t (eD x) = some v from q]; rfl
noncomputable def nthD (d : D) (i : Int) : Option D := lk (d.idx (.int i))
theorem nthD_def (d : D) (i : Int) : nthD d i = d.idx (.int i) := lk_eq _
theorem ixD : IxOk eD eD (fun d i => nthD d i) := fun d i y q => by
  have q : nthD d i = some y := q
  rw [nthD_def] at q
  exact q
def D.toInt? : D → Option Int
  | .int i => some i
  | _ => none
noncomputable def lenD (d : D) : Option Int := lk ((biF .len [d]).bind D.toInt?)
theorem lenD_def (d : D) : lenD d = (biF .len [d]).bind D.toInt? := lk_eq _
theorem bLenD : BiOk .len eD eI (fun d => lenD d) := fun d y q => by
  have q : lenD d = some y := q
  rw [lenD_def] at q
  obtain ⟨r, h1, h2⟩ := Option.bind_eq_some_iff.mp q
  cases r <;> cases h2
  exact h1
end VT
end

section
/-! VT: a list within an own tuple is changed. -/
namespace VT
open PySem VS L2
variable {S α β γ δ A T R : Type} {G : VS.Env} {W : WL} {Γ : S → Ctx} {pu pa pb pc : Bool} {a b c e : E} {k ka kb kc : K} {ea : α → D} {eb : β → D} {ec : γ → D} {fa : S → Option α} {fb : S → Option β} {fc : S → Option γ} {En : A → O → Prop}
theorem oks_get : ∀ {ss : List Sh} {ms : List M} {j : Nat} {sh : Sh}, Sh.oks ss ms → ss[j]? = some sh → ∃ m, ms[j]? = some m ∧ sh.ok m
  | [], _, _, _, _, h => by simp at h
  | s :: ss, [], _, _, o, _ => by simp only [Sh.oks] at o
  | s :: ss, m :: ms, 0, sh, o, h => by
    simp only [Sh.oks] at o
    cases h
    exact ⟨m, rfl, o.1⟩
  | s :: ss, m :: ms, j + 1, sh, o, h => by
    simp only [Sh.oks] at o
    have := oks_get (ss := ss) (ms := ms) (j := j) (sh := sh) o.2 (by simpa using h)
    simpa using this
theorem oks_set : ∀ {ss : List Sh} {ms : List M} {j : Nat} {sh : Sh} {m : M}, Sh.oks ss ms → ss[j]? = some sh → sh.ok m → Sh.oks ss (ms.set j m)
  | [], _, _, _, _, _, h, _ => by simp at h
  | s :: ss, [], _, _, _, o, _, _ => by simp only [Sh.oks] at o
  | s :: ss, m :: ms, 0, sh, _, o, h, o2 => by
    simp only [Sh.oks] at o
    cases h
    rw [List.set_cons_zero]
    simp only [Sh.oks]
    exact ⟨o2, o.2⟩
  | s :: ss, m :: ms, j + 1, sh, _, o, h, o2 => by
    simp only [Sh.oks] at o
    rw [List.set_cons_succ]
    simp only [Sh.oks]
    exact ⟨o.1, oks_set o.2 (by simpa using h) o2⟩
/-- part j of a tuple is the list that gj says; st puts another one there -/
def TupAt {T : Type} (et : T → D) (j : Nat) (ea : α → D) (gj : T → List α) (st : T → List α → T) : Prop := ∀ t, ∃ ds, et t = .tup ds ∧ ds[j]? = some (eL ea (gj t)) ∧ ∀ l, et (st t l) = .tup (ds.set j (eL ea l))
theorem tup_get {T : Type} {et : T → D} {j : Nat} {gj : T → List α} {st : T → List α → T} (hT : TupAt et j ea gj st) {ss : List Sh} {s0 : Sh} (hss : ss[j]? = some (.lst s0)) {c : Ctx} {s : Sl} (r : Rl c s) {i : Nat} {t : T} (h : c[i]? = some (some (.tup ss, et t))) :
    ∃ ms ml, s[i]? = some (some (.tup ms)) ∧ ms[j]? = some (.lst ml) ∧ M.toDs ml = (gj t).map ea ∧ (∀ x ∈ ml, s0.ok x) ∧
      (∀ (ml' : List M) (l : List α), M.toDs ml' = l.map ea → (∀ x ∈ ml', s0.ok x) → ∀ {s2 : Sl} {c2 : Ctx}, Rl c2 s2 → Rl (c2.set i (some (.tup ss, et (st t l)))) (s2.set i (some (.tup (ms.set j (.lst ml')))))) := by
  obtain ⟨m, h1, h2, h3⟩ := r.get h
  simp only [Sh.ok] at h3
  obtain ⟨ms, rfl, h3⟩ := h3
  obtain ⟨ds, e1, e2, e3⟩ := hT t
  rw [e1] at h2
  have h2 : M.toDs ms = ds := by injection h2
  obtain ⟨mj, hm1, hm2⟩ := oks_get h3 hss
  simp only [Sh.ok] at hm2
  obtain ⟨ml, rfl, hm3⟩ := hm2
  have e4 : (M.toDs ms)[j]? = some (eL ea (gj t)) := by rw [h2]; exact e2
  rw [toDs_map, List.getElem?_map, hm1] at e4
  have e4 : D.lst (M.toDs ml) = D.lst ((gj t).map ea) := Option.some.inj e4
  refine ⟨ms, ml, h1, hm1, by injection e4, hm3, fun ml' l w1 w2 s2 c2 r2 => ?_⟩
  refine r2.set (i := i) (m := .tup (ms.set j (.lst ml'))) (sh := .tup ss) (d := et (st t l)) ?_ ?_
  · show D.tup (M.toDs _) = _
    rw [toDs_set, h2, e3 l]
    show D.tup (ds.set j (.lst (M.toDs ml'))) = _
    rw [w1]; rfl
  · simp only [Sh.ok]
    exact ⟨_, rfl, oks_set h3 hss (by simp only [Sh.ok]; exact ⟨ml', rfl, w2⟩)⟩
theorem at_nat {α : Type} {l : List α} {j : Nat} {x : α} (h : l[j]? = some x) : L2.atI l (j : Int) = some x := by
  obtain ⟨h1, h2⟩ := List.getElem?_eq_some_iff.mp h
  rw [VS.atI_nat l j h1, h2]
theorem ix_nat {n j : Nat} (h : j < n) : ixN n (j : Int) = some j := by
  unfold ixN
  rw [if_pos (by omega), if_pos (by omega)]; rfl
theorem tup_ev {s : Sl} {i j : Nat} {ms : List M} {ml : List M} (h1 : s[i]? = some (some (.tup ms))) (h2 : ms[j]? = some (.lst ml)) :
    VS.ev G (.sub (.var i) (.lit (.int (j : Nat)))) s = some (.pl ⟨i, [.int (j : Nat)]⟩, s) ∧ plL s (.pl ⟨i, [.int (j : Nat)]⟩) = some ⟨i, [.int (j : Nat)]⟩ ∧ ∀ (f : M → Option M) (m' : M), f (.lst ml) = some m' → updP s ⟨i, [.int (j : Nat)]⟩ f = some (s.set i (some (.tup (ms.set j m')))) := by
  have hg2 : getP s ⟨i, [.int (j : Nat)]⟩ = some (.lst ml) := by
    have := getP_snoc (s := s) (i := i) (path := []) (m := .tup ms) (k := .int (j : Nat)) (by rw [getP_at, h1]; rfl)
    rw [show ([] ++ [D.int (j : Nat)] : List D) = [.int (j : Nat)] from rfl] at this
    rw [this]
    exact at_nat h2
  have hj := (List.getElem?_eq_some_iff.mp h2).1
  refine ⟨?_, ?_, fun f m' hf => ?_⟩
  · rw [VS.ev, ev_var h1]
    show bd (VS.ev G (.lit (.int (j : Nat))) s) (fun ri s2 => evSub s2 (.pl ⟨i, []⟩) ri) = _
    rw [VS.ev]
    show evSub s (.pl ⟨i, []⟩) (.m (.fz (.int (j : Nat)))) = _
    rw [evSub_pl (di := .non) (k := .int (j : Nat)) rfl, look_G, show (([] : List D) ++ [D.int (j : Nat)]) = [.int (j : Nat)] from rfl, hg2]; rfl
  · show (match getP s ⟨i, [.int (j : Nat)]⟩ with
      | some (.lst _) => some (⟨i, [.int (j : Nat)]⟩ : Pl)
      | _ => none) = _
    rw [hg2]
  · show (match s[i]? with
      | some (some m0) => (M.upd f [.int (j : Nat)] m0).map fun m' => s.set i (some m')
      | _ => none) = _
    rw [h1]
    show ((ixN ms.length (j : Nat)).bind fun j => (ms[j]?).bind fun x => (M.upd f [] x).map fun x' => M.tup (ms.set j x')).map _ = _
    rw [ix_nat hj, ob_some, h2, ob_some, M.upd, hf]; rfl
theorem s_appT {T : Type} {deep : Bool} {i j : Nat} {ss : List Sh} {s0 sh : Sh} {rest : Ss} {et : T → D} {gj : T → List α} {st : T → List α → T} {g : S → T} {f2 : S × T → Option A} (hT : TupAt et j ea gj st) (hss : ss[j]? = some (.lst s0)) (hg : ∀ σ, (Γ σ)[i]? = some (some (.tup ss, et (g σ)))) (he : XE G pu Γ e k ea fa) (hk : k.st = some sh) (hp : PutSh deep ea sh s0) (hr : SX G W (fun p : S × T => (Γ p.1).set i (some (.tup ss, et p.2))) rest En f2) :
    SX G W Γ (.cons (.app deep (.sub (.var i) (.lit (.int (j : Nat)))) e) rest) En (fun σ => (fa σ).bind fun v => (push (gj (g σ)) v).bind fun l => f2 (σ, st (g σ) l)) := fun σ s v r q => by
  obtain ⟨x, q1, q⟩ := Option.bind_eq_some_iff.mp q
  obtain ⟨l, q5, q⟩ := Option.bind_eq_some_iff.mp q
  rw [push_def] at q5
  obtain ⟨hn, q5⟩ := of_ite q5
  cases q5
  obtain ⟨ms0, ml0, g1, g2, _, _, _⟩ := tup_get hT hss r (hg σ)
  obtain ⟨ra, s1, m, s2, e1, e2, r2, t2, o2⟩ := stored he hk r q1
  have po := hp.ok t2 o2
  obtain ⟨ms, ml, h1, h2, h3, h4, h5⟩ := tup_get hT hss r2 (hg σ)
  have hl : ml.length < sizeLine := by rw [toDs_len h3]; exact hn
  obtain ⟨a1, a2, _⟩ := tup_ev (G := G) g1 g2
  obtain ⟨_, _, a3⟩ := tup_ev (G := G) h1 h2
  have r5 := h5 (ml ++ [finE deep m]) (gj (g σ) ++ [x]) (by rw [toDs_app, h3, toDs_cons, po.2, List.map_append]; rfl) (fun y hy => by
    rcases List.mem_append.mp hy with hy | hy
    · exact h4 y hy
    · rw [List.mem_singleton] at hy
      subst hy
      exact po.1) r2
  obtain ⟨o, h6, h7⟩ := hr (σ, st (g σ) (gj (g σ) ++ [x])) _ v r5 q
  refine ⟨o, ?_, h7⟩
  rw [cons_nx (s1 := s2.set i (some (.tup (ms.set j (.lst (ml ++ [finE deep m])))))), h6]
  rw [VS.exec, a1, bd_some, a2, ob_some, e1, bd_some, e2, bd_some, a3 _ _ (push_ok hl)]; rfl
theorem s_clrT {T : Type} {i j : Nat} {ss : List Sh} {s0 : Sh} {rest : Ss} {et : T → D} {gj : T → List α} {st : T → List α → T} {g : S → T} {f2 : S × T → Option A} (hT : TupAt et j ea gj st) (hss : ss[j]? = some (.lst s0)) (hg : ∀ σ, (Γ σ)[i]? = some (some (.tup ss, et (g σ)))) (hr : SX G W (fun p : S × T => (Γ p.1).set i (some (.tup ss, et p.2))) rest En f2) :
    SX G W Γ (.cons (.clr (.sub (.var i) (.lit (.int (j : Nat))))) rest) En (fun σ => f2 (σ, st (g σ) [])) := fun σ s v r q => by
  obtain ⟨ms, ml, h1, h2, h3, h4, h5⟩ := tup_get hT hss r (hg σ)
  obtain ⟨a1, a2, a3⟩ := tup_ev (G := G) h1 h2
  have r5 := h5 [] [] rfl (by simp) r
  obtain ⟨o, h6, h7⟩ := hr (σ, st (g σ) []) _ v r5 q
  refine ⟨o, ?_, h7⟩
  rw [cons_nx (s1 := s.set i (some (.tup (ms.set j (.lst []))))), h6]
  rw [VS.exec, a1, bd_some, a2, ob_some, a3 M.clr (.lst []) rfl]; rfl
end VT
end

section
/-! VT: text * int. -/
namespace VT
open PySem VS L2
variable {S α β γ : Type} {G : VS.Env} {Γ : S → Ctx} {pu pa pb pc : Bool} {a b c e : E} {k ka kb kc : K} {ea : α → D} {eb : β → D}
theorem fold_ok {x : Array Nat} {p : Nat → Bool} (h : x.all p = true) : ∀ (m : Nat) (acc : Array Nat), acc.all p = true → ((List.replicate m x).foldl (· ++ ·) acc).all p = true
  | 0, acc, ha => ha
  | m + 1, acc, ha => by
    rw [List.replicate_succ, List.foldl_cons]
    exact fold_ok h m _ (by rw [Array.all_append, ha, h]; rfl)
theorem strOk_rep {x : Str} (h : PyData.strOk x = true) (n : Int) : PyData.strOk (repS x n) = true := by
  unfold repS
  split
  · unfold PyData.strOk Str.empty; simp
  · split
    · exact h
    · unfold PyData.strOk at *
      exact fold_ok h _ _ (by simp)
def repT (x : Tx) (n : Int) : Tx := ⟨repS x.1 n, strOk_rep x.2 n⟩
noncomputable def mulS (x : Tx) (n : Int) : Option Tx := lk (if n < 1000 ∧ -1000 < n ∧ x.1.length ≤ 1000 then some (repT x n) else none)
theorem mulS_def (x : Tx) (n : Int) : mulS x n = (if n < 1000 ∧ -1000 < n ∧ x.1.length ≤ 1000 then some (repT x n) else none) := lk_eq _
theorem x_mulS {fa : S → Option Tx} {fb : S → Option Int} (ha : XE G pa Γ a ka eS fa) (hb : XE G pb Γ b kb eI fb) (hs : (pb || ka.stable) = true) : XE G (pa && pb) Γ (.bin .mul a b) (.m .fl) eS (fun σ => (fa σ).bind fun x => (fb σ).bind fun y => mulS x y) := x_bin (fun x y v q => by
  rw [mulS_def] at q
  obtain ⟨h, q⟩ := of_ite q
  cases q
  intro s ra rb h1 h2
  unfold evBin
  rw [h1, h2]
  show (binF .mul (.str x.1) (.int y)).map _ = _
  show ((if y < 1000 ∧ -1000 < y ∧ x.1.length ≤ 1000 then some (D.str (repS x.1 y)) else none).map _) = _
  rw [if_pos h]; rfl) lfS ha hb hs
noncomputable def inO (x y : D) : Option Bool := lk (cmpD .in_ x y)
theorem inO_def (x y : D) : inO x y = cmpD .in_ x y := lk_eq _
noncomputable def notinO (x y : D) : Option Bool := lk (cmpD .notin x y)
theorem notinO_def (x y : D) : notinO x y = cmpD .notin x y := lk_eq _
theorem c_inO : CmpOk .in_ ea eb (fun x y => inO (ea x) (eb y)) := fun x y v q => by
  have q : inO (ea x) (eb y) = some v := q
  rw [inO_def] at q
  exact q
theorem c_notinO : CmpOk .notin ea eb (fun x y => notinO (ea x) (eb y)) := fun x y v q => by
  have q : notinO (ea x) (eb y) = some v := q
  rw [notinO_def] at q
  exact q
end VT
end

section
/-! VT: plain data: slices of tuples, walks. -/
namespace VT
open PySem VS L2
variable {S α β γ : Type} {G : VS.Env} {Γ : S → Ctx} {pu pa pb pc : Bool} {a b c e : E} {k ka kb kc : K} {ea : α → D} {eb : β → D}
theorem map_eD (v : List D) : v = List.map eD v := by
  induction v with
  | nil => rfl
  | cons x v ih => rw [List.map_cons, ← ih]; rfl
noncomputable def itemsD (d : D) : Option (List D) := lk d.items
theorem itemsD_def (d : D) : itemsD d = d.items := lk_eq _
theorem i_seqD {fa : S → Option D} (hk : ka.ct = true) (h : XE G pa Γ a ka eD fa) : XI G (ka.mp pa) Γ (.seq a) eD (fun σ => (fa σ).bind fun d => itemsD d) := fun σ s v r q => by
  obtain ⟨d, q1, q⟩ := Option.bind_eq_some_iff.mp q
  rw [itemsD_def] at q
  obtain ⟨ra, s1, e1, r1, p1, v1⟩ := h σ s d r q1
  obtain ⟨s2, e2, r2, p2⟩ := toC_ok r1 v1 hk (ds := v) q
  refine ⟨s2, ?_, r2, fun hp => ?_⟩
  · unfold VS.evIt
    rw [e1, bd_some, e2, ← map_eD]
  · cases ka with
    | m sh => rw [p2 sh (.inl rfl)]; exact p1 hp
    | p sh => rw [p2 sh (.inr rfl)]; exact p1 hp
    | w => cases hp
    | u => cases hp
theorem il_mD {hid : Nat → Bool} {sh : Sh} {fa : S → Option D} (h : XE G pu Γ e (.m sh) eD fa) : XIL G Γ hid (.seq e) eD (fun σ => (fa σ).bind fun d => itemsD d) Γ (fun _ c => c) := fun σ s v r q => by
  obtain ⟨d, q1, q⟩ := Option.bind_eq_some_iff.mp q
  rw [itemsD_def] at q
  obtain ⟨ra, s1, e1, r1, p1, m, rfl, t1, o1⟩ := h σ s d r q1
  refine ⟨s1, none, ?_, r1, fun c s' h => h⟩
  rw [evItL, e1, bd_some]
  show (m.toD.items).map _ = _
  rw [t1, show (eD d).items = some v from q, ← map_eD]; rfl
noncomputable def cutD (d : D) (l h : Option Int) : Option D := lk (match d with | .tup xs => some (.tup (cut xs l h)) | _ => none)
theorem cutD_tup (xs : List D) (l h : Option Int) : cutD (.tup xs) l h = some (.tup (cut xs l h)) := lk_eq _
theorem cutD_inv {d : D} {l h : Option Int} {v : D} (q : cutD d l h = some v) : ∃ xs, d = .tup xs ∧ v = .tup (cut xs l h) := by
  unfold cutD at q
  rw [lk_eq] at q
  cases d <;> first | (cases q; exact ⟨_, rfl, rfl⟩) | cases q
theorem x_slcD {fa : S → Option D} {bl bh : Bool} {fl fh : S → Option (Option Int)} (ha : XE G pa Γ a (.m .fz) eD fa) (hlo : XO G Γ bl b fl) (hhi : XO G Γ bh c fh) :
    XE G pa Γ (.slc bl bh a b c) (.m .fz) eD (fun σ => (fa σ).bind fun x => (fl σ).bind fun lo => (fh σ).bind fun hi => cutD x lo hi) := fun σ s v r q => by
  obtain ⟨x, q1, q⟩ := Option.bind_eq_some_iff.mp q
  obtain ⟨lo, q2, q⟩ := Option.bind_eq_some_iff.mp q
  obtain ⟨hi, q3, q⟩ := Option.bind_eq_some_iff.mp q
  obtain ⟨xs, rfl, rfl⟩ := cutD_inv q
  obtain ⟨ra, s1, e1, r1, p1, v1⟩ := ha σ s _ r q1
  obtain ⟨rl, e2, e3⟩ := hlo σ s1 lo r1 q2
  obtain ⟨rh, e4, e5⟩ := hhi σ s1 hi r1 q3
  have v2 := toV_ok r1 v1
  obtain ⟨m, rfl, t1, o1⟩ := v1
  have hm : m = .fz (.tup xs) := by
    cases m with
    | fz d => exact congrArg M.fz t1
    | _ => simp only [Sh.ok] at o1; cases o1
  subst hm
  refine ⟨.m (.fz (.tup (cut xs lo hi))), s1, ?_, r1, p1, rvm rfl (ok_fz _)⟩
  unfold VS.ev
  rw [e1, bd_some, e2, bd_some, e3, ob_some, e4, bd_some, e5, ob_some]
  unfold evSlc
  rw [v2, ob_some]
  rfl
end VT
end

section
/-! VT: plain data seen as typed data. -/
namespace VT
open PySem VS L2
noncomputable def asI (d : D) : Option Int := lk (match d with | .int i => some i | _ => none)
theorem asI_def (d : D) : asI d = (match d with | .int i => some i | _ => none) := lk_eq _
theorem asI_int (i : Int) : asI (.int i) = some i := asI_def _
theorem asI_ok {d : D} {i : Int} (h : asI d = some i) : eI i = d := by
  rw [asI_def] at h; split at h
  · cases h; rfl
  · cases h
noncomputable def asB (d : D) : Option Bool := lk (match d with | .bl i => some i | _ => none)
theorem asB_def (d : D) : asB d = (match d with | .bl i => some i | _ => none) := lk_eq _
theorem asB_bl (i : Bool) : asB (.bl i) = some i := asB_def _
theorem asB_ok {d : D} {i : Bool} (h : asB d = some i) : eB i = d := by
  rw [asB_def] at h; split at h
  · cases h; rfl
  · cases h
noncomputable def asL (d : D) : Option (List D) := lk (match d with | .lst i => some i | _ => none)
theorem asL_def (d : D) : asL d = (match d with | .lst i => some i | _ => none) := lk_eq _
theorem asL_lst (i : List D) : asL (.lst i) = some i := asL_def _
theorem asL_ok {d : D} {i : List D} (h : asL d = some i) : eL eD i = d := by
  rw [asL_def] at h; split at h
  · cases h; show D.lst (List.map eD _) = _; rw [← map_eD]
  · cases h
noncomputable def asS (d : D) : Option Tx := lk (match d with | .str x => (if h : PyData.strOk x = true then some ⟨x, h⟩ else none) | _ => none)
theorem asS_def (d : D) : asS d = (match d with | .str x => (if h : PyData.strOk x = true then some ⟨x, h⟩ else none) | _ => none) := lk_eq _
theorem asS_str (x : Tx) : asS (eS x) = some x := by
  rw [asS_def]
  show (if h : PyData.strOk x.1 = true then some (⟨x.1, h⟩ : Tx) else none) = _
  rw [dif_pos x.2]
theorem asS_ok {d : D} {i : Tx} (h : asS d = some i) : eS i = d := by
  rw [asS_def] at h; split at h
  · split at h
    · cases h; rfl
    · cases h
  · cases h
section
variable {S : Type} {α β γ δ : Type} {G : VS.Env} {Γ : S → Ctx} {pu : Bool} {ea : α → D} {eb : β → D} {ec : γ → D} {ed : δ → D}
theorem x_tupV {es : Es} {ks : List K} {f : S → Option (List α)} {ss : List Sh} (h : XL G pu Γ es ks ea f) (hk : Kst ks = some ss) (hst : Kstable ks.tail = true) (hn : ks.length ≤ 1000) :
    XE G (pu && Kms ks) Γ (.tup es) (.m (tupSh ss)) (eV ea) f := x_tup h hk hst hn (fun σ v q => ⟨v.map ea, by show (f σ).map _ = _; rw [q]; rfl, rfl⟩)
theorem bLenT1 : BiOk .len (eT1 ea) eI (fun _ => some 1) := fun l y q => by cases q; rfl
theorem bLenT2 : BiOk .len (eT2 ea eb) eI (fun _ => some 2) := fun l y q => by cases q; rfl
theorem bLenT3 : BiOk .len (eT3 ea eb ec) eI (fun _ => some 3) := fun l y q => by cases q; rfl
theorem bLenT4 : BiOk .len (eT4 ea eb ec ed) eI (fun _ => some 4) := fun l y q => by cases q; rfl
theorem bLenH2 : BiOk .len (eH2 ea eb) eI (fun _ => some 2) := fun l y q => by cases q; rfl
theorem bLenH3 : BiOk .len (eH3 ea eb ec) eI (fun _ => some 3) := fun l y q => by cases q; rfl
theorem bLenH4 : BiOk .len (eH4 ea eb ec ed) eI (fun _ => some 4) := fun l y q => by cases q; rfl
end
end VT
end

section
/-! VT: dicts of the module, (a, *b). -/
namespace VT
open PySem VS L2
section
variable {S : Type} {α β : Type} {G : VS.Env} {Γ : S → Ctx} {pu pa pb : Bool} {ea : α → D} {eb : β → D} {a b : E} {ka kb : K} {fa : S → Option α} {fb : S → Option (List β)}
/-- the pairs of a module's dict, typed -/
def PrOk (ea : α → D) (ps : List D) (tab : List (Tx × α)) : Prop := ps = tab.map fun p => .tup [eS p.1, ea p.2]
noncomputable def cgetT (tab : List (Tx × α)) (x : Tx) : Option α := lk ((tab.find? fun p => decide (p.1 = x)).map (·.2))
theorem cgetT_def (tab : List (Tx × α)) (x : Tx) : cgetT tab x = ((tab.find? fun p => decide (p.1 = x)).map (·.2)) := lk_eq _
noncomputable def cinT (tab : List (Tx × α)) (x : Tx) : Bool := lk (tab.any fun p => decide (p.1 = x))
theorem cinT_def (tab : List (Tx × α)) (x : Tx) : cinT tab x = (tab.any fun p => decide (p.1 = x)) := lk_eq _
theorem find_any {γ : Type} (p : γ → Bool) : ∀ l : List γ, (l.find? p).isSome = l.any p
  | [] => rfl
  | x :: l => by
    rw [List.find?_cons, List.any_cons, ← find_any p l]
    cases p x <;> rfl
theorem pairGet_tab (x : Tx) : ∀ tab : List (Tx × α), pairGet x.1 (tab.map fun p => .tup [eS p.1, ea p.2]) = (((tab.find? fun p => decide (p.1 = x)).map (·.2)).map ea)
  | [] => rfl
  | p :: tab => by
    rw [List.map_cons]
    show (if p.1.1 = x.1 then some (ea p.2) else pairGet x.1 _) = _
    rw [List.find?_cons]
    by_cases h : p.1 = x
    · rw [if_pos (by rw [h]), decide_eq_true h]; rfl
    · rw [if_neg (fun e => h (Subtype.ext e)), decide_eq_false h]
      exact pairGet_tab x tab
theorem x_cget {k : Nat} {ps : List D} {tab : List (Tx × α)} {fa : S → Option Tx} (hc : G.con (500 + k) = .tup ps) (hp : PrOk ea ps tab) (hlf : LF ea) (h : XE G pa Γ a ka eS fa) : XE G pa Γ (.cget k a) (.m .fl) ea (fun σ => (fa σ).bind fun x => cgetT tab x) := fun σ s v r q => by
  obtain ⟨x, q1, q2⟩ := Option.bind_eq_some_iff.mp q
  obtain ⟨rs, s1, e1, r1, p1, v1⟩ := h σ s x r q1
  refine ⟨.m (.fz (ea v)), s1, ?_, r1, p1, rvm rfl (ok_fl (hlf v))⟩
  unfold VS.ev
  rw [e1, bd_some, toV_ok r1 v1, ob_some, hc]
  show ((pairGet x.1 ps).bind fun y => rM y s1) = _
  rw [hp, pairGet_tab, ← cgetT_def, q2]; rfl
theorem x_cin {neg : Bool} {k : Nat} {ps : List D} {tab : List (Tx × α)} {fa : S → Option Tx} (hc : G.con (500 + k) = .tup ps) (hp : PrOk ea ps tab) (h : XE G pa Γ a ka eS fa) : XE G pa Γ (.cin neg k a) (.m .fl) eB (fun σ => (fa σ).bind fun x => some (cinT tab x != neg)) := fun σ s v r q => by
  obtain ⟨x, q1, q2⟩ := Option.bind_eq_some_iff.mp q
  obtain ⟨rs, s1, e1, r1, p1, v1⟩ := h σ s x r q1
  refine ⟨.m (.fz (eB v)), s1, ?_, r1, p1, rvm rfl (ok_fl (lfB v))⟩
  unfold VS.ev
  rw [e1, bd_some, toV_ok r1 v1, ob_some, hc]
  cases q2
  show rM (.bl ((pairGet x.1 ps).isSome != neg)) s1 = _
  rw [hp, pairGet_tab, Option.isSome_map, Option.isSome_map, find_any, ← cinT_def]; rfl
theorem t_cin {neg : Bool} {k : Nat} {ps : List D} {tab : List (Tx × α)} {fa : S → Option Tx} (hc : G.con (500 + k) = .tup ps) (hp : PrOk ea ps tab) (h : XE G pa Γ a ka eS fa) : XT G pa Γ (.cin neg k a) (fun σ => (fa σ).bind fun x => some (cinT tab x != neg)) := fun σ s v r q => by
  obtain ⟨x, q1, q2⟩ := Option.bind_eq_some_iff.mp q
  obtain ⟨rs, s1, e1, r1, p1, v1⟩ := h σ s x r q1
  refine ⟨s1, ?_, r1, p1⟩
  unfold VS.evT
  rw [e1, bd_some, toV_ok r1 v1, ob_some, hc]
  cases q2
  show ((some ((pairGet x.1 ps).isSome != neg)).bind fun b => some (b, s1)) = _
  rw [hp, pairGet_tab, Option.isSome_map, Option.isSome_map, find_any, ← cinT_def]; rfl
noncomputable def tupS (d : D) (ds : List D) : Option D := lk (if d.flat = true ∧ ds.length < sizeLine then some (.tup (d :: ds)) else none)
theorem tupS_def (d : D) (ds : List D) : tupS d ds = (if d.flat = true ∧ ds.length < sizeLine then some (.tup (d :: ds)) else none) := lk_eq _
theorem tupS_ok {d : D} {ds : List D} (h : d.flat = true) (hl : ds.length < 1000000) : tupS d ds = some (.tup (d :: ds)) := by
  rw [tupS_def, if_pos ⟨h, Nat.lt_of_lt_of_le hl (by decide)⟩]
theorem x_tupS (ha : XE G pa Γ a ka ea fa) (hb : XE G pb Γ b kb (eL eb) fb) (hs : (pb || ka.stable) = true) (hk : kb.ct = true) : XE G (kb.mp (pa && pb)) Γ (.tupS a b) (.m .fz) eD (fun σ => (fa σ).bind fun x => (fb σ).bind fun y => tupS (ea x) (y.map eb)) := fun σ s v r q => by
  obtain ⟨x, y, ra, rb, s1, s2, q, e1, e2, r2, p2, v1, v2⟩ := two ha hb hs r q
  rw [tupS_def] at q
  obtain ⟨⟨hf, hl⟩, q⟩ := of_ite q
  subst q
  obtain ⟨s3, e3, r3, p3⟩ := toC_ok r2 v2 hk (ds := y.map eb) rfl
  refine ⟨.m (.fz (.tup (ea x :: y.map eb))), s3, ?_, r3, fun hp => ?_, rvm rfl (ok_fz _)⟩
  · unfold VS.ev
    rw [e1, bd_some, e2, bd_some]
    unfold evTupS
    rw [toV_ok r2 v1]
    show (if (ea x).flat = true then _ else none) = _
    rw [if_pos hf, toV_ok r2 v2]
    show (if isLd (eL eb y) = true then _ else none) = _
    rw [e3, bd_some, if_pos hl]
    exact if_pos rfl
  · cases kb with
    | m sh => rw [p3 sh (.inl rfl)]; exact p2 hp
    | p sh => rw [p3 sh (.inr rfl)]; exact p2 hp
    | _ => cases hp
theorem x_tupSD {fb : S → Option (List D)} (ha : XE G pa Γ a ka ea fa) (hb : XE G pb Γ b kb (eL eD) fb) (hs : (pb || ka.stable) = true) (hk : kb.ct = true) : XE G (kb.mp (pa && pb)) Γ (.tupS a b) (.m .fz) eD (fun σ => (fa σ).bind fun x => (fb σ).bind fun y => tupS (ea x) y) := by
  have h := x_tupS ha hb hs hk
  have e : (fun σ => (fa σ).bind fun x => (fb σ).bind fun y => tupS (ea x) (y.map eD)) = (fun σ => (fa σ).bind fun x => (fb σ).bind fun y => tupS (ea x) y) := by
    funext σ; congr 1; funext x; congr 1; funext y; rw [← map_eD]
  rw [← e]; exact h
end
end VT
end

section
set_option maxHeartbeats 2000000
/-! VT: calls that change their arguments. -/
namespace VT
open PySem VS L2
variable {S α β A R W0 : Type} {G : VS.Env} {W : WL} {Γ : S → Ctx} {pu pa pb : Bool} {a e : E} {k ka : K} {ea : α → D} {fa : S → Option α} {En : A → O → Prop}

/-! ### contracts -/
/-- what is handed over: frozen data, or owned things of a shape -/
def Args : List (Option Sh) → List M → List D → Prop
  | [], [], [] => True
  | none :: ps, m :: ms, d :: ds => m = .fz d ∧ Args ps ms ds
  | some sh :: ps, m :: ms, d :: ds => (m.toD = d ∧ sh.ok m) ∧ Args ps ms ds
  | _, _, _ => False
def OutsT : List (Option Sh) → List M → List D → Prop
  | [], [], [] => True
  | none :: ps, _ :: ms, _ :: ds => OutsT ps ms ds
  | some sh :: ps, m :: ms, d :: ds => (m.toD = d ∧ sh.ok m) ∧ OutsT ps ms ds
  | _, _, _ => False
/-- the call answers d and leaves ws at the parameters that are changed -/
def CdI (G : VS.Env) (n : Nat) (ps : List (Option Sh)) (ds : List D) (d : D) (sh : Sh) (ws : List D) : Prop :=
  ∀ ms, Args ps ms ds → ∃ m outs, G.cd n ms = some (m, outs) ∧ m.toD = d ∧ sh.ok m ∧ OutsT ps outs ws

/-! ### arguments -/
inductive AK where
  | v (k : K) | f (sh sh' : Sh) | s (i : Nat) (sh sh' : Sh)
/-- the shape at the parameter; the slot -/
def AK.ps : AK → Option Sh
  | .v _ => none
  | .f _ sh => some sh
  | .s _ _ sh => some sh
def AK.os : AK → Option Nat
  | .v _ => none
  | .f _ _ => none
  | .s i _ _ => some i
def AK.io : AK → Bool
  | .v _ => false
  | _ => true
def AK.stable : AK → Bool
  | .v k => k.stable
  | _ => true
def AK.st : AK → Bool
  | .v k => k.st.isSome
  | .f sh sh' => Sh.le sh sh'
  | .s _ sh sh' => Sh.le sh sh'
def RA (c : Ctx) (s : Sl) : AK → Res → D → Prop
  | .v k, r, d => RV c s k r d
  | .f sh _, r, d => RV c s (.m sh) r d
  | .s i sh _, r, d => r = .pl ⟨i, []⟩ ∧ c[i]? = some (some (sh, d))
def RAs (c : Ctx) (s : Sl) : List AK → List Res → List D → Prop
  | [], [], [] => True
  | k :: ks, r :: rs, d :: ds => RA c s k r d ∧ RAs c s ks rs ds
  | _, _, _ => False
theorem RA.stable {c : Ctx} {s s' : Sl} {k : AK} {r : Res} {d : D} (h : RA c s k r d) (hk : k.stable = true) : RA c s' k r d := by
  cases k with
  | v k => exact RV.stable h hk
  | f sh sh' => exact h
  | s i sh sh' => exact h
/-- one argument -/
def XA (G : VS.Env) (pu : Bool) (Γ : S → Ctx) (e : E) (k : AK) (ea : α → D) (f : S → Option α) : Prop :=
  ∀ σ s v, Rl (Γ σ) s → f σ = some v → ∃ r s', VS.ev G e s = some (r, s') ∧ Rl (Γ σ) s' ∧ (pu = true → s' = s) ∧ RA (Γ σ) s' k r (ea v)
theorem a_v (h : XE G pu Γ e k ea fa) : XA G pu Γ e (.v k) ea fa := h
theorem a_f {sh sh' : Sh} (h : XE G pu Γ e (.m sh) ea fa) : XA G pu Γ e (.f sh sh') ea fa := h
theorem a_s {i : Nat} {sh sh' : Sh} {g : S → α} (ho : sh.own = true) (h : ∀ σ, (Γ σ)[i]? = some (some (sh, ea (g σ)))) : XA G true Γ (.var i) (.s i sh sh') ea (fun σ => some (g σ)) := fun σ s v r q => by
  cases q
  obtain ⟨m, h1, h2, h3⟩ := r.get (h σ)
  refine ⟨varR i m, s, ev_var h1, r, fun _ => rfl, ?_, h σ⟩
  cases m with
  | fz d =>
    cases sh with
    | lst s0 => simp only [Sh.ok] at h3; obtain ⟨ms, h3, _⟩ := h3; cases h3
    | tup s0 => simp only [Sh.ok] at h3; obtain ⟨ms, h3, _⟩ := h3; cases h3
    | _ => cases ho
  | _ => rfl
def XAs (G : VS.Env) (pu : Bool) (Γ : S → Ctx) (es : Es) (ks : List AK) (f : S → Option (List D)) : Prop :=
  ∀ σ s v, Rl (Γ σ) s → f σ = some v → ∃ rs s', VS.evs G es s = some (rs, s') ∧ Rl (Γ σ) s' ∧ (pu = true → s' = s) ∧ RAs (Γ σ) s' ks rs v
theorem as_nil : XAs G true Γ .nil [] (fun _ => some []) := fun σ s v r q => by
  cases q
  exact ⟨[], s, by unfold VS.evs; rfl, r, fun _ => rfl, trivial⟩
theorem as_cons {es : Es} {kk : AK} {ks : List AK} {f : S → Option (List D)} (ha : XA G pa Γ a kk ea fa) (h : XAs G pb Γ es ks f) (hs : (pb || kk.stable) = true) : XAs G (pa && pb) Γ (.cons a es) (kk :: ks) (fun σ => (fa σ).bind fun x => (f σ).bind fun l => some (ea x :: l)) := fun σ s v r q => by
  obtain ⟨x, q1, q⟩ := Option.bind_eq_some_iff.mp q
  obtain ⟨l, q2, q⟩ := Option.bind_eq_some_iff.mp q
  cases q
  obtain ⟨ra, s1, e1, r1, p1, v1⟩ := ha σ s x r q1
  obtain ⟨rs, s2, e2, r2, p2, v2⟩ := h σ s1 l r1 q2
  refine ⟨ra :: rs, s2, ?_, r2, fun hp => ?_, ?_, v2⟩
  · unfold VS.evs
    rw [e1, bd_some, e2]; rfl
  · rw [Bool.and_eq_true] at hp
    rw [p2 hp.2, p1 hp.1]
  · cases hpb : pb with
    | true => rw [p2 hpb]; exact v1
    | false =>
      rw [hpb, Bool.false_or] at hs
      exact v1.stable hs
/-- what is known while the call runs -/
def wipeA (c : Ctx) : List AK → Ctx
  | [] => c
  | .s i _ _ :: ks => wipeA (c.set i none) ks
  | _ :: ks => wipeA c ks
/-- .. and behind it -/
def backC (c : Ctx) : List AK → List D → Ctx
  | .s i _ sh :: ks, d :: ds => backC (c.set i (some (sh, d))) ks ds
  | _ :: ks, _ :: ds => backC c ks ds
  | _, _ => c
/-- the slots are different ones -/
def slotsOk : List AK → Bool
  | [] => true
  | .s i _ _ :: ks => ks.all (fun k => match k with | .s j _ _ => !(i == j) | _ => true) && slotsOk ks
  | _ :: ks => slotsOk ks
def AKst : List AK → Bool
  | [] => true
  | k :: ks => k.st && AKst ks
def AKstable : List AK → Bool
  | [] => true
  | k :: ks => k.stable && AKstable ks
theorem RAs.stable {c : Ctx} {s s' : Sl} : ∀ {ks : List AK} {rs : List Res} {ds : List D}, RAs c s ks rs ds → AKstable ks = true → RAs c s' ks rs ds
  | [], [], [], _, _ => trivial
  | [], [], _ :: _, q, _ => q.elim
  | [], _ :: _, _, q, _ => q.elim
  | _ :: _, [], _, q, _ => q.elim
  | _ :: _, _ :: _, [], q, _ => q.elim
  | k :: ks, r :: rs, d :: ds, q, h => by
    simp only [AKstable, Bool.and_eq_true] at h
    exact ⟨q.1.stable h.1, RAs.stable q.2 h.2⟩
theorem RAs.wipe {c : Ctx} {s : Sl} {i : Nat} {s' : Sl} : ∀ {ks : List AK} {rs : List Res} {ds : List D}, RAs c s ks rs ds → ks.all (fun k => match k with | .s j _ _ => !(i == j) | .v (.m _) => true | .f _ _ => true | _ => false) = true → RAs (c.set i none) s' ks rs ds
  | [], [], [], _, _ => trivial
  | [], [], _ :: _, q, _ => q.elim
  | [], _ :: _, _, q, _ => q.elim
  | _ :: _, [], _, q, _ => q.elim
  | _ :: _, _ :: _, [], q, _ => q.elim
  | k :: ks, r :: rs, d :: ds, q, h => by
    rw [List.all_cons, Bool.and_eq_true] at h
    refine ⟨?_, RAs.wipe q.2 h.2⟩
    cases k with
    | s j sh sh' =>
      have hj : i ≠ j := by simpa using h.1
      exact ⟨q.1.1, by rw [List.getElem?_set_ne hj]; exact q.1.2⟩
    | f sh sh' => exact q.1
    | v k =>
      cases k with
      | m sh => exact q.1
      | _ => have := h.1; simp at this
/-- behind a slot that is handed over all is a value or another slot -/
def ordOk : List AK → Bool
  | [] => true
  | .s i _ _ :: ks => ks.all (fun k => match k with | .s j _ _ => !(i == j) | .v (.m _) => true | .f _ _ => true | _ => false) && ordOk ks
  | _ :: ks => ordOk ks
theorem rl_none {c : Ctx} {s : Sl} (h : Rl c s) {i : Nat} : Rl (c.set i none) (s.set i none) := h.wipe
theorem ioArgs_t : ∀ {ks : List AK} {rs : List Res} {ds : List D} {c : Ctx} {s : Sl}, Rl c s → RAs c s ks rs ds → AKst ks = true → AKstable ks.tail = true → ordOk ks = true →
    ∃ ms s', ioArgs (ks.map AK.io) rs s = some ((ms, ks.map AK.os), s') ∧ Rl (wipeA c ks) s' ∧ Args (ks.map AK.ps) ms ds
  | [], [], [], c, s, r, _, _, _, _ => ⟨[], s, by simp [ioArgs], r, trivial⟩
  | [], [], _ :: _, _, _, _, q, _, _, _ => q.elim
  | [], _ :: _, _, _, _, _, q, _, _, _ => q.elim
  | _ :: _, [], _, _, _, _, q, _, _, _ => q.elim
  | _ :: _, _ :: _, [], _, _, _, q, _, _, _ => q.elim
  | k :: ks, r0 :: rs, d :: ds, c, s, r, q, hst, hsb, ho => by
    simp only [AKst, Bool.and_eq_true] at hst
    have hsb2 : AKstable ks = true := hsb
    have hsb' : AKstable ks.tail = true := by
      cases ks with
      | nil => rfl
      | cons k' ks' => simp only [AKstable, Bool.and_eq_true] at hsb2; exact hsb2.2
    cases k with
    | v k =>
      obtain ⟨sh, hk⟩ := Option.isSome_iff_exists.mp hst.1
      obtain ⟨m, s1, e1, r1, t1, o1, p1⟩ := toS_ok r q.1 hk
      have q2 : RAs c s1 ks rs ds := q.2.stable hsb2
      obtain ⟨ms, s2, e2, r2, a2⟩ := ioArgs_t r1 q2 hst.2 hsb' ho
      refine ⟨.fz m.toD :: ms, s2, ?_, r2, ?_, a2⟩
      · show ioArgs (false :: ks.map AK.io) (r0 :: rs) s = _
        simp only [ioArgs]
        rw [e1, bd_some, e2]; rfl
      · rw [t1]
    | f sh sh' =>
      obtain ⟨m, rfl, t1, o1⟩ := q.1
      obtain ⟨ms, s2, e2, r2, a2⟩ := ioArgs_t r q.2 hst.2 hsb' ho
      refine ⟨m :: ms, s2, ?_, r2, ⟨t1, Sh.ok_le hst.1 o1⟩, a2⟩
      show ioArgs (true :: ks.map AK.io) (.m m :: rs) s = _
      simp only [ioArgs]
      rw [e2]; rfl
    | s i sh sh' =>
      obtain ⟨rfl, hc⟩ := q.1
      obtain ⟨m, h1, h2, h3⟩ := r.get hc
      simp only [ordOk, Bool.and_eq_true] at ho
      obtain ⟨ms, s2, e2, r2, a2⟩ := ioArgs_t (rl_none r (i := i)) (q.2.wipe ho.1) hst.2 hsb' ho.2
      refine ⟨m :: ms, s2, ?_, r2, ⟨h2, Sh.ok_le hst.1 h3⟩, a2⟩
      show ioArgs (true :: ks.map AK.io) (.pl ⟨i, []⟩ :: rs) s = _
      simp only [ioArgs]
      rw [h1]
      dsimp only
      rw [e2]; rfl
theorem set_none_some {c : Ctx} {i : Nat} {x : Option (Sh × D)} : (c.set i none).set i x = c.set i x := by
  rw [List.set_set]
theorem wipe_setA {i : Nat} {x : Option (Sh × D)} : ∀ {ks : List AK} {c : Ctx}, ks.all (fun k => match k with | .s j _ _ => !(i == j) | _ => true) = true → (wipeA c ks).set i x = wipeA (c.set i x) ks
  | [], c, _ => rfl
  | .v _ :: ks, c, h => by
    rw [List.all_cons, Bool.and_eq_true] at h
    exact wipe_setA (ks := ks) h.2
  | .f _ _ :: ks, c, h => by
    rw [List.all_cons, Bool.and_eq_true] at h
    exact wipe_setA (ks := ks) h.2
  | .s j _ _ :: ks, c, h => by
    rw [List.all_cons, Bool.and_eq_true] at h
    have hj : i ≠ j := by simpa using h.1
    show (wipeA (c.set j none) ks).set i x = wipeA ((c.set i x).set j none) ks
    rw [wipe_setA (ks := ks) h.2, List.set_comm _ _ hj.symm]
theorem ord_slots {i : Nat} : ∀ {ks : List AK}, ks.all (fun k => match k with | .s j _ _ => !(i == j) | .v (.m _) => true | .f _ _ => true | _ => false) = true → ks.all (fun k => match k with | .s j _ _ => !(i == j) | _ => true) = true
  | [], _ => rfl
  | k :: ks, h => by
    rw [List.all_cons, Bool.and_eq_true] at h ⊢
    refine ⟨?_, ord_slots h.2⟩
    cases k with
    | s j sh sh' => exact h.1
    | f sh sh' => rfl
    | v k => rfl
theorem giveBack_t : ∀ {ks : List AK} {ms : List M} {ws : List D} {c : Ctx} {s : Sl}, Rl (wipeA c ks) s → OutsT (ks.map AK.ps) ms ws → ordOk ks = true → Rl (backC c ks ws) (giveBack (ks.map AK.os) ms s)
  | [], [], [], c, s, r, _, _ => r
  | [], [], _ :: _, _, _, _, q, _ => q.elim
  | [], _ :: _, _, _, _, _, q, _ => q.elim
  | k :: ks, [], _, _, _, _, q, _ => by cases k <;> exact q.elim
  | k :: ks, _ :: _, [], _, _, _, q, _ => by cases k <;> exact q.elim
  | .v k :: ks, m :: ms, w :: ws, c, s, r, q, ho => giveBack_t (ks := ks) (c := c) r q ho
  | .f sh sh' :: ks, m :: ms, w :: ws, c, s, r, q, ho => giveBack_t (ks := ks) (c := c) r q.2 ho
  | .s i sh sh' :: ks, m :: ms, w :: ws, c, s, r, q, ho => by
    simp only [ordOk, Bool.and_eq_true] at ho
    have r2 : Rl ((wipeA (c.set i none) ks).set i (some (sh', w))) (s.set i (some m)) := Rl.set (show Rl (wipeA (c.set i none) ks) s from r) q.1.1 q.1.2
    rw [wipe_setA (ord_slots ho.1), set_none_some] at r2
    exact giveBack_t (ks := ks) (c := c.set i (some (sh', w))) r2 q.2 ho.2
/-- the call -/
theorem cio_ok {n : Nat} {es : Es} {ks : List AK} {f : S → Option (List D)} {sh : Sh} (h : XAs G pu Γ es ks f) (hst : AKst ks = true) (hsb : AKstable ks.tail = true) (ho : ordOk ks = true) (hio : G.io n = ks.map AK.io) (hal : G.al n = none)
    {σ : S} {s : Sl} (r : Rl (Γ σ) s) {ds : List D} (q : f σ = some ds) {d : D} {ws : List D} (C : CdI G n (ks.map AK.ps) ds d sh ws) :
    ∃ m s', VS.ev G (.cio n es) s = some (.m m, s') ∧ Rl (backC (Γ σ) ks ws) s' ∧ m.toD = d ∧ sh.ok m := by
  obtain ⟨rs, s1, e1, r1, p1, v1⟩ := h σ s ds r q
  obtain ⟨ms, s2, e2, r2, a2⟩ := ioArgs_t r1 v1 hst hsb ho
  obtain ⟨m, outs, e3, t3, o3, w3⟩ := C ms a2
  refine ⟨m, _, ?_, giveBack_t r2 w3 ho, t3, o3⟩
  unfold VS.ev
  rw [e1, bd_some]
  unfold evCio
  rw [hio, e2, bd_some, e3, ob_some, hal]
/-- .. whose answer is one of the things handed to it -/
theorem cio_al {n j i : Nat} {es : Es} {ks : List AK} {f : S → Option (List D)} {sh : Sh} (h : XAs G pu Γ es ks f) (hst : AKst ks = true) (hsb : AKstable ks.tail = true) (ho : ordOk ks = true) (hio : G.io n = ks.map AK.io) (hal : G.al n = some j) (hj : (ks.map AK.os)[j]? = some (some i))
    {σ : S} {s : Sl} (r : Rl (Γ σ) s) {ds : List D} (q : f σ = some ds) {d : D} {ws : List D} (C : CdI G n (ks.map AK.ps) ds d sh ws) :
    ∃ s', VS.ev G (.cio n es) s = some (.pl ⟨i, []⟩, s') ∧ Rl (backC (Γ σ) ks ws) s' := by
  obtain ⟨rs, s1, e1, r1, p1, v1⟩ := h σ s ds r q
  obtain ⟨ms, s2, e2, r2, a2⟩ := ioArgs_t r1 v1 hst hsb ho
  obtain ⟨m, outs, e3, t3, o3, w3⟩ := C ms a2
  refine ⟨_, ?_, giveBack_t r2 w3 ho⟩
  unfold VS.ev
  rw [e1, bd_some]
  unfold evCio
  rw [hio, e2, bd_some, e3, ob_some, hal]
  dsimp only
  rw [hj]
theorem outs_at : ∀ {ks : List AK} {ms : List M} {ws : List D} {j : Nat} {sh sh' : Sh}, OutsT (ks.map AK.ps) ms ws → ks[j]? = some (.f sh sh') → ∃ m d, ms[j]? = some m ∧ ws[j]? = some d ∧ m.toD = d ∧ sh'.ok m
  | [], _, _, _, _, _, _, e => by simp at e
  | k :: ks, [], _, _, _, _, q, _ => by cases k <;> exact q.elim
  | k :: ks, _ :: _, [], _, _, _, q, _ => by cases k <;> exact q.elim
  | k :: ks, m :: ms, w :: ws, 0, sh, sh', q, e => by
    simp at e
    subst e
    exact ⟨m, w, rfl, rfl, q.1.1, q.1.2⟩
  | k :: ks, m :: ms, w :: ws, j + 1, sh, sh', q, e => by
    have q2 : OutsT (ks.map AK.ps) ms ws := by
      cases k with
      | v k => exact q
      | f _ _ => exact q.2
      | s _ _ _ => exact q.2
    obtain ⟨m', d', h1, h2, h3⟩ := outs_at (j := j) q2 (by simpa using e)
    exact ⟨m', d', by simpa using h1, by simpa using h2, h3⟩
theorem cio_fr {n j : Nat} {es : Es} {ks : List AK} {f : S → Option (List D)} {sh sh1 sh2 : Sh} (h : XAs G pu Γ es ks f) (hst : AKst ks = true) (hsb : AKstable ks.tail = true) (ho : ordOk ks = true) (hio : G.io n = ks.map AK.io) (hal : G.al n = some j) (hj : ks[j]? = some (.f sh1 sh2))
    {σ : S} {s : Sl} (r : Rl (Γ σ) s) {ds : List D} (q : f σ = some ds) {d w : D} {ws : List D} (C : CdI G n (ks.map AK.ps) ds d sh ws) (hw : ws[j]? = some w) :
    ∃ m s', VS.ev G (.cio n es) s = some (.m m, s') ∧ Rl (backC (Γ σ) ks ws) s' ∧ m.toD = w ∧ sh2.ok m := by
  obtain ⟨rs, s1, e1, r1, p1, v1⟩ := h σ s ds r q
  obtain ⟨ms, s2, e2, r2, a2⟩ := ioArgs_t r1 v1 hst hsb ho
  obtain ⟨m, outs, e3, t3, o3, w3⟩ := C ms a2
  obtain ⟨m', d', h1, h2, h3, h4⟩ := outs_at w3 hj
  rw [hw] at h2
  cases h2
  refine ⟨m', _, ?_, giveBack_t r2 w3 ho, h3, h4⟩
  unfold VS.ev
  rw [e1, bd_some]
  unfold evCio
  rw [hio, e2, bd_some, e3, ob_some, hal]
  dsimp only
  have ho1 : (ks.map AK.os)[j]? = some none := by rw [List.getElem?_map, hj]; rfl
  have ho2 : (G.io n)[j]? = some true := by rw [hio, List.getElem?_map, hj]; rfl
  rw [ho1, h1]
  dsimp only
  rw [← hio, if_pos ho2]

/-! ### statements -/
/-- a call, its arguments and what it leaves -/
def XC (G : VS.Env) (Γ : S → Ctx) (n : Nat) (es : Es) (ks : List AK) (er : R → D) (sh : Sh) (wd : W0 → List D) (fv : S → Option (R × W0)) : Prop :=
  ∃ pu f, XAs G pu Γ es ks f ∧ ∀ σ v, fv σ = some v → ∃ ds, f σ = some ds ∧ CdI G n (ks.map AK.ps) ds (er v.1) sh (wd v.2)
/-- f(..) -/
theorem s_cioE {n : Nat} {es : Es} {ks : List AK} {sh : Sh} {er : R → D} {wd : W0 → List D} {fv : S → Option (R × W0)} {rest : Ss} {f2 : S × (R × W0) → Option A} (h : XC G Γ n es ks er sh wd fv) (hst : AKst ks = true) (hsb : AKstable ks.tail = true) (ho : ordOk ks = true) (hio : G.io n = ks.map AK.io) (hal : G.al n = none)
    (hr : SX G W (fun p : S × (R × W0) => backC (Γ p.1) ks (wd p.2.2)) rest En f2) :
    SX G W Γ (.cons (.expr (.cio n es)) rest) En (fun σ => (fv σ).bind fun v => f2 (σ, v)) := fun σ s v r q => by
  obtain ⟨pu, f, h, hg⟩ := h
  obtain ⟨x, q1, q⟩ := Option.bind_eq_some_iff.mp q
  obtain ⟨ds, q2, C⟩ := hg σ x q1
  obtain ⟨m, s1, e1, r1, _, _⟩ := cio_ok h hst hsb ho hio hal r q2 C
  obtain ⟨o, h1, h2⟩ := hr (σ, x) _ v r1 q
  refine ⟨o, ?_, h2⟩
  rw [cons_nx (s1 := s1), h1]
  rw [VS.exec, e1]; rfl
/-- f(.., y, ..) whose answer is y -/
theorem s_cioEA {n j l : Nat} {es : Es} {ks : List AK} {sh : Sh} {er : R → D} {wd : W0 → List D} {fv : S → Option (R × W0)} {rest : Ss} {f2 : S × (R × W0) → Option A} (h : XC G Γ n es ks er sh wd fv) (hst : AKst ks = true) (hsb : AKstable ks.tail = true) (ho : ordOk ks = true) (hio : G.io n = ks.map AK.io) (hal : G.al n = some j) (hj : (ks.map AK.os)[j]? = some (some l))
    (hr : SX G W (fun p : S × (R × W0) => backC (Γ p.1) ks (wd p.2.2)) rest En f2) :
    SX G W Γ (.cons (.expr (.cio n es)) rest) En (fun σ => (fv σ).bind fun v => f2 (σ, v)) := fun σ s v r q => by
  obtain ⟨pu, f, h, hg⟩ := h
  obtain ⟨x, q1, q⟩ := Option.bind_eq_some_iff.mp q
  obtain ⟨ds, q2, C⟩ := hg σ x q1
  obtain ⟨s1, e1, r1⟩ := cio_al h hst hsb ho hio hal hj r q2 C
  obtain ⟨o, h1, h2⟩ := hr (σ, x) _ v r1 q
  refine ⟨o, ?_, h2⟩
  rw [cons_nx (s1 := s1), h1]
  rw [VS.exec, e1]; rfl
/-- x = f(..) -/
theorem s_cioA {n i : Nat} {deep : Bool} {es : Es} {ks : List AK} {sh : Sh} {er : R → D} {wd : W0 → List D} {fv : S → Option (R × W0)} {rest : Ss} {f2 : S × (R × W0) → Option A} (h : XC G Γ n es ks er sh wd fv) (hst : AKst ks = true) (hsb : AKstable ks.tail = true) (ho : ordOk ks = true) (hio : G.io n = ks.map AK.io) (hal : G.al n = none)
    (hi : ∀ p : S × (R × W0), Nat.ble (i + 1) (backC (Γ p.1) ks (wd p.2.2)).length = true)
    (hr : SX G W (fun p : S × (R × W0) => (backC (Γ p.1) ks (wd p.2.2)).set i (some (finSh deep sh, er p.2.1))) rest En f2) :
    SX G W Γ (.cons (.asg deep (.var i) (.cio n es)) rest) En (fun σ => (fv σ).bind fun v => f2 (σ, v)) := fun σ s v r q => by
  obtain ⟨pu, f, h, hg⟩ := h
  obtain ⟨x, q1, q⟩ := Option.bind_eq_some_iff.mp q
  obtain ⟨ds, q2, C⟩ := hg σ x q1
  obtain ⟨m, s1, e1, r1, t1, o1⟩ := cio_ok h hst hsb ho hio hal r q2 C
  have o3 := fin_ok (deep := deep) o1
  have r3 := r1.set (i := i) (d := er x.1) (o3.2.trans t1) o3.1
  obtain ⟨o, h1, h2⟩ := hr (σ, x) _ v r3 q
  refine ⟨o, ?_, h2⟩
  rw [cons_nx (s1 := s1.set i (some (fin deep m))), h1]
  rw [VS.exec, e1, bd_some, toS_m, bd_some, setT_var, if_pos (by rw [r1.len]; exact ble_lt (hi (σ, x)))]; rfl
/-- x = f(.., y, ..) whose answer is y: both are frozen -/
theorem s_cioS {n i j l : Nat} {deep : Bool} {es : Es} {ks : List AK} {sh sh' : Sh} {er : R → D} {wd : W0 → List D} {ew : W0 → D} {fv : S → Option (R × W0)} {rest : Ss} {f2 : S × (R × W0) → Option A} (h : XC G Γ n es ks er sh wd fv) (hst : AKst ks = true) (hsb : AKstable ks.tail = true) (ho : ordOk ks = true) (hio : G.io n = ks.map AK.io) (hal : G.al n = some j) (hj : (ks.map AK.os)[j]? = some (some l))
    (hl : ∀ p : S × (R × W0), (backC (Γ p.1) ks (wd p.2.2))[l]? = some (some (sh', ew p.2.2))) (hi : ∀ p : S × (R × W0), Nat.ble (i + 1) (backC (Γ p.1) ks (wd p.2.2)).length = true)
    (hr : SX G W (fun p : S × (R × W0) => ((backC (Γ p.1) ks (wd p.2.2)).set l (some (.fz, ew p.2.2))).set i (some (.fz, ew p.2.2))) rest En f2) :
    SX G W Γ (.cons (.asg deep (.var i) (.cio n es)) rest) En (fun σ => (fv σ).bind fun v => f2 (σ, v)) := fun σ s v r q => by
  obtain ⟨pu, f, h, hg⟩ := h
  obtain ⟨x, q1, q⟩ := Option.bind_eq_some_iff.mp q
  obtain ⟨ds, q2, C⟩ := hg σ x q1
  obtain ⟨s1, e1, r1⟩ := cio_al h hst hsb ho hio hal hj r q2 C
  obtain ⟨s2, e2, r2⟩ := frz_own r1 (hl (σ, x))
  have r3 := r2.set (i := i) (m := .fz (ew x.2)) (sh := .fz) (d := ew x.2) rfl (ok_fz _)
  obtain ⟨o, h1, h2⟩ := hr (σ, x) _ v r3 q
  refine ⟨o, ?_, h2⟩
  rw [cons_nx (s1 := s2.set i (some (.fz (ew x.2)))), h1]
  rw [VS.exec, e1, bd_some, toS_p, e2]
  show bd (some (M.fz (ew x.2), s2)) _ = _
  rw [bd_some, setT_var, if_pos (by rw [r2.len, List.length_set]; exact ble_lt (hi (σ, x)))]
  cases deep <;> simp [fin, M.shal]
/-- x = f(.., [..], ..) whose answer is that -/
theorem s_cioF {n i j : Nat} {deep : Bool} {es : Es} {ks : List AK} {sh sh1 sh2 : Sh} {er : R → D} {wd : W0 → List D} {ew : W0 → D} {fv : S → Option (R × W0)} {rest : Ss} {f2 : S × (R × W0) → Option A} (h : XC G Γ n es ks er sh wd fv) (hst : AKst ks = true) (hsb : AKstable ks.tail = true) (ho : ordOk ks = true) (hio : G.io n = ks.map AK.io) (hal : G.al n = some j) (hj : ks[j]? = some (.f sh1 sh2))
    (hw : ∀ w, (wd w)[j]? = some (ew w)) (hi : ∀ p : S × (R × W0), Nat.ble (i + 1) (backC (Γ p.1) ks (wd p.2.2)).length = true)
    (hr : SX G W (fun p : S × (R × W0) => (backC (Γ p.1) ks (wd p.2.2)).set i (some (finSh deep sh2, ew p.2.2))) rest En f2) :
    SX G W Γ (.cons (.asg deep (.var i) (.cio n es)) rest) En (fun σ => (fv σ).bind fun v => f2 (σ, v)) := fun σ s v r q => by
  obtain ⟨pu, f, h, hg⟩ := h
  obtain ⟨x, q1, q⟩ := Option.bind_eq_some_iff.mp q
  obtain ⟨ds, q2, C⟩ := hg σ x q1
  obtain ⟨m, s1, e1, r1, t1, o1⟩ := cio_fr h hst hsb ho hio hal hj r q2 C (hw x.2)
  have o3 := fin_ok (deep := deep) o1
  have r3 := r1.set (i := i) (d := ew x.2) (o3.2.trans t1) o3.1
  obtain ⟨o, h1, h2⟩ := hr (σ, x) _ v r3 q
  refine ⟨o, ?_, h2⟩
  rw [cons_nx (s1 := s1.set i (some (fin deep m))), h1]
  rw [VS.exec, e1, bd_some, toS_m, bd_some, setT_var, if_pos (by rw [r1.len]; exact ble_lt (hi (σ, x)))]; rfl

/-! ### return [..] -/
def XRL (G : VS.Env) (Γ : S → Ctx) (es : Es) (ea : α → D) (sh : Sh) (n : Nat) (f : S → Option (List α)) (Γ' : S → Ctx) : Prop :=
  ∀ σ s v, Rl (Γ σ) s → f σ = some v → ∃ ms s', evRets G es s = some (ms, s') ∧ Rl (Γ' σ) s' ∧ M.toDs ms = v.map ea ∧ (∀ m ∈ ms, sh.ok m) ∧ v.length = n
theorem rl_nil {sh : Sh} : XRL G Γ .nil ea sh 0 (fun _ => some []) Γ := fun σ s v r q => by
  cases q
  exact ⟨[], s, by rw [evRets], r, rfl, by simp, rfl⟩
theorem rl_cons {n : Nat} {es : Es} {Γ' Γ'' : S → Ctx} {s0 sh : Sh} {f : S → Option (List α)} (h : XR G Γ e ea s0 fa Γ') (hr : XRL G Γ' es ea sh n f Γ'') (hl : Sh.le s0 sh = true) : XRL G Γ (.cons e es) ea sh (n + 1) (fun σ => (fa σ).bind fun x => (f σ).bind fun l => some (x :: l)) Γ'' := fun σ s v r q => by
  obtain ⟨x, q1, q⟩ := Option.bind_eq_some_iff.mp q
  obtain ⟨l, q2, q⟩ := Option.bind_eq_some_iff.mp q
  cases q
  obtain ⟨m, s1, e1, r1, t1, o1⟩ := h σ s x r q1
  obtain ⟨ms, s2, e2, r2, t2, o2, n2⟩ := hr σ s1 l r1 q2
  refine ⟨m :: ms, s2, by rw [evRets, e1, bd_some, e2]; rfl, r2, by rw [toDs_cons, t1, t2]; rfl, fun y hy => ?_, by rw [List.length_cons, n2]⟩
  rcases List.mem_cons.mp hy with rfl | hy
  · exact Sh.ok_le hl o1
  · exact o2 y hy
theorem r_lst {es : Es} {Γ' : S → Ctx} {sh : Sh} {f : S → Option (List α)} {n : Nat} (h : XRL G Γ es ea sh n f Γ') (hb : Nat.ble n 1000 = true) : XR G Γ (.lst es) (eL ea) (.lst sh) f Γ' := fun σ s v r q => by
  obtain ⟨ms, s1, e1, r1, t1, o1, hn⟩ := h σ s v r q
  have hl : ms.length = v.length := by
    have := congrArg List.length t1
    rw [toDs_map, List.length_map, List.length_map] at this
    exact this
  refine ⟨.lst ms, s1, ?_, r1, by show D.lst (M.toDs ms) = _; rw [t1]; rfl, by simp only [Sh.ok]; exact ⟨ms, rfl, o1⟩⟩
  rw [evRet, e1, bd_some, if_pos (by rw [hl, hn]; exact Nat.le_trans (Nat.le_of_ble_eq_true hb) (by decide))]

theorem r_lstG {es : Es} {Γ' : S → Ctx} {ss : List Sh} {sh : Sh} {f : S → Option (List D)} {g : S → Option α} (h : XRs G Γ es f ss Γ') (hn : ss.length ≤ 1000) (hsh : ∀ x ∈ ss, Sh.le x sh = true) (hg : ∀ σ v, g σ = some v → ∃ ds, f σ = some ds ∧ ea v = .lst ds) : XR G Γ (.lst es) ea (.lst sh) g Γ' := fun σ s v r q => by
  obtain ⟨ds, q1, q2⟩ := hg σ v q
  obtain ⟨ms, s1, e1, r1, t1, o1⟩ := h σ s ds r q1
  have all : ∀ {ss : List Sh} {ms : List M}, (∀ x ∈ ss, Sh.le x sh = true) → Sh.oks ss ms → ∀ y ∈ ms, sh.ok y := by
    intro ss
    induction ss with
    | nil =>
      intro ms _ o
      cases ms with
      | nil => intro y hy; cases hy
      | cons _ _ => simp [Sh.oks] at o
    | cons x ss ih =>
      intro ms h o
      cases ms with
      | nil => intro y hy; cases hy
      | cons m ms =>
        simp only [Sh.oks] at o
        intro y hy
        rcases List.mem_cons.mp hy with rfl | hy
        · exact Sh.ok_le (h x List.mem_cons_self) o.1
        · exact ih (fun z hz => h z (List.mem_cons_of_mem _ hz)) o.2 y hy
  refine ⟨.lst ms, s1, ?_, r1, by show D.lst (M.toDs ms) = _; rw [t1, q2], by simp only [Sh.ok]; exact ⟨ms, rfl, all hsh o1⟩⟩
  rw [evRet, e1, bd_some, if_pos (by rw [← oks_len o1]; exact Nat.le_trans hn (by decide))]

/-! ### defs -/
/-- how a def ends that changes its parameters -/
def ERI (al : Option Nat) (er : R → D) (sh : Sh) (Γo : W0 → Ctx) (v : R × W0) (o : O) : Prop := match al with
  | none => (∃ j m s, o = .rt j m s ∧ m.toD = er v.1 ∧ sh.ok m ∧ Rl (Γo v.2) s) ∨ ∃ s, o = .nx s ∧ er v.1 = .non ∧ sh.ok (.fz .non) ∧ Rl (Γo v.2) s
  | some a => er v.1 = .non ∧ sh.ok (.fz .non) ∧ ∃ m s, o = .rt (some a) m s ∧ m.isD = false ∧ a < s.length ∧ Rl (Γo v.2) (s.set a (some m))
theorem s_retI {rest : Ss} {er : R → D} {sh s0 : Sh} {Γo : W0 → Ctx} {f : S → Option R} {Γ' : S → Ctx} (pk : S → W0) (h : XR G Γ e er s0 f Γ') (hl : Sh.le s0 sh = true) (l : ∀ σ, Ctx.le (Γo (pk σ)) (Γ' σ)) :
    SX G W Γ (.cons (.ret e) rest) (ERI none er sh Γo) (fun σ => (f σ).bind fun v => some (v, pk σ)) := fun σ s a r q => by
  obtain ⟨v, q1, q⟩ := Option.bind_eq_some_iff.mp q
  cases q
  obtain ⟨m, s', e1, r1, t1, o1⟩ := h σ s v r q1
  refine ⟨.rt (retv e) m s', ?_, .inl ⟨_, m, s', rfl, t1, Sh.ok_le hl o1, r1.weak (l σ)⟩⟩
  rw [execs_cons, VS.exec, e1]; rfl
theorem s_nilI {er : R → D} {sh : Sh} {Γo : W0 → Ctx} {r0 : R} (pk : S → W0) (he : er r0 = .non) (hs : sh.ok (.fz .non)) (l : ∀ σ, Ctx.le (Γo (pk σ)) (Γ σ)) :
    SX G W Γ .nil (ERI none er sh Γo) (fun σ => some (r0, pk σ)) := fun σ s a r q => by
  cases q
  exact ⟨.nx s, by rw [VS.execs], .inr ⟨s, rfl, he, hs, r.weak (l σ)⟩⟩
theorem s_retA {i : Nat} {s0 : Sh} {rest : Ss} {er : R → D} {sh : Sh} {Γo : W0 → Ctx} {r0 : R} {g : S → α} (pk : S → W0) (ho : s0.own = true) (hg : ∀ σ, (Γ σ)[i]? = some (some (s0, ea (g σ)))) (he : er r0 = .non) (hs : sh.ok (.fz .non)) (l : ∀ σ, Ctx.le (Γo (pk σ)) (Γ σ)) :
    SX G W Γ (.cons (.ret (.var i)) rest) (ERI (some i) er sh Γo) (fun σ => some (r0, pk σ)) := fun σ s a r q => by
  cases q
  obtain ⟨m, h1, h2, h3⟩ := r.get (hg σ)
  have hD : m.isD = false := by
    cases s0 with
    | lst s0 => simp only [Sh.ok] at h3; obtain ⟨ms, rfl, _⟩ := h3; rfl
    | tup s0 => simp only [Sh.ok] at h3; obtain ⟨ms, rfl, _⟩ := h3; rfl
    | _ => cases ho
  have hi := (List.getElem?_eq_some_iff.mp h1).1
  refine ⟨.rt (some i) m (s.set i none), ?_, he, hs, m, _, rfl, hD, by rw [List.length_set]; exact hi, ?_⟩
  · rw [execs_cons, VS.exec, evRet]
    have : gv s i = some m := by unfold gv; rw [h1]
    rw [this]; rfl
  · rw [List.set_set, set_self h1]
    exact r.weak (l σ)
def outC : List (Option Sh) → List D → Nat → Ctx
  | none :: ps, _ :: ws, k => none :: outC ps ws k
  | some sh :: ps, w :: ws, k => some (sh, w) :: outC ps ws k
  | _, _, k => List.replicate k none
theorem outsIO_t : ∀ {ps : List (Option Sh)} {ws : List D} {k : Nat} {s : Sl}, ps.length = ws.length → Rl (outC ps ws k) s → ∃ outs, outsIO (ps.map Option.isSome) s = some outs ∧ OutsT ps outs ws
  | [], [], _, _, _, _ => ⟨[], by simp [outsIO], trivial⟩
  | [], _ :: _, _, _, h, _ => by simp at h
  | _ :: _, [], _, _, h, _ => by simp at h
  | none :: ps, w :: ws, k, s, h, r => by
    have hl := r.len
    cases s with
    | nil => simp [outC] at hl
    | cons x s =>
      have r2 : Rl (outC ps ws k) s := ⟨by simpa [outC] using hl, fun {i sh d} hi => by
        have := r.get (i := i + 1) (sh := sh) (d := d) (by simpa [outC] using hi)
        simpa using this⟩
      obtain ⟨outs, h1, h2⟩ := outsIO_t (by simpa using h) r2
      refine ⟨.fz .non :: outs, ?_, h2⟩
      show outsIO (false :: ps.map Option.isSome) (x :: s) = _
      simp only [outsIO]
      rw [h1]; rfl
  | some sh :: ps, w :: ws, k, s, h, r => by
    obtain ⟨m, h0, t0, o0⟩ := r.get (i := 0) (sh := sh) (d := w) (by simp [outC])
    have hl := r.len
    cases s with
    | nil => simp at h0
    | cons x s =>
      simp at h0
      subst h0
      have r2 : Rl (outC ps ws k) s := ⟨by simpa [outC] using hl, fun {i sh d} hi => by
        have := r.get (i := i + 1) (sh := sh) (d := d) (by simpa [outC] using hi)
        simpa using this⟩
      obtain ⟨outs, h1, h2⟩ := outsIO_t (by simpa using h) r2
      refine ⟨m :: outs, ?_, ⟨t0, o0⟩, h2⟩
      show outsIO (true :: ps.map Option.isSome) (some m :: s) = _
      simp only [outsIO]
      rw [h1]; rfl
/-- what stands at the parameters at first -/
def inC : List (Sh × D) → Nat → Ctx
  | [], k => List.replicate k none
  | x :: l, k => some x :: inC l k
def InOk : List (Option Sh) → List (Sh × D) → Prop
  | [], [] => True
  | none :: ps, x :: l => x.1.ok (.fz x.2) ∧ InOk ps l
  | some sh :: ps, x :: l => x.1 = sh ∧ InOk ps l
  | _, _ => False
theorem rl_inC : ∀ {ps : List (Option Sh)} {l : List (Sh × D)} {ms : List M} (k : Nat), InOk ps l → Args ps ms (l.map (·.2)) → Rl (inC l k) (ms.map some ++ List.replicate k none)
  | [], [], [], k, _, _ => rl_nones k
  | [], [], _ :: _, _, _, q => q.elim
  | [], _ :: _, _, _, q, _ => q.elim
  | p :: _, [], _, _, q, _ => by cases p <;> exact q.elim
  | none :: ps, x :: l, [], _, _, q => q.elim
  | some sh :: ps, x :: l, [], _, _, q => q.elim
  | none :: ps, x :: l, m :: ms, k, h, q => by
    obtain ⟨rfl, q2⟩ : m = .fz x.2 ∧ Args ps ms (l.map fun (x : Sh × D) => x.2) := q
    exact (rl_inC k h.2 q2).cons (m := .fz x.2) h.1
  | some sh :: ps, x :: l, m :: ms, k, h, q => by
    obtain ⟨⟨q1, q2⟩, q3⟩ : (m.toD = x.2 ∧ sh.ok m) ∧ Args ps ms (l.map fun (x : Sh × D) => x.2) := q
    obtain ⟨s0, d0⟩ := x
    obtain ⟨h1, h2⟩ := h
    have h1 : s0 = sh := h1
    subst h1
    have q1 : m.toD = d0 := q1
    subst q1
    exact (rl_inC k h2 q3).cons (m := m) q2
theorem args_len : ∀ {ps : List (Option Sh)} {ms : List M} {ds : List D}, Args ps ms ds → ms.length = ds.length
  | [], [], [], _ => rfl
  | [], [], _ :: _, q => q.elim
  | [], _ :: _, _, q => q.elim
  | p :: ps, [], _, q => by cases p <;> exact q.elim
  | p :: ps, _ :: _, [], q => by cases p <;> exact q.elim
  | none :: ps, m :: ms, d :: ds, q => by rw [List.length_cons, List.length_cons, args_len (show Args ps ms ds from q.2)]
  | some sh :: ps, m :: ms, d :: ds, q => by rw [List.length_cons, List.length_cons, args_len (show Args ps ms ds from q.2)]
theorem def_okI {con : Nat → D} {P : List Def} {n k : Nat} {d : Def} {er : R → D} {sh : Sh} {ps : List (Option Sh)} {wd : W0 → List D} {v : R × W0} (hd : P[k]? = some d) (hio : d.io = ps.map Option.isSome) (hlen : ∀ w, ps.length = (wd w).length) {Γ0 : S → Ctx} {f : S → Option (R × W0)}
    (h : SX (GE W con P n) W Γ0 d.body (ERI d.al er sh (fun w => outC ps (wd w) (d.n - d.np))) f) {σ : S} {l : List (Sh × D)} (hi : InOk ps l) (hl : l.length = d.np) (hG : Γ0 σ = inC l (d.n - d.np)) (q : f σ = some v) :
    CdI (GE W con P (n + 1)) k ps (l.map (·.2)) (er v.1) sh (wd v.2) := fun ms am => by
  have hs := rl_inC (d.n - d.np) hi am
  rw [← hG] at hs
  obtain ⟨o, e1, hE⟩ := h σ _ v hs q
  have hml : ms.length = d.np := by rw [args_len am, List.length_map, hl]
  have fin : ∀ m outs, endOf d o = some (m, outs) → (GE W con P (n + 1)).cd k ms = some (m, outs) := fun m outs he => by
    show callN W con P (n + 1) k ms = _
    unfold callN
    rw [hd, ob_some, if_pos hml]
    unfold VS.run
    have e1 : VS.execs ⟨con, callN W con P n, ioOf P, alOf P⟩ W d.body (ms.map some ++ List.replicate (d.n - d.np) none) = some o := e1
    rw [e1, ob_some, he]
  unfold ERI at hE
  cases ha : d.al with
  | none =>
    rw [ha] at hE
    rcases hE with ⟨j, m, s, rfl, t1, o1, r1⟩ | ⟨s, rfl, t1, o1, r1⟩
    · obtain ⟨outs, h1, h2⟩ := outsIO_t (hlen v.2) r1
      refine ⟨m, outs, fin m outs ?_, t1, o1, h2⟩
      unfold endOf
      dsimp only
      rw [ha, hio]
      dsimp only
      rw [h1]; rfl
    · obtain ⟨outs, h1, h2⟩ := outsIO_t (hlen v.2) r1
      refine ⟨.fz .non, outs, fin _ outs ?_, t1.symm, o1, h2⟩
      unfold endOf
      dsimp only
      rw [ha, hio]
      dsimp only
      rw [h1]; rfl
  | some a =>
    rw [ha] at hE
    obtain ⟨t1, o1, m, s, rfl, hD, hlt, r1⟩ := hE
    obtain ⟨outs, h1, h2⟩ := outsIO_t (hlen v.2) r1
    refine ⟨.fz .non, outs, fin _ outs ?_, t1.symm, o1, h2⟩
    unfold endOf
    dsimp only
    rw [ha, hio]
    dsimp only
    rw [if_pos ⟨rfl, hlt, hD⟩, h1]; rfl
end VT
end

section
set_option maxHeartbeats 2000000
/-! VT: calls that change their arguments, by their number (printed by vt20.py). -/
namespace VT
open PySem VS L2
variable {S A R W0 : Type} {G : VS.Env} {W : WL} {Γ : S → Ctx} {En : A → O → Prop}

theorem xc1 {m : Nat} {T0 : Type} {p0 : Bool} {e0 : E} {k0 : AK} {c0 : T0 → D} {f0 : S → Option T0} {er : R → D} {sh : Sh} {wd : W0 → List D} {Fn : T0 → Option (R × W0)} (h0 : XA G p0 Γ e0 k0 c0 f0) (s0 : (true || k0.stable) = true) (C : ∀ x0 v, Fn x0 = some v → CdI G m ([k0].map AK.ps) [c0 x0] (er v.1) sh (wd v.2)) :
    XC G Γ m (.cons e0 .nil) [k0] er sh wd (fun σ => (f0 σ).bind fun x0 => Fn x0) :=
  ⟨_, _, (as_cons h0 as_nil s0), fun σ v q => by
    obtain ⟨x0, q0, q⟩ := Option.bind_eq_some_iff.mp q
    exact ⟨[c0 x0], by simp only [q0, Option.bind_some], C _ _ q⟩⟩
theorem xc2 {m : Nat} {T0 : Type} {p0 : Bool} {e0 : E} {k0 : AK} {c0 : T0 → D} {f0 : S → Option T0} {T1 : Type} {p1 : Bool} {e1 : E} {k1 : AK} {c1 : T1 → D} {f1 : S → Option T1} {er : R → D} {sh : Sh} {wd : W0 → List D} {Fn : T0 → T1 → Option (R × W0)} (h0 : XA G p0 Γ e0 k0 c0 f0) (h1 : XA G p1 Γ e1 k1 c1 f1) (s0 : ((p1 && true) || k0.stable) = true) (s1 : (true || k1.stable) = true) (C : ∀ x0 x1 v, Fn x0 x1 = some v → CdI G m ([k0, k1].map AK.ps) [c0 x0, c1 x1] (er v.1) sh (wd v.2)) :
    XC G Γ m (.cons e0 (.cons e1 .nil)) [k0, k1] er sh wd (fun σ => (f0 σ).bind fun x0 => (f1 σ).bind fun x1 => Fn x0 x1) :=
  ⟨_, _, (as_cons h0 (as_cons h1 as_nil s1) s0), fun σ v q => by
    obtain ⟨x0, q0, q⟩ := Option.bind_eq_some_iff.mp q
    obtain ⟨x1, q1, q⟩ := Option.bind_eq_some_iff.mp q
    exact ⟨[c0 x0, c1 x1], by simp only [q0, q1, Option.bind_some], C _ _ _ q⟩⟩
theorem xc3 {m : Nat} {T0 : Type} {p0 : Bool} {e0 : E} {k0 : AK} {c0 : T0 → D} {f0 : S → Option T0} {T1 : Type} {p1 : Bool} {e1 : E} {k1 : AK} {c1 : T1 → D} {f1 : S → Option T1} {T2 : Type} {p2 : Bool} {e2 : E} {k2 : AK} {c2 : T2 → D} {f2 : S → Option T2} {er : R → D} {sh : Sh} {wd : W0 → List D} {Fn : T0 → T1 → T2 → Option (R × W0)} (h0 : XA G p0 Γ e0 k0 c0 f0) (h1 : XA G p1 Γ e1 k1 c1 f1) (h2 : XA G p2 Γ e2 k2 c2 f2) (s0 : ((p1 && (p2 && true)) || k0.stable) = true) (s1 : ((p2 && true) || k1.stable) = true) (s2 : (true || k2.stable) = true) (C : ∀ x0 x1 x2 v, Fn x0 x1 x2 = some v → CdI G m ([k0, k1, k2].map AK.ps) [c0 x0, c1 x1, c2 x2] (er v.1) sh (wd v.2)) :
    XC G Γ m (.cons e0 (.cons e1 (.cons e2 .nil))) [k0, k1, k2] er sh wd (fun σ => (f0 σ).bind fun x0 => (f1 σ).bind fun x1 => (f2 σ).bind fun x2 => Fn x0 x1 x2) :=
  ⟨_, _, (as_cons h0 (as_cons h1 (as_cons h2 as_nil s2) s1) s0), fun σ v q => by
    obtain ⟨x0, q0, q⟩ := Option.bind_eq_some_iff.mp q
    obtain ⟨x1, q1, q⟩ := Option.bind_eq_some_iff.mp q
    obtain ⟨x2, q2, q⟩ := Option.bind_eq_some_iff.mp q
    exact ⟨[c0 x0, c1 x1, c2 x2], by simp only [q0, q1, q2, Option.bind_some], C _ _ _ _ q⟩⟩
theorem xc4 {m : Nat} {T0 : Type} {p0 : Bool} {e0 : E} {k0 : AK} {c0 : T0 → D} {f0 : S → Option T0} {T1 : Type} {p1 : Bool} {e1 : E} {k1 : AK} {c1 : T1 → D} {f1 : S → Option T1} {T2 : Type} {p2 : Bool} {e2 : E} {k2 : AK} {c2 : T2 → D} {f2 : S → Option T2} {T3 : Type} {p3 : Bool} {e3 : E} {k3 : AK} {c3 : T3 → D} {f3 : S → Option T3} {er : R → D} {sh : Sh} {wd : W0 → List D} {Fn : T0 → T1 → T2 → T3 → Option (R × W0)} (h0 : XA G p0 Γ e0 k0 c0 f0) (h1 : XA G p1 Γ e1 k1 c1 f1) (h2 : XA G p2 Γ e2 k2 c2 f2) (h3 : XA G p3 Γ e3 k3 c3 f3) (s0 : ((p1 && (p2 && (p3 && true))) || k0.stable) = true) (s1 : ((p2 && (p3 && true)) || k1.stable) = true) (s2 : ((p3 && true) || k2.stable) = true) (s3 : (true || k3.stable) = true) (C : ∀ x0 x1 x2 x3 v, Fn x0 x1 x2 x3 = some v → CdI G m ([k0, k1, k2, k3].map AK.ps) [c0 x0, c1 x1, c2 x2, c3 x3] (er v.1) sh (wd v.2)) :
    XC G Γ m (.cons e0 (.cons e1 (.cons e2 (.cons e3 .nil)))) [k0, k1, k2, k3] er sh wd (fun σ => (f0 σ).bind fun x0 => (f1 σ).bind fun x1 => (f2 σ).bind fun x2 => (f3 σ).bind fun x3 => Fn x0 x1 x2 x3) :=
  ⟨_, _, (as_cons h0 (as_cons h1 (as_cons h2 (as_cons h3 as_nil s3) s2) s1) s0), fun σ v q => by
    obtain ⟨x0, q0, q⟩ := Option.bind_eq_some_iff.mp q
    obtain ⟨x1, q1, q⟩ := Option.bind_eq_some_iff.mp q
    obtain ⟨x2, q2, q⟩ := Option.bind_eq_some_iff.mp q
    obtain ⟨x3, q3, q⟩ := Option.bind_eq_some_iff.mp q
    exact ⟨[c0 x0, c1 x1, c2 x2, c3 x3], by simp only [q0, q1, q2, q3, Option.bind_some], C _ _ _ _ _ q⟩⟩
theorem xc5 {m : Nat} {T0 : Type} {p0 : Bool} {e0 : E} {k0 : AK} {c0 : T0 → D} {f0 : S → Option T0} {T1 : Type} {p1 : Bool} {e1 : E} {k1 : AK} {c1 : T1 → D} {f1 : S → Option T1} {T2 : Type} {p2 : Bool} {e2 : E} {k2 : AK} {c2 : T2 → D} {f2 : S → Option T2} {T3 : Type} {p3 : Bool} {e3 : E} {k3 : AK} {c3 : T3 → D} {f3 : S → Option T3} {T4 : Type} {p4 : Bool} {e4 : E} {k4 : AK} {c4 : T4 → D} {f4 : S → Option T4} {er : R → D} {sh : Sh} {wd : W0 → List D} {Fn : T0 → T1 → T2 → T3 → T4 → Option (R × W0)} (h0 : XA G p0 Γ e0 k0 c0 f0) (h1 : XA G p1 Γ e1 k1 c1 f1) (h2 : XA G p2 Γ e2 k2 c2 f2) (h3 : XA G p3 Γ e3 k3 c3 f3) (h4 : XA G p4 Γ e4 k4 c4 f4) (s0 : ((p1 && (p2 && (p3 && (p4 && true)))) || k0.stable) = true) (s1 : ((p2 && (p3 && (p4 && true))) || k1.stable) = true) (s2 : ((p3 && (p4 && true)) || k2.stable) = true) (s3 : ((p4 && true) || k3.stable) = true) (s4 : (true || k4.stable) = true) (C : ∀ x0 x1 x2 x3 x4 v, Fn x0 x1 x2 x3 x4 = some v → CdI G m ([k0, k1, k2, k3, k4].map AK.ps) [c0 x0, c1 x1, c2 x2, c3 x3, c4 x4] (er v.1) sh (wd v.2)) :
    XC G Γ m (.cons e0 (.cons e1 (.cons e2 (.cons e3 (.cons e4 .nil))))) [k0, k1, k2, k3, k4] er sh wd (fun σ => (f0 σ).bind fun x0 => (f1 σ).bind fun x1 => (f2 σ).bind fun x2 => (f3 σ).bind fun x3 => (f4 σ).bind fun x4 => Fn x0 x1 x2 x3 x4) :=
  ⟨_, _, (as_cons h0 (as_cons h1 (as_cons h2 (as_cons h3 (as_cons h4 as_nil s4) s3) s2) s1) s0), fun σ v q => by
    obtain ⟨x0, q0, q⟩ := Option.bind_eq_some_iff.mp q
    obtain ⟨x1, q1, q⟩ := Option.bind_eq_some_iff.mp q
    obtain ⟨x2, q2, q⟩ := Option.bind_eq_some_iff.mp q
    obtain ⟨x3, q3, q⟩ := Option.bind_eq_some_iff.mp q
    obtain ⟨x4, q4, q⟩ := Option.bind_eq_some_iff.mp q
    exact ⟨[c0 x0, c1 x1, c2 x2, c3 x3, c4 x4], by simp only [q0, q1, q2, q3, q4, Option.bind_some], C _ _ _ _ _ _ q⟩⟩
theorem xc6 {m : Nat} {T0 : Type} {p0 : Bool} {e0 : E} {k0 : AK} {c0 : T0 → D} {f0 : S → Option T0} {T1 : Type} {p1 : Bool} {e1 : E} {k1 : AK} {c1 : T1 → D} {f1 : S → Option T1} {T2 : Type} {p2 : Bool} {e2 : E} {k2 : AK} {c2 : T2 → D} {f2 : S → Option T2} {T3 : Type} {p3 : Bool} {e3 : E} {k3 : AK} {c3 : T3 → D} {f3 : S → Option T3} {T4 : Type} {p4 : Bool} {e4 : E} {k4 : AK} {c4 : T4 → D} {f4 : S → Option T4} {T5 : Type} {p5 : Bool} {e5 : E} {k5 : AK} {c5 : T5 → D} {f5 : S → Option T5} {er : R → D} {sh : Sh} {wd : W0 → List D} {Fn : T0 → T1 → T2 → T3 → T4 → T5 → Option (R × W0)} (h0 : XA G p0 Γ e0 k0 c0 f0) (h1 : XA G p1 Γ e1 k1 c1 f1) (h2 : XA G p2 Γ e2 k2 c2 f2) (h3 : XA G p3 Γ e3 k3 c3 f3) (h4 : XA G p4 Γ e4 k4 c4 f4) (h5 : XA G p5 Γ e5 k5 c5 f5) (s0 : ((p1 && (p2 && (p3 && (p4 && (p5 && true))))) || k0.stable) = true) (s1 : ((p2 && (p3 && (p4 && (p5 && true)))) || k1.stable) = true) (s2 : ((p3 && (p4 && (p5 && true))) || k2.stable) = true) (s3 : ((p4 && (p5 && true)) || k3.stable) = true) (s4 : ((p5 && true) || k4.stable) = true) (s5 : (true || k5.stable) = true) (C : ∀ x0 x1 x2 x3 x4 x5 v, Fn x0 x1 x2 x3 x4 x5 = some v → CdI G m ([k0, k1, k2, k3, k4, k5].map AK.ps) [c0 x0, c1 x1, c2 x2, c3 x3, c4 x4, c5 x5] (er v.1) sh (wd v.2)) :
    XC G Γ m (.cons e0 (.cons e1 (.cons e2 (.cons e3 (.cons e4 (.cons e5 .nil)))))) [k0, k1, k2, k3, k4, k5] er sh wd (fun σ => (f0 σ).bind fun x0 => (f1 σ).bind fun x1 => (f2 σ).bind fun x2 => (f3 σ).bind fun x3 => (f4 σ).bind fun x4 => (f5 σ).bind fun x5 => Fn x0 x1 x2 x3 x4 x5) :=
  ⟨_, _, (as_cons h0 (as_cons h1 (as_cons h2 (as_cons h3 (as_cons h4 (as_cons h5 as_nil s5) s4) s3) s2) s1) s0), fun σ v q => by
    obtain ⟨x0, q0, q⟩ := Option.bind_eq_some_iff.mp q
    obtain ⟨x1, q1, q⟩ := Option.bind_eq_some_iff.mp q
    obtain ⟨x2, q2, q⟩ := Option.bind_eq_some_iff.mp q
    obtain ⟨x3, q3, q⟩ := Option.bind_eq_some_iff.mp q
    obtain ⟨x4, q4, q⟩ := Option.bind_eq_some_iff.mp q
    obtain ⟨x5, q5, q⟩ := Option.bind_eq_some_iff.mp q
    exact ⟨[c0 x0, c1 x1, c2 x2, c3 x3, c4 x4, c5 x5], by simp only [q0, q1, q2, q3, q4, q5, Option.bind_some], C _ _ _ _ _ _ _ q⟩⟩
theorem xc7 {m : Nat} {T0 : Type} {p0 : Bool} {e0 : E} {k0 : AK} {c0 : T0 → D} {f0 : S → Option T0} {T1 : Type} {p1 : Bool} {e1 : E} {k1 : AK} {c1 : T1 → D} {f1 : S → Option T1} {T2 : Type} {p2 : Bool} {e2 : E} {k2 : AK} {c2 : T2 → D} {f2 : S → Option T2} {T3 : Type} {p3 : Bool} {e3 : E} {k3 : AK} {c3 : T3 → D} {f3 : S → Option T3} {T4 : Type} {p4 : Bool} {e4 : E} {k4 : AK} {c4 : T4 → D} {f4 : S → Option T4} {T5 : Type} {p5 : Bool} {e5 : E} {k5 : AK} {c5 : T5 → D} {f5 : S → Option T5} {T6 : Type} {p6 : Bool} {e6 : E} {k6 : AK} {c6 : T6 → D} {f6 : S → Option T6} {er : R → D} {sh : Sh} {wd : W0 → List D} {Fn : T0 → T1 → T2 → T3 → T4 → T5 → T6 → Option (R × W0)} (h0 : XA G p0 Γ e0 k0 c0 f0) (h1 : XA G p1 Γ e1 k1 c1 f1) (h2 : XA G p2 Γ e2 k2 c2 f2) (h3 : XA G p3 Γ e3 k3 c3 f3) (h4 : XA G p4 Γ e4 k4 c4 f4) (h5 : XA G p5 Γ e5 k5 c5 f5) (h6 : XA G p6 Γ e6 k6 c6 f6) (s0 : ((p1 && (p2 && (p3 && (p4 && (p5 && (p6 && true)))))) || k0.stable) = true) (s1 : ((p2 && (p3 && (p4 && (p5 && (p6 && true))))) || k1.stable) = true) (s2 : ((p3 && (p4 && (p5 && (p6 && true)))) || k2.stable) = true) (s3 : ((p4 && (p5 && (p6 && true))) || k3.stable) = true) (s4 : ((p5 && (p6 && true)) || k4.stable) = true) (s5 : ((p6 && true) || k5.stable) = true) (s6 : (true || k6.stable) = true) (C : ∀ x0 x1 x2 x3 x4 x5 x6 v, Fn x0 x1 x2 x3 x4 x5 x6 = some v → CdI G m ([k0, k1, k2, k3, k4, k5, k6].map AK.ps) [c0 x0, c1 x1, c2 x2, c3 x3, c4 x4, c5 x5, c6 x6] (er v.1) sh (wd v.2)) :
    XC G Γ m (.cons e0 (.cons e1 (.cons e2 (.cons e3 (.cons e4 (.cons e5 (.cons e6 .nil))))))) [k0, k1, k2, k3, k4, k5, k6] er sh wd (fun σ => (f0 σ).bind fun x0 => (f1 σ).bind fun x1 => (f2 σ).bind fun x2 => (f3 σ).bind fun x3 => (f4 σ).bind fun x4 => (f5 σ).bind fun x5 => (f6 σ).bind fun x6 => Fn x0 x1 x2 x3 x4 x5 x6) :=
  ⟨_, _, (as_cons h0 (as_cons h1 (as_cons h2 (as_cons h3 (as_cons h4 (as_cons h5 (as_cons h6 as_nil s6) s5) s4) s3) s2) s1) s0), fun σ v q => by
    obtain ⟨x0, q0, q⟩ := Option.bind_eq_some_iff.mp q
    obtain ⟨x1, q1, q⟩ := Option.bind_eq_some_iff.mp q
    obtain ⟨x2, q2, q⟩ := Option.bind_eq_some_iff.mp q
    obtain ⟨x3, q3, q⟩ := Option.bind_eq_some_iff.mp q
    obtain ⟨x4, q4, q⟩ := Option.bind_eq_some_iff.mp q
    obtain ⟨x5, q5, q⟩ := Option.bind_eq_some_iff.mp q
    obtain ⟨x6, q6, q⟩ := Option.bind_eq_some_iff.mp q
    exact ⟨[c0 x0, c1 x1, c2 x2, c3 x3, c4 x4, c5 x5, c6 x6], by simp only [q0, q1, q2, q3, q4, q5, q6, Option.bind_some], C _ _ _ _ _ _ _ _ q⟩⟩
theorem xc8 {m : Nat} {T0 : Type} {p0 : Bool} {e0 : E} {k0 : AK} {c0 : T0 → D} {f0 : S → Option T0} {T1 : Type} {p1 : Bool} {e1 : E} {k1 : AK} {c1 : T1 → D} {f1 : S → Option T1} {T2 : Type} {p2 : Bool} {e2 : E} {k2 : AK} {c2 : T2 → D} {f2 : S → Option T2} {T3 : Type} {p3 : Bool} {e3 : E} {k3 : AK} {c3 : T3 → D} {f3 : S → Option T3} {T4 : Type} {p4 : Bool} {e4 : E} {k4 : AK} {c4 : T4 → D} {f4 : S → Option T4} {T5 : Type} {p5 : Bool} {e5 : E} {k5 : AK} {c5 : T5 → D} {f5 : S → Option T5} {T6 : Type} {p6 : Bool} {e6 : E} {k6 : AK} {c6 : T6 → D} {f6 : S → Option T6} {T7 : Type} {p7 : Bool} {e7 : E} {k7 : AK} {c7 : T7 → D} {f7 : S → Option T7} {er : R → D} {sh : Sh} {wd : W0 → List D} {Fn : T0 → T1 → T2 → T3 → T4 → T5 → T6 → T7 → Option (R × W0)} (h0 : XA G p0 Γ e0 k0 c0 f0) (h1 : XA G p1 Γ e1 k1 c1 f1) (h2 : XA G p2 Γ e2 k2 c2 f2) (h3 : XA G p3 Γ e3 k3 c3 f3) (h4 : XA G p4 Γ e4 k4 c4 f4) (h5 : XA G p5 Γ e5 k5 c5 f5) (h6 : XA G p6 Γ e6 k6 c6 f6) (h7 : XA G p7 Γ e7 k7 c7 f7) (s0 : ((p1 && (p2 && (p3 && (p4 && (p5 && (p6 && (p7 && true))))))) || k0.stable) = true) (s1 : ((p2 && (p3 && (p4 && (p5 && (p6 && (p7 && true)))))) || k1.stable) = true) (s2 : ((p3 && (p4 && (p5 && (p6 && (p7 && true))))) || k2.stable) = true) (s3 : ((p4 && (p5 && (p6 && (p7 && true)))) || k3.stable) = true) (s4 : ((p5 && (p6 && (p7 && true))) || k4.stable) = true) (s5 : ((p6 && (p7 && true)) || k5.stable) = true) (s6 : ((p7 && true) || k6.stable) = true) (s7 : (true || k7.stable) = true) (C : ∀ x0 x1 x2 x3 x4 x5 x6 x7 v, Fn x0 x1 x2 x3 x4 x5 x6 x7 = some v → CdI G m ([k0, k1, k2, k3, k4, k5, k6, k7].map AK.ps) [c0 x0, c1 x1, c2 x2, c3 x3, c4 x4, c5 x5, c6 x6, c7 x7] (er v.1) sh (wd v.2)) :
    XC G Γ m (.cons e0 (.cons e1 (.cons e2 (.cons e3 (.cons e4 (.cons e5 (.cons e6 (.cons e7 .nil)))))))) [k0, k1, k2, k3, k4, k5, k6, k7] er sh wd (fun σ => (f0 σ).bind fun x0 => (f1 σ).bind fun x1 => (f2 σ).bind fun x2 => (f3 σ).bind fun x3 => (f4 σ).bind fun x4 => (f5 σ).bind fun x5 => (f6 σ).bind fun x6 => (f7 σ).bind fun x7 => Fn x0 x1 x2 x3 x4 x5 x6 x7) :=
  ⟨_, _, (as_cons h0 (as_cons h1 (as_cons h2 (as_cons h3 (as_cons h4 (as_cons h5 (as_cons h6 (as_cons h7 as_nil s7) s6) s5) s4) s3) s2) s1) s0), fun σ v q => by
    obtain ⟨x0, q0, q⟩ := Option.bind_eq_some_iff.mp q
    obtain ⟨x1, q1, q⟩ := Option.bind_eq_some_iff.mp q
    obtain ⟨x2, q2, q⟩ := Option.bind_eq_some_iff.mp q
    obtain ⟨x3, q3, q⟩ := Option.bind_eq_some_iff.mp q
    obtain ⟨x4, q4, q⟩ := Option.bind_eq_some_iff.mp q
    obtain ⟨x5, q5, q⟩ := Option.bind_eq_some_iff.mp q
    obtain ⟨x6, q6, q⟩ := Option.bind_eq_some_iff.mp q
    obtain ⟨x7, q7, q⟩ := Option.bind_eq_some_iff.mp q
    exact ⟨[c0 x0, c1 x1, c2 x2, c3 x3, c4 x4, c5 x5, c6 x6, c7 x7], by simp only [q0, q1, q2, q3, q4, q5, q6, q7, Option.bind_some], C _ _ _ _ _ _ _ _ _ q⟩⟩
theorem r_hl2 {T0 : Type} {e0 : E} {c0 : T0 → D} {f0 : S → Option T0} {s0 : Sh} {Γ0 : S → Ctx} {T1 : Type} {e1 : E} {c1 : T1 → D} {f1 : S → Option T1} {s1 : Sh} {Γ1 : S → Ctx} {sh : Sh} (h0 : XR G Γ e0 c0 s0 f0 Γ0) (h1 : XR G Γ0 e1 c1 s1 f1 Γ1) (l0 : Sh.le s0 sh = true) (l1 : Sh.le s1 sh = true) : XR G Γ (.lst (.cons e0 (.cons e1 .nil))) (eH2 c0 c1) (.lst sh) (fun σ => (f0 σ).bind fun x0 => (f1 σ).bind fun x1 => some (x0, x1)) Γ1 :=
  r_lstG (rs_cons h0 (rs_cons h1 rs_nil)) (by simp) (by simp only [List.mem_cons, List.not_mem_nil, or_false]; rintro x (rfl | rfl) <;> assumption) (fun σ v q => by
    obtain ⟨x0, q0, q⟩ := Option.bind_eq_some_iff.mp q
    obtain ⟨x1, q1, q⟩ := Option.bind_eq_some_iff.mp q
    cases q
    exact ⟨[c0 x0, c1 x1], by simp only [q0, q1, Option.bind_some], rfl⟩)
theorem r_hl3 {T0 : Type} {e0 : E} {c0 : T0 → D} {f0 : S → Option T0} {s0 : Sh} {Γ0 : S → Ctx} {T1 : Type} {e1 : E} {c1 : T1 → D} {f1 : S → Option T1} {s1 : Sh} {Γ1 : S → Ctx} {T2 : Type} {e2 : E} {c2 : T2 → D} {f2 : S → Option T2} {s2 : Sh} {Γ2 : S → Ctx} {sh : Sh} (h0 : XR G Γ e0 c0 s0 f0 Γ0) (h1 : XR G Γ0 e1 c1 s1 f1 Γ1) (h2 : XR G Γ1 e2 c2 s2 f2 Γ2) (l0 : Sh.le s0 sh = true) (l1 : Sh.le s1 sh = true) (l2 : Sh.le s2 sh = true) : XR G Γ (.lst (.cons e0 (.cons e1 (.cons e2 .nil)))) (eH3 c0 c1 c2) (.lst sh) (fun σ => (f0 σ).bind fun x0 => (f1 σ).bind fun x1 => (f2 σ).bind fun x2 => some (x0, x1, x2)) Γ2 :=
  r_lstG (rs_cons h0 (rs_cons h1 (rs_cons h2 rs_nil))) (by simp) (by simp only [List.mem_cons, List.not_mem_nil, or_false]; rintro x (rfl | rfl | rfl) <;> assumption) (fun σ v q => by
    obtain ⟨x0, q0, q⟩ := Option.bind_eq_some_iff.mp q
    obtain ⟨x1, q1, q⟩ := Option.bind_eq_some_iff.mp q
    obtain ⟨x2, q2, q⟩ := Option.bind_eq_some_iff.mp q
    cases q
    exact ⟨[c0 x0, c1 x1, c2 x2], by simp only [q0, q1, q2, Option.bind_some], rfl⟩)
theorem r_hl4 {T0 : Type} {e0 : E} {c0 : T0 → D} {f0 : S → Option T0} {s0 : Sh} {Γ0 : S → Ctx} {T1 : Type} {e1 : E} {c1 : T1 → D} {f1 : S → Option T1} {s1 : Sh} {Γ1 : S → Ctx} {T2 : Type} {e2 : E} {c2 : T2 → D} {f2 : S → Option T2} {s2 : Sh} {Γ2 : S → Ctx} {T3 : Type} {e3 : E} {c3 : T3 → D} {f3 : S → Option T3} {s3 : Sh} {Γ3 : S → Ctx} {sh : Sh} (h0 : XR G Γ e0 c0 s0 f0 Γ0) (h1 : XR G Γ0 e1 c1 s1 f1 Γ1) (h2 : XR G Γ1 e2 c2 s2 f2 Γ2) (h3 : XR G Γ2 e3 c3 s3 f3 Γ3) (l0 : Sh.le s0 sh = true) (l1 : Sh.le s1 sh = true) (l2 : Sh.le s2 sh = true) (l3 : Sh.le s3 sh = true) : XR G Γ (.lst (.cons e0 (.cons e1 (.cons e2 (.cons e3 .nil))))) (eH4 c0 c1 c2 c3) (.lst sh) (fun σ => (f0 σ).bind fun x0 => (f1 σ).bind fun x1 => (f2 σ).bind fun x2 => (f3 σ).bind fun x3 => some (x0, x1, x2, x3)) Γ3 :=
  r_lstG (rs_cons h0 (rs_cons h1 (rs_cons h2 (rs_cons h3 rs_nil)))) (by simp) (by simp only [List.mem_cons, List.not_mem_nil, or_false]; rintro x (rfl | rfl | rfl | rfl) <;> assumption) (fun σ v q => by
    obtain ⟨x0, q0, q⟩ := Option.bind_eq_some_iff.mp q
    obtain ⟨x1, q1, q⟩ := Option.bind_eq_some_iff.mp q
    obtain ⟨x2, q2, q⟩ := Option.bind_eq_some_iff.mp q
    obtain ⟨x3, q3, q⟩ := Option.bind_eq_some_iff.mp q
    cases q
    exact ⟨[c0 x0, c1 x1, c2 x2, c3 x3], by simp only [q0, q1, q2, q3, Option.bind_some], rfl⟩)
end VT
end

namespace VS.T
open PySem PySem.Spec PyProof.Rows L2 VS
def x0_0 : E := (.sub (.var 1) (.bin .mod (.var 5) (.bi .len (Es.cons (.var 1) Es.nil))))
def b0 : Ss := (Ss.cons (.asg false (.var 3) (.bin .mod (.var 2) (.bi .len (Es.cons (.var 1) Es.nil))))
 (Ss.cons (.asg false (.var 4) (.comp x0_0 [5] (.var 5) (.range (Es.cons (.var 2) Es.nil))))
 (Ss.cons (.ret (.tup (Es.cons (.bin .add (.var 0) (.var 4)) (Es.cons (.bin .add (.slc true false (.var 1) (.var 3) (.lit .non)) (.slc false true (.var 1) (.lit .non) (.var 3))) Es.nil))))
 Ss.nil)))
/-- unrolled -/
def d0 : Def := ⟨3, 6, [], none, b0⟩
def x1_0 : Ss := (Ss.cons (.ifs (.bool true (Ts.cons (.cmp .eq (.bin .mod (.bi .len (Es.cons (.var 1) Es.nil)) (.var 3)) (.lit (.int 0))) (Ts.cons (.cmp .eq (.bin .mul (.slc false true (.var 1) (.lit .non) (.var 3)) (.bin .fdiv (.bi .len (Es.cons (.var 1) Es.nil)) (.var 3))) (.var 1)) Ts.nil))) (Ss.cons (.asg false (.var 2) (.var 3))
 Ss.nil) Ss.nil)
 Ss.nil)
def x1_1 : Tst := (.bool true (Ts.cons (.v (.var 5)) (Ts.cons (.cmp .eq (.sub (.var 5) (.neg (.lit (.int 1)))) (.sub (.var 4) (.neg (.lit (.int 1))))) Ts.nil)))
def x1_2 : Ss := (Ss.cons (.asg false (.var 4) (.bin .add (.slc true false (.var 4) (.neg (.lit (.int 1))) (.lit .non)) (.slc false true (.var 4) (.lit .non) (.neg (.lit (.int 1))))))
 (Ss.cons (.pop (.var 5))
 Ss.nil))
def b1 : Ss := (Ss.cons (.asg false (.var 2) (.bi .len (Es.cons (.var 1) Es.nil)))
 (Ss.cons (.for_ (.var 3) (.range (Es.cons (.bin .sub (.bi .len (Es.cons (.var 1) Es.nil)) (.lit (.int 1))) (Es.cons (.lit (.int 0)) (Es.cons (.neg (.lit (.int 1))) Es.nil)))) x1_0)
 (Ss.cons (.asg false (.var 4) (.slc false true (.var 1) (.lit .non) (.var 2)))
 (Ss.cons (.asg false (.var 5) (.bi .list (Es.cons (.var 0) Es.nil)))
 (Ss.cons (.while_ x1_1 x1_2)
 (Ss.cons (.ret (.tup (Es.cons (.var 5) (Es.cons (.var 4) Es.nil))))
 Ss.nil))))))
/-- shortest -/
def d1 : Def := ⟨2, 6, [], none, b1⟩
def b2 : Ss := (Ss.cons (.ret (.cmp .eq (.call false 1 (Es.cons (.sub (.var 0) (.lit (.int 0))) (Es.cons (.sub (.var 0) (.lit (.int 1))) Es.nil))) (.call false 1 (Es.cons (.sub (.var 1) (.lit (.int 0))) (Es.cons (.sub (.var 1) (.lit (.int 1))) Es.nil)))))
 Ss.nil)
/-- same_run -/
def d2 : Def := ⟨2, 2, [], none, b2⟩
def b3 : Ss := (Ss.cons (.ifs (.cmp .lt (.var 1) (.bi .len (Es.cons (.var 0) Es.nil))) (Ss.cons (.ret (.sub (.var 0) (.var 1)))
 Ss.nil) Ss.nil)
 (Ss.cons (.ret (.lit (.int 0)))
 Ss.nil))
/-- _law_cell -/
def d3 : Def := ⟨2, 2, [], none, b3⟩
def x4_0 : Ss := (Ss.cons (.ifs (.cmp .gt (.var 4) (.lit (.int 0))) (Ss.cons (.app false (.var 5) (.bin .mod (.bi .int (Es.cons (.var 4) Es.nil)) (.lit (.int 1000))))
 (Ss.cons (.asg false (.var 4) (.bin .fdiv (.var 4) (.lit (.int 1000))))
 Ss.nil)) (Ss.cons (.asg false (.var 7) (.call true 3 (Es.cons (.var 0) (Es.cons (.bin .mod (.bi .int (Es.cons (.bin .add (.bin .mul (.var 6) (.lit (.int 7))) (.var 1)) Es.nil)) (.lit (.int 63))) Es.nil))))
 (Ss.cons (.asg false (.var 8) (.bin .mod (.bi .int (Es.cons (.bin .add (.bin .add (.bin .mul (.var 3) (.lit (.int 48271))) (.bin .mul (.var 7) (.lit (.int 16807)))) (.bin .mul (.bin .add (.var 6) (.lit (.int 1))) (.lit (.int 69621)))) Es.nil)) (.lit (.int 2147483647))))
 (Ss.cons (.app false (.var 5) (.bin .mod (.bin .fdiv (.bin .mod (.bi .int (Es.cons (.bin .add (.bin .mul (.var 8) (.var 8)) (.bin .mul (.var 6) (.lit (.int 40692)))) Es.nil)) (.lit (.int 2147483399))) (.lit (.int 64))) (.lit (.int 1000))))
 Ss.nil))))
 Ss.nil)
def b4 : Ss := (Ss.cons (.asg false (.var 3) (.call true 3 (Es.cons (.var 0) (Es.cons (.var 1) Es.nil))))
 (Ss.cons (.asg false (.var 4) (.lit (.int 0)))
 (Ss.cons (.ifs (.cmp .ge (.var 3) (.bin .pow (.lit (.int 10)) (.lit (.int 18)))) (Ss.cons (.asg false (.var 4) (.bin .sub (.var 3) (.bin .pow (.lit (.int 10)) (.lit (.int 18)))))
 Ss.nil) Ss.nil)
 (Ss.cons (.asg false (.var 5) (.lst Es.nil))
 (Ss.cons (.for_ (.var 6) (.range (Es.cons (.var 2) Es.nil)) x4_0)
 (Ss.cons (.ret (.var 5))
 Ss.nil))))))
/-- _law_draws -/
def d4 : Def := ⟨3, 9, [], none, b4⟩
def x5_0 : Ss := (Ss.cons (.ifs (.not_ (.v (.call true 5 (Es.cons (.sub (.var 0) (.var 2)) (Es.cons (.sub (.var 1) (.var 2)) Es.nil))))) (Ss.cons (.ret (.lit (.bl false)))
 Ss.nil) Ss.nil)
 Ss.nil)
def b5 : Ss := (Ss.cons (.ifs (.v (.isin .str (.var 1))) (Ss.cons (.ret (.bool true (Es.cons (.isin .str (.var 0)) (Es.cons (.cmp .eq (.var 0) (.var 1)) Es.nil))))
 Ss.nil) Ss.nil)
 (Ss.cons (.ifs (.v (.isin .int (.var 1))) (Ss.cons (.ret (.bool true (Es.cons (.isin .int (.var 0)) (Es.cons (.not_ (.isin .bool (.var 0))) (Es.cons (.cmp .eq (.var 0) (.var 1)) Es.nil)))))
 Ss.nil) Ss.nil)
 (Ss.cons (.ifs (.bool true (Ts.cons (.v (.isin .tup (.var 1))) (Ts.cons (.not_ (.v (.isin .tup (.var 0)))) Ts.nil))) (Ss.cons (.ret (.lit (.bl false)))
 Ss.nil) Ss.nil)
 (Ss.cons (.ifs (.bool true (Ts.cons (.v (.isin .lst (.var 1))) (Ts.cons (.not_ (.v (.isin .lst (.var 0)))) Ts.nil))) (Ss.cons (.ret (.lit (.bl false)))
 Ss.nil) Ss.nil)
 (Ss.cons (.ifs (.cmp .ne (.bi .len (Es.cons (.var 0) Es.nil)) (.bi .len (Es.cons (.var 1) Es.nil))) (Ss.cons (.ret (.lit (.bl false)))
 Ss.nil) Ss.nil)
 (Ss.cons (.for_ (.var 2) (.range (Es.cons (.bi .len (Es.cons (.var 1) Es.nil)) Es.nil)) x5_0)
 (Ss.cons (.ret (.lit (.bl true)))
 Ss.nil)))))))
/-- _law_same -/
def d5 : Def := ⟨2, 3, [], none, b5⟩
def b6 : Ss := (Ss.cons (.ifs (.cmp .eq (.var 1) (.lit (.int 0))) (Ss.cons (.ret (.bin .mod (.bi .int (Es.cons (.var 0) Es.nil)) (.lit (.int 3))))
 Ss.nil) Ss.nil)
 (Ss.cons (.ifs (.cmp .eq (.var 1) (.lit (.int 1))) (Ss.cons (.ret (.tup (Es.cons (.bin .mod (.bi .int (Es.cons (.var 0) Es.nil)) (.lit (.int 2))) (Es.cons (.bin .sub (.bin .mod (.bin .fdiv (.bi .int (Es.cons (.var 0) Es.nil)) (.lit (.int 2))) (.lit (.int 3))) (.lit (.int 1))) Es.nil))))
 Ss.nil) Ss.nil)
 (Ss.cons (.ifs (.cmp .eq (.var 1) (.lit (.int 2))) (Ss.cons (.ret (.tup (Es.cons (.sub (.lst (Es.cons (.var 2) (Es.cons (.bin .sub (.lit (.int 0)) (.var 2)) (Es.cons (.bin .add (.var 2) (.lit (.int 1))) (Es.cons (.lit (.int 0)) Es.nil))))) (.bin .mod (.bi .int (Es.cons (.var 0) Es.nil)) (.lit (.int 4)))) Es.nil)))
 Ss.nil) Ss.nil)
 (Ss.cons (.ret (.tup Es.nil))
 Ss.nil))))
/-- _law_item -/
def d6 : Def := ⟨3, 3, [], none, b6⟩
def b7 : Ss := (Ss.cons (.ifs (.cmp .eq (.bin .mod (.bin .fdiv (.bi .int (Es.cons (.var 0) Es.nil)) (.lit (.int 30))) (.lit (.int 8))) (.lit (.int 1))) (Ss.cons (.ret (.lst (Es.cons (.bin .mod (.bin .fdiv (.bi .int (Es.cons (.var 0) Es.nil)) (.lit (.int 240))) (.lit (.int 25))) (Es.cons (.bin .add (.lit (.int 1)) (.bin .mod (.bin .fdiv (.bi .int (Es.cons (.var 0) Es.nil)) (.lit (.int 6000))) (.lit (.int 16)))) Es.nil))))
 Ss.nil) Ss.nil)
 (Ss.cons (.ret (.lst (Es.cons (.bin .mod (.bi .int (Es.cons (.var 0) Es.nil)) (.lit (.int 6))) (Es.cons (.bin .add (.lit (.int 1)) (.bin .mod (.bin .fdiv (.bi .int (Es.cons (.var 0) Es.nil)) (.lit (.int 6))) (.lit (.int 5)))) Es.nil))))
 Ss.nil))
/-- _law_spans -/
def d7 : Def := ⟨1, 1, [], none, b7⟩
def x8_0 : E := (.call true 6 (Es.cons (.var 5) (Es.cons (.var 3) (Es.cons (.var 4) Es.nil))))
def b8 : Ss := (Ss.cons (.asg false (.var 3) (.bin .mod (.bi .int (Es.cons (.call true 3 (Es.cons (.var 0) (Es.cons (.lit (.int 0)) Es.nil))) Es.nil)) (.lit (.int 4))))
 (Ss.cons (.asg false (.var 4) (.bin .mod (.bi .int (Es.cons (.call true 3 (Es.cons (.var 0) (Es.cons (.lit (.int 1)) Es.nil))) Es.nil)) (.bin .sub (.bin .pow (.lit (.int 10)) (.lit (.int 18))) (.lit (.int 2)))))
 (Ss.cons (.ret (.comp x8_0 [5] (.var 5) (.seq (.call true 4 (Es.cons (.var 0) (Es.cons (.var 1) (Es.cons (.bin .add (.sub (.var 2) (.lit (.int 0))) (.sub (.var 2) (.lit (.int 1)))) Es.nil)))))))
 Ss.nil)))
/-- _law_items -/
def d8 : Def := ⟨3, 6, [], none, b8⟩
def b9 : Ss := (Ss.cons (.ifs (.cmp .lt (.var 2) (.bi .len (Es.cons (.var 0) Es.nil))) (Ss.cons (.ret (.sub (.var 0) (.var 2)))
 Ss.nil) Ss.nil)
 (Ss.cons (.ret (.sub (.var 1) (.bin .mod (.bi .int (Es.cons (.bin .sub (.var 2) (.bi .len (Es.cons (.var 0) Es.nil))) Es.nil)) (.bi .len (Es.cons (.var 1) Es.nil)))))
 Ss.nil))
/-- _law_at -/
def d9 : Def := ⟨3, 3, [], none, b9⟩
def x10_0 : E := (.call false 9 (Es.cons (.var 0) (Es.cons (.var 1) (Es.cons (.bin .add (.bi .len (Es.cons (.var 0) Es.nil)) (.var 6)) Es.nil))))
def b10 : Ss := (Ss.cons (.asg false (.var 4) (.bin .mod (.bi .int (Es.cons (.var 2) Es.nil)) (.bi .len (Es.cons (.var 1) Es.nil))))
 (Ss.cons (.asg false (.var 5) (.bin .add (.bi .list (Es.cons (.var 0) Es.nil)) (.comp x10_0 [6] (.var 6) (.range (Es.cons (.var 2) Es.nil)))))
 (Ss.cons (.ret (.lst (Es.cons (.var 5) (Es.cons (.bin .mul (.bin .add (.slc true false (.var 1) (.var 4) (.lit .non)) (.slc false true (.var 1) (.lit .non) (.var 4))) (.var 3)) Es.nil))))
 Ss.nil)))
/-- _law_longer -/
def d10 : Def := ⟨4, 7, [], none, b10⟩
def x11_0 : Ss := (Ss.cons (.ifs (.not_ (.v (.call true 5 (Es.cons (.call false 9 (Es.cons (.sub (.var 0) (.lit (.int 0))) (Es.cons (.sub (.var 0) (.lit (.int 1))) (Es.cons (.var 3) Es.nil)))) (Es.cons (.call false 9 (Es.cons (.sub (.var 1) (.lit (.int 0))) (Es.cons (.sub (.var 1) (.lit (.int 1))) (Es.cons (.var 3) Es.nil)))) Es.nil))))) (Ss.cons (.ret (.lit (.bl false)))
 Ss.nil) Ss.nil)
 Ss.nil)
def b11 : Ss := (Ss.cons (.asg false (.var 2) (.bin .add (.bi .max2 (Es.cons (.bi .len (Es.cons (.sub (.var 0) (.lit (.int 0))) Es.nil)) (Es.cons (.bi .len (Es.cons (.sub (.var 1) (.lit (.int 0))) Es.nil)) Es.nil))) (.bin .mul (.bi .len (Es.cons (.sub (.var 0) (.lit (.int 1))) Es.nil)) (.bi .len (Es.cons (.sub (.var 1) (.lit (.int 1))) Es.nil)))))
 (Ss.cons (.for_ (.var 3) (.range (Es.cons (.var 2) Es.nil)) x11_0)
 (Ss.cons (.ret (.lit (.bl true)))
 Ss.nil)))
/-- _law_equal_runs -/
def d11 : Def := ⟨2, 4, [], none, b11⟩
def b12 : Ss := (Ss.cons (.ifs (.cmp .eq (.bin .mod (.bi .int (Es.cons (.var 1) Es.nil)) (.lit (.int 2))) (.lit (.int 1))) (Ss.cons (.asg false (.var 3) (.bin .mod (.bin .fdiv (.bi .int (Es.cons (.var 1) Es.nil)) (.lit (.int 2))) (.bin .add (.bi .len (Es.cons (.sub (.var 0) (.lit (.int 0))) Es.nil)) (.bi .len (Es.cons (.sub (.var 0) (.lit (.int 1))) Es.nil)))))
 (Ss.cons (.ifs (.cmp .lt (.var 3) (.bi .len (Es.cons (.sub (.var 0) (.lit (.int 0))) Es.nil))) (Ss.cons (.setI true (.sub (.var 0) (.lit (.int 0))) (.var 3) (.var 2))
 Ss.nil) (Ss.cons (.setI true (.sub (.var 0) (.lit (.int 1))) (.bin .sub (.var 3) (.bi .len (Es.cons (.sub (.var 0) (.lit (.int 0))) Es.nil))) (.var 2))
 Ss.nil))
 Ss.nil)) Ss.nil)
 (Ss.cons (.ret (.var 0))
 Ss.nil))
/-- _law_spoilt -/
def d12 : Def := ⟨3, 4, [true, false, false], (some 0), b12⟩
def x13_0 : Ss := (Ss.cons (.asg false (.var 16) (.lst (Es.cons (.tup (Es.cons (.bi .list (Es.cons (.sub (.var 14) (.lit (.int 0))) Es.nil)) (Es.cons (.bi .list (Es.cons (.sub (.var 14) (.lit (.int 1))) Es.nil)) Es.nil))) (Es.cons (.tup (Es.cons (.bi .list (Es.cons (.sub (.var 15) (.lit (.int 0))) Es.nil)) (Es.cons (.bi .list (Es.cons (.sub (.var 15) (.lit (.int 1))) Es.nil)) Es.nil))) Es.nil))))
 (Ss.cons (.asg false (.var 17) (.call true 2 (Es.cons (.sub (.var 16) (.lit (.int 0))) (Es.cons (.sub (.var 16) (.lit (.int 1))) Es.nil))))
 (Ss.cons (.ifs (.bool false (Ts.cons (.not_ (.v (.isin .bool (.var 17)))) (Ts.cons (.cmp .ne (.var 17) (.call true 11 (Es.cons (.var 14) (Es.cons (.var 15) Es.nil)))) Ts.nil))) (Ss.cons (.ret (.lit (.bl false)))
 Ss.nil) Ss.nil)
 (Ss.cons (.ifs (.not_ (.v (.call true 5 (Es.cons (.var 16) (Es.cons (.lst (Es.cons (.tup (Es.cons (.sub (.var 14) (.lit (.int 0))) (Es.cons (.sub (.var 14) (.lit (.int 1))) Es.nil))) (Es.cons (.tup (Es.cons (.sub (.var 15) (.lit (.int 0))) (Es.cons (.sub (.var 15) (.lit (.int 1))) Es.nil))) Es.nil))) Es.nil))))) (Ss.cons (.ret (.lit (.bl false)))
 Ss.nil) Ss.nil)
 Ss.nil))))
def x13_1 : Ss := (Ss.cons (.for_ (.var 15) (.seq (.var 13)) x13_0)
 Ss.nil)
def b13 : Ss := (Ss.cons (.asg false (.var 1) (.call true 7 (Es.cons (.call true 3 (Es.cons (.var 0) (Es.cons (.lit (.int 2)) Es.nil))) Es.nil)))
 (Ss.cons (.asg false (.var 2) (.call true 8 (Es.cons (.var 0) (Es.cons (.lit (.int 3)) (Es.cons (.var 1) Es.nil)))))
 (Ss.cons (.asg false (.var 3) (.slc false true (.var 2) (.lit .non) (.sub (.var 1) (.lit (.int 0)))))
 (Ss.cons (.asg false (.var 4) (.slc true false (.var 2) (.sub (.var 1) (.lit (.int 0))) (.lit .non)))
 (Ss.cons (.asg false (.var 5) (.bin .mod (.bin .fdiv (.bi .int (Es.cons (.call true 3 (Es.cons (.var 0) (Es.cons (.lit (.int 4)) Es.nil))) Es.nil)) (.lit (.int 4))) (.lit (.int 12))))
 (Ss.cons (.asg false (.var 6) (.bin .add (.lit (.int 1)) (.bin .mod (.bin .fdiv (.bi .int (Es.cons (.call true 3 (Es.cons (.var 0) (Es.cons (.lit (.int 4)) Es.nil))) Es.nil)) (.lit (.int 48))) (.lit (.int 3)))))
 (Ss.cons (.asg true (.var 7) (.call false 10 (Es.cons (.var 3) (Es.cons (.var 4) (Es.cons (.var 5) (Es.cons (.var 6) Es.nil))))))
 (Ss.cons (.ifs (.cmp .eq (.bin .mod (.bi .int (Es.cons (.call true 3 (Es.cons (.var 0) (Es.cons (.lit (.int 4)) Es.nil))) Es.nil)) (.lit (.int 4))) (.lit (.int 1))) (Ss.cons (.asg false (.var 5) (.bin .mod (.bi .int (Es.cons (.call true 3 (Es.cons (.var 0) (Es.cons (.lit (.int 5)) Es.nil))) Es.nil)) (.lit (.int 1001))))
 Ss.nil) Ss.nil)
 (Ss.cons (.asg false (.var 8) (.lst (Es.cons (.bi .list (Es.cons (.var 3) Es.nil)) (Es.cons (.bi .list (Es.cons (.var 4) Es.nil)) Es.nil))))
 (Ss.cons (.asg false (.var 9) (.call false 0 (Es.cons (.sub (.var 8) (.lit (.int 0))) (Es.cons (.sub (.var 8) (.lit (.int 1))) (Es.cons (.var 5) Es.nil)))))
 (Ss.cons (.asg false (.var 10) (.call false 10 (Es.cons (.var 3) (Es.cons (.var 4) (Es.cons (.var 5) (Es.cons (.lit (.int 1)) Es.nil))))))
 (Ss.cons (.ifs (.bool false (Ts.cons (.not_ (.v (.call true 5 (Es.cons (.var 9) (Es.cons (.tup (Es.cons (.sub (.var 10) (.lit (.int 0))) (Es.cons (.sub (.var 10) (.lit (.int 1))) Es.nil))) Es.nil))))) (Ts.cons (.not_ (.v (.call true 5 (Es.cons (.var 8) (Es.cons (.lst (Es.cons (.var 3) (Es.cons (.var 4) Es.nil))) Es.nil))))) Ts.nil))) (Ss.cons (.ret (.lit (.bl false)))
 Ss.nil) Ss.nil)
 (Ss.cons (.clr (.sub (.var 9) (.lit (.int 0))))
 (Ss.cons (.app false (.sub (.var 9) (.lit (.int 1))) (.sub (.var 4) (.lit (.int 0))))
 (Ss.cons (.asg false (.var 11) (.call true 8 (Es.cons (.var 0) (Es.cons (.lit (.int 6)) (Es.cons (.lst (Es.cons (.sub (.var 1) (.lit (.int 1))) (Es.cons (.bin .add (.sub (.var 1) (.lit (.int 0))) (.lit (.int 1))) Es.nil))) Es.nil)))))
 (Ss.cons (.asg false (.var 12) (.cio 12 (Es.cons (.var 7) (Es.cons (.call true 3 (Es.cons (.var 0) (Es.cons (.lit (.int 8)) Es.nil))) (Es.cons (.sub (.var 11) (.lit (.int 0))) Es.nil)))))
 (Ss.cons (.asg false (.var 13) (.lst (Es.cons (.lst (Es.cons (.var 3) (Es.cons (.var 4) Es.nil))) (Es.cons (.var 12) (Es.cons (.lst (Es.cons (.slc false true (.var 11) (.lit .non) (.sub (.var 1) (.lit (.int 1)))) (Es.cons (.slc true false (.var 11) (.sub (.var 1) (.lit (.int 1))) (.lit .non)) Es.nil))) Es.nil)))))
 (Ss.cons (.for_ (.var 14) (.seq (.var 13)) x13_1)
 (Ss.cons (.ret (.call true 5 (Es.cons (.var 8) (Es.cons (.lst (Es.cons (.var 3) (Es.cons (.var 4) Es.nil))) Es.nil))))
 Ss.nil)))))))))))))))))))
/-- law -/
def d13 : Def := ⟨1, 18, [], none, b13⟩
def prog : List Def := [d0, d1, d2, d3, d4, d5, d6, d7, d8, d9, d10, d11, d12, d13]

def con : Nat → D
  | _ => .non
def topS (i : Nat) : Stmt := PySem.Challenge.pw_lassoproof_k21_unrolled_and_same_run.main.body.getD i (.Pass ⟨0, 0, 0, 0⟩)
def tab : List (Str × Nat × List Str) := [("unrolled", 3, []), ("shortest", 2, []), ("same_run", 2, []), ("_law_cell", 2, []), ("_law_draws", 3, []), ("_law_same", 2, []), ("_law_item", 3, []), ("_law_spans", 1, []), ("_law_items", 3, []), ("_law_at", 3, []), ("_law_longer", 4, []), ("_law_equal_runs", 2, []), ("_law_spoilt", 3, []), ("law", 1, [])]
def consN : List Str := []
def dcN : List Str := []
abbrev N0 : List Str := ["stem", "loop", "count", "turn", "more", "k"]
abbrev P0 : List Str := ["stem", "loop", "count"]
abbrev st0 : Stmt := topS 1
theorem sc0 : FnScope N0 P0 (defScope st0) := ⟨by decide +kernel, by decide +kernel, by decide +kernel, by decide +kernel, rfl, by decide +kernel, by decide +kernel⟩
theorem ch0 : chSs ⟨defScope st0, N0, fun _ => true, tab, consN, dcN, alOf prog⟩ b0 (defBody st0) = true := by decide +kernel
abbrev N1 : List Str := ["stem", "loop", "least", "length", "short_loop", "short_stem"]
abbrev P1 : List Str := ["stem", "loop"]
abbrev st1 : Stmt := topS 2
theorem sc1 : FnScope N1 P1 (defScope st1) := ⟨by decide +kernel, by decide +kernel, by decide +kernel, by decide +kernel, rfl, by decide +kernel, by decide +kernel⟩
theorem ch1 : chSs ⟨defScope st1, N1, fun _ => true, tab, consN, dcN, alOf prog⟩ b1 (defBody st1) = true := by decide +kernel
abbrev N2 : List Str := ["one", "other"]
abbrev P2 : List Str := ["one", "other"]
abbrev st2 : Stmt := topS 3
theorem sc2 : FnScope N2 P2 (defScope st2) := ⟨by decide +kernel, by decide +kernel, by decide +kernel, by decide +kernel, rfl, by decide +kernel, by decide +kernel⟩
theorem ch2 : chSs ⟨defScope st2, N2, fun _ => true, tab, consN, dcN, alOf prog⟩ b2 (defBody st2) = true := by decide +kernel
abbrev N3 : List Str := ["_law_script", "_law_k"]
abbrev P3 : List Str := ["_law_script", "_law_k"]
abbrev st3 : Stmt := topS 5
theorem sc3 : FnScope N3 P3 (defScope st3) := ⟨by decide +kernel, by decide +kernel, by decide +kernel, by decide +kernel, rfl, by decide +kernel, by decide +kernel⟩
theorem ch3 : chSs ⟨defScope st3, N3, fun _ => true, tab, consN, dcN, alOf prog⟩ b3 (defBody st3) = true := by decide +kernel
abbrev N4 : List Str := ["_law_script", "_law_first", "_law_count", "_law_cell_here", "_law_rest", "_law_draws_here", "_law_k", "_law_other", "_law_mixed"]
abbrev P4 : List Str := ["_law_script", "_law_first", "_law_count"]
abbrev st4 : Stmt := topS 6
theorem sc4 : FnScope N4 P4 (defScope st4) := ⟨by decide +kernel, by decide +kernel, by decide +kernel, by decide +kernel, rfl, by decide +kernel, by decide +kernel⟩
theorem ch4 : chSs ⟨defScope st4, N4, fun _ => true, tab, consN, dcN, alOf prog⟩ b4 (defBody st4) = true := by decide +kernel
abbrev N5 : List Str := ["_law_actual", "_law_expected", "_law_k"]
abbrev P5 : List Str := ["_law_actual", "_law_expected"]
abbrev st5 : Stmt := topS 7
theorem sc5 : FnScope N5 P5 (defScope st5) := ⟨by decide +kernel, by decide +kernel, by decide +kernel, by decide +kernel, rfl, by decide +kernel, by decide +kernel⟩
theorem ch5 : chSs ⟨defScope st5, N5, fun _ => true, tab, consN, dcN, alOf prog⟩ b5 (defBody st5) = true := by decide +kernel
abbrev N6 : List Str := ["_law_draw", "_law_sort", "_law_great"]
abbrev P6 : List Str := ["_law_draw", "_law_sort", "_law_great"]
abbrev st6 : Stmt := topS 8
theorem sc6 : FnScope N6 P6 (defScope st6) := ⟨by decide +kernel, by decide +kernel, by decide +kernel, by decide +kernel, rfl, by decide +kernel, by decide +kernel⟩
theorem ch6 : chSs ⟨defScope st6, N6, fun _ => true, tab, consN, dcN, alOf prog⟩ b6 (defBody st6) = true := by decide +kernel
abbrev N7 : List Str := ["_law_cell_here"]
abbrev P7 : List Str := ["_law_cell_here"]
abbrev st7 : Stmt := topS 9
theorem sc7 : FnScope N7 P7 (defScope st7) := ⟨by decide +kernel, by decide +kernel, by decide +kernel, by decide +kernel, rfl, by decide +kernel, by decide +kernel⟩
theorem ch7 : chSs ⟨defScope st7, N7, fun _ => true, tab, consN, dcN, alOf prog⟩ b7 (defBody st7) = true := by decide +kernel
abbrev N8 : List Str := ["_law_script", "_law_first", "_law_spans_here", "_law_sort", "_law_great", "_law_draw"]
abbrev P8 : List Str := ["_law_script", "_law_first", "_law_spans_here"]
abbrev st8 : Stmt := topS 10
theorem sc8 : FnScope N8 P8 (defScope st8) := ⟨by decide +kernel, by decide +kernel, by decide +kernel, by decide +kernel, rfl, by decide +kernel, by decide +kernel⟩
theorem ch8 : chSs ⟨defScope st8, N8, fun _ => true, tab, consN, dcN, alOf prog⟩ b8 (defBody st8) = true := by decide +kernel
abbrev N9 : List Str := ["_law_stem", "_law_loop", "_law_k"]
abbrev P9 : List Str := ["_law_stem", "_law_loop", "_law_k"]
abbrev st9 : Stmt := topS 11
theorem sc9 : FnScope N9 P9 (defScope st9) := ⟨by decide +kernel, by decide +kernel, by decide +kernel, by decide +kernel, rfl, by decide +kernel, by decide +kernel⟩
theorem ch9 : chSs ⟨defScope st9, N9, fun _ => true, tab, consN, dcN, alOf prog⟩ b9 (defBody st9) = true := by decide +kernel
abbrev N10 : List Str := ["_law_stem", "_law_loop", "_law_count", "_law_times", "_law_turn", "_law_longer_here", "_law_k"]
abbrev P10 : List Str := ["_law_stem", "_law_loop", "_law_count", "_law_times"]
abbrev st10 : Stmt := topS 12
theorem sc10 : FnScope N10 P10 (defScope st10) := ⟨by decide +kernel, by decide +kernel, by decide +kernel, by decide +kernel, rfl, by decide +kernel, by decide +kernel⟩
theorem ch10 : chSs ⟨defScope st10, N10, fun _ => true, tab, consN, dcN, alOf prog⟩ b10 (defBody st10) = true := by decide +kernel
abbrev N11 : List Str := ["_law_one", "_law_other", "_law_many", "_law_k"]
abbrev P11 : List Str := ["_law_one", "_law_other"]
abbrev st11 : Stmt := topS 13
theorem sc11 : FnScope N11 P11 (defScope st11) := ⟨by decide +kernel, by decide +kernel, by decide +kernel, by decide +kernel, rfl, by decide +kernel, by decide +kernel⟩
theorem ch11 : chSs ⟨defScope st11, N11, fun _ => true, tab, consN, dcN, alOf prog⟩ b11 (defBody st11) = true := by decide +kernel
abbrev N12 : List Str := ["_law_lasso", "_law_cell_here", "_law_item_here", "_law_at_here"]
abbrev P12 : List Str := ["_law_lasso", "_law_cell_here", "_law_item_here"]
abbrev st12 : Stmt := topS 14
theorem sc12 : FnScope N12 P12 (defScope st12) := ⟨by decide +kernel, by decide +kernel, by decide +kernel, by decide +kernel, rfl, by decide +kernel, by decide +kernel⟩
theorem ch12 : chSs ⟨defScope st12, N12, fun _ => true, tab, consN, dcN, alOf prog⟩ b12 (defBody st12) = true := by decide +kernel
abbrev N13 : List Str := ["_law_script", "_law_spans_here", "_law_items_here", "_law_stem", "_law_loop", "_law_count", "_law_times", "_law_longer_here", "_law_passed", "_law_told", "_law_due", "_law_other", "_law_second", "_law_lassos", "_law_one", "_law_another", "_law_pairs", "_law_answer"]
abbrev P13 : List Str := ["_law_script"]
abbrev st13 : Stmt := topS 15
theorem sc13 : FnScope N13 P13 (defScope st13) := ⟨by decide +kernel, by decide +kernel, by decide +kernel, by decide +kernel, rfl, by decide +kernel, by decide +kernel⟩
theorem ch13 : chSs ⟨defScope st13, N13, fun _ => true, tab, consN, dcN, alOf prog⟩ b13 (defBody st13) = true := by decide +kernel
theorem all_mk {w : World} {K : PySem.W.Frag} {h : Heap} {mg : Str → Option Value} {fa : Addr} (X : K.In h) (G : h.Ns mainGlobals mg) (hfa : mg "law" = some (.ref fa))
    {f0 : Addr} {od0 an0 : Option Addr} {sl0 : Array (Option Value)} {oc0 kV0 dc0 pm0 cd0 ct0 : Value}
    {f1 : Addr} {od1 an1 : Option Addr} {sl1 : Array (Option Value)} {oc1 kV1 dc1 pm1 cd1 ct1 : Value}
    {f2 : Addr} {od2 an2 : Option Addr} {sl2 : Array (Option Value)} {oc2 kV2 dc2 pm2 cd2 ct2 : Value}
    {f3 : Addr} {od3 an3 : Option Addr} {sl3 : Array (Option Value)} {oc3 kV3 dc3 pm3 cd3 ct3 : Value}
    {f4 : Addr} {od4 an4 : Option Addr} {sl4 : Array (Option Value)} {oc4 kV4 dc4 pm4 cd4 ct4 : Value}
    {f5 : Addr} {od5 an5 : Option Addr} {sl5 : Array (Option Value)} {oc5 kV5 dc5 pm5 cd5 ct5 : Value}
    {f6 : Addr} {od6 an6 : Option Addr} {sl6 : Array (Option Value)} {oc6 kV6 dc6 pm6 cd6 ct6 : Value}
    {f7 : Addr} {od7 an7 : Option Addr} {sl7 : Array (Option Value)} {oc7 kV7 dc7 pm7 cd7 ct7 : Value}
    {f8 : Addr} {od8 an8 : Option Addr} {sl8 : Array (Option Value)} {oc8 kV8 dc8 pm8 cd8 ct8 : Value}
    {f9 : Addr} {od9 an9 : Option Addr} {sl9 : Array (Option Value)} {oc9 kV9 dc9 pm9 cd9 ct9 : Value}
    {f10 : Addr} {od10 an10 : Option Addr} {sl10 : Array (Option Value)} {oc10 kV10 dc10 pm10 cd10 ct10 : Value}
    {f11 : Addr} {od11 an11 : Option Addr} {sl11 : Array (Option Value)} {oc11 kV11 dc11 pm11 cd11 ct11 : Value}
    {f12 : Addr} {od12 an12 : Option Addr} {sl12 : Array (Option Value)} {oc12 kV12 dc12 pm12 cd12 ct12 : Value}
    {f13 : Addr} {od13 an13 : Option Addr} {sl13 : Array (Option Value)} {oc13 kV13 dc13 pm13 cd13 ct13 : Value}
    (a0 : PySem.W.nsIn K mainGlobals "unrolled" = some (some (.ref f0))) (l0 : K.lookup f0 = some ⟨oc0, od0, .func (PySem.W.fnOf "unrolled" "unrolled" (defArgs st0) (defBody st0) (defScope st0) .none kV0 dc0 pm0 an0 cd0 ct0), sl0⟩) (c0 : PySem.W.codeIn K cd0 "unrolled" = true) (k0 : PySem.W.keepIn K (.ref f0) = true)
    (a1 : PySem.W.nsIn K mainGlobals "shortest" = some (some (.ref f1))) (l1 : K.lookup f1 = some ⟨oc1, od1, .func (PySem.W.fnOf "shortest" "shortest" (defArgs st1) (defBody st1) (defScope st1) .none kV1 dc1 pm1 an1 cd1 ct1), sl1⟩) (c1 : PySem.W.codeIn K cd1 "shortest" = true) (k1 : PySem.W.keepIn K (.ref f1) = true)
    (a2 : PySem.W.nsIn K mainGlobals "same_run" = some (some (.ref f2))) (l2 : K.lookup f2 = some ⟨oc2, od2, .func (PySem.W.fnOf "same_run" "same_run" (defArgs st2) (defBody st2) (defScope st2) .none kV2 dc2 pm2 an2 cd2 ct2), sl2⟩) (c2 : PySem.W.codeIn K cd2 "same_run" = true) (k2 : PySem.W.keepIn K (.ref f2) = true)
    (a3 : PySem.W.nsIn K mainGlobals "_law_cell" = some (some (.ref f3))) (l3 : K.lookup f3 = some ⟨oc3, od3, .func (PySem.W.fnOf "_law_cell" "_law_cell" (defArgs st3) (defBody st3) (defScope st3) .none kV3 dc3 pm3 an3 cd3 ct3), sl3⟩) (c3 : PySem.W.codeIn K cd3 "_law_cell" = true) (k3 : PySem.W.keepIn K (.ref f3) = true)
    (a4 : PySem.W.nsIn K mainGlobals "_law_draws" = some (some (.ref f4))) (l4 : K.lookup f4 = some ⟨oc4, od4, .func (PySem.W.fnOf "_law_draws" "_law_draws" (defArgs st4) (defBody st4) (defScope st4) .none kV4 dc4 pm4 an4 cd4 ct4), sl4⟩) (c4 : PySem.W.codeIn K cd4 "_law_draws" = true) (k4 : PySem.W.keepIn K (.ref f4) = true)
    (a5 : PySem.W.nsIn K mainGlobals "_law_same" = some (some (.ref f5))) (l5 : K.lookup f5 = some ⟨oc5, od5, .func (PySem.W.fnOf "_law_same" "_law_same" (defArgs st5) (defBody st5) (defScope st5) .none kV5 dc5 pm5 an5 cd5 ct5), sl5⟩) (c5 : PySem.W.codeIn K cd5 "_law_same" = true) (k5 : PySem.W.keepIn K (.ref f5) = true)
    (a6 : PySem.W.nsIn K mainGlobals "_law_item" = some (some (.ref f6))) (l6 : K.lookup f6 = some ⟨oc6, od6, .func (PySem.W.fnOf "_law_item" "_law_item" (defArgs st6) (defBody st6) (defScope st6) .none kV6 dc6 pm6 an6 cd6 ct6), sl6⟩) (c6 : PySem.W.codeIn K cd6 "_law_item" = true) (k6 : PySem.W.keepIn K (.ref f6) = true)
    (a7 : PySem.W.nsIn K mainGlobals "_law_spans" = some (some (.ref f7))) (l7 : K.lookup f7 = some ⟨oc7, od7, .func (PySem.W.fnOf "_law_spans" "_law_spans" (defArgs st7) (defBody st7) (defScope st7) .none kV7 dc7 pm7 an7 cd7 ct7), sl7⟩) (c7 : PySem.W.codeIn K cd7 "_law_spans" = true) (k7 : PySem.W.keepIn K (.ref f7) = true)
    (a8 : PySem.W.nsIn K mainGlobals "_law_items" = some (some (.ref f8))) (l8 : K.lookup f8 = some ⟨oc8, od8, .func (PySem.W.fnOf "_law_items" "_law_items" (defArgs st8) (defBody st8) (defScope st8) .none kV8 dc8 pm8 an8 cd8 ct8), sl8⟩) (c8 : PySem.W.codeIn K cd8 "_law_items" = true) (k8 : PySem.W.keepIn K (.ref f8) = true)
    (a9 : PySem.W.nsIn K mainGlobals "_law_at" = some (some (.ref f9))) (l9 : K.lookup f9 = some ⟨oc9, od9, .func (PySem.W.fnOf "_law_at" "_law_at" (defArgs st9) (defBody st9) (defScope st9) .none kV9 dc9 pm9 an9 cd9 ct9), sl9⟩) (c9 : PySem.W.codeIn K cd9 "_law_at" = true) (k9 : PySem.W.keepIn K (.ref f9) = true)
    (a10 : PySem.W.nsIn K mainGlobals "_law_longer" = some (some (.ref f10))) (l10 : K.lookup f10 = some ⟨oc10, od10, .func (PySem.W.fnOf "_law_longer" "_law_longer" (defArgs st10) (defBody st10) (defScope st10) .none kV10 dc10 pm10 an10 cd10 ct10), sl10⟩) (c10 : PySem.W.codeIn K cd10 "_law_longer" = true) (k10 : PySem.W.keepIn K (.ref f10) = true)
    (a11 : PySem.W.nsIn K mainGlobals "_law_equal_runs" = some (some (.ref f11))) (l11 : K.lookup f11 = some ⟨oc11, od11, .func (PySem.W.fnOf "_law_equal_runs" "_law_equal_runs" (defArgs st11) (defBody st11) (defScope st11) .none kV11 dc11 pm11 an11 cd11 ct11), sl11⟩) (c11 : PySem.W.codeIn K cd11 "_law_equal_runs" = true) (k11 : PySem.W.keepIn K (.ref f11) = true)
    (a12 : PySem.W.nsIn K mainGlobals "_law_spoilt" = some (some (.ref f12))) (l12 : K.lookup f12 = some ⟨oc12, od12, .func (PySem.W.fnOf "_law_spoilt" "_law_spoilt" (defArgs st12) (defBody st12) (defScope st12) .none kV12 dc12 pm12 an12 cd12 ct12), sl12⟩) (c12 : PySem.W.codeIn K cd12 "_law_spoilt" = true) (k12 : PySem.W.keepIn K (.ref f12) = true)
    (a13 : PySem.W.nsIn K mainGlobals "law" = some (some (.ref f13))) (l13 : K.lookup f13 = some ⟨oc13, od13, .func (PySem.W.fnOf "law" "law" (defArgs st13) (defBody st13) (defScope st13) .none kV13 dc13 pm13 an13 cd13 ct13), sl13⟩) (c13 : PySem.W.codeIn K cd13 "law" = true) (k13 : PySem.W.keepIn K (.ref f13) = true)
    (z0 : PySem.W.nsIn K mainGlobals "len" = some none)
    (z1 : PySem.W.nsIn K mainGlobals "int" = some none)
    (z2 : PySem.W.nsIn K mainGlobals "list" = some none)
    (z3 : PySem.W.nsIn K mainGlobals "tuple" = some none)
    (z4 : PySem.W.nsIn K mainGlobals "sorted" = some none)
    (z5 : PySem.W.nsIn K mainGlobals "abs" = some none)
    (z6 : PySem.W.nsIn K mainGlobals "min" = some none)
    (z7 : PySem.W.nsIn K mainGlobals "max" = some none)
    (z8 : PySem.W.nsIn K mainGlobals "any" = some none)
    (z9 : PySem.W.nsIn K mainGlobals "all" = some none)
    (z10 : PySem.W.nsIn K mainGlobals "sum" = some none)
    (z11 : PySem.W.nsIn K mainGlobals "str" = some none)
    (z12 : PySem.W.nsIn K mainGlobals "isinstance" = some none)
    (z13 : PySem.W.nsIn K mainGlobals "reversed" = some none)
    (z14 : PySem.W.nsIn K mainGlobals "range" = some none)
    (z15 : PySem.W.nsIn K mainGlobals "enumerate" = some none)
    (z16 : PySem.W.nsIn K mainGlobals "zip" = some none)
    (z17 : PySem.W.nsIn K mainGlobals "bool" = some none) :
    ∃ fd : FuncData, (∀ (s : Shared) (v : Value), BindsTo s fd ⟨[v], []⟩ [("_law_script", v)]) ∧ ∀ base : Heap, K.In base → base.Ns mainGlobals mg → FnOk PySem.Challenge.rw_lassoproof_k21_unrolled_and_same_run.prog w K mg base CX0 67 fa fd ["_law_script"] (spLaw K WL0 con prog 67 13) := by
  have e := hfa.symm.trans (PySem.W.mg_of X G a13)
  cases e
  have F0 := fun_mk (st := st0) l0 c0 k0
  have B0 := bindK_pos (np := 3) (F0.binds (ps := P0) fun _ _ _ _ _ _ us hl => match us, hl with | [_, _, _], _ => rfl)
  have D0 : DefF K mg prog tab consN dcN 0 d0 "unrolled" st0 _ _ N0 P0 [] := ⟨rfl, F0, sc0, B0, PySem.W.mg_of X G a0, rfl, rfl, by decide +kernel, ch0⟩
  have F1 := fun_mk (st := st1) l1 c1 k1
  have B1 := bindK_pos (np := 2) (F1.binds (ps := P1) fun _ _ _ _ _ _ us hl => match us, hl with | [_, _], _ => rfl)
  have D1 : DefF K mg prog tab consN dcN 1 d1 "shortest" st1 _ _ N1 P1 [] := ⟨rfl, F1, sc1, B1, PySem.W.mg_of X G a1, rfl, rfl, by decide +kernel, ch1⟩
  have F2 := fun_mk (st := st2) l2 c2 k2
  have B2 := bindK_pos (np := 2) (F2.binds (ps := P2) fun _ _ _ _ _ _ us hl => match us, hl with | [_, _], _ => rfl)
  have D2 : DefF K mg prog tab consN dcN 2 d2 "same_run" st2 _ _ N2 P2 [] := ⟨rfl, F2, sc2, B2, PySem.W.mg_of X G a2, rfl, rfl, by decide +kernel, ch2⟩
  have F3 := fun_mk (st := st3) l3 c3 k3
  have B3 := bindK_pos (np := 2) (F3.binds (ps := P3) fun _ _ _ _ _ _ us hl => match us, hl with | [_, _], _ => rfl)
  have D3 : DefF K mg prog tab consN dcN 3 d3 "_law_cell" st3 _ _ N3 P3 [] := ⟨rfl, F3, sc3, B3, PySem.W.mg_of X G a3, rfl, rfl, by decide +kernel, ch3⟩
  have F4 := fun_mk (st := st4) l4 c4 k4
  have B4 := bindK_pos (np := 3) (F4.binds (ps := P4) fun _ _ _ _ _ _ us hl => match us, hl with | [_, _, _], _ => rfl)
  have D4 : DefF K mg prog tab consN dcN 4 d4 "_law_draws" st4 _ _ N4 P4 [] := ⟨rfl, F4, sc4, B4, PySem.W.mg_of X G a4, rfl, rfl, by decide +kernel, ch4⟩
  have F5 := fun_mk (st := st5) l5 c5 k5
  have B5 := bindK_pos (np := 2) (F5.binds (ps := P5) fun _ _ _ _ _ _ us hl => match us, hl with | [_, _], _ => rfl)
  have D5 : DefF K mg prog tab consN dcN 5 d5 "_law_same" st5 _ _ N5 P5 [] := ⟨rfl, F5, sc5, B5, PySem.W.mg_of X G a5, rfl, rfl, by decide +kernel, ch5⟩
  have F6 := fun_mk (st := st6) l6 c6 k6
  have B6 := bindK_pos (np := 3) (F6.binds (ps := P6) fun _ _ _ _ _ _ us hl => match us, hl with | [_, _, _], _ => rfl)
  have D6 : DefF K mg prog tab consN dcN 6 d6 "_law_item" st6 _ _ N6 P6 [] := ⟨rfl, F6, sc6, B6, PySem.W.mg_of X G a6, rfl, rfl, by decide +kernel, ch6⟩
  have F7 := fun_mk (st := st7) l7 c7 k7
  have B7 := bindK_pos (np := 1) (F7.binds (ps := P7) fun _ _ _ _ _ _ us hl => match us, hl with | [_], _ => rfl)
  have D7 : DefF K mg prog tab consN dcN 7 d7 "_law_spans" st7 _ _ N7 P7 [] := ⟨rfl, F7, sc7, B7, PySem.W.mg_of X G a7, rfl, rfl, by decide +kernel, ch7⟩
  have F8 := fun_mk (st := st8) l8 c8 k8
  have B8 := bindK_pos (np := 3) (F8.binds (ps := P8) fun _ _ _ _ _ _ us hl => match us, hl with | [_, _, _], _ => rfl)
  have D8 : DefF K mg prog tab consN dcN 8 d8 "_law_items" st8 _ _ N8 P8 [] := ⟨rfl, F8, sc8, B8, PySem.W.mg_of X G a8, rfl, rfl, by decide +kernel, ch8⟩
  have F9 := fun_mk (st := st9) l9 c9 k9
  have B9 := bindK_pos (np := 3) (F9.binds (ps := P9) fun _ _ _ _ _ _ us hl => match us, hl with | [_, _, _], _ => rfl)
  have D9 : DefF K mg prog tab consN dcN 9 d9 "_law_at" st9 _ _ N9 P9 [] := ⟨rfl, F9, sc9, B9, PySem.W.mg_of X G a9, rfl, rfl, by decide +kernel, ch9⟩
  have F10 := fun_mk (st := st10) l10 c10 k10
  have B10 := bindK_pos (np := 4) (F10.binds (ps := P10) fun _ _ _ _ _ _ us hl => match us, hl with | [_, _, _, _], _ => rfl)
  have D10 : DefF K mg prog tab consN dcN 10 d10 "_law_longer" st10 _ _ N10 P10 [] := ⟨rfl, F10, sc10, B10, PySem.W.mg_of X G a10, rfl, rfl, by decide +kernel, ch10⟩
  have F11 := fun_mk (st := st11) l11 c11 k11
  have B11 := bindK_pos (np := 2) (F11.binds (ps := P11) fun _ _ _ _ _ _ us hl => match us, hl with | [_, _], _ => rfl)
  have D11 : DefF K mg prog tab consN dcN 11 d11 "_law_equal_runs" st11 _ _ N11 P11 [] := ⟨rfl, F11, sc11, B11, PySem.W.mg_of X G a11, rfl, rfl, by decide +kernel, ch11⟩
  have F12 := fun_mk (st := st12) l12 c12 k12
  have B12 := bindK_pos (np := 3) (F12.binds (ps := P12) fun _ _ _ _ _ _ us hl => match us, hl with | [_, _, _], _ => rfl)
  have D12 : DefF K mg prog tab consN dcN 12 d12 "_law_spoilt" st12 _ _ N12 P12 [] := ⟨rfl, F12, sc12, B12, PySem.W.mg_of X G a12, rfl, rfl, by decide +kernel, ch12⟩
  have F13 := fun_mk (st := st13) l13 c13 k13
  have B13 := bindK_pos (np := 1) (F13.binds (ps := P13) fun _ _ _ _ _ _ us hl => match us, hl with | [_], _ => rfl)
  have D13 : DefF K mg prog tab consN dcN 13 d13 "law" st13 _ _ N13 P13 [] := ⟨rfl, F13, sc13, B13, PySem.W.mg_of X G a13, rfl, rfl, by decide +kernel, ch13⟩
  have HB : ∀ x ∈ bltNames, mg x = none := by
    intro x hx
    simp only [bltNames, List.mem_cons, List.not_mem_nil, or_false] at hx
    rcases hx with rfl | rfl | rfl | rfl | rfl | rfl | rfl | rfl | rfl | rfl | rfl | rfl | rfl | rfl | rfl | rfl | rfl | rfl
    · exact PySem.W.mg_none_of X G z0
    · exact PySem.W.mg_none_of X G z1
    · exact PySem.W.mg_none_of X G z2
    · exact PySem.W.mg_none_of X G z3
    · exact PySem.W.mg_none_of X G z4
    · exact PySem.W.mg_none_of X G z5
    · exact PySem.W.mg_none_of X G z6
    · exact PySem.W.mg_none_of X G z7
    · exact PySem.W.mg_none_of X G z8
    · exact PySem.W.mg_none_of X G z9
    · exact PySem.W.mg_none_of X G z10
    · exact PySem.W.mg_none_of X G z11
    · exact PySem.W.mg_none_of X G z12
    · exact PySem.W.mg_none_of X G z13
    · exact PySem.W.mg_none_of X G z14
    · exact PySem.W.mg_none_of X G z15
    · exact PySem.W.mg_none_of X G z16
    · exact PySem.W.mg_none_of X G z17
  have HC : ∀ k x, consN[k]? = some x → ∃ u v, mg x = some u ∧ RelV v u ∧ ∀ F, Rep K F (con k) v := fun k x hk => match k, x, hk with
    | k + 0, x, hk => by simp [consN] at hk
  have HD : ∀ j x, dcN[j]? = some x → ∃ a es n, mg x = some (.ref a) ∧ KDict K w a es n ∧ ∀ z : Str, ∃ r, PySem.W.nsIn K a z = some r ∧ match pairGet z (pairsOf (con (500 + j))) with | none => r = none | some d => ∃ u v, r = some u ∧ RelV v u ∧ ∀ F, Rep K F d v := fun j x hk => match j, x, hk with
    | k + 0, x, hk => by simp [dcN] at hk
  have T : ∀ k p, tab[k]? = some p → ∃ d x st f fd N ps ks, prog[k]? = some d ∧ DefF K mg prog tab consN dcN k d x st f fd N ps ks := fun k p hk => match k, hk with
    | 0, _ => ⟨_, _, _, _, _, _, _, _, rfl, D0⟩
    | 1, _ => ⟨_, _, _, _, _, _, _, _, rfl, D1⟩
    | 2, _ => ⟨_, _, _, _, _, _, _, _, rfl, D2⟩
    | 3, _ => ⟨_, _, _, _, _, _, _, _, rfl, D3⟩
    | 4, _ => ⟨_, _, _, _, _, _, _, _, rfl, D4⟩
    | 5, _ => ⟨_, _, _, _, _, _, _, _, rfl, D5⟩
    | 6, _ => ⟨_, _, _, _, _, _, _, _, rfl, D6⟩
    | 7, _ => ⟨_, _, _, _, _, _, _, _, rfl, D7⟩
    | 8, _ => ⟨_, _, _, _, _, _, _, _, rfl, D8⟩
    | 9, _ => ⟨_, _, _, _, _, _, _, _, rfl, D9⟩
    | 10, _ => ⟨_, _, _, _, _, _, _, _, rfl, D10⟩
    | 11, _ => ⟨_, _, _, _, _, _, _, _, rfl, D11⟩
    | 12, _ => ⟨_, _, _, _, _, _, _, _, rfl, D12⟩
    | 13, _ => ⟨_, _, _, _, _, _, _, _, rfl, D13⟩
    | k + 14, hk => by simp [tab] at hk
  exact ⟨_, fun s v => .of_eq rfl, fun base _ _ => def_step WL0_ok (levels WL0_ok HC HB HD T 66) HC HB HD (k := 13) rfl D13⟩
end VS.T
namespace VS.T
open PySem VS L2 VT

/-- _law_spans -/
noncomputable def m_spans (cell_here : Int) : Option (List Int) :=
if (decide (((cell_here / 30) % 8) = 1)) then
some [((cell_here / 240) % 25), (1 + ((cell_here / 6000) % 16))]
else
some [(cell_here % 6), (1 + ((cell_here / 6) % 5))]
theorem ok7 : ∀ n, 1 ≤ n → ∀ (v0 : Int) w, m_spans v0 = some w → Cd (GE WL0 con prog n) 7 [eI v0] ((eL eI) w) (.lst .fl) := by
  intro n hn v0 w q
  obtain ⟨n, rfl⟩ : ∃ n', n = n' + 1 := ⟨n - 1, by omega⟩
  refine def_ok (S := Int) (Γ0 := fun p => [some (.fl, eI p)]) (f := fun p => m_spans p) (d := d7) rfl rfl rfl ?_ (σ := v0) rfl (rl_init [(.fl, eI v0)] 0 ⟨ok_fl (lfI _), trivial⟩) q
  show SX _ _ _ b7 _ _
  unfold b7
  exact SX.of_eq (by
    exact s_if (t_cmp (c_eq (EqE.mk' dpI (by decide) eqvI)) (x_modC (by decide) (x_fdivC (by decide) (x_bi1 bInt lfI rfl (x_var (i := 0) (sh := .fl) (ea := eI) (g := fun p => p) (fun _ => rfl))))) (x_lit (ea := eI) (d := .int 1) (v := 1) rfl rfl) rfl) (by
     simp only [app_nil, app_cons]
     exact s_ret rtR (r_lst (sh := .fl) (ea := eI) (rl_cons (r_e (x_modC (by decide) (x_fdivC (by decide) (x_bi1 bInt lfI rfl (x_var (i := 0) (sh := .fl) (ea := eI) (g := fun p => p) (fun _ => rfl))))) rfl (fun _ => rfl)) (rl_cons (r_e (x_add (x_lit (ea := eI) (d := .int 1) (v := 1) rfl rfl) (x_modC (by decide) (x_fdivC (by decide) (x_bi1 bInt lfI rfl (x_var (i := 0) (sh := .fl) (ea := eI) (g := fun p => p) (fun _ => rfl))))) rfl) rfl (fun _ => rfl)) rl_nil rfl) rfl) rfl) rfl) (by
     simp only [app_nil, app_cons]
     exact s_ret rtR (r_lst (sh := .fl) (ea := eI) (rl_cons (r_e (x_modC (by decide) (x_bi1 bInt lfI rfl (x_var (i := 0) (sh := .fl) (ea := eI) (g := fun p => p) (fun _ => rfl)))) rfl (fun _ => rfl)) (rl_cons (r_e (x_add (x_lit (ea := eI) (d := .int 1) (v := 1) rfl rfl) (x_modC (by decide) (x_fdivC (by decide) (x_bi1 bInt lfI rfl (x_var (i := 0) (sh := .fl) (ea := eI) (g := fun p => p) (fun _ => rfl))))) rfl) rfl (fun _ => rfl)) rl_nil rfl) rfl) rfl) rfl)) (by
    intro σ; rfl)
/-- _law_item -/
noncomputable def m_item (draw : Int) (sort : Int) (great : Int) : Option D :=
if (decide (sort = 0)) then
some (eI (draw % 3))
else
if (decide (sort = 1)) then
some ((eT2 eI eI) ((draw % 2), (((draw / 2) % 3) - 1)))
else
if (decide (sort = 2)) then
(((nth [great, (0 - great), (great + 1), 0] (draw % 4)).bind fun x806 => some x806).bind fun x807 => some ((eT1 eI) x807)).bind fun x808 => some x808
else
some (eT0 ())
theorem ok6 : ∀ n, 1 ≤ n → ∀ (v0 : Int) (v1 : Int) (v2 : Int) w, m_item v0 v1 v2 = some w → Cd (GE WL0 con prog n) 6 [eI v0, eI v1, eI v2] (eD w) .fl := by
  intro n hn v0 v1 v2 w q
  obtain ⟨n, rfl⟩ : ∃ n', n = n' + 1 := ⟨n - 1, by omega⟩
  refine def_ok (S := Int × Int × Int) (Γ0 := fun p => [some (.fl, eI p.1), some (.fl, eI p.2.1), some (.fl, eI p.2.2)]) (f := fun p => m_item p.1 p.2.1 p.2.2) (d := d6) rfl rfl rfl ?_ (σ := (v0, v1, v2)) rfl (rl_init [(.fl, eI v0), (.fl, eI v1), (.fl, eI v2)] 0 ⟨ok_fl (lfI _), ⟨ok_fl (lfI _), ⟨ok_fl (lfI _), trivial⟩⟩⟩) q
  show SX _ _ _ b6 _ _
  unfold b6
  exact SX.of_eq (by
    exact s_if (t_cmp (c_eq (EqE.mk' dpI (by decide) eqvI)) (x_var (i := 1) (sh := .fl) (ea := eI) (g := fun p => p.2.1) (fun _ => rfl)) (x_lit (ea := eI) (d := .int 0) (v := 0) rfl rfl) rfl) (by
     simp only [app_nil, app_cons]
     exact s_ret rtR (r_e (XE.as (ea := eD) (g := fun b => some (eI b)) (x_modC (by decide) (x_bi1 bInt lfI rfl (x_var (i := 0) (sh := .fl) (ea := eI) (g := fun p => p.1) (fun _ => rfl)))) (fun b v q => by cases q; rfl)) rfl (fun _ => rfl)) rfl) (by
     simp only [app_nil, app_cons]
     exact s_if (t_cmp (c_eq (EqE.mk' dpI (by decide) eqvI)) (x_var (i := 1) (sh := .fl) (ea := eI) (g := fun p => p.2.1) (fun _ => rfl)) (x_lit (ea := eI) (d := .int 1) (v := 1) rfl rfl) rfl) (by
      simp only [app_nil, app_cons]
      exact s_ret rtR (XR.as (ea := eD) (g := fun b => some ((eT2 eI eI) b)) (r_tup2 (r_e (x_modC (by decide) (x_bi1 bInt lfI rfl (x_var (i := 0) (sh := .fl) (ea := eI) (g := fun p => p.1) (fun _ => rfl)))) rfl (fun _ => rfl)) (r_e (x_sub (x_modC (by decide) (x_fdivC (by decide) (x_bi1 bInt lfI rfl (x_var (i := 0) (sh := .fl) (ea := eI) (g := fun p => p.1) (fun _ => rfl))))) (x_lit (ea := eI) (d := .int 1) (v := 1) rfl rfl) rfl) rfl (fun _ => rfl))) (fun b v q => by cases q; rfl)) rfl) (by
      simp only [app_nil, app_cons]
      exact s_if (t_cmp (c_eq (EqE.mk' dpI (by decide) eqvI)) (x_var (i := 1) (sh := .fl) (ea := eI) (g := fun p => p.2.1) (fun _ => rfl)) (x_lit (ea := eI) (d := .int 2) (v := 2) rfl rfl) rfl) (by
       simp only [app_nil, app_cons]
       exact s_ret rtR (XR.as (ea := eD) (g := fun b => some ((eT1 eI) b)) (r_tup1 (r_e (XE.flat (x_idx ixL (x_lst (sh := .fl) (ea := eI) (xl_cons (x_var (i := 2) (sh := .fl) (ea := eI) (g := fun p => p.2.2) (fun _ => rfl)) (xl_cons (x_sub (x_lit (ea := eI) (d := .int 0) (v := 0) rfl rfl) (x_var (i := 2) (sh := .fl) (ea := eI) (g := fun p => p.2.2) (fun _ => rfl)) rfl) (xl_cons (x_add (x_var (i := 2) (sh := .fl) (ea := eI) (g := fun p => p.2.2) (fun _ => rfl)) (x_lit (ea := eI) (d := .int 1) (v := 1) rfl rfl) rfl) (xl_cons (x_lit (ea := eI) (d := .int 0) (v := 0) rfl rfl) xl_nil rfl) rfl) rfl) rfl) rfl rfl (by decide) rfl) (x_modC (by decide) (x_bi1 bInt lfI rfl (x_var (i := 0) (sh := .fl) (ea := eI) (g := fun p => p.1) (fun _ => rfl)))) rfl) flI rfl) rfl (fun _ => rfl))) (fun b v q => by cases q; rfl)) rfl) (by
       simp only [app_nil, app_cons]
       exact s_ret rtR (r_e (XE.as (ea := eD) (g := fun b => some (eT0 b)) (x_tup0  rfl rfl) (fun b v q => by cases q; rfl)) rfl (fun _ => rfl)) rfl)))) (by
    intro σ; rfl)
/-- _law_cell -/
noncomputable def m_cell (script : List Int) (k : Int) : Option Int :=
if (decide (k < (script.length : Int))) then
(nth script k).bind fun x809 => some x809
else
some 0
theorem ok3 : ∀ n, 1 ≤ n → ∀ (v0 : List Int) (v1 : Int) w, m_cell v0 v1 = some w → Cd (GE WL0 con prog n) 3 [eR v0, eI v1] (eI w) .fl := by
  intro n hn v0 v1 w q
  obtain ⟨n, rfl⟩ : ∃ n', n = n' + 1 := ⟨n - 1, by omega⟩
  refine def_ok (S := List Int × Int) (Γ0 := fun p => [some (.fz, eR p.1), some (.fl, eI p.2)]) (f := fun p => m_cell p.1 p.2) (d := d3) rfl rfl rfl ?_ (σ := (v0, v1)) rfl (rl_init [(.fz, eR v0), (.fl, eI v1)] 0 ⟨ok_fz _, ⟨ok_fl (lfI _), trivial⟩⟩) q
  show SX _ _ _ b3 _ _
  unfold b3
  exact SX.of_eq (by
    exact s_if (t_cmp c_lt (x_var (i := 1) (sh := .fl) (ea := eI) (g := fun p => p.2) (fun _ => rfl)) (x_bi1 bLenR lfI rfl (x_var (i := 0) (sh := .fz) (ea := eR) (g := fun p => p.1) (fun _ => rfl))) rfl) (by
     simp only [app_nil, app_cons]
     exact s_ret rtR (r_e (XE.flat (x_idx ixR (x_var (i := 0) (sh := .fz) (ea := eR) (g := fun p => p.1) (fun _ => rfl)) (x_var (i := 1) (sh := .fl) (ea := eI) (g := fun p => p.2) (fun _ => rfl)) rfl) flI rfl) rfl (fun _ => rfl)) rfl) (by
     simp only [app_nil, app_cons]
     exact s_ret rtR (r_e (x_lit (ea := eI) (d := .int 0) (v := 0) rfl rfl) rfl (fun _ => rfl)) rfl)) (by
    intro σ; rfl)
noncomputable def m_draws_L1 (script : List Int) (first : Int) (cell_here : Int) (rest_3 : Int) (draws_here_1 : List Int) (k : Int) : Option (Int × List Int) :=
if (decide (rest_3 > 0)) then
(push draws_here_1 (rest_3 % 1000)).bind fun draws_here_2 =>
let rest_4 := rest_3 / 1000;
some (rest_4, draws_here_2)
else
(m_cell script (((k * 7) + first) % 63)).bind fun other =>
let mixed := (((cell_here * 48271) + (other * 16807)) + ((k + 1) * 69621)) % 2147483647;
((((((mulI mixed mixed).bind fun x820 => some (x820 + (k * 40692))).bind fun x821 => some x821).bind fun x822 => some (x822 % 2147483399)).bind fun x823 => some (x823 / 64)).bind fun x824 => some (x824 % 1000)).bind fun x825 => (push draws_here_1 x825).bind fun draws_here_3 =>
some (rest_3, draws_here_3)
/-- _law_draws -/
noncomputable def m_draws (script : List Int) (first : Int) (count : Int) : Option (List Int) :=
(m_cell script first).bind fun cell_here =>
let rest := 0;
(if (decide (cell_here ≥ 1000000000000000000)) then let rest_2 := cell_here - 1000000000000000000;
some rest_2 else some rest).bind fun rest_1 =>
let draws_here := ([] : List Int);
(range1 count).bind fun x826 => (forA (fun x t_1 => m_draws_L1 script first cell_here t_1.1 t_1.2 x) x826 (rest_1, draws_here)).bind fun t =>
some t.2
theorem ok4 : ∀ n, 2 ≤ n → ∀ (v0 : List Int) (v1 : Int) (v2 : Int) w, m_draws v0 v1 v2 = some w → Cd (GE WL0 con prog n) 4 [eR v0, eI v1, eI v2] ((eL eI) w) (.lst .fl) := by
  intro n hn v0 v1 v2 w q
  obtain ⟨n, rfl⟩ : ∃ n', n = n' + 1 := ⟨n - 1, by omega⟩
  have c_3 := ok3 n (by omega)
  refine def_ok (S := List Int × Int × Int) (Γ0 := fun p => [some (.fz, eR p.1), some (.fl, eI p.2.1), some (.fl, eI p.2.2), none, none, none, none, none, none]) (f := fun p => m_draws p.1 p.2.1 p.2.2) (d := d4) rfl rfl rfl ?_ (σ := (v0, v1, v2)) rfl (rl_init [(.fz, eR v0), (.fl, eI v1), (.fl, eI v2)] 6 ⟨ok_fz _, ⟨ok_fl (lfI _), ⟨ok_fl (lfI _), trivial⟩⟩⟩) q
  show SX _ _ _ b4 _ _
  unfold b4
  exact SX.of_eq (by
    exact s_asg (i := 3) (x_call2 (Fn := m_cell) (x_var (i := 0) (sh := .fz) (ea := eR) (g := fun p => p.1) (fun _ => rfl)) (x_var (i := 1) (sh := .fl) (ea := eI) (g := fun p => p.2.1) (fun _ => rfl)) rfl rfl rfl c_3) rfl (fun _ => rfl) (by
     exact s_asg (i := 4) (x_lit (ea := eI) (d := .int 0) (v := 0) rfl rfl) rfl (fun _ => rfl) (by
      exact s_ifJ (Γl := fun s1 t => [some (.fz, eR s1.1.1.1), some (.fl, eI s1.1.1.2.1), some (.fl, eI s1.1.1.2.2), some (.fl, eI s1.1.2), some (.fl, eI t), none, none, none, none]) (fx := fun s1 => let rest_2 := s1.1.2 - 1000000000000000000; some rest_2) (fy := fun s1 => some s1.2) (t_cmp c_ge (x_var (i := 3) (sh := .fl) (ea := eI) (g := fun p => p.1.2) (fun _ => rfl)) (x_powC (z := 1000000000000000000) (by decide) (by decide)) rfl) (by
       intro s1
       exact SX.of_eq (by
        exact s_asg (i := 4) (x_sub (x_var (i := 3) (sh := .fl) (ea := eI) (g := fun p => s1.1.2) (fun _ => rfl)) (x_powC (z := 1000000000000000000) (by decide) (by decide)) rfl) rfl (fun _ => rfl) (by
         exact s_nil (fun p => p.2) nx1N (fun _ => ⟨⟨rfl, rfl⟩, ⟨⟨rfl, rfl⟩, ⟨⟨rfl, rfl⟩, ⟨⟨rfl, rfl⟩, ⟨⟨rfl, rfl⟩, trivial⟩⟩⟩⟩⟩))) (by
        intro σ; rfl)) (by
       intro s1
       exact SX.of_eq (by
        exact s_nil (fun p => s1.2) nx1N (fun _ => ⟨⟨rfl, rfl⟩, ⟨⟨rfl, rfl⟩, ⟨⟨rfl, rfl⟩, ⟨⟨rfl, rfl⟩, ⟨⟨rfl, rfl⟩, trivial⟩⟩⟩⟩⟩)) (by
        intro σ; rfl)) (by
       exact s_asg (i := 5) (x_lst (sh := .fl) (ea := eI) xl_nil rfl rfl (by decide) rfl) rfl (fun _ => rfl) (by
        exact s_forA (n := 9) (Γl := fun s2 t => [some (.fz, eR s2.1.1.1.1.1), some (.fl, eI s2.1.1.1.1.2.1), some (.fl, eI s2.1.1.1.1.2.2), some (.fl, eI s2.1.1.1.2), some (.fl, eI t.1), some ((.lst .fl), (eL eI) t.2), none, none, none]) (t0 := fun p => (p.1.2, p.2)) (body := fun s2 p => m_draws_L1 s2.1.1.1.1.1 s2.1.1.1.1.2.1 s2.1.1.1.2 p.1.1 p.1.2 p.2) (il_range1 (x_var (i := 2) (sh := .fl) (ea := eI) (g := fun p => p.1.1.1.1.2.2) (fun _ => rfl))) (tg_var (n := 9) (i := 6) (ea := eI) (sh := .fl) (by decide) (fshl lfI)) (fun _ _ => rfl) (fun _ => ⟨⟨rfl, rfl⟩, ⟨⟨rfl, rfl⟩, ⟨⟨rfl, rfl⟩, ⟨⟨rfl, rfl⟩, ⟨⟨rfl, rfl⟩, ⟨⟨rfl, rfl⟩, trivial⟩⟩⟩⟩⟩⟩) (by
         intro s2
         exact SX.of_eq (by
          unfold x4_0
          exact s_if (t_cmp c_gt (x_var (i := 4) (sh := .fl) (ea := eI) (g := fun p => p.1.1) (fun _ => rfl)) (x_lit (ea := eI) (d := .int 0) (v := 0) rfl rfl) rfl) (by
           simp only [app_nil, app_cons]
           exact s_app (i := 5) (s0 := .fl) (ea := eI) (g := fun p => p.1.2) (fun _ => rfl) (x_modC (by decide) (x_bi1 bInt lfI rfl (x_var (i := 4) (sh := .fl) (ea := eI) (g := fun p => p.1.1) (fun _ => rfl)))) rfl (putl lfI) (by
            exact s_asg (i := 4) (x_fdivC (by decide) (x_var (i := 4) (sh := .fl) (ea := eI) (g := fun p => p.1.1.1) (fun _ => rfl))) rfl (fun _ => rfl) (by
             exact s_nil (fun p => (p.2, p.1.2)) nx1A (fun _ => ⟨⟨rfl, rfl⟩, ⟨⟨rfl, rfl⟩, ⟨⟨rfl, rfl⟩, ⟨⟨rfl, rfl⟩, ⟨⟨rfl, rfl⟩, ⟨⟨rfl, rfl⟩, trivial⟩⟩⟩⟩⟩⟩)))) (by
           simp only [app_nil, app_cons]
           exact s_asg (i := 7) (x_call2 (Fn := m_cell) (x_var (i := 0) (sh := .fz) (ea := eR) (g := fun p => s2.1.1.1.1.1) (fun _ => rfl)) (x_modC (by decide) (x_bi1 bInt lfI rfl (x_add (x_mulC (by decide) (x_var (i := 6) (sh := .fl) (ea := eI) (g := fun p => p.2) (fun _ => rfl))) (x_var (i := 1) (sh := .fl) (ea := eI) (g := fun p => s2.1.1.1.1.2.1) (fun _ => rfl)) rfl))) rfl rfl rfl c_3) rfl (fun _ => rfl) (by
            exact s_asg (i := 8) (x_modC (by decide) (x_bi1 bInt lfI rfl (x_add (x_add (x_mulC (by decide) (x_var (i := 3) (sh := .fl) (ea := eI) (g := fun p => s2.1.1.1.2) (fun _ => rfl))) (x_mulC (by decide) (x_var (i := 7) (sh := .fl) (ea := eI) (g := fun p => p.2) (fun _ => rfl))) rfl) (x_mulC (by decide) (x_add (x_var (i := 6) (sh := .fl) (ea := eI) (g := fun p => p.1.2) (fun _ => rfl)) (x_lit (ea := eI) (d := .int 1) (v := 1) rfl rfl) rfl)) rfl))) rfl (fun _ => rfl) (by
             exact s_app (i := 5) (s0 := .fl) (ea := eI) (g := fun p => p.1.1.1.2) (fun _ => rfl) (x_modC (by decide) (x_fdivC (by decide) (x_modC (by decide) (x_bi1 bInt lfI rfl (x_add (x_mul (x_var (i := 8) (sh := .fl) (ea := eI) (g := fun p => p.2) (fun _ => rfl)) (x_var (i := 8) (sh := .fl) (ea := eI) (g := fun p => p.2) (fun _ => rfl)) rfl) (x_mulC (by decide) (x_var (i := 6) (sh := .fl) (ea := eI) (g := fun p => p.1.1.2) (fun _ => rfl))) rfl))))) rfl (putl lfI) (by
              exact s_nil (fun p => (p.1.1.1.1.1, p.2)) nx1A (fun _ => ⟨⟨rfl, rfl⟩, ⟨⟨rfl, rfl⟩, ⟨⟨rfl, rfl⟩, ⟨⟨rfl, rfl⟩, ⟨⟨rfl, rfl⟩, ⟨⟨rfl, rfl⟩, trivial⟩⟩⟩⟩⟩⟩)))))) (by
          intro σ; rfl)) (by
         exact s_ret rtR (r_var (i := 5) (sh := (.lst .fl)) (ea := (eL eI)) (g := fun p => p.2.2) (fun _ => rfl)) rfl)))))) (by
    intro σ; rfl)
/-- _law_items -/
noncomputable def m_items (script : List Int) (first : Int) (spans_here : List Int) : Option (List D) :=
(((m_cell script 0).bind fun x836 => some x836).bind fun x837 => some (x837 % 4)).bind fun sort =>
(((m_cell script 1).bind fun x838 => some x838).bind fun x839 => modI x839 (1000000000000000000 - 2)).bind fun great =>
((((nth spans_here 0).bind fun x840 => (nth spans_here 1).bind fun x841 => some (x840 + x841)).bind fun x842 => m_draws script first x842).bind fun x843 => (mapO (fun z => m_item z sort great) x843).bind lim).bind fun x844 => some x844
theorem ok8 : ∀ n, 3 ≤ n → ∀ (v0 : List Int) (v1 : Int) (v2 : List Int) w, m_items v0 v1 v2 = some w → Cd (GE WL0 con prog n) 8 [eR v0, eI v1, (eL eI) v2] ((eL eD) w) (.lst .fl) := by
  intro n hn v0 v1 v2 w q
  obtain ⟨n, rfl⟩ : ∃ n', n = n' + 1 := ⟨n - 1, by omega⟩
  have c_3 := ok3 n (by omega)
  have c_4 := ok4 n (by omega)
  have c_6 := ok6 n (by omega)
  refine def_ok (S := List Int × Int × List Int) (Γ0 := fun p => [some (.fz, eR p.1), some (.fl, eI p.2.1), some (.fz, (eL eI) p.2.2), none, none, none]) (f := fun p => m_items p.1 p.2.1 p.2.2) (d := d8) rfl rfl rfl ?_ (σ := (v0, v1, v2)) rfl (rl_init [(.fz, eR v0), (.fl, eI v1), (.fz, (eL eI) v2)] 3 ⟨ok_fz _, ⟨ok_fl (lfI _), ⟨ok_fz _, trivial⟩⟩⟩) q
  show SX _ _ _ b8 _ _
  unfold b8
  exact SX.of_eq (by
    exact s_asg (i := 3) (x_modC (by decide) (x_bi1 bInt lfI rfl (x_call2 (Fn := m_cell) (x_var (i := 0) (sh := .fz) (ea := eR) (g := fun p => p.1) (fun _ => rfl)) (x_lit (ea := eI) (d := .int 0) (v := 0) rfl rfl) rfl rfl rfl c_3))) rfl (fun _ => rfl) (by
     exact s_asg (i := 4) (x_mod (x_bi1 bInt lfI rfl (x_call2 (Fn := m_cell) (x_var (i := 0) (sh := .fz) (ea := eR) (g := fun p => p.1.1) (fun _ => rfl)) (x_lit (ea := eI) (d := .int 1) (v := 1) rfl rfl) rfl rfl rfl c_3)) (x_sub (x_powC (z := 1000000000000000000) (by decide) (by decide)) (x_lit (ea := eI) (d := .int 2) (v := 2) rfl rfl) rfl) rfl) rfl (fun _ => rfl) (by
      exact s_ret rtR (r_e (x_comp (n := 6) (own := [5]) (ei := eI) (ea := eD) (sh := .fl) (fun _ => rfl) (i_seq rfl (x_call3 (Fn := m_draws) (x_var (i := 0) (sh := .fz) (ea := eR) (g := fun p => p.1.1.1) (fun _ => rfl)) (x_var (i := 1) (sh := .fl) (ea := eI) (g := fun p => p.1.1.2.1) (fun _ => rfl)) (x_add (XE.flat (x_idx ixL (x_var (i := 2) (sh := .fz) (ea := (eL eI)) (g := fun p => p.1.1.2.2) (fun _ => rfl)) (x_lit (ea := eI) (d := .int 0) (v := 0) rfl rfl) rfl) flI rfl) (XE.flat (x_idx ixL (x_var (i := 2) (sh := .fz) (ea := (eL eI)) (g := fun p => p.1.1.2.2) (fun _ => rfl)) (x_lit (ea := eI) (d := .int 1) (v := 1) rfl rfl) rfl) flI rfl) rfl) rfl rfl rfl rfl c_4)) (tg_var (n := 6) (i := 5) (ea := eI) (sh := .fl) (by decide) (fshl lfI)) (fun _ _ => rfl) (x_call3 (Fn := m_item) (x_var (i := 5) (sh := .fl) (ea := eI) (g := fun p => p.2) (fun _ => rfl)) (x_var (i := 3) (sh := .fl) (ea := eI) (g := fun p => p.1.1.2) (fun _ => rfl)) (x_var (i := 4) (sh := .fl) (ea := eI) (g := fun p => p.1.2) (fun _ => rfl)) rfl rfl rfl rfl c_6) rfl) rfl (fun _ => rfl)) rfl))) (by
    intro σ; rfl)
/-- _law_at -/
noncomputable def m_at_ (stem : List D) (loop : List D) (k : Int) : Option D :=
if (decide (k < (stem.length : Int))) then
(nth stem k).bind fun x845 => some x845
else
((modI (k - (stem.length : Int)) (loop.length : Int)).bind fun x846 => nth loop x846).bind fun x847 => some x847
theorem ok9 : ∀ n, 1 ≤ n → ∀ (v0 : List D) (v1 : List D) (v2 : Int) w, m_at_ v0 v1 v2 = some w → Cd (GE WL0 con prog n) 9 [(eL eD) v0, (eL eD) v1, eI v2] (eD w) .fz := by
  intro n hn v0 v1 v2 w q
  obtain ⟨n, rfl⟩ : ∃ n', n = n' + 1 := ⟨n - 1, by omega⟩
  refine def_ok (S := List D × List D × Int) (Γ0 := fun p => [some (.fz, (eL eD) p.1), some (.fz, (eL eD) p.2.1), some (.fl, eI p.2.2)]) (f := fun p => m_at_ p.1 p.2.1 p.2.2) (d := d9) rfl rfl rfl ?_ (σ := (v0, v1, v2)) rfl (rl_init [(.fz, (eL eD) v0), (.fz, (eL eD) v1), (.fl, eI v2)] 0 ⟨ok_fz _, ⟨ok_fz _, ⟨ok_fl (lfI _), trivial⟩⟩⟩) q
  show SX _ _ _ b9 _ _
  unfold b9
  exact SX.of_eq (by
    exact s_if (t_cmp c_lt (x_var (i := 2) (sh := .fl) (ea := eI) (g := fun p => p.2.2) (fun _ => rfl)) (x_bi1 bLenL lfI rfl (x_var (i := 0) (sh := .fz) (ea := (eL eD)) (g := fun p => p.1) (fun _ => rfl))) rfl) (by
     simp only [app_nil, app_cons]
     exact s_ret rtR (r_e (x_idx ixL (x_var (i := 0) (sh := .fz) (ea := (eL eD)) (g := fun p => p.1) (fun _ => rfl)) (x_var (i := 2) (sh := .fl) (ea := eI) (g := fun p => p.2.2) (fun _ => rfl)) rfl) rfl (fun _ => rfl)) rfl) (by
     simp only [app_nil, app_cons]
     exact s_ret rtR (r_e (x_idx ixL (x_var (i := 1) (sh := .fz) (ea := (eL eD)) (g := fun p => p.2.1) (fun _ => rfl)) (x_mod (x_bi1 bInt lfI rfl (x_sub (x_var (i := 2) (sh := .fl) (ea := eI) (g := fun p => p.2.2) (fun _ => rfl)) (x_bi1 bLenL lfI rfl (x_var (i := 0) (sh := .fz) (ea := (eL eD)) (g := fun p => p.1) (fun _ => rfl))) rfl)) (x_bi1 bLenL lfI rfl (x_var (i := 1) (sh := .fz) (ea := (eL eD)) (g := fun p => p.2.1) (fun _ => rfl))) rfl) rfl) rfl (fun _ => rfl)) rfl)) (by
    intro σ; rfl)
/-- _law_longer -/
noncomputable def m_longer (stem : List D) (loop : List D) (count : Int) (times : Int) : Option (List (List D)) :=
(modI count (loop.length : Int)).bind fun turn =>
(((range1 count).bind fun x854 => (mapO (fun z => m_at_ stem loop ((stem.length : Int) + z)) x854).bind lim).bind fun x855 => lim (stem ++ x855)).bind fun longer_here =>
((((lim ((cut loop (some turn) none) ++ (cut loop none (some turn)))).bind fun x856 => repL x856 times).bind fun x857 => some [x857]).bind fun l858 => some (longer_here :: l858)).bind fun x859 => some x859
theorem ok10 : ∀ n, 2 ≤ n → ∀ (v0 : List D) (v1 : List D) (v2 : Int) (v3 : Int) w, m_longer v0 v1 v2 v3 = some w → Cd (GE WL0 con prog n) 10 [(eL eD) v0, (eL eD) v1, eI v2, eI v3] ((eL (eL eD)) w) (.lst (.lst .fz)) := by
  intro n hn v0 v1 v2 v3 w q
  obtain ⟨n, rfl⟩ : ∃ n', n = n' + 1 := ⟨n - 1, by omega⟩
  have c_9 := ok9 n (by omega)
  refine def_ok (S := List D × List D × Int × Int) (Γ0 := fun p => [some (.fz, (eL eD) p.1), some (.fz, (eL eD) p.2.1), some (.fl, eI p.2.2.1), some (.fl, eI p.2.2.2), none, none, none]) (f := fun p => m_longer p.1 p.2.1 p.2.2.1 p.2.2.2) (d := d10) rfl rfl rfl ?_ (σ := (v0, v1, v2, v3)) rfl (rl_init [(.fz, (eL eD) v0), (.fz, (eL eD) v1), (.fl, eI v2), (.fl, eI v3)] 3 ⟨ok_fz _, ⟨ok_fz _, ⟨ok_fl (lfI _), ⟨ok_fl (lfI _), trivial⟩⟩⟩⟩) q
  show SX _ _ _ b10 _ _
  unfold b10
  exact SX.of_eq (by
    exact s_asg (i := 4) (x_mod (x_bi1 bInt lfI rfl (x_var (i := 2) (sh := .fl) (ea := eI) (g := fun p => p.2.2.1) (fun _ => rfl))) (x_bi1 bLenL lfI rfl (x_var (i := 1) (sh := .fz) (ea := (eL eD)) (g := fun p => p.2.1) (fun _ => rfl))) rfl) rfl (fun _ => rfl) (by
     exact s_asg (i := 5) (x_catp (lshz) (x_list (lshz) rfl (x_var (i := 0) (sh := .fz) (ea := (eL eD)) (g := fun p => p.1.1) (fun _ => rfl))) (x_comp (n := 7) (own := [6]) (ei := eI) (ea := eD) (sh := .fz) (fun _ => rfl) (i_range1 (x_var (i := 2) (sh := .fl) (ea := eI) (g := fun p => p.1.2.2.1) (fun _ => rfl))) (tg_var (n := 7) (i := 6) (ea := eI) (sh := .fl) (by decide) (fshl lfI)) (fun _ _ => rfl) (x_callF3 (Fn := m_at_) (x_var (i := 0) (sh := .fz) (ea := (eL eD)) (g := fun p => p.1.1.1) (fun _ => rfl)) (x_var (i := 1) (sh := .fz) (ea := (eL eD)) (g := fun p => p.1.1.2.1) (fun _ => rfl)) (x_add (x_bi1 bLenL lfI rfl (x_var (i := 0) (sh := .fz) (ea := (eL eD)) (g := fun p => p.1.1.1) (fun _ => rfl))) (x_var (i := 6) (sh := .fl) (ea := eI) (g := fun p => p.2) (fun _ => rfl)) rfl) rfl rfl rfl rfl rfl c_9) rfl) rfl rfl rfl ⟨_, .inl rfl⟩ ⟨_, .inl rfl⟩) rfl (fun _ => rfl) (by
      exact s_ret rtR (r_lst (sh := (.lst .fz)) (ea := (eL eD)) (rl_cons (r_var (i := 5) (sh := (.lst .fz)) (ea := (eL eD)) (g := fun p => p.2) (fun _ => rfl)) (rl_cons (r_e (x_rep (lshz) (x_catp (lshz) (x_slc (lshz) (x_var (i := 1) (sh := .fz) (ea := (eL eD)) (g := fun p => p.1.1.2.1) (fun _ => rfl)) (o_some (x_var (i := 4) (sh := .fl) (ea := eI) (g := fun p => p.1.2) (fun _ => rfl))) o_none rfl) (x_slc (lshz) (x_var (i := 1) (sh := .fz) (ea := (eL eD)) (g := fun p => p.1.1.2.1) (fun _ => rfl)) o_none (o_some (x_var (i := 4) (sh := .fl) (ea := eI) (g := fun p => p.1.2) (fun _ => rfl))) rfl) rfl rfl rfl ⟨_, .inl rfl⟩ ⟨_, .inl rfl⟩) (x_var (i := 3) (sh := .fl) (ea := eI) (g := fun p => p.1.1.2.2.2) (fun _ => rfl)) rfl rfl) rfl (fun _ => rfl)) rl_nil rfl) rfl) rfl) rfl))) (by
    intro σ; rfl)
/-- unrolled -/
noncomputable def m_unrolled (stem : List D) (loop : List D) (count : Int) : Option (List D × List D) :=
(modI count (loop.length : Int)).bind fun turn =>
((range1 count).bind fun x866 => (mapO (fun z => (modI z (loop.length : Int)).bind fun x865 => nth loop x865) x866).bind lim).bind fun more =>
((lim (stem ++ more)).bind fun x867 => (lim ((cut loop (some turn) none) ++ (cut loop none (some turn)))).bind fun x868 => some (x867, x868)).bind fun x869 => some x869
theorem ok0 : ∀ n, 1 ≤ n → ∀ (v0 : List D) (v1 : List D) (v2 : Int) w, m_unrolled v0 v1 v2 = some w → Cd (GE WL0 con prog n) 0 [(eL eD) v0, (eL eD) v1, eI v2] ((eT2 (eL eD) (eL eD)) w) (.tup [(.lst .fz), (.lst .fz)]) := by
  intro n hn v0 v1 v2 w q
  obtain ⟨n, rfl⟩ : ∃ n', n = n' + 1 := ⟨n - 1, by omega⟩
  refine def_ok (S := List D × List D × Int) (Γ0 := fun p => [some (.fz, (eL eD) p.1), some (.fz, (eL eD) p.2.1), some (.fl, eI p.2.2), none, none, none]) (f := fun p => m_unrolled p.1 p.2.1 p.2.2) (d := d0) rfl rfl rfl ?_ (σ := (v0, v1, v2)) rfl (rl_init [(.fz, (eL eD) v0), (.fz, (eL eD) v1), (.fl, eI v2)] 3 ⟨ok_fz _, ⟨ok_fz _, ⟨ok_fl (lfI _), trivial⟩⟩⟩) q
  show SX _ _ _ b0 _ _
  unfold b0
  exact SX.of_eq (by
    exact s_asg (i := 3) (x_mod (x_var (i := 2) (sh := .fl) (ea := eI) (g := fun p => p.2.2) (fun _ => rfl)) (x_bi1 bLenL lfI rfl (x_var (i := 1) (sh := .fz) (ea := (eL eD)) (g := fun p => p.2.1) (fun _ => rfl))) rfl) rfl (fun _ => rfl) (by
     exact s_asg (i := 4) (x_comp (n := 6) (own := [5]) (ei := eI) (ea := eD) (sh := .fz) (fun _ => rfl) (i_range1 (x_var (i := 2) (sh := .fl) (ea := eI) (g := fun p => p.1.2.2) (fun _ => rfl))) (tg_var (n := 6) (i := 5) (ea := eI) (sh := .fl) (by decide) (fshl lfI)) (fun _ _ => rfl) (x_idx ixL (x_var (i := 1) (sh := .fz) (ea := (eL eD)) (g := fun p => p.1.1.2.1) (fun _ => rfl)) (x_mod (x_var (i := 5) (sh := .fl) (ea := eI) (g := fun p => p.2) (fun _ => rfl)) (x_bi1 bLenL lfI rfl (x_var (i := 1) (sh := .fz) (ea := (eL eD)) (g := fun p => p.1.1.2.1) (fun _ => rfl))) rfl) rfl) rfl) rfl (fun _ => rfl) (by
      exact s_ret rtR (r_tup2 (r_e (x_catp (lshz) (x_var (i := 0) (sh := .fz) (ea := (eL eD)) (g := fun p => p.1.1.1) (fun _ => rfl)) (x_var (i := 4) (sh := (.lst .fz)) (ea := (eL eD)) (g := fun p => p.2) (fun _ => rfl)) rfl rfl rfl ⟨_, .inl rfl⟩ ⟨_, .inr rfl⟩) rfl (fun _ => rfl)) (r_e (x_catp (lshz) (x_slc (lshz) (x_var (i := 1) (sh := .fz) (ea := (eL eD)) (g := fun p => p.1.1.2.1) (fun _ => rfl)) (o_some (x_var (i := 3) (sh := .fl) (ea := eI) (g := fun p => p.1.2) (fun _ => rfl))) o_none rfl) (x_slc (lshz) (x_var (i := 1) (sh := .fz) (ea := (eL eD)) (g := fun p => p.1.1.2.1) (fun _ => rfl)) o_none (o_some (x_var (i := 3) (sh := .fl) (ea := eI) (g := fun p => p.1.2) (fun _ => rfl))) rfl) rfl rfl rfl ⟨_, .inl rfl⟩ ⟨_, .inl rfl⟩) rfl (fun _ => rfl))) rfl))) (by
    intro σ; rfl)
/-- _law_spoilt -/
noncomputable def m_spoilt (lasso : List (List D)) (cell_here : Int) (item_here : D) : Option (Unit × List (List D)) :=
(if (decide ((cell_here % 2) = 1)) then ((((nth lasso 0).bind fun x886 => some (x886.length : Int)).bind fun x888 => ((nth lasso 1).bind fun x887 => some (x887.length : Int)).bind fun x889 => some (x888 + x889)).bind fun x890 => modI (cell_here / 2) x890).bind fun at_here =>
(((nth lasso 0).bind fun x892 => some (x892.length : Int)).bind fun x893 => some (decide (at_here < x893))).bind fun x901 => if x901 then
(nth lasso 0).bind fun r894 => (putL r894 at_here item_here).bind fun r895 => (putL lasso 0 r895).bind fun lasso_2 =>
some lasso_2
else
(nth lasso 1).bind fun r898 => (((nth lasso 0).bind fun x896 => some (x896.length : Int)).bind fun x897 => some (at_here - x897)).bind fun x900 => (putL r898 x900 item_here).bind fun r899 => (putL lasso 1 r899).bind fun lasso_3 =>
some lasso_3 else some lasso).bind fun lasso_1 =>
some ((), lasso_1)
theorem ok12 : ∀ n, 1 ≤ n → ∀ (v0 : List (List D)) (v1 : Int) (v2 : D) w, m_spoilt v0 v1 v2 = some w → CdI (GE WL0 con prog n) 12 [some (.lst (.lst .fz)), none, none] [(eL (eL eD)) v0, eI v1, eD v2] (eN w.1) .fl [(eL (eL eD)) w.2, D.non, D.non] := by
  intro n hn v0 v1 v2 w q
  obtain ⟨n, rfl⟩ : ∃ n', n = n' + 1 := ⟨n - 1, by omega⟩
  refine def_okI (S := List (List D) × Int × D) (er := eN) (sh := .fl) (ps := [some (.lst (.lst .fz)), none, none]) (wd := fun w => [(eL (eL eD)) w, D.non, D.non]) (Γ0 := fun p => [some ((.lst (.lst .fz)), (eL (eL eD)) p.1), some (.fl, eI p.2.1), some (.fz, eD p.2.2), none]) (f := fun p => m_spoilt p.1 p.2.1 p.2.2) (d := d12) rfl rfl (fun _ => rfl) ?_ (σ := (v0, v1, v2)) (l := [((.lst (.lst .fz)), (eL (eL eD)) v0), (.fl, eI v1), (.fz, eD v2)]) ⟨rfl, ⟨ok_fl (lfI _), ⟨ok_fz _, trivial⟩⟩⟩ rfl rfl q
  show SX _ _ _ b12 _ _
  unfold b12
  exact SX.of_eq (by
    exact s_ifJ (Γl := fun s1 t => [some ((.lst (.lst .fz)), (eL (eL eD)) t), some (.fl, eI s1.2.1), some (.fz, eD s1.2.2), none]) (fx := fun s1 => ((((nth s1.1 0).bind fun x886 => some (x886.length : Int)).bind fun x888 => ((nth s1.1 1).bind fun x887 => some (x887.length : Int)).bind fun x889 => some (x888 + x889)).bind fun x890 => modI (s1.2.1 / 2) x890).bind fun at_here => (((nth s1.1 0).bind fun x892 => some (x892.length : Int)).bind fun x893 => some (decide (at_here < x893))).bind fun x901 => if x901 then (nth s1.1 0).bind fun r894 => (putL r894 at_here s1.2.2).bind fun r895 => (putL s1.1 0 r895).bind fun lasso_2 => some lasso_2 else (nth s1.1 1).bind fun r898 => (((nth s1.1 0).bind fun x896 => some (x896.length : Int)).bind fun x897 => some (at_here - x897)).bind fun x900 => (putL r898 x900 s1.2.2).bind fun r899 => (putL s1.1 1 r899).bind fun lasso_3 => some lasso_3) (fy := fun s1 => some s1.1) (t_cmp (c_eq (EqE.mk' dpI (by decide) eqvI)) (x_modC (by decide) (x_bi1 bInt lfI rfl (x_var (i := 1) (sh := .fl) (ea := eI) (g := fun p => p.2.1) (fun _ => rfl)))) (x_lit (ea := eI) (d := .int 1) (v := 1) rfl rfl) rfl) (by
     intro s1
     exact SX.of_eq (by
      exact s_asg (i := 3) (x_mod (x_fdivC (by decide) (x_bi1 bInt lfI rfl (x_var (i := 1) (sh := .fl) (ea := eI) (g := fun p => s1.2.1) (fun _ => rfl)))) (x_add (x_bi1 bLenL lfI rfl (x_idx ixL (x_var (i := 0) (sh := (.lst (.lst .fz))) (ea := (eL (eL eD))) (g := fun p => s1.1) (fun _ => rfl)) (x_lit (ea := eI) (d := .int 0) (v := 0) rfl rfl) rfl)) (x_bi1 bLenL lfI rfl (x_idx ixL (x_var (i := 0) (sh := (.lst (.lst .fz))) (ea := (eL (eL eD))) (g := fun p => s1.1) (fun _ => rfl)) (x_lit (ea := eI) (d := .int 1) (v := 1) rfl rfl) rfl)) rfl) rfl) rfl (fun _ => rfl) (by
       exact s_if (t_cmp c_lt (x_var (i := 3) (sh := .fl) (ea := eI) (g := fun p => p.2) (fun _ => rfl)) (x_bi1 bLenL lfI rfl (x_idx ixL (x_var (i := 0) (sh := (.lst (.lst .fz))) (ea := (eL (eL eD))) (g := fun p => s1.1) (fun _ => rfl)) (x_lit (ea := eI) (d := .int 0) (v := 0) rfl rfl) rfl)) rfl) (by
        simp only [app_nil, app_cons]
        exact s_put2 (i := 0) (s0 := .fz) (ea := eD) (g := fun p => s1.1) (fun _ => rfl) (x_var (i := 2) (sh := .fz) (ea := eD) (g := fun p => s1.2.2) (fun _ => rfl)) rfl (putd rfl) (x_lit (ea := eI) (d := .int 0) (v := 0) rfl rfl) (x_var (i := 3) (sh := .fl) (ea := eI) (g := fun p => p.2) (fun _ => rfl)) (by
         exact s_nil (fun p => p.2) nx1N (fun _ => ⟨⟨rfl, rfl⟩, ⟨⟨rfl, rfl⟩, ⟨⟨rfl, rfl⟩, trivial⟩⟩⟩))) (by
        simp only [app_nil, app_cons]
        exact s_put2 (i := 0) (s0 := .fz) (ea := eD) (g := fun p => s1.1) (fun _ => rfl) (x_var (i := 2) (sh := .fz) (ea := eD) (g := fun p => s1.2.2) (fun _ => rfl)) rfl (putd rfl) (x_lit (ea := eI) (d := .int 1) (v := 1) rfl rfl) (x_sub (x_var (i := 3) (sh := .fl) (ea := eI) (g := fun p => p.2) (fun _ => rfl)) (x_bi1 bLenL lfI rfl (x_idx ixL (x_var (i := 0) (sh := (.lst (.lst .fz))) (ea := (eL (eL eD))) (g := fun p => s1.1) (fun _ => rfl)) (x_lit (ea := eI) (d := .int 0) (v := 0) rfl rfl) rfl)) rfl) (by
         exact s_nil (fun p => p.2) nx1N (fun _ => ⟨⟨rfl, rfl⟩, ⟨⟨rfl, rfl⟩, ⟨⟨rfl, rfl⟩, trivial⟩⟩⟩))))) (by
      intro σ; rfl)) (by
     intro s1
     exact SX.of_eq (by
      exact s_nil (fun p => s1.1) nx1N (fun _ => ⟨⟨rfl, rfl⟩, ⟨⟨rfl, rfl⟩, ⟨⟨rfl, rfl⟩, trivial⟩⟩⟩)) (by
      intro σ; rfl)) (by
     exact s_retA (i := 0) (s0 := (.lst (.lst .fz))) (ea := (eL (eL eD))) (r0 := ()) (g := fun p => p.2) (fun p => p.2) rfl (fun _ => rfl) rfl (ok_fl (lfN ())) (fun _ => ⟨⟨rfl, rfl⟩, trivial⟩))) (by
    intro σ; rfl)
noncomputable def m_same_L1 (self : D → D → Option Bool) (actual : D) (expected : D) (k : Int) : Option (F Unit Bool) :=
(((nthD actual k).bind fun x915 => (nthD expected k).bind fun x916 => self x915 x916).bind fun x917 => some (!x917)).bind fun x918 => if x918 then
some (.ret false)
else
some (.go ())
/-- _law_same -/
noncomputable def M_same (self : D → D → Option Bool) (actual : D) (expected : D) : Option Bool :=
(isD .str expected).bind fun x924 => if x924 then
((isD .str actual).bind fun x902 => if x902 then eqD (eD actual) (eD expected) else some false).bind fun x903 => some x903
else
(isD .int expected).bind fun x923 => if x923 then
((isD .int actual).bind fun x906 => if x906 then ((isD .bool actual).bind fun x904 => some (!x904)).bind fun x905 => if x905 then eqD (eD actual) (eD expected) else some false else some false).bind fun x907 => some x907
else
((isD .tup expected).bind fun x909 => if x909 then (isD .tup actual).bind fun x908 => some (!x908) else some false).bind fun x922 => if x922 then
some false
else
((isD .lst expected).bind fun x911 => if x911 then (isD .lst actual).bind fun x910 => some (!x910) else some false).bind fun x921 => if x921 then
some false
else
((lenD actual).bind fun x912 => (lenD expected).bind fun x913 => some (decide (x912 ≠ x913))).bind fun x920 => if x920 then
some false
else
((lenD expected).bind fun x914 => range1 x914).bind fun x919 => (forB (fun x t_1 => m_same_L1 self actual expected x) x919 ()).bind fun r => r.el (fun _ =>
some true) (fun v => some v)
theorem okF5 {self : D → D → Option Bool} (n : Nat) (hn : 0 ≤ n) (c_5 : ∀ (v0 : D) (v1 : D) w, self v0 v1 = some w → Cd (GE WL0 con prog n) 5 [eD v0, eD v1] (eB w) .fl) : ∀ (v0 : D) (v1 : D) w, M_same self v0 v1 = some w → Cd (GE WL0 con prog (n + 1)) 5 [eD v0, eD v1] (eB w) .fl := by
  intro v0 v1 w q
  refine def_ok (S := D × D) (Γ0 := fun p => [some (.fz, eD p.1), some (.fz, eD p.2), none]) (f := fun p => M_same self p.1 p.2) (d := d5) rfl rfl rfl ?_ (σ := (v0, v1)) rfl (rl_init [(.fz, eD v0), (.fz, eD v1)] 1 ⟨ok_fz _, ⟨ok_fz _, trivial⟩⟩) q
  show SX _ _ _ b5 _ _
  unfold b5
  exact SX.of_eq (by
    exact s_if (t_b (x_isinD (x_var (i := 1) (sh := .fz) (ea := eD) (g := fun p => p.2) (fun _ => rfl)))) (by
     simp only [app_nil, app_cons]
     exact s_ret rtR (r_e (x_bool (bs_and (x_isinD (x_var (i := 0) (sh := .fz) (ea := eD) (g := fun p => p.1) (fun _ => rfl))) (bs_one (x_cmp c_eqD (x_var (i := 0) (sh := .fz) (ea := eD) (g := fun p => p.1) (fun _ => rfl)) (x_var (i := 1) (sh := .fz) (ea := eD) (g := fun p => p.2) (fun _ => rfl)) rfl)))) rfl (fun _ => rfl)) rfl) (by
     simp only [app_nil, app_cons]
     exact s_if (t_b (x_isinD (x_var (i := 1) (sh := .fz) (ea := eD) (g := fun p => p.2) (fun _ => rfl)))) (by
      simp only [app_nil, app_cons]
      exact s_ret rtR (r_e (x_bool (bs_and (x_isinD (x_var (i := 0) (sh := .fz) (ea := eD) (g := fun p => p.1) (fun _ => rfl))) (bs_and (x_not truB (x_isinD (x_var (i := 0) (sh := .fz) (ea := eD) (g := fun p => p.1) (fun _ => rfl)))) (bs_one (x_cmp c_eqD (x_var (i := 0) (sh := .fz) (ea := eD) (g := fun p => p.1) (fun _ => rfl)) (x_var (i := 1) (sh := .fz) (ea := eD) (g := fun p => p.2) (fun _ => rfl)) rfl))))) rfl (fun _ => rfl)) rfl) (by
      simp only [app_nil, app_cons]
      exact s_if (t_bool (ts_and (t_b (x_isinD (x_var (i := 1) (sh := .fz) (ea := eD) (g := fun p => p.2) (fun _ => rfl)))) (ts_one (t_not (t_b (x_isinD (x_var (i := 0) (sh := .fz) (ea := eD) (g := fun p => p.1) (fun _ => rfl)))))))) (by
       simp only [app_nil, app_cons]
       exact s_ret rtR (r_e (x_lit (ea := eB) (d := .bl false) (v := false) rfl rfl) rfl (fun _ => rfl)) rfl) (by
       simp only [app_nil, app_cons]
       exact s_if (t_bool (ts_and (t_b (x_isinD (x_var (i := 1) (sh := .fz) (ea := eD) (g := fun p => p.2) (fun _ => rfl)))) (ts_one (t_not (t_b (x_isinD (x_var (i := 0) (sh := .fz) (ea := eD) (g := fun p => p.1) (fun _ => rfl)))))))) (by
        simp only [app_nil, app_cons]
        exact s_ret rtR (r_e (x_lit (ea := eB) (d := .bl false) (v := false) rfl rfl) rfl (fun _ => rfl)) rfl) (by
        simp only [app_nil, app_cons]
        exact s_if (t_cmp (c_ne (EqE.mk' dpI (by decide) eqvI)) (x_bi1 bLenD lfI rfl (x_var (i := 0) (sh := .fz) (ea := eD) (g := fun p => p.1) (fun _ => rfl))) (x_bi1 bLenD lfI rfl (x_var (i := 1) (sh := .fz) (ea := eD) (g := fun p => p.2) (fun _ => rfl))) rfl) (by
         simp only [app_nil, app_cons]
         exact s_ret rtR (r_e (x_lit (ea := eB) (d := .bl false) (v := false) rfl rfl) rfl (fun _ => rfl)) rfl) (by
         simp only [app_nil, app_cons]
         exact s_forB (n := 3) (er := eB) (sh := .fl) (Γl := fun s1 t => [some (.fz, eD s1.1), some (.fz, eD s1.2), none]) (t0 := fun p => ()) (body := fun s1 p => m_same_L1 self s1.1 s1.2 p.2) rtR (il_range1 (x_bi1 bLenD lfI rfl (x_var (i := 1) (sh := .fz) (ea := eD) (g := fun p => p.2) (fun _ => rfl)))) (tg_var (n := 3) (i := 2) (ea := eI) (sh := .fl) (by decide) (fshl lfI)) (fun _ _ => rfl) (fun _ => ⟨⟨rfl, rfl⟩, ⟨⟨rfl, rfl⟩, trivial⟩⟩) (by
          intro s1
          exact SX.of_eq (by
           unfold x5_0
           exact s_if (t_not (t_b (x_call2 (Fn := self) (x_idx ixD (x_var (i := 0) (sh := .fz) (ea := eD) (g := fun p => s1.1) (fun _ => rfl)) (x_var (i := 2) (sh := .fl) (ea := eI) (g := fun p => p.2) (fun _ => rfl)) rfl) (x_idx ixD (x_var (i := 1) (sh := .fz) (ea := eD) (g := fun p => s1.2) (fun _ => rfl)) (x_var (i := 2) (sh := .fl) (ea := eI) (g := fun p => p.2) (fun _ => rfl)) rfl) rfl rfl rfl c_5))) (by
            simp only [app_nil, app_cons]
            exact s_ret rtF (r_e (x_lit (ea := eB) (d := .bl false) (v := false) rfl rfl) rfl (fun _ => rfl)) rfl) (by
            simp only [app_nil, app_cons]
            exact s_nil (fun p => ()) nx1F (fun _ => ⟨⟨rfl, rfl⟩, ⟨⟨rfl, rfl⟩, trivial⟩⟩))) (by
           intro σ; rfl)) (by
          exact s_ret rtR (r_e (x_lit (ea := eB) (d := .bl true) (v := true) rfl rfl) rfl (fun _ => rfl)) rfl))))))) (by
    intro σ; rfl)
noncomputable def m_same : Nat → D → D → Option Bool
  | 0 => fun _ _ => none
  | k + 1 => M_same (m_same k)
theorem okR5 : ∀ (f n : Nat), 1 + f ≤ n → ∀ (v0 : D) (v1 : D) w, m_same f v0 v1 = some w → Cd (GE WL0 con prog n) 5 [eD v0, eD v1] (eB w) .fl
  | 0, n, _ => fun _ _ w q => by simp [m_same] at q
  | f + 1, n, hn => by
    obtain ⟨n, rfl⟩ : ∃ n', n = n' + 1 := ⟨n - 1, by omega⟩
    exact okF5 n (by omega) (okR5 f n (by omega))
theorem ok5 : ∀ n, 65 ≤ n → ∀ (v0 : D) (v1 : D) w, m_same 64 v0 v1 = some w → Cd (GE WL0 con prog n) 5 [eD v0, eD v1] (eB w) .fl := fun n hn => okR5 64 n (by omega)
noncomputable def m_shortest_L1 (loop : List D) (least_1 : Int) (length : Int) : Option (Int) :=
(((modI (loop.length : Int) length).bind fun x933 => some (decide (x933 = 0))).bind fun x936 => if x936 then ((fdivI (loop.length : Int) length).bind fun x934 => repL (cut loop none (some length)) x934).bind fun x935 => eqD ((eL eD) x935) ((eL eD) loop) else some false).bind fun x937 => if x937 then
let least_2 := length;
some least_2
else
some least_1
noncomputable def m_shortest_L2 (short_loop_1 : List D) (short_stem_1 : List D) : Option (List D × List D) :=
(lim ((cut short_loop_1 (some (-1)) none) ++ (cut short_loop_1 none (some (-1))))).bind fun short_loop_2 =>
(dropL short_stem_1).bind fun short_stem_2 =>
some (short_loop_2, short_stem_2)
noncomputable def m_shortest_L2c (short_loop_1 : List D) (short_stem_1 : List D) : Option Bool := if (!short_stem_1.isEmpty) then (nth short_stem_1 (-1)).bind fun x938 => (nth short_loop_1 (-1)).bind fun x939 => eqD (eD x938) (eD x939) else some false
/-- shortest -/
noncomputable def m_shortest (stem : List D) (loop : List D) : Option (List D × List D) :=
let least := (loop.length : Int);
(range3 ((loop.length : Int) - 1) 0 (-1)).bind fun x940 => (forA (fun x_1 t_2 => m_shortest_L1 loop t_2 x_1) x940 least).bind fun least_3 =>
let short_loop := cut loop none (some least_3);
let short_stem := stem;
(whileA (fun t_1 => m_shortest_L2c t_1.1 t_1.2) (fun t_1 => m_shortest_L2 t_1.1 t_1.2) (short_loop, short_stem)).bind fun t =>
some (t.2, t.1)
theorem ok1 : ∀ n, 1 ≤ n → ∀ (v0 : List D) (v1 : List D) w, m_shortest v0 v1 = some w → Cd (GE WL0 con prog n) 1 [(eL eD) v0, (eL eD) v1] ((eT2 (eL eD) (eL eD)) w) (.tup [(.lst .fz), (.lst .fz)]) := by
  intro n hn v0 v1 w q
  obtain ⟨n, rfl⟩ : ∃ n', n = n' + 1 := ⟨n - 1, by omega⟩
  refine def_ok (S := List D × List D) (Γ0 := fun p => [some (.fz, (eL eD) p.1), some (.fz, (eL eD) p.2), none, none, none, none]) (f := fun p => m_shortest p.1 p.2) (d := d1) rfl rfl rfl ?_ (σ := (v0, v1)) rfl (rl_init [(.fz, (eL eD) v0), (.fz, (eL eD) v1)] 4 ⟨ok_fz _, ⟨ok_fz _, trivial⟩⟩) q
  show SX _ _ _ b1 _ _
  unfold b1
  exact SX.of_eq (by
    exact s_asg (i := 2) (x_bi1 bLenL lfI rfl (x_var (i := 1) (sh := .fz) (ea := (eL eD)) (g := fun p => p.2) (fun _ => rfl))) rfl (fun _ => rfl) (by
     exact s_forA (n := 6) (Γl := fun s1 t => [some (.fz, (eL eD) s1.1.1), some (.fz, (eL eD) s1.1.2), some (.fl, eI t), none, none, none]) (t0 := fun p => p.2) (body := fun s1 p => m_shortest_L1 s1.1.2 p.1 p.2) (il_range3 (x_sub (x_bi1 bLenL lfI rfl (x_var (i := 1) (sh := .fz) (ea := (eL eD)) (g := fun p => p.1.2) (fun _ => rfl))) (x_lit (ea := eI) (d := .int 1) (v := 1) rfl rfl) rfl) (x_lit (ea := eI) (d := .int 0) (v := 0) rfl rfl) (x_neg (x_lit (ea := eI) (d := .int 1) (v := 1) rfl rfl)) rfl) (tg_var (n := 6) (i := 3) (ea := eI) (sh := .fl) (by decide) (fshl lfI)) (fun _ _ => rfl) (fun _ => ⟨⟨rfl, rfl⟩, ⟨⟨rfl, rfl⟩, ⟨⟨rfl, rfl⟩, trivial⟩⟩⟩) (by
      intro s1
      exact SX.of_eq (by
       unfold x1_0
       exact s_if (t_bool (ts_and (t_cmp (c_eq (EqE.mk' dpI (by decide) eqvI)) (x_mod (x_bi1 bLenL lfI rfl (x_var (i := 1) (sh := .fz) (ea := (eL eD)) (g := fun p => s1.1.2) (fun _ => rfl))) (x_var (i := 3) (sh := .fl) (ea := eI) (g := fun p => p.2) (fun _ => rfl)) rfl) (x_lit (ea := eI) (d := .int 0) (v := 0) rfl rfl) rfl) (ts_one (t_cmp c_eqD (x_rep (lshz) (x_slc (lshz) (x_var (i := 1) (sh := .fz) (ea := (eL eD)) (g := fun p => s1.1.2) (fun _ => rfl)) o_none (o_some (x_var (i := 3) (sh := .fl) (ea := eI) (g := fun p => p.2) (fun _ => rfl))) rfl) (x_fdiv (x_bi1 bLenL lfI rfl (x_var (i := 1) (sh := .fz) (ea := (eL eD)) (g := fun p => s1.1.2) (fun _ => rfl))) (x_var (i := 3) (sh := .fl) (ea := eI) (g := fun p => p.2) (fun _ => rfl)) rfl) rfl rfl) (x_var (i := 1) (sh := .fz) (ea := (eL eD)) (g := fun p => s1.1.2) (fun _ => rfl)) rfl)))) (by
        simp only [app_nil, app_cons]
        exact s_asg (i := 2) (x_var (i := 3) (sh := .fl) (ea := eI) (g := fun p => p.2) (fun _ => rfl)) rfl (fun _ => rfl) (by
         exact s_nil (fun p => p.2) nx1A (fun _ => ⟨⟨rfl, rfl⟩, ⟨⟨rfl, rfl⟩, ⟨⟨rfl, rfl⟩, trivial⟩⟩⟩))) (by
        simp only [app_nil, app_cons]
        exact s_nil (fun p => p.1) nx1A (fun _ => ⟨⟨rfl, rfl⟩, ⟨⟨rfl, rfl⟩, ⟨⟨rfl, rfl⟩, trivial⟩⟩⟩))) (by
       intro σ; rfl)) (by
      exact s_asg (i := 4) (x_slc (lshz) (x_var (i := 1) (sh := .fz) (ea := (eL eD)) (g := fun p => p.1.1.2) (fun _ => rfl)) o_none (o_some (x_var (i := 2) (sh := .fl) (ea := eI) (g := fun p => p.2) (fun _ => rfl))) rfl) rfl (fun _ => rfl) (by
       exact s_asg (i := 5) (x_list (lshz) rfl (x_var (i := 0) (sh := .fz) (ea := (eL eD)) (g := fun p => p.1.1.1.1) (fun _ => rfl))) rfl (fun _ => rfl) (by
        exact s_while (Γl := fun s2 t => [some (.fz, (eL eD) s2.1.1.1.1.1), some (.fz, (eL eD) s2.1.1.1.1.2), some (.fl, eI s2.1.1.2), none, some ((.lst .fz), (eL eD) t.1), some ((.lst .fz), (eL eD) t.2)]) (t0 := fun p => (p.1.2, p.2)) (fc := fun s2 p => m_shortest_L2c p.1 p.2) (body := fun s2 p => m_shortest_L2 p.1 p.2) WL0_of (fun _ => ⟨⟨rfl, rfl⟩, ⟨⟨rfl, rfl⟩, ⟨⟨rfl, rfl⟩, ⟨⟨rfl, rfl⟩, ⟨⟨rfl, rfl⟩, trivial⟩⟩⟩⟩⟩) (fun s2 => XT.of_eq (t_bool (ts_and (t_tru truL (x_var (i := 5) (sh := (.lst .fz)) (ea := (eL eD)) (g := fun p => p.2) (fun _ => rfl))) (ts_one (t_cmp c_eqD (x_idx ixL (x_var (i := 5) (sh := (.lst .fz)) (ea := (eL eD)) (g := fun p => p.2) (fun _ => rfl)) (x_neg (x_lit (ea := eI) (d := .int 1) (v := 1) rfl rfl)) rfl) (x_idx ixL (x_var (i := 4) (sh := (.lst .fz)) (ea := (eL eD)) (g := fun p => p.1) (fun _ => rfl)) (x_neg (x_lit (ea := eI) (d := .int 1) (v := 1) rfl rfl)) rfl) rfl)))) (fun _ => rfl)) (by
         intro s2
         exact SX.of_eq (by
          unfold x1_2
          exact s_asg (i := 4) (x_catp (lshz) (x_slc (lshz) (x_var (i := 4) (sh := (.lst .fz)) (ea := (eL eD)) (g := fun p => p.1) (fun _ => rfl)) (o_some (x_neg (x_lit (ea := eI) (d := .int 1) (v := 1) rfl rfl))) o_none rfl) (x_slc (lshz) (x_var (i := 4) (sh := (.lst .fz)) (ea := (eL eD)) (g := fun p => p.1) (fun _ => rfl)) o_none (o_some (x_neg (x_lit (ea := eI) (d := .int 1) (v := 1) rfl rfl))) rfl) rfl rfl rfl ⟨_, .inl rfl⟩ ⟨_, .inl rfl⟩) rfl (fun _ => rfl) (by
           exact s_pop (i := 5) (s0 := .fz) (ea := eD) (g := fun p => p.1.2) (fun _ => rfl) (by
            exact s_nil (fun p => (p.1.2, p.2)) nx1A (fun _ => ⟨⟨rfl, rfl⟩, ⟨⟨rfl, rfl⟩, ⟨⟨rfl, rfl⟩, ⟨⟨rfl, rfl⟩, ⟨⟨rfl, rfl⟩, trivial⟩⟩⟩⟩⟩)))) (by
          intro σ; rfl)) (by
         exact s_ret rtR (r_tup2 (r_var (i := 5) (sh := (.lst .fz)) (ea := (eL eD)) (g := fun p => p.2.2) (fun _ => rfl)) (r_var (i := 4) (sh := (.lst .fz)) (ea := (eL eD)) (g := fun p => p.2.1) (fun _ => rfl))) rfl)))))) (by
    intro σ; rfl)
/-- same_run -/
noncomputable def m_same_run (one : List D × List D) (other : List D × List D) : Option Bool :=
((m_shortest one.1 one.2).bind fun x941 => (m_shortest other.1 other.2).bind fun x942 => eqD ((eT2 (eL eD) (eL eD)) x941) ((eT2 (eL eD) (eL eD)) x942)).bind fun x943 => some x943
theorem ok2 : ∀ n, 2 ≤ n → ∀ (v0 : List D × List D) (v1 : List D × List D) w, m_same_run v0 v1 = some w → Cd (GE WL0 con prog n) 2 [(eT2 (eL eD) (eL eD)) v0, (eT2 (eL eD) (eL eD)) v1] (eB w) .fl := by
  intro n hn v0 v1 w q
  obtain ⟨n, rfl⟩ : ∃ n', n = n' + 1 := ⟨n - 1, by omega⟩
  have c_1 := ok1 n (by omega)
  refine def_ok (S := (List D × List D) × (List D × List D)) (Γ0 := fun p => [some (.fz, (eT2 (eL eD) (eL eD)) p.1), some (.fz, (eT2 (eL eD) (eL eD)) p.2)]) (f := fun p => m_same_run p.1 p.2) (d := d2) rfl rfl rfl ?_ (σ := (v0, v1)) rfl (rl_init [(.fz, (eT2 (eL eD) (eL eD)) v0), (.fz, (eT2 (eL eD) (eL eD)) v1)] 0 ⟨ok_fz _, ⟨ok_fz _, trivial⟩⟩) q
  show SX _ _ _ b2 _ _
  unfold b2
  exact SX.of_eq (by
    exact s_ret rtR (r_e (x_cmp c_eqD (x_callF2 (Fn := m_shortest) (x_sel selT20 (x_var (i := 0) (sh := .fz) (ea := (eT2 (eL eD) (eL eD))) (g := fun p => p.1) (fun _ => rfl)) rfl) (x_sel selT21 (x_var (i := 0) (sh := .fz) (ea := (eT2 (eL eD) (eL eD))) (g := fun p => p.1) (fun _ => rfl)) rfl) rfl rfl rfl rfl c_1) (x_callF2 (Fn := m_shortest) (x_sel selT20 (x_var (i := 1) (sh := .fz) (ea := (eT2 (eL eD) (eL eD))) (g := fun p => p.2) (fun _ => rfl)) rfl) (x_sel selT21 (x_var (i := 1) (sh := .fz) (ea := (eT2 (eL eD) (eL eD))) (g := fun p => p.2) (fun _ => rfl)) rfl) rfl rfl rfl rfl c_1) rfl) rfl (fun _ => rfl)) rfl) (by
    intro σ; rfl)
noncomputable def m_equal_runs_L1 (one : List (List D)) (other : List (List D)) (k : Int) : Option (F Unit Bool) :=
((((nth one 0).bind fun x954 => (nth one 1).bind fun x955 => m_at_ x954 x955 k).bind fun x958 => ((nth other 0).bind fun x956 => (nth other 1).bind fun x957 => m_at_ x956 x957 k).bind fun x959 => m_same 64 x958 x959).bind fun x960 => some (!x960)).bind fun x961 => if x961 then
some (.ret false)
else
some (.go ())
/-- _law_equal_runs -/
noncomputable def m_equal_runs (one : List (List D)) (other : List (List D)) : Option Bool :=
((((nth one 0).bind fun x944 => some (x944.length : Int)).bind fun x946 => ((nth other 0).bind fun x945 => some (x945.length : Int)).bind fun x947 => some (if x947 > x946 then x947 else x946)).bind fun x952 => (((nth one 1).bind fun x948 => some (x948.length : Int)).bind fun x950 => ((nth other 1).bind fun x949 => some (x949.length : Int)).bind fun x951 => mulI x950 x951).bind fun x953 => some (x952 + x953)).bind fun many =>
(range1 many).bind fun x962 => (forB (fun x t_1 => m_equal_runs_L1 one other x) x962 ()).bind fun r => r.el (fun _ =>
some true) (fun v => some v)
theorem ok11 : ∀ n, 66 ≤ n → ∀ (v0 : List (List D)) (v1 : List (List D)) w, m_equal_runs v0 v1 = some w → Cd (GE WL0 con prog n) 11 [(eL (eL eD)) v0, (eL (eL eD)) v1] (eB w) .fl := by
  intro n hn v0 v1 w q
  obtain ⟨n, rfl⟩ : ∃ n', n = n' + 1 := ⟨n - 1, by omega⟩
  have c_5 := ok5 n (by omega)
  have c_9 := ok9 n (by omega)
  refine def_ok (S := List (List D) × List (List D)) (Γ0 := fun p => [some (.fz, (eL (eL eD)) p.1), some (.fz, (eL (eL eD)) p.2), none, none]) (f := fun p => m_equal_runs p.1 p.2) (d := d11) rfl rfl rfl ?_ (σ := (v0, v1)) rfl (rl_init [(.fz, (eL (eL eD)) v0), (.fz, (eL (eL eD)) v1)] 2 ⟨ok_fz _, ⟨ok_fz _, trivial⟩⟩) q
  show SX _ _ _ b11 _ _
  unfold b11
  exact SX.of_eq (by
    exact s_asg (i := 2) (x_add (x_bi2 bMax lfI rfl (x_bi1 bLenL lfI rfl (x_idx ixL (x_var (i := 0) (sh := .fz) (ea := (eL (eL eD))) (g := fun p => p.1) (fun _ => rfl)) (x_lit (ea := eI) (d := .int 0) (v := 0) rfl rfl) rfl)) (x_bi1 bLenL lfI rfl (x_idx ixL (x_var (i := 1) (sh := .fz) (ea := (eL (eL eD))) (g := fun p => p.2) (fun _ => rfl)) (x_lit (ea := eI) (d := .int 0) (v := 0) rfl rfl) rfl)) rfl) (x_mul (x_bi1 bLenL lfI rfl (x_idx ixL (x_var (i := 0) (sh := .fz) (ea := (eL (eL eD))) (g := fun p => p.1) (fun _ => rfl)) (x_lit (ea := eI) (d := .int 1) (v := 1) rfl rfl) rfl)) (x_bi1 bLenL lfI rfl (x_idx ixL (x_var (i := 1) (sh := .fz) (ea := (eL (eL eD))) (g := fun p => p.2) (fun _ => rfl)) (x_lit (ea := eI) (d := .int 1) (v := 1) rfl rfl) rfl)) rfl) rfl) rfl (fun _ => rfl) (by
     exact s_forB (n := 4) (er := eB) (sh := .fl) (Γl := fun s1 t => [some (.fz, (eL (eL eD)) s1.1.1), some (.fz, (eL (eL eD)) s1.1.2), some (.fl, eI s1.2), none]) (t0 := fun p => ()) (body := fun s1 p => m_equal_runs_L1 s1.1.1 s1.1.2 p.2) rtR (il_range1 (x_var (i := 2) (sh := .fl) (ea := eI) (g := fun p => p.2) (fun _ => rfl))) (tg_var (n := 4) (i := 3) (ea := eI) (sh := .fl) (by decide) (fshl lfI)) (fun _ _ => rfl) (fun _ => ⟨⟨rfl, rfl⟩, ⟨⟨rfl, rfl⟩, ⟨⟨rfl, rfl⟩, trivial⟩⟩⟩) (by
      intro s1
      exact SX.of_eq (by
       unfold x11_0
       exact s_if (t_not (t_b (x_call2 (Fn := (m_same 64)) (x_callF3 (Fn := m_at_) (x_idx ixL (x_var (i := 0) (sh := .fz) (ea := (eL (eL eD))) (g := fun p => s1.1.1) (fun _ => rfl)) (x_lit (ea := eI) (d := .int 0) (v := 0) rfl rfl) rfl) (x_idx ixL (x_var (i := 0) (sh := .fz) (ea := (eL (eL eD))) (g := fun p => s1.1.1) (fun _ => rfl)) (x_lit (ea := eI) (d := .int 1) (v := 1) rfl rfl) rfl) (x_var (i := 3) (sh := .fl) (ea := eI) (g := fun p => p.2) (fun _ => rfl)) rfl rfl rfl rfl rfl c_9) (x_callF3 (Fn := m_at_) (x_idx ixL (x_var (i := 1) (sh := .fz) (ea := (eL (eL eD))) (g := fun p => s1.1.2) (fun _ => rfl)) (x_lit (ea := eI) (d := .int 0) (v := 0) rfl rfl) rfl) (x_idx ixL (x_var (i := 1) (sh := .fz) (ea := (eL (eL eD))) (g := fun p => s1.1.2) (fun _ => rfl)) (x_lit (ea := eI) (d := .int 1) (v := 1) rfl rfl) rfl) (x_var (i := 3) (sh := .fl) (ea := eI) (g := fun p => p.2) (fun _ => rfl)) rfl rfl rfl rfl rfl c_9) rfl rfl rfl c_5))) (by
        simp only [app_nil, app_cons]
        exact s_ret rtF (r_e (x_lit (ea := eB) (d := .bl false) (v := false) rfl rfl) rfl (fun _ => rfl)) rfl) (by
        simp only [app_nil, app_cons]
        exact s_nil (fun p => ()) nx1F (fun _ => ⟨⟨rfl, rfl⟩, ⟨⟨rfl, rfl⟩, ⟨⟨rfl, rfl⟩, trivial⟩⟩⟩))) (by
       intro σ; rfl)) (by
      exact s_ret rtR (r_e (x_lit (ea := eB) (d := .bl true) (v := true) rfl rfl) rfl (fun _ => rfl)) rfl))) (by
    intro σ; rfl)
noncomputable def m_law_L2 (one : List (List D)) (another : List (List D)) : Option (F Unit Bool) :=
((((nth one 0).bind fun x1008 => some x1008).bind fun x1010 => ((nth one 1).bind fun x1009 => some x1009).bind fun x1011 => some (x1010, x1011)).bind fun x1018 => ((((nth another 0).bind fun x1012 => some x1012).bind fun x1014 => ((nth another 1).bind fun x1013 => some x1013).bind fun x1015 => some (x1014, x1015)).bind fun x1016 => some [x1016]).bind fun l1017 => some (x1018 :: l1017)).bind fun pairs =>
((nth pairs 0).bind fun x1019 => (nth pairs 1).bind fun x1020 => m_same_run x1019 x1020).bind fun answer =>
(if (!true) then some true else (m_equal_runs one another).bind fun x1021 => some (decide (answer ≠ x1021))).bind fun x1037 => if x1037 then
some (.ret false)
else
((((((nth one 0).bind fun x1026 => (nth one 1).bind fun x1027 => some (x1026, x1027)).bind fun x1032 => (((nth another 0).bind fun x1028 => (nth another 1).bind fun x1029 => some (x1028, x1029)).bind fun x1030 => some [x1030]).bind fun l1031 => some (x1032 :: l1031)).bind fun x1033 => some ((eL (eT2 (eL eD) (eL eD))) x1033)).bind fun x1034 => m_same 64 ((eL (eT2 (eL eD) (eL eD))) pairs) x1034).bind fun x1035 => some (!x1035)).bind fun x1036 => if x1036 then
some (.ret false)
else
some (.go ())
noncomputable def m_law_L1 (lassos : List (List (List D))) (one : List (List D)) : Option (F Unit Bool) :=
(forB (fun x t_1 => m_law_L2 one x) lassos ()).bind fun r => r.el (fun _ =>
some (.go ())) (fun v => some (.ret v))
/-- law -/
noncomputable def m_law (script : List Int) : Option Bool :=
((m_cell script 2).bind fun x963 => m_spans x963).bind fun spans_here =>
(m_items script 3 spans_here).bind fun items_here =>
((((nth spans_here 0).bind fun x964 => some (some x964))).bind fun x965 => some (cut items_here none x965)).bind fun stem =>
((((nth spans_here 0).bind fun x966 => some (some x966))).bind fun x967 => some (cut items_here x967 none)).bind fun loop =>
((((m_cell script 4).bind fun x968 => some x968).bind fun x969 => some (x969 / 4)).bind fun x970 => some (x970 % 12)).bind fun count =>
(((((m_cell script 4).bind fun x971 => some x971).bind fun x972 => some (x972 / 48)).bind fun x973 => some (x973 % 3)).bind fun x974 => some (1 + x974)).bind fun times =>
(m_longer stem loop count times).bind fun longer_here =>
((((m_cell script 4).bind fun x975 => some x975).bind fun x976 => some (x976 % 4)).bind fun x977 => some (decide (x977 = 1))).bind fun x1042 => (if x1042 then (((m_cell script 5).bind fun x980 => some x980).bind fun x981 => some (x981 % 1001)).bind fun count_2 =>
some count_2 else some count).bind fun count_1 =>
let passed := [stem, loop];
((nth passed 0).bind fun x982 => (nth passed 1).bind fun x983 => m_unrolled x982 x983 count_1).bind fun told =>
(m_longer stem loop count_1 1).bind fun due =>
((((((nth due 0).bind fun x984 => (nth due 1).bind fun x985 => some (x984, x985)).bind fun x986 => some ((eT2 (eL eD) (eL eD)) x986)).bind fun x987 => m_same 64 ((eT2 (eL eD) (eL eD)) told) x987).bind fun x988 => some (!x988)).bind fun x990 => if x990 then some true else (m_same 64 ((eL (eL eD)) passed) ((eL (eL eD)) [stem, loop])).bind fun x989 => some (!x989)).bind fun x1041 => if x1041 then
some false
else
let told_1 := (([] : List D), told.2);
(nth loop 0).bind fun x1040 => (push told_1.2 x1040).bind fun r1039 =>
let told_2 := (told_1.1, r1039);
(((nth spans_here 1).bind fun x994 => (((nth spans_here 0).bind fun x991 => some (x991 + 1)).bind fun x992 => some [x992]).bind fun l993 => some (x994 :: l993)).bind fun x995 => m_items script 6 x995).bind fun other =>
((m_cell script 8).bind fun x996 => (nth other 0).bind fun x997 => m_spoilt longer_here x996 x997).bind fun u =>
((((((((nth spans_here 1).bind fun x998 => some (some x998))).bind fun x999 => some (cut other none x999)).bind fun x1004 => (((((nth spans_here 1).bind fun x1000 => some (some x1000))).bind fun x1001 => some (cut other x1001 none)).bind fun x1002 => some [x1002]).bind fun l1003 => some (x1004 :: l1003)).bind fun x1005 => some [x1005]).bind fun l1006 => some (u.2 :: l1006)).bind fun l1007 => some ([stem, loop] :: l1007)).bind fun lassos =>
(forB (fun x_1 t_3 => m_law_L1 lassos x_1) lassos ()).bind fun r => r.el (fun _ =>
(m_same 64 ((eL (eL eD)) passed) ((eL (eL eD)) [stem, loop])).bind fun x1038 => some x1038) (fun v => some v)
theorem ok13 : ∀ n, 67 ≤ n → ∀ (v0 : List Int) w, m_law v0 = some w → Cd (GE WL0 con prog n) 13 [eR v0] (eB w) .fl := by
  intro n hn v0 w q
  obtain ⟨n, rfl⟩ : ∃ n', n = n' + 1 := ⟨n - 1, by omega⟩
  have c_0 := ok0 n (by omega)
  have c_2 := ok2 n (by omega)
  have c_3 := ok3 n (by omega)
  have c_5 := ok5 n (by omega)
  have c_7 := ok7 n (by omega)
  have c_8 := ok8 n (by omega)
  have c_10 := ok10 n (by omega)
  have c_11 := ok11 n (by omega)
  have c_12 := ok12 n (by omega)
  refine def_ok (S := List Int) (Γ0 := fun p => [some (.fz, eR p), none, none, none, none, none, none, none, none, none, none, none, none, none, none, none, none, none]) (f := fun p => m_law p) (d := d13) rfl rfl rfl ?_ (σ := v0) rfl (rl_init [(.fz, eR v0)] 17 ⟨ok_fz _, trivial⟩) q
  show SX _ _ _ b13 _ _
  unfold b13
  exact SX.of_eq (by
    exact s_asg (i := 1) (x_call1 (Fn := m_spans) (x_call2 (Fn := m_cell) (x_var (i := 0) (sh := .fz) (ea := eR) (g := fun p => p) (fun _ => rfl)) (x_lit (ea := eI) (d := .int 2) (v := 2) rfl rfl) rfl rfl rfl c_3) rfl rfl c_7) rfl (fun _ => rfl) (by
     exact s_asg (i := 2) (x_call3 (Fn := m_items) (x_var (i := 0) (sh := .fz) (ea := eR) (g := fun p => p.1) (fun _ => rfl)) (x_lit (ea := eI) (d := .int 3) (v := 3) rfl rfl) (x_var (i := 1) (sh := (.lst .fl)) (ea := (eL eI)) (g := fun p => p.2) (fun _ => rfl)) rfl rfl rfl rfl c_8) rfl (fun _ => rfl) (by
      exact s_asg (i := 3) (x_slc (lshz) (x_var (i := 2) (sh := (.lst .fl)) (ea := (eL eD)) (g := fun p => p.2) (fun _ => rfl)) o_none (o_some (x_idx ixL (x_var (i := 1) (sh := (.lst .fl)) (ea := (eL eI)) (g := fun p => p.1.2) (fun _ => rfl)) (x_lit (ea := eI) (d := .int 0) (v := 0) rfl rfl) rfl)) rfl) rfl (fun _ => rfl) (by
       exact s_asg (i := 4) (x_slc (lshz) (x_var (i := 2) (sh := (.lst .fl)) (ea := (eL eD)) (g := fun p => p.1.2) (fun _ => rfl)) (o_some (x_idx ixL (x_var (i := 1) (sh := (.lst .fl)) (ea := (eL eI)) (g := fun p => p.1.1.2) (fun _ => rfl)) (x_lit (ea := eI) (d := .int 0) (v := 0) rfl rfl) rfl)) o_none rfl) rfl (fun _ => rfl) (by
        exact s_asg (i := 5) (x_modC (by decide) (x_fdivC (by decide) (x_bi1 bInt lfI rfl (x_call2 (Fn := m_cell) (x_var (i := 0) (sh := .fz) (ea := eR) (g := fun p => p.1.1.1.1) (fun _ => rfl)) (x_lit (ea := eI) (d := .int 4) (v := 4) rfl rfl) rfl rfl rfl c_3)))) rfl (fun _ => rfl) (by
         exact s_asg (i := 6) (x_add (x_lit (ea := eI) (d := .int 1) (v := 1) rfl rfl) (x_modC (by decide) (x_fdivC (by decide) (x_bi1 bInt lfI rfl (x_call2 (Fn := m_cell) (x_var (i := 0) (sh := .fz) (ea := eR) (g := fun p => p.1.1.1.1.1) (fun _ => rfl)) (x_lit (ea := eI) (d := .int 4) (v := 4) rfl rfl) rfl rfl rfl c_3)))) rfl) rfl (fun _ => rfl) (by
          exact s_weak' (Γ' := fun p => [some (.fz, eR p.1.1.1.1.1.1), some ((.lst .fl), (eL eI) p.1.1.1.1.1.2), some ((.lst .fl), (eL eD) p.1.1.1.1.2), some (.any, (eL eD) p.1.1.1.2), some ((.lst .fz), (eL eD) p.1.1.2), some (.fl, eI p.1.2), some (.fl, eI p.2), none, none, none, none, none, none, none, none, none, none, none]) (fun _ => ⟨⟨rfl, rfl⟩, ⟨⟨rfl, rfl⟩, ⟨⟨rfl, rfl⟩, ⟨⟨rfl, rfl⟩, ⟨⟨rfl, rfl⟩, ⟨⟨rfl, rfl⟩, ⟨⟨rfl, rfl⟩, trivial⟩⟩⟩⟩⟩⟩⟩) (by
           exact s_weak' (Γ' := fun p => [some (.fz, eR p.1.1.1.1.1.1), some ((.lst .fl), (eL eI) p.1.1.1.1.1.2), some ((.lst .fl), (eL eD) p.1.1.1.1.2), some (.any, (eL eD) p.1.1.1.2), some (.any, (eL eD) p.1.1.2), some (.fl, eI p.1.2), some (.fl, eI p.2), none, none, none, none, none, none, none, none, none, none, none]) (fun _ => ⟨⟨rfl, rfl⟩, ⟨⟨rfl, rfl⟩, ⟨⟨rfl, rfl⟩, ⟨⟨rfl, rfl⟩, ⟨⟨rfl, rfl⟩, ⟨⟨rfl, rfl⟩, ⟨⟨rfl, rfl⟩, trivial⟩⟩⟩⟩⟩⟩⟩) (by
            exact s_asg (i := 7) (x_callF4 (Fn := m_longer) (x_varW (i := 3) (ea := (eL eD)) (g := fun p => p.1.1.1.2) (fun _ => rfl)) (x_varW (i := 4) (ea := (eL eD)) (g := fun p => p.1.1.2) (fun _ => rfl)) (x_var (i := 5) (sh := .fl) (ea := eI) (g := fun p => p.1.2) (fun _ => rfl)) (x_var (i := 6) (sh := .fl) (ea := eI) (g := fun p => p.2) (fun _ => rfl)) rfl rfl rfl rfl rfl rfl c_10) rfl (fun _ => rfl) (by
             exact s_ifJ (Γl := fun s1 t => [some (.fz, eR s1.1.1.1.1.1.1.1), some ((.lst .fl), (eL eI) s1.1.1.1.1.1.1.2), some ((.lst .fl), (eL eD) s1.1.1.1.1.1.2), some (.any, (eL eD) s1.1.1.1.1.2), some (.any, (eL eD) s1.1.1.1.2), some (.fl, eI t), some (.fl, eI s1.1.2), some ((.lst (.lst .fz)), (eL (eL eD)) s1.2), none, none, none, none, none, none, none, none, none, none]) (fx := fun s1 => (((m_cell s1.1.1.1.1.1.1.1 5).bind fun x980 => some x980).bind fun x981 => some (x981 % 1001)).bind fun count_2 => some count_2) (fy := fun s1 => some s1.1.1.2) (t_cmp (c_eq (EqE.mk' dpI (by decide) eqvI)) (x_modC (by decide) (x_bi1 bInt lfI rfl (x_call2 (Fn := m_cell) (x_var (i := 0) (sh := .fz) (ea := eR) (g := fun p => p.1.1.1.1.1.1.1) (fun _ => rfl)) (x_lit (ea := eI) (d := .int 4) (v := 4) rfl rfl) rfl rfl rfl c_3))) (x_lit (ea := eI) (d := .int 1) (v := 1) rfl rfl) rfl) (by
              intro s1
              exact SX.of_eq (by
               exact s_asg (i := 5) (x_modC (by decide) (x_bi1 bInt lfI rfl (x_call2 (Fn := m_cell) (x_var (i := 0) (sh := .fz) (ea := eR) (g := fun p => s1.1.1.1.1.1.1.1) (fun _ => rfl)) (x_lit (ea := eI) (d := .int 5) (v := 5) rfl rfl) rfl rfl rfl c_3))) rfl (fun _ => rfl) (by
                exact s_nil (fun p => p.2) nx1N (fun _ => ⟨⟨rfl, rfl⟩, ⟨⟨rfl, rfl⟩, ⟨⟨rfl, rfl⟩, ⟨⟨rfl, rfl⟩, ⟨⟨rfl, rfl⟩, ⟨⟨rfl, rfl⟩, ⟨⟨rfl, rfl⟩, ⟨⟨rfl, rfl⟩, trivial⟩⟩⟩⟩⟩⟩⟩⟩))) (by
               intro σ; rfl)) (by
              intro s1
              exact SX.of_eq (by
               exact s_nil (fun p => s1.1.1.2) nx1N (fun _ => ⟨⟨rfl, rfl⟩, ⟨⟨rfl, rfl⟩, ⟨⟨rfl, rfl⟩, ⟨⟨rfl, rfl⟩, ⟨⟨rfl, rfl⟩, ⟨⟨rfl, rfl⟩, ⟨⟨rfl, rfl⟩, ⟨⟨rfl, rfl⟩, trivial⟩⟩⟩⟩⟩⟩⟩⟩)) (by
               intro σ; rfl)) (by
              exact s_asg (i := 8) (x_lst (sh := (.lst .fz)) (ea := (eL eD)) (xl_cons (x_list (lshz) rfl (x_var (i := 3) (sh := .any) (ea := (eL eD)) (g := fun p => p.1.1.1.1.1.2) (fun _ => rfl))) (xl_cons (x_list (lshz) rfl (x_var (i := 4) (sh := .any) (ea := (eL eD)) (g := fun p => p.1.1.1.1.2) (fun _ => rfl))) xl_nil rfl) rfl) rfl rfl (by decide) rfl) rfl (fun _ => rfl) (by
               exact s_asg (i := 9) (x_callF3 (Fn := m_unrolled) (x_idx ixL (x_var (i := 8) (sh := (.lst .fz)) (ea := (eL (eL eD))) (g := fun p => p.2) (fun _ => rfl)) (x_lit (ea := eI) (d := .int 0) (v := 0) rfl rfl) rfl) (x_idx ixL (x_var (i := 8) (sh := (.lst .fz)) (ea := (eL (eL eD))) (g := fun p => p.2) (fun _ => rfl)) (x_lit (ea := eI) (d := .int 1) (v := 1) rfl rfl) rfl) (x_var (i := 5) (sh := .fl) (ea := eI) (g := fun p => p.1.2) (fun _ => rfl)) rfl rfl rfl rfl rfl c_0) rfl (fun _ => rfl) (by
                exact s_asg (i := 10) (x_callF4 (Fn := m_longer) (x_varW (i := 3) (ea := (eL eD)) (g := fun p => p.1.1.1.1.1.1.1.2) (fun _ => rfl)) (x_varW (i := 4) (ea := (eL eD)) (g := fun p => p.1.1.1.1.1.1.2) (fun _ => rfl)) (x_var (i := 5) (sh := .fl) (ea := eI) (g := fun p => p.1.1.2) (fun _ => rfl)) (x_lit (ea := eI) (d := .int 1) (v := 1) rfl rfl) rfl rfl rfl rfl rfl rfl c_10) rfl (fun _ => rfl) (by
                 exact s_if (t_bool (ts_or (t_not (t_b (x_call2 (Fn := (m_same 64)) (XE.as (ea := eD) (g := fun b => some ((eT2 (eL eD) (eL eD)) b)) (x_var (i := 9) (sh := (.tup [(.lst .fz), (.lst .fz)])) (ea := (eT2 (eL eD) (eL eD))) (g := fun p => p.1.2) (fun _ => rfl)) (fun b v q => by cases q; rfl)) (XE.as (ea := eD) (g := fun b => some ((eT2 (eL eD) (eL eD)) b)) (x_tup2 (x_idx ixL (x_var (i := 10) (sh := (.lst .fz)) (ea := (eL (eL eD))) (g := fun p => p.2) (fun _ => rfl)) (x_lit (ea := eI) (d := .int 0) (v := 0) rfl rfl) rfl) (x_idx ixL (x_var (i := 10) (sh := (.lst .fz)) (ea := (eL (eL eD))) (g := fun p => p.2) (fun _ => rfl)) (x_lit (ea := eI) (d := .int 1) (v := 1) rfl rfl) rfl) rfl rfl rfl rfl) (fun b v q => by cases q; rfl)) rfl rfl rfl c_5))) (ts_one (t_not (t_b (x_call2 (Fn := (m_same 64)) (XE.as (ea := eD) (g := fun b => some ((eL (eL eD)) b)) (x_var (i := 8) (sh := (.lst .fz)) (ea := (eL (eL eD))) (g := fun p => p.1.1.2) (fun _ => rfl)) (fun b v q => by cases q; rfl)) (XE.as (ea := eD) (g := fun b => some ((eL (eL eD)) b)) (x_lst (sh := .fz) (ea := (eL eD)) (xl_cons (x_varW (i := 3) (ea := (eL eD)) (g := fun p => p.1.1.1.1.1.1.1.1.2) (fun _ => rfl)) (xl_cons (x_varW (i := 4) (ea := (eL eD)) (g := fun p => p.1.1.1.1.1.1.1.2) (fun _ => rfl)) xl_nil rfl) rfl) rfl rfl (by decide) rfl) (fun b v q => by cases q; rfl)) rfl rfl rfl c_5)))))) (by
                  simp only [app_nil, app_cons]
                  exact s_ret rtR (r_e (x_lit (ea := eB) (d := .bl false) (v := false) rfl rfl) rfl (fun _ => rfl)) rfl) (by
                  simp only [app_nil, app_cons]
                  exact s_clrT (i := 9) (j := 0) (ss := [(.lst .fz), (.lst .fz)]) (s0 := .fz) (et := (eT2 (eL eD) (eL eD))) (ea := eD) (gj := fun t => t.1) (st := fun t l => (l, t.2)) (g := fun p => p.1.2) (fun t => ⟨_, rfl, rfl, fun _ => rfl⟩) rfl (fun _ => rfl) (by
                   exact s_appT (i := 9) (j := 1) (ss := [(.lst .fz), (.lst .fz)]) (s0 := .fz) (et := (eT2 (eL eD) (eL eD))) (ea := eD) (gj := fun t => t.2) (st := fun t l => (t.1, l)) (g := fun p => p.2) (fun t => ⟨_, rfl, rfl, fun _ => rfl⟩) rfl (fun _ => rfl) (x_idx ixL (x_var (i := 4) (sh := .any) (ea := (eL eD)) (g := fun p => p.1.1.1.1.1.1.1.1.2) (fun _ => rfl)) (x_lit (ea := eI) (d := .int 0) (v := 0) rfl rfl) rfl) rfl putz (by
                    exact s_asg (i := 11) (x_call3 (Fn := m_items) (x_var (i := 0) (sh := .fz) (ea := eR) (g := fun p => p.1.1.1.1.1.1.1.1.1.1.1.1.1) (fun _ => rfl)) (x_lit (ea := eI) (d := .int 6) (v := 6) rfl rfl) (x_lst (sh := .fl) (ea := eI) (xl_cons (x_idx ixL (x_var (i := 1) (sh := (.lst .fl)) (ea := (eL eI)) (g := fun p => p.1.1.1.1.1.1.1.1.1.1.1.1.2) (fun _ => rfl)) (x_lit (ea := eI) (d := .int 1) (v := 1) rfl rfl) rfl) (xl_cons (x_add (x_idx ixL (x_var (i := 1) (sh := (.lst .fl)) (ea := (eL eI)) (g := fun p => p.1.1.1.1.1.1.1.1.1.1.1.1.2) (fun _ => rfl)) (x_lit (ea := eI) (d := .int 0) (v := 0) rfl rfl) rfl) (x_lit (ea := eI) (d := .int 1) (v := 1) rfl rfl) rfl) xl_nil rfl) rfl) rfl rfl (by decide) rfl) rfl rfl rfl rfl c_8) rfl (fun _ => rfl) (by
                     exact s_cioS (i := 12) (j := 0) (l := 7) (sh' := (.lst (.lst .fz))) (ew := fun w => (eL (eL eD)) w) (xc3 (Fn := m_spoilt) (er := eN) (sh := .fl) (wd := fun w => [(eL (eL eD)) w, D.non, D.non]) (a_s (i := 7) (sh := (.lst (.lst .fz))) (sh' := (.lst (.lst .fz))) (ea := (eL (eL eD))) (g := fun p => p.1.1.1.1.1.1.1.2) rfl (fun _ => rfl)) (a_v (x_call2 (Fn := m_cell) (x_var (i := 0) (sh := .fz) (ea := eR) (g := fun p => p.1.1.1.1.1.1.1.1.1.1.1.1.1.1) (fun _ => rfl)) (x_lit (ea := eI) (d := .int 8) (v := 8) rfl rfl) rfl rfl rfl c_3)) (a_v (x_idx ixL (x_var (i := 11) (sh := (.lst .fl)) (ea := (eL eD)) (g := fun p => p.2) (fun _ => rfl)) (x_lit (ea := eI) (d := .int 0) (v := 0) rfl rfl) rfl)) rfl rfl rfl c_12) rfl rfl rfl rfl rfl rfl (fun _ => rfl) (fun _ => rfl) (by
                      exact s_asg (i := 13) (x_lst (sh := .any) (ea := (eL (eL eD))) (xl_cons (x_lst (sh := .fz) (ea := (eL eD)) (xl_cons (x_varW (i := 3) (ea := (eL eD)) (g := fun p => p.1.1.1.1.1.1.1.1.1.1.1.1.2) (fun _ => rfl)) (xl_cons (x_varW (i := 4) (ea := (eL eD)) (g := fun p => p.1.1.1.1.1.1.1.1.1.1.1.2) (fun _ => rfl)) xl_nil rfl) rfl) rfl rfl (by decide) rfl) (xl_cons (x_var (i := 12) (sh := .fz) (ea := (eL (eL eD))) (g := fun p => p.2.2) (fun _ => rfl)) (xl_cons (x_lst (sh := (.lst .fz)) (ea := (eL eD)) (xl_cons (x_slc (lshz) (x_var (i := 11) (sh := (.lst .fl)) (ea := (eL eD)) (g := fun p => p.1.2) (fun _ => rfl)) o_none (o_some (x_idx ixL (x_var (i := 1) (sh := (.lst .fl)) (ea := (eL eI)) (g := fun p => p.1.1.1.1.1.1.1.1.1.1.1.1.1.1.2) (fun _ => rfl)) (x_lit (ea := eI) (d := .int 1) (v := 1) rfl rfl) rfl)) rfl) (xl_cons (x_slc (lshz) (x_var (i := 11) (sh := (.lst .fl)) (ea := (eL eD)) (g := fun p => p.1.2) (fun _ => rfl)) (o_some (x_idx ixL (x_var (i := 1) (sh := (.lst .fl)) (ea := (eL eI)) (g := fun p => p.1.1.1.1.1.1.1.1.1.1.1.1.1.1.2) (fun _ => rfl)) (x_lit (ea := eI) (d := .int 1) (v := 1) rfl rfl) rfl)) o_none rfl) xl_nil rfl) rfl) rfl rfl (by decide) rfl) xl_nil rfl) rfl) rfl) rfl rfl (by decide) rfl) rfl (fun _ => rfl) (by
                       exact s_forB (n := 18) (er := eB) (sh := .fl) (Γl := fun s2 t => [some (.fz, eR s2.1.1.1.1.1.1.1.1.1.1.1.1.1.1.1.1), some ((.lst .fl), (eL eI) s2.1.1.1.1.1.1.1.1.1.1.1.1.1.1.1.2), some ((.lst .fl), (eL eD) s2.1.1.1.1.1.1.1.1.1.1.1.1.1.1.2), some (.any, (eL eD) s2.1.1.1.1.1.1.1.1.1.1.1.1.1.2), some (.any, (eL eD) s2.1.1.1.1.1.1.1.1.1.1.1.1.2), some (.fl, eI s2.1.1.1.1.1.1.1.1.2), some (.fl, eI s2.1.1.1.1.1.1.1.1.1.1.2), some (.fz, (eL (eL eD)) s2.1.2.2), some ((.lst .fz), (eL (eL eD)) s2.1.1.1.1.1.1.1.2), some ((.tup [(.lst .fz), (.lst .fz)]), (eT2 (eL eD) (eL eD)) s2.1.1.1.2), some ((.lst .fz), (eL (eL eD)) s2.1.1.1.1.1.2), some ((.lst .fl), (eL eD) s2.1.1.2), some (.fz, (eL (eL eD)) s2.1.2.2), some (.fz, (eL (eL (eL eD))) s2.2), none, none, none, none]) (t0 := fun p => ()) (body := fun s2 p => m_law_L1 s2.2 p.2) rtR (il_frz (sh := (.lst .fz)) (i := 13) (ea := (eL (eL eD))) (g := fun p => p.2) (fun _ => rfl) rfl) (tg_var (n := 18) (i := 14) (ea := (eL (eL eD))) (sh := .fz) (by decide) (fshz)) (fun _ _ => rfl) (fun _ => ⟨⟨rfl, rfl⟩, ⟨⟨rfl, rfl⟩, ⟨⟨rfl, rfl⟩, ⟨⟨rfl, rfl⟩, ⟨⟨rfl, rfl⟩, ⟨⟨rfl, rfl⟩, ⟨⟨rfl, rfl⟩, ⟨⟨rfl, rfl⟩, ⟨⟨rfl, rfl⟩, ⟨⟨rfl, rfl⟩, ⟨⟨rfl, rfl⟩, ⟨⟨rfl, rfl⟩, ⟨⟨rfl, rfl⟩, ⟨⟨rfl, rfl⟩, trivial⟩⟩⟩⟩⟩⟩⟩⟩⟩⟩⟩⟩⟩⟩) (by
                        intro s2
                        exact SX.of_eq (by
                         unfold x13_1
                         exact s_forB (n := 18) (er := eB) (sh := .fl) (Γl := fun s3 t => [some (.fz, eR s2.1.1.1.1.1.1.1.1.1.1.1.1.1.1.1.1), some ((.lst .fl), (eL eI) s2.1.1.1.1.1.1.1.1.1.1.1.1.1.1.1.2), some ((.lst .fl), (eL eD) s2.1.1.1.1.1.1.1.1.1.1.1.1.1.1.2), some (.any, (eL eD) s2.1.1.1.1.1.1.1.1.1.1.1.1.1.2), some (.any, (eL eD) s2.1.1.1.1.1.1.1.1.1.1.1.1.2), some (.fl, eI s2.1.1.1.1.1.1.1.1.2), some (.fl, eI s2.1.1.1.1.1.1.1.1.1.1.2), some (.fz, (eL (eL eD)) s2.1.2.2), some ((.lst .fz), (eL (eL eD)) s2.1.1.1.1.1.1.1.2), some ((.tup [(.lst .fz), (.lst .fz)]), (eT2 (eL eD) (eL eD)) s2.1.1.1.2), some ((.lst .fz), (eL (eL eD)) s2.1.1.1.1.1.2), some ((.lst .fl), (eL eD) s2.1.1.2), some (.fz, (eL (eL eD)) s2.1.2.2), some (.fz, (eL (eL (eL eD))) s2.2), some (.fz, (eL (eL eD)) s3.2), none, none, none]) (t0 := fun p => ()) (body := fun s3 p => m_law_L2 s3.2 p.2) rtF (il_m (x_var (i := 13) (sh := .fz) (ea := (eL (eL (eL eD)))) (g := fun p => s2.2) (fun _ => rfl))) (tg_var (n := 18) (i := 15) (ea := (eL (eL eD))) (sh := .fz) (by decide) (fshz)) (fun _ _ => rfl) (fun _ => ⟨⟨rfl, rfl⟩, ⟨⟨rfl, rfl⟩, ⟨⟨rfl, rfl⟩, ⟨⟨rfl, rfl⟩, ⟨⟨rfl, rfl⟩, ⟨⟨rfl, rfl⟩, ⟨⟨rfl, rfl⟩, ⟨⟨rfl, rfl⟩, ⟨⟨rfl, rfl⟩, ⟨⟨rfl, rfl⟩, ⟨⟨rfl, rfl⟩, ⟨⟨rfl, rfl⟩, ⟨⟨rfl, rfl⟩, ⟨⟨rfl, rfl⟩, ⟨⟨rfl, rfl⟩, trivial⟩⟩⟩⟩⟩⟩⟩⟩⟩⟩⟩⟩⟩⟩⟩) (by
                          intro s3
                          exact SX.of_eq (by
                           unfold x13_0
                           exact s_asg (i := 16) (x_lst (sh := (.tup [(.lst .fz), (.lst .fz)])) (ea := (eT2 (eL eD) (eL eD))) (xl_cons (x_tup2 (x_list (lshz) rfl (x_idx ixL (x_var (i := 14) (sh := .fz) (ea := (eL (eL eD))) (g := fun p => s3.2) (fun _ => rfl)) (x_lit (ea := eI) (d := .int 0) (v := 0) rfl rfl) rfl)) (x_list (lshz) rfl (x_idx ixL (x_var (i := 14) (sh := .fz) (ea := (eL (eL eD))) (g := fun p => s3.2) (fun _ => rfl)) (x_lit (ea := eI) (d := .int 1) (v := 1) rfl rfl) rfl)) rfl rfl rfl rfl) (xl_cons (x_tup2 (x_list (lshz) rfl (x_idx ixL (x_var (i := 15) (sh := .fz) (ea := (eL (eL eD))) (g := fun p => p.2) (fun _ => rfl)) (x_lit (ea := eI) (d := .int 0) (v := 0) rfl rfl) rfl)) (x_list (lshz) rfl (x_idx ixL (x_var (i := 15) (sh := .fz) (ea := (eL (eL eD))) (g := fun p => p.2) (fun _ => rfl)) (x_lit (ea := eI) (d := .int 1) (v := 1) rfl rfl) rfl)) rfl rfl rfl rfl) xl_nil rfl) rfl) rfl rfl (by decide) rfl) rfl (fun _ => rfl) (by
                            exact s_asg (i := 17) (x_call2 (Fn := m_same_run) (x_idx ixL (x_var (i := 16) (sh := (.lst .fz)) (ea := (eL (eT2 (eL eD) (eL eD)))) (g := fun p => p.2) (fun _ => rfl)) (x_lit (ea := eI) (d := .int 0) (v := 0) rfl rfl) rfl) (x_idx ixL (x_var (i := 16) (sh := (.lst .fz)) (ea := (eL (eT2 (eL eD) (eL eD)))) (g := fun p => p.2) (fun _ => rfl)) (x_lit (ea := eI) (d := .int 1) (v := 1) rfl rfl) rfl) rfl rfl rfl c_2) rfl (fun _ => rfl) (by
                             exact s_if (t_bool (ts_or (t_not (t_b (x_isin (F := fun _ => true) (fun _ => rfl) (x_var (i := 17) (sh := .fl) (ea := eB) (g := fun p => p.2) (fun _ => rfl))))) (ts_one (t_cmp (c_ne (EqE.mk' dpB (by decide) eqvB)) (x_var (i := 17) (sh := .fl) (ea := eB) (g := fun p => p.2) (fun _ => rfl)) (x_call2 (Fn := m_equal_runs) (x_var (i := 14) (sh := .fz) (ea := (eL (eL eD))) (g := fun p => s3.2) (fun _ => rfl)) (x_var (i := 15) (sh := .fz) (ea := (eL (eL eD))) (g := fun p => p.1.1.2) (fun _ => rfl)) rfl rfl rfl c_11) rfl)))) (by
                              simp only [app_nil, app_cons]
                              exact s_ret rtF (r_e (x_lit (ea := eB) (d := .bl false) (v := false) rfl rfl) rfl (fun _ => rfl)) rfl) (by
                              simp only [app_nil, app_cons]
                              exact s_if (t_not (t_b (x_call2 (Fn := (m_same 64)) (XE.as (ea := eD) (g := fun b => some ((eL (eT2 (eL eD) (eL eD))) b)) (x_var (i := 16) (sh := (.lst .fz)) (ea := (eL (eT2 (eL eD) (eL eD)))) (g := fun p => p.1.2) (fun _ => rfl)) (fun b v q => by cases q; rfl)) (XE.as (ea := eD) (g := fun b => some ((eL (eT2 (eL eD) (eL eD))) b)) (x_lst (sh := .fz) (ea := (eT2 (eL eD) (eL eD))) (xl_cons (x_tup2 (x_idx ixL (x_var (i := 14) (sh := .fz) (ea := (eL (eL eD))) (g := fun p => s3.2) (fun _ => rfl)) (x_lit (ea := eI) (d := .int 0) (v := 0) rfl rfl) rfl) (x_idx ixL (x_var (i := 14) (sh := .fz) (ea := (eL (eL eD))) (g := fun p => s3.2) (fun _ => rfl)) (x_lit (ea := eI) (d := .int 1) (v := 1) rfl rfl) rfl) rfl rfl rfl rfl) (xl_cons (x_tup2 (x_idx ixL (x_var (i := 15) (sh := .fz) (ea := (eL (eL eD))) (g := fun p => p.1.1.2) (fun _ => rfl)) (x_lit (ea := eI) (d := .int 0) (v := 0) rfl rfl) rfl) (x_idx ixL (x_var (i := 15) (sh := .fz) (ea := (eL (eL eD))) (g := fun p => p.1.1.2) (fun _ => rfl)) (x_lit (ea := eI) (d := .int 1) (v := 1) rfl rfl) rfl) rfl rfl rfl rfl) xl_nil rfl) rfl) rfl rfl (by decide) rfl) (fun b v q => by cases q; rfl)) rfl rfl rfl c_5))) (by
                               simp only [app_nil, app_cons]
                               exact s_ret rtF (r_e (x_lit (ea := eB) (d := .bl false) (v := false) rfl rfl) rfl (fun _ => rfl)) rfl) (by
                               simp only [app_nil, app_cons]
                               exact s_nil (fun p => ()) nx1F (fun _ => ⟨⟨rfl, rfl⟩, ⟨⟨rfl, rfl⟩, ⟨⟨rfl, rfl⟩, ⟨⟨rfl, rfl⟩, ⟨⟨rfl, rfl⟩, ⟨⟨rfl, rfl⟩, ⟨⟨rfl, rfl⟩, ⟨⟨rfl, rfl⟩, ⟨⟨rfl, rfl⟩, ⟨⟨rfl, rfl⟩, ⟨⟨rfl, rfl⟩, ⟨⟨rfl, rfl⟩, ⟨⟨rfl, rfl⟩, ⟨⟨rfl, rfl⟩, ⟨⟨rfl, rfl⟩, trivial⟩⟩⟩⟩⟩⟩⟩⟩⟩⟩⟩⟩⟩⟩⟩)))))) (by
                           intro σ; rfl)) (by
                          exact s_nil (fun p => ()) nx1F (fun _ => ⟨⟨rfl, rfl⟩, ⟨⟨rfl, rfl⟩, ⟨⟨rfl, rfl⟩, ⟨⟨rfl, rfl⟩, ⟨⟨rfl, rfl⟩, ⟨⟨rfl, rfl⟩, ⟨⟨rfl, rfl⟩, ⟨⟨rfl, rfl⟩, ⟨⟨rfl, rfl⟩, ⟨⟨rfl, rfl⟩, ⟨⟨rfl, rfl⟩, ⟨⟨rfl, rfl⟩, ⟨⟨rfl, rfl⟩, ⟨⟨rfl, rfl⟩, trivial⟩⟩⟩⟩⟩⟩⟩⟩⟩⟩⟩⟩⟩⟩))) (by
                         intro σ; rfl)) (by
                        exact s_ret rtR (r_e (x_call2 (Fn := (m_same 64)) (XE.as (ea := eD) (g := fun b => some ((eL (eL eD)) b)) (x_var (i := 8) (sh := (.lst .fz)) (ea := (eL (eL eD))) (g := fun p => p.1.1.1.1.1.1.1.1.2) (fun _ => rfl)) (fun b v q => by cases q; rfl)) (XE.as (ea := eD) (g := fun b => some ((eL (eL eD)) b)) (x_lst (sh := .fz) (ea := (eL eD)) (xl_cons (x_varW (i := 3) (ea := (eL eD)) (g := fun p => p.1.1.1.1.1.1.1.1.1.1.1.1.1.1.2) (fun _ => rfl)) (xl_cons (x_varW (i := 4) (ea := (eL eD)) (g := fun p => p.1.1.1.1.1.1.1.1.1.1.1.1.1.2) (fun _ => rfl)) xl_nil rfl) rfl) rfl rfl (by decide) rfl) (fun b v q => by cases q; rfl)) rfl rfl rfl c_5) rfl (fun _ => rfl)) rfl))))))))))))))))))))) (by
    intro σ; rfl)
/-! ### lassos: endless words, periods, the one shortest form -/
section
variable {α : Type}
/-- the loop's endless word -/
def lw (l : List α) (k : Nat) : Option α := l[k % l.length]?
/-- the lasso's endless word -/
def wd (s l : List α) (k : Nat) : Option α := if k < s.length then s[k]? else lw l (k - s.length)
theorem lw_per (l : List α) (k : Nat) : lw l (k + l.length) = lw l k := by unfold lw; rw [Nat.add_mod_right]
theorem lw_lt {l : List α} {k : Nat} (h : k < l.length) : lw l k = l[k]? := by unfold lw; rw [Nat.mod_eq_of_lt h]
theorem per_mul {f : Nat → Option α} {p N : Nat} (h : ∀ k, N ≤ k → f (k + p) = f k) : ∀ (m k : Nat), N ≤ k → f (k + m * p) = f k
  | 0, k, _ => by rw [Nat.zero_mul]; rfl
  | m + 1, k, hk => by rw [Nat.succ_mul, ← Nat.add_assoc, h _ (by omega), per_mul h m k hk]
theorem per_gcd {f : Nat → Option α} {N : Nat} : ∀ {p q : Nat}, (∀ k, N ≤ k → f (k + p) = f k) → (∀ k, N ≤ k → f (k + q) = f k) → ∀ k, N ≤ k → f (k + Nat.gcd p q) = f k := by
  intro p q
  induction p, q using Nat.gcd.induction with
  | H0 n => intro _ h; rw [Nat.gcd_zero_left]; exact h
  | H1 m n hm ih =>
    intro h1 h2
    rw [Nat.gcd_rec]
    refine ih (fun k hk => ?_) h1
    have e : k + n % m + (n / m) * m = k + n := by have := Nat.mod_add_div n m; rw [Nat.mul_comm] at this; omega
    rw [← per_mul h1 (n / m) (k + n % m) (by omega), e, h2 k hk]
/-- no shorter word, repeated -/
def Prim (l : List α) : Prop := 0 < l.length ∧ ∀ p, 0 < p → p < l.length → l.length % p = 0 → ∃ k, lw l (k + p) ≠ lw l k
theorem lw_from {l : List α} {p N : Nat} (h : ∀ k, N ≤ k → lw l (k + p) = lw l k) : ∀ k, lw l (k + p) = lw l k := fun k => by
  by_cases hl : l.length = 0
  · unfold lw; rw [hl]; have : l = [] := List.length_eq_zero_iff.mp hl; subst this; rfl
  have h1 := per_mul (f := lw l) (p := l.length) (N := 0) (fun k _ => lw_per l k) N (k + p) (Nat.zero_le _)
  have h2 := per_mul (f := lw l) (p := l.length) (N := 0) (fun k _ => lw_per l k) N k (Nat.zero_le _)
  have hN : N ≤ N * l.length := Nat.le_mul_of_pos_right N (by omega)
  have h3 := h (k + N * l.length) (by omega)
  rw [← h1, ← h2, ← h3]; congr 1; omega
/-- equal words, primitive loops: loops of one length -/
theorem prim_len {s l s' l' : List α} (h : Prim l) (h' : Prim l') (e : ∀ k, wd s l k = wd s' l' k) : l.length = l'.length := by
  have key : ∀ {s l s' l' : List α}, Prim l → Prim l' → (∀ k, wd s l k = wd s' l' k) → l.length ∣ l'.length := by
    intro s l s' l' h h' e
    have w1 : ∀ k, max s.length s'.length ≤ k → wd s l (k + l.length) = wd s l k := fun k hk => by
      unfold wd; rw [if_neg (by omega), if_neg (by omega), show k + l.length - s.length = k - s.length + l.length by omega, lw_per]
    have w2 : ∀ k, max s.length s'.length ≤ k → wd s l (k + l'.length) = wd s l k := fun k hk => by
      rw [e, e]
      unfold wd; rw [if_neg (by omega), if_neg (by omega), show k + l'.length - s'.length = k - s'.length + l'.length by omega, lw_per]
    have w3 := per_gcd w1 w2
    have hg : Nat.gcd l.length l'.length = l.length := by
      refine Classical.byContradiction fun hne => ?_
      have g1 : 0 < Nat.gcd l.length l'.length := Nat.gcd_pos_of_pos_left _ h.1
      have g2 : Nat.gcd l.length l'.length ≤ l.length := Nat.le_of_dvd h.1 (Nat.gcd_dvd_left _ _)
      obtain ⟨k, hk⟩ := h.2 _ g1 (by omega) (Nat.mod_eq_zero_of_dvd (Nat.gcd_dvd_left _ _))
      refine hk (lw_from (N := max s.length s'.length) (fun k hk => ?_) k)
      have := w3 (k + s.length) (by omega)
      unfold wd at this
      rw [if_neg (by omega), if_neg (by omega), show k + s.length + Nat.gcd l.length l'.length - s.length = k + Nat.gcd l.length l'.length by omega, show k + s.length - s.length = k by omega] at this
      exact this
    rw [← hg]; exact Nat.gcd_dvd_right _ _
  exact Nat.dvd_antisymm (key h h' e) (key h' h fun k => (e k).symm)
/-- the stem's last item is not the loop's last -/
def Irr (s l : List α) : Prop := s ≠ [] → s.getLast? ≠ l.getLast?
theorem last_get {l : List α} (h : 0 < l.length) : l.getLast? = l[l.length - 1]? := List.getLast?_eq_getElem?
theorem irr_len {s l s' l' : List α} (h : 0 < l.length) (hl : l.length = l'.length) (i : Irr s' l') (e : ∀ k, wd s l k = wd s' l' k) : s'.length ≤ s.length := by
  refine Classical.byContradiction fun hn => ?_
  have hs : s' ≠ [] := by intro q; subst q; simp at hn
  refine i hs ?_
  rw [last_get (by omega), last_get (by omega)]
  have e1 := e (s'.length - 1)
  have e2 := e (s'.length - 1 + l.length)
  have r1 : wd s' l' (s'.length - 1) = s'[s'.length - 1]? := by unfold wd; rw [if_pos (by omega)]
  have r2 : wd s' l' (s'.length - 1 + l.length) = l'[l'.length - 1]? := by
    unfold wd; rw [if_neg (by omega), show s'.length - 1 + l.length - s'.length = l'.length - 1 by omega, lw_lt (by omega)]
  have r3 : wd s l (s'.length - 1 + l.length) = wd s l (s'.length - 1) := by
    unfold wd; rw [if_neg (by omega), if_neg (by omega), show s'.length - 1 + l.length - s.length = s'.length - 1 - s.length + l.length by omega, lw_per]
  rw [← r1, ← r2, ← e1, ← e2, r3]
theorem short_uniq {s l s' l' : List α} (h : Prim l) (h' : Prim l') (i : Irr s l) (i' : Irr s' l') (e : ∀ k, wd s l k = wd s' l' k) : s = s' ∧ l = l' := by
  have hl := prim_len h h' e
  have hs : s.length = s'.length := Nat.le_antisymm (irr_len h'.1 hl.symm i fun k => (e k).symm) (irr_len h.1 hl i' e)
  constructor
  · refine List.ext_getElem? fun k => ?_
    by_cases hk : k < s.length
    · have := e k
      unfold wd at this
      rwa [if_pos hk, if_pos (by omega)] at this
    · rw [List.getElem?_eq_none (by omega), List.getElem?_eq_none (by omega)]
  · refine List.ext_getElem? fun k => ?_
    by_cases hk : k < l.length
    · have := e (k + s.length)
      unfold wd at this
      rw [if_neg (by omega), if_neg (by omega), hs, show k + s'.length - s'.length = k by omega, lw_lt hk, lw_lt (by omega)] at this
      exact this
    · rw [List.getElem?_eq_none (by omega), List.getElem?_eq_none (by omega)]
/-- equal as far as the law looks: equal -/
theorem wd_ext {s l s' l' : List α} (h : 0 < l.length) (h' : 0 < l'.length) (e : ∀ k, k < max s.length s'.length + l.length * l'.length → wd s l k = wd s' l' k) : ∀ k, wd s l k = wd s' l' k := by
  intro k
  induction k using Nat.strongRecOn with
  | _ k ih =>
    by_cases hk : k < max s.length s'.length + l.length * l'.length
    · exact e k hk
    · have hp : 0 < l.length * l'.length := Nat.mul_pos h h'
      have a1 : wd s l k = wd s l (k - l.length * l'.length) := by
        have := per_mul (f := wd s l) (p := l.length) (N := s.length) (fun k hk => by
          unfold wd; rw [if_neg (by omega), if_neg (by omega), show k + l.length - s.length = k - s.length + l.length by omega, lw_per]) l'.length (k - l.length * l'.length) (by omega)
        rw [Nat.mul_comm l'.length] at this
        rw [← this]; congr 1; omega
      have a2 : wd s' l' k = wd s' l' (k - l.length * l'.length) := by
        have := per_mul (f := wd s' l') (p := l'.length) (N := s'.length) (fun k hk => by
          unfold wd; rw [if_neg (by omega), if_neg (by omega), show k + l'.length - s'.length = k - s'.length + l'.length by omega, lw_per]) l.length (k - l.length * l'.length) (by omega)
        rw [← this]; congr 1; omega
      rw [a1, a2]; exact ih _ (by omega)
/-- repetition of a first part -/
theorem rep_get {l : List α} (hl : 0 < l.length) : ∀ (m k : Nat), k < m * l.length → ((List.replicate m l).flatten)[k]? = lw l k
  | 0, k, h => by simp at h
  | m + 1, k, h => by
    rw [List.replicate_succ, List.flatten_cons]
    by_cases hk : k < l.length
    · rw [List.getElem?_append_left hk, lw_lt hk]
    · rw [Nat.succ_mul] at h
      rw [List.getElem?_append_right (by omega), rep_get hl m (k - l.length) (by omega)]
      have := lw_per l (k - l.length)
      rw [show k - l.length + l.length = k by omega] at this
      exact this.symm
theorem rep_len (l : List α) (m : Nat) : ((List.replicate m l).flatten).length = m * l.length := by
  induction m with
  | zero => simp
  | succ m ih => rw [List.replicate_succ, List.flatten_cons, List.length_append, ih, Nat.succ_mul]; omega
theorem rep_lw {l : List α} {m : Nat} (hl : 0 < l.length) (hm : 0 < m) (k : Nat) : lw ((List.replicate m l).flatten) k = lw l k := by
  have hp : 0 < m * l.length := Nat.mul_pos hm hl
  conv => lhs; unfold lw
  rw [rep_len, rep_get hl m _ (Nat.mod_lt _ hp)]
  unfold lw
  rw [Nat.mod_mul_left_mod]
/-- l is its first p items repeated, just when p is a period -/
theorem rep_iff {l : List α} {p : Nat} (hp : 0 < p) (hl : 0 < l.length) (hpl : p ≤ l.length) (hd : l.length % p = 0) :
    (List.replicate (l.length / p) (l.take p)).flatten = l ↔ ∀ k, lw l (k + p) = lw l k := by
  have hlen : (l.take p).length = p := by rw [List.length_take]; omega
  have hq : l.length / p * p = l.length := by have := Nat.mod_add_div l.length p; rw [Nat.mul_comm] at this; omega
  have hm : 0 < l.length / p := Nat.div_pos hpl hp
  constructor
  · intro e k
    rw [← e, rep_lw (by omega) hm, rep_lw (by omega) hm]
    have := lw_per (l.take p) k
    rw [hlen] at this
    exact this
  · intro h
    refine List.ext_getElem? fun k => ?_
    by_cases hk : k < l.length
    · rw [rep_get (by omega) _ _ (by rw [hlen, hq]; exact hk)]
      unfold lw
      rw [hlen, List.getElem?_take_of_lt (Nat.mod_lt _ hp)]
      have := per_mul (f := lw l) (p := p) (N := 0) (fun k _ => h k) (k / p) (k % p) (Nat.zero_le _)
      have e2 : k % p + k / p * p = k := by have := Nat.mod_add_div k p; rw [Nat.mul_comm] at this; omega
      rw [e2, lw_lt hk, lw_lt (by have := Nat.mod_lt k hp; omega)] at this
      exact this.symm
    · rw [List.getElem?_eq_none (by rw [rep_len, hlen, hq]; omega), List.getElem?_eq_none (by omega)]
/-- a loop turned by one: its last item first -/
theorem rot_lw {r : List α} {x : α} (k : Nat) : lw (x :: r) (k + 1) = lw (r ++ [x]) k := by
  unfold lw
  have e : (r ++ [x]).length = (x :: r).length := by simp
  rw [e]
  have hp : 0 < (x :: r).length := by simp
  have hm := Nat.mod_lt k hp
  rw [Nat.add_mod]
  by_cases h1 : (x :: r).length = 1
  · have : r = [] := by simpa using h1
    subst this
    rw [show ([x] : List α).length = 1 from rfl, Nat.mod_one, Nat.mod_one]; rfl
  have h1' : 1 % (x :: r).length = 1 := Nat.mod_eq_of_lt (by omega)
  rw [h1']
  by_cases h2 : k % (x :: r).length + 1 < (x :: r).length
  · rw [Nat.mod_eq_of_lt h2, List.getElem?_cons_succ, List.getElem?_append_left (by simp at h2; omega)]
  · have h3 : k % (x :: r).length + 1 = (x :: r).length := by omega
    rw [h3, Nat.mod_self]
    have h4 : k % (x :: r).length = r.length := by rw [List.length_cons] at h3 ⊢; omega
    rw [h4, List.getElem?_append_right (Nat.le_refl _), Nat.sub_self]; rfl
theorem rot_prim {r : List α} {x : α} (h : Prim (r ++ [x])) : Prim (x :: r) := by
  refine ⟨by simp, fun p h1 h2 h3 => ?_⟩
  obtain ⟨k, hk⟩ := h.2 p h1 (by simpa using h2) (by simpa using h3)
  refine ⟨k + 1, fun e => hk ?_⟩
  rw [show k + 1 + p = k + p + 1 by omega, rot_lw, rot_lw] at e
  exact e
theorem rot_wd {s r : List α} {x : α} (k : Nat) : wd s (x :: r) k = wd (s ++ [x]) (r ++ [x]) k := by
  unfold wd
  rw [List.length_append, List.length_singleton]
  by_cases h1 : k < s.length
  · rw [if_pos h1, if_pos (by omega), List.getElem?_append_left h1]
  · rw [if_neg h1]
    by_cases h2 : k = s.length
    · subst h2
      rw [if_pos (by omega), Nat.sub_self, List.getElem?_append_right (Nat.le_refl _), Nat.sub_self]
      unfold lw; rw [Nat.zero_mod]; rfl
    · rw [if_neg (by omega), show k - s.length = (k - (s.length + 1)) + 1 by omega, rot_lw]
end

/-- plain data, so deep -/
inductive Pl : Nat → D → Prop
  | int (n : Nat) (i : Int) : Pl n (.int i)
  | lst {n : Nat} {ds : List D} : ds.length < 100000 → (∀ d ∈ ds, Pl n d) → Pl (n + 1) (.lst ds)
  | tup {n : Nat} {ds : List D} : ds.length < 100000 → (∀ d ∈ ds, Pl n d) → Pl (n + 1) (.tup ds)
theorem Pl.dep {n : Nat} {d : D} (h : Pl n d) : Dep n d := by
  induction h with
  | int n i => exact (dep_int i).mono (Nat.zero_le n)
  | lst _ _ ih => exact dep_lst ih
  | tup _ _ ih => exact dep_tup ih
theorem eqvAll_iff : ∀ {as bs : List D}, (∀ a ∈ as, ∀ b ∈ bs, (PyData.eqv a.py b.py = true ↔ a = b)) → (PyData.eqvAll (D.pys as) (D.pys bs) = true ↔ as = bs)
  | [], [], _ => by simp [D.pys, PyData.eqvAll]
  | [], b :: bs, _ => by simp [D.pys, PyData.eqvAll]
  | a :: as, [], _ => by simp [D.pys, PyData.eqvAll]
  | a :: as, b :: bs, h => by
    simp only [D.pys, PyData.eqvAll, Bool.and_eq_true]
    rw [h a List.mem_cons_self b List.mem_cons_self, eqvAll_iff fun x hx y hy => h x (List.mem_cons_of_mem _ hx) y (List.mem_cons_of_mem _ hy)]
    constructor
    · rintro ⟨rfl, rfl⟩; rfl
    · intro e; cases e; exact ⟨rfl, rfl⟩
theorem Pl.eqv : ∀ {n : Nat} {d : D}, Pl n d → ∀ {m : Nat} {e : D}, Pl m e → (PyData.eqv d.py e.py = true ↔ d = e) := by
  intro n d h
  induction h with
  | int n i =>
    intro m e h'
    cases h' with
    | int _ j => simp [D.py, PyData.eqv]
    | lst _ _ => simp [D.py, PyData.eqv]
    | tup _ _ => simp [D.py, PyData.eqv]
  | @lst n ds _ _ ih =>
    intro m e h'
    cases h' with
    | int _ j => simp [D.py, PyData.eqv]
    | @lst _ es _ h3 =>
      simp only [D.py, PyData.eqv, D.lst.injEq]
      exact eqvAll_iff fun a ha b hb => ih a ha (h3 b hb)
    | tup _ _ => simp [D.py, PyData.eqv]
  | @tup n ds _ _ ih =>
    intro m e h'
    cases h' with
    | int _ j => simp [D.py, PyData.eqv]
    | lst _ _ => simp [D.py, PyData.eqv]
    | @tup _ es _ h3 =>
      simp only [D.py, PyData.eqv, D.tup.injEq]
      exact eqvAll_iff fun a ha b hb => ih a ha (h3 b hb)
open Classical in
theorem eqD_pl {n m : Nat} {d e : D} (h : Pl n d) (h' : Pl m e) (hn : n ≤ 60) (hm : m ≤ 60) : eqD d e = some (decide (d = e)) := by
  rw [eqD_some h.dep h'.dep (by omega) (by omega)]
  congr 1
  rw [Bool.eq_iff_iff, decide_eq_true_eq]
  exact h.eqv h'
open Classical in
theorem same_eq : ∀ (n f : Nat) (d : D), n ≤ f → n ≤ 60 → Pl n d → ∀ (m : Nat) (e : D), m ≤ 60 → Pl m e → m_same (f + 1) e d = some (decide (e = d)) := by
  intro n
  have i1 : ∀ i : Int, isTy .str (.int i) = some false := fun _ => rfl
  have i2 : ∀ i : Int, isTy .int (.int i) = some true := fun _ => rfl
  have i3 : ∀ i : Int, isTy .bool (.int i) = some false := fun _ => rfl
  have i4 : ∀ l, isTy .int (.lst l) = some false := fun _ => rfl
  have i5 : ∀ l, isTy .int (.tup l) = some false := fun _ => rfl
  have i6 : ∀ l, isTy .str (.lst l) = some false := fun _ => rfl
  have i7 : ∀ l, isTy .str (.tup l) = some false := fun _ => rfl
  have i8 : ∀ l, isTy .lst (.tup l) = some false := fun _ => rfl
  have i9 : ∀ l, isTy .tup (.lst l) = some false := fun _ => rfl
  have i10 : ∀ l, isTy .tup (.tup l) = some true := fun _ => rfl
  have i11 : ∀ l, isTy .lst (.lst l) = some true := fun _ => rfl
  have i12 : ∀ i : Int, isTy .lst (.int i) = some false := fun _ => rfl
  have i13 : ∀ i : Int, isTy .tup (.int i) = some false := fun _ => rfl
  have base : ∀ (f : Nat) (i : Int) (m : Nat) (e : D), m ≤ 60 → Pl m e → m_same (f + 1) e (.int i) = some (decide (e = .int i)) := by
    intro f i m e hm he
    show M_same (m_same f) _ _ = _
    unfold M_same
    simp only [isD_def, i1, i2, bsome, if_true, Bool.false_eq_true, if_false]
    cases he with
    | int _ j =>
      simp only [i2, i3, bsome, if_true, Bool.not_false]
      rw [show eqD (eD (.int j)) (eD (.int i)) = some (decide (D.int j = .int i)) from eqD_pl (Pl.int 0 j) (Pl.int 0 i) (by decide) (by decide), bsome]
    | lst _ _ => simp only [i4, bsome, Bool.false_eq_true, if_false]; rw [decide_eq_false (by simp)]
    | tup _ _ => simp only [i5, bsome, Bool.false_eq_true, if_false]; rw [decide_eq_false (by simp)]
  have seq : ∀ (f : Nat) (ds es : List D) (d e : D), ds.length < 100000 → es.length < 100000 → (∀ i : Int, nthD d i = nth ds i) → (∀ i : Int, nthD e i = nth es i) →
      lenD d = some (ds.length : Int) → lenD e = some (es.length : Int) → (e = d ↔ es = ds) → (∀ x ∈ ds, ∀ y ∈ es, m_same f y x = some (decide (y = x))) →
      ((((lenD e).bind fun x642 => (lenD d).bind fun x643 => some (decide (x642 ≠ x643))).bind fun x650 => if x650 then
some false
else
((lenD d).bind fun x644 => range1 x644).bind fun x649 => (forB (fun x t_1 => m_same_L1 (m_same f) e d x) x649 ()).bind fun r => r.el (fun _ =>
some true) (fun v => some v)) : Option Bool) = some (decide (e = d)) := by
    intro f ds es d e l1 l2 n1 n2 e1 e2 ei hs
    rw [e1, e2]
    simp only [bsome]
    by_cases hlen : es.length = ds.length
    · rw [if_neg (by rw [decide_eq_true_eq]; omega), range1_ok (by omega), bsome]
      rw [forBSearch (p := fun k => !decide (es[k.toNat]? = ds[k.toNat]?)) (v := false) (fun k hk => ?_), bsome]
      · by_cases q : es = ds
        · subst q
          rw [if_neg (by simp), decide_eq_true (ei.mpr rfl)]; rfl
        · rw [if_pos, decide_eq_false (fun h => q (ei.mp h))]; rfl
          refine Classical.byContradiction fun hn => q (List.ext_getElem? fun k => ?_)
          by_cases hk : k < ds.length
          · refine Classical.byContradiction fun h => hn ?_
            rw [List.any_eq_true]
            exact ⟨(k : Int), rangeI_mem.mpr (by omega), by rw [Int.toNat_natCast, decide_eq_false h]; rfl⟩
          · rw [List.getElem?_eq_none (by omega), List.getElem?_eq_none (by omega)]
      · have hk := rangeI_mem.mp hk
        unfold m_same_L1
        rw [n1, n2, nth_ok hk.1 (by omega), nth_ok hk.1 hk.2]
        simp only [bsome]
        rw [hs _ (List.getElem_mem _) _ (List.getElem_mem _), bsome, bsome]
        rw [List.getElem?_eq_getElem (by omega : k.toNat < es.length), List.getElem?_eq_getElem (by omega : k.toNat < ds.length)]
        simp only [Option.some.injEq]
        split <;> rfl
    · rw [if_pos (by rw [decide_eq_true_eq]; omega), decide_eq_false]
      intro h; rw [ei.mp h] at hlen; exact hlen rfl
  induction n with
  | zero =>
    intro f d _ _ h m e hm he
    cases h with
    | int _ i => exact base f i m e hm he
  | succ n ih =>
    intro f d hf hn h m e hm he
    cases h with
    | int _ i => exact base f i m e hm he
    | @lst _ ds h1 h2 =>
      show M_same (m_same f) _ _ = _
      unfold M_same
      simp only [isD_def, i4, i6, i9, i11, bsome, if_true, Bool.false_eq_true, if_false]
      cases he with
      | int _ j => simp only [i12, bsome, Bool.not_false, if_true]; rw [decide_eq_false (by simp)]
      | tup _ _ => simp only [i8, bsome, Bool.not_false, if_true]; rw [decide_eq_false (by simp)]
      | @lst m es h3 h4 =>
        simp only [i11, bsome, Bool.not_true, Bool.false_eq_true, if_false]
        obtain ⟨f, rfl⟩ : ∃ f', f = f' + 1 := ⟨f - 1, by omega⟩
        exact seq (f + 1) ds es _ _ h1 h3 (fun i => by rw [nthD_def, nth_def]; rfl) (fun i => by rw [nthD_def, nth_def]; rfl) (by rw [lenD_def]; rfl) (by rw [lenD_def]; rfl) (by simp) fun x hx y hy => ih f x (by omega) (by omega) (h2 x hx) m y (by omega) (h4 y hy)
    | @tup _ ds h1 h2 =>
      show M_same (m_same f) _ _ = _
      unfold M_same
      simp only [isD_def, i5, i7, i10, i8, bsome, if_true, Bool.false_eq_true, if_false]
      cases he with
      | int _ j => simp only [i13, bsome, Bool.not_false, if_true]; rw [decide_eq_false (by simp)]
      | lst _ _ => simp only [i9, bsome, Bool.not_false, if_true]; rw [decide_eq_false (by simp)]
      | @tup m es h3 h4 =>
        simp only [i10, bsome, Bool.not_true, Bool.false_eq_true, if_false]
        obtain ⟨f, rfl⟩ : ∃ f', f = f' + 1 := ⟨f - 1, by omega⟩
        exact seq (f + 1) ds es _ _ h1 h3 (fun i => by rw [nthD_def, nth_def]; rfl) (fun i => by rw [nthD_def, nth_def]; rfl) (by rw [lenD_def]; rfl) (by rw [lenD_def]; rfl) (by simp) fun x hx y hy => ih f x (by omega) (by omega) (h2 x hx) m y (by omega) (h4 y hy)

theorem cell_ok (s : List Int) {k : Int} (h : 0 ≤ k) : Wl (m_cell s k) (fun _ => True) := by
  unfold m_cell
  refine Wl.ite (fun hc => ?_) (fun _ => .pure trivial)
  simp only [decide_eq_true_eq] at hc
  rw [nth_ok h hc]
  exact .pure trivial
theorem draws_ok (s : List Int) {first count : Int} (hp : 0 ≤ first) (hc : 0 ≤ count ∧ count < 100000) :
    Wl (m_draws s first count) (fun l => (l.length : Int) = count ∧ ∀ x ∈ l, 0 ≤ x ∧ x < 1000) := by
  unfold m_draws
  refine (cell_ok s hp).bind fun c _ => ?_
  refine Wl.bind (P := fun _ => True) (Wl.ite (fun _ => .pure trivial) fun _ => .pure trivial) fun rest _ => ?_
  rw [range1_ok (by omega), bsome]
  refine Wl.bind (forANum (fun i (t : Int × List Int) => t.2.length = i ∧ ∀ x ∈ t.2, 0 ≤ x ∧ x < 1000) ⟨rfl, by simp⟩ fun i x t hx ⟨h1, h2⟩ => ?_) fun t ⟨h1, h2⟩ => .pure ⟨by rw [h1, rangeI_len]; omega, h2⟩
  have hi : i < (rangeI 0 count).length := (List.getElem?_eq_some_iff.mp hx).1
  have hx' := rangeI_mem.mp (List.mem_of_getElem? hx)
  rw [rangeI_len] at hi
  have snoc : ∀ y : Int, 0 ≤ y ∧ y < 1000 → (t.2 ++ [y]).length = i + 1 ∧ ∀ x ∈ t.2 ++ [y], 0 ≤ x ∧ x < 1000 := fun y hy => ⟨by simp [h1], fun z hz => by
    rcases List.mem_append.mp hz with hz | hz
    · exact h2 z hz
    · rw [List.mem_singleton] at hz; subst hz; exact hy⟩
  unfold m_draws_L1
  refine Wl.ite (fun _ => ?_) fun _ => ?_
  · rw [push_ok' _ (by omega), bsome]
    exact .pure (snoc _ (by omega))
  · refine (cell_ok s (by omega)).bind fun o _ => ?_
    have hm := emod_rng (((c * 48271) + (o * 16807)) + ((x + 1) * 69621)) (show (0 : Int) < 2147483647 by decide)
    simp only
    rw [mulI_r (by omega)]
    simp only [bsome]
    rw [push_ok' _ (by omega), bsome]
    exact .pure (snoc _ (by omega))
theorem spans_ok (c : Int) : Wl (m_spans c) (fun sp => ∃ a b, sp = [a, b] ∧ (0 ≤ a ∧ a ≤ 24) ∧ 1 ≤ b ∧ b ≤ 16) := by
  unfold m_spans
  exact Wl.ite (fun _ => .pure ⟨_, _, rfl, by omega, by omega⟩) fun _ => .pure ⟨_, _, rfl, by omega, by omega⟩
theorem nth_lit {α : Type} {l : List α} {i : Int} (h0 : 0 ≤ i) (h1 : i < l.length) : Wl (nth l i) (fun _ => True) := (nthOk h0 h1).mono fun _ _ => trivial
theorem item_ok (x sort great : Int) : Wl (m_item x sort great) (Pl 1) := by
  unfold m_item
  refine Wl.ite (fun _ => .pure (.int _ _)) fun _ => ?_
  refine Wl.ite (fun _ => .pure (.tup (by simp) ?_)) fun _ => ?_
  · intro d hd
    simp only [List.mem_cons, List.not_mem_nil, or_false] at hd
    rcases hd with rfl | rfl <;> exact .int _ _
  refine Wl.ite (fun _ => ?_) fun _ => .pure (.tup (by simp) (by simp))
  simp only [Option.bind_assoc, bsome]
  refine (nth_lit (by omega) (by simp; omega)).bind fun y _ => .pure (.tup (by simp) ?_)
  intro d hd
  simp only [List.mem_cons, List.not_mem_nil, or_false] at hd
  subst hd
  exact .int _ _
theorem items_ok (s : List Int) {first a b : Int} (hp : 0 ≤ first) (ha : 0 ≤ a ∧ a ≤ 40) (hb : 1 ≤ b ∧ b ≤ 40) : Wl (m_items s first [a, b]) (fun l => (l.length : Int) = a + b ∧ ∀ d ∈ l, Pl 1 d) := by
  unfold m_items
  simp only [Option.bind_assoc, bsome]
  refine (cell_ok s (by decide)).bind fun c0 _ => ?_
  refine (cell_ok s (by decide)).bind fun c1 _ => ?_
  rw [modI_ok (by decide), bsome, nth_ok (by decide) (by simp), bsome, nth_ok (by decide) (by simp), bsome]
  refine (draws_ok s hp (show 0 ≤ a + b ∧ a + b < 100000 by omega)).bind fun d ⟨d1, d2⟩ => ?_
  refine Wl.bind (mapOAll (Pl 1) fun x _ => item_ok x _ _) fun l ⟨l1, l2⟩ => ?_
  rw [lim_ok (by omega)]
  exact .pure ⟨by rw [l1]; exact d1, l2⟩
theorem cut_drop {α : Type} {l : List α} {a : Int} (h0 : 0 ≤ a) (h1 : a < l.length) : cut l (some a) none = l.drop a.toNat := by
  obtain ⟨k, rfl⟩ : ∃ k : Nat, a = (k : Int) := ⟨a.toNat, by omega⟩
  unfold cut
  rw [HT.sIx_nat, HT.sIx_none, Int.toNat_natCast, show min k l.length = k by omega]
  exact List.take_of_length_le (by rw [List.length_drop]; omega)

theorem pl_list {l : List D} (h : l.length < 100000) (hd : ∀ d ∈ l, Pl 1 d) : Pl 2 (eL eD l) := .lst (by rw [List.length_map]; exact h) fun d h' => by
  obtain ⟨x, hx, rfl⟩ := List.mem_map.mp h'
  exact hd x hx
theorem eLD (l : List D) : eL eD l = .lst l := by show D.lst (List.map eD l) = _; rw [← map_eD]
/-- a lasso of plain items -/
structure LP (s l : List D) : Prop where
  s1 : s.length ≤ 1000
  l0 : 0 < l.length
  l1 : l.length ≤ 1000
  sp : ∀ d ∈ s, Pl 1 d
  lp : ∀ d ∈ l, Pl 1 d
theorem wd_mem {s l : List D} {k : Nat} (h : 0 < l.length) : ∃ x, wd s l k = some x ∧ (x ∈ s ∨ x ∈ l) := by
  unfold wd
  split
  · rename_i hk
    exact ⟨_, List.getElem?_eq_getElem hk, .inl (List.getElem_mem _)⟩
  · unfold lw
    have := Nat.mod_lt (k - s.length) h
    exact ⟨_, List.getElem?_eq_getElem this, .inr (List.getElem_mem _)⟩
theorem at_ok {s l : List D} (h : 0 < l.length) (k : Nat) : m_at_ s l (k : Int) = wd s l k := by
  unfold m_at_ wd
  by_cases hk : k < s.length
  · rw [if_pos (by rw [decide_eq_true_eq]; omega), if_pos hk, nth_nat hk, bsome, List.getElem?_eq_getElem hk]
  · rw [if_neg (by rw [decide_eq_true_eq]; omega), if_neg hk, modI_ok (by omega), bsome]
    have e : ((k : Int) - (s.length : Int)) % (l.length : Int) = (((k - s.length) % l.length : Nat) : Int) := by
      rw [show (k : Int) - (s.length : Int) = ((k - s.length : Nat) : Int) by omega]; rfl
    have hm := Nat.mod_lt (k - s.length) h
    rw [e, nth_nat hm, bsome]
    unfold lw
    rw [List.getElem?_eq_getElem hm]
open Classical in
theorem runs_ok {s l s' l' : List D} (h : LP s l) (h' : LP s' l') : m_equal_runs [s, l] [s', l'] = some (decide (∀ k, wd s l k = wd s' l' k)) := by
  unfold m_equal_runs
  have f0 : nth [s', l'] 0 = some s' := by rw [nth_ok (by decide) (by simp)]; rfl
  have f1 : nth [s', l'] 1 = some l' := by rw [nth_ok (by decide) (by simp)]; rfl
  have e0 : nth [s, l] 0 = some s := by rw [nth_ok (by decide) (by simp)]; rfl
  have e1 : nth [s, l] 1 = some l := by rw [nth_ok (by decide) (by simp)]; rfl
  have hb1 := h.l1; have hb2 := h'.l1; have hb3 := h.s1; have hb4 := h'.s1
  have hm : l.length * l'.length ≤ 1000 * 1000 := Nat.mul_le_mul hb1 hb2
  simp only [e0, e1, f0, f1, bsome]
  rw [mulI_r (by omega)]
  simp only [bsome]
  have em : (if (s'.length : Int) > (s.length : Int) then (s'.length : Int) else (s.length : Int)) + (l.length : Int) * (l'.length : Int) = ((max s.length s'.length + l.length * l'.length : Nat) : Int) := by
    rw [Int.natCast_add, Int.natCast_mul]; split <;> omega
  rw [em, range1_ok (by omega), bsome]
  rw [forBSearch (p := fun k => !decide (wd s l k.toNat = wd s' l' k.toNat)) (v := false) (fun k hk => ?_), bsome]
  · by_cases q : ∀ k, wd s l k = wd s' l' k
    · rw [decide_eq_true q, if_neg]
      · rfl
      · rw [List.any_eq_true]
        rintro ⟨k, _, hk⟩
        rw [decide_eq_true (q k.toNat)] at hk
        cases hk
    · rw [decide_eq_false q, if_pos]
      · rfl
      · refine Classical.byContradiction fun hn => q (wd_ext h.l0 h'.l0 fun k hk => ?_)
        refine Classical.byContradiction fun hc => hn ?_
        rw [List.any_eq_true]
        exact ⟨(k : Int), rangeI_mem.mpr (by omega), by rw [Int.toNat_natCast, decide_eq_false hc]; rfl⟩
  · have hk := rangeI_mem.mp hk
    obtain ⟨j, rfl⟩ : ∃ j : Nat, k = (j : Int) := ⟨k.toNat, by omega⟩
    unfold m_equal_runs_L1
    simp only [e0, e1, f0, f1, bsome]
    rw [at_ok h.l0, at_ok h'.l0]
    obtain ⟨x, ex, hx⟩ := wd_mem (s := s) (l := l) (k := j) h.l0
    obtain ⟨y, ey, hy⟩ := wd_mem (s := s') (l := l') (k := j) h'.l0
    have px : Pl 1 x := hx.elim (h.sp x) (h.lp x)
    have py : Pl 1 y := hy.elim (h'.sp y) (h'.lp y)
    rw [Int.toNat_natCast, ex, ey]
    simp only [bsome]
    rw [same_eq 1 63 y (by decide) (by decide) py 1 x (by decide) px]
    simp only [bsome, Option.some.injEq]
    split <;> rfl
theorem repL_nat {l : List D} {m : Nat} (h : l.length * m ≤ 1000000) (hm : m ≤ 1000000) : repL l (m : Int) = some (List.replicate m l).flatten := by
  have hz : l.length * (m : Int).toNat ≤ sizeLine := by rw [Int.toNat_natCast]; exact Nat.le_trans h (by decide)
  rw [repL_def, if_pos ⟨by omega, by omega, hz⟩, Int.toNat_natCast]
theorem cut_take {α : Type} {l : List α} {p : Nat} (h : p ≤ l.length) : cut l none (some (p : Int)) = l.take p := by
  unfold cut
  rw [HT.sIx_nat, HT.sIx_none, List.drop_zero, show min p l.length - 0 = p by omega]
theorem pl_rep {l : List D} {m : Nat} (h : ∀ d ∈ l, Pl 1 d) : ∀ d ∈ (List.replicate m l).flatten, Pl 1 d := fun d hd => by
  obtain ⟨r, h1, h2⟩ := List.mem_flatten.mp hd
  rw [List.mem_replicate] at h1
  rw [h1.2] at h2; exact h d h2
open Classical in
/-- the test of a period -/
theorem per_test {l : List D} (h0 : 0 < l.length) (h1 : l.length ≤ 1000) (hp : ∀ d ∈ l, Pl 1 d) {p : Nat} (p0 : 0 < p) (p1 : p ≤ l.length) (hd : l.length % p = 0) :
    ∃ r, ((fdivI (l.length : Int) (p : Int)).bind fun x => repL (cut l none (some (p : Int))) x) = some r ∧ eqD (eL eD r) (eL eD l) = some (decide (∀ k, lw l (k + p) = lw l k)) ∧ eqD (eL eD l) (eL eD r) = some (decide (∀ k, lw l (k + p) = lw l k)) := by
  have hq : l.length / p * p = l.length := by have := Nat.mod_add_div l.length p; rw [Nat.mul_comm] at this; omega
  have hq2 : l.length / p ≤ l.length := Nat.div_le_self _ _
  have ht : (l.take p).length = p := by rw [List.length_take]; omega
  have e : ((l.length : Int) / (p : Int)) = ((l.length / p : Nat) : Int) := rfl
  refine ⟨_, by rw [fdivI_ok (by omega), bsome, cut_take p1, e, repL_nat (by rw [ht, Nat.mul_comm, hq]; omega) (by omega)], ?_, ?_⟩
  · rw [eqD_pl (pl_list (by rw [rep_len, ht, hq]; omega) (pl_rep fun d hd => hp d (List.mem_of_mem_take hd))) (pl_list (by omega) hp) (by decide) (by decide)]
    congr 1
    rw [Bool.eq_iff_iff, decide_eq_true_eq, decide_eq_true_eq, eLD, eLD, D.lst.injEq, rep_iff p0 h0 p1 hd]
  · rw [eqD_pl (pl_list (by omega) hp) (pl_list (by rw [rep_len, ht, hq]; omega) (pl_rep fun d hd => hp d (List.mem_of_mem_take hd))) (by decide) (by decide)]
    congr 1
    rw [Bool.eq_iff_iff, decide_eq_true_eq, decide_eq_true_eq, eLD, eLD, D.lst.injEq, ← rep_iff p0 h0 p1 hd]
    exact ⟨Eq.symm, Eq.symm⟩

theorem rangeI3_get {a : Int} {n i : Nat} {x : Int} (h : (rangeI3 a (-1) n)[i]? = some x) : i < n ∧ x = a - i := by
  unfold rangeI3 at h
  rw [List.getElem?_map, Option.map_eq_some_iff] at h
  obtain ⟨k, h1, h2⟩ := h
  obtain ⟨h3, h4⟩ := List.getElem?_eq_some_iff.mp h1
  rw [List.length_range] at h3
  rw [List.getElem_range] at h4
  subst h4
  exact ⟨h3, by omega⟩
theorem rangeI3_len (a : Int) (n : Nat) : (rangeI3 a (-1) n).length = n := by unfold rangeI3; rw [List.length_map, List.length_range]
/-- a period that divides -/
def Gp (l : List D) (p : Nat) : Prop := 0 < p ∧ p ≤ l.length ∧ l.length % p = 0 ∧ ∀ k, lw l (k + p) = lw l k
theorem take_prim {l : List D} {p : Nat} (h0 : 0 < l.length) (g : Gp l p) (hm : ∀ q, Gp l q → p ≤ q) : Prim (l.take p) ∧ ∀ k, lw (l.take p) k = lw l k := by
  obtain ⟨g1, g2, g3, g4⟩ := g
  have ht : (l.take p).length = p := by rw [List.length_take]; omega
  have e := (rep_iff g1 h0 g2 g3).mpr g4
  have hm0 : 0 < l.length / p := Nat.div_pos g2 g1
  have el : ∀ k, lw (l.take p) k = lw l k := fun k => by
    conv => rhs; rw [← e]
    exact (rep_lw (by omega) hm0 k).symm
  refine ⟨⟨by omega, fun q q1 q2 q3 => Classical.byContradiction fun hn => ?_⟩, el⟩
  rw [ht] at q2 q3
  have := hm q ⟨q1, by omega, ?_, fun k => ?_⟩
  · omega
  · obtain ⟨u, hu⟩ := Nat.dvd_of_mod_eq_zero q3
    obtain ⟨v, hv⟩ := Nat.dvd_of_mod_eq_zero g3
    refine Nat.mod_eq_zero_of_dvd ⟨u * v, ?_⟩
    rw [hv, hu, Nat.mul_assoc]
  · rw [← el, ← el]
    exact Classical.byContradiction fun h => hn ⟨k, h⟩
open Classical in
theorem least_ok {l : List D} (h0 : 0 < l.length) (h1 : l.length ≤ 1000) (hp : ∀ d ∈ l, Pl 1 d) :
    Wl ((range3 ((l.length : Int) - 1) 0 (-1)).bind fun x631 => forA (fun x_1 t_2 => m_shortest_L1 l t_2 x_1) x631 (l.length : Int)) (fun t => ∃ p : Nat, t = (p : Int) ∧ Gp l p ∧ ∀ q, Gp l q → p ≤ q) := by
  rw [range3_neg (by omega) (by omega), bsome]
  refine Wl.mono (forANum (fun i (t : Int) => ∃ p : Nat, t = (p : Int) ∧ Gp l p ∧ ∀ q, Gp l q → l.length ≤ q + i → p ≤ q) ⟨l.length, rfl, ⟨h0, Nat.le_refl _, Nat.mod_self _, fun k => lw_per l k⟩, fun q _ h => h⟩ fun i x t hx ⟨p, ht, g, hm⟩ => ?_) fun t ⟨p, ht, g, hm⟩ => ⟨p, ht, g, fun q hq => hm q hq ?_⟩
  · obtain ⟨hi, ex⟩ := rangeI3_get hx
    obtain ⟨j, rfl⟩ : ∃ j : Nat, x = (j : Int) := ⟨x.toNat, by omega⟩
    unfold m_shortest_L1
    rw [modI_ok (by omega)]
    simp only [bsome]
    have e : ((l.length : Int) % (j : Int) = 0) ↔ l.length % j = 0 := by
      rw [show (l.length : Int) % (j : Int) = ((l.length % j : Nat) : Int) from rfl]; omega
    have no : ¬ Gp l j → ∃ p : Nat, t = (p : Int) ∧ Gp l p ∧ ∀ q, Gp l q → l.length ≤ q + (i + 1) → p ≤ q := fun hn => ⟨p, ht, g, fun q hq hl => by
      by_cases hqj : q = j
      · subst hqj; exact absurd hq hn
      · exact hm q hq (by omega)⟩
    by_cases hd : l.length % j = 0
    · rw [decide_eq_true (e.mpr hd), if_pos rfl]
      obtain ⟨r, r1, r2, _⟩ := per_test h0 h1 hp (p := j) (by omega) (by omega) hd
      rw [r1, bsome, r2, bsome]
      refine Wl.ite (fun hq => ?_) fun hq => ?_
      · rw [decide_eq_true_eq] at hq
        exact .pure ⟨j, rfl, ⟨by omega, by omega, hd, hq⟩, fun q _ hl => by omega⟩
      · rw [decide_eq_true_eq] at hq
        exact .pure (no fun h => hq h.2.2.2)
    · rw [decide_eq_false (fun h => hd (e.mp h)), if_neg (by simp), bsome, if_neg (by simp)]
      exact .pure (no fun h => hd h.2.2.1)
  · rw [rangeI3_len]
    have := hq.1
    omega
theorem last_cut {r : List D} {x : D} : cut (r ++ [x]) (some (-1)) none = [x] ∧ cut (r ++ [x]) none (some (-1)) = r ∧ nth (r ++ [x]) (-1) = some x := by
  have hl : (r ++ [x]).length = r.length + 1 := by simp
  have e : HT.sIx (r ++ [x]).length 0 (some (-1)) = r.length := by
    show (if (-1 : Int) < 0 then (-1 + ((r ++ [x]).length : Int)).toNat else min (-1 : Int).toNat (r ++ [x]).length) = _
    rw [if_pos (by decide), hl]; omega
  have e2 : HT.sIx (r ++ [x]).length (r ++ [x]).length (some (-1)) = r.length := by
    show (if (-1 : Int) < 0 then (-1 + ((r ++ [x]).length : Int)).toNat else min (-1 : Int).toNat (r ++ [x]).length) = _
    rw [if_pos (by decide), hl]; omega
  refine ⟨?_, ?_, ?_⟩
  · unfold cut
    rw [e, HT.sIx_none, hl, List.drop_left]
    exact List.take_of_length_le (by simp)
  · unfold cut
    rw [e2, HT.sIx_none, List.drop_zero, Nat.sub_zero, List.take_left]
  · rw [nth_def]
    unfold L2.atI ixN
    rw [if_neg (by decide), if_pos (by rw [hl]; omega)]
    show (r ++ [x])[((-1 : Int) + ((r ++ [x]).length : Int)).toNat]? = _
    have e3 : ((-1 : Int) + ((r ++ [x]).length : Int)).toNat = r.length := by rw [hl]; omega
    rw [e3, List.getElem?_append_right (Nat.le_refl _), Nat.sub_self]; rfl
theorem snoc_last {α : Type} {l : List α} (h : 0 < l.length) : ∃ x r, l = r ++ [x] := by
  have hne : l ≠ [] := by intro e; subst e; simp at h
  exact ⟨l.getLast hne, l.dropLast, (List.dropLast_concat_getLast hne).symm⟩
/-- the answer of shortest -/
structure Sho (s l : List D) (t : List D × List D) : Prop where
  lp : LP t.1 t.2
  prim : Prim t.2
  irr : Irr t.1 t.2
  run : ∀ k, wd t.1 t.2 k = wd s l k
  le1 : t.1.length ≤ s.length
  le2 : t.2.length ≤ l.length
open Classical in
theorem shortest_ok {s l : List D} (h : LP s l) : Wl (m_shortest s l) (Sho s l) := by
  unfold m_shortest
  simp only
  have hl := least_ok h.l0 h.l1 h.lp
  obtain ⟨t, ht, p, rfl, g, hm⟩ := hl
  obtain ⟨w, hw, ht⟩ := Option.bind_eq_some_iff.mp ht
  rw [hw, bsome, ht, bsome, cut_take g.2.1]
  obtain ⟨pr, el⟩ := take_prim h.l0 g hm
  have hp := g.2.1
  have hlen : (l.take p).length = p := by rw [List.length_take]; omega
  refine Wl.bind (whileAOk (P := fun t : List D × List D => Sho s l (t.2, t.1)) (fun t => Prim t.1 ∧ (∀ k, wd t.2 t.1 k = wd s l k) ∧ t.2.length ≤ s.length ∧ t.1.length = p ∧ (∀ d ∈ t.2, Pl 1 d) ∧ ∀ d ∈ t.1, Pl 1 d) (fun t => t.2.length) ⟨pr, fun k => ?_, Nat.le_refl _, hlen, h.sp, fun d hd => h.lp d (List.mem_of_mem_take hd)⟩ fun t ⟨i1, i2, i3, i4, i5, i6⟩ => ?_) fun t ht => .pure ht
  · unfold wd
    split
    · rfl
    · exact el _
  · obtain ⟨a, b⟩ := t
    simp only at i1 i2 i3 i4 i5 i6 ⊢
    have gp := g.1
    obtain ⟨x, r, rfl⟩ := snoc_last (l := a) (by omega)
    have s1 := h.s1; have l1 := h.l1
    have fin : Irr b (r ++ [x]) → Sho s l (b, r ++ [x]) := fun hi => ⟨⟨by show b.length ≤ 1000; omega, by rw [i4]; exact gp, by show (r ++ [x]).length ≤ 1000; omega, i5, i6⟩, i1, hi, i2, i3, by show (r ++ [x]).length ≤ _; omega⟩
    unfold m_shortest_L2c m_shortest_L2
    by_cases hb : b = []
    · subst hb
      exact .inl ⟨rfl, fin fun h => absurd rfl h⟩
    · obtain ⟨y, c, rfl⟩ := snoc_last (l := b) (List.length_pos_iff.mpr hb)
      obtain ⟨c1, c2, c3⟩ := last_cut (r := r) (x := x)
      obtain ⟨d1, d2, d3⟩ := last_cut (r := c) (x := y)
      rw [if_pos (by simp), c3, d3, c1, c2]
      simp only [bsome]
      have px : Pl 1 x := i6 x (by simp)
      have py : Pl 1 y := i5 y (by simp)
      rw [show eqD (eD y) (eD x) = _ from eqD_pl py px (by decide) (by decide)]
      by_cases hxy : y = x
      · subst hxy
        refine .inr ⟨by simp, ?_⟩
        rw [lim_ok (by simp at i4 ⊢; omega), bsome, dropL_def]
        rw [if_neg (by simp), bsome, List.dropLast_concat]
        refine .pure ⟨⟨rot_prim i1, fun k => ?_, by simp at i3; show c.length ≤ _; omega, by simp at i4 ⊢; omega, fun d hd => i5 d (by simp [hd]), fun d hd => i6 d ?_⟩, by simp⟩
        · show wd c (y :: r) k = _
          rw [rot_wd, i2]
        · simp only [List.singleton_append, List.mem_cons] at hd
          simp only [List.mem_append, List.mem_singleton]
          exact hd.symm
      · refine .inl ⟨by rw [decide_eq_false (show ¬ eD y = eD x from hxy)], fin fun _ => ?_⟩
        rw [List.getLast?_append, List.getLast?_append, List.getLast?_singleton, List.getLast?_singleton]
        exact fun e => hxy (Option.some.inj e)

theorem nth2 {α : Type} (a b : α) : nth [a, b] 0 = some a ∧ nth [a, b] 1 = some b := ⟨by rw [nth_ok (by decide) (by simp)]; rfl, by rw [nth_ok (by decide) (by simp)]; rfl⟩
/-- the loop turned by c -/
def rotn (l : List D) (c : Nat) : List D := l.drop (c % l.length) ++ l.take (c % l.length)
theorem rotn_len {l : List D} (h0 : 0 < l.length) (c : Nat) : (rotn l c).length = l.length := by
  have tm := Nat.mod_lt c h0
  unfold rotn
  rw [List.length_append, List.length_drop, List.length_take]; omega
theorem rotn_lw {l : List D} (h0 : 0 < l.length) (c k : Nat) : lw (rotn l c) k = lw l (c + k) := by
  have tm := Nat.mod_lt c h0
  have hlen := rotn_len h0 c
  unfold lw
  rw [hlen]
  have hk := Nat.mod_lt k h0
  rw [Nat.add_mod c k]
  unfold rotn
  by_cases h1 : c % l.length + k % l.length < l.length
  · rw [Nat.mod_eq_of_lt h1, List.getElem?_append_left (by rw [List.length_drop]; omega), List.getElem?_drop]
  · have h2 : (c % l.length + k % l.length) % l.length = c % l.length + k % l.length - l.length := by
      rw [Nat.mod_eq_sub_mod (by omega), Nat.mod_eq_of_lt (by omega)]
    rw [h2, List.getElem?_append_right (by rw [List.length_drop]; omega), List.length_drop, List.getElem?_take_of_lt (by omega)]
    congr 1; omega
theorem rotn_mem {l : List D} {c : Nat} : ∀ d ∈ rotn l c, d ∈ l := fun d hd => by
  rcases List.mem_append.mp hd with hd | hd
  · exact List.mem_of_mem_drop hd
  · exact List.mem_of_mem_take hd
theorem longer_ok {s l : List D} (h : LP s l) (hs : s.length ≤ 100) (hl : l.length ≤ 100) {c m : Nat} (hc : c ≤ 1001) (hm : m ≤ 3) : Wl (m_longer s l (c : Int) (m : Int)) (fun r => ∃ e, r = [s ++ e, (List.replicate m (rotn l c)).flatten] ∧ e.length = c ∧ ∀ k, k < c → e[k]? = lw l k) := by
  unfold m_longer
  have h0 := h.l0
  rw [modI_ok (by omega), bsome]
  simp only [Option.bind_assoc, bsome]
  rw [range1_ok (by omega), bsome]
  refine Wl.bind (mapOOk (fun z x => ∀ k : Nat, z = (k : Int) → wd s l (s.length + k) = some x) fun z hz => ?_) fun e ⟨e1, e2⟩ => ?_
  · have hz := rangeI_mem.mp hz
    obtain ⟨k, rfl⟩ : ∃ k : Nat, z = (k : Int) := ⟨z.toNat, by omega⟩
    rw [← Int.natCast_add, at_ok h0]
    obtain ⟨x, ex, _⟩ := wd_mem (s := s) (l := l) (k := s.length + k) h0
    exact ⟨x, ex, fun k' hk' => by obtain rfl : k = k' := by omega
                                   exact ex⟩
  rw [rangeI_len] at e1
  have e3 : ∀ k, k < c → e[k]? = lw l k := fun k hk => by
    have a1 : k < (rangeI 0 (c : Int)).length := by rw [rangeI_len]; omega
    have a2 : k < e.length := by omega
    rw [List.getElem?_eq_getElem a2]
    have := (e2 k _ _ (List.getElem?_eq_getElem a1) (List.getElem?_eq_getElem a2) k (by rw [rangeI_get]; omega)).symm
    rw [this]
    unfold wd
    rw [if_neg (by omega)]
    congr 1; omega
  have tm := Nat.mod_lt c h0
  have et : ((c : Int) % (l.length : Int)) = ((c % l.length : Nat) : Int) := rfl
  rw [lim_ok (by omega), bsome, lim_ok (by rw [List.length_append]; omega), bsome, et, cut_take (by omega), cut_drop (by omega) (by omega), Int.toNat_natCast]
  have hlen := rotn_len h0 c
  have hmul : l.length * m ≤ 100 * 3 := Nat.mul_le_mul hl hm
  rw [show l.drop (c % l.length) ++ l.take (c % l.length) = rotn l c from rfl, lim_ok (by rw [hlen]; omega), bsome, repL_nat (by rw [hlen]; omega) (by omega), bsome]
  exact .pure ⟨e, rfl, by omega, e3⟩
theorem unrolled_ok {s l : List D} (h : LP s l) (hs : s.length ≤ 100) (hl : l.length ≤ 100) {c : Nat} (hc : c ≤ 1001) : Wl (m_unrolled s l (c : Int)) (fun r => ∃ e, r = (s ++ e, rotn l c) ∧ e.length = c ∧ ∀ k, k < c → e[k]? = lw l k) := by
  unfold m_unrolled
  have h0 := h.l0
  rw [modI_ok (by omega), bsome]
  simp only [Option.bind_assoc, bsome]
  rw [range1_ok (by omega), bsome]
  refine Wl.bind (mapOOk (fun z x => ∀ k : Nat, z = (k : Int) → lw l k = some x) fun z hz => ?_) fun e ⟨e1, e2⟩ => ?_
  · have hz := rangeI_mem.mp hz
    obtain ⟨k, rfl⟩ : ∃ k : Nat, z = (k : Int) := ⟨z.toNat, by omega⟩
    rw [modI_ok (by omega), bsome]
    have hm := Nat.mod_lt k h0
    have e : ((k : Int) % (l.length : Int)) = ((k % l.length : Nat) : Int) := rfl
    rw [e, nth_nat hm]
    exact ⟨_, rfl, fun k' hk' => by
      obtain rfl : k = k' := by omega
      unfold lw
      rw [List.getElem?_eq_getElem hm]⟩
  rw [rangeI_len] at e1
  have e3 : ∀ k, k < c → e[k]? = lw l k := fun k hk => by
    have a1 : k < (rangeI 0 (c : Int)).length := by rw [rangeI_len]; omega
    have a2 : k < e.length := by omega
    rw [List.getElem?_eq_getElem a2]
    exact (e2 k _ _ (List.getElem?_eq_getElem a1) (List.getElem?_eq_getElem a2) k (by rw [rangeI_get]; omega)).symm
  have tm := Nat.mod_lt c h0
  have et : ((c : Int) % (l.length : Int)) = ((c % l.length : Nat) : Int) := rfl
  rw [lim_ok (by omega), bsome, lim_ok (by rw [List.length_append]; omega), bsome, et, cut_take (by omega), cut_drop (by omega) (by omega), Int.toNat_natCast]
  have hlen := rotn_len h0 c
  rw [show l.drop (c % l.length) ++ l.take (c % l.length) = rotn l c from rfl, lim_ok (by rw [hlen]; omega), bsome]
  exact .pure ⟨e, rfl, by omega, e3⟩
theorem ext_same {c : Nat} {l e e' : List D} (h1 : e.length = c) (h2 : e'.length = c) (h3 : ∀ k, k < c → e[k]? = lw l k) (h4 : ∀ k, k < c → e'[k]? = lw l k) : e = e' := by
  refine List.ext_getElem? fun k => ?_
  by_cases hk : k < c
  · rw [h3 k hk, h4 k hk]
  · rw [List.getElem?_eq_none (by omega), List.getElem?_eq_none (by omega)]
theorem ext_pl {c : Nat} {s l e : List D} (h : LP s l) (h1 : e.length = c) (h3 : ∀ k, k < c → e[k]? = lw l k) : ∀ d ∈ e, Pl 1 d := fun d hd => by
  obtain ⟨k, hk, rfl⟩ := List.getElem_of_mem hd
  have := h3 k (by omega)
  rw [List.getElem?_eq_getElem hk] at this
  unfold lw at this
  exact h.lp _ (List.mem_of_getElem? this.symm)
open Classical in
theorem longer_lp {s l e : List D} {c m : Nat} (h : LP s l) (hs : s.length ≤ 100) (hl : l.length ≤ 100) (hc : c ≤ 12) (hm0 : 0 < m) (hm : m ≤ 3) (h1 : e.length = c) (h3 : ∀ k, k < c → e[k]? = lw l k) : LP (s ++ e) ((List.replicate m (rotn l c)).flatten) := by
  have hlen := rotn_len h.l0 c
  have hmul : m * l.length ≤ 3 * 100 := Nat.mul_le_mul hm hl
  refine ⟨by rw [List.length_append]; omega, by rw [rep_len, hlen]; exact Nat.mul_pos hm0 h.l0, by rw [rep_len, hlen]; omega, fun d hd => ?_, pl_rep fun d hd => h.lp d (rotn_mem d hd)⟩
  rcases List.mem_append.mp hd with hd | hd
  · exact h.sp d hd
  · exact ext_pl h h1 h3 d hd
theorem eT2_inj {x y : List D × List D} (h : eT2 (eL eD) (eL eD) x = eT2 (eL eD) (eL eD) y) : x = y := by
  obtain ⟨a, b⟩ := x
  obtain ⟨c, d⟩ := y
  unfold eT2 at h
  simp only [eLD, D.tup.injEq, List.cons.injEq, D.lst.injEq, and_true] at h
  rw [h.1, h.2]
/-- two shortest forms are equal just when the runs are -/
theorem sho_iff {s l s' l' : List D} {t t' : List D × List D} (h : Sho s l t) (h' : Sho s' l' t') : eT2 (eL eD) (eL eD) t = eT2 (eL eD) (eL eD) t' ↔ ∀ k, wd s l k = wd s' l' k := by
  constructor
  · intro e k
    have := eT2_inj e
    subst this
    rw [← h.run, ← h'.run]
  · intro e
    have := short_uniq h.prim h'.prim h.irr h'.irr fun k => by rw [h.run, h'.run, e]
    obtain ⟨a, b⟩ := t
    obtain ⟨c, d⟩ := t'
    simp only at this
    rw [this.1, this.2]
theorem pl_pairS {s l : List D} (h1 : s.length < 100000) (h2 : l.length < 100000) (h3 : ∀ d ∈ s, Pl 1 d) (h4 : ∀ d ∈ l, Pl 1 d) : Pl 3 (eT2 (eL eD) (eL eD) (s, l)) := .tup (by simp) fun d hd => by
  simp only [List.mem_cons, List.not_mem_nil, or_false] at hd
  rcases hd with rfl | rfl
  · exact pl_list h1 h3
  · exact pl_list h2 h4
theorem pl_pair {s l : List D} (h : LP s l) : Pl 3 (eT2 (eL eD) (eL eD) (s, l)) := by
  have h1 := h.s1; have h2 := h.l1
  exact pl_pairS (by omega) (by omega) h.sp h.lp
theorem pl_pairL {s l : List D} (h : LP s l) : Pl 3 (eL (eL eD) [s, l]) := .lst (by simp) fun d hd => by
  have h1 := h.s1; have h2 := h.l1
  simp only [List.map_cons, List.map_nil, List.mem_cons, List.not_mem_nil, or_false] at hd
  rcases hd with rfl | rfl
  · exact pl_list (by omega) h.sp
  · exact pl_list (by omega) h.lp
theorem pl_pairs {s l s' l' : List D} (h : LP s l) (h' : LP s' l') : Pl 4 (eL (eT2 (eL eD) (eL eD)) [(s, l), (s', l')]) := .lst (by simp) fun d hd => by
  simp only [List.map_cons, List.map_nil, List.mem_cons, List.not_mem_nil, or_false] at hd
  rcases hd with rfl | rfl
  · exact pl_pair h
  · exact pl_pair h'
open Classical in
theorem same_run_ok {s l s' l' : List D} (h : LP s l) (h' : LP s' l') : m_same_run (s, l) (s', l') = some (decide (∀ k, wd s l k = wd s' l' k)) := by
  unfold m_same_run
  obtain ⟨t, e, ht⟩ := shortest_ok h
  obtain ⟨t', e', ht'⟩ := shortest_ok h'
  simp only [e, e', bsome]
  have pp : ∀ {s l t}, Sho s l t → Pl 3 (eT2 (eL eD) (eL eD) t) := fun {s l t} q => by
    obtain ⟨x, y⟩ := t
    exact pl_pair q.lp
  rw [eqD_pl (pp ht) (pp ht') (by decide) (by decide)]
  simp only [bsome]
  congr 1
  rw [Bool.eq_iff_iff, decide_eq_true_eq, decide_eq_true_eq]
  exact sho_iff ht ht'
open Classical in
theorem law_L2_ok {s l s' l' : List D} (h : LP s l) (h' : LP s' l') : m_law_L2 [s, l] [s', l'] = some (.go ()) := by
  unfold m_law_L2
  obtain ⟨n0, n1⟩ := nth2 s l
  obtain ⟨a0, a1⟩ := nth2 s' l'
  obtain ⟨p0, p1⟩ := nth2 (s, l) (s', l')
  simp only [n0, n1, a0, a1, bsome, p0, p1]
  rw [same_run_ok h h', runs_ok h h']
  simp only [bsome, Bool.not_true, Bool.false_eq_true, if_false]
  rw [same_eq 4 63 _ (by decide) (by decide) (pl_pairs h h') 4 _ (by decide) (pl_pairs h h'), decide_eq_true rfl]
  simp
open Classical in
theorem law_L1_ok {ls : List (List (List D))} (h : ∀ x ∈ ls, ∃ s l, x = [s, l] ∧ LP s l) {one : List (List D)} (h1 : one ∈ ls) : m_law_L1 ls one = some (.go ()) := by
  unfold m_law_L1
  have : forB (fun x t => m_law_L2 one x) ls () = some (.go ()) := by
    obtain ⟨s, l, rfl, lp⟩ := h one h1
    refine forBGo fun x hx => ?_
    obtain ⟨s', l', rfl, lp'⟩ := h x hx
    exact law_L2_ok lp lp'
  rw [this]; rfl
theorem spans_ok' (c : Int) : Wl (m_spans c) (fun sp => ∃ a b, sp = [a, b] ∧ (0 ≤ a ∧ a ≤ 24) ∧ 1 ≤ b ∧ b ≤ 16) := by
  unfold m_spans
  exact Wl.ite (fun _ => .pure ⟨_, _, rfl, by omega, by omega⟩) fun _ => .pure ⟨_, _, rfl, by omega, by omega⟩
theorem spoilt_ok {s l : List D} (lp2 : LP s l) (c : Int) {x : D} (px : Pl 1 x) : Wl (m_spoilt [s, l] c x) (fun u => ∃ s' l', u.2 = [s', l'] ∧ LP s' l') := by
  unfold m_spoilt
  simp only [(nth2 s l).1, (nth2 s l).2, bsome]
  have h0 := lp2.l0
  refine Wl.bind (P := fun r => ∃ S3 L3, r = [S3, L3] ∧ LP S3 L3) (Wl.ite (fun _ => ?_) fun _ => .pure ⟨s, l, rfl, lp2⟩) fun r ⟨S3, L3, e, lp3⟩ => .pure ⟨S3, L3, e, lp3⟩
  rw [modI_ok (by omega), bsome]
  have hm := emod_rng (c / 2) (show (0 : Int) < (s.length : Int) + (l.length : Int) by omega)
  have set_mem : ∀ {l : List D} {i : Nat}, (∀ d ∈ l, Pl 1 d) → ∀ d ∈ l.set i x, Pl 1 d := fun h d hd => (List.mem_or_eq_of_mem_set hd).elim (h d) fun e => e ▸ px
  refine Wl.ite (fun hlt => ?_) fun hlt => ?_
  · rw [decide_eq_true_eq] at hlt
    rw [putL_ok hm.1 hlt, bsome, putL_ok (by decide) (by simp), bsome]
    exact .pure ⟨_, _, rfl, ⟨by rw [List.length_set]; exact lp2.s1, lp2.l0, lp2.l1, set_mem lp2.sp, lp2.lp⟩⟩
  · rw [decide_eq_true_eq] at hlt
    rw [putL_ok (by omega) (by omega), bsome, putL_ok (by decide) (by simp), bsome]
    exact .pure ⟨_, _, rfl, ⟨lp2.s1, by rw [List.length_set]; exact lp2.l0, by rw [List.length_set]; exact lp2.l1, lp2.sp, set_mem lp2.lp⟩⟩
open Classical in
theorem law_ok (s : List Int) : m_law s = some true := by
  apply Wl.eq
  unfold m_law
  simp only [Option.bind_assoc, bsome]
  refine (cell_ok s (by decide)).bind fun c2 _ => ?_
  refine (spans_ok' c2).bind fun sp ⟨a, b, e, ha, hb⟩ => ?_
  subst e
  refine (items_ok s (by decide) (by omega) (by omega)).bind fun it ⟨i1, i2⟩ => ?_
  obtain ⟨a, rfl⟩ : ∃ n : Nat, a = (n : Int) := ⟨a.toNat, by omega⟩
  simp only [(nth2 (a : Int) b).1, (nth2 (a : Int) b).2, bsome]
  rw [cut_take (by omega), cut_drop (by omega) (by omega), Int.toNat_natCast]
  have lp1 : LP (it.take a) (it.drop a) := ⟨by rw [List.length_take]; omega, by rw [List.length_drop]; omega, by rw [List.length_drop]; omega, fun d hd => i2 d (List.mem_of_mem_take hd), fun d hd => i2 d (List.mem_of_mem_drop hd)⟩
  have len1 : (it.take a).length ≤ 100 := by rw [List.length_take]; omega
  have len2 : (it.drop a).length ≤ 100 := by rw [List.length_drop]; omega
  generalize it.take a = S at *
  generalize it.drop a = L at *
  refine (cell_ok s (by decide)).bind fun c4 _ => ?_
  refine (cell_ok s (by decide)).bind fun c4' _ => ?_
  obtain ⟨c, hc⟩ : ∃ n : Nat, c4 / 4 % 12 = (n : Int) := ⟨(c4 / 4 % 12).toNat, by omega⟩
  obtain ⟨m, hm⟩ : ∃ n : Nat, 1 + c4' / 48 % 3 = (n : Int) := ⟨(1 + c4' / 48 % 3).toNat, by omega⟩
  rw [hc, hm]
  refine (longer_ok lp1 len1 len2 (show c ≤ 1001 by omega) (show m ≤ 3 by omega)).bind fun r ⟨e, er, e1, e2⟩ => ?_
  subst er
  have lp2 := longer_lp lp1 len1 len2 (show c ≤ 12 by omega) (show 0 < m by omega) (by omega) e1 e2
  generalize S ++ e = S2 at *
  generalize (List.replicate m (rotn L c)).flatten = L2 at *
  refine (cell_ok s (by decide)).bind fun c4'' _ => ?_
  refine Wl.bind (P := fun d : Int => 0 ≤ d ∧ d ≤ 1000) (Wl.ite (fun _ => (cell_ok s (by decide)).bind fun c5 _ => .pure (by omega)) fun _ => .pure (by omega)) fun d hd => ?_
  obtain ⟨d, rfl⟩ : ∃ n : Nat, d = (n : Int) := ⟨d.toNat, by omega⟩
  simp only [(nth2 S L).1, (nth2 S L).2, bsome]
  refine (unrolled_ok lp1 len1 len2 (show d ≤ 1001 by omega)).bind fun t ⟨f, et, f1, f2⟩ => ?_
  subst et
  refine (longer_ok lp1 len1 len2 (show d ≤ 1001 by omega) (show 1 ≤ 3 by decide)).bind fun r ⟨g, er, g1, g2⟩ => ?_
  subst er
  have efg := ext_same f1 g1 f2 g2
  subst efg
  have e1r : (List.replicate 1 (rotn L d)).flatten = rotn L d := by simp
  rw [e1r]
  simp only [(nth2 (S ++ f) (rotn L d)).1, (nth2 (S ++ f) (rotn L d)).2, bsome]
  have plt : Pl 3 (eT2 (eL eD) (eL eD) (S ++ f, rotn L d)) := pl_pairS (by rw [List.length_append]; omega) (by rw [rotn_len lp1.l0]; omega) (fun x hx => (List.mem_append.mp hx).elim (lp1.sp x) (ext_pl lp1 f1 f2 x)) fun x hx => lp1.lp x (rotn_mem x hx)
  rw [same_eq 3 63 _ (by decide) (by decide) plt 3 _ (by decide) plt, decide_eq_true rfl, same_eq 3 63 _ (by decide) (by decide) (pl_pairL lp1) 3 _ (by decide) (pl_pairL lp1), decide_eq_true rfl]
  simp only [bsome, Bool.not_true, Bool.false_eq_true, if_false]
  have hL := lp1.l0
  rw [nth_ok (by decide) (by omega), bsome, push_ok' _ (by rw [rotn_len lp1.l0]; omega), bsome]
  refine (items_ok s (by decide) (show (0 : Int) ≤ b ∧ b ≤ 40 by omega) (show (1 : Int) ≤ (a : Int) + 1 ∧ (a : Int) + 1 ≤ 40 by omega)).bind fun ot ⟨j1, j2⟩ => ?_
  refine (cell_ok s (by decide)).bind fun c8 _ => ?_
  refine (nthOk (by decide) (by omega)).bind fun x hx => ?_
  refine (spoilt_ok lp2 c8 (j2 x hx)).bind fun u ⟨S3, L3, eu, lp3⟩ => ?_
  obtain ⟨b, rfl⟩ : ∃ n : Nat, b = (n : Int) := ⟨b.toNat, by omega⟩
  rw [eu, cut_take (by omega), cut_drop (by omega) (by omega), Int.toNat_natCast]
  have lp4 : LP (ot.take b) (ot.drop b) := ⟨by rw [List.length_take]; omega, by rw [List.length_drop]; omega, by rw [List.length_drop]; omega, fun d hd => j2 d (List.mem_of_mem_take hd), fun d hd => j2 d (List.mem_of_mem_drop hd)⟩
  have hall : ∀ x ∈ [[S, L], [S3, L3], [ot.take b, ot.drop b]], ∃ s l, x = [s, l] ∧ LP s l := fun x hx => by
    simp only [List.mem_cons, List.not_mem_nil, or_false] at hx
    rcases hx with rfl | rfl | rfl
    · exact ⟨_, _, rfl, lp1⟩
    · exact ⟨_, _, rfl, lp3⟩
    · exact ⟨_, _, rfl, lp4⟩
  have hf : forB (fun x_1 t_3 => m_law_L1 [[S, L], [S3, L3], [ot.take b, ot.drop b]] x_1) [[S, L], [S3, L3], [ot.take b, ot.drop b]] () = some (.go ()) := forBGo fun x hx => law_L1_ok hall hx
  rw [hf, bsome]
  exact .pure rfl

theorem says (ns : List Int) (hl : ns.length ≤ 63) : ∃ outs, callN WL0 con prog 67 13 [.fz (.scr ns)] = some (.fz (.bl true), outs) := says_of (ok13 67 (by decide) ns true (law_ok ns))
end VS.T
open PySem PySem.W PyProof.Rows in
set_option maxRecDepth 100000 in
set_option maxHeartbeats 0 in
theorem PySem.Challenge.cw_lassoproof_k21_unrolled_and_same_run_holds : PySem.Challenge.rw_lassoproof_k21_unrolled_and_same_run.Holds := by
  w_on; o_law; k_head; (case hw => w_witness2)
  k_fill
  refine L2.walk_of (l := PySem.Challenge.rw_lassoproof_k21_unrolled_and_same_run) (n := 63) (k := 67) (x := "_law_script") (CX := fun _ => L2.CX0) (sp := fun w => VS.spLaw _ VS.WL0 VS.T.con VS.T.prog 67 13) rfl (by decide) rfl ⟨rfl, by decide, by decide⟩ (fun w h Y => PySem.W.kIn_of Y) ?F (fun _ _ a ns hl hO hS => VS.law_says' rfl (VS.T.says ns hl) hO hS) (fun _ _ _ _ _ h => h)
  case F =>
    intro w mg fa h KX G hmg
    refine' VS.T.all_mk KX G hmg ?a0 ?l0 ?c0 ?k0 ?a1 ?l1 ?c1 ?k1 ?a2 ?l2 ?c2 ?k2 ?a3 ?l3 ?c3 ?k3 ?a4 ?l4 ?c4 ?k4 ?a5 ?l5 ?c5 ?k5 ?a6 ?l6 ?c6 ?k6 ?a7 ?l7 ?c7 ?k7 ?a8 ?l8 ?c8 ?k8 ?a9 ?l9 ?c9 ?k9 ?a10 ?l10 ?c10 ?k10 ?a11 ?l11 ?c11 ?k11 ?a12 ?l12 ?c12 ?k12 ?a13 ?l13 ?c13 ?k13  ?z0 ?z1 ?z2 ?z3 ?z4 ?z5 ?z6 ?z7 ?z8 ?z9 ?z10 ?z11 ?z12 ?z13 ?z14 ?z15 ?z16 ?z17
    (case a0 => k_is); (case l0 => k_is); (case c0 => k_is); (case k0 => k_is)
    (case a1 => k_is); (case l1 => k_is); (case c1 => k_is); (case k1 => k_is)
    (case a2 => k_is); (case l2 => k_is); (case c2 => k_is); (case k2 => k_is)
    (case a3 => k_is); (case l3 => k_is); (case c3 => k_is); (case k3 => k_is)
    (case a4 => k_is); (case l4 => k_is); (case c4 => k_is); (case k4 => k_is)
    (case a5 => k_is); (case l5 => k_is); (case c5 => k_is); (case k5 => k_is)
    (case a6 => k_is); (case l6 => k_is); (case c6 => k_is); (case k6 => k_is)
    (case a7 => k_is); (case l7 => k_is); (case c7 => k_is); (case k7 => k_is)
    (case a8 => k_is); (case l8 => k_is); (case c8 => k_is); (case k8 => k_is)
    (case a9 => k_is); (case l9 => k_is); (case c9 => k_is); (case k9 => k_is)
    (case a10 => k_is); (case l10 => k_is); (case c10 => k_is); (case k10 => k_is)
    (case a11 => k_is); (case l11 => k_is); (case c11 => k_is); (case k11 => k_is)
    (case a12 => k_is); (case l12 => k_is); (case c12 => k_is); (case k12 => k_is)
    (case a13 => k_is); (case l13 => k_is); (case c13 => k_is); (case k13 => k_is)
    (case z0 => k_is); (case z1 => k_is); (case z2 => k_is); (case z3 => k_is); (case z4 => k_is); (case z5 => k_is); (case z6 => k_is); (case z7 => k_is); (case z8 => k_is); (case z9 => k_is); (case z10 => k_is); (case z11 => k_is); (case z12 => k_is); (case z13 => k_is); (case z14 => k_is); (case z15 => k_is); (case z16 => k_is); (case z17 => k_is)

